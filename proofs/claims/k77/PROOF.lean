import PyProof.Rows.All
import Wide.All
import OpenK.AllK
import Wide.FinOn
import HandS.ForMost
import HandS.IsInst
import HandS.Wide
import HandS.Zip
import HandS.Rev
import HandS.Walk
import HandS.Conv
import HandS.More
import HandS.TupAny
import HandS.Deep
import HandS.Style
import HandS.SortKw
import KE.KTupSum
import HandS.Defaults
import HandS.RevRange
import KE.GoesEnum
import HandS.Star
import HandS.ExcCtx
import HandS.HeadHook2
import PyProof.WalkInts
import KE.KMinKey
import HandS.Property
import HandS.Exc
import HandS.ExcOwn
import HandS.WordsExc
import KE.KExcIs
import HandS.HotCalls
import HandS.ExcInitHot
import PyProof.InstNe
import HandS.OwnEq
import HandS.TupSets
import KE.Datum
import KE.KStateDown
import Lean
import HandS.Head0
import HandS.Head1
import HandS.Head2
import HandS.HeadEnd
import HandS.HeadHook1
import PySem.Challenge.RW_tillsorder_k77_never_dearer_both_ways
set_option Elab.async false
set_option linter.all false
set_option maxRecDepth 100000
set_option maxHeartbeats 8000000
/-! D-level: values without a heap, and what a reading of the hand layer does to them. By an AI agent. -/
namespace DL
open PySem PySem.Spec PyProof.Rows L2

/-- data: what a frozen value is worth -/
inductive D where
  | non | bl (b : Bool) | int (i : Int) | str (x : Str)
  | tup (xs : List D) | lst (xs : List D) | ins (c : Str) (fs : List (Str × D)) | scr (xs : List D)
  | dT (kvs : List (List Key × D)) | dK (kvs : List (Key × D))
  | exc (c : Str) (fs : List (Str × D)) (d : Option Addr) (a : Addr)
/-- what an owned object holds -/
inductive O where
  | lst (xs : List D) | ins (c : Str) (fs : List (Str × D)) | dT (kvs : List (List Key × D)) | dK (kvs : List (Key × D))
def O.toD : O → D
  | .lst xs => .lst xs
  | .ins c fs => .ins c fs
  | .dT kvs => .dT kvs
  | .dK kvs => .dK kvs
/-- a slot: empty; frozen data; an owned object (fixed: a parameter that the caller lends) -/
inductive Sl where
  | no | fr (d : D) | ow (fixed : Bool) (o : O)
abbrev DEnv := List Sl

section
variable (K : PySem.W.Frag) (mg : Str → Option Value) (F : Hp)
mutual
inductive Rep : D → V → Prop
  | non : Rep .non .non
  | bl (b : Bool) : Rep (.bl b) (.bl b)
  | int (i : Int) : Rep (.int i) (.int i)
  | str (x : Str) : Rep (.str x) (.str x)
  | tup {a : Addr} {xs : List D} {vs : List V} : F a = some (.tup vs) → RepL xs vs → Rep (.tup xs) (.ref a)
  | lst {a : Addr} {xs : List D} {vs : List V} : F a = some (.lst vs) → RepL xs vs → Rep (.lst xs) (.ref a)
  | scr {a : Addr} {xs : List D} {vs : List V} : SqL K F a vs → RepL xs vs → Rep (.scr xs) (.ref a)
  | ins {a C dx : Addr} {c : Str} {fs : List (Str × D)} {gs : List (Str × V)} : mg c = some (.ref C) → F a = some (.ins C dx gs) → RepF fs gs → Rep (.ins c fs) (.ref a)
  | dT {a : Addr} {kvs : List (List Key × D)} {kws : List (List Key × V)} : F a = some (.dT kws) → RepT kvs kws → Rep (.dT kvs) (.ref a)
  | dK {a : Addr} {kvs : List (Key × D)} {kws : List (Key × V)} : F a = some (.dK kws) → RepK kvs kws → Rep (.dK kvs) (.ref a)
  | exc0 {c : Str} {a : Addr} : Rep (.exc c [] none a) (.ref a)
  | exc {c : Str} {fs : List (Str × D)} {gs : List (Str × V)} {d a : Addr} : F d = some (.xd gs) → RepF fs gs → Rep (.exc c fs (some d) a) (.ref a)
inductive RepL : List D → List V → Prop
  | nil : RepL [] []
  | cons {d : D} {v : V} {ds : List D} {vs : List V} : Rep d v → RepL ds vs → RepL (d :: ds) (v :: vs)
inductive RepF : List (Str × D) → List (Str × V) → Prop
  | nil : RepF [] []
  | cons {f : Str} {d : D} {v : V} {ds : List (Str × D)} {vs : List (Str × V)} : Rep d v → RepF ds vs → RepF ((f, d) :: ds) ((f, v) :: vs)
inductive RepT : List (List Key × D) → List (List Key × V) → Prop
  | nil : RepT [] []
  | cons {f : List Key} {d : D} {v : V} {ds : List (List Key × D)} {vs : List (List Key × V)} : Rep d v → RepT ds vs → RepT ((f, d) :: ds) ((f, v) :: vs)
inductive RepK : List (Key × D) → List (Key × V) → Prop
  | nil : RepK [] []
  | cons {f : Key} {d : D} {v : V} {ds : List (Key × D)} {vs : List (Key × V)} : Rep d v → RepK ds vs → RepK ((f, d) :: ds) ((f, v) :: vs)
end
end
theorem same_rd {H H' : Hp} {a : Addr} {u : HO} (e : Same H H') (h : Rd H a u) : Rd H' a u := by
  rcases h with h | ⟨o, h⟩
  · exact .inl (e a _ h)
  · exact .inr ⟨o, e a _ h⟩
theorem same_l {K : PySem.W.Frag} {H H' : Hp} {a : Addr} {xs : List V} (e : Same H H') (h : SqL K H a xs) : SqL K H' a xs := h.imp (same_rd e) id
theorem same_t {K : PySem.W.Frag} {H H' : Hp} {a : Addr} {xs : List V} (e : Same H H') (h : SqT K H a xs) : SqT K H' a xs := h.imp (same_rd e) id
theorem same_new {H : Hp} {p : Addr} {o : HO} (h : H p = none) : Same H (upd H p o) := fun a u e => by
  rw [upd_ne (ne_of_none e h)]
  exact e
theorem same_upd {H H' : Hp} {p : Addr} {o : HO} (e : Same H H') (h : H p = none) : Same H (upd H' p o) := fun a u ha => by
  rw [upd_ne (ne_of_none ha h)]
  exact e a u ha
theorem same_both {H H' : Hp} {p : Addr} {o : HO} (e : Same H H') : Same (upd H p o) (upd H' p o) := fun a u ha => by
  by_cases q : a = p
  · subst q
    rw [upd_same] at ha ⊢
    exact ha
  · rw [upd_ne q] at ha ⊢
    exact e a u ha
section
variable {K : PySem.W.Frag} {mg : Str → Option Value} {F F' : Hp}
mutual
theorem Rep.mono (e : Same F F') : ∀ {d : D} {v : V}, Rep K mg F d v → Rep K mg F' d v
  | _, _, .non => .non
  | _, _, .bl b => .bl b
  | _, _, .int i => .int i
  | _, _, .str x => .str x
  | _, _, .tup h l => .tup (e _ _ h) (RepL.mono e l)
  | _, _, .lst h l => .lst (e _ _ h) (RepL.mono e l)
  | _, _, .scr h l => .scr (same_l e h) (RepL.mono e l)
  | _, _, .ins m h l => .ins m (e _ _ h) (RepF.mono e l)
  | _, _, .dT h l => .dT (e _ _ h) (RepT.mono e l)
  | _, _, .dK h l => .dK (e _ _ h) (RepK.mono e l)
  | _, _, .exc0 => .exc0
  | _, _, .exc h l => .exc (e _ _ h) (RepF.mono e l)
theorem RepL.mono (e : Same F F') : ∀ {d : List D} {v : List V}, RepL K mg F d v → RepL K mg F' d v
  | _, _, .nil => .nil
  | _, _, .cons h l => .cons (Rep.mono e h) (RepL.mono e l)
theorem RepF.mono (e : Same F F') : ∀ {d : List (Str × D)} {v : List (Str × V)}, RepF K mg F d v → RepF K mg F' d v
  | _, _, .nil => .nil
  | _, _, .cons h l => .cons (Rep.mono e h) (RepF.mono e l)
theorem RepT.mono (e : Same F F') : ∀ {d : List (List Key × D)} {v : List (List Key × V)}, RepT K mg F d v → RepT K mg F' d v
  | _, _, .nil => .nil
  | _, _, .cons h l => .cons (Rep.mono e h) (RepT.mono e l)
theorem RepK.mono (e : Same F F') : ∀ {d : List (Key × D)} {v : List (Key × V)}, RepK K mg F d v → RepK K mg F' d v
  | _, _, .nil => .nil
  | _, _, .cons h l => .cons (Rep.mono e h) (RepK.mono e l)
end
theorem RepL.length : ∀ {ds : List D} {vs : List V}, RepL K mg F ds vs → ds.length = vs.length
  | _, _, .nil => rfl
  | _, _, .cons _ l => congrArg (· + 1) (RepL.length l)
theorem RepL.append : ∀ {ds es : List D} {vs ws : List V}, RepL K mg F ds vs → RepL K mg F es ws → RepL K mg F (ds ++ es) (vs ++ ws)
  | _, _, _, _, .nil, s => s
  | _, _, _, _, .cons h l, s => .cons h (RepL.append l s)
theorem RepL.get : ∀ {ds : List D} {vs : List V} {i : Nat} {d : D}, RepL K mg F ds vs → ds[i]? = some d → ∃ v, vs[i]? = some v ∧ Rep K mg F d v
  | _, _, _, _, .nil, e => by simp at e
  | _, _, 0, _, .cons h l, e => by
    simp at e
    subst e
    exact ⟨_, rfl, h⟩
  | _, _, i + 1, _, .cons h l, e => by
    obtain ⟨v, h1, h2⟩ := RepL.get (i := i) l (by simpa using e)
    exact ⟨v, by simpa using h1, h2⟩
theorem RepL.getV : ∀ {ds : List D} {vs : List V} {i : Nat} {v : V}, RepL K mg F ds vs → vs[i]? = some v → ∃ d, ds[i]? = some d ∧ Rep K mg F d v
  | _, _, _, _, .nil, e => by simp at e
  | _, _, 0, _, .cons h l, e => by
    simp at e
    subst e
    exact ⟨_, rfl, h⟩
  | _, _, i + 1, _, .cons h l, e => by
    obtain ⟨d, h1, h2⟩ := RepL.getV (i := i) l (by simpa using e)
    exact ⟨d, by simpa using h1, h2⟩
theorem RepL.set {d : D} {v : V} (r : Rep K mg F d v) : ∀ {ds : List D} {vs : List V} (i : Nat), RepL K mg F ds vs → RepL K mg F (ds.set i d) (vs.set i v)
  | _, _, _, .nil => .nil
  | _, _, 0, .cons _ t => .cons r t
  | _, _, i + 1, .cons q t => .cons q (RepL.set r i t)
theorem RepL.take : ∀ {ds : List D} {vs : List V} (n : Nat), RepL K mg F ds vs → RepL K mg F (ds.take n) (vs.take n)
  | _, _, 0, _ => .nil
  | _, _, _ + 1, .nil => .nil
  | _, _, n + 1, .cons r t => .cons r (RepL.take n t)
theorem RepL.drop : ∀ {ds : List D} {vs : List V} (n : Nat), RepL K mg F ds vs → RepL K mg F (ds.drop n) (vs.drop n)
  | _, _, 0, r => r
  | _, _, _ + 1, .nil => .nil
  | _, _, n + 1, .cons _ t => RepL.drop n t
theorem RepL.reverse {ds : List D} {vs : List V} (h : RepL K mg F ds vs) : RepL K mg F ds.reverse vs.reverse := by
  induction ds generalizing vs with
  | nil => cases h; exact .nil
  | cons d ds ih =>
    cases h with
    | cons r t =>
      rw [List.reverse_cons, List.reverse_cons]
      exact (ih t).append (.cons r .nil)
theorem RepF.look : ∀ {fs : List (Str × D)} {gs : List (Str × V)} {f : Str} {d : D}, RepF K mg F fs gs → fs.lookup f = some d → ∃ v, gs.lookup f = some v ∧ Rep K mg F d v
  | _, _, f, _, .nil, e => by cases e
  | _, _, f, d, .cons (f := g) h l, e => by
    rw [List.lookup_cons] at e ⊢
    split at e
    · cases e
      exact ⟨_, rfl, h⟩
    · exact RepF.look l e
theorem RepF.lookN : ∀ {fs : List (Str × D)} {gs : List (Str × V)} {f : Str}, RepF K mg F fs gs → fs.lookup f = none → gs.lookup f = none
  | _, _, f, .nil, e => rfl
  | _, _, f, .cons (f := g) h l, e => by
    rw [List.lookup_cons] at e ⊢
    split at e
    · cases e
    · exact RepF.lookN l e
theorem RepF.length : ∀ {fs : List (Str × D)} {gs : List (Str × V)}, RepF K mg F fs gs → fs.length = gs.length
  | _, _, .nil => rfl
  | _, _, .cons _ l => congrArg (· + 1) (RepF.length l)
end
/-- putF over data -/
def putD (f : Str) (v : D) : List (Str × D) → List (Str × D)
  | [] => [(f, v)]
  | (g, x) :: r => if g = f then (g, v) :: r else (g, x) :: putD f v r
end DL

set_option Elab.async false
set_option linter.all false
set_option maxRecDepth 100000
set_option maxHeartbeats 8000000
namespace DL
open PySem PySem.Spec PyProof.Rows L2

/-- an owned object, as the heap has it -/
inductive RepO (K : PySem.W.Frag) (mg : Str → Option Value) (F : Hp) : O → HO → Prop
  | lst {xs : List D} {vs : List V} : RepL K mg F xs vs → RepO K mg F (.lst xs) (.lst vs)
  | ins {C dx : Addr} {c : Str} {fs : List (Str × D)} {gs : List (Str × V)} : mg c = some (.ref C) → RepF K mg F fs gs → RepO K mg F (.ins c fs) (.ins C dx gs)
  | dT {kvs : List (List Key × D)} {kws : List (List Key × V)} : RepT K mg F kvs kws → RepO K mg F (.dT kvs) (.dT kws)
  | dK {kvs : List (Key × D)} {kws : List (Key × V)} : RepK K mg F kvs kws → RepO K mg F (.dK kvs) (.dK kws)
theorem RepO.toD {K : PySem.W.Frag} {mg : Str → Option Value} {F : Hp} {o : O} {h : HO} {a : Addr} (r : RepO K mg F o h) (hF : F a = some h) : Rep K mg F o.toD (.ref a) := by
  cases r with
  | lst r => exact .lst hF r
  | ins m r => exact .ins m hF r
  | dT r => exact .dT hF r
  | dK r => exact .dK hF r
theorem RepO.mono {K : PySem.W.Frag} {mg : Str → Option Value} {F F' : Hp} (e : Same F F') {o : O} {h : HO} (r : RepO K mg F o h) : RepO K mg F' o h := by
  cases r with
  | lst r => exact .lst (r.mono e)
  | ins m r => exact .ins m (r.mono e)
  | dT r => exact .dT (r.mono e)
  | dK r => exact .dK (r.mono e)

/-- the slots as they are told: F the frozen part of the heap H, G what must stay, B where the lent parameters are -/
structure Ok (K : PySem.W.Frag) (mg : Str → Option Value) (B : Nat → Option Addr) (G F H : Hp) (e : DEnv) (σ : L2.St) : Prop where
  fh : Same F H
  gh : Same G H
  len : e.length = σ.length
  fr : ∀ (i : Nat) (d : D), e[i]? = some (.fr d) → ∃ v, σ[i]? = some (some v) ∧ Rep K mg F d v
  ow : ∀ (i : Nat) (b : Bool) (o : O), e[i]? = some (.ow b o) → ∃ a h, σ[i]? = some (some (.ref a)) ∧ F a = none ∧ G a = none ∧ H a = some h ∧ RepO K mg F o h ∧ (b = true → B i = some a)
  ap : ∀ (i j : Nat) (b c : Bool) (o o' : O) (a : Addr), e[i]? = some (.ow b o) → e[j]? = some (.ow c o') → σ[i]? = some (some (.ref a)) → σ[j]? = some (some (.ref a)) → i = j
structure Mv (G F F' : Hp) : Prop where
  ff : Same F F'
  out : ∀ b o, G b = some o → F' b = F b
theorem Mv.refl {G F : Hp} : Mv G F F := ⟨Same.refl F, fun _ _ _ => rfl⟩
theorem Mv.trans {G F F1 F2 : Hp} (a : Mv G F F1) (b : Mv G F1 F2) : Mv G F F2 := ⟨a.ff.trans b.ff, fun c o h => (b.out c o h).trans (a.out c o h)⟩
/-- the heap grows by frozen new objects -/
structure Gr (F H F' H' : Hp) : Prop where
  ff : Same F F'
  fh : Same F' H'
  hh : Same H H'
  nw : ∀ b o, H b = some o → F' b = F b
theorem Gr.refl {F H : Hp} (h : Same F H) : Gr F H F H := ⟨Same.refl F, h, Same.refl H, fun _ _ _ => rfl⟩
theorem Gr.new {F H : Hp} (h : Same F H) {p : Addr} {o : HO} (n : H p = none) : Gr F H (upd F p o) (upd H p o) :=
  ⟨same_new (h.free n), same_both h, same_new n, fun b u e => upd_ne (ne_of_none e n)⟩
/-- a new object that is not frozen -/
theorem Gr.loose {F H : Hp} (h : Same F H) {p : Addr} {o : HO} (n : H p = none) : Gr F H F (upd H p o) :=
  ⟨Same.refl F, same_upd h (h.free n), same_new n, fun _ _ _ => rfl⟩
theorem Gr.trans {F H F1 H1 F2 H2 : Hp} (a : Gr F H F1 H1) (b : Gr F1 H1 F2 H2) : Gr F H F2 H2 :=
  ⟨a.ff.trans b.ff, b.fh, a.hh.trans b.hh, fun c o e => (b.nw c o (a.hh c o e)).trans (a.nw c o e)⟩
section
variable {K : PySem.W.Frag} {mg : Str → Option Value} {B : Nat → Option Addr} {G F F' H H' : Hp} {e : DEnv} {σ : L2.St}
theorem Ok.grow (k : Ok K mg B G F H e σ) (g : Gr F H F' H') : Ok K mg B G F' H' e σ where
  fh := g.fh
  gh := k.gh.trans g.hh
  len := k.len
  fr := fun i d h => let ⟨v, h1, h2⟩ := k.fr i d h; ⟨v, h1, h2.mono g.ff⟩
  ow := fun i b o h => let ⟨a, u, h1, h2, h3, h4, h5, h6⟩ := k.ow i b o h; ⟨a, u, h1, (g.nw a u h4).trans h2, h3, g.hh a u h4, h5.mono g.ff, h6⟩
  ap := k.ap
theorem Ok.mv (k : Ok K mg B G F H e σ) (g : Gr F H F' H') : Mv G F F' := ⟨g.ff, fun b o h => g.nw b o (k.gh b o h)⟩
/-- an owned list is frozen -/
theorem Ok.freeze (k : Ok K mg B G F H e σ) {i : Nat} {o : O} (h : e[i]? = some (.ow false o)) :
    ∃ a u, σ[i]? = some (some (.ref a)) ∧ H a = some u ∧ Mv G F (upd F a u) ∧ Ok K mg B G (upd F a u) H (e.set i (.fr o.toD)) σ ∧ Rep K mg (upd F a u) o.toD (.ref a) := by
  obtain ⟨a, u, h1, h2, h3, h4, h5, h6⟩ := k.ow i _ _ h
  · have m : Same F (upd F a u) := same_new h2
    have hr : Rep K mg (upd F a u) o.toD (.ref a) := (h5.mono m).toD upd_same
    have hi : i < e.length := (List.getElem?_eq_some_iff.mp h).1
    refine ⟨a, u, h1, h4, ⟨m, fun b o hb => upd_ne fun z => ?_⟩, ⟨fun b o hb => ?_, k.gh, by rw [List.length_set]; exact k.len, fun j d hj => ?_, fun j b o hj => ?_, fun j l b c o o' x hj hl s1 s2 => ?_⟩, hr⟩
    · rw [z, h3] at hb; cases hb
    · by_cases z : b = a
      · subst z; rw [upd_same] at hb; rw [← hb]; exact h4
      · rw [upd_ne z] at hb; exact k.fh b o hb
    · by_cases z : i = j
      · subst z
        rw [List.getElem?_set_self hi] at hj
        cases hj
        exact ⟨_, h1, hr⟩
      · rw [List.getElem?_set_ne z] at hj
        obtain ⟨v, q1, q2⟩ := k.fr j d hj
        exact ⟨v, q1, q2.mono m⟩
    · by_cases z : i = j
      · subst z
        rw [List.getElem?_set_self hi] at hj
        cases hj
      · rw [List.getElem?_set_ne z] at hj
        obtain ⟨c, w, q1, q2, q3, q4, q5, q6⟩ := k.ow j b o hj
        refine ⟨c, w, q1, ?_, q3, q4, q5.mono m, q6⟩
        rw [upd_ne fun y => ?_]
        · exact q2
        · subst y
          exact z (k.ap _ _ _ _ _ _ _ h hj h1 q1)
    · have nj : i ≠ j := fun z => by
        subst z
        rw [List.getElem?_set_self hi] at hj
        cases hj
      have nl : i ≠ l := fun z => by
        subst z
        rw [List.getElem?_set_self hi] at hl
        cases hl
      rw [List.getElem?_set_ne nj] at hj
      rw [List.getElem?_set_ne nl] at hl
      exact k.ap _ _ _ _ _ _ _ hj hl s1 s2
/-- an owned object changes -/
theorem Ok.write (k : Ok K mg B G F H e σ) {i : Nat} {b : Bool} {o o' : O} {a : Addr} {u : HO} (h : e[i]? = some (.ow b o)) (ha : σ[i]? = some (some (.ref a))) (r : RepO K mg F o' u) :
    Ok K mg B G F (upd H a u) (e.set i (.ow b o')) σ := by
  obtain ⟨a', u0, h1, h2, h3, h4, h5, h6⟩ := k.ow i b o h
  rw [ha] at h1
  injection h1 with h1
  injection h1 with h1
  injection h1 with h1
  subst h1
  have hi : i < e.length := (List.getElem?_eq_some_iff.mp h).1
  refine ⟨same_upd k.fh h2, same_upd k.gh h3, by rw [List.length_set]; exact k.len, fun j d hj => ?_, fun j c q hj => ?_, fun j l c c' q q' x hj hl s1 s2 => ?_⟩
  · by_cases z : i = j
    · subst z
      rw [List.getElem?_set_self hi] at hj
      cases hj
    · rw [List.getElem?_set_ne z] at hj
      exact k.fr j d hj
  · by_cases z : i = j
    · subst z
      rw [List.getElem?_set_self hi] at hj
      cases hj
      exact ⟨a, u, ha, h2, h3, upd_same, r, h6⟩
    · rw [List.getElem?_set_ne z] at hj
      obtain ⟨x, w, q1, q2, q3, q4, q5, q6⟩ := k.ow j c q hj
      refine ⟨x, w, q1, q2, q3, ?_, q5, q6⟩
      rw [upd_ne fun y => ?_]
      · exact q4
      · subst y
        exact z (k.ap _ _ _ _ _ _ _ h hj ha q1)
  · have key : ∀ (m : Nat) (c : Bool) (q : O), (e.set i (Sl.ow b o'))[m]? = some (Sl.ow c q) → ∃ (c : Bool) (q : O), e[m]? = some (Sl.ow c q) := fun m c q hm => by
      by_cases z : i = m
      · subst z
        exact ⟨_, _, h⟩
      · rw [List.getElem?_set_ne z] at hm
        exact ⟨_, _, hm⟩
    obtain ⟨_, _, hj⟩ := key _ _ _ hj
    obtain ⟨_, _, hl⟩ := key _ _ _ hl
    exact k.ap _ _ _ _ _ _ _ hj hl s1 s2
/-- not a slot whose object the caller lent -/
def unl (e : DEnv) (i : Nat) : Prop := match e[i]? with
  | some (.ow true _) => False
  | some _ => True
  | none => False
instance : Decidable (unl e i) := by unfold unl; split <;> infer_instance
theorem unl_lt (h : unl e i) : i < e.length := by
  unfold unl at h
  cases q : e[i]? with
  | none => rw [q] at h; exact h.elim
  | some s => exact (List.getElem?_eq_some_iff.mp q).1
/-- a slot is set to frozen data -/
theorem Ok.setF (k : Ok K mg B G F H e σ) {i : Nat} {d : D} {v : V} (hi : i < e.length) (r : Rep K mg F d v) : Ok K mg B G F H (e.set i (.fr d)) (σ.set i (some v)) := by
  have hs : i < σ.length := by rw [← k.len]; exact hi
  refine ⟨k.fh, k.gh, by rw [List.length_set, List.length_set]; exact k.len, fun j c hj => ?_, fun j b o hj => ?_, fun j l b c o o' x hj hl s1 s2 => ?_⟩
  · by_cases z : i = j
    · subst z
      rw [List.getElem?_set_self hi] at hj
      cases hj
      exact ⟨v, List.getElem?_set_self hs, r⟩
    · rw [List.getElem?_set_ne z] at hj ⊢
      exact k.fr j c hj
  · have z : i ≠ j := fun z => by
      subst z
      rw [List.getElem?_set_self hi] at hj
      cases hj
    rw [List.getElem?_set_ne z] at hj ⊢
    exact k.ow j b o hj
  · have nj : i ≠ j := fun z => by
      subst z
      rw [List.getElem?_set_self hi] at hj
      cases hj
    have nl : i ≠ l := fun z => by
      subst z
      rw [List.getElem?_set_self hi] at hl
      cases hl
    rw [List.getElem?_set_ne nj] at hj s1
    rw [List.getElem?_set_ne nl] at hl s2
    exact k.ap _ _ _ _ _ _ _ hj hl s1 s2
/-- a slot is forgotten -/
theorem Ok.drop (k : Ok K mg B G F H e σ) (i : Nat) : Ok K mg B G F H (e.set i .no) (σ.set i none) := by
  refine ⟨k.fh, k.gh, by rw [List.length_set, List.length_set]; exact k.len, fun j c hj => ?_, fun j b o hj => ?_, fun j l b c o o' x hj hl s1 s2 => ?_⟩
  all_goals
    have key : ∀ {m : Nat} {s : Sl}, (e.set i .no)[m]? = some s → s ≠ .no → i ≠ m ∧ e[m]? = some s := fun {m s} hm hn => by
      by_cases z : i = m
      · subst z
        by_cases q : i < e.length
        · rw [List.getElem?_set_self q] at hm
          cases hm
          exact (hn rfl).elim
        · rw [List.getElem?_eq_none (by rw [List.length_set]; omega)] at hm
          cases hm
      · rw [List.getElem?_set_ne z] at hm
        exact ⟨z, hm⟩
  · obtain ⟨z, hj⟩ := key hj (by intro q; cases q)
    rw [List.getElem?_set_ne z]
    exact k.fr j c hj
  · obtain ⟨z, hj⟩ := key hj (by intro q; cases q)
    rw [List.getElem?_set_ne z]
    exact k.ow j b o hj
  · obtain ⟨z, hj⟩ := key hj (by intro q; cases q)
    obtain ⟨z2, hl⟩ := key hl (by intro q; cases q)
    rw [List.getElem?_set_ne z] at s1
    rw [List.getElem?_set_ne z2] at s2
    exact k.ap _ _ _ _ _ _ _ hj hl s1 s2
/-- a slot takes a new object -/
theorem Ok.setO (k : Ok K mg B G F H e σ) {i : Nat} {o : O} {a : Addr} {u : HO} (hi : i < e.length) (h2 : F a = none) (h3 : G a = none) (h4 : H a = some u) (r : RepO K mg F o u)
    (hn : ∀ (j : Nat) (b : Bool) (q : O), e[j]? = some (.ow b q) → σ[j]? ≠ some (some (.ref a))) : Ok K mg B G F H (e.set i (.ow false o)) (σ.set i (some (.ref a))) := by
  have hs : i < σ.length := by rw [← k.len]; exact hi
  refine ⟨k.fh, k.gh, by rw [List.length_set, List.length_set]; exact k.len, fun j c hj => ?_, fun j b q hj => ?_, fun j l b c q q' x hj hl s1 s2 => ?_⟩
  · by_cases z : i = j
    · subst z
      rw [List.getElem?_set_self hi] at hj
      cases hj
    · rw [List.getElem?_set_ne z] at hj ⊢
      exact k.fr j c hj
  · by_cases z : i = j
    · subst z
      rw [List.getElem?_set_self hi] at hj
      cases hj
      exact ⟨a, u, List.getElem?_set_self hs, h2, h3, h4, r, fun q => by cases q⟩
    · rw [List.getElem?_set_ne z] at hj ⊢
      exact k.ow j b q hj
  · by_cases z : i = j
    · subst z
      by_cases z2 : i = l
      · exact z2
      · rw [List.getElem?_set_ne z2] at hl s2
        rw [List.getElem?_set_self hs] at s1
        cases s1
        exact (hn _ _ _ hl s2).elim
    · rw [List.getElem?_set_ne z] at hj s1
      by_cases z2 : i = l
      · subst z2
        rw [List.getElem?_set_self hs] at s2
        cases s2
        exact (hn _ _ _ hj s1).elim
      · rw [List.getElem?_set_ne z2] at hl s2
        exact k.ap _ _ _ _ _ _ _ hj hl s1 s2
end
/-- an exception as it flies -/
abbrev XD := DEnv → Str → List (Str × D) → Prop
def X0 : XD := fun _ _ _ => False
def RepX (K : PySem.W.Frag) (mg : Str → Option Value) (G F H : Hp) (c : Str) (fs : List (Str × D)) (u : Value) (ad : Option Addr) : Prop :=
  ∃ C, mg c = some (.ref C) ∧ u = .ref C ∧ ((fs = [] ∧ ad = none) ∨ ∃ d gs, ad = some d ∧ F d = none ∧ G d = none ∧ H d = some (.xd gs) ∧ RepF K mg F fs gs)
def XR (K : PySem.W.Frag) (mg : Str → Option Value) (E : L2.St → XK) (Ē : XD) (B : Nat → Option Addr) (G F : Hp) (σ : L2.St) : Prop :=
  ∀ e' c fs u ad F' H', Ē e' c fs → Mv G F F' → Ok K mg B G F' H' e' σ → RepX K mg G F' H' c fs u ad → E σ u ad H'
theorem XR.mv {K : PySem.W.Frag} {mg : Str → Option Value} {E : L2.St → XK} {Ē : XD} {B : Nat → Option Addr} {G F F1 : Hp} {σ : L2.St} (x : XR K mg E Ē B G F σ) (m : Mv G F F1) : XR K mg E Ē B G F1 σ :=
  fun e' c fs u ad F' H' h m' k r => x e' c fs u ad F' H' h (m.trans m') k r

abbrev DE := XD → DEnv → (D → DEnv → Prop) → Prop
abbrev DN := XD → DEnv → (O → DEnv → Prop) → Prop
abbrev DT := XD → DEnv → (Bool → DEnv → Prop) → Prop
abbrev DA := XD → DEnv → (List D → DEnv → Prop) → Prop
structure DEnds where
  nx : DEnv → Prop
  rt : D → DEnv → Prop
  bk : DEnv → Prop := fun _ => False
  ct : DEnv → Prop := fun _ => False
abbrev DS := XD → DEnds → DEnv → Prop

section
variable (K : PySem.W.Frag) (mg : Str → Option Value) (E : L2.St → XK)
def SE (te : TE) (de : DE) : Prop := ∀ B G F H e σ Ē (Q' : D → DEnv → Prop) (Q : VK), Ok K mg B G F H e σ → XR K mg E Ē B G F σ → de Ē e Q' →
  (∀ d e' v F' H', Q' d e' → Mv G F F' → Ok K mg B G F' H' e' σ → Rep K mg F' d v → Q v H') → te σ H Q
/-- a fresh object -/
def Fresh (F G H : Hp) (e : DEnv) (σ : L2.St) (a : Addr) (u : HO) : Prop := F a = none ∧ G a = none ∧ H a = some u ∧ ∀ (j : Nat) (b : Bool) (q : O), e[j]? = some (.ow b q) → σ[j]? ≠ some (some (.ref a))
def SN (te : TE) (dn : DN) : Prop := ∀ B G F H e σ Ē (Q' : O → DEnv → Prop) (Q : VK), Ok K mg B G F H e σ → XR K mg E Ē B G F σ → dn Ē e Q' →
  (∀ o e' a u F' H', Q' o e' → Mv G F F' → Ok K mg B G F' H' e' σ → Fresh F' G H' e' σ a u → RepO K mg F' o u → Q (.ref a) H') → te σ H Q
def ST (tt : TT) (dt : DT) : Prop := ∀ B G F H e σ Ē (Q' : Bool → DEnv → Prop) (Q : Bool → Hp → Prop), Ok K mg B G F H e σ → XR K mg E Ē B G F σ → dt Ē e Q' →
  (∀ b e' F' H', Q' b e' → Mv G F F' → Ok K mg B G F' H' e' σ → Q b H') → tt σ H Q
def SA (ta : TA) (da : DA) : Prop := ∀ B G F H e σ Ē (Q' : List D → DEnv → Prop) (Q : List V → Hp → Prop), Ok K mg B G F H e σ → XR K mg E Ē B G F σ → da Ē e Q' →
  (∀ ds e' vs F' H', Q' ds e' → Mv G F F' → Ok K mg B G F' H' e' σ → RepL K mg F' ds vs → Q vs H') → ta σ H Q
structure ER (B : Nat → Option Addr) (G F : Hp) (D' : DEnds) (D : Ends) : Prop where
  nx : ∀ e' σ' F' H', D'.nx e' → Mv G F F' → Ok K mg B G F' H' e' σ' → D.nx σ' H'
  rt : ∀ d e' σ' v F' H', D'.rt d e' → Mv G F F' → Ok K mg B G F' H' e' σ' → Rep K mg F' d v → D.rt v H'
  bk : ∀ e' σ' F' H', D'.bk e' → Mv G F F' → Ok K mg B G F' H' e' σ' → D.bk σ' H'
  ct : ∀ e' σ' F' H', D'.ct e' → Mv G F F' → Ok K mg B G F' H' e' σ' → D.ct σ' H'
def SS (ts : TS) (ds : DS) : Prop := ∀ B G F H e σ Ē D' D, Ok K mg B G F H e σ → (∀ σ', XR K mg E Ē B G F σ') → ds Ē D' e → ER K mg B G F D' D → ts D σ H
end
theorem ER.mv {K : PySem.W.Frag} {mg : Str → Option Value} {B : Nat → Option Addr} {G F F1 : Hp} {D' : DEnds} {D : Ends} (x : ER K mg B G F D' D) (m : Mv G F F1) : ER K mg B G F1 D' D :=
  ⟨fun e' σ' F' H' h m' => x.nx e' σ' F' H' h (m.trans m'), fun d e' σ' v F' H' h m' => x.rt d e' σ' v F' H' h (m.trans m'), fun e' σ' F' H' h m' => x.bk e' σ' F' H' h (m.trans m'), fun e' σ' F' H' h m' => x.ct e' σ' F' H' h (m.trans m')⟩

/-! ### the judgements over the program's text: over a family of contexts that differ in what a comprehension's block changes -/
structure Vy where
  s : Shared
  H : Hp
  env : PySem.Env
  outer : List PySem.Env
  ex : List Addr
  fn : Str → Bool
  pn : List (Addr × Obj)
  xe : Value → Shared → Prop
abbrev _root_.L2.Cx.atV (X : Cx) (v : Vy) : Cx := { X with s_0 := v.s, H_0 := v.H, env := v.env, outer := v.outer, ex := v.ex, fn := v.fn, pn := v.pn, xe := v.xe }
abbrev _root_.L2.Cx.vy (X : Cx) : Unit → Vy := fun _ => ⟨X.s_0, X.H_0, X.env, X.outer, X.ex, X.fn, X.pn, X.xe⟩
structure PD (X : Cx) {ι : Type} (v : ι → Vy) (E : L2.St → XK) (e : Expr) (de : DE) : Prop where
  ex : ∃ te, (∀ ii, PE (X.atV (v ii)) e te) ∧ SE X.K X.mg E te de
structure PN (X : Cx) {ι : Type} (v : ι → Vy) (E : L2.St → XK) (e : Expr) (dn : DN) : Prop where
  ex : ∃ te, (∀ ii, PE (X.atV (v ii)) e te) ∧ SN X.K X.mg E te dn
structure PDT (X : Cx) {ι : Type} (v : ι → Vy) (E : L2.St → XK) (e : Expr) (dt : DT) : Prop where
  ex : ∃ tt, (∀ ii, PT (X.atV (v ii)) e tt) ∧ ST X.K X.mg E tt dt
structure PDW (X : Cx) {ι : Type} (v : ι → Vy) (E : L2.St → XK) (e : Expr) (dt : DT) : Prop where
  ex : ∃ tt, (∀ ii, PW (X.atV (v ii)) e tt) ∧ ST X.K X.mg E tt dt
structure PDA (X : Cx) {ι : Type} (v : ι → Vy) (E : L2.St → XK) (es : List Expr) (da : DA) : Prop where
  ex : ∃ ta, (∀ ii, PA (X.atV (v ii)) es ta) ∧ SA X.K X.mg E ta da
structure PDS (X : Cx) {ι : Type} (v : ι → Vy) (E : L2.St → XK) (st : Stmt) (ds : DS) : Prop where
  ex : ∃ ts, (∀ ii, PS (X.atV (v ii)) st ts) ∧ SS X.K X.mg E ts ds
structure PDSs (X : Cx) {ι : Type} (v : ι → Vy) (E : L2.St → XK) (st : List Stmt) (ds : DS) : Prop where
  ex : ∃ ts, (∀ ii, PSs (X.atV (v ii)) st ts) ∧ SS X.K X.mg E ts ds
end DL

set_option Elab.async false
set_option linter.all false
set_option maxRecDepth 100000
set_option maxHeartbeats 8000000
namespace DL
open PySem PySem.Spec PyProof.Rows L2

structure Good (X : Cx) (k : Nat) : Prop where
  calm : X.calm = true
  room : Room k X.A
  nd : X.N.Nodup
theorem Good.hu {X : Cx} {k : Nat} (g : Good X k) : X.A.units + 64 < cLine := g.room.units
theorem Good.hu1 {X : Cx} {k : Nat} (g : Good X k) : X.A.units + 1 < cLine := Nat.lt_of_le_of_lt (Nat.add_le_add_left (by decide : 1 ≤ 64) _) g.room.units
theorem Good.mono {X : Cx} {j k : Nat} (g : Good X k) (h : j ≤ k) : Good X j := ⟨g.calm, g.room.mono h, g.nd⟩

/-! ### operations on values -/
abbrev F1 := D → (D → Prop) → Prop
abbrev F2 := D → D → (D → Prop) → Prop
abbrev FL := List D → (D → Prop) → Prop
section
variable (K : PySem.W.Frag) (mg : Str → Option Value)
def SR2 (r : R2) (f : F2) : Prop := ∀ (F H : Hp) (x y : D) (v w : V) (Q' : D → Prop) (Q : VK), Same F H → Rep K mg F x v → Rep K mg F y w → f x y Q' →
  (∀ z u F' H', Q' z → Gr F H F' H' → Rep K mg F' z u → Q u H') → r v w H Q
def SR1 (r : V → Hp → VK → Prop) (f : F1) : Prop := ∀ (F H : Hp) (x : D) (v : V) (Q' : D → Prop) (Q : VK), Same F H → Rep K mg F x v → f x Q' →
  (∀ z u F' H', Q' z → Gr F H F' H' → Rep K mg F' z u → Q u H') → r v H Q
def SRL (r : List V → Hp → VK → Prop) (f : FL) : Prop := ∀ (F H : Hp) (xs : List D) (vs : List V) (Q' : D → Prop) (Q : VK), Same F H → RepL K mg F xs vs → f xs Q' →
  (∀ z u F' H', Q' z → Gr F H F' H' → Rep K mg F' z u → Q u H') → r vs H Q
end
def dBin (f : F2) (a b : DE) : DE := fun Ē e Q => a Ē e fun x e1 => b Ē e1 fun y e2 => f x y fun z => Q z e2
def dUn (f : F1) (a : DE) : DE := fun Ē e Q => a Ē e fun x e1 => f x fun z => Q z e1
def dC (d : D) : DE := fun _ e Q => Q d e
def dVar (i : Nat) : DE := fun _ e Q => match e[i]? with
  | some (.fr d) => Q d e
  | some (.ow false o) => Q o.toD (e.set i (.fr o.toD))
  | _ => False
def dNil : DA := fun _ e Q => Q [] e
def dCons (a : DE) (r : DA) : DA := fun Ē e Q => a Ē e fun x e1 => r Ē e1 fun xs e2 => Q (x :: xs) e2
def dCB (f : FL) (a : DA) : DE := fun Ē e Q => a Ē e fun xs e1 => f xs fun z => Q z e1
def dTup (a : DA) : DE := fun Ē e Q => a Ē e fun xs e1 => xs.length ≤ sizeLine ∧ Q (.tup xs) e1
def dLst (a : DA) : DN := fun Ē e Q => a Ē e fun xs e1 => xs.length ≤ sizeLine ∧ Q (.lst xs) e1
/-- a new list that is frozen at once -/
def dFrz (n : DN) : DE := fun Ē e Q => n Ē e fun o e1 => Q o.toD e1
section
variable {K : PySem.W.Frag} {mg : Str → Option Value} {E : L2.St → XK} {ta tb te : TE} {a b : DE} {r : R2} {f : F2}
theorem se_op (hr : SR2 K mg r f) (ha : SE K mg E ta a) (hb : SE K mg E tb b) : SE K mg E (tOp r ta tb) (dBin f a b) := fun B G F H e σ Ē Q' Q k x h q =>
  ha B G F H e σ Ē _ _ k x h fun d1 e1 v1 F1 H1 h1 m1 k1 r1 =>
    hb B G F1 H1 e1 σ Ē _ _ k1 (x.mv m1) h1 fun d2 e2 v2 F2 H2 h2 m2 k2 r2 =>
      hr F2 H2 d1 d2 v1 v2 _ _ k2.fh (r1.mono m2.ff) r2 h2 fun z u F3 H3 h3 g r3 => q z e2 u F3 H3 h3 ((m1.trans m2).trans (k2.mv g)) (k2.grow g) r3
theorem se_un {r : V → Hp → VK → Prop} {f : F1} (hr : SR1 K mg r f) (ha : SE K mg E ta a) : SE K mg E (tUn r ta) (dUn f a) := fun B G F H e σ Ē Q' Q k x h q =>
  ha B G F H e σ Ē _ _ k x h fun d1 e1 v1 F1 H1 h1 m1 k1 r1 =>
    hr F1 H1 d1 v1 _ _ k1.fh r1 h1 fun z u F3 H3 h3 g r3 => q z e1 u F3 H3 h3 (m1.trans (k1.mv g)) (k1.grow g) r3
theorem se_c {d : D} {v : V} (r : ∀ F, Rep K mg F d v) : SE K mg E (tC v) (dC d) := fun B G F H e σ Ē Q' Q k x h q => q d e v F H h Mv.refl k (r F)
theorem se_var {i : Nat} : SE K mg E (tVar i) (dVar i) := fun B G F H e σ Ē Q' Q k x h q => by
  unfold dVar at h
  cases he : e[i]? with
  | none => rw [he] at h; exact h.elim
  | some s =>
    rw [he] at h
    cases s with
    | no => exact h.elim
    | fr d =>
      obtain ⟨v, h1, h2⟩ := k.fr i d he
      exact ⟨v, h1, q d e v F H h Mv.refl k h2⟩
    | ow fx o =>
      cases fx with
      | true => exact h.elim
      | false =>
        obtain ⟨a, vs, h1, h2, m, k', r'⟩ := k.freeze he
        exact ⟨_, h1, q _ _ _ _ H h m k' r'⟩
theorem sa_nil : SA K mg E tNil dNil := fun B G F H e σ Ē Q' Q k x h q => q [] e [] F H h Mv.refl k .nil
theorem sa_cons {tr : TA} {dr : DA} (ha : SE K mg E ta a) (hr : SA K mg E tr dr) : SA K mg E (tCons ta tr) (dCons a dr) := fun B G F H e σ Ē Q' Q k x h q =>
  ha B G F H e σ Ē _ _ k x h fun d1 e1 v1 F1 H1 h1 m1 k1 r1 =>
    hr B G F1 H1 e1 σ Ē _ _ k1 (x.mv m1) h1 fun ds e2 vs F2 H2 h2 m2 k2 r2 => q (d1 :: ds) e2 (v1 :: vs) F2 H2 h2 (m1.trans m2) k2 (.cons (r1.mono m2.ff) r2)
theorem se_cb {r : List V → Hp → VK → Prop} {f : FL} {t : TA} {da : DA} (hr : SRL K mg r f) (ha : SA K mg E t da) : SE K mg E (tCB r t) (dCB f da) := fun B G F H e σ Ē Q' Q k x h q =>
  ha B G F H e σ Ē _ _ k x h fun ds e1 vs F1 H1 h1 m1 k1 r1 =>
    hr F1 H1 ds vs _ _ k1.fh r1 h1 fun z u F3 H3 h3 g r3 => q z e1 u F3 H3 h3 (m1.trans (k1.mv g)) (k1.grow g) r3
theorem se_tup {t : TA} {da : DA} (ha : SA K mg E t da) : SE K mg E (tTup t) (dTup da) := fun B G F H e σ Ē Q' Q k x h q =>
  ha B G F H e σ Ē _ _ k x h fun ds e1 vs F1 H1 ⟨hl, h1⟩ m1 k1 r1 => ⟨by rw [← r1.length]; exact hl, fun p hp =>
    have g : Gr F1 H1 (upd F1 p (.tup vs)) (upd H1 p (.tup vs)) := Gr.new k1.fh hp
    q (.tup ds) e1 (.ref p) _ _ h1 (m1.trans (k1.mv g)) (k1.grow g) (.tup upd_same (r1.mono g.ff))⟩
theorem fresh_new {B : Nat → Option Addr} {G F H : Hp} {e : DEnv} {σ : L2.St} (k : Ok K mg B G F H e σ) {p : Addr} {u : HO} (hp : H p = none) : Fresh F G (upd H p u) e σ p u :=
  ⟨k.fh.free hp, k.gh.free hp, upd_same, fun j b q hj hs => by
    obtain ⟨a, w, h1, _, _, h4, _⟩ := k.ow j b q hj
    rw [hs] at h1
    cases h1
    rw [hp] at h4
    cases h4⟩
theorem sn_lst {t : TA} {da : DA} (ha : SA K mg E t da) : SN K mg E (tLst t) (dLst da) := fun B G F H e σ Ē Q' Q k x h q =>
  ha B G F H e σ Ē _ _ k x h fun ds e1 vs F1 H1 ⟨hl, h1⟩ m1 k1 r1 => ⟨by rw [← r1.length]; exact hl, fun p hp =>
    have g : Gr F1 H1 F1 (upd H1 p (.lst vs)) := Gr.loose k1.fh hp
    q (.lst ds) e1 p (.lst vs) _ _ h1 (m1.trans (k1.mv g)) (k1.grow g) (fresh_new k1 hp) (.lst r1)⟩
theorem Ok.frz {B : Nat → Option Addr} {G F H : Hp} {e : DEnv} {σ : L2.St} (k : Ok K mg B G F H e σ) {p : Addr} {u : HO} (f : Fresh F G H e σ p u) : Mv G F (upd F p u) ∧ Ok K mg B G (upd F p u) H e σ := by
  obtain ⟨f1, f2, f3, f4⟩ := f
  have m : Same F (upd F p u) := same_new f1
  refine ⟨⟨m, fun b o hb => upd_ne fun z => by rw [z, f2] at hb; cases hb⟩, ⟨fun b o hb => ?_, k.gh, k.len, fun i d h => let ⟨v, h1, h2⟩ := k.fr i d h; ⟨v, h1, h2.mono m⟩, fun i b o h => ?_, k.ap⟩⟩
  · by_cases z : b = p
    · subst z; rw [upd_same] at hb; cases hb; exact f3
    · rw [upd_ne z] at hb; exact k.fh b o hb
  · obtain ⟨a, w, h1, h2, h3, h4, h5, h6⟩ := k.ow i b o h
    refine ⟨a, w, h1, ?_, h3, h4, h5.mono m, h6⟩
    rw [upd_ne fun z => f4 i b o h (by rw [h1, z])]
    exact h2
theorem se_frz {tn : TE} {dn : DN} (h : SN K mg E tn dn) : SE K mg E tn (dFrz dn) := fun B G F H e σ Ē Q' Q k x h' q =>
  h B G F H e σ Ē _ _ k x h' fun o e1 p u F1 H1 h1 m1 k1 f1 r1 => by
    obtain ⟨m2, k2⟩ := k1.frz f1
    exact q o.toD e1 (.ref p) _ H1 h1 (m1.trans m2) k2 ((r1.mono m2.ff).toD upd_same)
end

/-! ### tests -/
def dTest (a : DE) : DT := fun Ē e Q => a Ē e fun x e1 => match x with
  | .bl b => Q b e1
  | _ => False
def dNot (a : DT) : DT := fun Ē e Q => a Ē e fun b e1 => Q (!b) e1
def dAnd (a b : DT) : DT := fun Ē e Q => a Ē e fun c e1 => if c = true then b Ē e1 Q else Q false e1
def dOr (a b : DT) : DT := fun Ē e Q => a Ē e fun c e1 => if c = true then Q true e1 else b Ē e1 Q
def dAndV (a b : DE) : DE := fun Ē e Q => a Ē e fun x e1 => match x with
  | .bl c => if c = true then b Ē e1 Q else Q (.bl false) e1
  | _ => False
def dOrV (a b : DE) : DE := fun Ē e Q => a Ē e fun x e1 => match x with
  | .bl c => if c = true then Q (.bl true) e1 else b Ē e1 Q
  | _ => False
def dNotV (a : DE) : DE := fun Ē e Q => a Ē e fun x e1 => match x with
  | .bl c => Q (.bl (!c)) e1
  | _ => False
def dIfE (c : DT) (a b : DE) : DE := fun Ē e Q => c Ē e fun k e1 => if k = true then a Ē e1 Q else b Ē e1 Q
section
variable {K : PySem.W.Frag} {mg : Str → Option Value} {E : L2.St → XK} {ta tb te : TE} {a b : DE} {t u : TT} {dt du : DT}
theorem st_test (ha : SE K mg E ta a) : ST K mg E (tTest ta) (dTest a) := fun B G F H e σ Ē Q' Q k x h q =>
  ha B G F H e σ Ē _ _ k x h fun d e1 v F1 H1 h1 m1 k1 r1 => by
    cases d with
    | bl c =>
      cases r1
      exact ⟨c, rfl, q c e1 F1 H1 h1 m1 k1⟩
    | _ => exact h1.elim
theorem st_B (ha : SE K mg E ta a) : ST K mg E (tB ta) (dTest a) := fun B G F H e σ Ē Q' Q k x h q =>
  ha B G F H e σ Ē _ _ k x h fun d e1 v F1 H1 h1 m1 k1 r1 => by
    cases d with
    | bl c =>
      cases r1
      exact ⟨c, rfl, q c e1 F1 H1 h1 m1 k1⟩
    | _ => exact h1.elim
theorem st_not (h1 : ST K mg E t dt) : ST K mg E (tNot t) (dNot dt) := fun B G F H e σ Ē Q' Q k x h q =>
  h1 B G F H e σ Ē _ _ k x h fun c e1 F1 H1 h2 m1 k1 => q (!c) e1 F1 H1 h2 m1 k1
theorem st_and (h1 : ST K mg E t dt) (h2 : ST K mg E u du) : ST K mg E (tAnd t u) (dAnd dt du) := fun B G F H e σ Ē Q' Q k x h q =>
  h1 B G F H e σ Ē _ _ k x h fun c e1 F1 H1 h3 m1 k1 => by
    cases c with
    | true =>
      show u σ H1 Q
      exact h2 B G F1 H1 e1 σ Ē _ _ k1 (x.mv m1) h3 fun c2 e2 F2 H2 h4 m2 k2 => q c2 e2 F2 H2 h4 (m1.trans m2) k2
    | false =>
      show Q false H1
      exact q false e1 F1 H1 h3 m1 k1
theorem st_or (h1 : ST K mg E t dt) (h2 : ST K mg E u du) : ST K mg E (tOr t u) (dOr dt du) := fun B G F H e σ Ē Q' Q k x h q =>
  h1 B G F H e σ Ē _ _ k x h fun c e1 F1 H1 h3 m1 k1 => by
    cases c with
    | true =>
      show Q true H1
      exact q true e1 F1 H1 h3 m1 k1
    | false =>
      show u σ H1 Q
      exact h2 B G F1 H1 e1 σ Ē _ _ k1 (x.mv m1) h3 fun c2 e2 F2 H2 h4 m2 k2 => q c2 e2 F2 H2 h4 (m1.trans m2) k2
theorem se_andV (ha : SE K mg E ta a) (hb : SE K mg E tb b) : SE K mg E (tAndV ta tb) (dAndV a b) := fun B G F H e σ Ē Q' Q k x h q =>
  ha B G F H e σ Ē _ _ k x h fun d e1 v F1 H1 h1 m1 k1 r1 => by
    cases d with
    | bl c =>
      cases r1
      refine ⟨c, rfl, ?_⟩
      cases c with
      | true =>
        show tb σ H1 Q
        exact hb B G F1 H1 e1 σ Ē _ _ k1 (x.mv m1) h1 fun c2 e2 v2 F2 H2 h4 m2 k2 r2 => q c2 e2 v2 F2 H2 h4 (m1.trans m2) k2 r2
      | false =>
        show Q _ H1
        exact q _ e1 _ F1 H1 h1 m1 k1 (.bl false)
    | _ => exact h1.elim
theorem se_orV (ha : SE K mg E ta a) (hb : SE K mg E tb b) : SE K mg E (tOrV ta tb) (dOrV a b) := fun B G F H e σ Ē Q' Q k x h q =>
  ha B G F H e σ Ē _ _ k x h fun d e1 v F1 H1 h1 m1 k1 r1 => by
    cases d with
    | bl c =>
      cases r1
      refine ⟨c, rfl, ?_⟩
      cases c with
      | true =>
        show Q _ H1
        exact q _ e1 _ F1 H1 h1 m1 k1 (.bl true)
      | false =>
        show tb σ H1 Q
        exact hb B G F1 H1 e1 σ Ē _ _ k1 (x.mv m1) h1 fun c2 e2 v2 F2 H2 h4 m2 k2 r2 => q c2 e2 v2 F2 H2 h4 (m1.trans m2) k2 r2
    | _ => exact h1.elim
theorem se_notV (ha : SE K mg E ta a) : SE K mg E (tNotV ta) (dNotV a) := fun B G F H e σ Ē Q' Q k x h q =>
  ha B G F H e σ Ē _ _ k x h fun d e1 v F1 H1 h1 m1 k1 r1 => by
    cases d with
    | bl c =>
      cases r1
      exact ⟨c, rfl, q _ e1 _ F1 H1 h1 m1 k1 (.bl _)⟩
    | _ => exact h1.elim
theorem se_if (hc : ST K mg E t dt) (ha : SE K mg E ta a) (hb : SE K mg E tb b) : SE K mg E (tIf t ta tb) (dIfE dt a b) := fun B G F H e σ Ē Q' Q k x h q =>
  hc B G F H e σ Ē _ _ k x h fun c e1 F1 H1 h3 m1 k1 => by
    cases c with
    | true =>
      show ta σ H1 Q
      exact ha B G F1 H1 e1 σ Ē _ _ k1 (x.mv m1) h3 fun c2 e2 v2 F2 H2 h4 m2 k2 r2 => q c2 e2 v2 F2 H2 h4 (m1.trans m2) k2 r2
    | false =>
      show tb σ H1 Q
      exact hb B G F1 H1 e1 σ Ē _ _ k1 (x.mv m1) h3 fun c2 e2 v2 F2 H2 h4 m2 k2 r2 => q c2 e2 v2 F2 H2 h4 (m1.trans m2) k2 r2
end
end DL

set_option Elab.async false
set_option linter.all false
set_option maxRecDepth 100000
set_option maxHeartbeats 8000000
namespace DL
open PySem PySem.Spec PyProof.Rows L2

/-! ### data as the kit's data (for ==) -/
mutual
def D.py : D → Option PyData
  | .non => some .none
  | .bl b => some (.bool b)
  | .int i => some (.int i)
  | .str x => some (.str x)
  | .tup xs => (D.pyL xs).map .tuple
  | .lst xs => (D.pyL xs).map .list
  | .ins _ _ => none
  | .scr _ => none
  | .dT _ => none
  | .dK _ => none
  | .exc _ _ _ _ => none
def D.pyL : List D → Option (List PyData)
  | [] => some []
  | d :: ds => match D.py d, D.pyL ds with
    | some p, some ps => some (p :: ps)
    | _, _ => none
end
section
variable {K : PySem.W.Frag} {mg : Str → Option Value} {F H : Hp}
mutual
theorem Rep.dp (e : Same F H) : ∀ {d : D} {v : V} {p : PyData}, Rep K mg F d v → d.py = some p → Dp K H v p
  | _, _, p, .non, h => by cases h; exact .non
  | _, _, p, .bl b, h => by cases h; exact .bl b
  | _, _, p, .int i, h => by cases h; exact .int i
  | _, _, p, .str x, h => by cases h; exact .str x
  | .tup xs, _, p, .tup ha l, h => by
    obtain ⟨ps, h1, h2⟩ := Option.map_eq_some_iff.mp (show (D.pyL xs).map PyData.tuple = some p from h)
    subst h2
    exact .tup (SqT.of (e _ _ ha)) (RepL.dp e l h1)
  | .lst xs, _, p, .lst ha l, h => by
    obtain ⟨ps, h1, h2⟩ := Option.map_eq_some_iff.mp (show (D.pyL xs).map PyData.list = some p from h)
    subst h2
    exact .lst (SqL.of (e _ _ ha)) (RepL.dp e l h1)
  | .scr xs, _, p, .scr ha l, h => by cases h
  | .dT xs, _, p, .dT ha l, h => by cases h
  | .dK xs, _, p, .dK ha l, h => by cases h
  | .ins c fs, _, p, .ins _ _ _, h => by cases h
  | .exc _ _ _ _, _, p, .exc0, h => by cases h
  | .exc _ _ _ _, _, p, .exc _ _, h => by cases h
theorem RepL.dp (e : Same F H) : ∀ {ds : List D} {vs : List V} {ps : List PyData}, RepL K mg F ds vs → D.pyL ds = some ps → DpAll K H vs ps
  | _, _, ps, .nil, h => by cases h; exact .nil
  | d :: ds, _, ps, .cons r l, h => by
    unfold D.pyL at h
    cases h1 : d.py with
    | none => rw [h1] at h; cases h
    | some p =>
      cases h2 : D.pyL ds with
      | none => rw [h1, h2] at h; cases h
      | some qs =>
        rw [h1, h2] at h
        cases h
        exact .cons (Rep.dp e r h1) (RepL.dp e l h2)
end
end
def okD (d : D) : Option PyData := match d.py with
  | some p => if SeqAt.shaped p = true then some p else none
  | none => none
theorem okD_some {d : D} {p : PyData} (h : okD d = some p) : d.py = some p ∧ SeqAt.shaped p = true := by
  unfold okD at h
  cases q : d.py with
  | none => rw [q] at h; cases h
  | some r =>
    rw [q] at h
    by_cases s : SeqAt.shaped r = true
    · rw [show (match some r with | some p => if SeqAt.shaped p = true then some p else none | none => none) = if SeqAt.shaped r = true then some r else none from rfl, if_pos s] at h
      cases h
      exact ⟨rfl, s⟩
    · rw [show (match some r with | some p => if SeqAt.shaped p = true then some p else none | none => none) = if SeqAt.shaped r = true then some r else none from rfl, if_neg s] at h
      cases h

/-! ### operators -/
def fAdd : F2
  | .int i, .int j, Q => Q (.int (i + j))
  | .str x, .str y, Q => x.length + y.length ≤ sizeLine ∧ Q (.str (x ++ y))
  | .tup xs, .tup ys, Q => xs.length + ys.length ≤ sizeLine ∧ Q (.tup (xs ++ ys))
  | .lst xs, .lst ys, Q => xs.length + ys.length ≤ sizeLine ∧ Q (.lst (xs ++ ys))
  | _, _, _ => False
def fSub : F2
  | .int i, .int j, Q => Q (.int (i - j))
  | _, _, _ => False
def fMul : F2
  | .int i, .int j, Q => i.natAbs.log2 + j.natAbs.log2 < 1000000 ∧ Q (.int (i * j))
  | .str x, .int j, Q => 0 ≤ j ∧ j < 1000 ∧ x.length ≤ 1000 ∧ Q (.str ⟨(List.replicate j.toNat x.cps.toList).flatten.toArray⟩)
  | .lst xs, .int j, Q => -(2 ^ 63) ≤ j ∧ j < 2 ^ 63 ∧ xs.length * j.toNat ≤ sizeLine ∧ Q (.lst (List.replicate j.toNat xs).flatten)
  | _, _, _ => False
def fFdiv : F2
  | .int i, .int j, Q => (0 < j ∧ j.natAbs.log2 < 9000) ∧ Q (.int (i / j))
  | _, _, _ => False
def fMod : F2
  | .int i, .int j, Q => 0 < j ∧ Q (.int (i % j))
  | _, _, _ => False
def fPow : F2
  | .int i, .int j, Q => (0 ≤ j ∧ (Builtin.Int.intBits i : Int) * j ≤ 2 ^ 27) ∧ Q (.int (i ^ j.toNat))
  | _, _, _ => False
def fEq : F2 := fun x y Q => match okD x, okD y with
  | some p, some q => Q (.bl (PyData.eqv p q))
  | _, _ => False
def fNe : F2 := fun x y Q => match okD x, okD y with
  | some p, some q => Q (.bl (!PyData.eqv p q))
  | _, _ => False
def fLt : F2
  | .int i, .int j, Q => Q (.bl (decide (i < j)))
  | _, _, _ => False
def fLe : F2
  | .int i, .int j, Q => Q (.bl (decide (i ≤ j)))
  | _, _, _ => False
def fGt : F2
  | .int i, .int j, Q => Q (.bl (decide (j < i)))
  | _, _, _ => False
def fGe : F2
  | .int i, .int j, Q => Q (.bl (decide (j ≤ i)))
  | _, _, _ => False
def isNon : D → Bool
  | .non => true
  | _ => false
def fIsN (a : DE) : DE := dUn (fun x Q => Q (.bl (isNon x))) a
def fNotN (a : DE) : DE := dUn (fun x Q => Q (.bl (!isNon x))) a
def fIn (neg : Bool) : F2 := fun x y Q => match okD x, y with
  | some p, .lst ds => (match okD (.lst ds) with
    | some (.list qs) => Q (.bl (if neg then !(qs.any fun z => PyData.eqv z p) else qs.any fun z => PyData.eqv z p))
    | _ => False)
  | some p, .tup ds => (match okD (.tup ds) with
    | some (.tuple qs) => Q (.bl (if neg then !(qs.any fun z => PyData.eqv z p) else qs.any fun z => PyData.eqv z p))
    | _ => False)
  | some (.str x), .str y => Q (.bl (if neg then !(!(Builtin.Str.occurrences y x 0 y.length 1).isEmpty) else !(Builtin.Str.occurrences y x 0 y.length 1).isEmpty))
  | _, _ => False
def fIx : F2
  | .tup xs, .int i, Q => (match atI xs i with
    | some d => Q d
    | none => False)
  | .lst xs, .int i, Q => (match atI xs i with
    | some d => Q d
    | none => False)
  | .str z, .int i, Q => (match atI z.cps.toList i with
    | some c => z.length ≤ sizeLine ∧ Q (.str ⟨#[c]⟩)
    | none => False)
  | .scr xs, .int i, Q => (match atI xs i with
    | some d => Q d
    | none => False)
  | _, _, _ => False

section
variable {K : PySem.W.Frag} {mg : Str → Option Value} {r r' : R2} {f : F2}
theorem sr2_at {x y : D} {v w : V} {F H : Hp} {Q' : D → Prop} {Q : VK} (hs : Same F H) (z : D) (u : V) (rz : Rep K mg F z u) (h : Q' z) (q : ∀ z u F' H', Q' z → Gr F H F' H' → Rep K mg F' z u → Q u H') : Q u H := q z u F H h (Gr.refl hs) rz
theorem RepL.ints : ∀ {ds : List D} {vs : List V} {F : Hp} (ns : List Int), RepL K mg F ds vs → ds = ns.map D.int → vs = ns.map V.int
  | _, _, _, [], .nil, _ => rfl
  | _, _, _, [], .cons _ _, e => by cases e
  | _, _, _, n :: ns, .nil, e => by cases e
  | _, _, _, n :: ns, .cons r l, e => by
    rw [List.map_cons] at e
    injection e with e1 e2
    subst e1
    cases r
    rw [List.map_cons, RepL.ints ns l e2]
theorem Rep.nil_iff {ds : List D} {vs : List V} {F : Hp} (h : RepL K mg F ds vs) : ds = [] ↔ vs = [] := by
  cases h with
  | nil => simp
  | cons => simp
theorem sr_add : SR2 K mg (fun x y H Q => (rI0 fun i j => .int (i + j)) x y H Q ∨ (fun x y H Q => (∃ i j, x = .str i ∧ y = .str j ∧ i.length + j.length ≤ sizeLine ∧ Q (.str (i ++ j)) H) ∨ (fun x y H Q => rCatA K x y H Q ∨ rCat x y H Q) x y H Q) x y H Q) fAdd := by
  intro F H x y v w Q' Q hs rx ry h q
  unfold fAdd at h
  split at h
  · cases rx; cases ry
    exact .inl ⟨_, _, rfl, rfl, q _ _ F H h (Gr.refl hs) (.int _)⟩
  · cases rx; cases ry
    exact .inr (.inl ⟨_, _, rfl, rfl, h.1, q _ _ F H h.2 (Gr.refl hs) (.str _)⟩)
  · rename_i Q'' xs ys
    cases rx with
    | @tup a _ vs ha la =>
      cases ry with
      | @tup b _ ws hb lb =>
        refine .inr (.inr (.inl ⟨a, b, vs, ws, rfl, rfl, SqT.of (hs _ _ ha), SqT.of (hs _ _ hb), by rw [← la.length, ← lb.length]; exact h.1, fun e => ?_, fun _ e => ?_, fun _ _ p hp => ?_⟩))
        · have e' : xs = [] := (Rep.nil_iff la).mpr e
          subst e'
          exact q _ _ F H h.2 (Gr.refl hs) (.tup hb lb)
        · have e' : ys = [] := (Rep.nil_iff lb).mpr e
          subst e'
          have h2 := h.2
          rw [List.append_nil] at h2
          exact q _ _ F H h2 (Gr.refl hs) (.tup ha la)
        · have g : Gr F H (upd F p (.tup (vs ++ ws))) (upd H p (.tup (vs ++ ws))) := Gr.new hs hp
          exact q _ _ _ _ h.2 g (.tup upd_same ((la.mono g.ff).append (lb.mono g.ff)))
  · rename_i Q'' xs ys
    cases rx with
    | @lst a _ vs ha la =>
      cases ry with
      | @lst b _ ws hb lb =>
        refine .inr (.inr (.inr ⟨a, b, vs, ws, rfl, rfl, hs _ _ ha, hs _ _ hb, by rw [← la.length, ← lb.length]; exact h.1, fun p hp => ?_⟩))
        have g : Gr F H (upd F p (.lst (vs ++ ws))) (upd H p (.lst (vs ++ ws))) := Gr.new hs hp
        exact q _ _ _ _ h.2 g (.lst upd_same ((la.mono g.ff).append (lb.mono g.ff)))
  · exact h.elim
theorem sr_I {C : Int → Int → Prop} {g : Int → Int → D} {g' : Int → Int → V} (hg : ∀ i j F, Rep K mg F (g i j) (g' i j)) (hf : ∀ x y Q, f x y Q → ∃ i j, x = .int i ∧ y = .int j ∧ C i j ∧ Q (g i j)) : SR2 K mg (rI C g') f := by
  intro F H x y v w Q' Q hs rx ry h q
  obtain ⟨i, j, rfl, rfl, hc, h'⟩ := hf _ _ _ h
  cases rx; cases ry
  exact ⟨i, j, rfl, rfl, hc, q _ _ F H h' (Gr.refl hs) (hg i j F)⟩
theorem sr_I0 {g : Int → Int → D} {g' : Int → Int → V} (hg : ∀ i j F, Rep K mg F (g i j) (g' i j)) (hf : ∀ x y Q, f x y Q → ∃ i j, x = .int i ∧ y = .int j ∧ Q (g i j)) : SR2 K mg (rI0 g') f := by
  intro F H x y v w Q' Q hs rx ry h q
  obtain ⟨i, j, rfl, rfl, h'⟩ := hf _ _ _ h
  cases rx; cases ry
  exact ⟨i, j, rfl, rfl, q _ _ F H h' (Gr.refl hs) (hg i j F)⟩
theorem ex_I {f : F2} {C : Int → Int → Prop} {g : Int → Int → D} (hf : ∀ x y Q, f x y Q = (match x, y with | .int i, .int j => C i j ∧ Q (g i j) | _, _ => False)) (x y : D) (Q : D → Prop) (h : f x y Q) : ∃ i j, x = .int i ∧ y = .int j ∧ C i j ∧ Q (g i j) := by
  rw [hf] at h
  split at h
  · exact ⟨_, _, rfl, rfl, h.1, h.2⟩
  · exact h.elim
theorem ex_I0 {f : F2} {g : Int → Int → D} (hf : ∀ x y Q, f x y Q = (match x, y with | .int i, .int j => Q (g i j) | _, _ => False)) (x y : D) (Q : D → Prop) (h : f x y Q) : ∃ i j, x = .int i ∧ y = .int j ∧ Q (g i j) := by
  rw [hf] at h
  split at h
  · exact ⟨_, _, rfl, rfl, h⟩
  · exact h.elim
theorem sr_sub : SR2 K mg (rI0 fun i j => .int (i - j)) fSub := sr_I0 (fun _ _ _ => .int _) (ex_I0 (g := fun i j => .int (i - j)) fun x y Q => by cases x <;> cases y <;> rfl)
theorem sr_fdiv : SR2 K mg (rI CDivW fun i j => .int (i / j)) fFdiv := sr_I (fun _ _ _ => .int _) (ex_I (C := CDivW) (g := fun i j => .int (i / j)) fun x y Q => by cases x <;> cases y <;> rfl)
theorem sr_mod : SR2 K mg (rI (fun _ j => 0 < j) fun i j => .int (i % j)) fMod := sr_I (fun _ _ _ => .int _) (ex_I (C := fun _ j => 0 < j) (g := fun i j => .int (i % j)) fun x y Q => by cases x <;> cases y <;> rfl)
def CPowW (i j : Int) : Prop := 0 ≤ j ∧ (Builtin.Int.intBits i : Int) * j ≤ 2 ^ 27
theorem op_powW {X : Cx} : OpR X (binaryOp .Pow) (rI CPowW fun i j => .int (i ^ j.toNat)) := opI fun _ _ _ _ _ _ _ hc q => pow_int hc.1 hc.2 q
theorem sr_pow : SR2 K mg (rI CPowW fun i j => .int (i ^ j.toNat)) fPow := sr_I (fun _ _ _ => .int _) (ex_I (C := CPowW) (g := fun i j => .int (i ^ j.toNat)) fun x y Q => by cases x <;> cases y <;> rfl)
theorem sr_lt : SR2 K mg (rI0 fun i j => .bl (decide (i < j))) fLt := sr_I0 (fun _ _ _ => .bl _) (ex_I0 (g := fun i j => .bl (decide (i < j))) fun x y Q => by cases x <;> cases y <;> rfl)
theorem sr_le : SR2 K mg (rI0 fun i j => .bl (decide (i ≤ j))) fLe := sr_I0 (fun _ _ _ => .bl _) (ex_I0 (g := fun i j => .bl (decide (i ≤ j))) fun x y Q => by cases x <;> cases y <;> rfl)
theorem sr_gt : SR2 K mg (rI0 fun i j => .bl (decide (j < i))) fGt := sr_I0 (fun _ _ _ => .bl _) (ex_I0 (g := fun i j => .bl (decide (j < i))) fun x y Q => by cases x <;> cases y <;> rfl)
theorem sr_ge : SR2 K mg (rI0 fun i j => .bl (decide (j ≤ i))) fGe := sr_I0 (fun _ _ _ => .bl _) (ex_I0 (g := fun i j => .bl (decide (j ≤ i))) fun x y Q => by cases x <;> cases y <;> rfl)
theorem sr_mul : SR2 K mg (fun x y H Q => (rI CMulW fun i j => .int (i * j)) x y H Q ∨ rRep x y H Q) fun x y Q => match x, y with
    | .str _, _ => False
    | _, _ => fMul x y Q := by
  intro F H x y v w Q' Q hs rx ry h q
  cases x with
  | int i => cases y with
    | int j =>
      cases rx; cases ry
      exact .inl ⟨_, _, rfl, rfl, h.1, q _ _ F H h.2 (Gr.refl hs) (.int _)⟩
    | _ => exact h.elim
  | lst xs => cases y with
    | int j =>
      cases ry
      cases rx with
      | @lst a _ vs ha la =>
        obtain ⟨h1, h2, h3, h4⟩ := h
        refine .inr ⟨a, j, vs, rfl, rfl, hs _ _ ha, h1, h2, by rw [← la.length]; exact h3, fun p hp => ?_⟩
        have g : Gr F H (upd F p (.lst (List.replicate j.toNat vs).flatten)) (upd H p (.lst (List.replicate j.toNat vs).flatten)) := Gr.new hs hp
        refine q _ _ _ _ h4 g (.lst upd_same ?_)
        have la' := la.mono g.ff
        generalize upd F p (.lst (List.replicate j.toNat vs).flatten) = F' at la'
        induction j.toNat with
        | zero => exact .nil
        | succ n ih =>
          rw [List.replicate_succ, List.replicate_succ, List.flatten_cons, List.flatten_cons]
          exact la'.append ih
    | _ => exact h.elim
  | _ => exact h.elim
theorem sr_eq : SR2 K mg (rEqD K) fEq := by
  intro F H x y v w Q' Q hs rx ry h q
  unfold fEq at h
  split at h
  · rename_i p p' h1 h2
    obtain ⟨a1, a2⟩ := okD_some h1
    obtain ⟨b1, b2⟩ := okD_some h2
    exact ⟨p, p', rx.dp hs a1, ry.dp hs b1, a2, b2, q _ _ F H h (Gr.refl hs) (.bl _)⟩
  · exact h.elim
theorem sr_ne : SR2 K mg (rNeD K) fNe := by
  intro F H x y v w Q' Q hs rx ry h q
  unfold fNe at h
  split at h
  · rename_i p p' h1 h2
    obtain ⟨a1, a2⟩ := okD_some h1
    obtain ⟨b1, b2⟩ := okD_some h2
    exact ⟨p, p', rx.dp hs a1, ry.dp hs b1, a2, b2, q _ _ F H h (Gr.refl hs) (.bl _)⟩
  · exact h.elim
theorem sr_ix : SR2 K mg (rIx K) fIx := by
  intro F H x y v w Q' Q hs rx ry h q
  have key : ∀ {xs : List D} {vs : List V} {i : Int} {d : D}, RepL K mg F xs vs → atI xs i = some d → ∃ u, atI vs i = some u ∧ Rep K mg F d u := fun {xs vs i d} l e => by
    unfold atI at e ⊢
    rw [← l.length]
    cases z : ixN xs.length i with
    | none => rw [z] at e; cases e
    | some j =>
      rw [z] at e
      exact l.get (i := j) e
  unfold fIx at h
  split at h
  · rename_i Q'' xs i
    cases ry
    cases rx with
    | tup ha la =>
      split at h
      · rename_i d hd
        obtain ⟨u, h1, h2⟩ := key la hd
        exact .inr (.inl ⟨_, _, _, u, rfl, rfl, SqT.of (hs _ _ ha), h1, q _ _ F H h (Gr.refl hs) h2⟩)
      · exact h.elim
  · rename_i Q'' xs i
    cases ry
    cases rx with
    | lst ha la =>
      split at h
      · rename_i d hd
        obtain ⟨u, h1, h2⟩ := key la hd
        exact .inl ⟨_, _, _, u, rfl, rfl, SqL.of (hs _ _ ha), h1, q _ _ F H h (Gr.refl hs) h2⟩
      · exact h.elim
  · rename_i Q'' z i
    cases ry
    cases rx
    split at h
    · rename_i c hc
      exact .inr (.inr ⟨z, i, c, rfl, rfl, h.1, hc, q _ _ F H h.2 (Gr.refl hs) (.str _)⟩)
    · exact h.elim
  · rename_i Q'' xs i
    cases ry
    cases rx with
    | scr ha la =>
      split at h
      · rename_i d hd
        obtain ⟨u, h1, h2⟩ := key la hd
        exact .inl ⟨_, _, _, u, rfl, rfl, same_l hs ha, h1, q _ _ F H h (Gr.refl hs) h2⟩
      · exact h.elim
  · exact h.elim
def rInT (K : PySem.W.Frag) (neg : Bool) : R2 := fun x y H Q => ∃ d ds, Dp K H x d ∧ Dp K H y (.tuple ds) ∧ SeqAt.shaped d = true ∧ SeqAt.shaped (.tuple ds) = true ∧ Q (.bl (if neg then !(ds.any fun z => PyData.eqv z d) else ds.any fun z => PyData.eqv z d)) H
theorem op_inT {X : Cx} (hu : X.A.units + 65 < cLine) : OpR X (compareOp .In) (rInT X.K false) := by
  intro pins s σ H x y v u Q I rx ry h
  obtain ⟨d, es, hd, he, sd, se, q⟩ := h
  obtain ⟨as, r1⟩ := Dp.reads I d x v hd rx
  obtain ⟨bs, r2⟩ := Dp.reads I (.tuple es) y u he ry
  exact SeqAt.in_tuple_reads r2 r1 (SeqAt.canLay_of_shaped se) (SeqAt.canLay_of_shaped sd) (room_in_shaped sd hu) ⟨.bl _, H, I, rfl, q⟩
theorem op_ninT {X : Cx} (hu : X.A.units + 65 < cLine) : OpR X (compareOp .NotIn) (rInT X.K true) := by
  intro pins s σ H x y v u Q I rx ry h
  obtain ⟨d, es, hd, he, sd, se, q⟩ := h
  obtain ⟨as, r1⟩ := Dp.reads I d x v hd rx
  obtain ⟨bs, r2⟩ := Dp.reads I (.tuple es) y u he ry
  exact SeqAt.notIn_tuple_reads r2 r1 (SeqAt.canLay_of_shaped se) (SeqAt.canLay_of_shaped sd) (room_in_shaped sd hu) ⟨.bl _, H, I, rfl, q⟩
theorem sr_in {neg : Bool} : SR2 K mg (fun x y H Q => ((if neg then rNotInD K x y H Q else rInD K x y H Q) ∨ ∃ i j, x = .str i ∧ y = .str j ∧ Q (.bl (if neg then !(!(Builtin.Str.occurrences j i 0 j.length 1).isEmpty) else !(Builtin.Str.occurrences j i 0 j.length 1).isEmpty)) H) ∨ rInT K neg x y H Q) (fIn neg) := by
  intro F H x y v w Q' Q hs rx ry h q
  unfold fIn at h
  split at h
  · rename_i p ds h1
    obtain ⟨a1, a2⟩ := okD_some h1
    split at h
    · rename_i qs h2
      obtain ⟨b1, b2⟩ := okD_some h2
      refine .inl (.inl ?_)
      cases neg with
      | true => exact ⟨p, qs, rx.dp hs a1, ry.dp hs b1, a2, b2, q _ _ F H h (Gr.refl hs) (.bl _)⟩
      | false => exact ⟨p, qs, rx.dp hs a1, ry.dp hs b1, a2, b2, q _ _ F H h (Gr.refl hs) (.bl _)⟩
    · exact h.elim
  · rename_i p ds h1
    obtain ⟨a1, a2⟩ := okD_some h1
    split at h
    · rename_i qs h2
      obtain ⟨b1, b2⟩ := okD_some h2
      exact .inr ⟨p, qs, rx.dp hs a1, ry.dp hs b1, a2, b2, q _ _ F H h (Gr.refl hs) (.bl _)⟩
    · exact h.elim
  · rename_i a b h1
    obtain ⟨a1, a2⟩ := okD_some h1
    cases ry
    cases rx with
    | str z =>
      cases a1
      exact .inl (.inr ⟨_, _, rfl, rfl, q _ _ F H h (Gr.refl hs) (.bl _)⟩)
    | tup ha la =>
      obtain ⟨_, _, z⟩ := Option.map_eq_some_iff.mp a1
      cases z
    | lst ha la =>
      obtain ⟨_, _, z⟩ := Option.map_eq_some_iff.mp a1
      cases z
    | _ => cases a1
  · exact h.elim
end
end DL

set_option Elab.async false
set_option linter.all false
set_option maxRecDepth 100000
set_option maxHeartbeats 8000000
namespace DL
open PySem PySem.Spec PyProof.Rows L2
section
variable {X : Cx} {ι : Type} {v : ι → Vy} {E : L2.St → XK} {k : Nat} {a b c : Expr} {da db dc : DE} {pos : Pos}
/-! ### names, constants -/
theorem pd_var (i : Nat) {x : Str} {pos : Pos} (hN : X.N[i]? = some x := by rfl) (hv : ∀ ii, Vis (v ii).env.scope x := by first | exact fun _ => Or.inl rfl | exact fun _ => Or.inr (Or.inl rfl) | exact fun _ => Or.inr (Or.inr rfl)) (hd : (x == ("__debug__" : Str)) = false := by decide)
    (hcd : (x == ("__classdict__" : Str)) = false := by decide) : PD X v E (.Name x pos) (dVar i) := ⟨_, fun ii => pe_var hN (hv ii) hd hcd, se_var⟩
theorem pd_int {i : Int} {j} : PD X v E (.Constant (.int i) j pos) (dC (.int i)) := ⟨_, fun ii => pe_int, se_c fun _ => .int i⟩
theorem pd_bl {i : Bool} {j} : PD X v E (.Constant (.bool i) j pos) (dC (.bl i)) := ⟨_, fun ii => pe_bl, se_c fun _ => .bl i⟩
theorem pd_non {j} : PD X v E (.Constant .none j pos) (dC .non) := ⟨_, fun ii => pe_non, se_c fun _ => .non⟩
theorem pd_str {x : Str} {j} : PD X v E (.Constant (.str x) j pos) (dC (.str x)) := ⟨_, fun ii => pe_str, se_c fun _ => .str x⟩
theorem pd_gint {x : Str} {i : Int} (hm : ∃ t, X.mg x = some (.int i t)) (hg : ∀ ii, Gl (X.atV (v ii)) x := by intro _; rfl) (hd : (x == ("__debug__" : Str)) = false := by decide) : PD X v E (.Name x pos) (dC (.int i)) := by
  obtain ⟨t, hm⟩ := hm
  exact ⟨_, fun ii => pe_glob (v := .int i) (hg ii) hm ⟨_, rfl⟩ hd, se_c fun _ => .int i⟩
theorem pd_gstr {x z : Str} (hm : ∃ t, X.mg x = some (.str z t)) (hg : ∀ ii, Gl (X.atV (v ii)) x := by intro _; rfl) (hd : (x == ("__debug__" : Str)) = false := by decide) : PD X v E (.Name x pos) (dC (.str z)) := by
  obtain ⟨t, hm⟩ := hm
  exact ⟨_, fun ii => pe_glob (v := .str z) (hg ii) hm ⟨_, rfl⟩ hd, se_c fun _ => .str z⟩
/-! ### operators -/
theorem pd_op {op : Operator} {r : R2} {f : F2} (ho : ∀ ii, OpR (X.atV (v ii)) (binaryOp op) r) (hr : SR2 X.K X.mg r f) (ha : PD X v E a da) (hb : PD X v E b db) : PD X v E (.BinOp a op b pos) (dBin f da db) := by
  obtain ⟨ta, ha, sa⟩ := ha.ex
  obtain ⟨tb, hb, sb⟩ := hb.ex
  exact ⟨_, fun ii => pe_op (ho ii) (ha ii) (hb ii), se_op hr sa sb⟩
theorem pd_add (ha : PD X v E a da) (hb : PD X v E b db) : PD X v E (.BinOp a .Add b pos) (dBin fAdd da db) := pd_op (fun _ => (op_add.or (op_add_str.or (op_catA.or op_cat)))) sr_add ha hb
theorem pd_sub (ha : PD X v E a da) (hb : PD X v E b db) : PD X v E (.BinOp a .Sub b pos) (dBin fSub da db) := pd_op (fun _ => op_sub) sr_sub ha hb
def rRepS : R2 := fun x y H Q => ∃ i j, x = .str i ∧ y = .int j ∧ 0 ≤ j ∧ j < 1000 ∧ i.length ≤ 1000 ∧ Q (.str ⟨(List.replicate j.toNat i.cps.toList).flatten.toArray⟩) H
theorem flat_arr {α : Type} : ∀ (n : Nat) (a acc : Array α), (List.replicate n a).foldl (· ++ ·) acc = acc ++ (List.replicate n a.toList).flatten.toArray
  | 0, a, acc => by simp
  | n + 1, a, acc => by
    rw [List.replicate_succ, List.foldl_cons, flat_arr n a, List.replicate_succ, List.flatten_cons]
    apply Array.ext'
    simp
theorem op_repS : OpR X (binaryOp .Mult) rRepS := by
  intro pins s σ H x y v u Q I rx ry h
  obtain ⟨i, j, rfl, rfl, h0, h1, hl, q⟩ := h
  obtain ⟨t, rfl⟩ := rx
  obtain ⟨t', rfl⟩ := ry
  have hj : j.toNat < 1000 := by omega
  have hsz : i.length * j.toNat ≤ 1000000 := Nat.le_trans (Nat.mul_le_mul hl (Nat.le_of_lt hj)) (by decide)
  refine P.mul_str ?_ (fun a b => ?_) (fun a b => ?_) ?_
  · rw [decide_eq_false (by omega), decide_eq_false (by omega)] <;> rfl
  · have q1 : (1000 : Int) ≤ (2 ^ 63 - 1) / j := by
      rw [Int.le_ediv_iff_mul_le (by omega)]
      omega
    have hl' : (i.length : Int) ≤ 1000 := by omega
    omega
  · have hsz' : i.length * j.toNat ≤ 1000000 := hsz
    exact decide_eq_false (by show ¬ _ > _; rw [sizeLine_eq]; omega)
  · have e0 : (⟨(List.replicate j.toNat i.cps).foldl (· ++ ·) #[]⟩ : Str) = ⟨(List.replicate j.toNat i.cps.toList).flatten.toArray⟩ := by
      rw [flat_arr]; simp
    split
    · rename_i hlt
      have : j.toNat = 0 := by omega
      rw [this] at q
      exact ⟨by decide, ⟨.str _, H, I.tok _, ⟨_, rfl⟩, q⟩⟩
    · split
      · rename_i hlt hor
        refine ⟨.str _, H, I, ⟨t, ?_⟩, q⟩
        congr 1
        rcases Bool.or_eq_true_iff.mp hor with h | h
        · have : j.toNat = 1 := by have := eq_of_beq h; omega
          rw [this]; simp
        · have hi : i.length = 0 := eq_of_beq h
          have : i.cps = #[] := Array.size_eq_zero_iff.mp hi
          obtain ⟨ic⟩ := i
          cases this
          simp
      · rw [e0]
        refine ⟨?_, ⟨.str _, H, I.tok _, ⟨_, rfl⟩, q⟩⟩
        show (List.replicate j.toNat i.cps.toList).flatten.toArray.size ≤ _
        have e1 : (List.replicate j.toNat i.cps.toList).flatten.toArray.size = i.length * j.toNat := by
          simp [List.length_flatten, List.sum_replicate_nat]
          exact Nat.mul_comm _ _
        rw [e1, sizeLine_eq]
        omega
end
end DL

set_option Elab.async false
set_option linter.all false
set_option maxRecDepth 100000
set_option maxHeartbeats 8000000
namespace DL
open PySem PySem.Spec PyProof.Rows L2
theorem sr_mulS {K : PySem.W.Frag} {mg : Str → Option Value} : SR2 K mg (fun x y H Q => (fun x y H Q => (rI CMulW fun i j => .int (i * j)) x y H Q ∨ rRep x y H Q) x y H Q ∨ rRepS x y H Q) fMul := by
  intro F H x y v w Q' Q hs rx ry h q
  cases x with
  | str z => cases y with
    | int j =>
      cases rx; cases ry
      exact .inr ⟨_, _, rfl, rfl, h.1, h.2.1, h.2.2.1, q _ _ F H h.2.2.2 (Gr.refl hs) (.str _)⟩
    | _ => exact h.elim
  | _ => exact .inl (sr_mul F H _ y v w Q' Q hs rx ry h q)
section
variable {X : Cx} {ι : Type} {v : ι → Vy} {E : L2.St → XK} {k : Nat} {a b c : Expr} {da db dc : DE} {pos : Pos} {dt du : DT}
theorem pd_mul (ha : PD X v E a da) (hb : PD X v E b db) : PD X v E (.BinOp a .Mult b pos) (dBin fMul da db) := pd_op (fun _ => ((op_mulW.or op_rep).or op_repS)) sr_mulS ha hb
theorem pd_fdiv (ha : PD X v E a da) (hb : PD X v E b db) : PD X v E (.BinOp a .FloorDiv b pos) (dBin fFdiv da db) := pd_op (fun _ => op_fdivW) sr_fdiv ha hb
theorem pd_mod (ha : PD X v E a da) (hb : PD X v E b db) : PD X v E (.BinOp a .Mod b pos) (dBin fMod da db) := pd_op (fun _ => op_mod) sr_mod ha hb
theorem pd_pow (ha : PD X v E a da) (hb : PD X v E b db) : PD X v E (.BinOp a .Pow b pos) (dBin fPow da db) := pd_op (fun _ => op_powW) sr_pow ha hb
def fNeg : F1
  | .int i, Q => Q (.int (-i))
  | _, _ => False
theorem pd_neg (ha : PD X v E a da) : PD X v E (.UnaryOp .USub a pos) (dUn fNeg da) := by
  obtain ⟨ta, ha, sa⟩ := ha.ex
  refine ⟨_, fun ii => pe_un un_neg (ha ii), se_un (fun F H x v Q' Q hs rx h q => ?_) sa⟩
  cases x with
  | int i =>
    cases rx
    exact ⟨i, rfl, q _ _ F H h (Gr.refl hs) (.int _)⟩
  | _ => exact h.elim
theorem pd_cmp {op : CmpOp} {r : R2} {f : F2} (ho : ∀ ii, OpR (X.atV (v ii)) (compareOp op) r) (hr : SR2 X.K X.mg r f) (ha : PD X v E a da) (hb : PD X v E b db) (hm : behindInMarks op b = false) : PD X v E (.Compare a [op] [b] pos) (dBin f da db) := by
  obtain ⟨ta, ha, sa⟩ := ha.ex
  obtain ⟨tb, hb, sb⟩ := hb.ex
  exact ⟨_, fun ii => pe_cmpR (ho ii) (ha ii) (hb ii) hm, se_op hr sa sb⟩
theorem pd_eq (g : Good X k) (ha : PD X v E a da) (hb : PD X v E b db) : PD X v E (.Compare a [.Eq] [b] pos) (dBin fEq da db) := pd_cmp (fun ii => op_eqD (X := X.atV (v ii)) g.hu) sr_eq ha hb (nomark _)
theorem pd_ne (g : Good X k) (ha : PD X v E a da) (hb : PD X v E b db) : PD X v E (.Compare a [.NotEq] [b] pos) (dBin fNe da db) := pd_cmp (fun ii => op_neD (X := X.atV (v ii)) g.hu) sr_ne ha hb (nomark _)
theorem pd_lt (ha : PD X v E a da) (hb : PD X v E b db) : PD X v E (.Compare a [.Lt] [b] pos) (dBin fLt da db) := pd_cmp (fun _ => op_lt) sr_lt ha hb (nomark _)
theorem pd_le (ha : PD X v E a da) (hb : PD X v E b db) : PD X v E (.Compare a [.LtE] [b] pos) (dBin fLe da db) := pd_cmp (fun _ => op_le) sr_le ha hb (nomark _)
theorem pd_gt (ha : PD X v E a da) (hb : PD X v E b db) : PD X v E (.Compare a [.Gt] [b] pos) (dBin fGt da db) := pd_cmp (fun _ => op_gt) sr_gt ha hb (nomark _)
theorem pd_ge (ha : PD X v E a da) (hb : PD X v E b db) : PD X v E (.Compare a [.GtE] [b] pos) (dBin fGe da db) := pd_cmp (fun _ => op_ge) sr_ge ha hb (nomark _)
theorem hu65 (g : Good X (k + 1)) : X.A.units + 65 < cLine := by have := g.room.un; omega
theorem pd_in (hu : X.A.units + 65 < cLine) (ha : PD X v E a da) (hb : PD X v E b db) (hm : behindInMarks .In b = false := by rfl) : PD X v E (.Compare a [.In] [b] pos) (dBin (fIn false) da db) :=
  pd_cmp (fun ii => ((op_inD (X := X.atV (v ii)) hu).or op_in_str).or (op_inT (X := X.atV (v ii)) hu)) (sr_in (neg := false)) ha hb hm
theorem pd_nin (hu : X.A.units + 65 < cLine) (ha : PD X v E a da) (hb : PD X v E b db) (hm : behindInMarks .NotIn b = false := by rfl) : PD X v E (.Compare a [.NotIn] [b] pos) (dBin (fIn true) da db) :=
  pd_cmp (fun ii => ((op_notInD (X := X.atV (v ii)) hu).or op_notIn_str).or (op_ninT (X := X.atV (v ii)) hu)) (sr_in (neg := true)) ha hb hm
theorem pd_isN {j pos'} (ha : PD X v E a da) : PD X v E (.Compare a [.Is] [.Constant .none j pos'] pos) (fIsN da) := by
  obtain ⟨ta, ha, sa⟩ := ha.ex
  refine ⟨_, fun ii => pe_cmp (pc_isN (ha ii)), ?_⟩
  intro B G F H e σ Ē Q' Q k x h q
  refine sa B G F H e σ Ē _ _ k x h fun d1 e1 v1 F1 H1 h1 m1 k1 r1 => ?_
  have e0 : decide (v1 = V.non) = isNon d1 := by cases r1 <;> rfl
  rw [e0]
  exact q _ e1 _ F1 H1 h1 m1 k1 (.bl _)
theorem pd_notN {j pos'} (ha : PD X v E a da) : PD X v E (.Compare a [.IsNot] [.Constant .none j pos'] pos) (fNotN da) := by
  obtain ⟨ta, ha, sa⟩ := ha.ex
  refine ⟨_, fun ii => pe_cmp (pc_notN (ha ii)), ?_⟩
  intro B G F H e σ Ē Q' Q k x h q
  refine sa B G F H e σ Ē _ _ k x h fun d1 e1 v1 F1 H1 h1 m1 k1 r1 => ?_
  have e0 : (!decide (v1 = V.non)) = !isNon d1 := by cases r1 <;> rfl
  rw [e0]
  exact q _ e1 _ F1 H1 h1 m1 k1 (.bl _)
/-- a op b op' c -/
def dChain (f f' : F2) (a b c : DE) : DE := fun Ē e Q => a Ē e fun x e1 => b Ē e1 fun y e2 => f x y fun z => match z with
  | .bl k => if k = true then c Ē e2 fun u e3 => f' y u fun w => Q w e3 else Q (.bl false) e2
  | _ => False
theorem pd_lele (ha : PD X v E a da) (hb : PD X v E b db) (hc : PD X v E c dc) : PD X v E (.Compare a [.LtE, .LtE] [b, c] pos) (dChain fLe fLe da db dc) := by
  obtain ⟨ta, ha, sa⟩ := ha.ex
  obtain ⟨tb, hb, sb⟩ := hb.ex
  obtain ⟨tc, hc, sc⟩ := hc.ex
  refine ⟨_, fun ii => pe_chain op_le op_le (ha ii) (hb ii) (hc ii) (nomark _), ?_⟩
  intro B G F H e σ Ē Q' Q kk x h q
  refine sa B G F H e σ Ē _ _ kk x h fun d1 e1 v1 F1 H1 h1 m1 k1 r1 => sb B G F1 H1 e1 σ Ē _ _ k1 (x.mv m1) h1 fun d2 e2 v2 F2 H2 h2 m2 k2 r2 => ?_
  refine sr_le F2 H2 d1 d2 v1 v2 _ _ k2.fh (r1.mono m2.ff) r2 h2 fun z u F3 H3 h3 g r3 => ?_
  cases z with
  | bl kb =>
    cases r3
    have m3 := (m1.trans m2).trans (k2.mv g)
    have k3 := k2.grow g
    refine ⟨kb, rfl, ?_⟩
    cases kb with
    | true =>
      refine sc B G F3 H3 e2 σ Ē _ _ k3 (x.mv m3) h3 fun d3 e3 v3 F4 H4 h4 m4 k4 r4 => ?_
      exact sr_le F4 H4 d2 d3 v2 v3 _ _ k4.fh ((r2.mono g.ff).mono m4.ff) r4 h4 fun z u F5 H5 h5 g5 r5 => q z e3 u F5 H5 h5 ((m3.trans m4).trans (k4.mv g5)) (k4.grow g5) r5
    | false => exact q _ e2 _ F3 H3 h3 m3 k3 (.bl _)
  | _ => exact h3.elim
/-! ### tests -/
theorem pt_of (ha : PD X v E a da) (he : ∀ ii whole, isTrue a (v ii).env whole = (do let v ← whole; standAt a.pos; holding [v] (truthy v)) := by intro _ _; rfl) : PDT X v E a (dTest da) := by
  obtain ⟨ta, ha, sa⟩ := ha.ex
  exact ⟨_, fun ii => pt_val (ha ii) (he ii), st_B sa⟩
theorem pt_cmp' {op : CmpOp} {r : R2} {f : F2} (ho : ∀ ii, OpR (X.atV (v ii)) (compareOp op) r) (hr : SR2 X.K X.mg r f) (ha : PD X v E a da) (hb : PD X v E b db) (hm : behindInMarks op b = false) : PDT X v E (.Compare a [op] [b] pos) (dTest (dBin f da db)) := by
  obtain ⟨ta, ha, sa⟩ := ha.ex
  obtain ⟨tb, hb, sb⟩ := hb.ex
  exact ⟨_, fun ii => pt_cmpR (ho ii) (ha ii) (hb ii) hm, st_test (se_op hr sa sb)⟩
theorem tt_eq (g : Good X k) (ha : PD X v E a da) (hb : PD X v E b db) : PDT X v E (.Compare a [.Eq] [b] pos) (dTest (dBin fEq da db)) := pt_cmp' (fun ii => op_eqD (X := X.atV (v ii)) g.hu) sr_eq ha hb (nomark _)
theorem tt_ne (g : Good X k) (ha : PD X v E a da) (hb : PD X v E b db) : PDT X v E (.Compare a [.NotEq] [b] pos) (dTest (dBin fNe da db)) := pt_cmp' (fun ii => op_neD (X := X.atV (v ii)) g.hu) sr_ne ha hb (nomark _)
theorem tt_lt (ha : PD X v E a da) (hb : PD X v E b db) : PDT X v E (.Compare a [.Lt] [b] pos) (dTest (dBin fLt da db)) := pt_cmp' (fun _ => op_lt) sr_lt ha hb (nomark _)
theorem tt_le (ha : PD X v E a da) (hb : PD X v E b db) : PDT X v E (.Compare a [.LtE] [b] pos) (dTest (dBin fLe da db)) := pt_cmp' (fun _ => op_le) sr_le ha hb (nomark _)
theorem tt_gt (ha : PD X v E a da) (hb : PD X v E b db) : PDT X v E (.Compare a [.Gt] [b] pos) (dTest (dBin fGt da db)) := pt_cmp' (fun _ => op_gt) sr_gt ha hb (nomark _)
theorem tt_ge (ha : PD X v E a da) (hb : PD X v E b db) : PDT X v E (.Compare a [.GtE] [b] pos) (dTest (dBin fGe da db)) := pt_cmp' (fun _ => op_ge) sr_ge ha hb (nomark _)
theorem tt_in (hu : X.A.units + 65 < cLine) (ha : PD X v E a da) (hb : PD X v E b db) (hm : behindInMarks .In b = false := by rfl) : PDT X v E (.Compare a [.In] [b] pos) (dTest (dBin (fIn false) da db)) :=
  pt_cmp' (fun ii => ((op_inD (X := X.atV (v ii)) hu).or op_in_str).or (op_inT (X := X.atV (v ii)) hu)) (sr_in (neg := false)) ha hb hm
theorem tt_nin (hu : X.A.units + 65 < cLine) (ha : PD X v E a da) (hb : PD X v E b db) (hm : behindInMarks .NotIn b = false := by rfl) : PDT X v E (.Compare a [.NotIn] [b] pos) (dTest (dBin (fIn true) da db)) :=
  pt_cmp' (fun ii => ((op_notInD (X := X.atV (v ii)) hu).or op_notIn_str).or (op_ninT (X := X.atV (v ii)) hu)) (sr_in (neg := true)) ha hb hm
theorem tt_isN {j pos'} (ha : PD X v E a da) : PDT X v E (.Compare a [.Is] [.Constant .none j pos'] pos) (dTest (fIsN da)) := by
  obtain ⟨ta, ha, sa⟩ := ha.ex
  refine ⟨_, fun ii => pt_cmp (pc_isN (ha ii)), st_B ?_⟩
  intro B G F H e σ Ē Q' Q k x h q
  refine sa B G F H e σ Ē _ _ k x h fun d1 e1 v1 F1 H1 h1 m1 k1 r1 => ?_
  have e0 : decide (v1 = V.non) = isNon d1 := by cases r1 <;> rfl
  rw [e0]
  exact q _ e1 _ F1 H1 h1 m1 k1 (.bl _)
theorem tt_notN {j pos'} (ha : PD X v E a da) : PDT X v E (.Compare a [.IsNot] [.Constant .none j pos'] pos) (dTest (fNotN da)) := by
  obtain ⟨ta, ha, sa⟩ := ha.ex
  refine ⟨_, fun ii => pt_cmp (pc_notN (ha ii)), st_B ?_⟩
  intro B G F H e σ Ē Q' Q k x h q
  refine sa B G F H e σ Ē _ _ k x h fun d1 e1 v1 F1 H1 h1 m1 k1 r1 => ?_
  have e0 : (!decide (v1 = V.non)) = !isNon d1 := by cases r1 <;> rfl
  rw [e0]
  exact q _ e1 _ F1 H1 h1 m1 k1 (.bl _)
theorem tt_not (h : PDT X v E a dt) : PDT X v E (.UnaryOp .Not a pos) (dNot dt) := by
  obtain ⟨t, h, s⟩ := h.ex
  exact ⟨_, fun ii => pt_not (h ii), st_not s⟩
/-- tests under and, or (whatever the whole is) -/
theorem PDW.pt (h : PDW X v E a dt) : PDT X v E a dt := by
  obtain ⟨t, h, s⟩ := h.ex
  exact ⟨_, fun ii => (h ii).pt, s⟩
theorem tw_and1 (h : PDT X v E a dt) : PDW X v E (.BoolOp .And [a] pos) dt := by
  obtain ⟨t, h, s⟩ := h.ex
  exact ⟨_, fun ii => pw_and1 (h ii), s⟩
theorem tw_or1 (h : PDT X v E a dt) : PDW X v E (.BoolOp .Or [a] pos) dt := by
  obtain ⟨t, h, s⟩ := h.ex
  exact ⟨_, fun ii => pw_or1 (h ii), s⟩
theorem tw_and {rest : List Expr} (h : PDT X v E a dt) (hr : PDW X v E (.BoolOp .And (b :: rest) pos) du) : PDW X v E (.BoolOp .And (a :: b :: rest) pos) (dAnd dt du) := by
  obtain ⟨t, h, s⟩ := h.ex
  obtain ⟨u, hr, sr⟩ := hr.ex
  exact ⟨_, fun ii => pw_and (h ii) (hr ii), st_and s sr⟩
theorem tw_or {rest : List Expr} (h : PDT X v E a dt) (hr : PDW X v E (.BoolOp .Or (b :: rest) pos) du) : PDW X v E (.BoolOp .Or (a :: b :: rest) pos) (dOr dt du) := by
  obtain ⟨t, h, s⟩ := h.ex
  obtain ⟨u, hr, sr⟩ := hr.ex
  exact ⟨_, fun ii => pw_or (h ii) (hr ii), st_or s sr⟩
/-! ### and, or, not, if as values -/
theorem pd_one {op} (h : PD X v E a da) : PD X v E (.BoolOp op [a] pos) da := by
  obtain ⟨t, h, s⟩ := h.ex
  exact ⟨_, fun ii => pe_one (h ii), s⟩
theorem pd_and {rest : List Expr} (ha : PD X v E a da) (hb : PD X v E (.BoolOp .And (b :: rest) pos) db) : PD X v E (.BoolOp .And (a :: b :: rest) pos) (dAndV da db) := by
  obtain ⟨ta, ha, sa⟩ := ha.ex
  obtain ⟨tb, hb, sb⟩ := hb.ex
  exact ⟨_, fun ii => pe_and (ha ii) (hb ii), se_andV sa sb⟩
theorem pd_or {rest : List Expr} (ha : PD X v E a da) (hb : PD X v E (.BoolOp .Or (b :: rest) pos) db) : PD X v E (.BoolOp .Or (a :: b :: rest) pos) (dOrV da db) := by
  obtain ⟨ta, ha, sa⟩ := ha.ex
  obtain ⟨tb, hb, sb⟩ := hb.ex
  exact ⟨_, fun ii => pe_or (ha ii) (hb ii), se_orV sa sb⟩
theorem pd_not (ha : PD X v E a da) : PD X v E (.UnaryOp .Not a pos) (dNotV da) := by
  obtain ⟨ta, ha, sa⟩ := ha.ex
  exact ⟨_, fun ii => pe_not (ha ii), se_notV sa⟩
theorem pd_ifE (hc : PDT X v E c dt) (ha : PD X v E a da) (hb : PD X v E b db) : PD X v E (.IfExp c a b pos) (dIfE dt da db) := by
  obtain ⟨t, hc, sc⟩ := hc.ex
  obtain ⟨ta, ha, sa⟩ := ha.ex
  obtain ⟨tb, hb, sb⟩ := hb.ex
  exact ⟨_, fun ii => pe_ifExp (hc ii) (ha ii) (hb ii), se_if sc sa sb⟩
/-! ### argument lists, displays, subscripts -/
theorem pda_nil : PDA X v E [] dNil := ⟨_, fun ii => pa_nil, sa_nil⟩
theorem pda_cons {es : List Expr} {dr : DA} (ha : PD X v E a da) (hr : PDA X v E es dr) (hs : ∀ ii, starEach (a :: es) (v ii).env = (false, eval a (v ii).env) :: starEach es (v ii).env := by intro _; rfl) : PDA X v E (a :: es) (dCons da dr) := by
  obtain ⟨ta, ha, sa⟩ := ha.ex
  obtain ⟨tr, hr, sr⟩ := hr.ex
  exact ⟨_, fun ii => pa_cons (ha ii) (hr ii) (hs ii), sa_cons sa sr⟩
theorem pd_tup {es : List Expr} {dr : DA} {x1} (h : PDA X v E es dr) : PD X v E (.Tuple es x1 pos) (dTup dr) := by
  obtain ⟨t, h, s⟩ := h.ex
  exact ⟨_, fun ii => pe_tup (h ii), se_tup s⟩
theorem pn_lst {es : List Expr} {dr : DA} (h : PDA X v E es dr) : PN X v E (.List es pos) (dLst dr) := by
  obtain ⟨t, h, s⟩ := h.ex
  exact ⟨_, fun ii => pe_lst (h ii), sn_lst s⟩
theorem pd_frz {dn : DN} (h : PN X v E a dn) : PD X v E a (dFrz dn) := by
  obtain ⟨t, h, s⟩ := h.ex
  exact ⟨_, h, se_frz s⟩
theorem pd_ix (ha : PD X v E a da) (hb : PD X v E b db) (hs : PlainIx b := by intro _ _; rfl) : PD X v E (.Subscript a b pos) (dBin fIx da db) := by
  obtain ⟨ta, ha, sa⟩ := ha.ex
  obtain ⟨tb, hb, sb⟩ := hb.ex
  exact ⟨_, fun ii => pe_ix ix_seq (ha ii) (hb ii) hs, se_op sr_ix sa sb⟩
/-! ### x[i], len(x), .. where x is a slot that may be owned -/
def ixO : O → D → (D → Prop) → Prop
  | .lst xs, .int i, Q => (match atI xs i with
    | some d => Q d
    | none => False)
  | _, _, _ => False
/-- the slot's index, whether frozen or owned; the index is evaluated behind it -/
def dIxV (i : Nat) (b : DE) : DE := fun Ē e Q => match e[i]? with
  | some (.fr d) => b Ē e fun y e1 => fIx d y fun z => Q z e1
  | some (.ow _ _) => b Ē e fun y e1 => match e1[i]? with
    | some (.ow _ o) => ixO o y fun z => Q z e1
    | some (.fr d) => fIx d y fun z => Q z e1
    | _ => False
  | _ => False
theorem se_ixV {i : Nat} {tb : TE} {K : PySem.W.Frag} {mg : Str → Option Value} (sb : SE K mg E tb db) : SE K mg E (tOp (rIx K) (tVar i) tb) (dIxV i db) := by
  intro B G F H e σ Ē Q' Q kk x h q
  unfold dIxV at h
  have frz : ∀ {d y : D} {v w : V} {e1 : DEnv} {F1 H1 : Hp}, Mv G F F1 → Ok K mg B G F1 H1 e1 σ → Rep K mg F1 d v → Rep K mg F1 y w → (fIx d y fun z => Q' z e1) → rIx K v w H1 Q := fun {d y v w e1 F1 H1} m1 k1 rd ry h1 =>
    sr_ix F1 H1 d y v w _ _ k1.fh rd ry h1 fun z u F3 H3 h3 g r3 => q z e1 u F3 H3 h3 (m1.trans (k1.mv g)) (k1.grow g) r3
  cases he : e[i]? with
  | none => rw [he] at h; exact h.elim
  | some s =>
    rw [he] at h
    cases s with
    | no => exact h.elim
    | fr d =>
      obtain ⟨v, h1, h2⟩ := kk.fr i d he
      exact ⟨v, h1, sb B G F H e σ Ē _ _ kk x h fun y e1 w F1 H1 h3 m1 k1 r1 => frz m1 k1 (h2.mono m1.ff) r1 h3⟩
    | ow fx o =>
      obtain ⟨p, u, h1, h2⟩ := kk.ow i fx o he
      refine ⟨_, h1, sb B G F H e σ Ē _ _ kk x h fun y e1 w F1 H1 h3 m1 k1 r1 => ?_⟩
      split at h3
      · rename_i he1
        obtain ⟨p', u', g1, g2, g3, g4, g5, _⟩ := k1.ow i _ _ he1
        rw [h1] at g1
        cases g1
        unfold ixO at h3
        split at h3
        · rename_i xs j
          cases r1
          cases g5 with
          | @lst _ vs l =>
            split at h3
            · rename_i d hd
              have : ∃ u, atI vs j = some u ∧ Rep K mg F1 d u := by
                unfold atI at hd ⊢
                rw [← l.length]
                cases z : ixN xs.length j with
                | none => rw [z] at hd; cases hd
                | some jj =>
                  rw [z] at hd
                  exact l.get (i := jj) hd
              obtain ⟨u, a1, a2⟩ := this
              exact .inl ⟨_, _, _, u, rfl, rfl, SqL.of g4, a1, q _ e1 _ F1 H1 h3 m1 k1 a2⟩
            · exact h3.elim
        · exact h3.elim
      · rename_i d he1
        obtain ⟨v', g1, g2⟩ := k1.fr i d he1
        rw [h1] at g1
        cases g1
        exact frz m1 k1 g2 r1 h3
      · exact h3.elim
theorem pd_ixV (i : Nat) {x : Str} {p : Pos} (hb : PD X v E b db) (hN : X.N[i]? = some x := by rfl) (hv : ∀ ii, Vis (v ii).env.scope x := by first | exact fun _ => Or.inl rfl | exact fun _ => Or.inr (Or.inl rfl) | exact fun _ => Or.inr (Or.inr rfl)) (hs : PlainIx b := by intro _ _; rfl) (hd : (x == ("__debug__" : Str)) = false := by decide)
    (hcd : (x == ("__classdict__" : Str)) = false := by decide) : PD X v E (.Subscript (.Name x p) b pos) (dIxV i db) := by
  obtain ⟨tb, hb, sb⟩ := hb.ex
  exact ⟨_, fun ii => pe_ix ix_seq (pe_var hN (hv ii) hd hcd) (hb ii) hs, se_ixV sb⟩
end
end DL

set_option Elab.async false
set_option linter.all false
set_option maxRecDepth 100000
set_option maxHeartbeats 8000000
namespace DL
open PySem PySem.Spec PyProof.Rows L2
/-! ### built-ins by values -/
def D.ints : List D → Option (List Int)
  | [] => some []
  | .int i :: r => match D.ints r with
    | some is => some (i :: is)
    | none => none
  | _ :: _ => none
theorem D.ints_eq : ∀ {ds : List D} {is : List Int}, D.ints ds = some is → ds = is.map D.int
  | [], is, h => by cases h; rfl
  | .int i :: r, is, h => by
    unfold D.ints at h
    cases q : D.ints r with
    | none => rw [q] at h; cases h
    | some js =>
      rw [q] at h
      cases h
      rw [List.map_cons, ← D.ints_eq q]
  | .non :: _, _, h => by cases h
  | .bl _ :: _, _, h => by cases h
  | .str _ :: _, _, h => by cases h
  | .tup _ :: _, _, h => by cases h
  | .lst _ :: _, _, h => by cases h
  | .ins _ _ :: _, _, h => by cases h
  | .scr _ :: _, _, h => by cases h
  | .dT _ :: _, _, h => by cases h
  | .dK _ :: _, _, h => by cases h
theorem D.ints_map (is : List Int) : D.ints (is.map D.int) = some is := by
  induction is with
  | nil => rfl
  | cons i is ih => rw [List.map_cons]; unfold D.ints; rw [ih]
def D.bls : List D → Option (List Bool)
  | [] => some []
  | .bl i :: r => match D.bls r with
    | some is => some (i :: is)
    | none => none
  | _ :: _ => none
theorem D.bls_eq : ∀ {ds : List D} {is : List Bool}, D.bls ds = some is → ds = is.map D.bl
  | [], is, h => by cases h; rfl
  | .bl i :: r, is, h => by
    unfold D.bls at h
    cases q : D.bls r with
    | none => rw [q] at h; cases h
    | some js =>
      rw [q] at h
      cases h
      rw [List.map_cons, ← D.bls_eq q]
  | .non :: _, _, h => by cases h
  | .int _ :: _, _, h => by cases h
  | .str _ :: _, _, h => by cases h
  | .tup _ :: _, _, h => by cases h
  | .lst _ :: _, _, h => by cases h
  | .ins _ _ :: _, _, h => by cases h
  | .scr _ :: _, _, h => by cases h
  | .dT _ :: _, _, h => by cases h
  | .dK _ :: _, _, h => by cases h
theorem D.bls_map (is : List Bool) : D.bls (is.map D.bl) = some is := by
  induction is with
  | nil => rfl
  | cons i is ih => rw [List.map_cons]; unfold D.bls; rw [ih]
def fLen : FL
  | [.tup xs], Q => Q (.int xs.length)
  | [.lst xs], Q => Q (.int xs.length)
  | [.scr xs], Q => Q (.int xs.length)
  | [.str x], Q => x.length ≤ sizeLine ∧ Q (.int x.length)
  | _, _ => False
def fInt : FL
  | [.int i], Q => Q (.int i)
  | [.bl b], Q => Q (.int (if b then 1 else 0))
  | _, _ => False
def fAbs : FL
  | [.int i], Q => Q (.int (if i < 0 then -i else i))
  | _, _ => False
def fMax2 : FL
  | [.int i, .int j], Q => Q (.int (if j > i then j else i))
  | _, _ => False
def fMin2 : FL
  | [.int i, .int j], Q => Q (.int (if j < i then j else i))
  | _, _ => False
def fSum : FL
  | [.lst xs], Q => (match D.ints xs with
    | some ns => Q (.int ns.sum)
    | none => False)
  | [.tup xs], Q => (match D.ints xs with
    | some ns => Q (.int ns.sum)
    | none => False)
  | _, _ => False
def maxI : List Int → Int
  | [] => 0
  | i :: is => is.foldl max i
def minI : List Int → Int
  | [] => 0
  | i :: is => is.foldl min i
def fMaxL : FL
  | [.lst xs], Q => (match D.ints xs with
    | some (n :: ns) => Q (.int (maxI (n :: ns)))
    | _ => False)
  | _, _ => False
def fMinL : FL
  | [.lst xs], Q => (match D.ints xs with
    | some (n :: ns) => Q (.int (minI (n :: ns)))
    | _ => False)
  | _, _ => False
def fAll : FL
  | [.lst xs], Q => (match D.bls xs with
    | some bs => Q (.bl (bs.all id))
    | none => False)
  | _, _ => False
def fAny : FL
  | [.lst xs], Q => (match D.bls xs with
    | some bs => Q (.bl (bs.any id))
    | none => False)
  | _, _ => False
def fTuple : FL
  | [.lst xs], Q => Q (.tup xs)
  | [.tup xs], Q => Q (.tup xs)
  | _, _ => False
theorem foldl_max_mem (is : List Int) : ∀ i, is.foldl max i ∈ i :: is := by
  induction is with
  | nil => intro i; simp
  | cons j js ih =>
    intro i
    rw [List.foldl_cons]
    have h := ih (max i j)
    rcases List.mem_cons.mp h with e | e
    · rw [e]
      by_cases q : i ≤ j
      · rw [Int.max_eq_right q]; simp
      · rw [Int.max_eq_left (by omega)]; simp
    · exact List.mem_cons_of_mem _ (List.mem_cons_of_mem _ e)
theorem le_foldl_max (is : List Int) : ∀ i, (∀ x ∈ i :: is, x ≤ is.foldl max i) := by
  induction is with
  | nil => intro i x hx; rw [List.mem_singleton.mp hx]; exact Int.le_refl _
  | cons j js ih =>
    intro i x hx
    rw [List.foldl_cons]
    rcases List.mem_cons.mp hx with e | e
    · have := ih (max i j) (max i j) (by simp); omega
    · rcases List.mem_cons.mp e with e | e
      · have := ih (max i j) (max i j) (by simp); omega
      · exact ih _ x (List.mem_cons_of_mem _ e)
theorem foldl_min_mem (is : List Int) : ∀ i, is.foldl min i ∈ i :: is := by
  induction is with
  | nil => intro i; simp
  | cons j js ih =>
    intro i
    rw [List.foldl_cons]
    have h := ih (min i j)
    rcases List.mem_cons.mp h with e | e
    · rw [e]
      by_cases q : i ≤ j
      · rw [Int.min_eq_left q]; simp
      · rw [Int.min_eq_right (by omega)]; simp
    · exact List.mem_cons_of_mem _ (List.mem_cons_of_mem _ e)
theorem foldl_min_le (is : List Int) : ∀ i, (∀ x ∈ i :: is, is.foldl min i ≤ x) := by
  induction is with
  | nil => intro i x hx; rw [List.mem_singleton.mp hx]; exact Int.le_refl _
  | cons j js ih =>
    intro i x hx
    rw [List.foldl_cons]
    rcases List.mem_cons.mp hx with e | e
    · have := ih (min i j) (min i j) (by simp); omega
    · rcases List.mem_cons.mp e with e | e
      · have := ih (min i j) (min i j) (by simp); omega
      · exact ih _ x (List.mem_cons_of_mem _ e)
section
variable {K : PySem.W.Frag} {mg : Str → Option Value}
theorem RepL.one {ds : List D} {vs : List V} {F : Hp} {d : D} (h : RepL K mg F ds vs) (e : ds = [d]) : ∃ v, vs = [v] ∧ Rep K mg F d v := by
  subst e
  cases h with
  | cons r l => cases l; exact ⟨_, rfl, r⟩
theorem sr_len : SRL K mg (fun xs H Q => (∃ p ys, xs = [.ref p] ∧ (SqL K H p ys ∨ SqT K H p ys) ∧ Q (.int ys.length) H) ∨ ∃ z, xs = [.str z] ∧ z.length ≤ sizeLine ∧ Q (.int z.length) H) fLen := by
  intro F H xs vs Q' Q hs l h q
  unfold fLen at h
  split at h
  · obtain ⟨v, rfl, r⟩ := l.one rfl
    cases r with
    | tup ha la => exact .inl ⟨_, _, rfl, .inr (SqT.of (hs _ _ ha)), by rw [← la.length]; exact q _ _ F H h (Gr.refl hs) (.int _)⟩
  · obtain ⟨v, rfl, r⟩ := l.one rfl
    cases r with
    | lst ha la => exact .inl ⟨_, _, rfl, .inl (SqL.of (hs _ _ ha)), by rw [← la.length]; exact q _ _ F H h (Gr.refl hs) (.int _)⟩
  · obtain ⟨v, rfl, r⟩ := l.one rfl
    cases r with
    | scr ha la => exact .inl ⟨_, _, rfl, .inl (same_l hs ha), by rw [← la.length]; exact q _ _ F H h (Gr.refl hs) (.int _)⟩
  · obtain ⟨v, rfl, r⟩ := l.one rfl
    cases r
    exact .inr ⟨_, rfl, h.1, q _ _ F H h.2 (Gr.refl hs) (.int _)⟩
  · exact h.elim
theorem sr_int : SRL K mg (fun xs H Q => (∃ i, xs = [.int i] ∧ Q (.int i) H) ∨ ∃ k, xs = [.bl k] ∧ Q (.int (if k then 1 else 0)) H) fInt := by
  intro F H xs vs Q' Q hs l h q
  unfold fInt at h
  split at h
  · obtain ⟨v, rfl, r⟩ := l.one rfl
    cases r
    exact .inl ⟨_, rfl, q _ _ F H h (Gr.refl hs) (.int _)⟩
  · obtain ⟨v, rfl, r⟩ := l.one rfl
    cases r
    exact .inr ⟨_, rfl, q _ _ F H h (Gr.refl hs) (.int _)⟩
  · exact h.elim
theorem sr_abs : SRL K mg (fun xs H Q => ∃ i, xs = [.int i] ∧ Q (.int (if i < 0 then -i else i)) H) fAbs := by
  intro F H xs vs Q' Q hs l h q
  unfold fAbs at h
  split at h
  · obtain ⟨v, rfl, r⟩ := l.one rfl
    cases r
    exact ⟨_, rfl, q _ _ F H h (Gr.refl hs) (.int _)⟩
  · exact h.elim
theorem sr_max2 : SRL K mg (fun xs H Q => ∃ i j, xs = [.int i, .int j] ∧ Q (.int (if j > i then j else i)) H) fMax2 := by
  intro F H xs vs Q' Q hs l h q
  unfold fMax2 at h
  split at h
  · cases l with
    | cons r l => cases l with
      | cons r2 l => cases l; cases r; cases r2; exact ⟨_, _, rfl, q _ _ F H h (Gr.refl hs) (.int _)⟩
  · exact h.elim
theorem sr_min2 : SRL K mg (fun xs H Q => ∃ i j, xs = [.int i, .int j] ∧ Q (.int (if j < i then j else i)) H) fMin2 := by
  intro F H xs vs Q' Q hs l h q
  unfold fMin2 at h
  split at h
  · cases l with
    | cons r l => cases l with
      | cons r2 l => cases l; cases r; cases r2; exact ⟨_, _, rfl, q _ _ F H h (Gr.refl hs) (.int _)⟩
  · exact h.elim
theorem lst_ints {xs : List D} {ns : List Int} {v : V} {F H : Hp} (hs : Same F H) (r : Rep K mg F (.lst xs) v) (e : D.ints xs = some ns) : ∃ a, v = .ref a ∧ SqL K H a (ns.map V.int) := by
  cases r with
  | @lst a _ vs ha la =>
    have := la.ints ns (D.ints_eq e)
    subst this
    exact ⟨a, rfl, SqL.of (hs _ _ ha)⟩
theorem RepL.bls : ∀ {ds : List D} {vs : List V} {F : Hp} (ns : List Bool), RepL K mg F ds vs → ds = ns.map D.bl → vs = ns.map V.bl
  | _, _, _, [], .nil, _ => rfl
  | _, _, _, [], .cons _ _, e => by cases e
  | _, _, _, n :: ns, .nil, e => by cases e
  | _, _, _, n :: ns, .cons r l, e => by
    rw [List.map_cons] at e
    injection e with e1 e2
    subst e1
    cases r
    rw [List.map_cons, RepL.bls ns l e2]
theorem lst_bls {xs : List D} {ns : List Bool} {v : V} {F H : Hp} (hs : Same F H) (r : Rep K mg F (.lst xs) v) (e : D.bls xs = some ns) : ∃ a, v = .ref a ∧ SqL K H a (ns.map V.bl) := by
  cases r with
  | @lst a _ vs ha la =>
    have := la.bls ns (D.bls_eq e)
    subst this
    exact ⟨a, rfl, SqL.of (hs _ _ ha)⟩
def rSumT (K : PySem.W.Frag) : List V → Hp → VK → Prop := fun vs H Q => ∃ (a : Addr) (ns : List Int), vs = [V.ref a] ∧ SqT K H a (ns.map V.int) ∧ Q (.int ns.sum) H
theorem cr_sumT {X : Cx} (hc : X.calm = true) : CallR X (.builtin "sum") (rSumT X.K) := by
  intro pins s σ H vs us Q I r h
  obtain ⟨a, ns, rfl, hs, q⟩ := h
  obtain ⟨its, rv, ht, _⟩ := I.tuple hs
  rw [Vals.ref1 r]
  have hi := rv.ints
  obtain ⟨xs, e⟩ := hi.allInts.items
  have hn : numsOf (intItems xs).toList = ns := by rw [← e]; exact hi.numsOf
  rw [nums_intItems] at hn
  rw [e] at ht
  obtain ⟨o, ho, hcls, n, hd⟩ := ht
  refine PySem.W.ktm_sumG (I.ok.hd hc) ⟨o, ho, hcls, n, hd⟩ fun h' tk t' hk => ?_
  have h9 : EP X pins σ Q (.int ns.sum t') { s with heap := h', toks := tk } := ⟨.int _, H, I.kept hk, ⟨_, rfl⟩, q⟩
  rw [preSum_eq, List.take_of_length_le (by simp), hn]
  exact h9
theorem tup_ints {xs : List D} {ns : List Int} {v : V} {F H : Hp} (hs : Same F H) (r : Rep K mg F (.tup xs) v) (e : D.ints xs = some ns) : ∃ a, v = .ref a ∧ SqT K H a (ns.map V.int) := by
  cases r with
  | @tup a _ vs ha la =>
    have := la.ints ns (D.ints_eq e)
    subst this
    exact ⟨a, rfl, SqT.of (hs _ _ ha)⟩
theorem sr_sum : SRL K mg (fun vs H Q => rSum K vs H Q ∨ rSumT K vs H Q) fSum := by
  intro F H xs vs Q' Q hs l h q
  unfold fSum at h
  split at h
  · obtain ⟨v, rfl, r⟩ := l.one rfl
    split at h
    · rename_i ns e
      obtain ⟨a, rfl, ha⟩ := lst_ints hs r e
      exact .inl ⟨a, ns, rfl, ha, q _ _ F H h (Gr.refl hs) (.int _)⟩
    · exact h.elim
  · obtain ⟨v, rfl, r⟩ := l.one rfl
    split at h
    · rename_i ns e
      obtain ⟨a, rfl, ha⟩ := tup_ints hs r e
      exact .inr ⟨a, ns, rfl, ha, q _ _ F H h (Gr.refl hs) (.int _)⟩
    · exact h.elim
  · exact h.elim
theorem sr_maxL : SRL K mg (rMax K) fMaxL := by
  intro F H xs vs Q' Q hs l h q
  unfold fMaxL at h
  split at h
  · obtain ⟨v, rfl, r⟩ := l.one rfl
    split at h
    · rename_i n ns e
      obtain ⟨a, rfl, ha⟩ := lst_ints hs r e
      refine ⟨a, n :: ns, rfl, ha, by simp, fun m hm hle => ?_⟩
      have e : m = maxI (n :: ns) := by
        have h1 := le_foldl_max ns n m hm
        have h2 := hle _ (foldl_max_mem ns n)
        show m = ns.foldl max n
        omega
      rw [e]
      exact q _ _ F H h (Gr.refl hs) (.int _)
    · exact h.elim
  · exact h.elim
theorem sr_minL : SRL K mg (rMin K) fMinL := by
  intro F H xs vs Q' Q hs l h q
  unfold fMinL at h
  split at h
  · obtain ⟨v, rfl, r⟩ := l.one rfl
    split at h
    · rename_i n ns e
      obtain ⟨a, rfl, ha⟩ := lst_ints hs r e
      refine ⟨a, n :: ns, rfl, ha, by simp, fun m hm hle => ?_⟩
      have e : m = minI (n :: ns) := by
        have h1 := foldl_min_le ns n m hm
        have h2 := hle _ (foldl_min_mem ns n)
        show m = ns.foldl min n
        omega
      rw [e]
      exact q _ _ F H h (Gr.refl hs) (.int _)
    · exact h.elim
  · exact h.elim
theorem sr_all : SRL K mg (rAll K) fAll := by
  intro F H xs vs Q' Q hs l h q
  unfold fAll at h
  split at h
  · obtain ⟨v, rfl, r⟩ := l.one rfl
    split at h
    · rename_i ns e
      obtain ⟨a, rfl, ha⟩ := lst_bls hs r e
      exact ⟨a, ns, rfl, ha, q _ _ F H h (Gr.refl hs) (.bl _)⟩
    · exact h.elim
  · exact h.elim
theorem sr_any : SRL K mg (rAny K) fAny := by
  intro F H xs vs Q' Q hs l h q
  unfold fAny at h
  split at h
  · obtain ⟨v, rfl, r⟩ := l.one rfl
    split at h
    · rename_i ns e
      obtain ⟨a, rfl, ha⟩ := lst_bls hs r e
      exact ⟨a, ns, rfl, ha, q _ _ F H h (Gr.refl hs) (.bl _)⟩
    · exact h.elim
  · exact h.elim
theorem sr_tuple : SRL K mg (fun xs H Q => ∃ p ys, xs = [.ref p] ∧ ((SqL K H p ys ∧ ∀ l, H l = none → Q (.ref l) (upd H l (.tup ys))) ∨ (SqT K H p ys ∧ Q (.ref p) H))) fTuple := by
  intro F H xs vs Q' Q hs l h q
  unfold fTuple at h
  split at h
  · obtain ⟨v, rfl, r⟩ := l.one rfl
    cases r with
    | @lst a _ ws ha la =>
      refine ⟨_, ws, rfl, .inl ⟨SqL.of (hs _ _ ha), fun p hp => ?_⟩⟩
      have g : Gr F H (upd F p (.tup ws)) (upd H p (.tup ws)) := Gr.new hs hp
      exact q _ _ _ _ h g (.tup upd_same (la.mono g.ff))
  · obtain ⟨v, rfl, r⟩ := l.one rfl
    cases r with
    | tup ha la => exact ⟨_, _, rfl, .inr ⟨SqT.of (hs _ _ ha), q _ _ F H h (Gr.refl hs) (.tup ha la)⟩⟩
  · exact h.elim
end
section
variable {X : Cx} {ι : Type} {v : ι → Vy} {E : L2.St → XK} {k : Nat} {a : Expr} {da : DE} {pos p : Pos} {es : List Expr} {dr : DA}
theorem pd_cb {x : Str} {id : String} {r : List V → Hp → VK → Prop} {f : FL} (hc : ∀ ii, CallR (X.atV (v ii)) (.builtin id) r) (hr : SRL X.K X.mg r f) (hm : X.mg x = none) (hv : bootBuiltins x = some (.builtin id)) (ha : PDA X v E (a :: es) dr) (hg : ∀ ii, Gl (X.atV (v ii)) x := by intro _; rfl) (hn : x ≠ "__name__" := by decide) (hdb : (x == ("__debug__" : Str)) = false := by decide)
    (he : ∀ ii, starEach (a :: es) (v ii).env = (false, eval a (v ii).env) :: starEach es (v ii).env := by intro _; rfl) (hpl : ∀ ii, (backTo pos (starEach es (v ii).env)).any (·.1) = false := by intro _; rfl) : PD X v E (.Call (.Name x p) (a :: es) [] pos) (dCB f dr) := by
  obtain ⟨t, ha, sa⟩ := ha.ex
  exact ⟨_, fun ii => pe_callB (hc ii) (hg ii) hm hv (ha ii) hn hdb (he ii) (hpl ii), se_cb hr sa⟩
theorem pd_cty {x : Str} {T : String} {r : List V → Hp → VK → Prop} {f : FL} (hc : ∀ ii, CallR (X.atV (v ii)) (.type T) r) (hr : SRL X.K X.mg r f) (hm : X.mg x = none) (hv : bootBuiltins x = some (.type T)) (ha : PDA X v E (a :: es) dr) (hg : ∀ ii, Gl (X.atV (v ii)) x := by intro _; rfl) (hn : x ≠ "__name__" := by decide) (hdb : (x == ("__debug__" : Str)) = false := by decide)
    (he : ∀ ii, starEach (a :: es) (v ii).env = (false, eval a (v ii).env) :: starEach es (v ii).env := by intro _; rfl) (hpl : ∀ ii, (backTo pos (starEach es (v ii).env)).any (·.1) = false := by intro _; rfl) : PD X v E (.Call (.Name x p) (a :: es) [] pos) (dCB f dr) := by
  obtain ⟨t, ha, sa⟩ := ha.ex
  exact ⟨_, fun ii => pe_callTy (hc ii) (hg ii) hm hv (ha ii) hn hdb (he ii) (hpl ii), se_cb hr sa⟩
def rLstOf (K : PySem.W.Frag) : List V → Hp → VK → Prop := fun xs H Q => ∃ p ys, xs = [.ref p] ∧ (SqL K H p ys ∨ SqT K H p ys) ∧ ∀ l, H l = none → Q (.ref l) (upd H l (.lst ys))
/-- list(x): a new list -/
def dListOf (a : DE) : DN := fun Ē e Q => a Ē e fun x e1 => match x with
  | .lst xs => Q (.lst xs) e1
  | .tup xs => Q (.lst xs) e1
  | _ => False
theorem pn_list (hm : X.mg "list" = none) (ha : PD X v E a da) (hg : ∀ ii, Gl (X.atV (v ii)) "list" := by intro _; rfl) (hs : ∀ ii, starEach [a] (v ii).env = (false, eval a (v ii).env) :: starEach [] (v ii).env := by intro _; rfl) : PN X v E (.Call (.Name "list" p) [a] [] pos) (dListOf da) := by
  obtain ⟨ta, ha, sa⟩ := ha.ex
  refine ⟨_, fun ii => pe_callTy (T := "list") (r := rLstOf X.K) (call_list_of (X := X.atV (v ii))) (hg ii) hm PyProof.Rows.boot_list (pa_cons (ha ii) pa_nil (hs ii)) (by decide) (by decide) (hs ii) rfl, ?_⟩
  intro B G F H e σ Ē Q' Q kk x h q
  refine sa B G F H e σ Ē _ _ kk x h fun d1 e1 v1 F1 H1 h1 m1 k1 r1 => ?_
  cases d1 with
  | lst xs =>
    cases r1 with
    | @lst b _ vs hb lb =>
      refine ⟨b, vs, rfl, .inl (SqL.of (k1.fh _ _ hb)), fun l hl => ?_⟩
      have g : Gr F1 H1 F1 (upd H1 l (.lst vs)) := Gr.loose k1.fh hl
      exact q _ e1 l _ _ _ h1 (m1.trans (k1.mv g)) (k1.grow g) (fresh_new k1 hl) (.lst lb)
  | tup xs =>
    cases r1 with
    | @tup b _ vs hb lb =>
      refine ⟨b, vs, rfl, .inr (SqT.of (k1.fh _ _ hb)), fun l hl => ?_⟩
      have g : Gr F1 H1 F1 (upd H1 l (.lst vs)) := Gr.loose k1.fh hl
      exact q _ e1 l _ _ _ h1 (m1.trans (k1.mv g)) (k1.grow g) (fresh_new k1 hl) (.lst lb)
  | _ => exact h1.elim
/-- f(x) of a slot that may be owned: it is read only -/
def dOwnL (i : Nat) (f : List D → (D → Prop) → Prop) (a : DE) : DE := fun Ē e Q => match e[i]? with
  | some (.ow _ (.lst xs)) => f [.lst xs] fun z => Q z e
  | _ => a Ē e Q
/-- what is read of a list alone: it stays so if the list is frozen for the while -/
theorem se_ownL {K : PySem.W.Frag} {mg : Str → Option Value} {i : Nat} {f : FL} {r : List V → Hp → VK → Prop} (hr : SRL K mg r f) (hp : ∀ (F : Hp) (xs : List D) (Q : D → Prop), f [.lst xs] Q → f [.lst xs] fun z => Q z ∧ ∀ (F0 F1 : Hp) u, Rep K mg F1 z u → Rep K mg F0 z u) :
    SE K mg E (tCB r (tCons (tVar i) tNil)) (dOwnL i f (dCB f (dCons (dVar i) dNil))) := by
  intro B G F H e σ Ē Q' Q kk x h q
  unfold dOwnL at h
  split at h
  · rename_i fx xs he
    obtain ⟨a, u, h1, h2, h3, h4, h5, h6⟩ := kk.ow i fx _ he
    cases h5 with
    | @lst _ vs l =>
      have m : Same F (upd F a (.lst vs)) := same_new h2
      have hs : Same (upd F a (.lst vs)) H := fun b o hb => by
        by_cases z : b = a
        · subst z; rw [upd_same] at hb; rw [← hb]; exact h4
        · rw [upd_ne z] at hb; exact kk.fh b o hb
      refine ⟨_, h1, hr (upd F a (.lst vs)) H [.lst xs] [.ref a] _ _ hs (.cons (.lst upd_same (l.mono m)) .nil) (hp F xs _ h) fun z w F3 H3 ⟨h3', hz⟩ g r3 => ?_⟩
      have g' : Gr F H F H3 := ⟨Same.refl F, kk.fh.trans g.hh, g.hh, fun _ _ _ => rfl⟩
      exact q z e w F H3 h3' (kk.mv g') (kk.grow g') (hz F F3 w r3)
  · exact se_cb hr (sa_cons se_var sa_nil) B G F H e σ Ē Q' Q kk x h q
theorem rep_int {K : PySem.W.Frag} {mg : Str → Option Value} {F0 F1 : Hp} {i : Int} {u : V} (h : Rep K mg F1 (.int i) u) : Rep K mg F0 (.int i) u := by cases h; exact .int i
theorem rep_bl {K : PySem.W.Frag} {mg : Str → Option Value} {F0 F1 : Hp} {i : Bool} {u : V} (h : Rep K mg F1 (.bl i) u) : Rep K mg F0 (.bl i) u := by cases h; exact .bl i
end
end DL

set_option Elab.async false
set_option linter.all false
set_option maxRecDepth 100000
set_option maxHeartbeats 8000000
namespace DL
open PySem PySem.Spec PyProof.Rows L2
/-! ### built-ins over the text -/
section
variable {X : Cx} {ι : Type} {v : ι → Vy} {E : L2.St → XK} {k : Nat} {a b : Expr} {da db : DE} {pos p : Pos} {es : List Expr} {dr : DA}
theorem pd_len (hm : X.mg "len" = none) (ha : PD X v E a da) (hg : ∀ ii, Gl (X.atV (v ii)) "len" := by intro _; rfl) (he : ∀ ii, starEach [a] (v ii).env = (false, eval a (v ii).env) :: starEach [] (v ii).env := by intro _; rfl) : PD X v E (.Call (.Name "len" p) [a] [] pos) (dCB fLen (dCons da dNil)) :=
  pd_cb (fun _ => (call_len_seq.or call_len_str)) sr_len hm PySem.boot_len (pda_cons ha pda_nil he) hg (by decide) (by decide) he (fun _ => rfl)
theorem pd_lenV (i : Nat) {x : Str} {q : Pos} (hm : X.mg "len" = none) (hN : X.N[i]? = some x := by rfl) (hv : ∀ ii, Vis (v ii).env.scope x := by first | exact fun _ => Or.inl rfl | exact fun _ => Or.inr (Or.inl rfl) | exact fun _ => Or.inr (Or.inr rfl)) (hd : (x == ("__debug__" : Str)) = false := by decide)
    (hcd : (x == ("__classdict__" : Str)) = false := by decide) (hg : ∀ ii, Gl (X.atV (v ii)) "len" := by intro _; rfl) (he : ∀ ii, starEach [.Name x q] (v ii).env = (false, eval (.Name x q) (v ii).env) :: starEach [] (v ii).env := by intro _; rfl) :
    PD X v E (.Call (.Name "len" p) [.Name x q] [] pos) (dOwnL i fLen (dCB fLen (dCons (dVar i) dNil))) :=
  ⟨_, fun ii => pe_callB (call_len_seq.or call_len_str) (hg ii) hm PySem.boot_len (pa_cons (pe_var hN (hv ii) hd hcd) pa_nil (he ii)) (by decide) (by decide) (he ii) rfl, se_ownL sr_len fun _ _ _ h => ⟨h, fun _ _ _ r => rep_int r⟩⟩
theorem pd_int1 (hm : X.mg "int" = none) (ha : PD X v E a da) (hg : ∀ ii, Gl (X.atV (v ii)) "int" := by intro _; rfl) (he : ∀ ii, starEach [a] (v ii).env = (false, eval a (v ii).env) :: starEach [] (v ii).env := by intro _; rfl) : PD X v E (.Call (.Name "int" p) [a] [] pos) (dCB fInt (dCons da dNil)) :=
  pd_cty (fun _ => call_int1) sr_int hm PyProof.Rows.boot_int (pda_cons ha pda_nil he) hg (by decide) (by decide) he (fun _ => rfl)
theorem pd_abs (hm : X.mg "abs" = none) (ha : PD X v E a da) (hg : ∀ ii, Gl (X.atV (v ii)) "abs" := by intro _; rfl) (he : ∀ ii, starEach [a] (v ii).env = (false, eval a (v ii).env) :: starEach [] (v ii).env := by intro _; rfl) : PD X v E (.Call (.Name "abs" p) [a] [] pos) (dCB fAbs (dCons da dNil)) :=
  pd_cb (fun _ => call_abs) sr_abs hm PyProof.Rows.boot_abs (pda_cons ha pda_nil he) hg (by decide) (by decide) he (fun _ => rfl)
theorem pd_max2 (g : Good X k) (hm : X.mg "max" = none) (ha : PD X v E a da) (hb : PD X v E b db) (hg : ∀ ii, Gl (X.atV (v ii)) "max" := by intro _; rfl) (he : ∀ ii, starEach [a, b] (v ii).env = (false, eval a (v ii).env) :: starEach [b] (v ii).env := by intro _; rfl) (he2 : ∀ ii, starEach [b] (v ii).env = (false, eval b (v ii).env) :: starEach [] (v ii).env := by intro _; rfl) (hpl : ∀ ii, (backTo pos (starEach [b] (v ii).env)).any (·.1) = false := by intro _; rfl) :
    PD X v E (.Call (.Name "max" p) [a, b] [] pos) (dCB fMax2 (dCons da (dCons db dNil))) :=
  pd_cb (fun ii => call_max2 (X := X.atV (v ii)) g.calm) sr_max2 hm PyProof.Rows.boot_max (pda_cons ha (pda_cons hb pda_nil he2) he) hg (by decide) (by decide) he hpl
theorem pd_min2 (g : Good X k) (hm : X.mg "min" = none) (ha : PD X v E a da) (hb : PD X v E b db) (hg : ∀ ii, Gl (X.atV (v ii)) "min" := by intro _; rfl) (he : ∀ ii, starEach [a, b] (v ii).env = (false, eval a (v ii).env) :: starEach [b] (v ii).env := by intro _; rfl) (he2 : ∀ ii, starEach [b] (v ii).env = (false, eval b (v ii).env) :: starEach [] (v ii).env := by intro _; rfl) (hpl : ∀ ii, (backTo pos (starEach [b] (v ii).env)).any (·.1) = false := by intro _; rfl) :
    PD X v E (.Call (.Name "min" p) [a, b] [] pos) (dCB fMin2 (dCons da (dCons db dNil))) :=
  pd_cb (fun ii => call_min2 (X := X.atV (v ii)) g.calm) sr_min2 hm PyProof.Rows.boot_min (pda_cons ha (pda_cons hb pda_nil he2) he) hg (by decide) (by decide) he hpl
theorem pd_sum (g : Good X k) (hm : X.mg "sum" = none) (ha : PD X v E a da) (hg : ∀ ii, Gl (X.atV (v ii)) "sum" := by intro _; rfl) (he : ∀ ii, starEach [a] (v ii).env = (false, eval a (v ii).env) :: starEach [] (v ii).env := by intro _; rfl) : PD X v E (.Call (.Name "sum" p) [a] [] pos) (dCB fSum (dCons da dNil)) :=
  pd_cb (fun ii => (cr_sum (X := X.atV (v ii)) g.calm).or (cr_sumT (X := X.atV (v ii)) g.calm)) sr_sum hm PyProof.Rows.boot_sum (pda_cons ha pda_nil he) hg (by decide) (by decide) he (fun _ => rfl)
theorem pd_maxL (g : Good X k) (hm : X.mg "max" = none) (ha : PD X v E a da) (hg : ∀ ii, Gl (X.atV (v ii)) "max" := by intro _; rfl) (he : ∀ ii, starEach [a] (v ii).env = (false, eval a (v ii).env) :: starEach [] (v ii).env := by intro _; rfl) : PD X v E (.Call (.Name "max" p) [a] [] pos) (dCB fMaxL (dCons da dNil)) :=
  pd_cb (fun ii => cr_max (X := X.atV (v ii)) g.calm) sr_maxL hm PyProof.Rows.boot_max (pda_cons ha pda_nil he) hg (by decide) (by decide) he (fun _ => rfl)
theorem pd_minL (g : Good X k) (hm : X.mg "min" = none) (ha : PD X v E a da) (hg : ∀ ii, Gl (X.atV (v ii)) "min" := by intro _; rfl) (he : ∀ ii, starEach [a] (v ii).env = (false, eval a (v ii).env) :: starEach [] (v ii).env := by intro _; rfl) : PD X v E (.Call (.Name "min" p) [a] [] pos) (dCB fMinL (dCons da dNil)) :=
  pd_cb (fun ii => cr_min (X := X.atV (v ii)) g.calm) sr_minL hm PyProof.Rows.boot_min (pda_cons ha pda_nil he) hg (by decide) (by decide) he (fun _ => rfl)
theorem pd_all (g : Good X k) (hm : X.mg "all" = none) (ha : PD X v E a da) (hg : ∀ ii, Gl (X.atV (v ii)) "all" := by intro _; rfl) (he : ∀ ii, starEach [a] (v ii).env = (false, eval a (v ii).env) :: starEach [] (v ii).env := by intro _; rfl) : PD X v E (.Call (.Name "all" p) [a] [] pos) (dCB fAll (dCons da dNil)) :=
  pd_cb (fun ii => cr_all (X := X.atV (v ii)) g.calm) sr_all hm PyProof.Rows.boot_all (pda_cons ha pda_nil he) hg (by decide) (by decide) he (fun _ => rfl)
theorem pd_any (g : Good X k) (hm : X.mg "any" = none) (ha : PD X v E a da) (hg : ∀ ii, Gl (X.atV (v ii)) "any" := by intro _; rfl) (he : ∀ ii, starEach [a] (v ii).env = (false, eval a (v ii).env) :: starEach [] (v ii).env := by intro _; rfl) : PD X v E (.Call (.Name "any" p) [a] [] pos) (dCB fAny (dCons da dNil)) :=
  pd_cb (fun ii => cr_any (X := X.atV (v ii)) g.calm) sr_any hm PyProof.Rows.boot_any (pda_cons ha pda_nil he) hg (by decide) (by decide) he (fun _ => rfl)
theorem pd_tuple (hm : X.mg "tuple" = none) (ha : PD X v E a da) (hg : ∀ ii, Gl (X.atV (v ii)) "tuple" := by intro _; rfl) (he : ∀ ii, starEach [a] (v ii).env = (false, eval a (v ii).env) :: starEach [] (v ii).env := by intro _; rfl) : PD X v E (.Call (.Name "tuple" p) [a] [] pos) (dCB fTuple (dCons da dNil)) :=
  pd_cty (fun _ => call_tuple_of) sr_tuple hm PyProof.Rows.boot_tuple (pda_cons ha pda_nil he) hg (by decide) (by decide) he (fun _ => rfl)
/-! ### isinstance of built-in classes -/
inductive Ty where
  | int | bool | str | tuple | list
def Ty.name : Ty → String
  | .int => "int" | .bool => "bool" | .str => "str" | .tuple => "tuple" | .list => "list"
def D.isTy : D → Ty → Option Bool
  | .non, _ => some false
  | .bl _, .int => some true
  | .bl _, .bool => some true
  | .bl _, _ => some false
  | .int _, .int => some true
  | .int _, _ => some false
  | .str _, .str => some true
  | .str _, _ => some false
  | .tup _, .tuple => some true
  | .tup _, _ => some false
  | .lst _, .list => some true
  | .lst _, _ => some false
  | _, _ => none
def fIsTy (t : Ty) : F1 := fun x Q => match x.isTy t with
  | some b => Q (.bl b)
  | none => False
def D.tyN : D → Option String
  | .non => some "NoneType" | .bl _ => some "bool" | .int _ => some "int" | .str _ => some "str" | .tup _ => some "tuple" | .lst _ => some "list" | _ => none
theorem isTy_of {K : PySem.W.Frag} {mg : Str → Option Value} {F H : Hp} {d : D} {v : V} {t : Ty} {b : Bool} (hs : Same F H) (r : Rep K mg F d v) (h : d.isTy t = some b) : ∃ n, d.tyN = some n ∧ TyX K H v (.type n) ∧ PySem.W.kitOne K (.type n) (.type t.name) = some b := by
  cases r with
  | non => exact ⟨_, rfl, .base .non, kit_ty (by cases t <;> (cases h; decide +kernel))⟩
  | bl c => exact ⟨_, rfl, .base (.bl c), kit_ty (by cases t <;> (cases h; decide +kernel))⟩
  | int c => exact ⟨_, rfl, .base (.int c), kit_ty (by cases t <;> (cases h; decide +kernel))⟩
  | str c => exact ⟨_, rfl, .base (.str c), kit_ty (by cases t <;> (cases h; decide +kernel))⟩
  | tup ha la => exact ⟨_, rfl, .base (.tup (hs _ _ ha)), kit_ty (by cases t <;> (cases h; decide +kernel))⟩
  | lst ha la => exact ⟨_, rfl, .base (.lst (hs _ _ ha)), kit_ty (by cases t <;> (cases h; decide +kernel))⟩
  | ins m ha l => cases t <;> cases h
  | scr ha l => cases t <;> cases h
  | dT ha l => cases t <;> cases h
  | dK ha l => cases t <;> cases h
  | exc0 => cases t <;> cases h
  | exc ha l => cases t <;> cases h
theorem pd_isi (t : Ty) {tn : Str} {pt : Pos} (hi : X.mg "isinstance" = none) (ht : X.mg tn = none) (hb : bootBuiltins tn = some (.type t.name)) (ha : PD X v E a da) (hn : tn ≠ "__name__" := by decide) (hdb : (tn == ("__debug__" : Str)) = false := by decide) (hgt : ∀ ii, Gl (X.atV (v ii)) tn := by intro _; rfl) (hg : ∀ ii, Gl (X.atV (v ii)) "isinstance" := by intro _; rfl)
    (he : ∀ ii, starEach [a, .Name tn pt] (v ii).env = (false, eval a (v ii).env) :: starEach [.Name tn pt] (v ii).env := by intro _; rfl) (he2 : ∀ ii, starEach [.Name tn pt] (v ii).env = (false, eval (.Name tn pt) (v ii).env) :: starEach [] (v ii).env := by intro _; rfl) (hpl : ∀ ii, (backTo pos (starEach [.Name tn pt] (v ii).env)).any (·.1) = false := by intro _; rfl) :
    PD X v E (.Call (.Name "isinstance" p) [a, .Name tn pt] [] pos) (dUn (fIsTy t) da) := by
  obtain ⟨ta, ha, sa⟩ := ha.ex
  refine ⟨_, fun ii => pe_callB (r := rIsi X.K) (call_isi (X := X.atV (v ii))) (hg ii) hi PyProof.Rows.boot_isinstance (pa_cons (ha ii) (pa_cons (pe_bltn (v := .ty t.name) (hgt ii) ht hb rfl hn hdb) pa_nil (he2 ii)) (he ii)) (by decide) (by decide) (he ii) (hpl ii), ?_⟩
  intro B G F H e σ Ē Q' Q kk x h q
  refine sa B G F H e σ Ē _ _ kk x h fun d1 e1 v1 F1 H1 h1 m1 k1 r1 => ?_
  unfold fIsTy at h1
  split at h1
  · rename_i bb hb1
    obtain ⟨n, _, h2, h3⟩ := isTy_of k1.fh r1 hb1
    exact ⟨v1, .ty t.name, .type n, .type t.name, bb, rfl, .ty _, h2, h3, q _ e1 _ F1 H1 h1 m1 k1 (.bl _)⟩
  · exact h1.elim
def fIsTy2 (t u : Ty) : F1 := fun x Q => match x.isTy t, x.isTy u with
  | some b, some c => Q (.bl (b || c))
  | _, _ => False
theorem pd_isi2 (t u : Ty) {tn un : Str} {pt pu ptt : Pos} {x1} (hi : X.mg "isinstance" = none) (ht : X.mg tn = none) (hb : bootBuiltins tn = some (.type t.name)) (hu : X.mg un = none) (hbu : bootBuiltins un = some (.type u.name)) (ha : PD X v E a da) (hn : tn ≠ "__name__" := by decide) (hdb : (tn == ("__debug__" : Str)) = false := by decide)
    (hn2 : un ≠ "__name__" := by decide) (hdb2 : (un == ("__debug__" : Str)) = false := by decide) (hgt : ∀ ii, Gl (X.atV (v ii)) tn := by intro _; rfl) (hgu : ∀ ii, Gl (X.atV (v ii)) un := by intro _; rfl) (hg : ∀ ii, Gl (X.atV (v ii)) "isinstance" := by intro _; rfl)
    (h1 : ∀ ii, starEach [.Name tn pt, .Name un pu] (v ii).env = (false, eval (.Name tn pt) (v ii).env) :: starEach [.Name un pu] (v ii).env := by intro _; rfl) (h2 : ∀ ii, starEach [.Name un pu] (v ii).env = (false, eval (.Name un pu) (v ii).env) :: starEach [] (v ii).env := by intro _; rfl)
    (he : ∀ ii, starEach [a, .Tuple [.Name tn pt, .Name un pu] x1 ptt] (v ii).env = (false, eval a (v ii).env) :: starEach [.Tuple [.Name tn pt, .Name un pu] x1 ptt] (v ii).env := by intro _; rfl) (he2 : ∀ ii, starEach [.Tuple [.Name tn pt, .Name un pu] x1 ptt] (v ii).env = (false, eval (.Tuple [.Name tn pt, .Name un pu] x1 ptt) (v ii).env) :: starEach [] (v ii).env := by intro _; rfl)
    (hpl : ∀ ii, (backTo pos (starEach [.Tuple [.Name tn pt, .Name un pu] x1 ptt] (v ii).env)).any (·.1) = false := by intro _; rfl) :
    PD X v E (.Call (.Name "isinstance" p) [a, .Tuple [.Name tn pt, .Name un pu] x1 ptt] [] pos) (dUn (fIsTy2 t u) da) := by
  obtain ⟨ta, ha, sa⟩ := ha.ex
  refine ⟨_, fun ii => pe_callB (r := rIsiT X.K) (call_isiT (X := X.atV (v ii))) (hg ii) hi PyProof.Rows.boot_isinstance (pa_cons (ha ii) (pa_cons (pe_tup (pa_cons (pe_bltn (v := .ty t.name) (hgt ii) ht hb rfl hn hdb) (pa_cons (pe_bltn (v := .ty u.name) (hgu ii) hu hbu rfl hn2 hdb2) pa_nil (h2 ii)) (h1 ii))) pa_nil (he2 ii)) (he ii)) (by decide) (by decide) (he ii) (hpl ii), ?_⟩
  intro B G F H e σ Ē Q' Q kk x h q
  refine sa B G F H e σ Ē _ _ kk x h fun d1 e1 v1 F1 H1 h1 m1 k1 r1 => ⟨by show 2 ≤ sizeLine; decide, fun tp htp => ?_⟩
  unfold fIsTy2 at h1
  have g : Gr F1 H1 F1 (upd H1 tp (.tup [.ty t.name, .ty u.name])) := Gr.loose k1.fh htp
  split at h1
  · rename_i b1 b2 hb1 hb2
    obtain ⟨w, q0, q1, q2⟩ := isTy_of (k1.fh.trans g.hh) r1 hb1
    obtain ⟨w', q5, q3, q4⟩ := isTy_of (k1.fh.trans g.hh) r1 hb2
    rw [q0] at q5
    cases q5
    refine ⟨v1, tp, _, .type w, [.type t.name, .type u.name], b1 || b2, rfl, upd_same, .cons (.ty _) (.cons (.ty _) .nil), q1, ?_, q _ e1 _ F1 _ h1 (m1.trans (k1.mv g)) (k1.grow g) (.bl _)⟩
    cases b1 with
    | true => exact kitAny_cons q2 (fun z => nomatch z) fun _ => rfl
    | false => cases b2 with
      | true => exact kitAny_cons q2 (fun _ => kitAny_cons q4 (fun z => nomatch z) fun _ => rfl) fun z => nomatch z
      | false => exact kitAny_cons q2 (fun _ => kitAny_cons q4 (fun _ => kitAny_nil) fun z => nomatch z) fun z => nomatch z
  · exact h1.elim
end
end DL

set_option Elab.async false
set_option linter.all false
set_option maxRecDepth 100000
set_option maxHeartbeats 8000000
namespace DL
open PySem PySem.Spec PyProof.Rows L2
/-! ### statements -/
def setF (e : DEnv) (i : Nat) (d : D) (Q : DEnv → Prop) : Prop := match e[i]? with
  | some (.ow true _) => False
  | some _ => Q (e.set i (.fr d))
  | none => False
def setO (e : DEnv) (i : Nat) (o : O) (Q : DEnv → Prop) : Prop := match e[i]? with
  | some (.ow true _) => False
  | some _ => Q (e.set i (.ow false o))
  | none => False
theorem setF_of {e : DEnv} {i : Nat} {d : D} {Q : DEnv → Prop} (h : setF e i d Q) : i < e.length ∧ Q (e.set i (.fr d)) := by
  unfold setF at h
  split at h
  · exact h.elim
  · rename_i q
    exact ⟨(List.getElem?_eq_some_iff.mp q).1, h⟩
  · exact h.elim
theorem setO_of {e : DEnv} {i : Nat} {o : O} {Q : DEnv → Prop} (h : setO e i o Q) : i < e.length ∧ Q (e.set i (.ow false o)) := by
  unfold setO at h
  split at h
  · exact h.elim
  · rename_i q
    exact ⟨(List.getElem?_eq_some_iff.mp q).1, h⟩
  · exact h.elim
def dNext : DS := fun _ D e => D.nx e
def dSeq (s t : DS) : DS := fun Ē D e => s Ē { D with nx := t Ē D } e
def dBrk : DS := fun _ D e => D.bk e
def dCnt : DS := fun _ D e => D.ct e
def dNever : DS := fun _ _ _ => False
def dDrop (a : DE) : DS := fun Ē D e => a Ē e fun _ e1 => D.nx e1
def dRet (a : DE) : DS := fun Ē D e => a Ē e D.rt
def dRetN : DS := fun _ D e => D.rt .non e
def dIf (c : DT) (s t : DS) : DS := fun Ē D e => c Ē e fun b e1 => if b = true then s Ē D e1 else t Ē D e1
def dAsg (i : Nat) (a : DE) : DS := fun Ē D e => a Ē e fun d e1 => setF e1 i d D.nx
def dAsgN (i : Nat) (n : DN) : DS := fun Ē D e => n Ē e fun o e1 => setO e1 i o D.nx
/-- targets -/
abbrev DG := D → DEnv → (DEnv → Prop) → Prop
abbrev DGs := List D → DEnv → (DEnv → Prop) → Prop
def gVar (i : Nat) : DG := fun d e Q => setF e i d Q
def gsNil : DGs := fun ds e Q => ds = [] ∧ Q e
def gsCons (g : DG) (gs : DGs) : DGs := fun ds e Q => match ds with
  | d :: r => g d e fun e' => gs r e' Q
  | [] => False
def gTupD (n : Nat) (gs : DGs) : DG := fun d e Q => match d with
  | .tup xs => xs.length = n ∧ gs xs e Q
  | _ => False
def dAsgG (a : DE) (g : DG) : DS := fun Ē D e => a Ē e fun d e1 => g d e1 D.nx
/-- x[i] = v, x an owned list -/
def dSetIx (j : Nat) (i v : DE) : DS := fun Ē D e => v Ē e fun d e1 => match e1[j]? with
  | some (.ow _ (.lst _)) => i Ē e1 fun y e2 => (match y, e2[j]? with
    | .int k, some (.ow b (.lst xs)) => (match ixN xs.length k with
      | some m => D.nx (e2.set j (.ow b (.lst (xs.set m d))))
      | none => False)
    | _, _ => False)
  | _ => False
/-- x[i] += v of ints, x an owned list -/
def dAugIx (f : Int → Int → Int) (j : Nat) (i v : DE) : DS := fun Ē D e => match e[j]? with
  | some (.ow _ (.lst _)) => i Ē e fun y e1 => (match y, e1[j]? with
    | .int k, some (.ow _ (.lst ys)) => (match atI ys k with
      | some (.int a) => v Ē e1 fun z e2 => (match z, e2[j]? with
        | .int b, some (.ow fx (.lst xs)) => (match ixN xs.length k with
          | some m => D.nx (e2.set j (.ow fx (.lst (xs.set m (.int (f a b))))))
          | none => False)
        | _, _ => False)
      | _ => False)
    | _, _ => False)
  | _ => False
/-- x += v of ints -/
def dAug (f : Int → Int → Int) (j : Nat) (v : DE) : DS := fun Ē D e => match e[j]? with
  | some (.fr (.int a)) => v Ē e fun z e1 => (match z with
    | .int b => setF e1 j (.int (f a b)) D.nx
    | _ => False)
  | _ => False

section
variable {K : PySem.W.Frag} {mg : Str → Option Value} {E : L2.St → XK} {ta tb te : TE} {a b : DE}
theorem ss_next : SS K mg E tNext dNext := fun B G F H e σ Ē D' D k x h q => q.nx e σ F H h Mv.refl k
theorem ss_seq {t u : TS} {s r : DS} (h1 : SS K mg E t s) (h2 : SS K mg E u r) : SS K mg E (tSeq t u) (dSeq s r) := fun B G F H e σ Ē D' D k x h q =>
  h1 B G F H e σ Ē _ _ k x h ⟨fun e' σ' F' H' hn m k' => h2 B G F' H' e' σ' Ē _ _ k' (fun σ'' => (x σ'').mv m) hn (q.mv m), q.rt, q.bk, q.ct⟩
theorem ss_brk : SS K mg E tBreak dBrk := fun B G F H e σ Ē D' D k x h q => q.bk e σ F H h Mv.refl k
theorem ss_cnt : SS K mg E tCont dCnt := fun B G F H e σ Ē D' D k x h q => q.ct e σ F H h Mv.refl k
theorem ss_never {t : TS} : SS K mg E t dNever := fun B G F H e σ Ē D' D k x h q => h.elim
theorem ss_drop (ha : SE K mg E ta a) : SS K mg E (tDrop ta) (dDrop a) := fun B G F H e σ Ē D' D k x h q =>
  ha B G F H e σ Ē _ _ k (x σ) h fun d e1 v F1 H1 h1 m1 k1 r1 => q.nx e1 σ F1 H1 h1 m1 k1
theorem ss_ret (ha : SE K mg E ta a) : SS K mg E (tRet ta) (dRet a) := fun B G F H e σ Ē D' D k x h q =>
  ha B G F H e σ Ē _ _ k (x σ) h fun d e1 v F1 H1 h1 m1 k1 r1 => q.rt d e1 σ v F1 H1 h1 m1 k1 r1
theorem ss_retN : SS K mg E tRetN dRetN := fun B G F H e σ Ē D' D k x h q => q.rt .non e σ .non F H h Mv.refl k .non
theorem ss_if {c : TT} {dc : DT} {t u : TS} {s r : DS} (hc : ST K mg E c dc) (h1 : SS K mg E t s) (h2 : SS K mg E u r) : SS K mg E (tIfS c t u) (dIf dc s r) := fun B G F H e σ Ē D' D k x h q =>
  hc B G F H e σ Ē _ _ k (x σ) h fun b e1 F1 H1 h3 m1 k1 => by
    cases b with
    | true =>
      show t D σ H1
      exact h1 B G F1 H1 e1 σ Ē _ _ k1 (fun σ' => (x σ').mv m1) h3 (q.mv m1)
    | false =>
      show u D σ H1
      exact h2 B G F1 H1 e1 σ Ē _ _ k1 (fun σ' => (x σ').mv m1) h3 (q.mv m1)
/-- a target takes a frozen value; js: the slots that it may set -/
def SG (js : List Nat) (g : TG) (dg : DG) : Prop := ∀ B G F H e σ d v (Q' : DEnv → Prop) (Q : L2.St → Hp → Prop), Ok K mg B G F H e σ → Rep K mg F d v → dg d e Q' →
  (∀ e' σ', Q' e' → Ok K mg B G F H e' σ' → (σ'.length = σ.length ∧ ∀ j, j ∉ js → σ'[j]? = σ[j]?) → Q σ' H) → g v σ H Q
def SGs (js : List Nat) (g : TGs) (dg : DGs) : Prop := ∀ B G F H e σ ds vs (Q' : DEnv → Prop) (Q : L2.St → Hp → Prop), Ok K mg B G F H e σ → RepL K mg F ds vs → dg ds e Q' →
  (∀ e' σ', Q' e' → Ok K mg B G F H e' σ' → (σ'.length = σ.length ∧ ∀ j, j ∉ js → σ'[j]? = σ[j]?) → Q σ' H) → g vs σ H Q
theorem sg_var {i : Nat} : SG (K := K) (mg := mg) [i] (gName i) (gVar i) := fun B G F H e σ d v Q' Q k r h q => by
  obtain ⟨hi, h⟩ := setF_of h
  exact q _ _ h (k.setF hi r) ⟨List.length_set .., fun j hj => List.getElem?_set_ne (fun z => hj (by simp [z]))⟩
theorem sgs_nil : SGs (K := K) (mg := mg) [] gNil gsNil := fun B G F H e σ ds vs Q' Q k r h q => by
  obtain ⟨rfl, h⟩ := h
  cases r
  exact ⟨rfl, q e σ h k ⟨rfl, fun _ _ => rfl⟩⟩
theorem sgs_cons {js ks : List Nat} {g : TG} {dg : DG} {gs : TGs} {dgs : DGs} (h1 : SG (K := K) (mg := mg) js g dg) (h2 : SGs (K := K) (mg := mg) ks gs dgs) : SGs (K := K) (mg := mg) (js ++ ks) (gCons g gs) (gsCons dg dgs) := fun B G F H e σ ds vs Q' Q k r h q => by
  cases r with
  | nil => exact h.elim
  | cons rd rl => exact ⟨_, _, rfl, h1 B G F H e σ _ _ _ _ k rd h fun e' σ' h' k' p' => h2 B G F H e' σ' _ _ _ _ k' rl h' fun e2 σ2 h2' k2 p2 => q e2 σ2 h2' k2 ⟨p2.1.trans p'.1, fun j hj => (p2.2 j fun z => hj (List.mem_append_right _ z)).trans (p'.2 j fun z => hj (List.mem_append_left _ z))⟩⟩
theorem sg_tup {js : List Nat} {n : Nat} {gs : TGs} {dgs : DGs} (h : SGs (K := K) (mg := mg) js gs dgs) : SG (K := K) (mg := mg) js (gTup K n gs) (gTupD n dgs) := fun B G F H e σ d v Q' Q k r h' q => by
  cases d with
  | tup xs =>
    cases r with
    | tup ha la => exact ⟨_, _, rfl, SqT.of (k.fh _ _ ha), by rw [← la.length]; exact h'.1, h B G F H e σ _ _ _ _ k la h'.2 q⟩
  | _ => exact h'.elim
theorem ss_asgG {js : List Nat} {g : TG} {dg : DG} (ha : SE K mg E ta a) (hg : SG (K := K) (mg := mg) js g dg) : SS K mg E (tAsg ta g) (dAsgG a dg) := fun B G F H e σ Ē D' D k x h q =>
  ha B G F H e σ Ē _ _ k (x σ) h fun d e1 v F1 H1 h1 m1 k1 r1 => hg B G F1 H1 e1 σ d v _ _ k1 r1 h1 fun e' σ' h' k' _ => q.nx e' σ' F1 H1 h' m1 k'
theorem ss_asg {i : Nat} (ha : SE K mg E ta a) : SS K mg E (tAsg ta (gName i)) (dAsg i a) := ss_asgG (dg := gVar i) ha sg_var
theorem ss_asgN {i : Nat} {n : DN} (ha : SN K mg E ta n) : SS K mg E (tAsg ta (gName i)) (dAsgN i n) := fun B G F H e σ Ē D' D k x h q =>
  ha B G F H e σ Ē _ _ k (x σ) h fun o e1 p u F1 H1 h1 m1 k1 f1 r1 => by
    obtain ⟨hi, h1⟩ := setO_of h1
    obtain ⟨f2, f3, f4, f5⟩ := f1
    exact q.nx _ _ F1 H1 h1 m1 (k1.setO hi f2 f3 f4 r1 f5)
theorem ss_setIx {j : Nat} {ti : TE} {i : DE} (hi : SE K mg E ti i) (ha : SE K mg E ta a) : SS K mg E (tAsg ta (gSub (tVar j) ti rSetL)) (dSetIx j i a) := fun B G F H e σ Ē D' D k x h q =>
  ha B G F H e σ Ē _ _ k (x σ) h fun d e1 v F1 H1 h1 m1 k1 r1 => by
    split at h1
    · rename_i fx xs0 he
      obtain ⟨p, u, g1, _⟩ := k1.ow j fx _ he
      refine ⟨_, g1, hi B G F1 H1 e1 σ Ē _ _ k1 ((x σ).mv m1) h1 fun y e2 w F2 H2 h2 m2 k2 r2 => ?_⟩
      split at h2
      · rename_i kk b xs he2
        cases r2
        obtain ⟨p', u', g1', g2', g3', g4', g5', _⟩ := k2.ow j b _ he2
        rw [g1] at g1'
        cases g1'
        cases g5' with
        | @lst _ vs l =>
          split at h2
          · rename_i m hm
            refine ⟨_, vs, kk, m, rfl, rfl, g4', by rw [← l.length]; exact hm, ?_⟩
            exact q.nx _ σ F2 _ h2 (m1.trans m2) (k2.write he2 g1 (.lst (l.set (r1.mono m2.ff) m)))
          · exact h2.elim
      · exact h2.elim
    · exact h1.elim
def PGetIx (K : PySem.W.Frag) : V → V → Hp → VK → Prop := rIxL K
theorem ss_augIx {f : Int → Int → Int} {j : Nat} {ti : TE} {i : DE} (hi : SE K mg E ti i) (ha : SE K mg E ta a) : SS K mg E (tAugS (tVar j) ti ta (rIxL K) (ipI f) rSetL) (dAugIx f j i a) := fun B G F H e σ Ē D' D k x h q => by
  unfold dAugIx at h
  split at h
  · rename_i fx xs0 he
    obtain ⟨p, u, g1, _⟩ := k.ow j fx _ he
    refine ⟨_, g1, hi B G F H e σ Ē _ _ k (x σ) h fun y e1 w F1 H1 h1 m1 k1 r1 => ?_⟩
    split at h1
    · rename_i kk fx1 ys he1
      cases r1
      obtain ⟨p', u', g1', g2', g3', g4', g5', _⟩ := k1.ow j _ _ he1
      rw [g1] at g1'
      cases g1'
      cases g5' with
      | @lst _ ws lw =>
        split at h1
        · rename_i av hav
          have : ∃ u, atI ws kk = some u ∧ Rep K mg F1 (.int av) u := by
            unfold atI at hav ⊢
            rw [← lw.length]
            cases z : ixN ys.length kk with
            | none => rw [z] at hav; cases hav
            | some jj =>
              rw [z] at hav
              exact lw.get (i := jj) hav
          obtain ⟨u1, a1, a2⟩ := this
          cases a2
          refine ⟨_, ws, kk, _, rfl, rfl, SqL.of g4', a1, ha B G F1 H1 e1 σ Ē _ _ k1 ((x σ).mv m1) h1 fun z e2 w2 F2 H2 h2 m2 k2 r2 => ?_⟩
          split at h2
          · rename_i bv fx2 xs he2
            cases r2
            obtain ⟨p3, u3, q1, q2, q3, q4, q5, _⟩ := k2.ow j fx2 _ he2
            rw [g1] at q1
            cases q1
            cases q5 with
            | @lst _ vs l =>
              split at h2
              · rename_i m hm
                refine ⟨av, bv, rfl, rfl, _, vs, kk, m, rfl, rfl, q4, by rw [← l.length]; exact hm, ?_⟩
                exact q.nx _ σ F2 _ h2 (m1.trans m2) (k2.write he2 g1 (.lst (l.set (.int _) m)))
              · exact h2.elim
          · exact h2.elim
        · exact h1.elim
    · exact h1.elim
  · exact h.elim
theorem ss_aug {f : Int → Int → Int} {j : Nat} (ha : SE K mg E ta a) : SS K mg E (tAug j ta (ipI f)) (dAug f j a) := fun B G F H e σ Ē D' D k x h q => by
  unfold dAug at h
  split at h
  · rename_i av he
    obtain ⟨u, g1, g2⟩ := k.fr j _ he
    cases g2
    refine ⟨_, g1, ha B G F H e σ Ē _ _ k (x σ) h fun z e1 w F1 H1 h1 m1 k1 r1 => ?_⟩
    split at h1
    · rename_i bv
      cases r1
      obtain ⟨hi, h1⟩ := setF_of h1
      exact ⟨av, bv, rfl, rfl, q.nx _ _ F1 H1 h1 m1 (k1.setF hi (.int _))⟩
    · exact h1.elim
  · exact h.elim
end
/-! ### methods of an owned list -/
def LM (K : PySem.W.Frag) (mg : Str → Option Value) (r : V → List V → Hp → VK → Prop) (f : List D → List D → (List D → D → Prop) → Prop) : Prop :=
  ∀ (F H : Hp) (p : Addr) (vs : List V) (xs ds : List D) (ws : List V) (Q' : List D → D → Prop) (Q : VK), Same F H → H p = some (.lst vs) → RepL K mg F xs vs → RepL K mg F ds ws → f xs ds Q' →
    (∀ xs' z vs' u, Q' xs' z → RepL K mg F xs' vs' → Rep K mg F z u → Q u (upd H p (.lst vs'))) → r (.ref p) ws H Q
def dMth (j : Nat) (f : List D → List D → (List D → D → Prop) → Prop) (a : DA) : DE := fun Ē e Q => match e[j]? with
  | some (.ow _ (.lst _)) => a Ē e fun ds e1 => (match e1[j]? with
    | some (.ow b (.lst xs)) => f xs ds fun xs' z => Q z (e1.set j (.ow b (.lst xs')))
    | _ => False)
  | _ => False
theorem se_mth {K : PySem.W.Frag} {mg : Str → Option Value} {E : L2.St → XK} {j : Nat} {r : V → List V → Hp → VK → Prop} {f : List D → List D → (List D → D → Prop) → Prop} {t : TA} {da : DA} (hr : LM K mg r f) (ha : SA K mg E t da) : SE K mg E (tBM K "list" r (tVar j) t) (dMth j f da) := fun B G F H e σ Ē Q' Q k x h q => by
  unfold dMth at h
  split at h
  · rename_i fx xs0 he
    obtain ⟨p, u, g1, g2, g3, g4, g5, _⟩ := k.ow j fx _ he
    cases g5 with
    | @lst _ vs0 l0 =>
      refine ⟨_, g1, .inl ⟨rfl, vs0, SqL.of g4⟩, ha B G F H e σ Ē _ _ k x h fun ds e1 ws F1 H1 h1 m1 k1 r1 => ?_⟩
      split at h1
      · rename_i b xs he1
        obtain ⟨p', u', q1, q2, q3, q4, q5, _⟩ := k1.ow j b _ he1
        rw [g1] at q1
        cases q1
        cases q5 with
        | @lst _ vs l =>
          exact hr F1 H1 _ vs xs ds ws _ _ k1.fh q4 l r1 h1 fun xs' z vs' u' h2 l2 rz => q z _ u' F1 _ h2 m1 (k1.write he1 g1 (.lst l2)) rz
      · exact h1.elim
  · exact h.elim
theorem se_mth0 {K : PySem.W.Frag} {mg : Str → Option Value} {E : L2.St → XK} {j : Nat} {r : V → List V → Hp → VK → Prop} {f : List D → List D → (List D → D → Prop) → Prop} (hr : LM K mg r f) : SE K mg E (tBM0 K "list" r (tVar j)) (dMth j f dNil) := fun B G F H e σ Ē Q' Q k x h q => by
  unfold dMth at h
  split at h
  · rename_i fx xs0 he
    obtain ⟨p, u, g1, g2, g3, g4, g5, _⟩ := k.ow j fx _ he
    cases g5 with
    | @lst _ vs l =>
      have h1 : (match e[j]? with | some (.ow b (.lst xs)) => f xs [] fun xs' z => Q' z (e.set j (.ow b (.lst xs'))) | _ => False) := h
      rw [he] at h1
      exact ⟨_, g1, .inl ⟨rfl, vs, SqL.of g4⟩, hr F H _ vs xs0 [] [] _ _ k.fh g4 l .nil h1 fun xs' z vs' u' h2 l2 rz => q z _ u' F _ h2 Mv.refl (k.write he g1 (.lst l2)) rz⟩
  · exact h.elim
def mAppend : List D → List D → (List D → D → Prop) → Prop
  | xs, [d], Q => xs.length < sizeLine ∧ Q (xs ++ [d]) .non
  | _, _, _ => False
def mInsert : List D → List D → (List D → D → Prop) → Prop
  | xs, [.int i, d], Q => xs.length < sizeLine ∧ (0 ≤ i ∧ i < 2 ^ 63) ∧ Q (xs.take i.toNat ++ [d] ++ xs.drop i.toNat) .non
  | _, _, _ => False
def mClear : List D → List D → (List D → D → Prop) → Prop
  | _, [], Q => Q [] .non
  | _, _, _ => False
def mPop : List D → List D → (List D → D → Prop) → Prop
  | xs, [], Q => (match xs[xs.length - 1]? with
    | some d => Q xs.dropLast d
    | none => False)
  | _, _, _ => False
def mPopAt : List D → List D → (List D → D → Prop) → Prop
  | xs, [.int i], Q => (-(2 ^ 63) ≤ i ∧ i < 2 ^ 63) ∧ (match seqIndex? i xs.length with
    | some k => (match xs[k]? with
      | some d => Q (xs.eraseIdx k) d
      | none => False)
    | none => False)
  | _, _, _ => False
def mExtend : List D → List D → (List D → D → Prop) → Prop
  | xs, [.lst ys], Q => xs.length + ys.length ≤ sizeLine ∧ Q (xs ++ ys) .non
  | _, _, _ => False
section
variable {K : PySem.W.Frag} {mg : Str → Option Value}
theorem lm_append : LM K mg rAppend mAppend := by
  intro F H p vs xs ds ws Q' Q hs hp l ld h q
  unfold mAppend at h
  split at h
  · obtain ⟨v, rfl, r⟩ := ld.one rfl
    exact ⟨p, vs, v, rfl, rfl, hp, by rw [← l.length]; exact h.1, q _ _ _ _ h.2 (l.append (.cons r .nil)) .non⟩
  · exact h.elim
def rInsert : V → List V → Hp → VK → Prop := fun x vs H Q => ∃ (l : Addr) (xs : List V) (i : Int) (y : V), x = .ref l ∧ vs = [.int i, y] ∧ H l = some (.lst xs) ∧ xs.length < sizeLine ∧ 0 ≤ i ∧ i < 2 ^ 63 ∧ Q .non (upd H l (.lst (xs.take i.toNat ++ [y] ++ xs.drop i.toNat)))
theorem lm_insert : LM K mg rInsert mInsert := by
  intro F H p vs xs ds ws Q' Q hs hp l ld h q
  unfold mInsert at h
  split at h
  · cases ld with
    | cons r1 ld => cases ld with
      | cons r2 ld =>
        cases ld
        cases r1
        exact ⟨p, vs, _, _, rfl, rfl, hp, by rw [← l.length]; exact h.1, h.2.1.1, h.2.1.2, q _ _ _ _ h.2.2 (((l.take _).append (.cons r2 .nil)).append (l.drop _)) .non⟩
  · exact h.elim
theorem lm_clear : LM K mg rClear mClear := by
  intro F H p vs xs ds ws Q' Q hs hp l ld h q
  unfold mClear at h
  split at h
  · cases ld
    exact ⟨p, vs, rfl, rfl, hp, q _ _ _ _ h .nil .non⟩
  · exact h.elim
theorem RepL.dropLast {ds : List D} {vs : List V} {F : Hp} (h : RepL K mg F ds vs) : RepL K mg F ds.dropLast vs.dropLast := by
  rw [List.dropLast_eq_take, List.dropLast_eq_take, ← h.length]
  exact h.take _
theorem lm_pop : LM K mg rPop mPop := by
  intro F H p vs xs ds ws Q' Q hs hp l ld h q
  unfold mPop at h
  split at h
  · cases ld
    split at h
    · rename_i d hd
      obtain ⟨v, h1, h2⟩ := l.get hd
      exact ⟨p, vs, v, rfl, rfl, hp, by rw [← l.length]; exact h1, q _ _ _ _ h l.dropLast h2⟩
    · exact h.elim
  · exact h.elim
theorem RepL.erase : ∀ {ds : List D} {vs : List V} {F : Hp} (n : Nat), RepL K mg F ds vs → RepL K mg F (ds.eraseIdx n) (vs.eraseIdx n)
  | _, _, _, _, .nil => .nil
  | _, _, _, 0, .cons _ t => t
  | _, _, _, n + 1, .cons q t => .cons q (RepL.erase n t)
theorem lm_popAt : LM K mg rPopAt mPopAt := by
  intro F H p vs xs ds ws Q' Q hs hp l ld h q
  unfold mPopAt at h
  split at h
  · obtain ⟨v, rfl, r⟩ := ld.one rfl
    cases r
    obtain ⟨h1, h⟩ := h
    split at h
    · rename_i k hk
      split at h
      · rename_i d hd
        obtain ⟨v, h3, h2⟩ := l.get hd
        exact ⟨p, vs, _, k, v, rfl, rfl, hp, h1.1, h1.2, by rw [← l.length]; exact hk, h3, q _ _ _ _ h (l.erase k) h2⟩
      · exact h.elim
    · exact h.elim
  · exact h.elim
theorem lm_extend : LM K mg rExtend mExtend := by
  intro F H p vs xs ds ws Q' Q hs hp l ld h q
  unfold mExtend at h
  split at h
  · obtain ⟨v, rfl, r⟩ := ld.one rfl
    cases r with
    | lst ha la => exact ⟨p, _, vs, _, rfl, rfl, hp, hs _ _ ha, by rw [← l.length, ← la.length]; exact h.1, q _ _ _ _ h.2 (l.append la) .non⟩
  · exact h.elim
end
end DL

set_option Elab.async false
set_option linter.all false
set_option maxRecDepth 100000
set_option maxHeartbeats 8000000
namespace DL
open PySem PySem.Spec PyProof.Rows L2
/-! ### what is walked -/
abbrev DI := XD → DEnv → (List D → DEnv → Prop) → Prop
structure WalkD (K : PySem.W.Frag) (mg : Str → Option Value) (F : Hp) (J : It) (ds : List D) : Prop where
  goes : ∀ i H, i < ds.length → Same F H → J.go i H
  stops : ∀ H, Same F H → J.stop ds.length H
  yields : ∀ i H x H' F1, i < ds.length → Same F F1 → Same F1 H → J.yld i H x H' → ∃ d F2, ds[i]? = some d ∧ Gr F1 H F2 H' ∧ Rep K mg F2 d x
theorem WalkD.mono {K : PySem.W.Frag} {mg : Str → Option Value} {F F' : Hp} {J : It} {ds : List D} (w : WalkD K mg F J ds) (m : Same F F') : WalkD K mg F' J ds :=
  ⟨fun i H hi h => w.goes i H hi (m.trans h), fun H h => w.stops H (m.trans h), fun i H x H' F1 hi h1 h2 y => w.yields i H x H' F1 hi (m.trans h1) h2 y⟩
section
variable (K : PySem.W.Frag) (mg : Str → Option Value) (E : L2.St → XK)
def SI (wi : TI) (di : DI) : Prop := ∀ B G F H e σ Ē (Q' : List D → DEnv → Prop) (R : It → Hp → Prop), Ok K mg B G F H e σ → XR K mg E Ē B G F σ → di Ē e Q' →
  (∀ ds e' J F' H', Q' ds e' → Mv G F F' → Ok K mg B G F' H' e' σ → WalkD K mg F' J ds → R J H') → wi σ H R
end
structure PDI (X : Cx) {ι : Type} (v : ι → Vy) (E : L2.St → XK) (tg iter : Expr) (di : DI) : Prop where
  ex : ∃ wi, (∀ ii, PI (X.atV (v ii)) tg iter wi) ∧ SI X.K X.mg E wi di
structure PDG (X : Cx) {ι : Type} (v : ι → Vy) (js : List Nat) (tg : Expr) (dg : DG) : Prop where
  ex : ∃ g, (∀ ii, PG (X.atV (v ii)) tg g) ∧ SG (K := X.K) (mg := X.mg) js g dg
structure PDGs (X : Cx) {ι : Type} (v : ι → Vy) (js : List Nat) (ts : List Expr) (dg : DGs) : Prop where
  ex : ∃ g, (∀ ii, PGs (X.atV (v ii)) ts g) ∧ SGs (K := X.K) (mg := X.mg) js g dg
section
variable {K : PySem.W.Frag} {mg : Str → Option Value} {F : Hp} {a b : Addr} {xs ys : List D} {vs ws : List V}
theorem wd_list (h : F a = some (.lst vs)) (l : RepL K mg F xs vs) : WalkD K mg F (Itl K a) xs := by
  have W := walk_list (K := K) (a := a) (xs := vs)
  refine ⟨fun i H hi s => W.goes i H (by rw [← l.length]; exact hi) (SqL.of (s _ _ h)), fun H s => by rw [l.length]; exact W.stops H (SqL.of (s _ _ h)), fun i H x H' F1 hi s1 s2 y => ?_⟩
  obtain ⟨rfl, e⟩ := W.yields i H x H' (by rw [← l.length]; exact hi) (SqL.of (s2 _ _ (s1 _ _ h))) y
  obtain ⟨d, h1, h2⟩ := l.getV e
  exact ⟨d, F1, h1, Gr.refl s2, h2.mono s1⟩
theorem wd_scr (h : SqL K F a vs) (l : RepL K mg F xs vs) : WalkD K mg F (Itl K a) xs := by
  have W := walk_list (K := K) (a := a) (xs := vs)
  refine ⟨fun i H hi s => W.goes i H (by rw [← l.length]; exact hi) (same_l s h), fun H s => by rw [l.length]; exact W.stops H (same_l s h), fun i H x H' F1 hi s1 s2 y => ?_⟩
  obtain ⟨rfl, e⟩ := W.yields i H x H' (by rw [← l.length]; exact hi) (same_l s2 (same_l s1 h)) y
  obtain ⟨d, h1, h2⟩ := l.getV e
  exact ⟨d, F1, h1, Gr.refl s2, h2.mono s1⟩
theorem wd_tup (h : F a = some (.tup vs)) (l : RepL K mg F xs vs) : WalkD K mg F (Itt K a) xs := by
  have W := walk_tup (K := K) (a := a) (xs := vs)
  refine ⟨fun i H hi s => W.goes i H (by rw [← l.length]; exact hi) (SqT.of (s _ _ h)), fun H s => by rw [l.length]; exact W.stops H (SqT.of (s _ _ h)), fun i H x H' F1 hi s1 s2 y => ?_⟩
  obtain ⟨rfl, e⟩ := W.yields i H x H' (by rw [← l.length]; exact hi) (SqT.of (s2 _ _ (s1 _ _ h))) y
  obtain ⟨d, h1, h2⟩ := l.getV e
  exact ⟨d, F1, h1, Gr.refl s2, h2.mono s1⟩
def rangeD (lo : Int) (n : Nat) : List D := (List.range n).map fun (i : Nat) => D.int (lo + i)
theorem rangeD_length (lo : Int) (n : Nat) : (rangeD lo n).length = n := by simp [rangeD]
theorem rangeD_get {lo : Int} {n i : Nat} (h : i < n) : (rangeD lo n)[i]? = some (.int (lo + i)) := by simp [rangeD, h]
theorem wd_range {lo : Int} {n : Nat} : WalkD K mg F (Itr lo n) (rangeD lo n) := by
  refine ⟨fun i H hi s => by rw [rangeD_length] at hi; exact hi, fun H s => by rw [rangeD_length]; exact Nat.le_refl _, fun i H x H' F1 hi s1 s2 y => ?_⟩
  rw [rangeD_length] at hi
  obtain ⟨rfl, rfl⟩ := y
  exact ⟨_, F1, rangeD_get hi, Gr.refl s2, .int _⟩
theorem getElem?_rev {α : Type} {l : List α} {i : Nat} (h : i < l.length) : l.reverse[i]? = l[l.length - 1 - i]? := by
  rw [List.getElem?_reverse h]
theorem wd_revL (h : F a = some (.lst vs)) (l : RepL K mg F xs vs) : WalkD K mg F (Itv K a vs.length) xs.reverse := by
  have W := walk_rev (K := K) (a := a) (xs := vs)
  refine ⟨fun i H hi s => W.goes i H (by rw [← l.length, ← List.length_reverse]; exact hi) (SqL.of (s _ _ h)), fun H s => by rw [List.length_reverse, l.length]; exact W.stops H (SqL.of (s _ _ h)), fun i H x H' F1 hi s1 s2 y => ?_⟩
  rw [List.length_reverse] at hi
  obtain ⟨rfl, e⟩ := W.yields i H x H' (by rw [← l.length]; exact hi) (SqL.of (s2 _ _ (s1 _ _ h))) y
  obtain ⟨d, h1, h2⟩ := l.getV e
  exact ⟨d, F1, by rw [getElem?_rev hi, l.length]; exact h1, Gr.refl s2, h2.mono s1⟩
theorem wd_revT (h : F a = some (.tup vs)) (l : RepL K mg F xs vs) : WalkD K mg F (RT.ItvT K a vs.length) xs.reverse := by
  refine ⟨fun i H hi s => ?_, fun H s => ?_, fun i H x H' F1 hi s1 s2 y => ?_⟩
  · rw [List.length_reverse, l.length] at hi
    exact ⟨hi, vs, vs[vs.length - 1 - i]'(by omega), SqT.of (s _ _ h), by simp [show vs.length - 1 - i < vs.length by omega]⟩
  · rw [List.length_reverse, l.length]
    exact Nat.le_refl _
  · rw [List.length_reverse] at hi
    obtain ⟨rfl, e⟩ := y
    obtain ⟨d, h1, h2⟩ := l.getV (e vs (SqT.of (s2 _ _ (s1 _ _ h))))
    exact ⟨d, F1, by rw [getElem?_rev hi, l.length]; exact h1, Gr.refl s2, h2.mono s1⟩
def signsD (z : Str) : List D := z.cps.toList.map fun c => D.str ⟨#[c]⟩
theorem wd_str {z : Str} : WalkD K mg F (Its z) (signsD z) := by
  have hl : (signsD z).length = z.cps.size := by simp [signsD]
  refine ⟨fun i H hi s => by rw [hl] at hi; exact hi, fun H s => by rw [hl]; exact Nat.le_refl _, fun i H x H' F1 hi s1 s2 y => ?_⟩
  obtain ⟨rfl, c, hc, rfl⟩ := y
  refine ⟨.str ⟨#[c]⟩, F1, ?_, Gr.refl s2, .str _⟩
  unfold signsD
  rw [List.getElem?_map, Array.getElem?_toList, hc]
  rfl
/-- pairs of two rows -/
def pairsD : List D → List D → List D
  | x :: xs, y :: ys => .tup [x, y] :: pairsD xs ys
  | _, _ => []
theorem pairsD_length : ∀ xs ys : List D, (pairsD xs ys).length = min xs.length ys.length
  | [], _ => by simp [pairsD]
  | _ :: _, [] => by simp [pairsD]
  | x :: xs, y :: ys => by simp [pairsD, pairsD_length xs ys]
theorem pairsD_get : ∀ {xs ys : List D} {i : Nat} {x y : D}, xs[i]? = some x → ys[i]? = some y → (pairsD xs ys)[i]? = some (.tup [x, y])
  | x :: xs, y :: ys, 0, _, _, h1, h2 => by simp at h1 h2; subst h1 h2; rfl
  | x :: xs, y :: ys, i + 1, _, _, h1, h2 => by
    have := pairsD_get (xs := xs) (ys := ys) (i := i) (by simpa using h1) (by simpa using h2)
    simpa [pairsD] using this
  | [], _, _, _, _, h1, _ => by simp at h1
  | _ :: _, [], _, _, _, _, h2 => by simp at h2
theorem wd_zipL (ha : F a = some (.lst vs)) (hb : F b = some (.lst ws)) (l : RepL K mg F xs vs) (m : RepL K mg F ys ws) : WalkD K mg F (Itz K a b) (pairsD xs ys) := by
  have W := walk_zip (K := K) (a := a) (b := b) (xs := vs) (ys := ws) rfl
  have hl : (pairsD xs ys).length = min vs.length ws.length := by rw [pairsD_length, l.length, m.length]
  refine ⟨fun i H hi s => W.goes i H (by rw [← hl]; exact hi) ⟨SqL.of (s _ _ ha), SqL.of (s _ _ hb)⟩, fun H s => by rw [hl]; exact W.stops H ⟨SqL.of (s _ _ ha), SqL.of (s _ _ hb)⟩, fun i H x H' F1 hi s1 s2 y => ?_⟩
  obtain ⟨T, u, w, rfl, hT, rfl, e1, e2⟩ := W.yields i H x H' (by rw [← hl]; exact hi) ⟨SqL.of (s2 _ _ (s1 _ _ ha)), SqL.of (s2 _ _ (s1 _ _ hb))⟩ y
  obtain ⟨d1, h1, r1⟩ := l.getV e1
  obtain ⟨d2, h2, r2⟩ := m.getV e2
  have g : Gr F1 H (upd F1 T (.tup [u, w])) (upd H T (.tup [u, w])) := Gr.new s2 hT
  exact ⟨.tup [d1, d2], _, pairsD_get h1 h2, g, .tup upd_same (.cons ((r1.mono s1).mono g.ff) (.cons ((r2.mono s1).mono g.ff) .nil))⟩
theorem wd_zipT (ha : F a = some (.tup vs)) (hb : F b = some (.tup ws)) (l : RepL K mg F xs vs) (m : RepL K mg F ys ws) : WalkD K mg F (RZ.ItzT K a b) (pairsD xs ys) := by
  have hl : (pairsD xs ys).length = min vs.length ws.length := by rw [pairsD_length, l.length, m.length]
  refine ⟨fun i H hi s => ?_, fun H s => ?_, fun i H x H' F1 hi s1 s2 y => ?_⟩
  · rw [hl] at hi
    have h1 : i < vs.length := by omega
    have h2 : i < ws.length := by omega
    exact ⟨vs, ws, vs[i], ws[i], SqT.of (s _ _ ha), SqT.of (s _ _ hb), by simp [h1], by simp [h2]⟩
  · rw [hl]
    exact ⟨vs, ws, SqT.of (s _ _ ha), SqT.of (s _ _ hb), by omega⟩
  · obtain ⟨T, u, w, rfl, hT, rfl, e1, e2⟩ := y
    obtain ⟨d1, h1, r1⟩ := l.getV (e1 vs (SqT.of (s2 _ _ (s1 _ _ ha))))
    obtain ⟨d2, h2, r2⟩ := m.getV (e2 ws (SqT.of (s2 _ _ (s1 _ _ hb))))
    have g : Gr F1 H (upd F1 T (.tup [u, w])) (upd H T (.tup [u, w])) := Gr.new s2 hT
    exact ⟨.tup [d1, d2], _, pairsD_get h1 h2, g, .tup upd_same (.cons ((r1.mono s1).mono g.ff) (.cons ((r2.mono s1).mono g.ff) .nil))⟩
end
/-! ### for -/
def forGo (g : DG) (body : DS) (Ē : XD) (Z : DEnds) : List D → DEnv → Prop
  | [], e => Z.nx e
  | d :: ds, e => g d e fun e1 => body Ē { Z with nx := forGo g body Ē Z ds, ct := forGo g body Ē Z ds, bk := Z.nx } e1
def dFor (di : DI) (g : DG) (body : DS) : DS := fun Ē D e => di Ē e fun ds e1 => forGo g body Ē D ds e1
/-- by an invariant with a measure -/
def dWhile (c : DT) (body : DS) : DS := fun Ē D e => ∃ I : Nat → DEnv → Prop, (∃ n, I n e) ∧ ∀ n e, I n e → c Ē e fun b e1 => if b = true then body Ē { D with nx := fun e' => ∃ m, m < n ∧ I m e', ct := fun e' => ∃ m, m < n ∧ I m e', bk := D.nx } e1 else D.nx e1
section
variable {K : PySem.W.Frag} {mg : Str → Option Value} {E : L2.St → XK}
theorem drop_get {α : Type} {l : List α} {i : Nat} {x : α} (h : l[i]? = some x) : l.drop i = x :: l.drop (i + 1) := by
  obtain ⟨h1, h2⟩ := List.getElem?_eq_some_iff.mp h
  rw [List.drop_eq_getElem_cons h1, h2]
theorem ss_for {wi : TI} {di : DI} {g : TG} {dg : DG} {js : List Nat} {tb : TS} {db : DS} (hi : SI K mg E wi di) (hg : SG (K := K) (mg := mg) js g dg) (hb : SS K mg E tb db) : SS K mg E (tFor wi g tb) (dFor di dg db) := fun B G F H e σ Ē D' D k x h q =>
  hi B G F H e σ Ē _ _ k (x σ) h fun ds e1 J F1 H1 h1 m1 k1 w1 => by
    refine ⟨fun i m σ' H' => m = ds.length - i ∧ i ≤ ds.length ∧ ∃ e' F', Mv G F1 F' ∧ Ok K mg B G F' H' e' σ' ∧ forGo dg db Ē D' (ds.drop i) e', ⟨ds.length, by simp, Nat.zero_le _, e1, F1, Mv.refl, k1, h1⟩, ?_⟩
    rintro i m σ' H' ⟨rfl, hil, e', F', m2, k2, h2⟩
    by_cases hlt : i < ds.length
    · obtain ⟨d, hd⟩ : ∃ d, ds[i]? = some d := ⟨ds[i], by simp [hlt]⟩
      refine .inr ⟨w1.goes i H' hlt (m2.ff.trans k2.fh), fun σ3 H3 => ∃ e3 F3, Mv G F1 F3 ∧ Ok K mg B G F3 H3 e3 σ3 ∧ forGo dg db Ē D' (ds.drop (i + 1)) e3, fun σ3 H3 ⟨e3, F3, m3, k3, h3⟩ => ⟨ds.length - (i + 1), by omega, rfl, by omega, e3, F3, m3, k3, h3⟩, fun v H3 y => ?_⟩
      obtain ⟨d', F3, hd', g3, r3⟩ := w1.yields i H' v H3 F' hlt m2.ff k2.fh y
      rw [hd] at hd'
      cases hd'
      rw [drop_get hd] at h2
      have k3 := k2.grow g3
      have m3 : Mv G F F3 := (m1.trans m2).trans (k2.mv g3)
      refine hg B G F3 H3 e' σ' d v _ _ k3 r3 h2 fun e4 σ4 h4 k4 _ => ?_
      refine hb B G F3 H3 e4 σ4 Ē _ _ k4 (fun σ'' => (x σ'').mv m3) h4 ⟨fun e5 σ5 F5 H5 h5 m5 k5 => ⟨e5, F5, (m2.trans (k2.mv g3)).trans m5, k5, h5⟩, fun d e5 σ5 v5 F5 H5 h5 m5 k5 r5 => q.rt d e5 σ5 v5 F5 H5 h5 (m3.trans m5) k5 r5,
        fun e5 σ5 F5 H5 h5 m5 k5 => q.nx e5 σ5 F5 H5 h5 (m3.trans m5) k5, fun e5 σ5 F5 H5 h5 m5 k5 => ⟨e5, F5, (m2.trans (k2.mv g3)).trans m5, k5, h5⟩⟩
    · have e : i = ds.length := by omega
      subst e
      rw [List.drop_length] at h2
      exact .inl ⟨w1.stops H' (m2.ff.trans k2.fh), q.nx e' σ' F' H' h2 (m1.trans m2) k2⟩
theorem ss_while {c : TT} {dc : DT} {tb : TS} {db : DS} (hc : ST K mg E c dc) (hb : SS K mg E tb db) : SS K mg E (tWhile c tb) (dWhile dc db) := fun B G F H e σ Ē D' D k x ⟨J, ⟨n, h⟩, step⟩ q => by
  refine ⟨fun m σ' H' => ∃ e' F', Mv G F F' ∧ Ok K mg B G F' H' e' σ' ∧ J m e', ⟨n, e, F, Mv.refl, k, h⟩, ?_⟩
  rintro m σ' H' ⟨e', F', m1, k1, h1⟩
  refine hc B G F' H' e' σ' Ē _ _ k1 ((x σ').mv m1) (step m e' h1) fun b e2 F2 H2 h2 m2 k2 => ?_
  cases b with
  | true =>
    refine ⟨fun σ3 H3 => ∃ m', m' < m ∧ ∃ e3 F3, Mv G F F3 ∧ Ok K mg B G F3 H3 e3 σ3 ∧ J m' e3, fun σ3 H3 ⟨m', l, hh⟩ => ⟨m', l, hh⟩, ?_⟩
    have m3 := m1.trans m2
    exact hb B G F2 H2 e2 σ' Ē _ _ k2 (fun σ'' => (x σ'').mv m3) h2 ⟨fun e5 σ5 F5 H5 ⟨m', l, h5⟩ m5 k5 => ⟨m', l, e5, F5, m3.trans m5, k5, h5⟩, fun d e5 σ5 v5 F5 H5 h5 m5 k5 r5 => q.rt d e5 σ5 v5 F5 H5 h5 (m3.trans m5) k5 r5,
      fun e5 σ5 F5 H5 h5 m5 k5 => q.nx e5 σ5 F5 H5 h5 (m3.trans m5) k5, fun e5 σ5 F5 H5 ⟨m', l, h5⟩ m5 k5 => ⟨m', l, e5, F5, m3.trans m5, k5, h5⟩⟩
  | false => exact q.nx e2 σ' F2 H2 h2 (m1.trans m2) k2
end
end DL

set_option Elab.async false
set_option linter.all false
set_option maxRecDepth 100000
set_option maxHeartbeats 8000000
namespace DL
open PySem PySem.Spec PyProof.Rows L2
/-! ### enumerate(tuple) -/
def ItE (K : PySem.W.Frag) (a : Addr) : It :=
  ⟨fun i H => ∃ (xs : List V) (x : V), SqT K H a xs ∧ xs[i]? = some x, fun i H v H' => ∃ T x, v = .ref T ∧ H T = none ∧ H' = upd H T (.tup [.int (i : Nat), x]) ∧ ∀ xs, SqT K H a xs → xs[i]? = some x, fun i H => ∃ xs : List V, SqT K H a xs ∧ xs.length = i⟩
theorem turn_enumT {P : Program} {w : World} {K : PySem.W.Frag} {elts : List Expr} {kk : Nat} {tpos : Pos} (a e it : Addr) :
    Turn P w K (.Tuple elts kk tpos) (ItE K a) [e, it] e (fun i h => (∃ old, IsEnum h e it (0 + ((i : Nat) : Int)) old) ∧ h.IsTupleIter it a i ∧ e ≠ it ∧ a ≠ it ∧ a ≠ e) where
  mem := by simp
  obj := fun i h st b hb => by
    obtain ⟨⟨old, he⟩, ⟨o, ho, hc, hd⟩, _⟩ := st
    rcases (show b = e ∨ b = it by simpa using hb) with z | z
    · rw [z]; exact ⟨_, he, fun v q => nomatch q⟩
    · rw [z]; exact ⟨o, ho, fun v q => by rw [hd] at q; cases q⟩
  keep := fun i h h' st k => let ⟨⟨old, he⟩, hi, hne⟩ := st; ⟨⟨old, k e (by simp) _ he⟩, hi.at fun o q => k it (by simp) o q, hne⟩
  item := by
    intro X hP hw hK hc i pins s σ H E I hf st hg
    subst hP hw hK
    obtain ⟨he, hit, hne, ha1, ha2⟩ := st
    obtain ⟨xs, x, hq, hx⟩ := hg
    obtain ⟨its, rv, p, hz⟩ := I.tuple hq
    obtain ⟨u, hu, ru⟩ := rv.get hx
    have W := WalksT.enumFrom 0 (Draws.tuple (prog := X.prog) (w := X.w) (A := X.A.in1) (I.ok.hd hc) it a ha1 its.toArray) e hne (by simp [hne, Ne.symm ha2]) (by simp)
    have hel : e < s.heap.objs.size := by obtain ⟨_, he⟩ := he; exact Heap.lt_size he
    have hil : it < s.heap.objs.size := by obtain ⟨_, q, _⟩ := hit; exact Heap.lt_size q
    refine W.item i s _ _ (by have := (List.getElem?_eq_some_iff.mp hu).1; simpa using this) ⟨he, hit, p⟩ fun T vals h' tk ⟨t, z, hz1, hz2⟩ hT hTt hM hk => ?_
    have ez : z = u := by
      have : its.toArray[i]? = some u := by simpa using hu
      rw [this] at hz1
      exact (Option.some.inj hz1).symm
    subst ez
    refine ⟨_, rfl, W.go elts kk tpos i T _ _ _ hM fun h'' hst hk2 => ?_⟩
    obtain ⟨oT, hT1, hT2, nT, hT3⟩ := hTt
    have nT : T ∉ [e, it] := W.apart _ _ _ hM
    have hT4 : h''.get? T = some oT := hk2 T _ nT hT1
    have new : ObjOk X.prog X.w (upd H T (.tup [.int (i : Nat), x])) h'' T (.tup [.int (i : Nat), x]) :=
      ⟨by show 2 ≤ sizeLine; decide, [.int i t, z], .cons ⟨_, rfl⟩ (.cons ru .nil), ⟨_, hT4, hT2, _, by rw [hT3, hz2, Int.zero_add]⟩⟩
    have I1 := I.turnedNew (h' := h'') (t' := tk) (ch := [e, it]) (fun b ob hb q => hk2 b ob hb (hk b ob hb q)) hf hT new
    refine ⟨.ref T, _, I1, rfl, ⟨T, x, rfl, I.hok.fresh hT, rfl, fun ys hy => by rw [I.tuple_inj hy hq]; exact hx⟩, ⟨hst.1, hst.2.1, hne, ha1, ha2⟩, fun b hb => ?_⟩
    rw [upd_ne fun z => ?_]
    · exact (hf b hb).1
    · have hbl : b < s.heap.objs.size := by
        rcases (show b = e ∨ b = it by simpa using hb) with q | q
        · rw [q]; exact hel
        · rw [q]; exact hil
      exact absurd (Nat.lt_of_lt_of_le hbl hT) (by rw [z]; exact Nat.lt_irrefl _)
  done := by
    intro X hP hw hK hc i pins s σ H E I hf st hg
    subst hP hw hK
    obtain ⟨he, hit, hne, ha1, ha2⟩ := st
    obtain ⟨xs, hq, hx⟩ := hg
    obtain ⟨its, rv, p, hz⟩ := I.tuple hq
    have hl := rv.length
    have hi : i = its.toArray.size := by simp; omega
    subst hi
    exact (WalksT.enumFrom 0 (Draws.tuple (prog := X.prog) (w := X.w) (A := X.A.in1) (I.ok.hd hc) it a ha1 its.toArray) e hne (by simp [hne, Ne.symm ha2]) (by simp)).done s _ _ ⟨he, hit, p⟩ fun h' tk hk => ⟨rfl, I.turnedL (ch := [e, it]) hk hf⟩
  self := fun A i s Q E st h => let ⟨⟨_, he⟩, _⟩ := st; wpAny_pyIter_enum he h
section
variable {v : Value} {o : Obj} {Hq : Heap → Prop}
/-- the making of enumerate over any v whose iterator is told -/
theorem enum_makes (B : Begins v o Hq) : Meets (Builtin.«enumerate.__new__» ⟨[.type "enumerate", v], []⟩) (fun _ R s => Hq s.heap ∧
      R (.ok (.ret (.ref (s.heap.push o).objs.size))) { s with heap := (s.heap.push o).push { cls := .type "enumerate", data := .fields #[.none, .bool false, .ref s.heap.objs.size, rawInt 0, .none, .none] } }) :=
  .of_wp fun prog w A R s h => by
    obtain ⟨hp, g, d, tk, os⟩ := s
    obtain ⟨h1, h2⟩ := h
    have es := sub_enumerate
    have go : ∀ {A' : Around} {E : Value → Shared → Prop} {Q : Value → Shared → Prop}, Q (.ref hp.objs.size) ⟨hp.push o, g, d, tk, os⟩ → wpAny (model prog w) A' (pyIter v) Q E ⟨hp, g, d, tk, os⟩ := fun z => B.iter prog w _ _ ⟨hp, g, d, tk, os⟩ _ h1 z
    wp_walk using go
    refine wpAny_stack_any fun st => wpAny_pure ?_
    split
    · rename_i c _ _ _ _ _
      cases (c == Value.type "enumerate") <;>
        (wp_walk using go
         exact ⟨_, rfl, h2⟩)
    · wp_walk using go
      exact ⟨_, rfl, h2⟩
theorem enum_call {prog : Program} {w : World} {A : Around} {E : Value → Shared → Prop} {s : Shared} {Q : Value → Shared → Prop} (B : Begins v o Hq) (h1 : Hq s.heap)
    (h : ∀ h', IsEnum h' (s.heap.objs.size + 1) s.heap.objs.size 0 .none → h'.get? s.heap.objs.size = some o → (∀ b o, s.heap.get? b = some o → h'.get? b = some o) → Q (.ref (s.heap.objs.size + 1)) { s with heap := h' }) :
    wpAny (model prog w) A (call (.type "enumerate") [v]) Q E s := by
  refine callType_new F.called_enumerate (by decide) (F.typeCall_enumerate_1 _) (F.newCall_enumerate_1 _) (fun obj => F.args_object_init_2 obj _) F.entry_enumerate_new (enum_makes B) ⟨h1, ?_⟩
  have hz : (s.heap.push o).objs.size = s.heap.objs.size + 1 := Heap.size_push ..
  have he : IsEnum ((s.heap.push o).push { cls := .type "enumerate", data := .fields #[.none, .bool false, .ref s.heap.objs.size, rawInt 0, .none, .none] }) (s.heap.objs.size + 1) s.heap.objs.size 0 .none := by
    rw [← hz]
    exact Heap.get?_push_size (s.heap.push o) rfl
  show _ ∧ _
  rw [hz]
  exact ⟨⟨_, he, rfl⟩, h _ he (Heap.get?_push_of_some _ (Heap.get?_push_size _ B.free)) fun b o x => Heap.get?_push_of_some _ (Heap.get?_push_of_some _ x)⟩
end
/-! ### iterators over the text -/
section
variable {X : Cx} {tg : Expr}
/-- over a list, a tuple or a text, as it comes -/
def iSeq (K : PySem.W.Frag) (tl : TE) : TI := fun σ H R => tl σ H fun x H1 => (∃ a xs, x = .ref a ∧ SqL K H1 a xs ∧ R (Itl K a) H1) ∨ (∃ a xs, x = .ref a ∧ SqT K H1 a xs ∧ R (Itt K a) H1) ∨ ∃ z, x = .str z ∧ R (Its z) H1
theorem pi_seq {l : Expr} {tl : TE} (hl : PE X l tl) : PI X tg l (iSeq X.K tl) := ⟨fun pins s σ H R I h => thn (hl.run pins s σ H _ I h) fun v s1 ⟨x, H1, I1, r1, q1⟩ => by
  rcases q1 with ⟨a, xs, rfl, hq, q⟩ | ⟨a, xs, rfl, hq, q⟩ | ⟨z, rfl, q⟩
  · cases r1
    obtain ⟨its, rv, p, _⟩ := I1.list hq
    exact wpAny_pyIter_list p.isList (pi_one (tk := s1.toks) I1 _ (turn_list a _) ⟨_, Heap.get?_push_size _ rfl, rfl, rfl⟩ q)
  · cases r1
    obtain ⟨its, rv, p, _⟩ := I1.tuple hq
    exact wpAny_pyIter_tuple (show s1.heap.IsTuple a its.toArray from p) (pi_one (tk := s1.toks) I1 _ (turn_tuple a _) ⟨_, Heap.get?_push_size _ rfl, rfl, rfl⟩ q)
  · obtain ⟨t, rfl⟩ := r1
    cases ha : z.cps.all (· < 128) with
    | false => exact wpAny_pyIter_wide ha (pi_one (tk := s1.toks) I1 _ (turn_str _ z t "str_iterator" (.inr rfl)) ⟨_, Heap.get?_push_size _ rfl, rfl, rfl⟩ q)
    | true => exact wpAny_pyIter_ascii ha (pi_one (tk := s1.toks) I1 _ (turn_str _ z t "str_ascii_iterator" (.inl rfl)) ⟨_, Heap.get?_push_size _ rfl, rfl, rfl⟩ q)⟩
def iEnm (K : PySem.W.Frag) (ta : TA) : TI := fun σ H R => ta σ H fun vs H1 => ∃ a xs, vs = [.ref a] ∧ ((SqL K H1 a xs ∧ R (Ite K a) H1) ∨ (SqT K H1 a xs ∧ R (ItE K a) H1))
theorem pi_enm {e : Expr} {ta : TA} {p pos tpos : Pos} {elts : List Expr} {kk : Nat} (hg : Gl X "enumerate") (hm : X.mg "enumerate" = none) (ha : PA X [e] ta) (hs : starEach [e] X.env = [(false, eval e X.env)]) :
    PI X (.Tuple elts kk tpos) (.Call (.Name "enumerate" p) [e] [] pos) (iEnm X.K ta) := ⟨fun pins s σ H R I h =>
  Call_ (ld_blt I hg hm PyProof.Rows.boot_enumerate (PyProof.Rows.callWith_type1 (thn (ha.run pos pins s σ H _ I h) fun us s1 ⟨vs, H1, I1, r1, q1⟩ => by
    obtain ⟨a, xs, rfl, q⟩ := q1
    obtain rfl := Vals.ref1 r1
    have near : ∀ b, b ∈ [s1.heap.objs.size + 1, s1.heap.objs.size] → FpOk X pins H1 b := fun b hb => by
      have hle : s1.heap.objs.size ≤ b := by
        rcases (show b = s1.heap.objs.size + 1 ∨ b = s1.heap.objs.size by simpa using hb) with z | z <;> (rw [z]; omega)
      exact I1.fpOk hle (I1.hok.fresh hle)
    rcases q with ⟨hq, q⟩ | ⟨hq, q⟩
    · obtain ⟨its, rv, p', hz⟩ := I1.list hq
      refine call_enumerate_list p'.isList fun h' he hit hsz hk => wpAny_pyIter_enum he ?_
      exact ⟨_, _, _, _, H1, rfl, I1.kept (t' := s1.toks) hk, turn_enum a _ _, ⟨⟨.none, he⟩, hit, Nat.succ_ne_self _⟩, near, q⟩
    · obtain ⟨its, rv, p', hz⟩ := I1.tuple hq
      have hlt : a < s1.heap.objs.size := by obtain ⟨_, e, _⟩ := p'; exact Heap.lt_size e
      refine enum_call (begins_tuple a its.toArray) p' fun h' he hit hk => wpAny_pyIter_enum he ?_
      exact ⟨_, _, _, _, H1, rfl, I1.kept (t' := s1.toks) hk, turn_enumT a _ _, ⟨⟨.none, he⟩, ⟨_, hit, rfl, rfl⟩, Nat.succ_ne_self _, Nat.ne_of_lt hlt, Nat.ne_of_lt (Nat.lt_succ_of_lt hlt)⟩, near, q⟩) hs rfl))⟩
end
section
variable {K : PySem.W.Frag} {mg : Str → Option Value} {F : Hp} {a b : Addr} {xs ys : List D} {vs ws : List V}
def enumD (xs : List D) : List D := pairsD (rangeD 0 xs.length) xs
theorem enumD_length (xs : List D) : (enumD xs).length = xs.length := by unfold enumD; rw [pairsD_length, rangeD_length, Nat.min_self]
theorem wd_enumL (h : F a = some (.lst vs)) (l : RepL K mg F xs vs) : WalkD K mg F (Ite K a) (enumD xs) := by
  have W := walk_enum (K := K) (a := a) (xs := vs)
  refine ⟨fun i H hi s => W.goes i H (by rw [← l.length, ← enumD_length]; exact hi) (SqL.of (s _ _ h)), fun H s => by rw [enumD_length, l.length]; exact W.stops H (SqL.of (s _ _ h)), fun i H x H' F1 hi s1 s2 y => ?_⟩
  rw [enumD_length] at hi
  obtain ⟨T, u, w, rfl, hT, rfl, e1, e2⟩ := W.yields i H x H' (by rw [← l.length]; exact hi) (SqL.of (s2 _ _ (s1 _ _ h))) y
  cases e1
  obtain ⟨d, h1, r1⟩ := l.getV e2
  have g : Gr F1 H (upd F1 T (.tup [.int (i : Nat), w])) (upd H T (.tup [.int (i : Nat), w])) := Gr.new s2 hT
  exact ⟨.tup [.int (i : Nat), d], _, pairsD_get (by rw [rangeD_get hi, Int.zero_add]) h1, g, .tup upd_same (.cons (.int _) (.cons ((r1.mono s1).mono g.ff) .nil))⟩
theorem wd_enumT (h : F a = some (.tup vs)) (l : RepL K mg F xs vs) : WalkD K mg F (ItE K a) (enumD xs) := by
  refine ⟨fun i H hi s => ?_, fun H s => ?_, fun i H x H' F1 hi s1 s2 y => ?_⟩
  · rw [enumD_length, l.length] at hi
    exact ⟨vs, vs[i], SqT.of (s _ _ h), by simp [hi]⟩
  · exact ⟨vs, SqT.of (s _ _ h), by rw [enumD_length, l.length]⟩
  · rw [enumD_length] at hi
    obtain ⟨T, w, rfl, hT, rfl, e⟩ := y
    obtain ⟨d, h1, r1⟩ := l.getV (e vs (SqT.of (s2 _ _ (s1 _ _ h))))
    have g : Gr F1 H (upd F1 T (.tup [.int (i : Nat), w])) (upd H T (.tup [.int (i : Nat), w])) := Gr.new s2 hT
    exact ⟨.tup [.int (i : Nat), d], _, pairsD_get (by rw [rangeD_get hi, Int.zero_add]) h1, g, .tup upd_same (.cons (.int _) (.cons ((r1.mono s1).mono g.ff) .nil))⟩
end
/-! ### what is walked, as D-level rows -/
def dItems (a : DE) : DI := fun Ē e Q => a Ē e fun x e1 => match x with
  | .lst xs => Q xs e1
  | .tup xs => Q xs e1
  | .scr xs => Q xs e1
  | .str z => Q (signsD z) e1
  | _ => False
def dEnum (a : DE) : DI := fun Ē e Q => a Ē e fun x e1 => match x with
  | .lst xs => Q (enumD xs) e1
  | .tup xs => Q (enumD xs) e1
  | _ => False
def dZip (a b : DE) : DI := fun Ē e Q => a Ē e fun x e1 => b Ē e1 fun y e2 => match x, y with
  | .lst xs, .lst ys => Q (pairsD xs ys) e2
  | .tup xs, .tup ys => Q (pairsD xs ys) e2
  | _, _ => False
def dRev (a : DE) : DI := fun Ē e Q => a Ē e fun x e1 => match x with
  | .lst xs => Q xs.reverse e1
  | .tup xs => Q xs.reverse e1
  | _ => False
def dRange1 (a : DE) : DI := fun Ē e Q => a Ē e fun x e1 => match x with
  | .int j => (-(2 ^ 62) ≤ j ∧ j < 2 ^ 62) ∧ Q (rangeD 0 j.toNat) e1
  | _ => False
def dRange2 (a b : DE) : DI := fun Ē e Q => a Ē e fun x e1 => b Ē e1 fun y e2 => match x, y with
  | .int i, .int j => (-(2 ^ 62) ≤ i ∧ i < 2 ^ 62 ∧ -(2 ^ 62) ≤ j ∧ j < 2 ^ 62) ∧ Q (rangeD i (j - i).toNat) e2
  | _, _ => False
section
variable {K : PySem.W.Frag} {mg : Str → Option Value} {E : L2.St → XK} {ta tb : TE} {a b : DE}
theorem si_seq (ha : SE K mg E ta a) : SI K mg E (iSeq K ta) (dItems a) := fun B G F H e σ Ē Q' R k x h q =>
  ha B G F H e σ Ē _ _ k x h fun d e1 v F1 H1 h1 m1 k1 r1 => by
    cases d with
    | lst xs => cases r1 with
      | lst ha la => exact .inl ⟨_, _, rfl, SqL.of (k1.fh _ _ ha), q xs e1 _ F1 H1 h1 m1 k1 (wd_list ha la)⟩
    | scr xs => cases r1 with
      | scr ha la => exact .inl ⟨_, _, rfl, same_l k1.fh ha, q xs e1 _ F1 H1 h1 m1 k1 (wd_scr ha la)⟩
    | tup xs => cases r1 with
      | tup ha la => exact .inr (.inl ⟨_, _, rfl, SqT.of (k1.fh _ _ ha), q xs e1 _ F1 H1 h1 m1 k1 (wd_tup ha la)⟩)
    | str z =>
      cases r1
      exact .inr (.inr ⟨z, rfl, q _ e1 _ F1 H1 h1 m1 k1 wd_str⟩)
    | _ => exact h1.elim
theorem si_enm (ha : SE K mg E ta a) : SI K mg E (iEnm K (tCons ta tNil)) (dEnum a) := fun B G F H e σ Ē Q' R k x h q =>
  ha B G F H e σ Ē _ _ k x h fun d e1 v F1 H1 h1 m1 k1 r1 => by
    cases d with
    | lst xs => cases r1 with
      | lst ha la => exact ⟨_, _, rfl, .inl ⟨SqL.of (k1.fh _ _ ha), q _ e1 _ F1 H1 h1 m1 k1 (wd_enumL ha la)⟩⟩
    | tup xs => cases r1 with
      | tup ha la => exact ⟨_, _, rfl, .inr ⟨SqT.of (k1.fh _ _ ha), q _ e1 _ F1 H1 h1 m1 k1 (wd_enumT ha la)⟩⟩
    | _ => exact h1.elim
theorem si_zip (ha : SE K mg E ta a) (hb : SE K mg E tb b) : SI K mg E (RZ.iZipA K (tCons ta (tCons tb tNil))) (dZip a b) := fun B G F H e σ Ē Q' R k x h q =>
  ha B G F H e σ Ē _ _ k x h fun d e1 v F1 H1 h1 m1 k1 r1 => hb B G F1 H1 e1 σ Ē _ _ k1 (x.mv m1) h1 fun d2 e2 v2 F2 H2 h2 m2 k2 r2 => by
    have r1 := r1.mono m2.ff
    split at h2
    · cases r1 with
      | lst ha la => cases r2 with
        | lst hb lb => exact ⟨_, _, _, _, rfl, .inl ⟨SqL.of (k2.fh _ _ ha), SqL.of (k2.fh _ _ hb), q _ e2 _ F2 H2 h2 (m1.trans m2) k2 (wd_zipL ha hb la lb)⟩⟩
    · cases r1 with
      | tup ha la => cases r2 with
        | tup hb lb => exact ⟨_, _, _, _, rfl, .inr ⟨SqT.of (k2.fh _ _ ha), SqT.of (k2.fh _ _ hb), q _ e2 _ F2 H2 h2 (m1.trans m2) k2 (wd_zipT ha hb la lb)⟩⟩
    · exact h2.elim
theorem si_rev (ha : SE K mg E ta a) : SI K mg E (RT.iRevA K ta) (dRev a) := fun B G F H e σ Ē Q' R k x h q =>
  ha B G F H e σ Ē _ _ k x h fun d e1 v F1 H1 h1 m1 k1 r1 => by
    cases d with
    | lst xs => cases r1 with
      | lst ha la => exact ⟨_, _, rfl, .inl ⟨SqL.of (k1.fh _ _ ha), q _ e1 _ F1 H1 h1 m1 k1 (wd_revL ha la)⟩⟩
    | tup xs => cases r1 with
      | tup ha la => exact ⟨_, _, rfl, .inr ⟨SqT.of (k1.fh _ _ ha), q _ e1 _ F1 H1 h1 m1 k1 (wd_revT ha la)⟩⟩
    | _ => exact h1.elim
theorem si_rng1 (ha : SE K mg E ta a) : SI K mg E (iRng1 (tCons ta tNil)) (dRange1 a) := fun B G F H e σ Ē Q' R k x h q =>
  ha B G F H e σ Ē _ _ k x h fun d e1 v F1 H1 h1 m1 k1 r1 => by
    cases d with
    | int j =>
      cases r1
      exact ⟨j, rfl, h1.1.1, h1.1.2, q _ e1 _ F1 H1 h1.2 m1 k1 wd_range⟩
    | _ => exact h1.elim
theorem si_rng2 (ha : SE K mg E ta a) (hb : SE K mg E tb b) : SI K mg E (iRng2 (tCons ta (tCons tb tNil))) (dRange2 a b) := fun B G F H e σ Ē Q' R k x h q =>
  ha B G F H e σ Ē _ _ k x h fun d e1 v F1 H1 h1 m1 k1 r1 => hb B G F1 H1 e1 σ Ē _ _ k1 (x.mv m1) h1 fun d2 e2 v2 F2 H2 h2 m2 k2 r2 => by
    split at h2
    · cases r1; cases r2
      exact ⟨_, _, rfl, h2.1, q _ e2 _ F2 H2 h2.2 (m1.trans m2) k2 wd_range⟩
    · exact h2.elim
end
section
variable {X : Cx} {ι : Type} {v : ι → Vy} {E : L2.St → XK} {a b tg : Expr} {da db : DE} {pos p : Pos}
theorem pdi_seq (ha : PD X v E a da) : PDI X v E tg a (dItems da) := by
  obtain ⟨ta, ha, sa⟩ := ha.ex
  exact ⟨iSeq X.K ta, fun ii => pi_seq (ha ii), si_seq sa⟩
theorem pdi_enum {elts : List Expr} {kk : Nat} {tpos : Pos} (hm : X.mg "enumerate" = none) (ha : PD X v E a da) (hg : ∀ ii, Gl (X.atV (v ii)) "enumerate" := by intro _; rfl) (hs : ∀ ii, starEach [a] (v ii).env = [(false, eval a (v ii).env)] := by intro _; rfl) :
    PDI X v E (.Tuple elts kk tpos) (.Call (.Name "enumerate" p) [a] [] pos) (dEnum da) := by
  obtain ⟨ta, ha, sa⟩ := ha.ex
  exact ⟨iEnm X.K (tCons ta tNil), fun ii => pi_enm (hg ii) hm (pa_cons (ha ii) pa_nil (hs ii)) (hs ii), si_enm sa⟩
theorem pdi_zip {elts : List Expr} {kk : Nat} {tpos : Pos} (hm : X.mg "zip" = none) (ha : PD X v E a da) (hb : PD X v E b db) (hg : ∀ ii, Gl (X.atV (v ii)) "zip" := by intro _; rfl) (hs : ∀ ii, starEach [a, b] (v ii).env = (false, eval a (v ii).env) :: starEach [b] (v ii).env := by intro _; rfl)
    (hs2 : ∀ ii, starEach [b] (v ii).env = (false, eval b (v ii).env) :: starEach [] (v ii).env := by intro _; rfl) (hpl : ∀ ii, (backTo pos (starEach [b] (v ii).env)).any (·.1) = false := by intro _; rfl) :
    PDI X v E (.Tuple elts kk tpos) (.Call (.Name "zip" p) [a, b] [] pos) (dZip da db) := by
  obtain ⟨ta, ha, sa⟩ := ha.ex
  obtain ⟨tb, hb, sb⟩ := hb.ex
  exact ⟨RZ.iZipA X.K (tCons ta (tCons tb tNil)), fun ii => RZ.pi_zipA (hg ii) hm (pa_cons (ha ii) (pa_cons (hb ii) pa_nil (hs2 ii)) (hs ii)) (hs ii) (hpl ii), si_zip sa sb⟩
theorem pdi_rev (hm : X.mg "reversed" = none) (ha : PD X v E a da) (hg : ∀ ii, Gl (X.atV (v ii)) "reversed" := by intro _; rfl) (hs : ∀ ii, starEach [a] (v ii).env = (false, eval a (v ii).env) :: starEach [] (v ii).env := by intro _; rfl) :
    PDI X v E tg (.Call (.Name "reversed" p) [a] [] pos) (dRev da) := by
  obtain ⟨ta, ha, sa⟩ := ha.ex
  exact ⟨RT.iRevA X.K ta, fun ii => RT.pi_revA (hg ii) hm (ha ii) (hs ii), si_rev sa⟩
theorem pdi_rng1 (hm : X.mg "range" = none) (ha : PD X v E a da) (hg : ∀ ii, Gl (X.atV (v ii)) "range" := by intro _; rfl) (hs : ∀ ii, starEach [a] (v ii).env = [(false, eval a (v ii).env)] := by intro _; rfl) :
    PDI X v E tg (.Call (.Name "range" p) [a] [] pos) (dRange1 da) := by
  obtain ⟨ta, ha, sa⟩ := ha.ex
  exact ⟨iRng1 (tCons ta tNil), fun ii => pi_range1 (hg ii) hm (pa_cons (ha ii) pa_nil (hs ii)) (hs ii), si_rng1 sa⟩
theorem pdi_rng2 (hm : X.mg "range" = none) (ha : PD X v E a da) (hb : PD X v E b db) (hg : ∀ ii, Gl (X.atV (v ii)) "range" := by intro _; rfl) (hs : ∀ ii, starEach [a, b] (v ii).env = [(false, eval a (v ii).env), (false, eval b (v ii).env)] := by intro _; rfl)
    (hs2 : ∀ ii, starEach [b] (v ii).env = [(false, eval b (v ii).env)] := by intro _; rfl) : PDI X v E tg (.Call (.Name "range" p) [a, b] [] pos) (dRange2 da db) := by
  obtain ⟨ta, ha, sa⟩ := ha.ex
  obtain ⟨tb, hb, sb⟩ := hb.ex
  exact ⟨iRng2 (tCons ta (tCons tb tNil)), fun ii => pi_range2 (hg ii) hm (pa_cons (ha ii) (pa_cons (hb ii) pa_nil (hs2 ii)) (by rw [hs ii, hs2 ii])) (hs ii) (hs2 ii), si_rng2 sa sb⟩
end
end DL

set_option Elab.async false
set_option linter.all false
set_option maxRecDepth 100000
set_option maxHeartbeats 8000000
namespace DL
open PySem PySem.Spec PyProof.Rows L2
/-! ### statements over the text -/
section
variable {X : Cx} {ι : Type} {v : ι → Vy} {E : L2.St → XK} {k : Nat} {a b c tg : Expr} {da db : DE} {dn : DN} {dt : DT} {pos p : Pos} {ds du : DS} {st : Stmt} {sts ss tt : List Stmt}
theorem pds_nil : PDSs X v E [] dNext := ⟨_, fun _ => pss_nil, ss_next⟩
theorem pds_cons (h1 : PDS X v E st ds) (h2 : PDSs X v E sts du) : PDSs X v E (st :: sts) (dSeq ds du) := by
  obtain ⟨t, h1, s1⟩ := h1.ex
  obtain ⟨u, h2, s2⟩ := h2.ex
  exact ⟨_, fun ii => pss_cons (h1 ii) (h2 ii), ss_seq s1 s2⟩
theorem pds_one (h1 : PDS X v E st ds) : PDSs X v E [st] ds := by
  obtain ⟨t, h1, s1⟩ := h1.ex
  exact ⟨_, fun ii => pss_one (h1 ii), s1⟩
theorem ds_pass : PDS X v E (.Pass pos) dNext := ⟨_, fun _ => ps_pass, ss_next⟩
theorem ds_brk : PDS X v E (.Break pos) dBrk := ⟨_, fun _ => ps_break, ss_brk⟩
theorem ds_cnt : PDS X v E (.Continue pos) dCnt := ⟨_, fun _ => ps_continue, ss_cnt⟩
theorem ds_never : PDS X v E st dNever := ⟨_, fun _ => ps_never, ss_never⟩
theorem ds_expr (ha : PD X v E a da) (hs : ∀ ii, swapsWith a none pos.line (v ii).env = pure false := by intro _; rfl) : PDS X v E (.Expr a pos) (dDrop da) := by
  obtain ⟨ta, ha, sa⟩ := ha.ex
  exact ⟨_, fun ii => ps_expr (ha ii) (hs ii), ss_drop sa⟩
theorem ds_ret (ha : PD X v E a da) : PDS X v E (.Return (some a) pos) (dRet da) := by
  obtain ⟨ta, ha, sa⟩ := ha.ex
  exact ⟨_, fun ii => ps_ret (ha ii), ss_ret sa⟩
theorem ds_retN : PDS X v E (.Return none pos) dRetN := ⟨_, fun _ => ps_retN, ss_retN⟩
theorem ds_if (hc : PDT X v E c dt) (h1 : PDSs X v E ss ds) (h2 : PDSs X v E tt du) : PDS X v E (.If c ss tt pos) (dIf dt ds du) := by
  obtain ⟨t, hc, sc⟩ := hc.ex
  obtain ⟨u, h1, s1⟩ := h1.ex
  obtain ⟨w, h2, s2⟩ := h2.ex
  exact ⟨_, fun ii => ps_if (hc ii) (h1 ii) (h2 ii), ss_if sc s1 s2⟩
theorem ds_asg (i : Nat) {x : Str} (g : Good X k) (ha : PD X v E a da) (hi : X.N[i]? = some x := by rfl) (hx : ∀ ii, Loc (v ii).env.scope x := by first | exact fun _ => Or.inl rfl | exact fun _ => Or.inr rfl) (hf : ∀ ii, (v ii).fn x = true ∨ (v ii).env.scope.names.lookup x = some .local := by first | exact fun _ => .inl rfl | exact fun _ => .inr rfl)
    (hs : ∀ ii, swapsWith a (some (.Name x p)) pos.line (v ii).env = pure false := by intro _; rfl) : PDS X v E (.Assign [.Name x p] a pos) (dAsg i da) := by
  obtain ⟨ta, ha, sa⟩ := ha.ex
  exact ⟨_, fun ii => ps_set g.nd hi (hx ii) (ha ii) (hs ii) (hf ii), ss_asg sa⟩
theorem ds_asgN (i : Nat) {x : Str} (g : Good X k) (ha : PN X v E a dn) (hi : X.N[i]? = some x := by rfl) (hx : ∀ ii, Loc (v ii).env.scope x := by first | exact fun _ => Or.inl rfl | exact fun _ => Or.inr rfl) (hf : ∀ ii, (v ii).fn x = true ∨ (v ii).env.scope.names.lookup x = some .local := by first | exact fun _ => .inl rfl | exact fun _ => .inr rfl)
    (hs : ∀ ii, swapsWith a (some (.Name x p)) pos.line (v ii).env = pure false := by intro _; rfl) : PDS X v E (.Assign [.Name x p] a pos) (dAsgN i dn) := by
  obtain ⟨ta, ha, sa⟩ := ha.ex
  exact ⟨_, fun ii => ps_set g.nd hi (hx ii) (ha ii) (hs ii) (hf ii), ss_asgN sa⟩
/-! ### targets -/
theorem pg_var (i : Nat) {x : Str} (g : Good X k) (hi : X.N[i]? = some x := by rfl) (hx : ∀ ii, Loc (v ii).env.scope x := by first | exact fun _ => Or.inl rfl | exact fun _ => Or.inr rfl) (hf : ∀ ii, (v ii).fn x = true ∨ (v ii).env.scope.names.lookup x = some .local := by first | exact fun _ => .inl rfl | exact fun _ => .inr rfl) :
    PDG X v [i] (.Name x p) (gVar i) := ⟨_, fun ii => pg_name g.nd hi (hx ii) (hf ii), sg_var⟩
theorem pgd_nil : PDGs X v [] [] gsNil := ⟨_, fun _ => pgs_nil, sgs_nil⟩
theorem pgd_cons {js ks : List Nat} {e : Expr} {es : List Expr} {dg : DG} {dgs : DGs} (h1 : PDG X v js e dg) (h2 : PDGs X v ks es dgs) (hs : ∀ ii, (assignEach (e :: es) (v ii).env).map (·.2) = assign e (v ii).env :: (assignEach es (v ii).env).map (·.2) := by intro _; rfl) : PDGs X v (js ++ ks) (e :: es) (gsCons dg dgs) := by
  obtain ⟨g, h1, s1⟩ := h1.ex
  obtain ⟨gs, h2, s2⟩ := h2.ex
  exact ⟨_, fun ii => pgs_cons (h1 ii) (h2 ii) (hs ii), sgs_cons s1 s2⟩
theorem pgd_tup {js : List Nat} {es : List Expr} {kk n : Nat} {dgs : DGs} (g : Good X k) (h : PDGs X v js es dgs) (hst : ∀ ii, (assignEach es (v ii).env).findIdx? (·.1) = none := by intro _; rfl) (hn : ∀ ii, (assignEach es (v ii).env).length = n := by intro _; rfl) : PDG X v js (.Tuple es kk p) (gTupD n dgs) := by
  obtain ⟨gs, h, s⟩ := h.ex
  exact ⟨gTup X.K n gs, fun ii => pg_tup (X := X.atV (v ii)) g.calm (h ii) (hn ii) (hst ii), sg_tup s⟩
theorem ds_asgG {js : List Nat} {dg : DG} (ha : PD X v E a da) (hg : PDG X v js tg dg) (hs : ∀ ii, swapsWithSole [tg] a pos.line (v ii).env = pure false := by intro _; rfl) (hw : ∀ ii, swappedStores [tg] a (v ii).env = pure none := by intro _; rfl) (h1 : ∀ ii, (assignEach [tg] (v ii).env).map (·.2) = [assign tg (v ii).env] := by intro _; rfl) : PDS X v E (.Assign [tg] a pos) (dAsgG da dg) := by
  obtain ⟨ta, ha, sa⟩ := ha.ex
  obtain ⟨g, hg, sg⟩ := hg.ex
  exact ⟨_, fun ii => ps_asg (ha ii) (hg ii) (hs ii) (hw ii) (h1 ii), ss_asgG sa sg⟩
end
end DL

set_option Elab.async false
set_option linter.all false
set_option maxRecDepth 100000
set_option maxHeartbeats 8000000
namespace DL
open PySem PySem.Spec PyProof.Rows L2
def SubPl (o i : Expr) (pos : Pos) (env : PySem.Env) : Prop := ∀ v, assign (.Subscript o i pos) env v = (do
  let x ← holding [v] (eval o env)
  let y ← holding [v, x] (eval i env)
  standAt pos
  holding [v, x, y] (setItem x y v)
  release [v, x, y] [])
def AugPl (i : Expr) : Prop := ∀ x y z, augStore i x y z = (do
  holding [z, x, y] (setItem x y z)
  release [z, x, y] []
  pure .next)
section
variable {X : Cx} {ι : Type} {v : ι → Vy} {E : L2.St → XK} {k : Nat} {a b c tg iter : Expr} {da db : DE} {dn : DN} {dt : DT} {pos p pp cpos apos : Pos} {ds du : DS} {body : List Stmt} {es : List Expr} {dr : DA} {di : DI} {dg : DG} {js : List Nat}
theorem ds_setIx (j : Nat) {x : Str} (hi : PD X v E b db) (ha : PD X v E a da) (hN : X.N[j]? = some x := by rfl) (hv : ∀ ii, Vis (v ii).env.scope x := by first | exact fun _ => Or.inl rfl | exact fun _ => Or.inr (Or.inl rfl) | exact fun _ => Or.inr (Or.inr rfl)) (hd : (x == ("__debug__" : Str)) = false := by decide) (hcd : (x == ("__classdict__" : Str)) = false := by decide)
    (hs : ∀ ii, swapsWithSole [.Subscript (.Name x p) b pp] a pos.line (v ii).env = pure false := by intro _; rfl) (hw : ∀ ii, swappedStores [.Subscript (.Name x p) b pp] a (v ii).env = pure none := by intro _; rfl) (h1 : ∀ ii, (assignEach [.Subscript (.Name x p) b pp] (v ii).env).map (·.2) = [assign (.Subscript (.Name x p) b pp) (v ii).env] := by intro _; rfl)
    (hg : ∀ ii, SubPl (.Name x p) b pp (v ii).env := by intro _ _; rfl) : PDS X v E (.Assign [.Subscript (.Name x p) b pp] a pos) (dSetIx j db da) := by
  obtain ⟨ta, ha, sa⟩ := ha.ex
  obtain ⟨tb, hi, sb⟩ := hi.ex
  exact ⟨_, fun ii => ps_asg (ha ii) (pg_sub (pe_var hN (hv ii) hd hcd) (hi ii) set_list (hg ii)) (hs ii) (hw ii) (h1 ii), ss_setIx sb sa⟩
theorem ds_augAdd (j : Nat) {x : Str} (g : Good X k) (ha : PD X v E a da) (hi : X.N[j]? = some x := by rfl) (hx : ∀ ii, Loc (v ii).env.scope x := by first | exact fun _ => Or.inl rfl | exact fun _ => Or.inr rfl) (hf : ∀ ii, (v ii).fn x = true ∨ (v ii).env.scope.names.lookup x = some .local := by first | exact fun _ => .inl rfl | exact fun _ => .inr rfl) :
    PDS X v E (.AugAssign (.Name x p) .Add a pos) (dAug (· + ·) j da) := by
  obtain ⟨ta, ha, sa⟩ := ha.ex
  exact ⟨_, fun ii => ps_aug g.nd hi (hx ii) (ha ii) ip_add (hf ii), ss_aug sa⟩
theorem ds_augSub (j : Nat) {x : Str} (g : Good X k) (ha : PD X v E a da) (hi : X.N[j]? = some x := by rfl) (hx : ∀ ii, Loc (v ii).env.scope x := by first | exact fun _ => Or.inl rfl | exact fun _ => Or.inr rfl) (hf : ∀ ii, (v ii).fn x = true ∨ (v ii).env.scope.names.lookup x = some .local := by first | exact fun _ => .inl rfl | exact fun _ => .inr rfl) :
    PDS X v E (.AugAssign (.Name x p) .Sub a pos) (dAug (· - ·) j da) := by
  obtain ⟨ta, ha, sa⟩ := ha.ex
  exact ⟨_, fun ii => ps_aug g.nd hi (hx ii) (ha ii) ip_sub (hf ii), ss_aug sa⟩
/-! ### methods of an owned list -/
theorem pd_mth (j : Nat) {x name : Str} {id : String} {r : V → List V → Hp → VK → Prop} {f : List D → List D → (List D → D → Prop) → Prop} (pa : PlainAttrs "list") (slot : Slot "list" name id) (hty : typeOf (.builtin id) = pure (.type "method_descriptor")) (hm : ∀ ii, MtR (X.atV (v ii)) id r) (hr : LM X.K X.mg r f) (ha : PDA X v E (a :: es) dr)
    (hN : X.N[j]? = some x := by rfl) (hv : ∀ ii, Vis (v ii).env.scope x := by first | exact fun _ => Or.inl rfl | exact fun _ => Or.inr (Or.inl rfl) | exact fun _ => Or.inr (Or.inr rfl)) (hd : (x == ("__debug__" : Str)) = false := by decide) (hcd : (x == ("__classdict__" : Str)) = false := by decide)
    (hbase : ∀ ii, attributeBase (.Name x p) name (v ii).env (eval (.Name x p) (v ii).env) = eval (.Name x p) (v ii).env := by intro _; rfl)
    (hfew : ∀ ii, ((backTo cpos (starEach (a :: es) (v ii).env)).all (fun x => !x.1) && (backToKw cpos (keywordEach [] (v ii).env)).all (fun x => x.1.isSome) && decide ((a :: es).length + ([] : List Keyword).length + (if ([] : List Keyword).isEmpty then 0 else 1) < 30)) = true := by intro _; rfl)
    (hline : (apos.endLine == cpos.line) = true := by rfl) (hs : ∀ ii, starEach (a :: es) (v ii).env = (false, eval a (v ii).env) :: starEach es (v ii).env := by intro _; rfl) (hpl : ∀ ii, (backTo cpos (starEach es (v ii).env)).any (·.1) = false := by intro _; rfl) :
    PD X v E (.Call (.Attribute (.Name x p) name apos) (a :: es) [] cpos) (dMth j f dr) := by
  obtain ⟨ta, ha, sa⟩ := ha.ex
  exact ⟨tBM X.K "list" r (tVar j) ta, fun ii => pe_bm pa slot hty (hm ii) (pe_var hN (hv ii) hd hcd) (ha ii) (hbase ii) (hfew ii) hline (hs ii) (hpl ii), se_mth hr sa⟩
theorem pd_mth0 (j : Nat) {x name : Str} {id : String} {r : V → List V → Hp → VK → Prop} {f : List D → List D → (List D → D → Prop) → Prop} (pa : PlainAttrs "list") (slot : Slot "list" name id) (hty : typeOf (.builtin id) = pure (.type "method_descriptor")) (hm : ∀ ii, MtR (X.atV (v ii)) id r) (hr : LM X.K X.mg r f)
    (hN : X.N[j]? = some x := by rfl) (hv : ∀ ii, Vis (v ii).env.scope x := by first | exact fun _ => Or.inl rfl | exact fun _ => Or.inr (Or.inl rfl) | exact fun _ => Or.inr (Or.inr rfl)) (hd : (x == ("__debug__" : Str)) = false := by decide) (hcd : (x == ("__classdict__" : Str)) = false := by decide)
    (hbase : ∀ ii, attributeBase (.Name x p) name (v ii).env (eval (.Name x p) (v ii).env) = eval (.Name x p) (v ii).env := by intro _; rfl) (hline : (apos.endLine == cpos.line) = true := by rfl) :
    PD X v E (.Call (.Attribute (.Name x p) name apos) [] [] cpos) (dMth j f dNil) := ⟨tBM0 X.K "list" r (tVar j), fun ii => pe_bm0 pa slot hty (hm ii) (pe_var hN (hv ii) hd hcd) (hbase ii) hline, se_mth0 hr⟩
/-! ### loops -/
theorem ds_for (g : Good X k) (hp : ∀ ii, PassesOwn (model X.prog X.w) X.A (v ii).env (v ii).xe) (hi : PDI X v E tg iter di) (hg : PDG X v js tg dg) (hb : PDSs X v E body ds) (hs : ∀ ii x, foldedSetIterable iter (v ii).env x = pure x := by intro _ _; rfl) :
    PDS X v E (.For tg iter body [] pos) (dFor di dg ds) := by
  obtain ⟨wi, hi, si⟩ := hi.ex
  obtain ⟨gg, hg, sg⟩ := hg.ex
  obtain ⟨tb, hb, sb⟩ := hb.ex
  exact ⟨tFor wi gg tb, fun ii => ps_for (X := X.atV (v ii)) (hp ii) g.calm (hi ii) (hg ii) (hb ii) (hs ii), ss_for si sg sb⟩
theorem ds_while (hp : ∀ ii, PassesOwn (model X.prog X.w) X.A (v ii).env (v ii).xe) (hc : PDT X v E c dt) (hb : PDSs X v E body ds) : PDS X v E (.While c body [] pos) (dWhile dt ds) := by
  obtain ⟨t, hc, sc⟩ := hc.ex
  obtain ⟨tb, hb, sb⟩ := hb.ex
  exact ⟨tWhile t tb, fun ii => ps_while (X := X.atV (v ii)) (hp ii) (hc ii) (hb ii), ss_while sc sb⟩
end
/-! ### comprehensions -/
def wipeE (vs : List Nat) (e : DEnv) : DEnv := vs.foldr (fun j e => e.set j .no) e
def notOwn (vs : List Nat) (e : DEnv) : Bool := vs.all fun j => match e[j]? with
  | some (.ow _ _) => false
  | _ => true
def backE (vs : List Nat) (e0 e : DEnv) : DEnv := vs.foldr (fun j e => match e0[j]? with
  | some s => e.set j s
  | none => e) e
def lcGo (g : DG) (dt : DT) (de : DE) (vs : List Nat) (Q : List D → DEnv → Prop) : List D → List D → DEnv → Prop
  | [], acc, e => Q acc e
  | d :: ds, acc, e => g d e fun e1 => dt X0 e1 fun b e2 => if b = true then de X0 e2 fun y e3 => acc.length < sizeLine ∧ lcGo g dt de vs Q ds (acc ++ [y]) (wipeE vs e3) else lcGo g dt de vs Q ds acc (wipeE vs e2)
def dLc (di : DI) (g : DG) (dt : DT) (de : DE) (vs : List Nat) : DN := fun Ē e Q => di Ē e fun ds e1 => notOwn vs e1 = true ∧ lcGo g dt de vs (fun acc e2 => Q (.lst acc) (backE vs e1 e2)) ds [] (wipeE vs e1)
def dYes : DT := fun _ e Q => Q true e
theorem wipe_len (e : DEnv) : ∀ vs : List Nat, (wipeE vs e).length = e.length
  | [] => rfl
  | j :: vs => by show ((wipeE vs e).set j .no).length = _; rw [List.length_set, wipe_len e vs]
theorem wipe_get (e : DEnv) (i : Nat) : ∀ vs : List Nat, (wipeE vs e)[i]? = if i ∈ vs ∧ i < e.length then some .no else e[i]?
  | [] => by simp [wipeE]
  | j :: vs => by
    show ((wipeE vs e).set j .no)[i]? = _
    by_cases h : j = i
    · subst h
      by_cases hl : j < e.length
      · rw [List.getElem?_set_self (by rw [wipe_len]; exact hl)]
        simp [hl]
      · rw [List.getElem?_eq_none (by rw [List.length_set, wipe_len]; omega)]
        simp [hl, List.getElem?_eq_none (show e.length ≤ j by omega)]
    · rw [List.getElem?_set_ne h, wipe_get e i vs]
      simp [Ne.symm h]
theorem wipeV_get (σ : L2.St) (i : Nat) : ∀ vs : List Nat, (wipe σ vs)[i]? = if i ∈ vs ∧ i < σ.length then some none else σ[i]?
  | [] => by simp [wipe]
  | j :: vs => by
    show ((wipe σ vs).set j none)[i]? = _
    by_cases h : j = i
    · subst h
      by_cases hl : j < σ.length
      · rw [List.getElem?_set_self (by rw [wipe_length]; exact hl)]
        simp [hl]
      · rw [List.getElem?_eq_none (by rw [List.length_set, wipe_length]; omega)]
        simp [hl, List.getElem?_eq_none (show σ.length ≤ j by omega)]
    · rw [List.getElem?_set_ne h, wipeV_get σ i vs]
      simp [Ne.symm h]
theorem back_len (e0 e : DEnv) : ∀ vs : List Nat, (backE vs e0 e).length = e.length
  | [] => rfl
  | j :: vs => by
    show (match e0[j]? with | some s => (backE vs e0 e).set j s | none => backE vs e0 e).length = _
    split
    · rw [List.length_set, back_len e0 e vs]
    · exact back_len e0 e vs
theorem back_get (e0 e : DEnv) (hl : e0.length = e.length) (i : Nat) : ∀ vs : List Nat, (backE vs e0 e)[i]? = if i ∈ vs then e0[i]? else e[i]?
  | [] => by simp [backE]
  | j :: vs => by
    show (match e0[j]? with | some s => (backE vs e0 e).set j s | none => backE vs e0 e)[i]? = _
    cases q : e0[j]? with
    | some s =>
      have hj : j < e.length := by rw [← hl]; exact (List.getElem?_eq_some_iff.mp q).1
      by_cases h : j = i
      · subst h
        rw [List.getElem?_set_self (by rw [back_len]; exact hj)]
        simp [q]
      · show ((backE vs e0 e).set j s)[i]? = _
        rw [List.getElem?_set_ne h, back_get e0 e hl i vs]
        simp [Ne.symm h]
    | none =>
      show (backE vs e0 e)[i]? = _
      rw [back_get e0 e hl i vs]
      by_cases h : i = j
      · subst h
        have : e.length ≤ i := by rw [← hl]; exact List.getElem?_eq_none_iff.mp q
        simp [q, List.getElem?_eq_none this]
      · simp [h]
section
variable {K : PySem.W.Frag} {mg : Str → Option Value} {B : Nat → Option Addr} {G F H : Hp} {e : DEnv} {σ : L2.St}
theorem Ok.wiped (k : Ok K mg B G F H e σ) (vs : List Nat) : Ok K mg B G F H (wipeE vs e) (wipe σ vs) := by
  have key : ∀ {i : Nat} {s : Sl}, (wipeE vs e)[i]? = some s → s ≠ .no → e[i]? = some s ∧ (wipe σ vs)[i]? = σ[i]? := fun {i s} h hn => by
    rw [wipe_get] at h
    split at h
    · cases h; exact (hn rfl).elim
    · rename_i q
      exact ⟨h, by rw [wipeV_get, if_neg (by rw [← k.len]; exact q)]⟩
  refine ⟨k.fh, k.gh, by rw [wipe_len, wipe_length]; exact k.len, fun i d h => ?_, fun i b o h => ?_, fun i j b c o o' x hi hj s1 s2 => ?_⟩
  · obtain ⟨h1, h2⟩ := key h (by intro z; cases z)
    rw [h2]
    exact k.fr i d h1
  · obtain ⟨h1, h2⟩ := key h (by intro z; cases z)
    rw [h2]
    exact k.ow i b o h1
  · obtain ⟨h1, h2⟩ := key hi (by intro z; cases z)
    obtain ⟨h3, h4⟩ := key hj (by intro z; cases z)
    rw [h2] at s1
    rw [h4] at s2
    exact k.ap _ _ _ _ _ _ _ h1 h3 s1 s2
/-- behind the comprehension: the block's names as they were -/
theorem Ok.back {F0 H0 : Hp} {e0 e1 : DEnv} {vs : List Nat} (k0 : Ok K mg B G F0 H0 e0 σ) (hn : notOwn vs e0 = true) (m : Same F0 F) (k : Ok K mg B G F H e1 (wipe σ vs)) : Ok K mg B G F H (backE vs e0 e1) σ := by
  have hl : e0.length = e1.length := by rw [k0.len, k.len, wipe_length]
  have nown : ∀ i b o, i ∈ vs → e0[i]? ≠ some (.ow b o) := fun i b o hi z => by
    have := List.all_eq_true.mp hn i hi
    rw [z] at this
    cases this
  have sl : ∀ i, i ∉ vs → (wipe σ vs)[i]? = σ[i]? := fun i hi => by rw [wipeV_get, if_neg (fun z => hi z.1)]
  refine ⟨k.fh, k.gh, by rw [back_len, ← hl]; exact k0.len, fun i d h => ?_, fun i b o h => ?_, fun i j b c o o' x hi hj s1 s2 => ?_⟩
  · rw [back_get _ _ hl] at h
    split at h
    · obtain ⟨v, h1, h2⟩ := k0.fr i d h
      exact ⟨v, h1, h2.mono m⟩
    · rename_i q
      rw [← sl i q]
      exact k.fr i d h
  · rw [back_get _ _ hl] at h
    split at h
    · rename_i q
      exact (nown i b o q h).elim
    · rename_i q
      rw [← sl i q]
      exact k.ow i b o h
  · rw [back_get _ _ hl] at hi hj
    split at hi
    · rename_i q
      exact (nown _ _ _ q hi).elim
    · rename_i q
      split at hj
      · rename_i q'
        exact (nown _ _ _ q' hj).elim
      · rename_i q'
        rw [← sl i q] at s1
        rw [← sl j q'] at s2
        exact k.ap _ _ _ _ _ _ _ hi hj s1 s2
/-- the list under way, held apart -/
theorem Ok.hold {p : Addr} {u : HO} (k : Ok K mg B G F H e σ) (hG : G p = none) (hF : F p = none) (hH : H p = some u) (hn : ∀ (j : Nat) (b : Bool) (q : O), e[j]? = some (Sl.ow b q) → σ[j]? ≠ some (some (V.ref p))) : Ok K mg B (upd G p u) F H e σ := by
  refine ⟨k.fh, fun b o h => ?_, k.len, k.fr, fun i b o h => ?_, k.ap⟩
  · by_cases z : b = p
    · subst z; rw [upd_same] at h; rw [← h]; exact hH
    · rw [upd_ne z] at h; exact k.gh b o h
  · obtain ⟨a, w, h1, h2, h3, h4, h5, h6⟩ := k.ow i b o h
    exact ⟨a, w, h1, h2, by rw [upd_ne (fun z => hn i b o h (by rw [h1, z]))]; exact h3, h4, h5, h6⟩
theorem Ok.turn {p : Addr} {u w : HO} (k : Ok K mg B (upd G p u) F H e σ) (hF : F p = none) : Ok K mg B (upd G p w) F (upd H p w) e σ := by
  refine ⟨same_upd k.fh hF, fun b o h => ?_, k.len, k.fr, fun i b o h => ?_, k.ap⟩
  · by_cases z : b = p
    · subst z; rw [upd_same] at h ⊢; exact h
    · rw [upd_ne z] at h ⊢; exact k.gh b o (by rw [upd_ne z]; exact h)
  · obtain ⟨a, x, h1, h2, h3, h4, h5, h6⟩ := k.ow i b o h
    have ne : a ≠ p := fun z => by rw [z, upd_same] at h3; cases h3
    rw [upd_ne ne] at h3
    exact ⟨a, x, h1, h2, by rw [upd_ne ne]; exact h3, by rw [upd_ne ne]; exact h4, h5, h6⟩
theorem Ok.let {p : Addr} {u : HO} (k : Ok K mg B (upd G p u) F H e σ) (hG : G p = none) : Ok K mg B G F H e σ := by
  refine ⟨k.fh, fun b o h => ?_, k.len, k.fr, fun i b o h => ?_, k.ap⟩
  · have ne : b ≠ p := fun z => by rw [z, hG] at h; cases h
    exact k.gh b o (by rw [upd_ne ne]; exact h)
  · obtain ⟨a, x, h1, h2, h3, h4, h5, h6⟩ := k.ow i b o h
    have ne : a ≠ p := fun z => by rw [z, upd_same] at h3; cases h3
    rw [upd_ne ne] at h3
    exact ⟨a, x, h1, h2, h3, h4, h5, h6⟩
end
theorem x0 {K : PySem.W.Frag} {mg : Str → Option Value} {E : L2.St → XK} {B : Nat → Option Addr} {G F : Hp} {σ : L2.St} : XR K mg E X0 B G F σ := fun _ _ _ _ _ _ _ h => h.elim
theorem sn_lc {K : PySem.W.Frag} {mg : Str → Option Value} {E E2 : L2.St → XK} {wi : TI} {di : DI} {g : TG} {dg : DG} {js : List Nat} {tt : TT} {dt : DT} {te : TE} {de : DE} {vs : List Nat} (hi : SI K mg E wi di) (hg : SG (K := K) (mg := mg) js g dg) (hj : ∀ j ∈ js, j ∈ vs) (ht : ST K mg E2 tt dt) (he : SE K mg E2 te de) :
    SN K mg E (tLc wi g tt te vs) (dLc di dg dt de vs) := fun B G F H e σ Ē Q' Q k x h q =>
  hi B G F H e σ Ē _ _ k x h fun ds e1 J F1 H1 ⟨hno, h1⟩ m1 k1 w1 p hp => by
    have hGp : G p = none := k1.gh.free hp
    have hFp : F1 p = none := k1.fh.free hp
    have f1 := fresh_new (u := .lst []) k1 hp
    refine ⟨fun i m H' => m = ds.length - i ∧ i ≤ ds.length ∧ ∃ acc av e' F', H' p = some (.lst av) ∧ RepL K mg F' acc av ∧ Mv (upd G p (.lst av)) F1 F' ∧ F' p = none ∧ Ok K mg B (upd G p (.lst av)) F' H' e' (wipe σ vs) ∧ lcGo dg dt de vs (fun acc e2 => Q' (.lst acc) (backE vs e1 e2)) (ds.drop i) acc e',
      ⟨ds.length, by simp, Nat.zero_le _, [], [], wipeE vs e1, F1, upd_same, .nil, Mv.refl, hFp, ?_, h1⟩, ?_⟩
    · have k2 : Ok K mg B G F1 (upd H1 p (.lst [])) e1 σ := k1.grow (Gr.loose k1.fh hp)
      have k3 : Ok K mg B (upd G p (.lst [])) F1 (upd H1 p (.lst [])) e1 σ := k2.hold hGp hFp upd_same f1.2.2.2
      exact k3.wiped vs
    rintro i m H' ⟨rfl, hil, acc, av, e', F', hH', la, m2, hF', k2, h2⟩
    by_cases hlt : i < ds.length
    · obtain ⟨d, hd⟩ : ∃ d, ds[i]? = some d := ⟨ds[i], by simp [hlt]⟩
      refine .inr ⟨w1.goes i H' hlt (m2.ff.trans k2.fh), fun H3 => ∃ acc av e3 F3, H3 p = some (.lst av) ∧ RepL K mg F3 acc av ∧ Mv (upd G p (.lst av)) F1 F3 ∧ F3 p = none ∧ Ok K mg B (upd G p (.lst av)) F3 H3 e3 (wipe σ vs) ∧ lcGo dg dt de vs (fun acc e2 => Q' (.lst acc) (backE vs e1 e2)) (ds.drop (i + 1)) acc e3,
        fun H3 hh => ⟨ds.length - (i + 1), by omega, rfl, by omega, hh⟩, fun w H3 y => ?_⟩
      obtain ⟨d', F3, hd', g3, r3⟩ := w1.yields i H' w H3 F' hlt m2.ff k2.fh y
      rw [hd] at hd'
      cases hd'
      rw [drop_get hd] at h2
      have k3 := k2.grow g3
      have m3 : Mv (upd G p (.lst av)) F1 F3 := m2.trans (k2.mv g3)
      have hF3 : F3 p = none := by rw [g3.nw p _ hH']; exact hF'
      have mvG : ∀ {F F' : Hp} {u w : HO}, Mv (upd G p u) F F' → F' p = F p → Mv (upd G p w) F F' := fun {F F' u w} m z => ⟨m.ff, fun b o hb => by
        by_cases q : b = p
        · rw [q]; exact z
        · exact m.out b o (by rw [upd_ne q] at hb ⊢; exact hb)⟩
      refine hg B (upd G p (.lst av)) F3 H3 e' (wipe σ vs) d w _ _ k3 r3 h2 fun e4 σ4 h4 k4 p4 => ?_
      have hw4 : wipe σ4 vs = wipe σ vs := by
        have l4 : σ4.length = σ.length := p4.1.trans (wipe_length ..)
        apply List.ext_getElem?
        intro j
        rw [wipeV_get, wipeV_get, l4]
        by_cases hjv : j ∈ vs
        · by_cases hjl : j < σ.length
          · rw [if_pos ⟨hjv, hjl⟩, if_pos ⟨hjv, hjl⟩]
          · rw [if_neg (fun z => hjl z.2), if_neg (fun z => hjl z.2), List.getElem?_eq_none (by omega), List.getElem?_eq_none (by omega)]
        · rw [if_neg (fun z => hjv z.1), if_neg (fun z => hjv z.1), p4.2 j (fun z => hjv (hj j z)), wipeV_get, if_neg (fun z => hjv z.1)]
      refine ⟨hw4, ht B _ F3 H3 e4 σ4 X0 _ _ k4 x0 h4 fun b e5 F5 H5 h5 m5 k5 => ?_⟩
      have hF5 : F5 p = none := by rw [m5.out p (.lst av) upd_same]; exact hF3
      cases b with
      | false =>
        have k6 := k5.wiped vs
        rw [hw4] at k6
        exact ⟨acc, av, _, F5, k5.gh _ _ upd_same, la.mono ((k2.mv g3).ff.trans m5.ff), m3.trans m5, hF5, k6, h5⟩
      | true =>
        refine he B _ F5 H5 e5 σ4 X0 _ _ k5 x0 h5 fun yd e6 yv F6 H6 ⟨hz, h6⟩ m6 k6 r6 => ?_
        have hF6 : F6 p = none := by rw [m6.out p (.lst av) upd_same]; exact hF5
        have m7 : Mv (upd G p (.lst av)) F1 F6 := (m3.trans m5).trans m6
        have la6 := la.mono (((k2.mv g3).ff.trans m5.ff).trans m6.ff)
        refine ⟨av, k6.gh _ _ upd_same, by rw [← la6.length]; exact hz, acc ++ [yd], av ++ [yv], _, F6, upd_same, la6.append (.cons r6 .nil), mvG m7 (by rw [hF6, hFp]), hF6, ?_, h6⟩
        have k7 := (k6.turn (w := .lst (av ++ [yv])) hF6).wiped vs
        rw [hw4] at k7
        exact k7
    · have e : i = ds.length := by omega
      subst e
      rw [List.drop_length] at h2
      refine .inl ⟨w1.stops H' (m2.ff.trans k2.fh), ?_⟩
      have k3 := k2.let hGp
      have m3 : Mv G F1 F' := ⟨m2.ff, fun b o hb => m2.out b o (by rw [upd_ne (fun z => by rw [z, hGp] at hb; cases hb)]; exact hb)⟩
      have k4 := Ok.back k1 hno m2.ff k3
      refine q _ _ p (.lst av) F' H' h2 (m1.trans m3) k4 ⟨hF', hGp, hH', fun j b o hj hs => ?_⟩ (.lst la)
      have hl : e1.length = e'.length := by rw [k1.len, k3.len, wipe_length]
      rw [back_get _ _ hl] at hj
      split at hj
      · rename_i z
        have := List.all_eq_true.mp hno j z
        rw [hj] at this
        cases this
      · rename_i z
        obtain ⟨a, u, q1, q2, q3, q4, _⟩ := k2.ow j b o hj
        rw [wipeV_get, if_neg (fun y => z y.1), hs] at q1
        cases q1
        rw [upd_same] at q3
        cases q3
end DL

set_option Elab.async false
set_option linter.all false
set_option maxRecDepth 100000
set_option maxHeartbeats 8000000
namespace DL
open PySem PySem.Spec PyProof.Rows L2
abbrev Bi (ι : Type) : Type := ι × Shared × Hp × Addr × List (Str × Addr) × List Addr
abbrev blkF (X : Cx) {ι : Type} (v : ι → Vy) (scope : Scope) : Bi ι → Vy := fun q =>
  ⟨q.2.1, q.2.2.1, PySem.compEnvC scope q.2.2.2.2.1 q.2.2.2.1 (v q.1).env, X.stack, q.2.2.2.2.2, fun x => scope.names.lookup x == some .cell, [], fun _ _ => False⟩
structure PDTs (X : Cx) {ι : Type} (v : ι → Vy) (E : L2.St → XK) (es : List Expr) (dt : DT) : Prop where
  ex : ∃ tt, (∀ ii, PTs (X.atV (v ii)) es tt) ∧ ST X.K X.mg E tt dt
section
variable {X : Cx} {ι : Type} {v : ι → Vy} {E E2 : L2.St → XK} {k : Nat} {a b c tg iter elt : Expr} {da db de : DE} {dn : DN} {dt : DT} {pos p pp : Pos} {di : DI} {dg : DG} {js : List Nat} {ifs : List Expr} {scope : Scope}
theorem tts_nil : PDTs X v E [] dYes := ⟨_, fun _ => pts_nil, fun B G F H e σ Ē Q' Q k x h q => q true e F H h Mv.refl k⟩
theorem tts_one (h : PDT X v E c dt) : PDTs X v E [c] dt := by
  obtain ⟨t, h, s⟩ := h.ex
  exact ⟨_, fun ii => pts_one (h ii), s⟩
theorem pn_lc (own : List (Str × Nat)) (g : Good X k) (hi : PDI X v E tg iter di) (hg : PDG X (blkF X v scope) js tg dg) (ht : PDTs X (blkF X v scope) E2 ifs dt) (he : PD X (blkF X v scope) E2 elt de)
    (ok : ∀ ii, blkC X.N (v ii).env.scope scope own = true := by intro _; kernel_rfl) (hj : ∀ j ∈ js, j ∈ own.map (·.2) := by decide) (hs : ∀ ii x, foldedSetIterable iter (v ii).env x = pure x := by intro _ _; rfl) :
    PN X v E (.ListComp elt [⟨tg, iter, ifs, 0⟩] scope pos) (dLc di dg dt de (own.map (·.2))) := by
  obtain ⟨wi, hi, si⟩ := hi.ex
  obtain ⟨gg, hg, sg⟩ := hg.ex
  obtain ⟨tt, ht, st⟩ := ht.ex
  obtain ⟨te, he, se⟩ := he.ex
  exact ⟨tLc wi gg tt te (own.map (·.2)), fun ii => pe_lc (X := X.atV (v ii)) g.calm g.nd (hi ii) (blkOk_by (ok ii)) (fun s H C cl fp => hg (ii, s, H, C, cl, fp)) (fun s H C cl fp => ht (ii, s, H, C, cl, fp)) (fun s H C cl fp => he (ii, s, H, C, cl, fp)) (hs ii), sn_lc si sg hj st se⟩
/-- name = [..] on one line: the comprehension's own store -/
theorem ds_setLc (i : Nat) {y : Str} (own : List (Str × Nat)) (g : Good X k) (hi : PDI X v E tg iter di) (hg : PDG X (blkF X v scope) js tg dg) (ht : PDTs X (blkF X v scope) E2 ifs dt) (he : PD X (blkF X v scope) E2 elt de)
    (hy : X.N[i]? = some y := by rfl) (hyl : ∀ ii, (v ii).env.scope.names.lookup y = some .local := by intro _; rfl) (hsw : ∀ ii, swapsWith (.ListComp elt [⟨tg, iter, ifs, 0⟩] scope pos) (some (.Name y p)) pp.line (v ii).env = pure true := by exact fun _ => sw_true rfl rfl rfl (by decide +kernel))
    (ok : ∀ ii, blkC X.N (v ii).env.scope scope own = true := by intro _; kernel_rfl) (hj : ∀ j ∈ js, j ∈ own.map (·.2) := by decide) (hs : ∀ ii x, foldedSetIterable iter (v ii).env x = pure x := by intro _ _; rfl) :
    PDS X v E (.Assign [.Name y p] (.ListComp elt [⟨tg, iter, ifs, 0⟩] scope pos) pp) (dAsgN i (dLc di dg dt de (own.map (·.2)))) := by
  obtain ⟨wi, hi, si⟩ := hi.ex
  obtain ⟨gg, hg, sg⟩ := hg.ex
  obtain ⟨tt, ht, st⟩ := ht.ex
  obtain ⟨te, he, se⟩ := he.ex
  exact ⟨_, fun ii => ps_setLc (X := X.atV (v ii)) g.calm g.nd hy (hyl ii) (hsw ii) (hi ii) (blkOk_by (ok ii)) (fun s H C cl fp => hg (ii, s, H, C, cl, fp)) (fun s H C cl fp => ht (ii, s, H, C, cl, fp)) (fun s H C cl fp => he (ii, s, H, C, cl, fp)) (hs ii), ss_asgN (sn_lc si sg hj st se)⟩
end
/-! ### slices -/
def cutD (xs : List D) (lo hi : Option Int) : List D := (xs.drop (HT.sIx xs.length 0 lo)).take (HT.sIx xs.length xs.length hi - HT.sIx xs.length 0 lo)
abbrev DO := XD → DEnv → (Option Int → DEnv → Prop) → Prop
def dNoP : DO := fun _ e Q => Q none e
def dPt (a : DE) : DO := fun Ē e Q => a Ē e fun x e1 => match x with
  | .int i => Q (some i) e1
  | _ => False
/-- a slice of a tuple -/
def dSl (a : DE) (l h : DO) : DE := fun Ē e Q => a Ē e fun x e1 => l Ē e1 fun i e2 => h Ē e2 fun j e3 => match x with
  | .tup xs => Q (.tup (cutD xs i j)) e3
  | .lst xs => Q (.lst (cutD xs i j)) e3
  | .scr xs => Q (.lst (cutD xs i j)) e3
  | _ => False
def SO (K : PySem.W.Frag) (mg : Str → Option Value) (E : L2.St → XK) (to : TO) (d : DO) : Prop := ∀ B G F H e σ Ē (Q' : Option Int → DEnv → Prop) (Q : Option Int → Hp → Prop), Ok K mg B G F H e σ → XR K mg E Ē B G F σ → d Ē e Q' →
  (∀ o e' F' H', Q' o e' → Mv G F F' → Ok K mg B G F' H' e' σ → Q o H') → to σ H Q
structure PDO (X : Cx) {ι : Type} (v : ι → Vy) (E : L2.St → XK) (e : Option Expr) (d : DO) : Prop where
  ex : ∃ t, (∀ ii, PO (X.atV (v ii)) e t) ∧ SO X.K X.mg E t d
theorem cut_whole {xs : List D} {lo hi : Option Int} (h : HT.sIx xs.length 0 lo = 0 ∧ HT.sIx xs.length xs.length hi = xs.length) : cutD xs lo hi = xs := by
  unfold cutD
  rw [h.1, h.2, List.drop_zero, Nat.sub_zero, List.take_length]
theorem RepL.cut {K : PySem.W.Frag} {mg : Str → Option Value} {F : Hp} {xs : List D} {vs : List V} (l : RepL K mg F xs vs) (i j : Option Int) : RepL K mg F (cutD xs i j) (cutV vs i j) := by
  unfold cutD cutV
  rw [← l.length]
  exact (l.drop _).take _
section
variable {X : Cx} {ι : Type} {v : ι → Vy} {E : L2.St → XK} {a b : Expr} {da : DE} {pos p p2 : Pos} {lo hi : Option Expr} {dl dh : DO}
theorem po_no : PDO X v E none dNoP := ⟨_, fun _ => po_none, fun B G F H e σ Ē Q' Q k x h q => q none e F H h Mv.refl k⟩
theorem po_pt (ha : PD X v E a da) : PDO X v E (some a) (dPt da) := by
  obtain ⟨t, ha, sa⟩ := ha.ex
  refine ⟨_, fun ii => po_some (ha ii), fun B G F H e σ Ē Q' Q k x h q => sa B G F H e σ Ē _ _ k x h fun d e1 w F1 H1 h1 m1 k1 r1 => ?_⟩
  cases d with
  | int i =>
    cases r1
    exact ⟨i, rfl, q (some i) e1 F1 H1 h1 m1 k1⟩
  | _ => exact h1.elim
theorem pd_sl (ha : PD X v E a da) (hl : PDO X v E lo dl) (hh : PDO X v E hi dh) : PD X v E (.Subscript a (.Slice lo hi none p2) pos) (dSl da dl dh) := by
  obtain ⟨t, ha, sa⟩ := ha.ex
  obtain ⟨tl, hl, sl⟩ := hl.ex
  obtain ⟨th, hh, sh⟩ := hh.ex
  refine ⟨tSl (fun x i j H Q => rSlA X.K x i j H Q ∨ rSlL X.K x i j H Q) t tl th, fun ii => pe_slice (X := X.atV (v ii)) (sl_tupA.or sl_list) (ha ii) (hl ii) (hh ii), ?_⟩
  intro B G F H e σ Ē Q' Q k x h q
  refine sa B G F H e σ Ē _ _ k x h fun d e1 w F1 H1 h1 m1 k1 r1 => sl B G F1 H1 e1 σ Ē _ _ k1 (x.mv m1) h1 fun i e2 F2 H2 h2 m2 k2 => sh B G F2 H2 e2 σ Ē _ _ k2 (x.mv (m1.trans m2)) h2 fun j e3 F3 H3 h3 m3 k3 => ?_
  have r3 := (r1.mono m2.ff).mono m3.ff
  have mm := (m1.trans m2).trans m3
  cases d with
  | tup xs => cases r3 with
    | @tup a _ vs ha la =>
      refine .inl ⟨a, vs, rfl, SqT.of (k3.fh _ _ ha), fun hw => ?_, fun hw z hz => ?_⟩
      · rw [← la.length] at hw
        have h3 : Q' (.tup (cutD xs i j)) e3 := h3
        rw [cut_whole hw] at h3
        exact q _ e3 _ F3 H3 h3 mm k3 (.tup ha la)
      · have g : Gr F3 H3 (upd F3 z (.tup (cutV vs i j))) (upd H3 z (.tup (cutV vs i j))) := Gr.new k3.fh hz
        exact q _ e3 _ _ _ h3 (mm.trans (k3.mv g)) (k3.grow g) (.tup upd_same ((la.mono g.ff).cut i j))
  | lst xs => cases r3 with
    | @lst a _ vs ha la =>
      refine .inr ⟨a, vs, rfl, SqL.of (k3.fh _ _ ha), fun z hz => ?_⟩
      have g : Gr F3 H3 (upd F3 z (.lst (cutV vs i j))) (upd H3 z (.lst (cutV vs i j))) := Gr.new k3.fh hz
      exact q _ e3 _ _ _ h3 (mm.trans (k3.mv g)) (k3.grow g) (.lst upd_same ((la.mono g.ff).cut i j))
  | scr xs => cases r3 with
    | @scr a _ vs ha la =>
      refine .inr ⟨a, vs, rfl, same_l k3.fh ha, fun z hz => ?_⟩
      have g : Gr F3 H3 (upd F3 z (.lst (cutV vs i j))) (upd H3 z (.lst (cutV vs i j))) := Gr.new k3.fh hz
      exact q _ e3 _ _ _ h3 (mm.trans (k3.mv g)) (k3.grow g) (.lst upd_same ((la.mono g.ff).cut i j))
  | _ => exact h3.elim
/-- x[::-1] of a list -/
def dRevL (a : DE) : DE := fun Ē e Q => a Ē e fun x e1 => match x with
  | .lst xs => Q (.lst xs.reverse) e1
  | _ => False
theorem pd_revL {kk : Nat} {q1 q2 q3 : Pos} (ha : PD X v E a da) : PD X v E (.Subscript a (.Slice none none (some (.UnaryOp .USub (.Constant (.int 1) kk q1) q2)) q3) pos) (dRevL da) := by
  obtain ⟨t, ha, sa⟩ := ha.ex
  refine ⟨tRevL X.K t, fun ii => pe_revL (X := X.atV (v ii)) (ha ii), ?_⟩
  intro B G F H e σ Ē Q' Q k x h q
  refine sa B G F H e σ Ē _ _ k x h fun d e1 w F1 H1 h1 m1 k1 r1 => ?_
  cases d with
  | lst xs => cases r1 with
    | @lst a _ vs ha la =>
      refine ⟨a, vs, rfl, SqL.of (k1.fh _ _ ha), fun z hz => ?_⟩
      have g : Gr F1 H1 (upd F1 z (.lst vs.reverse)) (upd H1 z (.lst vs.reverse)) := Gr.new k1.fh hz
      exact q _ e1 _ _ _ h1 (m1.trans (k1.mv g)) (k1.grow g) (.lst upd_same (la.mono g.ff).reverse)
  | _ => exact h1.elim
end
/-! ### fields of a frozen instance -/
def dFld (cs : List Str) (f : Str) (a : DE) : DE := fun Ē e Q => a Ē e fun x e1 => match x with
  | .ins c fs => cs.contains c = true ∧ (match fs.lookup f with
    | some d => Q d e1
    | none => False)
  | _ => False
/-- what of the text the classes must have -/
def FldOk (K : PySem.W.Frag) (mg : Str → Option Value) (cs : List Str) (f : Str) : Prop := ∀ c ∈ cs, ∀ C : Addr, mg c = some (.ref C) → Cls K C ∧ NoAttr K C f
section
variable {X : Cx} {ι : Type} {v : ι → Vy} {E : L2.St → XK} {a : Expr} {da : DE} {pos : Pos}
theorem pd_fld {f : Str} (cs : List Str) (hc : FldOk X.K X.mg cs f) (ha : PD X v E a da) (hb : ∀ ii, attributeBase a f (v ii).env (eval a (v ii).env) = eval a (v ii).env := by intro _; rfl) : PD X v E (.Attribute a f pos) (dFld cs f da) := by
  obtain ⟨t, ha, sa⟩ := ha.ex
  refine ⟨tFld X.K t f, fun ii => pe_fld (X := X.atV (v ii)) (ha ii) (hb ii), ?_⟩
  intro B G F H e σ Ē Q' Q k x h q
  refine sa B G F H e σ Ē _ _ k x h fun d e1 w F1 H1 h1 m1 k1 r1 => ?_
  cases d with
  | ins c fs => cases r1 with
    | @ins a C dx _ _ gs hm hF lf =>
      obtain ⟨hcs, h1⟩ := h1
      split at h1
      · rename_i d hd
        obtain ⟨u, q1, q2⟩ := lf.look hd
        obtain ⟨c1, c2⟩ := hc c (by simpa using hcs) C hm
        exact ⟨a, C, dx, gs, u, rfl, k1.fh _ _ hF, c1, c2, q1, q d e1 u F1 H1 h1 m1 k1 q2⟩
      · exact h1.elim
  | _ => exact h1.elim
/-! ### fields of an owned instance (in its __init__, in a method that changes it) -/
def dFldO (j : Nat) (cs : List Str) (f : Str) : DE := fun Ē e Q => match e[j]? with
  | some (.ow _ (.ins c fs)) => cs.contains c = true ∧ (match fs.lookup f with
    | some d => Q d e
    | none => False)
  | some (.fr (.ins c fs)) => cs.contains c = true ∧ (match fs.lookup f with
    | some d => Q d e
    | none => False)
  | _ => False
theorem pd_fldO (j : Nat) {x f : Str} {p : Pos} (cs : List Str) (hc : FldOk X.K X.mg cs f) (hN : X.N[j]? = some x := by rfl) (hv : ∀ ii, Vis (v ii).env.scope x := by first | exact fun _ => Or.inl rfl | exact fun _ => Or.inr (Or.inl rfl) | exact fun _ => Or.inr (Or.inr rfl)) (hd : (x == ("__debug__" : Str)) = false := by decide) (hcd : (x == ("__classdict__" : Str)) = false := by decide)
    (hb : ∀ ii, attributeBase (.Name x p) f (v ii).env (eval (.Name x p) (v ii).env) = eval (.Name x p) (v ii).env := by intro _; rfl) : PD X v E (.Attribute (.Name x p) f pos) (dFldO j cs f) := by
  refine ⟨tFld X.K (tVar j) f, fun ii => pe_fld (X := X.atV (v ii)) (pe_var hN (hv ii) hd hcd) (hb ii), ?_⟩
  intro B G F H e σ Ē Q' Q k x h q
  unfold dFldO at h
  split at h
  · rename_i fx c fs he
    obtain ⟨a, u, g1, g2, g3, g4, g5, _⟩ := k.ow j fx _ he
    cases g5 with
    | @ins C dx _ _ gs hm lf =>
      obtain ⟨hcs, h⟩ := h
      split at h
      · rename_i d hd
        obtain ⟨u, q1, q2⟩ := lf.look hd
        obtain ⟨c1, c2⟩ := hc c (by simpa using hcs) C hm
        exact ⟨_, g1, a, C, dx, gs, u, rfl, g4, c1, c2, q1, q d e u F H h Mv.refl k q2⟩
      · exact h.elim
  · rename_i c fs he
    obtain ⟨u0, g1, g2⟩ := k.fr j _ he
    cases g2 with
    | @ins a C dx _ _ gs hm hF lf =>
      obtain ⟨hcs, h⟩ := h
      split at h
      · rename_i d hd
        obtain ⟨u, q1, q2⟩ := lf.look hd
        obtain ⟨c1, c2⟩ := hc c (by simpa using hcs) C hm
        exact ⟨_, g1, a, C, dx, gs, u, rfl, k.fh _ _ hF, c1, c2, q1, q d e u F H h Mv.refl k q2⟩
      · exact h.elim
  · exact h.elim
theorem repF_put {K : PySem.W.Frag} {mg : Str → Option Value} {F : Hp} {f : Str} {d : D} {w : V} (r : Rep K mg F d w) : ∀ {fs : List (Str × D)} {gs : List (Str × V)}, RepF K mg F fs gs → RepF K mg F (putD f d fs) (putF f w gs)
  | _, _, .nil => .cons r .nil
  | _, _, .cons (f := g) h l => by
    unfold putD putF
    by_cases z : g = f
    · rw [if_pos z, if_pos z]
      exact .cons r l
    · rw [if_neg z, if_neg z]
      exact .cons h (repF_put r l)
/-- self.f = e -/
def dSetFld (j : Nat) (cs : List Str) (f : Str) (a : DE) : DS := fun Ē D e => a Ē e fun d e1 => match e1[j]? with
  | some (.ow b (.ins c fs)) => cs.contains c = true ∧ fs.length < 1000 ∧ D.nx (e1.set j (.ow b (.ins c (putD f d fs))))
  | _ => False
theorem ds_setFld (j : Nat) {x f : Str} {p pp : Pos} (cs : List Str) (hc : FldOk X.K X.mg cs f) (ha : PD X v E a da) (hN : X.N[j]? = some x := by rfl) (hv : ∀ ii, Vis (v ii).env.scope x := by first | exact fun _ => Or.inl rfl | exact fun _ => Or.inr (Or.inl rfl) | exact fun _ => Or.inr (Or.inr rfl)) (hd : (x == ("__debug__" : Str)) = false := by decide) (hcd : (x == ("__classdict__" : Str)) = false := by decide)
    (hs : ∀ ii, swapsWith a (some (.Attribute (.Name x p) f pp)) pos.line (v ii).env = pure false := by intro _; rfl) : PDS X v E (.Assign [.Attribute (.Name x p) f pp] a pos) (dSetFld j cs f da) := by
  obtain ⟨t, ha, sa⟩ := ha.ex
  refine ⟨sFld X.K (tVar j) t f, fun ii => ps_fld (X := X.atV (v ii)) (pe_var hN (hv ii) hd hcd) (ha ii) (hs ii), ?_⟩
  intro B G F H e σ Ē D' D k x h q
  refine sa B G F H e σ Ē _ _ k (x σ) h fun d e1 w F1 H1 h1 m1 k1 r1 => ?_
  split at h1
  · rename_i b c fs he
    obtain ⟨a, u, g1, g2, g3, g4, g5, _⟩ := k1.ow j b _ he
    cases g5 with
    | @ins C dx _ _ gs hm lf =>
      obtain ⟨hcs, hl, h1⟩ := h1
      obtain ⟨c1, c2⟩ := hc c (by simpa using hcs) C hm
      exact ⟨_, g1, a, C, dx, gs, rfl, g4, c1, c2, by rw [← lf.length]; exact hl, q.nx _ σ F1 _ h1 m1 (k1.write he g1 (.ins hm (repF_put r1 lf)))⟩
  · exact h1.elim
end
end DL

set_option Elab.async false
set_option linter.all false
set_option maxRecDepth 100000
set_option maxHeartbeats 8000000
namespace DL
open PySem PySem.Spec PyProof.Rows L2
/-! ### promises of defs over data -/
/-- arguments by slots (a lent one: ow true), what is wanted of the value and the arguments behind, of an exception -/
abbrev DSp := DEnv → (D → DEnv → Prop) → XD → Prop
abbrev EZ : L2.St → XK := fun _ => E0
/-- the arguments behind the call: lent ones as they stand, the others as they were -/
def ret1 : Sl → Option Sl → Sl
  | .fr d, _ => .fr d
  | .ow true _, some (.ow true o) => .ow true o
  | _, _ => .no
def retA : DEnv → DEnv → DEnv
  | [], _ => []
  | a :: as, e => ret1 a e.head? :: retA as e.tail
theorem retA_at : ∀ {as e : DEnv} {i : Nat}, (retA as e)[i]? = (as[i]?).map fun a => ret1 a e[i]?
  | [], e, i => by simp [retA]
  | a :: as, e, 0 => by
    cases e <;> simp [retA]
  | a :: as, e, i + 1 => by
    have := retA_at (as := as) (e := e.tail) (i := i)
    cases e with
    | nil => simpa [retA] using this
    | cons b e => simpa [retA] using this
theorem retA_get {as e : DEnv} {i : Nat} {s : Sl} (h : (retA as e)[i]? = some s) : s = .no ∨ (∃ d, s = .fr d ∧ as[i]? = some (.fr d)) ∨ ∃ o o', s = .ow true o' ∧ as[i]? = some (.ow true o) ∧ e[i]? = some (.ow true o') := by
  rw [retA_at] at h
  obtain ⟨a, h1, h2⟩ := Option.map_eq_some_iff.mp h
  subst h2
  cases a with
  | no => exact .inl rfl
  | fr d => exact .inr (.inl ⟨d, rfl, h1⟩)
  | ow fx o => cases fx with
    | false => exact .inl rfl
    | true =>
      cases q : e[i]? with
      | none => exact .inl rfl
      | some s => cases s with
        | no => exact .inl rfl
        | fr d => exact .inl rfl
        | ow fy o' => cases fy with
          | false => exact .inl rfl
          | true => exact .inr (.inr ⟨o, o', rfl, h1, rfl⟩)
theorem retA_len : ∀ {as e : DEnv}, (retA as e).length = as.length
  | [], _ => rfl
  | a :: as, e => by simp [retA, retA_len (as := as)]
def spOf (K : PySem.W.Frag) (mg : Str → Option Value) (dsp : DSp) : Sp := fun vs H Q _ => ∃ (B : Nat → Option Addr) (G F : Hp) (as : DEnv) (Q' : D → DEnv → Prop), Ok K mg B G F H as (vs.map some) ∧ dsp as Q' X0 ∧
  (∀ (i : Nat) (b : Bool) (o : O), as[i]? = some (Sl.ow b o) → b = true) ∧
  ∀ d as' v F' H', Q' d as' → Mv G F F' → Ok K mg B G F' H' as' (vs.map some) → Rep K mg F' d v → Q v H'
structure Fn (P : Program) (w : World) (K : PySem.W.Frag) (mg : Str → Option Value) (base : Heap) (lvl : Nat) (x : Str) (dsp : DSp) : Prop where
  ex : ∃ (f : Addr) (fd : FuncData) (ps : List Str), mg x = some (.ref f) ∧ PySem.W.keepIn K (.ref f) = true ∧ Binds K fd ps [] ∧ FnOk P w K mg base (L2N.CX P w) lvl f fd ps (spOf K mg dsp)
/-- a method m of the class c -/
structure FnM (P : Program) (w : World) (K : PySem.W.Frag) (mg : Str → Option Value) (base : Heap) (lvl : Nat) (c m : Str) (dsp : DSp) : Prop where
  ex : ∃ (C f : Addr) (fd : FuncData) (ps : List Str), mg c = some (.ref C) ∧ Cls K C ∧ PySem.W.findIn K (.ref C) m = some (some (.ref f)) ∧ PySem.W.isFn K (.ref f) = true ∧ PySem.W.keepIn K (.ref f) = true ∧ PySem.W.keepIn K (.ref C) = true ∧ PySem.W.makesIn K C = true ∧ PySem.W.fnIn K f = true ∧ Binds K fd ps [] ∧ FnOk P w K mg base (L2N.CX P w) lvl f fd ps (spOf K mg dsp)
theorem ok_start {K : PySem.W.Frag} {mg : Str → Option Value} {B : Nat → Option Addr} {G F H : Hp} {as : DEnv} {vs : List V} {N : List Str} (k : Ok K mg B G F H as (vs.map some)) : Ok K mg B G F H (as ++ List.replicate (N.length - as.length) .no) (L2.start N vs) := by
  have hl : as.length = vs.length := by rw [k.len, List.length_map]
  have key : ∀ {i : Nat} {s : Sl}, (as ++ List.replicate (N.length - as.length) Sl.no)[i]? = some s → s ≠ .no → as[i]? = some s ∧ (L2.start N vs)[i]? = (vs.map some)[i]? := fun {i s} h hn => by
    by_cases hi : i < as.length
    · rw [List.getElem?_append_left hi] at h
      exact ⟨h, by unfold L2.start; rw [List.getElem?_append_left (by rw [List.length_map, ← hl]; exact hi)]⟩
    · rw [List.getElem?_append_right (by omega), List.getElem?_replicate] at h
      split at h
      · cases h; exact (hn rfl).elim
      · cases h
  refine ⟨k.fh, k.gh, by unfold L2.start; simp [hl], fun i d h => ?_, fun i b o h => ?_, fun i j b c o o' x hi hj s1 s2 => ?_⟩
  · obtain ⟨h1, h2⟩ := key h (by intro z; cases z)
    rw [h2]
    exact k.fr i d h1
  · obtain ⟨h1, h2⟩ := key h (by intro z; cases z)
    rw [h2]
    exact k.ow i b o h1
  · obtain ⟨h1, h2⟩ := key hi (by intro z; cases z)
    obtain ⟨h3, h4⟩ := key hj (by intro z; cases z)
    rw [h2] at s1
    rw [h4] at s2
    exact k.ap _ _ _ _ _ _ _ h1 h3 s1 s2
theorem ok_ret {K : PySem.W.Frag} {mg : Str → Option Value} {B : Nat → Option Addr} {G F F' H H' : Hp} {as e' : DEnv} {vs : List V} {σ' : L2.St} (k : Ok K mg B G F H as (vs.map some)) (ho : ∀ (i : Nat) (b : Bool) (o : O), as[i]? = some (Sl.ow b o) → b = true) (m : Mv G F F') (k' : Ok K mg B G F' H' e' σ') : Ok K mg B G F' H' (retA as e') (vs.map some) := by
  have own : ∀ {i : Nat} {b : Bool} {o : O}, (retA as e')[i]? = some (.ow b o) → b = true ∧ ∃ a h, (vs.map some)[i]? = some (some (.ref a)) ∧ σ'[i]? = some (some (.ref a)) ∧ F' a = none ∧ G a = none ∧ H' a = some h ∧ RepO K mg F' o h ∧ B i = some a ∧ e'[i]? = some (.ow true o) := fun {i b o} h => by
    rcases retA_get h with q | ⟨d, q, _⟩ | ⟨o1, o2, q, q2, q3⟩
    · cases q
    · cases q
    · cases q
      obtain ⟨a, u, g1, _, _, _, _, g6⟩ := k.ow i true o1 q2
      obtain ⟨a', u', p1, p2, p3, p4, p5, p6⟩ := k'.ow i true o q3
      have e1 := g6 rfl
      rw [p6 rfl] at e1
      cases e1
      exact ⟨rfl, _, u', g1, p1, p2, p3, p4, p5, p6 rfl, q3⟩
  refine ⟨k'.fh, k'.gh, by rw [retA_len, k.len], fun i d h => ?_, fun i b o h => ?_, fun i j b c o o' x hi hj s1 s2 => ?_⟩
  · rcases retA_get h with q | ⟨d', q, q2⟩ | ⟨o1, o2, q, _⟩
    · cases q
    · cases q
      obtain ⟨v, h1, h2⟩ := k.fr i d q2
      exact ⟨v, h1, h2.mono m.ff⟩
    · cases q
  · obtain ⟨_, a, u, h1, h2, h3, h4, h5, h6, h7, _⟩ := own h
    exact ⟨a, u, h1, h3, h4, h5, h6, fun _ => h7⟩
  · obtain ⟨_, a, u, h1, h2, _, _, _, _, _, h8⟩ := own hi
    obtain ⟨_, a', u', h1', h2', _, _, _, _, _, h8'⟩ := own hj
    rw [h1] at s1
    rw [h1'] at s2
    cases s1
    cases s2
    exact k'.ap _ _ _ _ _ _ _ h8 h8' h2 h2'
theorem passN {X : Cx} : Passes (L2N.CX X.prog X.w) X E0 := fun _ _ _ _ _ _ _ h => by
  obtain ⟨_, _, _, _, _, _, _, _, _, _, _, _, z⟩ := h
  cases z
end DL

set_option Elab.async false
set_option linter.all false
set_option maxRecDepth 100000
set_option maxHeartbeats 8000000
namespace DL
open PySem PySem.Spec PyProof.Rows L2
/-- all that is not frozen -/
noncomputable def loose (F H : Hp) : Hp := fun b => if F b = none then H b else none
theorem loose_at {F H : Hp} {b : Addr} {o : HO} (h1 : F b = none) (h2 : H b = some o) : loose F H b = some o := by unfold loose; rw [if_pos h1]; exact h2
theorem loose_of {F H : Hp} {b : Addr} {o : HO} (h : loose F H b = some o) : F b = none ∧ H b = some o := by
  unfold loose at h
  by_cases q : F b = none
  · rw [if_pos q] at h; exact ⟨q, h⟩
  · rw [if_neg q] at h; cases h
section
variable {K : PySem.W.Frag} {mg : Str → Option Value} {B : Nat → Option Addr} {G F F' H H' : Hp} {e : DEnv} {σ : L2.St} {ds : List D} {vs : List V}
theorem ok_frozen (hs : Same F H) (l : RepL K mg F ds vs) : Ok K mg B (loose F H) F H (ds.map .fr) (vs.map some) := by
  refine ⟨hs, fun b o h => (loose_of h).2, by simp [l.length], fun i d h => ?_, fun i b o h => ?_, fun i j b c o o' x hi => ?_⟩
  · rw [List.getElem?_map] at h
    obtain ⟨d', h1, h2⟩ := Option.map_eq_some_iff.mp h
    cases h2
    obtain ⟨v, h3, h4⟩ := l.get h1
    exact ⟨v, by rw [List.getElem?_map, h3]; rfl, h4⟩
  · rw [List.getElem?_map] at h
    obtain ⟨d', h1, h2⟩ := Option.map_eq_some_iff.mp h
    cases h2
  · rw [List.getElem?_map] at hi
    obtain ⟨d', h1, h2⟩ := Option.map_eq_some_iff.mp hi
    cases h2
theorem gr_call (m : Mv (loose F H) F F') (fh : Same F' H') (gh : Same (loose F H) H') (hs : Same F H) : Gr F H F' H' := by
  refine ⟨m.ff, fh, fun b o h => ?_, fun b o h => ?_⟩
  · cases q : F b with
    | none => exact gh b o (loose_at q h)
    | some u =>
      have := hs b u q
      rw [h] at this
      cases this
      exact fh b o (m.ff b o q)
  · cases q : F b with
    | none => rw [m.out b o (loose_at q h)]; exact q
    | some u => exact m.ff b u q
end
def dCall (dsp : DSp) (a : DA) : DE := fun Ē e Q => a Ē e fun ds e1 => dsp (ds.map .fr) (fun d _ => Q d e1) X0
theorem no_ow {ds : List D} (i : Nat) (b : Bool) (o : O) (h : (ds.map Sl.fr)[i]? = some (Sl.ow b o)) : b = true := by
  rw [List.getElem?_map] at h
  obtain ⟨d', h1, h2⟩ := Option.map_eq_some_iff.mp h
  cases h2
theorem lent_ow {o : O} {ds : List D} (i : Nat) (c : Bool) (w : O) (hi : (Sl.ow true o :: ds.map Sl.fr)[i]? = some (Sl.ow c w)) : c = true := by
  cases i with
  | zero =>
    simp at hi
    exact hi.1.symm ▸ rfl
  | succ i => exact no_ow (ds := ds) i c w (by rw [List.getElem?_cons_succ] at hi; exact hi)
theorem se_call {K : PySem.W.Frag} {mg : Str → Option Value} {E : L2.St → XK} {t : TA} {da : DA} {dsp : DSp} {Ex : XK} (ha : SA K mg E t da) : SE K mg E (tCall (spOf K mg dsp) [] Ex t) (dCall dsp da) := fun B G F H e σ Ē Q' Q k x h q =>
  ha B G F H e σ Ē _ _ k x h fun ds e1 vs F1 H1 h1 m1 k1 r1 => by
    rw [List.append_nil]
    refine ⟨fun _ => none, loose F1 H1, F1, ds.map .fr, _, ok_frozen k1.fh r1, h1, no_ow, fun d as' v F' H' h2 m2 k2 r2 => ?_⟩
    have g := gr_call m2 k2.fh k2.gh k1.fh
    exact q d e1 v F' H' h2 (m1.trans (k1.mv g)) (k1.grow g) r2
/-- the first argument is lent: the owned object of the slot j -/
def dCallS (j : Nat) (dsp : DSp) (a : DA) : DE := fun Ē e Q => match e[j]? with
  | some (.ow _ _) => a Ē e fun ds e1 => (match e1[j]? with
    | some (.ow b o) => dsp (.ow true o :: ds.map .fr) (fun d as' => match as' with
      | .ow true o' :: _ => Q d (e1.set j (.ow b o'))
      | _ => False) X0
    | _ => False)
  | _ => False
section
variable {K : PySem.W.Frag} {mg : Str → Option Value} {B : Nat → Option Addr} {G F F' H H' : Hp} {e : DEnv} {σ : L2.St} {ds : List D} {vs : List V}
def del (H : Hp) (a : Addr) : Hp := fun b => if b = a then none else H b
theorem del_same {H : Hp} {a : Addr} : del H a a = none := if_pos rfl
theorem del_ne {H : Hp} {a b : Addr} (h : b ≠ a) : del H a b = H b := if_neg h
theorem ok_lent {j : Nat} {b : Bool} {o : O} {a : Addr} (k : Ok K mg B G F H e σ) (hj : e[j]? = some (.ow b o)) (ha : σ[j]? = some (some (.ref a))) (l : RepL K mg F ds vs) :
    Ok K mg (fun i => if i = 0 then some a else none) (del (loose F H) a) F H (.ow true o :: ds.map .fr) ((V.ref a :: vs).map some) := by
  obtain ⟨a', u, h1, h2, h3, h4, h5, h6⟩ := k.ow j b o hj
  rw [ha] at h1
  cases h1
  have fr : ∀ {i : Nat} {s : Sl}, (ds.map Sl.fr)[i]? = some s → ∃ d, s = .fr d ∧ ds[i]? = some d := fun {i s} h => by
    rw [List.getElem?_map] at h
    obtain ⟨d', h1, h2⟩ := Option.map_eq_some_iff.mp h
    exact ⟨d', h2.symm, h1⟩
  refine ⟨k.fh, fun c w h => ?_, by simp [l.length], fun i d h => ?_, fun i c w h => ?_, fun i i' c c' w w' x hi hi' _ _ => ?_⟩
  · by_cases z : c = a
    · rw [z, del_same] at h; cases h
    · rw [del_ne z] at h; exact (loose_of h).2
  · cases i with
    | zero => simp at h
    | succ i =>
      rw [List.getElem?_cons_succ] at h
      obtain ⟨d', e1, e2⟩ := fr h
      cases e1
      obtain ⟨v, h3, h4⟩ := l.get e2
      exact ⟨v, by rw [List.map_cons, List.getElem?_cons_succ, List.getElem?_map, h3]; rfl, h4⟩
  · cases i with
    | zero =>
      simp at h
      obtain ⟨rfl, rfl⟩ := h
      exact ⟨a, u, rfl, h2, del_same, h4, h5, fun _ => rfl⟩
    | succ i =>
      rw [List.getElem?_cons_succ] at h
      obtain ⟨d', e1, e2⟩ := fr h
      cases e1
  · cases i with
    | zero => cases i' with
      | zero => rfl
      | succ i' =>
        rw [List.getElem?_cons_succ] at hi'
        obtain ⟨d', e1, e2⟩ := fr hi'
        cases e1
    | succ i =>
      rw [List.getElem?_cons_succ] at hi
      obtain ⟨d', e1, e2⟩ := fr hi
      cases e1
/-- behind the call -/
theorem ok_back {j : Nat} {b : Bool} {o o' : O} {a : Addr} {rest : DEnv} (k : Ok K mg B G F H e σ) (hj : e[j]? = some (.ow b o)) (ha : σ[j]? = some (some (.ref a))) (m : Mv (del (loose F H) a) F F')
    (k' : Ok K mg (fun i => if i = 0 then some a else none) (del (loose F H) a) F' H' (.ow true o' :: rest) ((V.ref a :: vs).map some)) : Mv G F F' ∧ Ok K mg B G F' H' (e.set j (.ow b o')) σ := by
  obtain ⟨a', u, h1, h2, h3, h4, h5, h6⟩ := k.ow j b o hj
  rw [ha] at h1
  cases h1
  obtain ⟨a2, u2, q1, q2, q3, q4, q5, _⟩ := k'.ow 0 true o' rfl
  cases q1
  have hjl : j < e.length := (List.getElem?_eq_some_iff.mp hj).1
  have gr : ∀ c w, c ≠ a → H c = some w → H' c = some w ∧ F' c = F c := fun c w z h => by
    cases q : F c with
    | none =>
      have hl : del (loose F H) a c = some w := by rw [del_ne z]; exact loose_at q h
      exact ⟨k'.gh c w hl, by rw [m.out c w hl]; exact q⟩
    | some u =>
      have := k.fh c u q
      rw [h] at this
      cases this
      have e2 := m.ff c w q
      exact ⟨k'.fh c w e2, e2⟩
  have neG : ∀ c w, G c = some w → c ≠ a := fun c w h z => by rw [z, h3] at h; cases h
  refine ⟨⟨m.ff, fun c w h => (gr c w (neG c w h) (k.gh c w h)).2⟩, ⟨k'.fh, fun c w h => (gr c w (neG c w h) (k.gh c w h)).1, by rw [List.length_set]; exact k.len, fun i d h => ?_, fun i c w h => ?_, fun i i' c c' w w' x hi hi' s1 s2 => ?_⟩⟩
  · by_cases z : j = i
    · subst z
      rw [List.getElem?_set_self hjl] at h
      cases h
    · rw [List.getElem?_set_ne z] at h
      obtain ⟨v, p1, p2⟩ := k.fr i d h
      exact ⟨v, p1, p2.mono m.ff⟩
  · by_cases z : j = i
    · subst z
      rw [List.getElem?_set_self hjl] at h
      cases h
      exact ⟨_, u2, ha, q2, h3, q4, q5, h6⟩
    · rw [List.getElem?_set_ne z] at h
      obtain ⟨y, uy, p1, p2, p3, p4, p5, p6⟩ := k.ow i c w h
      have ne : y ≠ a := fun zz => by
        rw [zz] at p1
        exact z (k.ap _ _ _ _ _ _ _ hj h ha p1)
      obtain ⟨g1, g2⟩ := gr y uy ne p4
      exact ⟨y, uy, p1, by rw [g2]; exact p2, p3, g1, p5.mono m.ff, p6⟩
  · have key : ∀ {i : Nat} {c : Bool} {w : O}, (e.set j (.ow b o'))[i]? = some (.ow c w) → ∃ (c : Bool) (w : O), e[i]? = some (.ow c w) := fun {i c w} h => by
      by_cases z : j = i
      · subst z
        exact ⟨_, _, hj⟩
      · rw [List.getElem?_set_ne z] at h
        exact ⟨_, _, h⟩
    obtain ⟨_, _, hi⟩ := key hi
    obtain ⟨_, _, hi'⟩ := key hi'
    exact k.ap _ _ _ _ _ _ _ hi hi' s1 s2
end
theorem se_callS {K : PySem.W.Frag} {mg : Str → Option Value} {E : L2.St → XK} {j : Nat} {t : TA} {da : DA} {dsp : DSp} {Ex : XK} (ha : SA K mg E t da) : SE K mg E (tCall (spOf K mg dsp) [] Ex (tCons (tVar j) t)) (dCallS j dsp da) := by
  intro B G F H e σ Ē Q' Q k x h q
  unfold dCallS at h
  split at h
  · rename_i fx o0 he
    obtain ⟨a, u, g1, _⟩ := k.ow j fx o0 he
    refine ⟨_, g1, ha B G F H e σ Ē _ _ k x h fun ds e1 vs F1 H1 h1 m1 k1 r1 => ?_⟩
    split at h1
    · rename_i b o he1
      rw [List.append_nil]
      refine ⟨_, del (loose F1 H1) a, F1, .ow true o :: ds.map .fr, _, ok_lent k1 he1 g1 r1, h1, lent_ow, fun d as' v F' H' h2 m2 k2 r2 => ?_⟩
      split at h2
      · obtain ⟨m3, k3⟩ := ok_back k1 he1 g1 m2 k2
        exact q d _ v F' H' h2 (m1.trans m3) k3 r2
      · exact h2.elim
    · exact h1.elim
  · exact h.elim
/-! ### over the text -/
section
variable {X : Cx} {ι : Type} {v : ι → Vy} {E : L2.St → XK} {k lvl : Nat} {a fe : Expr} {es : List Expr} {da : DA} {df : DE} {pos p : Pos} {x : Str} {dsp : DSp}
theorem pd_call (F : Fn X.prog X.w X.K X.mg X.base lvl x dsp) (g : Good X k) (ha : PDA X v E (a :: es) da) (hl : lvl ≤ k := by decide) (hg : ∀ ii, Gl (X.atV (v ii)) x := by intro _; rfl) (hdb : (x == ("__debug__" : Str)) = false := by decide)
    (he : ∀ ii, starEach (a :: es) (v ii).env = (false, eval a (v ii).env) :: starEach es (v ii).env := by intro _; rfl) (hpl : ∀ ii, (backTo pos (starEach es (v ii).env)).any (·.1) = false := by intro _; rfl) : PD X v E (.Call (.Name x p) (a :: es) [] pos) (dCall dsp da) := by
  obtain ⟨f, fd, ps, hm, hk, hb, F⟩ := F.ex
  obtain ⟨t, ha, sa⟩ := ha.ex
  exact ⟨tCall (spOf X.K X.mg dsp) [] E0 t, fun ii => pe_call (X := X.atV (v ii)) F (g.room.mono hl) (hg ii) hm hk hb .nil passN (ha ii) hdb (he ii) (hpl ii), se_call sa⟩
theorem pd_callS (j : Nat) {y : Str} {py : Pos} (F : Fn X.prog X.w X.K X.mg X.base lvl x dsp) (g : Good X k) (ha : PDA X v E es da) (hl : lvl ≤ k := by decide) (hN : X.N[j]? = some y := by rfl) (hv : ∀ ii, Vis (v ii).env.scope y := by first | exact fun _ => Or.inl rfl | exact fun _ => Or.inr (Or.inl rfl) | exact fun _ => Or.inr (Or.inr rfl)) (hd : (y == ("__debug__" : Str)) = false := by decide) (hcd : (y == ("__classdict__" : Str)) = false := by decide)
    (hg : ∀ ii, Gl (X.atV (v ii)) x := by intro _; rfl) (hdb : (x == ("__debug__" : Str)) = false := by decide)
    (he : ∀ ii, starEach (.Name y py :: es) (v ii).env = (false, eval (.Name y py) (v ii).env) :: starEach es (v ii).env := by intro _; rfl) (hpl : ∀ ii, (backTo pos (starEach es (v ii).env)).any (·.1) = false := by intro _; rfl) : PD X v E (.Call (.Name x p) (.Name y py :: es) [] pos) (dCallS j dsp da) := by
  obtain ⟨f, fd, ps, hm, hk, hb, F⟩ := F.ex
  obtain ⟨t, ha, sa⟩ := ha.ex
  exact ⟨tCall (spOf X.K X.mg dsp) [] E0 (tCons (tVar j) t), fun ii => pe_call (X := X.atV (v ii)) F (g.room.mono hl) (hg ii) hm hk hb .nil passN (pa_cons (pe_var hN (hv ii) hd hcd) (ha ii) (he ii)) hdb (he ii) (hpl ii), se_callS sa⟩
/-- c(..): a new instance, frozen when its __init__ has run -/
def dMake (c : Str) (dsp : DSp) (a : DA) : DE := fun Ē e Q => a Ē e fun ds e1 => dsp (.ow true (.ins c []) :: ds.map .fr) (fun d as' => isNon d = true ∧ match as' with
  | .ow true (.ins c' fs) :: _ => Q (.ins c' fs) e1
  | _ => False) X0
theorem pd_make {c : Str} (F : FnM X.prog X.w X.K X.mg X.base lvl c "__init__" dsp) (g : Good X (k + 1)) (ha : PDA X v E (a :: es) da) (hl : lvl ≤ k := by decide) (hg : ∀ ii, Gl (X.atV (v ii)) c := by intro _; rfl) (hdb : (c == ("__debug__" : Str)) = false := by decide)
    (he : ∀ ii, starEach (a :: es) (v ii).env = (false, eval a (v ii).env) :: starEach es (v ii).env := by intro _; rfl) (hpl : ∀ ii, (backTo pos (starEach es (v ii).env)).any (·.1) = false := by intro _; rfl) : PD X v E (.Call (.Name c p) (a :: es) [] pos) (dMake c dsp da) := by
  obtain ⟨C, f, fd, ps, hm, hc, hfi, hfn, hk, hkC, hmk, _, hb, F⟩ := F.ex
  obtain ⟨t, ha, sa⟩ := ha.ex
  refine ⟨tMake C (spOf X.K X.mg dsp) [] E0 t, fun ii => pe_make (X := X.atV (v ii)) (k := k) ⟨hmk, hfi, hfn, hkC⟩ (F.mono hl) g.room (hg ii) hm hb .nil passN (ha ii) hdb (he ii) (hpl ii), ?_⟩
  intro B G F H e σ Ē Q' Q kk x h q
  refine sa B G F H e σ Ē _ _ kk x h fun ds e1 vs F1 H1 h1 m1 k1 r1 y dy hy hdy hne => ?_
  rw [List.append_nil]
  have fy : F1 y = none := k1.fh.free hy
  have fdy : F1 dy = none := k1.fh.free hdy
  have hs1 : Same F1 (upd H1 dy (.own y)) := same_upd k1.fh fdy
  have hs2 : Same F1 (upd (upd H1 dy (.own y)) y (.ins C dy [])) := same_upd hs1 fy
  have hq : (upd H1 dy (.own y)) y = none := by rw [upd_ne (Ne.symm hne)]; exact hy
  -- a frame with one owned slot
  have k0 : Ok X.K X.mg (fun _ => none) (loose F1 (upd H1 dy (.own y))) F1 (upd (upd H1 dy (.own y)) y (.ins C dy [])) [.ow false (.ins c [])] [some (V.ref y)] := by
    refine ⟨hs2, fun c' w hc' => ?_, rfl, fun i d hi => ?_, fun i b o hi => ?_, fun i j b b' o o' z hi hj _ _ => ?_⟩
    · obtain ⟨c1, c2⟩ := loose_of hc'
      rw [upd_ne (ne_of_none c2 hq)]
      exact c2
    · cases i <;> simp at hi
    · cases i with
      | zero =>
        simp at hi
        obtain ⟨rfl, rfl⟩ := hi
        refine ⟨y, _, rfl, fy, ?_, upd_same, .ins hm .nil, fun z => by cases z⟩
        unfold loose
        rw [if_pos fy]
        exact hq
      | succ i => simp at hi
    · cases i with
      | zero => cases j with
        | zero => rfl
        | succ j => simp at hj
      | succ i => simp at hi
  refine ⟨_, del (loose F1 _) y, F1, .ow true (.ins c []) :: ds.map .fr, _, ok_lent (j := 0) k0 rfl rfl r1, h1, lent_ow, fun d as' v F' H' h2 m2 k2 r2 => ?_⟩
  · obtain ⟨hd, h2⟩ := h2
    have hv : v = .non := by
      cases r2 with
      | non => rfl
      | _ => cases hd
    refine ⟨hv, ?_⟩
    split at h2
    · rename_i c' fs rest
      obtain ⟨m3, k3⟩ := ok_back (j := 0) k0 rfl rfl m2 k2
      obtain ⟨y', u, p1, p2, p3, p4, p5, _⟩ := k3.ow 0 false _ rfl
      cases p1
      cases p5 with
      | @ins C' dx _ _ gs hm' lf =>
        -- back to the caller's frame
        have gr : Gr F1 H1 F' H' := by
          refine ⟨m3.ff, k3.fh, fun b o hb => ?_, fun b o hb => ?_⟩
          · cases q1 : F1 b with
            | none =>
              have hb2 : (upd H1 dy (.own y)) b = some o := by rw [upd_ne (ne_of_none hb hdy)]; exact hb
              exact k3.gh b o (loose_at q1 hb2)
            | some w =>
              have := k1.fh b w q1
              rw [hb] at this
              cases this
              exact k3.fh b o (m3.ff b o q1)
          · cases q1 : F1 b with
            | none =>
              have hb2 : (upd H1 dy (.own y)) b = some o := by rw [upd_ne (ne_of_none hb hdy)]; exact hb
              rw [m3.out b o (loose_at q1 hb2)]
              exact q1
            | some w => exact m3.ff b w q1
        have k4 := k1.grow gr
        have f4 : Fresh F' G H' e1 σ _ (.ins C' dx gs) := ⟨p2, k1.gh.free hy, p4, fun j b o hj hσ => by
          obtain ⟨z, w, z1, _, _, z4, _⟩ := k1.ow j b o hj
          rw [hσ] at z1
          cases z1
          rw [hy] at z4
          cases z4⟩
        obtain ⟨m5, k5⟩ := k4.frz f4
        exact q _ e1 _ _ H' h2 ((m1.trans (k1.mv gr)).trans m5) k5 (.ins hm' upd_same (lf.mono m5.ff))
    · exact h2.elim
/-- o(..): an instance called -/
def dCallO (c : Str) (dsp : DSp) (f : DE) (a : DA) : DE := fun Ē e Q => f Ē e fun y e0 => match y with
  | .ins c' fs => c' = c ∧ a Ē e0 fun ds e1 => dsp ((.ins c' fs :: ds).map .fr) (fun d _ => Q d e1) X0
  | _ => False
/-- the callee runs, as code -/
theorem run_code {X : Cx} {CX : CXT} {k : Nat} {f : Addr} {fd : FuncData} {ps : List Str} {sp : Sp} {E : XK} {pins : List (Addr × Obj)} {σ : L2.St} {H : Hp} {s : Shared} {Q : VK} {us : List Value} {vs : List V} (F : FnOk X.prog X.w X.K X.mg X.base CX k f fd ps sp) (hr : Room k X.A) (hb : Binds X.K fd ps []) (hx : Passes CX X E)
    (I : Inv X pins σ H s) (r : Vals vs us) (h : sp vs H Q E) : codeAny (model X.prog X.w) X.A (.call (.ref f) ⟨us, []⟩) (fun r s' => match r with | .ok (.ret u) => EP X pins σ Q u s' | .ok _ => False | .error e => X.xe e s') s := by
  have hl : (us ++ []).length = ps.length := by rw [List.append_nil, ← r.length]; exact F.len _ _ _ _ h
  have hb' := hb s us I.kIn hl
  rw [List.append_nil] at hb'
  refine codeAny_mono (F.run X.A X.stack s H ⟨us, []⟩ us vs Q E hr I.env0 hb' r h) fun r s' hq => ?_
  cases r with
  | error e => exact hx pins σ H s e s' I hq
  | ok fl => cases fl with
    | ret u => exact I.after hq
    | _ => exact False.elim hq
theorem pe_callO' {C gf : Addr} {fd : FuncData} {ps : List Str} {sp : Sp} {tf : TE} {t : TA} (hf : PE X fe tf) (h1 : PySem.W.findIn X.K (.ref C) "__call__" = some (some (.ref gf))) (h2 : PySem.W.isFn X.K (.ref gf) = true) (h3 : PySem.W.fnIn X.K gf = true) (F : FnOk X.prog X.w X.K X.mg X.base (L2N.CX X.prog X.w) k gf fd ps sp) (hr : Room k X.A) (hb : Binds X.K fd ps []) (ha : PA X (a :: es) t)
    (ht : eval (.Call fe (a :: es) [] pos) X.env = (do callWith pos (← eval fe X.env) [] (backTo pos (starEach (a :: es) X.env)) (backToKw pos (keywordEach [] X.env))))
    (he : starEach (a :: es) X.env = (false, eval a X.env) :: starEach es X.env) (hpl : (backTo pos (starEach es X.env)).any (·.1) = false) :
    PE X (.Call fe (a :: es) [] pos) (fun σ H Q => tf σ H fun y H1 => ∃ q, y = V.ref q ∧ t σ H1 fun vs H2 => (∃ dx fs, H2 q = some (.ins C dx fs)) ∧ sp (V.ref q :: vs) H2 Q E0) := ⟨fun pins s σ H Q I h =>
  Call_ (thn (hf.run pins s σ H _ I h) fun u s1 ⟨y, H1, I1, ry, q, ey, hq⟩ => by
    subst ey
    obtain rfl : u = Value.ref q := ry
    refine StX.callO_with (thn (ha.run pos pins s1 σ H1 _ I1 hq) fun us s2 ⟨vs, H2, I2, r, ⟨dx, fs, hi⟩, q2⟩ => ?_) he hpl
    obtain ⟨mA, Om, _⟩ := ins_get I2.hok hi
    obtain ⟨od, J, _⟩ := Om.look
    exact ⟨⟨C, _, _, J, rfl⟩, wpAny_call (PySem.W.kco_code I2.kIn J rfl h1 h2 h3 (run_code (us := .ref q :: us) (vs := .ref q :: vs) F hr hb passN I2 (.cons rfl r) q2))⟩) ht⟩
theorem pd_callO {c : Str} (F : FnM X.prog X.w X.K X.mg X.base lvl c "__call__" dsp) (g : Good X k) (hf : PD X v E fe df) (ha : PDA X v E (a :: es) da) (hl : lvl ≤ k := by decide)
    (ht : ∀ ii, eval (.Call fe (a :: es) [] pos) (v ii).env = (do callWith pos (← eval fe (v ii).env) [] (backTo pos (starEach (a :: es) (v ii).env)) (backToKw pos (keywordEach [] (v ii).env))) := by intro _; rfl)
    (he : ∀ ii, starEach (a :: es) (v ii).env = (false, eval a (v ii).env) :: starEach es (v ii).env := by intro _; rfl) (hpl : ∀ ii, (backTo pos (starEach es (v ii).env)).any (·.1) = false := by intro _; rfl) : PD X v E (.Call fe (a :: es) [] pos) (dCallO c dsp df da) := by
  obtain ⟨C, f, fd, ps, hm, hc, hfi, hfn, hk, hkC, hmk, hfI, hb, F⟩ := F.ex
  obtain ⟨t, ha, sa⟩ := ha.ex
  obtain ⟨tf, hf, sf⟩ := hf.ex
  refine ⟨_, fun ii => pe_callO' (X := X.atV (v ii)) (hf ii) hfi hfn hfI F (g.room.mono hl) hb (ha ii) (ht ii) (he ii) (hpl ii), ?_⟩
  intro B G F H e σ Ē Q' Q kk x h q
  refine sf B G F H e σ Ē _ _ kk x h fun y e0 w F0 H0 h0 m0 k0 r0 => ?_
  cases y with
  | ins c' fs =>
    obtain ⟨rfl, h0⟩ := h0
    cases r0 with
    | @ins a C' dx _ _ gs hm' hF lf =>
      rw [hm] at hm'
      cases hm'
      refine ⟨a, rfl, sa B G F0 H0 e0 σ Ē _ _ k0 (x.mv m0) h0 fun ds e1 vs F1 H1 h1 m1 k1 r1 => ⟨⟨dx, gs, k1.fh _ _ (m1.ff _ _ hF)⟩, ?_⟩⟩
      have rl : RepL X.K X.mg F1 (.ins c' fs :: ds) (V.ref a :: vs) := .cons (.ins hm (m1.ff _ _ hF) (lf.mono m1.ff)) r1
      refine ⟨fun _ => none, loose F1 H1, F1, _, _, ok_frozen k1.fh rl, h1, no_ow, fun d as' v F' H' h2 m2 k2 r2 => ?_⟩
      have g := gr_call m2 k2.fh k2.gh k1.fh
      exact q d e1 v F' H' h2 ((m0.trans m1).trans (k1.mv g)) (k1.grow g) r2
  | _ => exact h0.elim
end
end DL

set_option Elab.async false
set_option linter.all false
set_option maxRecDepth 100000
set_option maxHeartbeats 8000000
namespace DL
open PySem PySem.Spec PyProof.Rows L2
/-! ### dicts with tuple keys -/
def key1 : D → Option Key
  | .int i => some (.inl i)
  | .str x => some (.inr x)
  | _ => none
def keyL : List D → Option (List Key)
  | [] => some []
  | d :: ds => match key1 d, keyL ds with
    | some k, some ks => some (k :: ks)
    | _, _ => none
def keyT : D → Option (List Key)
  | .tup xs => keyL xs
  | _ => none
def valD {κ : Type} [DecidableEq κ] (kvs : List (κ × D)) (k : κ) : Option D := (kvs.find? fun kv => decide (kv.1 = k)).map (·.2)
def putKD {κ : Type} [DecidableEq κ] (kvs : List (κ × D)) (k : κ) (v : D) : List (κ × D) := if (kvs.any fun kv => decide (kv.1 = k)) = true then kvs.map fun kv => if kv.1 = k then (kv.1, v) else kv else kvs ++ [(k, v)]
section
variable {K : PySem.W.Frag} {mg : Str → Option Value} {F H : Hp}
theorem key1_rep {d : D} {v : V} {k : Key} (r : Rep K mg F d v) (h : key1 d = some k) : v = kV k := by
  cases r with
  | int i => cases h; rfl
  | str x => cases h; rfl
  | _ => cases h
theorem keyL_rep : ∀ {ds : List D} {vs : List V} {ks : List Key}, RepL K mg F ds vs → keyL ds = some ks → vs = ks.map kV
  | _, _, ks, .nil, h => by cases h; rfl
  | d :: ds, _, ks, .cons r l, h => by
    unfold keyL at h
    cases h1 : key1 d with
    | none => rw [h1] at h; cases h
    | some k => cases h2 : keyL ds with
      | none => rw [h1, h2] at h; cases h
      | some ks' =>
        rw [h1, h2] at h
        cases h
        rw [List.map_cons, key1_rep r h1, keyL_rep l h2]
theorem keyT_rep {d : D} {v : V} {ks : List Key} (hs : Same F H) (r : Rep K mg F d v) (h : keyT d = some ks) : ∃ b, v = .ref b ∧ H b = some (.tup (ks.map kV)) := by
  cases r with
  | @tup b _ vs ha la =>
    have := keyL_rep la h
    subst this
    exact ⟨b, rfl, hs _ _ ha⟩
  | _ => cases h
theorem RepT.val : ∀ {kvs : List (List Key × D)} {kws : List (List Key × V)} (k : List Key), RepT K mg F kvs kws → (∀ d, valD kvs k = some d → ∃ v, valV kws k = some v ∧ Rep K mg F d v) ∧ (valD kvs k = none → valV kws k = none)
  | _, _, k, .nil => ⟨fun d h => (nomatch (show (none : Option D) = some d from h)), fun _ => rfl⟩
  | _, _, k, .cons (f := f) r l => by
    obtain ⟨h1, h2⟩ := RepT.val k l
    by_cases e : f = k
    · subst e
      refine ⟨fun d h => ?_, fun h => ?_⟩
      · simp [valD] at h
        subst h
        exact ⟨_, by simp [valV], r⟩
      · simp [valD] at h
    · have q1 : ∀ {α : Type} (x : α) (l : List (List Key × α)), ((f, x) :: l).find? (fun kv => decide (kv.1 = k)) = l.find? (fun kv => decide (kv.1 = k)) := fun x l => by simp [List.find?_cons, e]
      refine ⟨fun d h => ?_, fun h => ?_⟩
      · unfold valD at h
        rw [q1] at h
        obtain ⟨v, a, b⟩ := h1 d h
        exact ⟨v, by unfold valV at a ⊢; rw [q1]; exact a, b⟩
      · unfold valD at h
        rw [q1] at h
        have a := h2 h
        unfold valV at a ⊢
        rw [q1]
        exact a
theorem RepT.keys : ∀ {kvs : List (List Key × D)} {kws : List (List Key × V)}, RepT K mg F kvs kws → kvs.map (·.1) = kws.map (·.1)
  | _, _, .nil => rfl
  | _, _, .cons r l => by rw [List.map_cons, List.map_cons, RepT.keys l]
theorem RepT.length {kvs : List (List Key × D)} {kws : List (List Key × V)} (h : RepT K mg F kvs kws) : kvs.length = kws.length := by
  have := congrArg List.length h.keys
  simpa using this
theorem any_keys {κ α : Type} [DecidableEq κ] (l : List (κ × α)) (k : κ) : (l.any fun kv => decide (kv.1 = k)) = decide (k ∈ l.map (·.1)) := by
  induction l with
  | nil => simp
  | cons x l ih =>
    rw [List.any_cons, ih, List.map_cons]
    by_cases h : x.1 = k
    · simp [h]
    · simp [h, Ne.symm h]
theorem RepT.snoc {d : D} {v : V} {k : List Key} (r : Rep K mg F d v) : ∀ {kvs : List (List Key × D)} {kws : List (List Key × V)}, RepT K mg F kvs kws → RepT K mg F (kvs ++ [(k, d)]) (kws ++ [(k, v)])
  | _, _, .nil => .cons r .nil
  | _, _, .cons q l => .cons q (RepT.snoc r l)
theorem RepT.repl {d : D} {v : V} {k : List Key} (r : Rep K mg F d v) : ∀ {kvs : List (List Key × D)} {kws : List (List Key × V)}, RepT K mg F kvs kws → RepT K mg F (kvs.map fun kv => if kv.1 = k then (kv.1, d) else kv) (kws.map fun kv => if kv.1 = k then (kv.1, v) else kv)
  | _, _, .nil => .nil
  | _, _, .cons (f := f) q l => by
    rw [List.map_cons, List.map_cons]
    by_cases e : f = k
    · rw [if_pos e, if_pos e]
      exact .cons r (RepT.repl r l)
    · rw [if_neg e, if_neg e]
      exact .cons q (RepT.repl r l)
theorem RepT.put {d : D} {v : V} {k : List Key} (r : Rep K mg F d v) {kvs : List (List Key × D)} {kws : List (List Key × V)} (l : RepT K mg F kvs kws) : RepT K mg F (putKD kvs k d) (putK kws k v) := by
  unfold putKD putK
  rw [any_keys, any_keys, l.keys]
  by_cases e : k ∈ kws.map (·.1)
  · rw [if_pos (by simpa using e), if_pos (by simpa using e)]
    exact l.repl r
  · rw [if_neg (by simpa using e), if_neg (by simpa using e)]
    exact l.snoc r
end
def dNewT : DN := fun _ e Q => Q (.dT []) e
/-- x in d, d a slot -/
def dDIn (neg : Bool) (j : Nat) (a : DE) : DE := fun Ē e Q => a Ē e fun y e1 => match keyT y, e1[j]? with
  | some k, some (.ow _ (.dT kvs)) => Q (.bl (if neg then !(valD kvs k).isSome else (valD kvs k).isSome)) e1
  | _, _ => False
/-- d[x], d a slot -/
def dDGet (j : Nat) (a : DE) : DE := fun Ē e Q => match e[j]? with
  | some (.ow _ (.dT _)) => a Ē e fun y e1 => (match keyT y, e1[j]? with
    | some k, some (.ow _ (.dT kvs)) => (match valD kvs k with
      | some d => Q d e1
      | none => False)
    | _, _ => False)
  | some (.fr (.dT kvs)) => a Ē e fun y e1 => (match keyT y with
    | some k => (match valD kvs k with
      | some d => Q d e1
      | none => False)
    | none => False)
  | _ => False
/-- e[x], e a frozen dict -/
def dDGetE (b a : DE) : DE := fun Ē e Q => b Ē e fun x e0 => match x with
  | .dT kvs => a Ē e0 fun y e1 => (match keyT y with
    | some k => (match valD kvs k with
      | some d => Q d e1
      | none => False)
    | none => False)
  | _ => False
/-- d[x] = v -/
def dDPut (j : Nat) (a b : DE) : DS := fun Ē D e => b Ē e fun w e1 => match e1[j]? with
  | some (.ow _ (.dT _)) => a Ē e1 fun y e2 => (match keyT y, e2[j]? with
    | some k, some (.ow fx (.dT kvs)) => kvs.length < sizeLine ∧ D.nx (e2.set j (.ow fx (.dT (putKD kvs k w))))
    | _, _ => False)
  | _ => False
section
variable {K : PySem.W.Frag} {mg : Str → Option Value} {E : L2.St → XK} {ta tb : TE} {a b : DE}
theorem sn_newT : SN K mg E tDNewT dNewT := fun B G F H e σ Ē Q' Q k x h q p hp =>
  have g : Gr F H F (upd H p (.dT [])) := Gr.loose k.fh hp
  q _ e p _ F _ h (k.mv g) (k.grow g) (fresh_new k hp) (.dT .nil)
theorem se_din {neg : Bool} {j : Nat} (ha : SE K mg E ta a) : SE K mg E (if neg then tDNotIn ta (tVar j) else tDIn ta (tVar j)) (dDIn neg j a) := fun B G F H e σ Ē Q' Q k x h q => by
  have key : ta σ H (fun y H1 => tVar j σ H1 fun x H2 => ∃ a o, x = .ref a ∧ DGet H2 a y o ∧ Q (.bl (if neg then !o.isSome else o.isSome)) H2) := ha B G F H e σ Ē _ _ k x h fun y e1 w F1 H1 h1 m1 k1 r1 => by
    split at h1
    · rename_i ks fx kvs hk he
      obtain ⟨p, u, g1, g2, g3, g4, g5, _⟩ := k1.ow j fx _ he
      cases g5 with
      | @dT _ kws lt =>
        obtain ⟨b, rfl, hb⟩ := keyT_rep k1.fh r1 hk
        obtain ⟨v1, v2⟩ := lt.val ks
        refine ⟨_, g1, p, valV kws ks, rfl, DGet.t g4 hb, ?_⟩
        have e0 : (valV kws ks).isSome = (valD kvs ks).isSome := by
          cases z : valD kvs ks with
          | none => rw [v2 z]; rfl
          | some d => obtain ⟨v, z1, _⟩ := v1 d z; rw [z1]; rfl
        rw [e0]
        exact q _ e1 _ F1 H1 h1 m1 k1 (.bl _)
    · exact h1.elim
  cases neg with
  | true => exact key
  | false => exact key
theorem se_dget {j : Nat} (ha : SE K mg E ta a) : SE K mg E (tDGet (tVar j) ta) (dDGet j a) := fun B G F H e σ Ē Q' Q k x h q => by
  unfold dDGet at h
  split at h
  · rename_i fx kvs0 he
    obtain ⟨p, u, g1, _⟩ := k.ow j fx _ he
    refine ⟨_, g1, ha B G F H e σ Ē _ _ k x h fun y e1 w F1 H1 h1 m1 k1 r1 => ?_⟩
    split at h1
    · rename_i ks fx' kvs hk he1
      obtain ⟨p', u', q1, q2, q3, q4, q5, _⟩ := k1.ow j fx' _ he1
      rw [g1] at q1
      cases q1
      cases q5 with
      | @dT _ kws lt =>
        obtain ⟨b, rfl, hb⟩ := keyT_rep k1.fh r1 hk
        split at h1
        · rename_i d hd
          obtain ⟨v, z1, z2⟩ := (lt.val ks).1 d hd
          exact ⟨_, v, rfl, by rw [← z1]; exact DGet.t q4 hb, q d e1 v F1 H1 h1 m1 k1 z2⟩
        · exact h1.elim
    · exact h1.elim
  · rename_i kvs he
    obtain ⟨u, g1, g2⟩ := k.fr j _ he
    cases g2 with
    | @dT p _ kws hF lt =>
      refine ⟨_, g1, ha B G F H e σ Ē _ _ k x h fun y e1 w F1 H1 h1 m1 k1 r1 => ?_⟩
      split at h1
      · rename_i ks hk
        obtain ⟨b, rfl, hb⟩ := keyT_rep k1.fh r1 hk
        split at h1
        · rename_i d hd
          obtain ⟨v, z1, z2⟩ := ((lt.mono m1.ff).val ks).1 d hd
          exact ⟨_, v, rfl, by rw [← z1]; exact DGet.t (k1.fh _ _ (m1.ff _ _ hF)) hb, q d e1 v F1 H1 h1 m1 k1 z2⟩
        · exact h1.elim
      · exact h1.elim
  · exact h.elim
theorem se_dgetE (hb : SE K mg E tb b) (ha : SE K mg E ta a) : SE K mg E (tDGet tb ta) (dDGetE b a) := fun B G F H e σ Ē Q' Q k x h q =>
  hb B G F H e σ Ē _ _ k x h fun d0 e0 w0 F0 H0 h0 m0 k0 r0 => by
    cases d0 with
    | dT kvs =>
      cases r0 with
      | @dT p _ kws hF lt =>
        refine ha B G F0 H0 e0 σ Ē _ _ k0 (x.mv m0) h0 fun y e1 w F1 H1 h1 m1 k1 r1 => ?_
        split at h1
        · rename_i ks hk
          obtain ⟨b, rfl, hb⟩ := keyT_rep k1.fh r1 hk
          split at h1
          · rename_i d hd
            obtain ⟨v, z1, z2⟩ := ((lt.mono m1.ff).val ks).1 d hd
            exact ⟨_, v, rfl, by rw [← z1]; exact DGet.t (k1.fh _ _ (m1.ff _ _ hF)) hb, q d e1 v F1 H1 h1 (m0.trans m1) k1 z2⟩
          · exact h1.elim
        · exact h1.elim
    | _ => exact h0.elim
theorem ss_dput {j : Nat} (ha : SE K mg E ta a) (hb : SE K mg E tb b) : SS K mg E (sDPut (tVar j) ta tb) (dDPut j a b) := fun B G F H e σ Ē D' D k x h q =>
  hb B G F H e σ Ē _ _ k (x σ) h fun w e1 wv F1 H1 h1 m1 k1 r1 => by
    split at h1
    · rename_i fx kvs0 he
      obtain ⟨p, u, g1, _⟩ := k1.ow j fx _ he
      refine ⟨_, g1, ha B G F1 H1 e1 σ Ē _ _ k1 ((x σ).mv m1) h1 fun y e2 yv F2 H2 h2 m2 k2 r2 => ?_⟩
      split at h2
      · rename_i ks fx' kvs hk he2
        obtain ⟨p', u', q1, q2, q3, q4, q5, _⟩ := k2.ow j fx' _ he2
        rw [g1] at q1
        cases q1
        cases q5 with
        | @dT _ kws lt =>
          obtain ⟨b, rfl, hb⟩ := keyT_rep k2.fh r2 hk
          exact ⟨_, _, rfl, DPut.t q4 hb (by rw [← lt.length]; exact h2.1), q.nx _ σ F2 _ h2.2 (m1.trans m2) (k2.write he2 g1 (.dT (lt.put (r1.mono m2.ff))))⟩
      · exact h2.elim
    · exact h1.elim
end
section
variable {X : Cx} {ι : Type} {v : ι → Vy} {E : L2.St → XK} {k : Nat} {a b : Expr} {da db : DE} {pos p pp : Pos} {x : Str}
theorem pn_newT : PN X v E (.Dict [] [] pos) dNewT := ⟨_, fun _ => pe_dnewT, sn_newT⟩
theorem pd_din (j : Nat) (g : Good X k) (ha : PD X v E a da) (hN : X.N[j]? = some x := by rfl) (hv : ∀ ii, Vis (v ii).env.scope x := by first | exact fun _ => Or.inl rfl | exact fun _ => Or.inr (Or.inl rfl) | exact fun _ => Or.inr (Or.inr rfl)) (hd : (x == ("__debug__" : Str)) = false := by decide) (hcd : (x == ("__classdict__" : Str)) = false := by decide) (hm : behindInMarks .In (.Name x p) = false := by rfl) :
    PD X v E (.Compare a [.In] [.Name x p] pos) (dDIn false j da) := by
  obtain ⟨t, ha, sa⟩ := ha.ex
  exact ⟨_, fun ii => pe_cmp (pc_din (X := X.atV (v ii)) g.hu1 (ha ii) (pe_var hN (hv ii) hd hcd)) hm, se_din (neg := false) sa⟩
theorem tt_din (j : Nat) (g : Good X k) (ha : PD X v E a da) (hN : X.N[j]? = some x := by rfl) (hv : ∀ ii, Vis (v ii).env.scope x := by first | exact fun _ => Or.inl rfl | exact fun _ => Or.inr (Or.inl rfl) | exact fun _ => Or.inr (Or.inr rfl)) (hd : (x == ("__debug__" : Str)) = false := by decide) (hcd : (x == ("__classdict__" : Str)) = false := by decide) (hm : behindInMarks .In (.Name x p) = false := by rfl) :
    PDT X v E (.Compare a [.In] [.Name x p] pos) (dTest (dDIn false j da)) := by
  obtain ⟨t, ha, sa⟩ := ha.ex
  exact ⟨_, fun ii => pt_cmp (pc_din (X := X.atV (v ii)) g.hu1 (ha ii) (pe_var hN (hv ii) hd hcd)) hm, st_B (se_din (neg := false) sa)⟩
theorem tt_dnin (j : Nat) (g : Good X k) (ha : PD X v E a da) (hN : X.N[j]? = some x := by rfl) (hv : ∀ ii, Vis (v ii).env.scope x := by first | exact fun _ => Or.inl rfl | exact fun _ => Or.inr (Or.inl rfl) | exact fun _ => Or.inr (Or.inr rfl)) (hd : (x == ("__debug__" : Str)) = false := by decide) (hcd : (x == ("__classdict__" : Str)) = false := by decide) (hm : behindInMarks .NotIn (.Name x p) = false := by rfl) :
    PDT X v E (.Compare a [.NotIn] [.Name x p] pos) (dTest (dDIn true j da)) := by
  obtain ⟨t, ha, sa⟩ := ha.ex
  exact ⟨_, fun ii => pt_cmp (pc_dnotin (X := X.atV (v ii)) g.hu1 (ha ii) (pe_var hN (hv ii) hd hcd)) hm, st_B (se_din (neg := true) sa)⟩
theorem pd_dget (j : Nat) (g : Good X k) (ha : PD X v E a da) (hN : X.N[j]? = some x := by rfl) (hv : ∀ ii, Vis (v ii).env.scope x := by first | exact fun _ => Or.inl rfl | exact fun _ => Or.inr (Or.inl rfl) | exact fun _ => Or.inr (Or.inr rfl)) (hd : (x == ("__debug__" : Str)) = false := by decide) (hcd : (x == ("__classdict__" : Str)) = false := by decide) (hs : NoSl a := by intro _ _; rfl) :
    PD X v E (.Subscript (.Name x p) a pos) (dDGet j da) := by
  obtain ⟨t, ha, sa⟩ := ha.ex
  exact ⟨_, fun ii => pe_dget (X := X.atV (v ii)) g.hu1 (pe_var hN (hv ii) hd hcd) (ha ii) hs, se_dget sa⟩
theorem pd_dgetE (g : Good X k) (hb : PD X v E b db) (ha : PD X v E a da) (hs : NoSl a := by intro _ _; rfl) : PD X v E (.Subscript b a pos) (dDGetE db da) := by
  obtain ⟨t, ha, sa⟩ := ha.ex
  obtain ⟨u, hb, sb⟩ := hb.ex
  exact ⟨_, fun ii => pe_dget (X := X.atV (v ii)) g.hu1 (hb ii) (ha ii) hs, se_dgetE sb sa⟩
theorem ds_dput (j : Nat) (g : Good X k) (ha : PD X v E a da) (hb : PD X v E b db) (hN : X.N[j]? = some x := by rfl) (hv : ∀ ii, Vis (v ii).env.scope x := by first | exact fun _ => Or.inl rfl | exact fun _ => Or.inr (Or.inl rfl) | exact fun _ => Or.inr (Or.inr rfl)) (hd : (x == ("__debug__" : Str)) = false := by decide) (hcd : (x == ("__classdict__" : Str)) = false := by decide)
    (hs : ∀ ii, swapsWith b (some (.Subscript (.Name x p) a pp)) pos.line (v ii).env = pure false := by intro _; rfl) : PDS X v E (.Assign [.Subscript (.Name x p) a pp] b pos) (dDPut j da db) := by
  obtain ⟨t, ha, sa⟩ := ha.ex
  obtain ⟨u, hb, sb⟩ := hb.ex
  exact ⟨_, fun ii => ps_dput (X := X.atV (v ii)) g.hu1 (pe_var hN (hv ii) hd hcd) (ha ii) (hb ii) (hs ii), ss_dput sa sb⟩
end
/-! ### isinstance of a class of the text -/
section
variable {X : Cx} {ι : Type} {v : ι → Vy} {E : L2.St → XK} {k : Nat} {a : Expr} {da : DE} {pos p pt : Pos} {c : Str}
/-- what the text must say of the class -/
structure IsC (K : PySem.W.Frag) (mg : Str → Option Value) (c : Str) : Prop where
  ex : ∃ C, mg c = some (.ref C) ∧ Cls K C ∧ PySem.W.findIn K (.ref C) "__class__" = some (some (.builtin "object.__class__")) ∧ PySem.W.specialIn K (.builtin "object.__class__") "__get__" = some (some (.builtin "getset_descriptor.__get__")) ∧
    PySem.W.takesIn K (.builtin "object.__class__") = some true ∧ PySem.W.mroIn K C (.type "object") = some true
def dIsC (c : Str) (a : DE) : DE := fun Ē e Q => a Ē e fun x e1 => match x with
  | .ins c' _ => c' = c ∧ Q (.bl true) e1
  | _ => False
theorem pd_isC (h : IsC X.K X.mg c) (hi : X.mg "isinstance" = none) (ha : PD X v E a da) (hdb : (c == ("__debug__" : Str)) = false := by decide) (hgt : ∀ ii, Gl (X.atV (v ii)) c := by intro _; rfl) (hg : ∀ ii, Gl (X.atV (v ii)) "isinstance" := by intro _; rfl)
    (he : ∀ ii, starEach [a, .Name c pt] (v ii).env = (false, eval a (v ii).env) :: starEach [.Name c pt] (v ii).env := by intro _; rfl) (he2 : ∀ ii, starEach [.Name c pt] (v ii).env = (false, eval (.Name c pt) (v ii).env) :: starEach [] (v ii).env := by intro _; rfl) (hpl : ∀ ii, (backTo pos (starEach [.Name c pt] (v ii).env)).any (·.1) = false := by intro _; rfl) :
    PD X v E (.Call (.Name "isinstance" p) [a, .Name c pt] [] pos) (dIsC c da) := by
  obtain ⟨C, hm, hc, h1, h2, h3, h4⟩ := h.ex
  obtain ⟨ta, ha, sa⟩ := ha.ex
  refine ⟨_, fun ii => pe_callB (r := rIsi X.K) (call_isi (X := X.atV (v ii))) (hg ii) hi PyProof.Rows.boot_isinstance (pa_cons (ha ii) (pa_cons (pe_glob (v := .ref C) (hgt ii) hm rfl hdb) pa_nil (he2 ii)) (he ii)) (by decide) (by decide) (he ii) (hpl ii), ?_⟩
  intro B G F H e σ Ē Q' Q kk x h q
  refine sa B G F H e σ Ē _ _ kk x h fun d1 e1 v1 F1 H1 q1 m1 k1 r1 => ?_
  cases d1 with
  | ins c' fs =>
    obtain ⟨rfl, q1⟩ := q1
    cases r1 with
    | @ins y C' dx _ _ gs hm' hF lf =>
      rw [hm] at hm'
      cases hm'
      refine ⟨_, .ref C, .ref C, .ref C, true, rfl, .own C, .base (.ins (k1.fh _ _ hF) hc h1 h2 h3 h4), ?_, q _ e1 _ F1 H1 q1 m1 k1 (.bl true)⟩
      unfold PySem.W.kitOne
      rw [if_pos (by simp)]
  | _ => exact q1.elim
end
end DL

set_option Elab.async false
set_option linter.all false
set_option maxRecDepth 100000
set_option maxHeartbeats 8000000
namespace DL
open PySem PySem.Spec PyProof.Rows L2
/-! ### more facts of the head -/
/-- own classes that isinstance may be asked of; methods -/
def exC (K : PySem.W.Frag) (c : Str) : Bool := He.eqO (PySem.W.findIn K (.ref (He.ga K c)) "__class__") (some (some (.builtin "object.__class__"))) && (He.eqO (PySem.W.specialIn K (.builtin "object.__class__") "__get__") (some (some (.builtin "getset_descriptor.__get__"))) &&
  (decide (PySem.W.takesIn K (.builtin "object.__class__") = some true) && decide (PySem.W.mroIn K (He.ga K c) (.type "object") = some true)))
def exM (K : PySem.W.Frag) (p : Str × Str) : Bool := PySem.W.fnIn K (He.ma K (He.ga K p.1) p.2)
def exE (cs : List Str) (ms : List (Str × Str)) (K : PySem.W.Frag) : Bool := cs.all (exC K) && ms.all (exM K)
abbrev AlE : Type := He.AlD × Bool
def obsE (n : Nat) (fa : List He.Fa) (fn : List He.DefD) (ex : PySem.W.Frag → Bool) (g : Addr → Option Obj) : AlE := (He.obsD fa fn (He.frG g (He.asD g n)), ex (He.frG g (He.asD g n)))
structure SaysE (fa : List He.Fa) (fn : List He.DefD) (ex : PySem.W.Frag → Bool) (K : PySem.W.Frag) : Prop where
  d : He.SaysD fa fn K
  e : ex K = true
def hookE (n : Nat) (fa : List He.Fa) (fn : List He.DefD) (ex : PySem.W.Frag → Bool) : PySem.W.Hook where
  α := AlE
  obs := fun s => obsE n fa fn ex s.heap.get?
  val := fun _ => (He.valD fn, true)
  says := fun _ h => ∃ K : PySem.W.Frag, K.In h ∧ SaysE fa fn ex K
  of := fun _ _ e => ⟨_, He.frG_in, congrArg (fun z : AlE => z.1) e, congrArg (fun z : AlE => z.2) e⟩
  keeps := fun _ _ _ ⟨K, hK, c⟩ k => ⟨K, PySem.W.Frag.In.keeps hK k, c⟩
theorem obsE_eq {n : Nat} {fa : List He.Fa} {fn : List He.DefD} {ex : PySem.W.Frag → Bool} {g : Addr → Option Obj} {s : Shared} (h : ∀ a, g a = s.heap.get? a) : obsE n fa fn ex g = (hookE n fa fn ex).obs s := by
  have e : g = s.heap.get? := funext h
  rw [e] <;> rfl
section
variable {K : PySem.W.Frag} {h : Heap} {mg : Str → Option Value} {cs : List Str} {ms : List (Str × Str)}
theorem isC_ok {c : Str} (X : K.In h) (G : h.Ns mainGlobals mg) (g : (He.Fa.glo c).ok K = true) (k : (He.Fa.cls c).ok K = true) (e : exE cs ms K = true) (hc : c ∈ cs) : IsC K mg c := by
  obtain ⟨e1, _⟩ := He.ba e
  obtain ⟨a1, a⟩ := He.ba (List.all_eq_true.mp e1 c hc)
  obtain ⟨a2, a⟩ := He.ba a
  obtain ⟨a3, a4⟩ := He.ba a
  exact ⟨_, He.glo_ok X G g, He.cls_ok k, He.eqO_ok a1, He.eqO_ok a2, of_decide_eq_true a3, of_decide_eq_true a4⟩
end
section
variable {P : Program} {w : World} {K : PySem.W.Frag} {mg : Str → Option Value} {base h : Heap} {x nm qual : Str} {params : Arguments} {body : List Stmt} {scope : Scope} {fd : FuncData} {N ps : List Str} {k : Nat} {dsp : DSp} {ds : DS}
/-- a def whose body keeps its promise, by its global name -/
theorem fn_mk (X : K.In h) (G : h.Ns mainGlobals mg) (g : (He.Fa.glo x).ok K = true) (F : FunD K nm qual params body scope [] [] (He.fAd K (x, none)) fd)
    (hb : ∀ (kV doc pm : Value) (an : Option Addr) (cdv ct : Value) (us : List Value), us.length = ps.length → bindArgs (PySem.W.fnOf nm qual params body scope .none kV doc pm an cdv ct) ⟨us, []⟩ = pure (ps.zip us))
    (ok : FnOk P w K mg base (L2N.CX P w) k (He.fAd K (x, none)) fd ps (spOf K mg dsp)) : Fn P w K mg base k x dsp :=
  ⟨_, fd, ps, He.glo_ok X G g, F.kp, F.bindsN hb, ok⟩
theorem fnM_mk {c m : Str} {cs : List Str} {ms : List (Str × Str)} (X : K.In h) (G : h.Ns mainGlobals mg) (g : (He.Fa.glo c).ok K = true) (kc : (He.Fa.cls c).ok K = true) (km : (He.Fa.meth c m).ok K = true) (kk : (He.Fa.mkr c).ok K = true) (e : exE cs ms K = true) (hm : (c, m) ∈ ms)
    (F : FunD K nm qual params body scope [] [] (He.fAd K (c, some m)) fd)
    (hb : ∀ (kV doc pm : Value) (an : Option Addr) (cdv ct : Value) (us : List Value), us.length = ps.length → bindArgs (PySem.W.fnOf nm qual params body scope .none kV doc pm an cdv ct) ⟨us, []⟩ = pure (ps.zip us))
    (ok : FnOk P w K mg base (L2N.CX P w) k (He.fAd K (c, some m)) fd ps (spOf K mg dsp)) : FnM P w K mg base k c m dsp := by
  obtain ⟨m1, m2, m3⟩ := He.meth_ok km
  obtain ⟨k1, k2, k3, k4⟩ := He.mkr_ok kk
  obtain ⟨_, e2⟩ := He.ba e
  exact ⟨_, _, fd, ps, He.glo_ok X G g, He.cls_ok kc, m1, m2, m3, k4, k1, List.all_eq_true.mp e2 (c, m) hm, F.bindsN hb, ok⟩
end
/-! ### an owned list lent as frozen: what comes back holds no list -/
mutual
def noL : D → Bool
  | .tup xs => noLs xs
  | .lst _ => false
  | .scr _ => false
  | .ins _ fs => noLf fs
  | .dT _ => false
  | .dK _ => false
  | .exc _ _ _ _ => false
  | _ => true
def noLs : List D → Bool
  | [] => true
  | d :: r => noL d && noLs r
def noLf : List (Str × D) → Bool
  | [] => true
  | d :: r => noL d.2 && noLf r
end
section
variable {K : PySem.W.Frag} {mg : Str → Option Value} {F : Hp} {a : Addr} {xs : List V}
mutual
theorem Rep.del (h : F a = some (.lst xs)) : ∀ {d : D} {v : V}, Rep K mg F d v → noL d = true → Rep K mg (del F a) d v
  | _, _, .non, _ => .non
  | _, _, .bl b, _ => .bl b
  | _, _, .int i, _ => .int i
  | _, _, .str x, _ => .str x
  | _, _, .tup (a := b) g l, n => .tup (by rw [del_ne (fun z => by rw [z, h] at g; cases g)]; exact g) (RepL.del h l (by simpa [noL] using n))
  | _, _, .ins (a := b) m g l, n => .ins m (by rw [del_ne (fun z => by rw [z, h] at g; cases g)]; exact g) (RepF.del h l (by simpa [noL] using n))
  | _, _, .lst _ _, n => by simp [noL] at n
  | _, _, .scr _ _, n => by simp [noL] at n
  | _, _, .dT _ _, n => by simp [noL] at n
  | _, _, .dK _ _, n => by simp [noL] at n
  | _, _, .exc0, n => by simp [noL] at n
  | _, _, .exc _ _, n => by simp [noL] at n
theorem RepL.del (h : F a = some (.lst xs)) : ∀ {d : List D} {v : List V}, RepL K mg F d v → noLs d = true → RepL K mg (del F a) d v
  | _, _, .nil, _ => .nil
  | _, _, .cons g l, n => by
    simp [noLs] at n
    exact .cons (Rep.del h g n.1) (RepL.del h l n.2)
theorem RepF.del (h : F a = some (.lst xs)) : ∀ {d : List (Str × D)} {v : List (Str × V)}, RepF K mg F d v → noLf d = true → RepF K mg (del F a) d v
  | _, _, .nil, _ => .nil
  | _, _, .cons g l, n => by
    simp [noLf] at n
    exact .cons (Rep.del h g n.1) (RepF.del h l n.2)
end
end
def noO : Sl → Bool
  | .ow _ (.lst xs) => noLs xs
  | .ow _ (.ins _ fs) => noLf fs
  | .ow _ _ => false
  | _ => true
def dBor (j : Nat) (a : DE) : DE := fun Ē e Q => match e[j]? with
  | some (.ow b (.lst xs)) => (e.set j .no).all noO = true ∧ a X0 (e.set j (.fr (.lst xs))) fun d e1 => noL d = true ∧ e1 = e.set j (.fr (.lst xs)) ∧ Q d e
  | some _ => a Ē e Q
  | none => False
theorem se_bor {E : L2.St → XK} {K : PySem.W.Frag} {mg : Str → Option Value} {te : TE} {de : DE} (j : Nat) (h : SE K mg E te de) : SE K mg E te (dBor j de) := by
  intro B G F H e σ Ē Q' Q k x hh q
  unfold dBor at hh
  split at hh
  · rename_i b xs he
    obtain ⟨hall, hh⟩ := hh
    obtain ⟨a, u, h1, h2, h3, h4, h5, h6⟩ := k.ow j b _ he
    cases h5 with
    | @lst _ vs rl =>
    have hjl : j < e.length := (List.getElem?_eq_some_iff.mp he).1
    have m0 : Same F (upd F a (.lst vs)) := same_new h2
    have k0 : Ok K mg B G (upd F a (.lst vs)) H (e.set j (.fr (.lst xs))) σ := by
      refine ⟨fun c w hc => ?_, k.gh, by rw [List.length_set]; exact k.len, fun i d hi => ?_, fun i c w hi => ?_, fun i i' c c' w w' y hi hi' s1 s2 => ?_⟩
      · by_cases z : c = a
        · subst z; rw [upd_same] at hc; cases hc; exact h4
        · rw [upd_ne z] at hc; exact k.fh c w hc
      · by_cases z : j = i
        · subst z
          rw [List.getElem?_set_self hjl] at hi
          cases hi
          exact ⟨_, h1, .lst upd_same (rl.mono m0)⟩
        · rw [List.getElem?_set_ne z] at hi
          obtain ⟨v, p1, p2⟩ := k.fr i d hi
          exact ⟨v, p1, p2.mono m0⟩
      · by_cases z : j = i
        · subst z
          rw [List.getElem?_set_self hjl] at hi
          cases hi
        · rw [List.getElem?_set_ne z] at hi
          obtain ⟨y, uy, p1, p2, p3, p4, p5, p6⟩ := k.ow i c w hi
          refine ⟨y, uy, p1, ?_, p3, p4, p5.mono m0, p6⟩
          rw [upd_ne fun zz => by rw [zz] at p1; exact z (k.ap _ _ _ _ _ _ _ he hi h1 p1)]
          exact p2
      · have key : ∀ {i : Nat} {c : Bool} {w : O}, (e.set j (.fr (.lst xs)))[i]? = some (.ow c w) → e[i]? = some (.ow c w) := fun {i c w} h => by
          by_cases z : j = i
          · subst z
            rw [List.getElem?_set_self hjl] at h
            cases h
          · rw [List.getElem?_set_ne z] at h
            exact h
        exact k.ap _ _ _ _ _ _ _ (key hi) (key hi') s1 s2
    refine h B G (upd F a (.lst vs)) H _ σ X0 _ _ k0 (fun e' c fs u ad F' H' z => z.elim) hh fun d e1 v F' H' ⟨hn, he1, hq⟩ m1 k1 r1 => ?_
    subst he1
    have hFa : F' a = some (.lst vs) := m1.ff _ _ upd_same
    have m2 : Same F (del F' a) := fun c w hc => by
      have z : c ≠ a := fun z => by rw [z, h2] at hc; cases hc
      rw [del_ne z]
      exact m1.ff c w (m0 c w hc)
    have mv : Mv G F (del F' a) := ⟨m2, fun c w hc => by
      have z : c ≠ a := fun z => by rw [z, h3] at hc; cases hc
      rw [del_ne z, m1.out c w hc, upd_ne z]⟩
    refine q d e v (del F' a) H' hq mv ⟨fun c w hc => ?_, k1.gh, k.len, fun i d hi => ?_, fun i c w hi => ?_, k.ap⟩ (r1.del hFa hn)
    · by_cases z : c = a
      · rw [z, del_same] at hc; cases hc
      · rw [del_ne z] at hc; exact k1.fh c w hc
    · obtain ⟨v, p1, p2⟩ := k.fr i d hi
      exact ⟨v, p1, p2.mono m2⟩
    · by_cases z : j = i
      · subst z
        rw [he] at hi
        cases hi
        exact ⟨a, .lst vs, h1, del_same, h3, k1.fh _ _ hFa, .lst (rl.mono m2), h6⟩
      · have hi1 : (e.set j (.fr (.lst xs)))[i]? = some (.ow c w) := by rw [List.getElem?_set_ne z]; exact hi
        obtain ⟨y, uy, p1, p2, p3, p4, p5, p6⟩ := k1.ow i c w hi1
        have ne : y ≠ a := fun zz => by
          rw [zz] at p1
          exact z (k.ap _ _ _ _ _ _ _ he hi h1 p1)
        have hno : noO (.ow c w) = true := by
          have hi2 : (e.set j .no)[i]? = some (.ow c w) := by rw [List.getElem?_set_ne z]; exact hi
          exact List.all_eq_true.mp hall _ (List.mem_of_getElem? hi2)
        refine ⟨y, uy, p1, by rw [del_ne ne]; exact p2, p3, p4, ?_, p6⟩
        cases p5 with
        | lst r => exact .lst (r.del hFa hno)
        | ins mm r => exact .ins mm (r.del hFa hno)
        | dT r => cases hno
        | dK r => cases hno
  · exact h B G F H e σ Ē Q' Q k x hh q
  · exact hh.elim
theorem pd_bor {E : L2.St → XK} {X : Cx} {ι : Type} {v : ι → Vy} {a : Expr} {de : DE} (j : Nat) (h : PD X v E a de) : PD X v E a (dBor j de) := by
  obtain ⟨t, ht, st⟩ := h.ex
  exact ⟨t, ht, se_bor j st⟩
end DL

set_option Elab.async false
set_option linter.all false
set_option maxRecDepth 100000
set_option maxHeartbeats 4000000
/-! min(.., default=d) of a list of ints. By an AI agent. -/
namespace DLMin
open PySem PyProof.Rows
theorem nmL : (toString "min" ++ toString ".loop" : String) = "min.loop" := by decide
theorem argsD (a v : Value) : argsOk "min" ⟨[a], [(Str.ofString "default", v)]⟩ := by unfold argsOk; kernel_rfl
section
variable {prog : Program} {w : World} {A : Around} {R : Result → Shared → Prop} {I : Addr} {fp wr : List Addr} {n : Nat} {P : Nat → Value → Prop} {St : Nat → Heap → Prop} {kw : List (Str × Value)}
theorem loop (W : Walks prog w A.in1 I fp wr n P St) (lt : Nat → Nat → Bool) (cmp : CmpOf prog w A.in1 .Lt P lt) (L : Addr) (hL : L ∉ fp) : ∀ (m i : Nat) (s : Shared) (b : Value) (ep : Nat), n - (i + 1) = m → i + 1 ≤ n → St (i + 1) s.heap → P (argBest lt i) b →
    s.heap.get? L = some { cls := .type "list", dict := none, data := .seq #[b, b] ep, slots := #[] } →
    (∀ v h t, P (argBest lt (n - 1)) v → (∀ c o, c ∉ wr → c ≠ L → s.heap.get? c = some o → h.get? c = some o) → R (.ok (.ret v)) { s with heap := h, toks := t }) →
    codeAny (model prog w) A (.builtin "min.loop" ⟨[.ref I, .none, .ref L], kw⟩) R s := by
  have hw : L ∉ wr := fun h => hL (W.sub _ h)
  intro m
  induction m with
  | zero =>
    intro i s b ep hm hi st pb gl fin
    have ei : i + 1 = n := by omega
    refine codeAny_builtin PySem.F.entry_min_loop ?_
    rw [Around.under_plainId PySem.F.plain_min_loop _]
    show wpAny _ A.in1 (seqItems? (.ref L) >>= _) _ _ s
    refine wpAny_bind (wpAny_seqItems gl rfl ?_)
    show wpAny _ A.in1 (tryCatch (pyNext (.ref I)) _ >>= _) _ _ s
    refine wpAny_bind (wpAny_tryCatch (W.done s _ _ (ei ▸ st) fun h t kp => ?_))
    have gl' := kp L _ hw gl
    show wpAny _ A.in1 (updateSeq L (fun _ => #[]) >>= _) _ _ _
    refine wpAny_bind (wpAny_updateSeq gl' rfl (wpAny_bind (wpAny_letGo (wpAny_pure ?_))))
    refine fin b _ t (by rw [← ei]; exact pb) fun c o h1 h2 e => ?_
    exact (Heap.get?_update_other _ _ (Ne.symm h2)).trans (kp c o h1 e)
  | succ m ih =>
    intro i s b ep hm hi st pb gl fin
    have ei : i + 1 < n := by omega
    refine codeAny_builtin PySem.F.entry_min_loop ?_
    rw [Around.under_plainId PySem.F.plain_min_loop _]
    show wpAny _ A.in1 (seqItems? (.ref L) >>= _) _ _ s
    refine wpAny_bind (wpAny_seqItems gl rfl ?_)
    show wpAny _ A.in1 (tryCatch (pyNext (.ref I)) _ >>= _) _ _ s
    refine wpAny_bind (wpAny_tryCatch (W.item (i + 1) s _ _ ei st fun v h t pv st' kp => ?_))
    have gl' := kp L _ hw gl
    show wpAny _ A.in1 (tryCatch (holding [v, v] (richCompare .Lt v b >>= _)) _ >>= _) _ _ _
    refine wpAny_bind (wpAny_tryCatch (wpAny_holding (wpAny_bind (cmp (i + 1) (argBest lt i) v b _ _ _ pv pb ?_))))
    refine wpAny_bind (wpAny_holding (wpAny_truthy_bool ?_))
    refine wpAny_bind (wpAny_letGo (wpAny_pure ?_))
    cases q : lt (i + 1) (argBest lt i) with
    | true =>
      simp only [if_true]
      refine wpAny_bind (wpAny_updateSeq gl' rfl (wpAny_bind (wpAny_letGo ?_)))
      rw [nmL]
      have nb : ∀ c ∈ fp, L ≠ c := fun c hc z => hL (by rw [z]; exact hc)
      refine wpAny_pure ⟨plainId_quiet PySem.F.plain_min_loop _, ih (i + 1) _ v _ (by omega) ei (W.frame _ _ _ st' fun c hc o e => (Heap.get?_update_other _ _ (nb c hc)).trans e) ?_ (Heap.get?_update_self _ gl' rfl) fun u h2 t2 pu kp2 => ?_⟩
      · simp only [argBest, q, if_true]; exact pv
      · exact fin u h2 t2 pu fun c o h1 h2 e => kp2 c o h1 h2 ((Heap.get?_update_other _ _ (Ne.symm h2)).trans (kp c o h1 e))
    | false =>
      simp only [Bool.false_eq_true, if_false]
      refine wpAny_bind (wpAny_letGo ?_)
      rw [nmL]
      refine wpAny_pure ⟨plainId_quiet PySem.F.plain_min_loop _, ih (i + 1) _ b ep (by omega) ei st' ?_ gl' fun u h2 t2 pu kp2 => ?_⟩
      · simp only [argBest, q, Bool.false_eq_true, if_false]; exact pb
      · exact fin u h2 t2 pu fun c o h1 h2 e => kp2 c o h1 h2 (kp c o h1 e)
theorem loop0 (W : Walks prog w A.in1 I fp wr n P St) (lt : Nat → Nat → Bool) (cmp : CmpOf prog w A.in1 .Lt P lt) (L : Addr) (hL : L ∉ fp) {s : Shared} {ep : Nat} {k d} (st : St 0 s.heap) (gl : s.heap.get? L = some { cls := .type "list", dict := none, data := .seq #[] ep, slots := #[] })
    (fin0 : n = 0 → ∀ h t, (∀ c o, c ∉ wr → s.heap.get? c = some o → h.get? c = some o) → R (.ok (.ret d)) { s with heap := h, toks := t })
    (fin : 0 < n → ∀ v h t, P (argBest lt (n - 1)) v → (∀ c o, c ∉ wr → c ≠ L → s.heap.get? c = some o → h.get? c = some o) → R (.ok (.ret v)) { s with heap := h, toks := t }) :
    codeAny (model prog w) A (.builtin "min.loop" ⟨[.ref I, .none, .ref L], [(k, d)]⟩) R s := by
  have hw : L ∉ wr := fun h => hL (W.sub _ h)
  refine codeAny_builtin PySem.F.entry_min_loop ?_
  rw [Around.under_plainId PySem.F.plain_min_loop _]
  show wpAny _ A.in1 (seqItems? (.ref L) >>= _) _ _ s
  refine wpAny_bind (wpAny_seqItems gl rfl ?_)
  show wpAny _ A.in1 (tryCatch (pyNext (.ref I)) _ >>= _) _ _ s
  by_cases hn : n = 0
  · refine wpAny_bind (wpAny_tryCatch (W.done s _ _ (hn ▸ st) fun h t kp => ?_))
    show wpAny _ A.in1 (rule _ >>= _) _ _ _
    exact wpAny_bind (wpAny_rule (wpAny_pure (fin0 hn h t kp)))
  · have hn : 0 < n := Nat.pos_of_ne_zero hn
    refine wpAny_bind (wpAny_tryCatch (W.item 0 s _ _ hn st fun v h t pv st' kp => ?_))
    have gl' := kp L _ hw gl
    show wpAny _ A.in1 (updateSeq L (fun _ => #[v, v]) >>= _) _ _ _
    refine wpAny_bind (wpAny_updateSeq gl' rfl ?_)
    rw [nmL]
    have nb : ∀ c ∈ fp, L ≠ c := fun c hc z => hL (by rw [z]; exact hc)
    refine wpAny_pure ⟨plainId_quiet PySem.F.plain_min_loop _, loop W lt cmp L hL _ 0 _ v _ rfl hn (W.frame _ _ _ st' fun c hc o e => (Heap.get?_update_other _ _ (nb c hc)).trans e) pv (Heap.get?_update_self _ gl' rfl) fun u h2 t2 pu kp2 => ?_⟩
    exact fin hn u h2 t2 pu fun c o h1 h2 e => kp2 c o h1 h2 ((Heap.get?_update_other _ _ (Ne.symm h2)).trans (kp c o h1 e))
end
section
variable {prog : Program} {w : World} {A : Around} {E : Value → Shared → Prop} {s : Shared} {l : Addr} {its : List Value} {ns : List Int}
theorem raw {d : Value} {Q : Value → Shared → Prop} (hh : A.handled = none) (hl : s.heap.IsList l its.toArray) (hi : IntsAre its ns)
    (h0 : ns = [] → ∀ h t, (∀ b o, s.heap.get? b = some o → h.get? b = some o) → Q d { s with heap := h, toks := t })
    (h : ∀ h' tk M t', (∀ b o, s.heap.get? b = some o → h'.get? b = some o) → M ∈ ns → (∀ a, a ∈ ns → M ≤ a) → Q (.int M t') { s with heap := h', toks := tk }) :
    wpAny (model prog w) A (call (.builtin "min") [.ref l] [(Str.ofString "default", d)]) Q E s := by
  obtain ⟨xs, e⟩ := hi.allInts.items
  have hn : numsOf (intItems xs).toList = ns := by rw [← e]; exact hi.numsOf
  rw [nums_intItems] at hn
  subst hn
  rw [e] at hl
  refine kmk_tree PySem.F.kind_min PySem.F.plain_min PySem.F.entry_min (argsD _ _) ?_
  show wpAny _ A.in1 (Builtin.Builtins.bindParams "min" ["key", "default"] 0 ⟨[], [(Str.ofString "default", d)]⟩ >>= _) _ _ s
  refine wpAny_bind (wpAny_of_eq (show Builtin.Builtins.bindParams "min" ["key", "default"] 0 ⟨[], [(Str.ofString "default", d)]⟩ = pure [none, some d] from rfl) ?_)
  refine wpAny_bind (wpAny_pure ?_)
  refine wpAny_bind (iter_intList hl fun s₂ e st hfp hlI => ?_)
  subst e
  refine wpAny_bind (wpAny_newObj_type ?_)
  have W := Walks.list (prog := prog) (w := w) (A := A.in1) hh _ l hlI (intItems xs)
  rw [nmL]
  have hL : (s.heap.push { cls := .type "list_iterator", data := .fields #[.ref l, .int 0 0] }).objs.size ∉ [s.heap.objs.size, l] := fun hm => Nat.lt_irrefl _ (hfp _ hm)
  refine wpAny_pure ⟨plainId_quiet PySem.F.plain_min_loop _, loop0 W _ (CmpOf.ints_lt (numAt xs) (fun _ _ => intItems_at)) _ hL (W.frame _ _ _ st fun b _ o e => Heap.get?_push_of_some _ e) (Heap.get?_push_size _ rfl) (fun h1 h2 t2 kp => ?_) fun hz v h2 t2 pv kp => ?_⟩
  · refine h0 ?_ h2 t2 (old_kept fun b o hb e => kp b o hb (Heap.get?_push_of_some _ e))
    have : xs.size = 0 := by simpa [intItems] using h1
    have : xs = #[] := Array.size_eq_zero_iff.mp this
    subst this
    rfl
  · obtain ⟨t, rfl⟩ := intItems_at pv
    have hz : 0 < xs.size := by simpa [intItems] using hz
    have e0 : (intItems xs).size = xs.size := by simp [intItems]
    obtain ⟨h3, h4⟩ := PySem.argBest_lt (numAt xs) (xs.size - 1)
    rw [e0] at pv ⊢
    refine h h2 t2 _ t (old_kept fun b o hb e => kp b o hb (Nat.ne_of_lt (Heap.lt_size e)) (Heap.get?_push_of_some _ e)) ?_ fun a ha => ?_
    · rw [PySem.numAt_eq]; exact PySem.getD_mem (by rw [List.length_map, Array.length_toList]; omega)
    · obtain ⟨j, hj, rfl⟩ := PySem.mem_getD ha
      rw [List.length_map, Array.length_toList] at hj
      rw [← PySem.numAt_eq]; exact h4 j (by omega)
end
end DLMin
namespace DL
open PySem PySem.Spec PyProof.Rows L2
def rMinD (K : PySem.W.Frag) : List V → List V → Hp → VK → Prop := fun vs zs H Q => ∃ (a : Addr) (ns : List Int) (z : Int), vs = [V.ref a] ∧ zs = [.int z] ∧ SqL K H a (ns.map V.int) ∧ (ns = [] → Q (.int z) H) ∧ ∀ m, m ∈ ns → (∀ y, y ∈ ns → m ≤ y) → Q (.int m) H
theorem cr_minD {X : Cx} (hc : X.calm = true) : CallRK X (.builtin "min") [Str.ofString "default"] (rMinD X.K) := by
  intro pins s σ H vs zs us ws Q I r rz h
  obtain ⟨a, ns, z, rfl, rfl, hs, q0, q⟩ := h
  obtain ⟨its, rv, hl, _⟩ := I.list hs
  rw [Vals.ref1 r]
  cases rz with
  | cons r1 r2 =>
    cases r2
    obtain ⟨t, rfl⟩ := r1
    exact DLMin.raw (I.ok.hd hc) hl.isList rv.ints (fun e h t2 hk => ⟨.int _, H, I.kept hk, ⟨_, rfl⟩, q0 e⟩) fun h' tk m t' hk h1 h2 => ⟨.int _, H, I.kept hk, ⟨_, rfl⟩, q m h1 h2⟩
def minD (z : Int) : List Int → Int
  | [] => z
  | n :: ns => minI (n :: ns)
def dMinD (a d : DE) : DE := fun Ē e Q => a Ē e fun x e1 => d Ē e1 fun y e2 => match x, y with
  | .lst xs, .int z => (match D.ints xs with
    | some ns => Q (.int (minD z ns)) e2
    | none => False)
  | _, _ => False
theorem pd_minD {X : Cx} {ι : Type} {v : ι → Vy} {E : L2.St → XK} {k : Nat} {a d : Expr} {da dd : DE} {p pos kp : Pos} (g : Good X k) (hm : X.mg "min" = none) (ha : PD X v E a da) (hd : PD X v E d dd) (hg : ∀ ii, Gl (X.atV (v ii)) "min" := by intro _; rfl)
    (he1 : ∀ ii, starEach [a] (v ii).env = (false, eval a (v ii).env) :: starEach [] (v ii).env := by intro _; rfl)
    (he : ∀ ii, backTo pos (starEach [a] (v ii).env) = (false, eval a (v ii).env) :: backTo pos (starEach [] (v ii).env) := by intro _; rfl) (hpl : ∀ ii, (backTo pos (starEach [a] (v ii).env)).any (·.1) = false := by intro _; rfl)
    (hall : ∀ ii, (backToKw pos (keywordEach [⟨some "default", d, kp⟩] (v ii).env)).all (·.1.isSome) = true := by intro _; rfl) (hnone : ∀ ii, (backToKw pos (keywordEach [⟨some "default", d, kp⟩] (v ii).env)).any (·.1.isNone) = false := by intro _; rfl)
    (hks : ∀ ii, (backToKw pos (keywordEach [⟨some "default", d, kp⟩] (v ii).env)).filterMap (·.1) = [Str.ofString "default"] := by intro _; rfl) :
    PD X v E (.Call (.Name "min" p) [a] [⟨some "default", d, kp⟩] pos) (dMinD da dd) := by
  obtain ⟨ta, ha, sa⟩ := ha.ex
  obtain ⟨td, hd, sd⟩ := hd.ex
  refine ⟨_, fun ii => pe_callBK (id := "min") (r := rMinD X.K) (X := X.atV (v ii)) (cr_minD (X := X.atV (v ii)) g.calm) (hg ii) hm (by kernel_rfl) (pa_cons (ha ii) pa_nil (he1 ii)) (pk_cons (hd ii) pk_nil) (by decide) (by decide) (he ii) (hpl ii) (hall ii) (hnone ii) (hks ii), ?_⟩
  intro B G F H e σ Ē Q' Q k x h q
  refine sa B G F H e σ Ē _ _ k x h fun d1 e1 v1 F1 H1 h1 m1 k1 r1 => ?_
  refine sd B G F1 H1 e1 σ Ē _ _ k1 (x.mv m1) h1 fun d2 e2 v2 F2 H2 h2 m2 k2 r2 => ?_
  have r1 := r1.mono m2.ff
  split at h2
  · split at h2
    · rename_i ns en
      obtain ⟨a, rfl, hl⟩ := lst_ints k2.fh r1 en
      cases r2
      refine ⟨a, ns, _, rfl, rfl, hl, fun e0 => ?_, fun m hm' hle => ?_⟩
      · subst e0
        exact q _ e2 _ F2 H2 h2 (m1.trans m2) k2 (.int _)
      · cases ns with
        | nil => cases hm'
        | cons n ns =>
          have e : m = minI (n :: ns) := by
            have h1 := foldl_min_le ns n m hm'
            have h2 := hle _ (foldl_min_mem ns n)
            show m = ns.foldl min n
            omega
          rw [e]
          exact q _ e2 _ F2 H2 h2 (m1.trans m2) k2 (.int _)
    · exact h2.elim
  · exact h2.elim
end DL

set_option Elab.async false
set_option linter.all false
set_option maxRecDepth 100000
set_option maxHeartbeats 8000000
/-! comprehensions with two clauses. By an AI agent. -/
namespace DL
open PySem PySem.Spec PyProof.Rows L2
def lc2In (g : DG) (dt : DT) (de : DE) (vs : List Nat) (Nx : List D → DEnv → Prop) : List D → List D → DEnv → Prop
  | [], acc, e => Nx acc e
  | d :: ds, acc, e => g d e fun e1 => dt X0 e1 fun b e2 => if b = true then de X0 e2 fun y e3 => acc.length < sizeLine ∧ lc2In g dt de vs Nx ds (acc ++ [y]) (wipeE vs e3) else lc2In g dt de vs Nx ds acc (wipeE vs e2)
def lc2Go (g : DG) (dt : DT) (di1 : DI) (g1 : DG) (dt1 : DT) (de : DE) (vs vs1 : List Nat) (Q : List D → DEnv → Prop) : List D → List D → DEnv → Prop
  | [], acc, e => Q acc e
  | d :: ds, acc, e => g d e fun e1 => dt X0 e1 fun b e2 => if b = true then di1 X0 e2 fun ds1 e3 => lc2In g1 dt1 de vs1 (fun acc e4 => lc2Go g dt di1 g1 dt1 de vs vs1 Q ds acc (wipeE vs e4)) ds1 acc (wipeE vs1 e3) else lc2Go g dt di1 g1 dt1 de vs vs1 Q ds acc (wipeE vs e2)
def dLc2 (di : DI) (g : DG) (dt : DT) (di1 : DI) (g1 : DG) (dt1 : DT) (de : DE) (vs vs1 : List Nat) : DN := fun Ē e Q => di Ē e fun ds e1 => notOwn vs e1 = true ∧ lc2Go g dt di1 g1 dt1 de vs vs1 (fun acc e2 => Q (.lst acc) (backE vs e1 e2)) ds [] (wipeE vs e1)
theorem wipe_wipe {σ : L2.St} {vs1 vs : List Nat} (h : ∀ i ∈ vs1, i ∈ vs) : wipe (wipe σ vs1) vs = wipe σ vs := by
  apply List.ext_getElem?
  intro i
  rw [wipeV_get, wipeV_get, wipe_length, wipeV_get]
  by_cases hi : i ∈ vs ∧ i < σ.length
  · rw [if_pos hi, if_pos hi]
  · rw [if_neg hi, if_neg hi, if_neg]
    exact fun z => hi ⟨h i z.1, z.2⟩
theorem wipe_turn {σ σ4 : L2.St} {vs js : List Nat} (l4 : σ4.length = σ.length) (hj : ∀ j ∈ js, j ∈ vs) (p : ∀ j, j ∉ js → σ4[j]? = (wipe σ vs)[j]?) : wipe σ4 vs = wipe σ vs := by
  apply List.ext_getElem?
  intro j
  rw [wipeV_get, wipeV_get, l4]
  by_cases hjv : j ∈ vs
  · by_cases hjl : j < σ.length
    · rw [if_pos ⟨hjv, hjl⟩, if_pos ⟨hjv, hjl⟩]
    · rw [if_neg (fun z => hjl z.2), if_neg (fun z => hjl z.2), List.getElem?_eq_none (by omega), List.getElem?_eq_none (by omega)]
  · rw [if_neg (fun z => hjv z.1), if_neg (fun z => hjv z.1), p j (fun z => hjv (hj j z)), wipeV_get, if_neg (fun z => hjv z.1)]
/-- the list under way at p -/
def Held (K : PySem.W.Frag) (mg : Str → Option Value) (B : Nat → Option Addr) (G F1 : Hp) (p : Addr) (σ : L2.St) (acc : List D) (e : DEnv) (H : Hp) : Prop :=
  ∃ av F', H p = some (.lst av) ∧ RepL K mg F' acc av ∧ Mv (upd G p (.lst av)) F1 F' ∧ F' p = none ∧ Ok K mg B (upd G p (.lst av)) F' H e σ
theorem mvG {G F F' : Hp} {p : Addr} {u w : HO} (m : Mv (upd G p u) F F') (z : F' p = F p) : Mv (upd G p w) F F' := ⟨m.ff, fun b o hb => by
  by_cases q : b = p
  · rw [q]; exact z
  · exact m.out b o (by rw [upd_ne q] at hb ⊢; exact hb)⟩
theorem sn_lc2 {K : PySem.W.Frag} {mg : Str → Option Value} {E E2 : L2.St → XK} {wi wi1 : TI} {di di1 : DI} {g g1 : TG} {dg dg1 : DG} {js js1 : List Nat} {tt tt1 : TT} {dt dt1 : DT} {te : TE} {de : DE} {vs vs1 : List Nat} (hi : SI K mg E wi di) (hg : SG (K := K) (mg := mg) js g dg) (hj : ∀ j ∈ js, j ∈ vs) (ht : ST K mg E2 tt dt)
    (hi1 : SI K mg E2 wi1 di1) (hg1 : SG (K := K) (mg := mg) js1 g1 dg1) (hj1 : ∀ j ∈ js1, j ∈ vs1) (hv : ∀ j ∈ vs1, j ∈ vs) (ht1 : ST K mg E2 tt1 dt1) (he : SE K mg E2 te de) :
    SN K mg E (tLc2 wi g tt wi1 g1 tt1 te vs vs1) (dLc2 di dg dt di1 dg1 dt1 de vs vs1) := fun B G F H e σ Ē Q' Q k x h q =>
  hi B G F H e σ Ē _ _ k x h fun ds e1 J F1 H1 ⟨hno, h1⟩ m1 k1 w1 p hp => by
    have hGp : G p = none := k1.gh.free hp
    have hFp : F1 p = none := k1.fh.free hp
    have f1 := fresh_new (u := .lst []) k1 hp
    let go := lc2Go dg dt di1 dg1 dt1 de vs vs1 (fun acc e2 => Q' (.lst acc) (backE vs e1 e2))
    refine ⟨fun i m H' => m = ds.length - i ∧ i ≤ ds.length ∧ ∃ acc e', Held K mg B G F1 p (wipe σ vs) acc e' H' ∧ go (ds.drop i) acc e', ⟨ds.length, by simp, Nat.zero_le _, [], wipeE vs e1, ⟨[], F1, upd_same, .nil, Mv.refl, hFp, ?_⟩, h1⟩, ?_⟩
    · have k2 : Ok K mg B G F1 (upd H1 p (.lst [])) e1 σ := k1.grow (Gr.loose k1.fh hp)
      have k3 : Ok K mg B (upd G p (.lst [])) F1 (upd H1 p (.lst [])) e1 σ := k2.hold hGp hFp upd_same f1.2.2.2
      exact k3.wiped vs
    rintro i m H' ⟨rfl, hil, acc, e', ⟨av, F', hH', la, m2, hF', k2⟩, h2⟩
    by_cases hlt : i < ds.length
    · obtain ⟨d, hd⟩ : ∃ d, ds[i]? = some d := ⟨ds[i], by simp [hlt]⟩
      refine .inr ⟨w1.goes i H' hlt (m2.ff.trans k2.fh), fun H3 => ∃ acc e3, Held K mg B G F1 p (wipe σ vs) acc e3 H3 ∧ go (ds.drop (i + 1)) acc e3, fun H3 hh => ⟨ds.length - (i + 1), by omega, rfl, by omega, hh⟩, fun w H3 y => ?_⟩
      obtain ⟨d', F3, hd', g3, r3⟩ := w1.yields i H' w H3 F' hlt m2.ff k2.fh y
      rw [hd] at hd'
      cases hd'
      rw [drop_get hd] at h2
      have k3 := k2.grow g3
      have m3 : Mv (upd G p (.lst av)) F1 F3 := m2.trans (k2.mv g3)
      have hF3 : F3 p = none := by rw [g3.nw p _ hH']; exact hF'
      refine hg B (upd G p (.lst av)) F3 H3 e' (wipe σ vs) d w _ _ k3 r3 h2 fun e4 σ4 h4 k4 p4 => ?_
      have hw4 : wipe σ4 vs = wipe σ vs := wipe_turn (p4.1.trans (wipe_length ..)) hj p4.2
      refine ⟨hw4, ht B _ F3 H3 e4 σ4 X0 _ _ k4 x0 h4 fun b e5 F5 H5 h5 m5 k5 => ?_⟩
      have hF5 : F5 p = none := by rw [m5.out p (.lst av) upd_same]; exact hF3
      have la5 := la.mono ((k2.mv g3).ff.trans m5.ff)
      cases b with
      | false =>
        have k6 := k5.wiped vs
        rw [hw4] at k6
        exact ⟨acc, _, ⟨av, F5, k5.gh _ _ upd_same, la5, m3.trans m5, hF5, k6⟩, h5⟩
      | true =>
        refine hi1 B _ F5 H5 e5 σ4 X0 _ _ k5 x0 h5 fun ds1 e6 J1 F6 H6 h6 m6 k6 w6 => ?_
        have hF6 : F6 p = none := by rw [m6.out p (.lst av) upd_same]; exact hF5
        have m6' : Mv (upd G p (.lst av)) F1 F6 := (m3.trans m5).trans m6
        let inn := lc2In dg1 dt1 de vs1 (fun acc e4 => go (ds.drop (i + 1)) acc (wipeE vs e4))
        refine ⟨fun j m H' => m = ds1.length - j ∧ j ≤ ds1.length ∧ ∃ acc e', Held K mg B G F6 p (wipe σ4 vs1) acc e' H' ∧ inn (ds1.drop j) acc e', ⟨ds1.length, by simp, Nat.zero_le _, acc, wipeE vs1 e6, ⟨av, F6, k6.gh _ _ upd_same, la5.mono m6.ff, Mv.refl, hF6, k6.wiped vs1⟩, h6⟩, ?_⟩
        rintro j m H7 ⟨rfl, hjl, acc, e7, ⟨av, F7, hH7, la7, m7, hF7, k7⟩, h7⟩
        by_cases hlt1 : j < ds1.length
        · obtain ⟨d1, hd1⟩ : ∃ d, ds1[j]? = some d := ⟨ds1[j], by simp [hlt1]⟩
          refine .inr ⟨w6.goes j H7 hlt1 (m7.ff.trans k7.fh), fun H3 => ∃ acc e3, Held K mg B G F6 p (wipe σ4 vs1) acc e3 H3 ∧ inn (ds1.drop (j + 1)) acc e3, fun H3 hh => ⟨ds1.length - (j + 1), by omega, rfl, by omega, hh⟩, fun w H8 y => ?_⟩
          obtain ⟨d', F8, hd', g8, r8⟩ := w6.yields j H7 w H8 F7 hlt1 m7.ff k7.fh y
          rw [hd1] at hd'
          cases hd'
          rw [drop_get hd1] at h7
          have k8 := k7.grow g8
          have m8 : Mv (upd G p (.lst av)) F6 F8 := m7.trans (k7.mv g8)
          have hF8 : F8 p = none := by rw [g8.nw p _ hH7]; exact hF7
          refine hg1 B (upd G p (.lst av)) F8 H8 e7 (wipe σ4 vs1) d1 w _ _ k8 r8 h7 fun e9 σ9 h9 k9 p9 => ?_
          have hw9 : wipe σ9 vs1 = wipe σ4 vs1 := wipe_turn (p9.1.trans (wipe_length ..)) hj1 p9.2
          refine ⟨hw9, ht1 B _ F8 H8 e9 σ9 X0 _ _ k9 x0 h9 fun b e10 F10 H10 h10 m10 k10 => ?_⟩
          have hF10 : F10 p = none := by rw [m10.out p (.lst av) upd_same]; exact hF8
          have la10 := la7.mono ((k7.mv g8).ff.trans m10.ff)
          cases b with
          | false =>
            have k11 := k10.wiped vs1
            rw [hw9] at k11
            exact ⟨acc, _, ⟨av, F10, k10.gh _ _ upd_same, la10, m8.trans m10, hF10, k11⟩, h10⟩
          | true =>
            refine he B _ F10 H10 e10 σ9 X0 _ _ k10 x0 h10 fun yd e11 yv F11 H11 ⟨hz, h11⟩ m11 k11 r11 => ?_
            have hF11 : F11 p = none := by rw [m11.out p (.lst av) upd_same]; exact hF10
            have m12 : Mv (upd G p (.lst av)) F6 F11 := (m8.trans m10).trans m11
            have la11 := la10.mono m11.ff
            refine ⟨av, k11.gh _ _ upd_same, by rw [← la11.length]; exact hz, acc ++ [yd], _, ⟨av ++ [yv], F11, upd_same, la11.append (.cons r11 .nil), mvG m12 (by rw [hF11, hF6]), hF11, ?_⟩, h11⟩
            have k12 := (k11.turn (w := .lst (av ++ [yv])) hF11).wiped vs1
            rw [hw9] at k12
            exact k12
        · have ej : j = ds1.length := by omega
          subst ej
          rw [List.drop_length] at h7
          refine .inl ⟨w6.stops H7 (m7.ff.trans k7.fh), acc, _, ⟨av, F7, hH7, la7, (mvG m6' (by rw [hF6, hFp])).trans m7, hF7, ?_⟩, h7⟩
          have k12 := k7.wiped vs
          rw [wipe_wipe hv, hw4] at k12
          exact k12
    · have e : i = ds.length := by omega
      subst e
      rw [List.drop_length] at h2
      refine .inl ⟨w1.stops H' (m2.ff.trans k2.fh), ?_⟩
      have k3 := k2.let hGp
      have m3 : Mv G F1 F' := ⟨m2.ff, fun b o hb => m2.out b o (by rw [upd_ne (fun z => by rw [z, hGp] at hb; cases hb)]; exact hb)⟩
      have k4 := Ok.back k1 hno m2.ff k3
      refine q _ _ p (.lst av) F' H' h2 (m1.trans m3) k4 ⟨hF', hGp, hH', fun j b o hj hs => ?_⟩ (.lst la)
      have hl : e1.length = e'.length := by rw [k1.len, k3.len, wipe_length]
      rw [back_get _ _ hl] at hj
      split at hj
      · rename_i z
        have := List.all_eq_true.mp hno j z
        rw [hj] at this
        cases this
      · rename_i z
        obtain ⟨a, u, q1, q2, q3, q4, _⟩ := k2.ow j b o hj
        rw [wipeV_get, if_neg (fun y => z y.1), hs] at q1
        cases q1
        rw [upd_same] at q3
        cases q3
section
variable {X : Cx} {ι : Type} {v : ι → Vy} {E E2 : L2.St → XK} {k : Nat} {a b c tg iter tg1 iter1 elt : Expr} {da db de : DE} {dn : DN} {dt dt1 : DT} {pos p pp : Pos} {di di1 : DI} {dg dg1 : DG} {js js1 : List Nat} {ifs ifs1 : List Expr} {scope : Scope}
theorem pn_lc2 (own : List (Str × Nat)) (vs1 : List Nat) (g : Good X k) (hi : PDI X v E tg iter di) (hg : PDG X (blkF X v scope) js tg dg) (ht : PDTs X (blkF X v scope) E2 ifs dt) (hi1 : PDI X (blkF X v scope) E2 tg1 iter1 di1) (hg1 : PDG X (blkF X v scope) js1 tg1 dg1) (ht1 : PDTs X (blkF X v scope) E2 ifs1 dt1) (he : PD X (blkF X v scope) E2 elt de)
    (ok : ∀ ii, blkC X.N (v ii).env.scope scope own = true := by intro _; kernel_rfl) (hj : ∀ j ∈ js, j ∈ own.map (·.2) := by decide) (hj1 : ∀ j ∈ js1, j ∈ vs1 := by decide) (hv : ∀ j ∈ vs1, j ∈ own.map (·.2) := by decide) (hs : ∀ ii x, foldedSetIterable iter (v ii).env x = pure x := by intro _ _; rfl) (hs1 : ∀ env x, foldedSetIterable iter1 env x = pure x := by intro _ _; rfl) :
    PN X v E (.ListComp elt [⟨tg, iter, ifs, 0⟩, ⟨tg1, iter1, ifs1, 0⟩] scope pos) (dLc2 di dg dt di1 dg1 dt1 de (own.map (·.2)) vs1) := by
  obtain ⟨wi, hi, si⟩ := hi.ex
  obtain ⟨gg, hg, sg⟩ := hg.ex
  obtain ⟨tt, ht, st⟩ := ht.ex
  obtain ⟨wi1, hi1, si1⟩ := hi1.ex
  obtain ⟨gg1, hg1, sg1⟩ := hg1.ex
  obtain ⟨tt1, ht1, st1⟩ := ht1.ex
  obtain ⟨te, he, se⟩ := he.ex
  exact ⟨tLc2 wi gg tt wi1 gg1 tt1 te (own.map (·.2)) vs1, fun ii => pe_lc2 (X := X.atV (v ii)) g.calm g.nd (hi ii) (blkOk_by (ok ii)) hv (fun s H C cl fp => hg (ii, s, H, C, cl, fp)) (fun s H C cl fp => ht (ii, s, H, C, cl, fp)) (fun s H C cl fp => hi1 (ii, s, H, C, cl, fp)) (fun s H C cl fp => hg1 (ii, s, H, C, cl, fp)) (fun s H C cl fp => ht1 (ii, s, H, C, cl, fp)) (fun s H C cl fp => he (ii, s, H, C, cl, fp)) (hs ii) hs1, sn_lc2 si sg hj st si1 sg1 hj1 hv st1 se⟩
theorem ds_setLc2 (i : Nat) {y : Str} (own : List (Str × Nat)) (vs1 : List Nat) (g : Good X k) (hi : PDI X v E tg iter di) (hg : PDG X (blkF X v scope) js tg dg) (ht : PDTs X (blkF X v scope) E2 ifs dt) (hi1 : PDI X (blkF X v scope) E2 tg1 iter1 di1) (hg1 : PDG X (blkF X v scope) js1 tg1 dg1) (ht1 : PDTs X (blkF X v scope) E2 ifs1 dt1) (he : PD X (blkF X v scope) E2 elt de)
    (hy : X.N[i]? = some y := by rfl) (hyl : ∀ ii, (v ii).env.scope.names.lookup y = some .local := by intro _; rfl) (hsw : ∀ ii, swapsWith (.ListComp elt [⟨tg, iter, ifs, 0⟩, ⟨tg1, iter1, ifs1, 0⟩] scope pos) (some (.Name y p)) pp.line (v ii).env = pure true := by exact fun _ => sw_true rfl rfl rfl (by decide +kernel))
    (ok : ∀ ii, blkC X.N (v ii).env.scope scope own = true := by intro _; kernel_rfl) (hj : ∀ j ∈ js, j ∈ own.map (·.2) := by decide) (hj1 : ∀ j ∈ js1, j ∈ vs1 := by decide) (hv : ∀ j ∈ vs1, j ∈ own.map (·.2) := by decide) (hs : ∀ ii x, foldedSetIterable iter (v ii).env x = pure x := by intro _ _; rfl) (hs1 : ∀ env x, foldedSetIterable iter1 env x = pure x := by intro _ _; rfl) :
    PDS X v E (.Assign [.Name y p] (.ListComp elt [⟨tg, iter, ifs, 0⟩, ⟨tg1, iter1, ifs1, 0⟩] scope pos) pp) (dAsgN i (dLc2 di dg dt di1 dg1 dt1 de (own.map (·.2)) vs1)) := by
  obtain ⟨wi, hi, si⟩ := hi.ex
  obtain ⟨gg, hg, sg⟩ := hg.ex
  obtain ⟨tt, ht, st⟩ := ht.ex
  obtain ⟨wi1, hi1, si1⟩ := hi1.ex
  obtain ⟨gg1, hg1, sg1⟩ := hg1.ex
  obtain ⟨tt1, ht1, st1⟩ := ht1.ex
  obtain ⟨te, he, se⟩ := he.ex
  exact ⟨_, fun ii => ps_setLc2 (X := X.atV (v ii)) g.calm g.nd hy (hyl ii) (hsw ii) (hi ii) (blkOk_by (ok ii)) hv (fun s H C cl fp => hg (ii, s, H, C, cl, fp)) (fun s H C cl fp => ht (ii, s, H, C, cl, fp)) (fun s H C cl fp => hi1 (ii, s, H, C, cl, fp)) (fun s H C cl fp => hg1 (ii, s, H, C, cl, fp)) (fun s H C cl fp => ht1 (ii, s, H, C, cl, fp)) (fun s H C cl fp => he (ii, s, H, C, cl, fp)) (hs ii) hs1, ss_asgN (sn_lc2 si sg hj st si1 sg1 hj1 hv st1 se)⟩
end
end DL

set_option Elab.async false
set_option linter.all false
set_option maxRecDepth 100000
set_option maxHeartbeats 8000000
/-! a call whose list is new: the caller owns it. By an AI agent. -/
namespace DL
open PySem PySem.Spec PyProof.Rows L2
def lensD (ds : List D) : List Nat := ds.filterMap fun d => match d with
  | .scr ys => some ys.length
  | _ => none
def okArg : D → Bool
  | .scr ys => noLs ys
  | d => noL d
def dCallN (dsp : DSp) (a : DA) : DN := fun Ē e Q => a Ē e fun ds e1 => ds.all okArg = true ∧ dsp (ds.map .fr) (fun d _ => match d with
  | .lst xs => noLs xs = true ∧ xs.length ∉ lensD ds ∧ Q (.lst xs) e1
  | _ => False) X0
section
variable {K : PySem.W.Frag} {mg : Str → Option Value} {F F0 : Hp}
def subL (F : Hp) (ls : List Nat) : Hp := fun b => match F b with
  | some (.lst us) => if us.length ∈ ls then some (.lst us) else none
  | x => x
theorem subL_of {F : Hp} {ls : List Nat} {b : Addr} {o : HO} (h : subL F ls b = some o) : F b = some o := by
  unfold subL at h
  split at h
  · rename_i us e
    split at h
    · rw [e]; exact h
    · cases h
  · exact h
theorem subL_at {F : Hp} {ls : List Nat} {b : Addr} {o : HO} (h : F b = some o) (hn : ∀ us, o = .lst us → us.length ∈ ls) : subL F ls b = some o := by
  unfold subL
  rw [h]
  split
  · rename_i us e
    cases e
    rw [if_pos (hn us rfl)]
  · rfl
mutual
theorem Rep.sub {ls : List Nat} : ∀ {d : D} {v : V}, Rep K mg F d v → noL d = true → Rep K mg (subL F ls) d v
  | _, _, .non, _ => .non
  | _, _, .bl b, _ => .bl b
  | _, _, .int i, _ => .int i
  | _, _, .str x, _ => .str x
  | _, _, .tup g l, n => .tup (subL_at g (fun us e => by cases e)) (RepL.sub l (by simpa [noL] using n))
  | _, _, .ins m g l, n => .ins m (subL_at g (fun us e => by cases e)) (RepF.sub l (by simpa [noL] using n))
  | _, _, .lst _ _, n => by simp [noL] at n
  | _, _, .scr _ _, n => by simp [noL] at n
  | _, _, .dT _ _, n => by simp [noL] at n
  | _, _, .dK _ _, n => by simp [noL] at n
  | _, _, .exc0, n => by simp [noL] at n
  | _, _, .exc _ _, n => by simp [noL] at n
theorem RepL.sub {ls : List Nat} : ∀ {d : List D} {v : List V}, RepL K mg F d v → noLs d = true → RepL K mg (subL F ls) d v
  | _, _, .nil, _ => .nil
  | _, _, .cons g l, n => by
    simp [noLs] at n
    exact .cons (Rep.sub g n.1) (RepL.sub l n.2)
theorem RepF.sub {ls : List Nat} : ∀ {d : List (Str × D)} {v : List (Str × V)}, RepF K mg F d v → noLf d = true → RepF K mg (subL F ls) d v
  | _, _, .nil, _ => .nil
  | _, _, .cons g l, n => by
    simp [noLf] at n
    exact .cons (Rep.sub g n.1) (RepF.sub l n.2)
end
theorem RepL.subA {ls : List Nat} : ∀ {d : List D} {v : List V}, RepL K mg F d v → d.all okArg = true → (∀ n ∈ lensD d, n ∈ ls) → RepL K mg (subL F ls) d v
  | _, _, .nil, _, _ => .nil
  | _, _, .cons (d := d) g l, n, h => by
    rw [List.all_cons, Bool.and_eq_true] at n
    refine .cons ?_ (RepL.subA l n.2 fun m hm => h m ?_)
    · cases g with
      | @scr a xs us hs lu =>
        have hl : us.length ∈ ls := by
          rw [← lu.length]
          exact h _ (List.mem_filterMap.mpr ⟨_, List.mem_cons_self, rfl⟩)
        refine .scr (hs.imp (fun r => r.imp (fun z => subL_at z fun us' e => by cases e; exact hl) fun ⟨o, z⟩ => ⟨o, subL_at z fun us' e => by cases e⟩) id) (lu.sub n.1)
      | non => exact Rep.sub .non n.1
      | bl b => exact .bl b
      | int b => exact .int b
      | str b => exact .str b
      | tup g l => exact Rep.sub (.tup g l) n.1
      | ins m g l => exact Rep.sub (.ins m g l) n.1
      | lst _ _ => exact absurd n.1 (by simp [okArg, noL])
      | dT _ _ => exact absurd n.1 (by simp [okArg, noL])
      | dK _ _ => exact absurd n.1 (by simp [okArg, noL])
      | exc0 => exact absurd n.1 (by simp [okArg, noL])
      | exc _ _ => exact absurd n.1 (by simp [okArg, noL])
    · obtain ⟨x, hx, hy⟩ := List.mem_filterMap.mp hm
      exact List.mem_filterMap.mpr ⟨x, List.mem_cons_of_mem _ hx, hy⟩
end
theorem sn_callN {K : PySem.W.Frag} {mg : Str → Option Value} {E : L2.St → XK} {t : TA} {da : DA} {dsp : DSp} {Ex : XK} (ha : SA K mg E t da) : SN K mg E (tCall (spOf K mg dsp) [] Ex t) (dCallN dsp da) := fun B G F H e σ Ē Q' Q k x h q =>
  ha B G F H e σ Ē _ _ k x h fun ds e1 vs F1 H1 ⟨hok, h1⟩ m1 k1 r1 => by
    rw [List.append_nil]
    have hs0 : Same (subL F1 (lensD ds)) F1 := fun b o hb => subL_of hb
    have r0 : RepL K mg (subL F1 (lensD ds)) ds vs := r1.subA hok fun n hn => hn
    refine ⟨fun _ => none, loose (subL F1 (lensD ds)) H1, subL F1 (lensD ds), ds.map .fr, _, ok_frozen (hs0.trans k1.fh) r0, h1, no_ow, fun d as' v F' H' h2 m2 k2 r2 => ?_⟩
    split at h2
    · rename_i xs
      obtain ⟨hn, hl, h2⟩ := h2
      cases r2 with
      | @lst a _ vs' hFa la =>
      have hl' : vs'.length ∉ lensD ds := by rw [← la.length]; exact hl
      have hH : H1 a = none := by
        cases q1 : H1 a with
        | none => rfl
        | some o =>
          cases q2 : subL F1 (lensD ds) a with
          | none =>
            rw [m2.out a o (loose_at q2 q1), q2] at hFa
            cases hFa
          | some u =>
            have := m2.ff a u q2
            rw [hFa] at this
            cases this
            unfold subL at q2
            split at q2
            · split at q2
              · rename_i hm
                cases q2
                exact (hl' hm).elim
              · cases q2
            · rename_i hno
              exact (hno _ q2).elim
      have gr0 : ∀ b o, H1 b = some o → H' b = some o ∧ F' b = subL F1 (lensD ds) b := fun b o hb => by
        cases q2 : subL F1 (lensD ds) b with
        | none => exact ⟨k2.gh b o (loose_at q2 hb), by rw [m2.out b o (loose_at q2 hb)]; exact q2⟩
        | some u =>
          have e1 := k1.fh b u (hs0 b u q2)
          rw [hb] at e1
          cases e1
          have e2 := m2.ff b o q2
          exact ⟨k2.fh b o e2, e2⟩
      let F2 : Hp := fun b => if b = a then none else match F' b with
        | some o => some o
        | none => F1 b
      have F2a : F2 a = none := if_pos rfl
      have F2n : ∀ b, b ≠ a → F2 b = match F' b with
        | some o => some o
        | none => F1 b := fun b hb => if_neg hb
      have hF1a : F1 a = none := k1.fh.free hH
      have gr : Gr F1 H1 F2 H' := by
        refine ⟨fun b o hb => ?_, fun b o hb => ?_, fun b o hb => (gr0 b o hb).1, fun b o hb => ?_⟩
        · have ne : b ≠ a := fun z => by rw [z, hF1a] at hb; cases hb
          rw [F2n b ne, (gr0 b o (k1.fh b o hb)).2]
          cases q2 : subL F1 (lensD ds) b with
          | none => exact hb
          | some u =>
            have := hs0 b u q2
            rw [hb] at this
            cases this
            rfl
        · by_cases ne : b = a
          · rw [ne, F2a] at hb; cases hb
          · rw [F2n b ne] at hb
            cases q2 : F' b with
            | none =>
              rw [q2] at hb
              exact (gr0 b o (k1.fh b o hb)).1
            | some u =>
              rw [q2] at hb
              cases hb
              exact k2.fh b o q2
        · have ne : b ≠ a := fun z => by rw [z, hH] at hb; cases hb
          rw [F2n b ne, (gr0 b o hb).2]
          cases q2 : subL F1 (lensD ds) b with
          | none => rfl
          | some u => exact (hs0 b u q2).symm
      refine q (.lst xs) e1 a (.lst vs') F2 H' h2 (m1.trans (k1.mv gr)) (k1.grow gr) ⟨F2a, k1.gh.free hH, k2.fh _ _ hFa, fun j b o hj hs => ?_⟩ (.lst ((la.del hFa hn).mono fun b o hb => ?_))
      · obtain ⟨y, u, y1, _, _, y4, _⟩ := k1.ow j b o hj
        rw [hs] at y1
        cases y1
        rw [hH] at y4
        cases y4
      · have ne : b ≠ a := fun z => by rw [z, del_same] at hb; cases hb
        rw [del_ne ne] at hb
        rw [F2n b ne, hb]
    · exact h2.elim
theorem pn_callN {E : L2.St → XK} {X : Cx} {ι : Type} {v : ι → Vy} {k lvl : Nat} {a : Expr} {es : List Expr} {da : DA} {pos p : Pos} {x : Str} {dsp : DSp} (F : Fn X.prog X.w X.K X.mg X.base lvl x dsp) (g : Good X k) (ha : PDA X v E (a :: es) da) (hl : lvl ≤ k := by decide) (hg : ∀ ii, Gl (X.atV (v ii)) x := by intro _; rfl) (hdb : (x == ("__debug__" : Str)) = false := by decide)
    (he : ∀ ii, starEach (a :: es) (v ii).env = (false, eval a (v ii).env) :: starEach es (v ii).env := by intro _; rfl) (hpl : ∀ ii, (backTo pos (starEach es (v ii).env)).any (·.1) = false := by intro _; rfl) : PN X v E (.Call (.Name x p) (a :: es) [] pos) (dCallN dsp da) := by
  obtain ⟨f, fd, ps, hm, hk, hb, F⟩ := F.ex
  obtain ⟨t, ha, sa⟩ := ha.ex
  exact ⟨tCall (spOf X.K X.mg dsp) [] E0 t, fun ii => pe_call (X := X.atV (v ii)) F (g.room.mono hl) (hg ii) hm hk hb .nil passN (ha ii) hdb (he ii) (hpl ii), sn_callN sa⟩
theorem Good.hu65 {X : Cx} {k : Nat} (g : Good X k) : X.A.units + 65 < cLine := by
  have := g.room.un
  omega
end DL

set_option Elab.async false
set_option linter.all false
set_option maxRecDepth 100000
set_option maxHeartbeats 8000000
/-! properties of own classes. By an AI agent. -/
namespace DL
open PySem PySem.Spec PyProof.Rows L2
/-! ### facts: the property, its getter -/
def pAd (K : PySem.W.Frag) (c f : Str) : Addr := match PySem.W.findIn K (.ref (He.ga K c)) f with
  | some (some (.ref p)) => p
  | _ => 0
def gAd (K : PySem.W.Frag) (c f : Str) : Addr := match PySem.W.recIn K (pAd K c f) "property" with
  | some (.ref g :: _) => g
  | _ => 0
/-- a property f of the class c: its getter's def -/
structure PrD where
  c : Str
  f : Str
  name : Str
  qual : Str
  params : Arguments
  body : List Stmt
  scope : Scope
def PrD.val (d : PrD) : He.FnW := some (d.name, d.qual, d.params, .stmts d.body, d.scope, mainGlobals, [], builtinsNs)
def fnA (K : PySem.W.Frag) (a : Addr) : He.FnW := match K.lookup a with
  | some ⟨_, _, .func fd, _⟩ => some (fd.name, fd.qualname, fd.params, fd.body, fd.scope, fd.globals, fd.closure, fd.builtins)
  | _ => none
def PrD.ok (K : PySem.W.Frag) (d : PrD) : Bool := He.eqO (PySem.W.findIn K (.ref (He.ga K d.c)) d.f) (some (some (.ref (pAd K d.c d.f)))) && (He.eqO (PySem.W.specialIn K (.ref (pAd K d.c d.f)) "__get__") (some (some (.builtin "property.__get__"))) &&
  (decide (PySem.W.takesIn K (.ref (pAd K d.c d.f)) = some true) && ((match PySem.W.recIn K (pAd K d.c d.f) "property" with
    | some (.ref g :: _) => decide (g = gAd K d.c d.f)
    | _ => false) && (PySem.W.keepIn K (.ref (gAd K d.c d.f)) && (match K.lookup (gAd K d.c d.f) with
    | some ⟨_, _, .func fd, _⟩ => PySem.W.codeIn K fd.code d.qual && (He.dflB K fd.defaults [] && He.kwdB K fd.kwdefaults [])
    | _ => false)))))
theorem PrD.get {K : PySem.W.Frag} {d : PrD} (e : fnA K (gAd K d.c d.f) = d.val) (c : d.ok K = true) : PropOf K (He.ga K d.c) d.f (pAd K d.c d.f) (gAd K d.c d.f) ∧ ∃ fd, FunD K d.name d.qual d.params d.body d.scope [] [] (gAd K d.c d.f) fd := by
  obtain ⟨c1, c⟩ := He.ba c
  obtain ⟨c2, c⟩ := He.ba c
  obtain ⟨c3, c⟩ := He.ba c
  obtain ⟨c4, c⟩ := He.ba c
  obtain ⟨kp, c2'⟩ := He.ba c
  refine ⟨⟨He.eqO_ok c1, He.eqO_ok c2, of_decide_eq_true c3, ?_⟩, ?_⟩
  · split at c4
    · rename_i g rest h
      exact ⟨rest, by rw [h, of_decide_eq_true c4]⟩
    · cases c4
  unfold fnA at e
  cases q : K.lookup (gAd K d.c d.f) with
  | none =>
    rw [q] at c2'
    cases c2'
  | some o =>
    obtain ⟨oc, od, dt, osl⟩ := o
    rw [q] at c2' e
    cases dt with
    | func fd =>
      obtain ⟨n1, n2, n3, n4, n5, n6, n7, n8, n9, n10, n11, n12, n13, n14, n15⟩ := fd
      have e2 : (some (n1, n2, n3, n4, n5, n6, n7, n15) : He.FnW) = some (d.name, d.qual, d.params, .stmts d.body, d.scope, mainGlobals, [], builtinsNs) := e
      simp only [Option.some.injEq, Prod.mk.injEq] at e2
      obtain ⟨h1, h2, h3, h4, h5, h6, h7, h8⟩ := e2
      subst h1 h2 h3 h4 h5 h6 h7 h8
      have c3 : (PySem.W.codeIn K n13 d.qual && (He.dflB K n8 [] && He.kwdB K n9 [])) = true := c2'
      obtain ⟨k1, k2⟩ := He.ba c3
      obtain ⟨k3, k4⟩ := He.ba k2
      exact ⟨_, ⟨oc, od, n8, n9, n10, n11, n12, n13, n14, osl, rfl, q, k1, He.dflB_ok k3, He.kwdB_ok k4⟩, kp⟩
    | _ => cases c2'
abbrev AlP : Type := AlE × Bool × List He.FnW
def obsP (n : Nat) (fa : List He.Fa) (fn : List He.DefD) (ex : PySem.W.Frag → Bool) (pr : List PrD) (g : Addr → Option Obj) : AlP :=
  (obsE n fa fn ex g, pr.all fun d => d.ok (He.frG g (He.asD g n)), pr.map fun d => fnA (He.frG g (He.asD g n)) (gAd (He.frG g (He.asD g n)) d.c d.f))
structure SaysP (fa : List He.Fa) (fn : List He.DefD) (ex : PySem.W.Frag → Bool) (pr : List PrD) (K : PySem.W.Frag) : Prop where
  s : SaysE fa fn ex K
  ok : (pr.all fun d => d.ok K) = true
  fn : (pr.map fun d => fnA K (gAd K d.c d.f)) = pr.map PrD.val
theorem SaysP.prop {fa : List He.Fa} {fn : List He.DefD} {ex : PySem.W.Frag → Bool} {pr : List PrD} {K : PySem.W.Frag} (c : SaysP fa fn ex pr K) (i : Nat) {d : PrD} (h : pr[i]? = some d := by rfl) : PropOf K (He.ga K d.c) d.f (pAd K d.c d.f) (gAd K d.c d.f) ∧ ∃ fd, FunD K d.name d.qual d.params d.body d.scope [] [] (gAd K d.c d.f) fd := by
  have e := c.fn
  have e2 : (pr.map fun d => fnA K (gAd K d.c d.f))[i]? = (pr.map PrD.val)[i]? := by rw [e]
  rw [List.getElem?_map, List.getElem?_map, h] at e2
  exact PrD.get (Option.some.inj e2) (List.all_eq_true.mp c.ok d (List.mem_of_getElem? h))
def hookP (n : Nat) (fa : List He.Fa) (fn : List He.DefD) (ex : PySem.W.Frag → Bool) (pr : List PrD) : PySem.W.Hook where
  α := AlP
  obs := fun s => obsP n fa fn ex pr s.heap.get?
  val := fun _ => ((He.valD fn, true), true, pr.map PrD.val)
  says := fun _ h => ∃ K : PySem.W.Frag, K.In h ∧ SaysP fa fn ex pr K
  of := fun _ _ e => ⟨_, He.frG_in, ⟨congrArg (fun z : AlP => z.1.1) e, congrArg (fun z : AlP => z.1.2) e⟩, congrArg (fun z : AlP => z.2.1) e, congrArg (fun z : AlP => z.2.2) e⟩
  keeps := fun _ _ _ ⟨K, hK, c⟩ k => ⟨K, PySem.W.Frag.In.keeps hK k, c⟩
theorem obsP_eq {n : Nat} {fa : List He.Fa} {fn : List He.DefD} {ex : PySem.W.Frag → Bool} {pr : List PrD} {g : Addr → Option Obj} {s : Shared} (h : ∀ a, g a = s.heap.get? a) : obsP n fa fn ex pr g = (hookP n fa fn ex pr).obs s := by
  have e : g = s.heap.get? := funext h
  rw [e] <;> rfl
/-! ### the rule -/
structure FnP (P : Program) (w : World) (K : PySem.W.Frag) (mg : Str → Option Value) (base : Heap) (lvl : Nat) (c f : Str) (dsp : DSp) : Prop where
  ex : ∃ (C p g : Addr) (fd : FuncData) (ps : List Str), mg c = some (.ref C) ∧ Cls K C ∧ PropOf K C f p g ∧ Binds K fd ps [] ∧ FnOk P w K mg base (L2N.CX P w) lvl g fd ps (spOf K mg dsp)
theorem fnP_mk {P : Program} {w : World} {K : PySem.W.Frag} {mg : Str → Option Value} {base h : Heap} {k : Nat} {d : PrD} {fd : FuncData} {ps : List Str} {dsp : DSp} (X : K.In h) (G : h.Ns mainGlobals mg) (g : (He.Fa.glo d.c).ok K = true) (kc : (He.Fa.cls d.c).ok K = true)
    (pr : PropOf K (He.ga K d.c) d.f (pAd K d.c d.f) (gAd K d.c d.f)) (F : FunD K d.name d.qual d.params d.body d.scope [] [] (gAd K d.c d.f) fd)
    (hb : ∀ (kV doc pm : Value) (an : Option Addr) (cdv ct : Value) (us : List Value), us.length = ps.length → bindArgs (PySem.W.fnOf d.name d.qual d.params d.body d.scope .none kV doc pm an cdv ct) ⟨us, []⟩ = pure (ps.zip us))
    (ok : FnOk P w K mg base (L2N.CX P w) k (gAd K d.c d.f) fd ps (spOf K mg dsp)) : FnP P w K mg base k d.c d.f dsp := ⟨_, _, _, fd, ps, He.glo_ok X G g, He.cls_ok kc, pr, F.bindsN hb, ok⟩
/-- e.f, a property of the class c -/
def dProp (c : Str) (dsp : DSp) (a : DE) : DE := fun Ē e Q => a Ē e fun y e0 => match y with
  | .ins c' fs => c' = c ∧ dsp [.fr (.ins c' fs)] (fun d _ => Q d e0) X0
  | _ => False
theorem pd_prop {E : L2.St → XK} {X : Cx} {ι : Type} {v : ι → Vy} {k lvl : Nat} {a : Expr} {da : DE} {pos : Pos} {c f : Str} {dsp : DSp} (F : FnP X.prog X.w X.K X.mg X.base lvl c f dsp) (g : Good X (k + 1)) (ha : PD X v E a da) (hl : lvl ≤ k := by decide)
    (hab : ∀ ii, attributeBase a f (v ii).env (eval a (v ii).env) = eval a (v ii).env := by intro _; rfl) : PD X v E (.Attribute a f pos) (dProp c dsp da) := by
  obtain ⟨C, p, gg, fd, ps, hm, hc, hp, hb, F⟩ := F.ex
  obtain ⟨ta, ha, sa⟩ := ha.ex
  refine ⟨_, fun ii => pe_prop (X := X.atV (v ii)) (ha ii) hc hp (F.mono hl) g.room hb .nil passN (hab ii), ?_⟩
  intro B G F H e σ Ē Q' Q kk x h q
  refine sa B G F H e σ Ē _ _ kk x h fun y e0 w F0 H0 h0 m0 k0 r0 => ?_
  cases y with
  | ins c' fs =>
    obtain ⟨rfl, h0⟩ := h0
    cases r0 with
    | @ins a C' dx _ _ gs hm' hF lf =>
      rw [hm] at hm'
      cases hm'
      refine ⟨a, dx, gs, rfl, k0.fh _ _ hF, ?_⟩
      have rl : RepL X.K X.mg F0 [.ins c' fs] [V.ref a] := .cons (.ins hm hF lf) .nil
      refine ⟨fun _ => none, loose F0 H0, F0, _, _, ok_frozen k0.fh rl, h0, no_ow, fun d as' v F' H' h2 m2 k2 r2 => ?_⟩
      have g := gr_call m2 k2.fh k2.gh k0.fh
      exact q d e0 v F' H' h2 (m0.trans (k0.mv g)) (k0.grow g) r2
  | _ => exact h0.elim
end DL

set_option Elab.async false
set_option linter.all false
set_option maxRecDepth 100000
set_option maxHeartbeats 8000000
/-! defs that may raise. By an AI agent. -/
namespace DL
open PySem PySem.Spec PyProof.Rows L2
/-- what of exceptions leaves the code is E's wish -/
structure Tk (X : Cx) {ι : Type} (v : ι → Vy) (E : L2.St → XK) : Prop where
  ex : ∃ W : WX, E = WE W ∧ ∀ ii, L2N.Takes (X.atV (v ii)) W
theorem tkZ {X : Cx} {ι : Type} {v : ι → Vy} : Tk X v EZ := ⟨fun _ _ _ _ => False, rfl, fun ii u s' x => by
  obtain ⟨_, _, _, _, _, _, _, _, _, _, _, _, _, _, _, _, z⟩ := x
  exact z.elim⟩
theorem Tk.at {X : Cx} {ι : Type} {v : ι → Vy} {E : L2.St → XK} (t : Tk X v E) (ii : ι) (σ : L2.St) : PassesAt (L2N.CX X.prog X.w) (X.atV (v ii)) σ (E σ) := by
  obtain ⟨W, rfl, h⟩ := t.ex
  exact L2N.passAt (h ii) σ
def spOfX (K : PySem.W.Frag) (mg : Str → Option Value) (dsp : DSp) : Sp := fun vs H Q E => ∃ (B : Nat → Option Addr) (G F : Hp) (as : DEnv) (Q' : D → DEnv → Prop) (Ē : XD), Ok K mg B G F H as (vs.map some) ∧ dsp as Q' Ē ∧
  (∀ (i : Nat) (b : Bool) (o : O), as[i]? = some (Sl.ow b o) → b = true) ∧
  (∀ d as' v F' H', Q' d as' → Mv G F F' → Ok K mg B G F' H' as' (vs.map some) → Rep K mg F' d v → Q v H') ∧
  ∀ as' c fs u ad F' H', Ē as' c fs → Mv G F F' → Ok K mg B G F' H' as' (vs.map some) → RepX K mg G F' H' c fs u ad → E u ad H'
theorem spOf_X {K : PySem.W.Frag} {mg : Str → Option Value} {dsp : DSp} {vs : List V} {H : Hp} {Q : VK} {E : XK} (h : spOf K mg dsp vs H Q E) : spOfX K mg dsp vs H Q E := by
  obtain ⟨B, G, F, as, Q', k, h, ho, hq⟩ := h
  exact ⟨B, G, F, as, Q', X0, k, h, ho, hq, fun _ _ _ _ _ _ _ z => z.elim⟩
theorem fnOk_of {P : Program} {w : World} {K : PySem.W.Frag} {mg : Str → Option Value} {base : Heap} {CX : CXT} {lvl : Nat} {f : Addr} {fd : FuncData} {ps : List Str} {dsp : DSp} (F : FnOk P w K mg base CX lvl f fd ps (spOfX K mg dsp)) : FnOk P w K mg base CX lvl f fd ps (spOf K mg dsp) :=
  ⟨fun vs H Q E h => F.len vs H Q E (spOf_X h), fun A outer s H args us vs Q E hr e hb r h => F.run A outer s H args us vs Q E hr e hb r (spOf_X h)⟩
structure FnX (P : Program) (w : World) (K : PySem.W.Frag) (mg : Str → Option Value) (base : Heap) (lvl : Nat) (x : Str) (dsp : DSp) : Prop where
  ex : ∃ (f : Addr) (fd : FuncData) (ps : List Str), mg x = some (.ref f) ∧ PySem.W.keepIn K (.ref f) = true ∧ Binds K fd ps [] ∧ FnOk P w K mg base (L2N.CX P w) lvl f fd ps (spOfX K mg dsp)
structure FnXM (P : Program) (w : World) (K : PySem.W.Frag) (mg : Str → Option Value) (base : Heap) (lvl : Nat) (c m : Str) (dsp : DSp) : Prop where
  ex : ∃ (C f : Addr) (fd : FuncData) (ps : List Str), mg c = some (.ref C) ∧ Cls K C ∧ PySem.W.findIn K (.ref C) m = some (some (.ref f)) ∧ PySem.W.isFn K (.ref f) = true ∧ PySem.W.keepIn K (.ref f) = true ∧ PySem.W.keepIn K (.ref C) = true ∧ PySem.W.makesIn K C = true ∧ PySem.W.fnIn K f = true ∧ Binds K fd ps [] ∧ FnOk P w K mg base (L2N.CX P w) lvl f fd ps (spOfX K mg dsp)
structure FnXP (P : Program) (w : World) (K : PySem.W.Frag) (mg : Str → Option Value) (base : Heap) (lvl : Nat) (c f : Str) (dsp : DSp) : Prop where
  ex : ∃ (C p g : Addr) (fd : FuncData) (ps : List Str), mg c = some (.ref C) ∧ Cls K C ∧ PropOf K C f p g ∧ Binds K fd ps [] ∧ FnOk P w K mg base (L2N.CX P w) lvl g fd ps (spOfX K mg dsp)
section
variable {P : Program} {w : World} {K : PySem.W.Frag} {mg : Str → Option Value} {base h : Heap} {x c m qual : Str} {params : Arguments} {body : List Stmt} {scope : Scope} {f : Addr} {fd : FuncData} {N ps : List Str} {k lvl : Nat} {dsp : DSp} {ds : DS}
theorem FnX.fn (F : FnX P w K mg base lvl x dsp) : Fn P w K mg base lvl x dsp := by
  obtain ⟨f, fd, ps, h1, h2, h3, h4⟩ := F.ex
  exact ⟨f, fd, ps, h1, h2, h3, fnOk_of h4⟩
theorem FnXM.fn (F : FnXM P w K mg base lvl c m dsp) : FnM P w K mg base lvl c m dsp := by
  obtain ⟨C, f, fd, ps, h1, h2, h3, h4, h5, h6, h7, h8, h9, h10⟩ := F.ex
  exact ⟨C, f, fd, ps, h1, h2, h3, h4, h5, h6, h7, h8, h9, fnOk_of h10⟩
theorem FnXP.fn (F : FnXP P w K mg base lvl c m dsp) : FnP P w K mg base lvl c m dsp := by
  obtain ⟨C, p, g, fd, ps, h1, h2, h3, h4, h5⟩ := F.ex
  exact ⟨C, p, g, fd, ps, h1, h2, h3, h4, fnOk_of h5⟩
/-- from a promise that never raises -/
theorem lg {N' : List Str} (hx : ∀ as Q' Ē, dsp as Q' Ē → dsp as Q' X0) (hd : ∀ as Q', dsp as Q' X0 → ds X0 { nx := fun e' => Q' .non (retA as e'), rt := fun d e' => Q' d (retA as e') } (as ++ List.replicate (N'.length - as.length) .no)) :
    ∀ as Q' Ē, dsp as Q' Ē → ∃ Ē2 : XD, (∀ e' c fs, Ē2 e' c fs → Ē (retA as e') c fs) ∧ ds Ē2 { nx := fun e' => Q' .non (retA as e'), rt := fun d e' => Q' d (retA as e') } (as ++ List.replicate (N'.length - as.length) .no) :=
  fun as Q' Ē h => ⟨X0, fun _ _ _ z => z.elim, hd as Q' (hx as Q' Ē h)⟩
theorem lx {N' : List Str} (hd : ∀ as Q' Ē, dsp as Q' Ē → ds (fun e' c fs => Ē (retA as e') c fs) { nx := fun e' => Q' .non (retA as e'), rt := fun d e' => Q' d (retA as e') } (as ++ List.replicate (N'.length - as.length) .no)) :
    ∀ as Q' Ē, dsp as Q' Ē → ∃ Ē2 : XD, (∀ e' c fs, Ē2 e' c fs → Ē (retA as e') c fs) ∧ ds Ē2 { nx := fun e' => Q' .non (retA as e'), rt := fun d e' => Q' d (retA as e') } (as ++ List.replicate (N'.length - as.length) .no) :=
  fun as Q' Ē h => ⟨_, fun _ _ _ z => z, hd as Q' Ē h⟩
theorem fn_okX {kws : List (Str × V)} (F : FunD K x qual params body scope [] kws f fd) (S : FnScope N ps scope) (hlen : ∀ as Q' Ē, dsp as Q' Ē → as.length = ps.length) (hn : ps.length ≤ N.length)
    (hb : ∀ (cdv : Value) (A : Around) (outer : List PySem.Env) (s : Shared) (H : Hp) (E : XK), Room k (A.deeper (envOfC qual scope s.heap.objs.size f cdv)) → Tk (cxOf (L2N.CX P w) P w K mg base N qual scope f cdv A outer s H E) (cxOf (L2N.CX P w) P w K mg base N qual scope f cdv A outer s H E).vy (fun _ => E) →
      (∀ ii, PassesOwn (model P w) (cxOf (L2N.CX P w) P w K mg base N qual scope f cdv A outer s H E).A ((cxOf (L2N.CX P w) P w K mg base N qual scope f cdv A outer s H E).vy ii).env ((cxOf (L2N.CX P w) P w K mg base N qual scope f cdv A outer s H E).vy ii).xe) →
      PDSs (cxOf (L2N.CX P w) P w K mg base N qual scope f cdv A outer s H E) (cxOf (L2N.CX P w) P w K mg base N qual scope f cdv A outer s H E).vy (fun _ => E) body ds)
    (hd : ∀ as Q' Ē, dsp as Q' Ē → ∃ Ē2 : XD, (∀ e' c fs, Ē2 e' c fs → Ē (retA as e') c fs) ∧ ds Ē2 { nx := fun e' => Q' .non (retA as e'), rt := fun d e' => Q' d (retA as e') } (as ++ List.replicate (N.length - as.length) .no)) :
    FnOk P w K mg base (L2N.CX P w) (k + 1) f fd ps (spOfX K mg dsp) := by
  refine F.ok S (fun vs H Q E ⟨B, G, F, as, Q', Ē, k, h, _⟩ => ?_) fun cdv A outer s H vs Q E hr ⟨B, G, F, as, Q', Ē, kk, h, ho, hq, hx⟩ => ?_
  · rw [← hlen as Q' Ē h, k.len, List.length_map]
  · obtain ⟨t, ht, st⟩ := (hb cdv A outer s H E hr ⟨fun cls d _ H' => E cls d H', rfl, fun _ => L2N.takes_of rfl rfl rfl rfl⟩ (fun _ => passes_of (X := cxOf (L2N.CX P w) P w K mg base N qual scope f cdv A outer s H E) rfl)).ex
    obtain ⟨Ē2, h2, h3⟩ := hd as Q' Ē h
    refine ⟨t, ht (), st B G F H _ _ Ē2 _ _ (ok_start kk) (fun σ' e' c fs u ad F' H' hh m k' r => hx _ c fs u ad F' H' (h2 _ _ _ hh) m (ok_ret kk ho m k') r) h3 ⟨fun e' σ' F' H' hh m k' => hq .non _ .non F' H' hh m (ok_ret kk ho m k') .non,
      fun d e' σ' v F' H' hh m k' r => hq d _ v F' H' hh m (ok_ret kk ho m k') r, fun _ _ _ _ z => z.elim, fun _ _ _ _ z => z.elim⟩⟩
theorem fnX_mk (X : K.In h) (G : h.Ns mainGlobals mg) (g : (He.Fa.glo x).ok K = true) {nm : Str} (F : FunD K nm qual params body scope [] [] (He.fAd K (x, none)) fd)
    (hb : ∀ (kV doc pm : Value) (an : Option Addr) (cdv ct : Value) (us : List Value), us.length = ps.length → bindArgs (PySem.W.fnOf nm qual params body scope .none kV doc pm an cdv ct) ⟨us, []⟩ = pure (ps.zip us))
    (ok : FnOk P w K mg base (L2N.CX P w) k (He.fAd K (x, none)) fd ps (spOfX K mg dsp)) : FnX P w K mg base k x dsp :=
  ⟨_, fd, ps, He.glo_ok X G g, F.kp, F.bindsN hb, ok⟩
theorem fnXM_mk {nm : Str} {cs : List Str} {ms : List (Str × Str)} (X : K.In h) (G : h.Ns mainGlobals mg) (g : (He.Fa.glo c).ok K = true) (kc : (He.Fa.cls c).ok K = true) (km : (He.Fa.meth c m).ok K = true) (kk : (He.Fa.mkr c).ok K = true) (e : exE cs ms K = true) (hm : (c, m) ∈ ms)
    (F : FunD K nm qual params body scope [] [] (He.fAd K (c, some m)) fd)
    (hb : ∀ (kV doc pm : Value) (an : Option Addr) (cdv ct : Value) (us : List Value), us.length = ps.length → bindArgs (PySem.W.fnOf nm qual params body scope .none kV doc pm an cdv ct) ⟨us, []⟩ = pure (ps.zip us))
    (ok : FnOk P w K mg base (L2N.CX P w) k (He.fAd K (c, some m)) fd ps (spOfX K mg dsp)) : FnXM P w K mg base k c m dsp := by
  obtain ⟨m1, m2, m3⟩ := He.meth_ok km
  obtain ⟨k1, k2, k3, k4⟩ := He.mkr_ok kk
  obtain ⟨_, e2⟩ := He.ba e
  exact ⟨_, _, fd, ps, He.glo_ok X G g, He.cls_ok kc, m1, m2, m3, k4, k1, List.all_eq_true.mp e2 (c, m) hm, F.bindsN hb, ok⟩
theorem fnXP_mk {d : PrD} (X : K.In h) (G : h.Ns mainGlobals mg) (g : (He.Fa.glo d.c).ok K = true) (kc : (He.Fa.cls d.c).ok K = true)
    (pr : PropOf K (He.ga K d.c) d.f (pAd K d.c d.f) (gAd K d.c d.f)) (F : FunD K d.name d.qual d.params d.body d.scope [] [] (gAd K d.c d.f) fd)
    (hb : ∀ (kV doc pm : Value) (an : Option Addr) (cdv ct : Value) (us : List Value), us.length = ps.length → bindArgs (PySem.W.fnOf d.name d.qual d.params d.body d.scope .none kV doc pm an cdv ct) ⟨us, []⟩ = pure (ps.zip us))
    (ok : FnOk P w K mg base (L2N.CX P w) k (gAd K d.c d.f) fd ps (spOfX K mg dsp)) : FnXP P w K mg base k d.c d.f dsp := ⟨_, _, _, fd, ps, He.glo_ok X G g, He.cls_ok kc, pr, F.bindsN hb, ok⟩
end
/-! ### a call that may raise -/
def dCallX (dsp : DSp) (a : DA) : DE := fun Ē e Q => a Ē e fun ds e1 => dsp (ds.map .fr) (fun d _ => Q d e1) (fun _ c fs => Ē e1 c fs)
theorem gx_call {K : PySem.W.Frag} {mg : Str → Option Value} {G F F' H H' : Hp} {c : Str} {fs : List (Str × D)} {u : Value} {ad : Option Addr} (gh : Same G H) (m : Mv (loose F H) F F') (r : RepX K mg (loose F H) F' H' c fs u ad) : RepX K mg G F' H' c fs u ad := by
  obtain ⟨C, h1, h2, h3 | ⟨d, gs, e1, e2, e3, e4, e5⟩⟩ := r
  · exact ⟨C, h1, h2, .inl h3⟩
  · refine ⟨C, h1, h2, .inr ⟨d, gs, e1, e2, ?_, e4, e5⟩⟩
    cases q : G d with
    | none => rfl
    | some o =>
      have hF : F d = none := by
        cases z : F d with
        | none => rfl
        | some w => rw [m.ff d w z] at e2; cases e2
      rw [loose_at hF (gh d o q)] at e3
      cases e3
theorem se_callX {K : PySem.W.Frag} {mg : Str → Option Value} {E : L2.St → XK} {t : TA} {da : DA} {dsp : DSp} (ha : SA K mg E t da) : SE K mg E (tCallS (spOfX K mg dsp) E t) (dCallX dsp da) := fun B G F H e σ Ē Q' Q k x h q =>
  ha B G F H e σ Ē _ _ k x h fun ds e1 vs F1 H1 h1 m1 k1 r1 => by
    refine ⟨fun _ => none, loose F1 H1, F1, ds.map .fr, _, _, ok_frozen k1.fh r1, h1, no_ow, fun d as' v F' H' h2 m2 k2 r2 => ?_, fun as' c fs u ad F' H' h2 m2 k2 r2 => ?_⟩
    · have g := gr_call m2 k2.fh k2.gh k1.fh
      exact q d e1 v F' H' h2 (m1.trans (k1.mv g)) (k1.grow g) r2
    · have g := gr_call m2 k2.fh k2.gh k1.fh
      exact x e1 c fs u ad F' H' h2 (m1.trans (k1.mv g)) (k1.grow g) (gx_call k1.gh m2 r2)
section
variable {X : Cx} {ι : Type} {v : ι → Vy} {E : L2.St → XK} {k lvl : Nat} {a fe : Expr} {es : List Expr} {da : DA} {df : DE} {pos p : Pos} {x : Str} {dsp : DSp}
theorem pd_callX (tk : Tk X v E) (F : FnX X.prog X.w X.K X.mg X.base lvl x dsp) (g : Good X k) (ha : PDA X v E (a :: es) da) (hl : lvl ≤ k := by decide) (hg : ∀ ii, Gl (X.atV (v ii)) x := by intro _; rfl) (hdb : (x == ("__debug__" : Str)) = false := by decide)
    (he : ∀ ii, starEach (a :: es) (v ii).env = (false, eval a (v ii).env) :: starEach es (v ii).env := by intro _; rfl) (hpl : ∀ ii, (backTo pos (starEach es (v ii).env)).any (·.1) = false := by intro _; rfl) : PD X v E (.Call (.Name x p) (a :: es) [] pos) (dCallX dsp da) := by
  obtain ⟨f, fd, ps, hm, hk, hb, F⟩ := F.ex
  obtain ⟨t, ha, sa⟩ := ha.ex
  exact ⟨tCallS (spOfX X.K X.mg dsp) E t, fun ii => pe_callS (X := X.atV (v ii)) (CX := L2N.CX X.prog X.w) F (g.room.mono hl) (hg ii) hm hk hb (fun σ => tk.at ii σ) (ha ii) hdb (he ii) (hpl ii), se_callX sa⟩
/-! ### raise X() -/
end
/-- what the text must say of an exception class -/
structure ExcD (K : PySem.W.Frag) (mg : Str → Option Value) (c : Str) : Prop where
  ex : ∃ C, mg c = some (.ref C) ∧ PySem.W.excIn K C He.veBase "ValueError.__new__" = true ∧ PySem.W.keepIn K (.ref C) = true ∧ PySem.W.subIn K (.ref C) (.type "BaseException") = some true ∧ PySem.W.typeIn K (.ref C) = some (.type "type")
theorem excD_ok {K : PySem.W.Frag} {h : Heap} {mg : Str → Option Value} {c : Str} (X : K.In h) (G : h.Ns mainGlobals mg) (g : (He.Fa.glo c).ok K = true) (e : (He.Fa.exc c).ok K = true) : ExcD K mg c := by
  obtain ⟨e1, e2, e3, e4⟩ := He.exc_ok e
  exact ⟨_, He.glo_ok X G g, e1, e2, e3, e4⟩
section
variable {X : Cx} {C : Addr} {bmB : List Value} {B newId initId : String}
/-- X() -/
theorem pmk_own0 {x : Str} {p pos : Pos} (F : ExcBaseFacts B newId initId bmB) (q : PySem.W.excIn X.K C bmB newId = true) (gC : X.mg x = some (.ref C)) (kC : PySem.W.keepIn X.K (.ref C) = true) (r : Raises X (.ref C)) (hg : Gl X x)
    (hdb : (x == ("__debug__" : Str)) = false := by decide) : L2N.PMk X (.Call (.Name x p) [] [] pos) (fun _ H Q => Q (.ref C) none H) := by
  intro pins s σ H Q I h
  refine wpAny_Call_Name_kw (ld_glob I hg gC ?_ hdb)
  refine PySem.W.callWith_K0 I.kIn kC ?_
  show wpAny _ _ (call (.ref C) []) _ _ _
  obtain ⟨bm, N, nm, qn, bs, hdct, sn, sub, ab, col, dd, k0, k1, k2, k3, k5, mN, hC, hN, hni, T⟩ := exc_obj I.kIn q
  refine wpAny_call_exc_subT F T hC hN hni (fun h' e hm => ?_) (by show 0 ≤ sizeLine; omega)
  exact L2N.mk_of I hm r h (I.hok.gone hm.new)
end
def dRaise0 (c : Str) : DS := fun Ē _ e => Ē e c []
theorem ds_raise0 {X : Cx} {ι : Type} {v : ι → Vy} {E : L2.St → XK} {k : Nat} {c : Str} {p pos' pos : Pos} (tk : Tk X v E) (g : Good X k) (hx : ExcD X.K X.mg c) (hg : ∀ ii, Gl (X.atV (v ii)) c := by intro _; rfl) (hdb : (c == ("__debug__" : Str)) = false := by decide) :
    PDS X v E (.Raise (some (.Call (.Name c p) [] [] pos')) none pos) (dRaise0 c) := by
  obtain ⟨C, hm, h1, h2, h3, h4⟩ := hx.ex
  obtain ⟨W, rfl, tw⟩ := tk.ex
  refine ⟨fun _ σ H => W (.ref C) none σ H, fun ii => L2N.ps_raise (X := X.atV (v ii)) g.calm (tw ii) (pmk_own0 PySem.F.excBase_ValueError h1 hm h2 (raises_own h3 h4) (hg ii) hdb), ?_⟩
  intro B G F H e σ Ē D' D kk x h q
  exact x σ e c [] (.ref C) none F H h Mv.refl kk ⟨C, hm, rfl, .inl ⟨rfl, rfl⟩⟩
end DL

set_option Elab.async false
set_option linter.all false
set_option maxRecDepth 100000
set_option maxHeartbeats 8000000
/-! an instance is made and its __init__ may raise. By an AI agent. -/
namespace DL
open PySem PySem.Spec PyProof.Rows L2
def tMakeS (C : Addr) (sp : Sp) (E : L2.St → XK) (t : TA) : TE := fun σ H Q => t σ H fun ws H1 => ∀ y dy, H1 y = none → H1 dy = none → dy ≠ y →
  sp (.ref y :: ws) (upd (upd H1 dy (.own y)) y (.ins C dy [])) (fun v H2 => v = .non ∧ Q (.ref y) H2) (E σ)
section
variable {X : Cx} {CX : CXT} {k : Nat} {f C : Addr} {fd : FuncData} {ps : List Str} {sp : Sp} {E : L2.St → XK} {x : Str} {pos p : Pos} {a : Expr} {es : List Expr} {t : TA}
theorem run_makeS {pn : List (Addr × Obj)} {σ : L2.St} {H : Hp} {st : Shared} {Q : VK} {us : List Value} {ws : List V} (M : Mk X.K C f) (F : FnOk X.prog X.w X.K X.mg X.base CX k f fd ps sp) (hr : Room (k + 1) X.A) (hb : Binds X.K fd ps []) (hx : PassesAt CX X σ (E σ)) (I : Inv X pn σ H st) (r : Vals ws us)
    (h : ∀ y dy, H y = none → H dy = none → dy ≠ y → sp (.ref y :: ws) (upd (upd H dy (.own y)) y (.ins C dy [])) (fun v H2 => v = .non ∧ Q (.ref y) H2) (E σ)) : wpAny (model X.prog X.w) X.A (call (.ref C) us) (EP X pn σ Q) X.xe st := by
  have key := h (st.heap.objs.size + 1) st.heap.objs.size (I.hok.fresh (Nat.le_succ _)) (I.hok.fresh (Nat.le_refl _)) (Nat.ne_of_lt (Nat.lt_succ_self _))
  have J := Inv.made (C := C) I
  have rr : Vals (V.ref (st.heap.objs.size + 1) :: ws) (Value.ref (st.heap.objs.size + 1) :: us) := .cons rfl r
  have ll : (Value.ref (st.heap.objs.size + 1) :: us ++ []).length = ps.length := by
    rw [List.append_nil, ← rr.length]
    exact F.len _ _ _ _ key
  have bb := hb _ (Value.ref (st.heap.objs.size + 1) :: us) J.kIn ll
  rw [List.append_nil] at bb
  have run := F.run _ X.stack _ _ ⟨Value.ref (st.heap.objs.size + 1) :: us, []⟩ _ _ _ (E σ) (hr.make C us []) (J.env0.make C us []) bb rr key
  refine wpAny_call (make_map (f := f) I.kIn M.makes M.init (beq_iff_eq.mp M.fn) (codeAny_mono run fun res st' q => ?_))
  match res, q with
  | .error er, q => exact hx pn _ _ er st' J q
  | .ok (.ret u), q =>
    obtain ⟨v, H', J', rv, ev, z⟩ := J.after q
    subst ev
    exact ⟨rv, V.ref (st.heap.objs.size + 1), H', J', rfl, z⟩
theorem pe_makeS (M : Mk X.K C f) (F : FnOk X.prog X.w X.K X.mg X.base CX k f fd ps sp) (hr : Room (k + 1) X.A) (hg : Gl X x) (hm : X.mg x = some (.ref C)) (hb : Binds X.K fd ps []) (hx : ∀ σ, PassesAt CX X σ (E σ)) (ha : PA X (a :: es) t)
    (hdb : (x == ("__debug__" : Str)) = false) (he : starEach (a :: es) X.env = (false, eval a X.env) :: starEach es X.env) (hpl : (backTo pos (starEach es X.env)).any (·.1) = false) : PE X (.Call (.Name x p) (a :: es) [] pos) (tMakeS C sp E t) := ⟨fun pn st σ H Q I h =>
  wpAny_Call_Name_kw (ld_glob I hg hm (PySem.W.callWith_K (h₀ := X.base) I.ok.mod.kin M.kp (thn (ha.run pos pn st σ H _ I h) fun us s1 ⟨ws, H1, J, r, q⟩ => ⟨J.kIn, run_makeS M F hr hb (hx σ) J r q⟩) he hpl) hdb)⟩
end
def dMakeX (c : Str) (dsp : DSp) (a : DA) : DE := fun Ē e Q => a Ē e fun ds e1 => dsp (.ow true (.ins c []) :: ds.map .fr) (fun d as' => isNon d = true ∧ match as' with
  | .ow true (.ins c' fs) :: _ => Q (.ins c' fs) e1
  | _ => False) (fun as' c' fs => match as' with
  | .ow true _ :: _ => Ē e1 c' fs
  | _ => False)
section
variable {K : PySem.W.Frag} {mg : Str → Option Value} {F1 H1 F' H' G : Hp} {y dy : Addr}
theorem gr_make (h1 : Same F1 H1) (hy : H1 y = none) (hdy : H1 dy = none) (m3 : Mv (loose F1 (upd H1 dy (.own y))) F1 F') (fh : Same F' H') (gh : Same (loose F1 (upd H1 dy (.own y))) H') : Gr F1 H1 F' H' := by
  refine ⟨m3.ff, fh, fun b o hb => ?_, fun b o hb => ?_⟩
  · cases q1 : F1 b with
    | none =>
      have hb2 : (upd H1 dy (.own y)) b = some o := by rw [upd_ne (ne_of_none hb hdy)]; exact hb
      exact gh b o (loose_at q1 hb2)
    | some w =>
      have := h1 b w q1
      rw [hb] at this
      cases this
      exact fh b o (m3.ff b o q1)
  · cases q1 : F1 b with
    | none =>
      have hb2 : (upd H1 dy (.own y)) b = some o := by rw [upd_ne (ne_of_none hb hdy)]; exact hb
      rw [m3.out b o (loose_at q1 hb2)]
      exact q1
    | some w => exact m3.ff b w q1
theorem gx_make {Hx : Hp} (hx : ∀ b, b ≠ y → b ≠ dy → Hx b = H1 b) {c : Str} {fs : List (Str × D)} {u : Value} {ad : Option Addr} (gh : Same G H1) (hy : H1 y = none) (hdy : H1 dy = none) (ff : Same F1 F') (r : RepX K mg (del (loose F1 Hx) y) F' H' c fs u ad) : RepX K mg G F' H' c fs u ad := by
  obtain ⟨C, p1, p2, p3 | ⟨d, gs, e1, e2, e3, e4, e5⟩⟩ := r
  · exact ⟨C, p1, p2, .inl p3⟩
  · refine ⟨C, p1, p2, .inr ⟨d, gs, e1, e2, ?_, e4, e5⟩⟩
    cases q : G d with
    | none => rfl
    | some o =>
      have hd := gh d o q
      have hF : F1 d = none := by
        cases z : F1 d with
        | none => rfl
        | some w => rw [ff d w z] at e2; cases e2
      rw [del_ne (ne_of_none hd hy), loose_at hF (o := o) (by rw [hx d (ne_of_none hd hy) (ne_of_none hd hdy)]; exact hd)] at e3
      cases e3
end
section
variable {X : Cx} {ι : Type} {v : ι → Vy} {E : L2.St → XK} {k lvl : Nat} {a : Expr} {es : List Expr} {da : DA} {pos p : Pos} {dsp : DSp}
theorem pd_makeX {c : Str} (tk : Tk X v E) (F : FnXM X.prog X.w X.K X.mg X.base lvl c "__init__" dsp) (g : Good X (k + 1)) (ha : PDA X v E (a :: es) da) (hl : lvl ≤ k := by decide) (hg : ∀ ii, Gl (X.atV (v ii)) c := by intro _; rfl) (hdb : (c == ("__debug__" : Str)) = false := by decide)
    (he : ∀ ii, starEach (a :: es) (v ii).env = (false, eval a (v ii).env) :: starEach es (v ii).env := by intro _; rfl) (hpl : ∀ ii, (backTo pos (starEach es (v ii).env)).any (·.1) = false := by intro _; rfl) : PD X v E (.Call (.Name c p) (a :: es) [] pos) (dMakeX c dsp da) := by
  obtain ⟨C, f, fd, ps, hm, hc, hfi, hfn, hk, hkC, hmk, _, hb, F⟩ := F.ex
  obtain ⟨t, ha, sa⟩ := ha.ex
  refine ⟨tMakeS C (spOfX X.K X.mg dsp) E t, fun ii => pe_makeS (X := X.atV (v ii)) (k := k) ⟨hmk, hfi, hfn, hkC⟩ (F.mono hl) g.room (hg ii) hm hb (fun σ => tk.at ii σ) (ha ii) hdb (he ii) (hpl ii), ?_⟩
  intro B G F H e σ Ē Q' Q kk x h q
  refine sa B G F H e σ Ē _ _ kk x h fun ds e1 vs F1 H1 h1 m1 k1 r1 y dy hy hdy hne => ?_
  have fy : F1 y = none := k1.fh.free hy
  have fdy : F1 dy = none := k1.fh.free hdy
  have hs1 : Same F1 (upd H1 dy (.own y)) := same_upd k1.fh fdy
  have hs2 : Same F1 (upd (upd H1 dy (.own y)) y (.ins C dy [])) := same_upd hs1 fy
  have hq : (upd H1 dy (.own y)) y = none := by rw [upd_ne (Ne.symm hne)]; exact hy
  have k0 : Ok X.K X.mg (fun _ => none) (loose F1 (upd H1 dy (.own y))) F1 (upd (upd H1 dy (.own y)) y (.ins C dy [])) [.ow false (.ins c [])] [some (V.ref y)] := by
    refine ⟨hs2, fun c' w hc' => ?_, rfl, fun i d hi => ?_, fun i b o hi => ?_, fun i j b b' o o' z hi hj _ _ => ?_⟩
    · obtain ⟨c1, c2⟩ := loose_of hc'
      rw [upd_ne (ne_of_none c2 hq)]
      exact c2
    · cases i <;> simp at hi
    · cases i with
      | zero =>
        simp at hi
        obtain ⟨rfl, rfl⟩ := hi
        refine ⟨y, _, rfl, fy, ?_, upd_same, .ins hm .nil, fun z => by cases z⟩
        unfold loose
        rw [if_pos fy]
        exact hq
      | succ i => simp at hi
    · cases i with
      | zero => cases j with
        | zero => rfl
        | succ j => simp at hj
      | succ i => simp at hi
  refine ⟨_, del (loose F1 _) y, F1, .ow true (.ins c []) :: ds.map .fr, _, _, ok_lent (j := 0) k0 rfl rfl r1, h1, lent_ow, fun d as' v F' H' h2 m2 k2 r2 => ?_, fun as' c' fs' u ad F' H' h2 m2 k2 r2 => ?_⟩
  · obtain ⟨hd, h2⟩ := h2
    have hv : v = .non := by
      cases r2 with
      | non => rfl
      | _ => cases hd
    refine ⟨hv, ?_⟩
    split at h2
    · rename_i c' fs rest
      obtain ⟨m3, k3⟩ := ok_back (j := 0) k0 rfl rfl m2 k2
      obtain ⟨y', u, p1, p2, p3, p4, p5, _⟩ := k3.ow 0 false _ rfl
      cases p1
      cases p5 with
      | @ins C' dx _ _ gs hm' lf =>
        have gr : Gr F1 H1 F' H' := gr_make k1.fh hy hdy m3 k3.fh k3.gh
        have k4 := k1.grow gr
        have f4 : Fresh F' G H' e1 σ _ (.ins C' dx gs) := ⟨p2, k1.gh.free hy, p4, fun j b o hj hσ => by
          obtain ⟨z, w, z1, _, _, z4, _⟩ := k1.ow j b o hj
          rw [hσ] at z1
          cases z1
          rw [hy] at z4
          cases z4⟩
        obtain ⟨m5, k5⟩ := k4.frz f4
        exact q _ e1 _ _ H' h2 ((m1.trans (k1.mv gr)).trans m5) k5 (.ins hm' upd_same (lf.mono m5.ff))
    · exact h2.elim
  · split at h2
    · rename_i o rest
      obtain ⟨m3, k3⟩ := ok_back (j := 0) k0 rfl rfl m2 k2
      have gr : Gr F1 H1 F' H' := gr_make k1.fh hy hdy m3 k3.fh k3.gh
      exact x e1 c' fs' u ad F' H' h2 (m1.trans (k1.mv gr)) (k1.grow gr) (gx_make (fun b h1 h2 => by rw [upd_ne h1, upd_ne h2]) k1.gh hy hdy m3.ff r2)
    · exact h2.elim
end
end DL

set_option Elab.async false
set_option linter.all false
set_option maxRecDepth 100000
set_option maxHeartbeats 8000000
/-! try. By an AI agent. -/
namespace DL
open PySem PySem.Spec PyProof.Rows L2
def TrI (X : Cx) {ι : Type} (v : ι → Vy) (W : WX) : Type := { q : ι × List (Addr × Obj) × (Value → Shared → Prop) // L2N.Takes ((X.atV (v q.1)).tr q.2.1 q.2.2) W ∧ PassesOwn (model X.prog X.w) X.A (v q.1).env q.2.2 }
/-- the contexts of a try's body -/
abbrev trF (X : Cx) {ι : Type} (v : ι → Vy) (W : WX) : TrI X v W → Vy := fun q => ⟨(v q.1.1).s, (v q.1.1).H, (v q.1.1).env, (v q.1.1).outer, (v q.1.1).ex, (v q.1.1).fn, q.1.2.1, q.1.2.2⟩
/-- the context of an except suite -/
abbrev suA (X : Cx) (a : Addr) : Cx := { X with A := X.A.mark (some (.ref a)), calm := false }
def SuI {ι : Type} (cls : Value) (d : Option Addr) : Type := { q : ι × Obj × List (Addr × Obj) // L2N.Zn cls d q.2.1 ∧ ∃ vs, q.2.1.data = .fields vs }
abbrev suF {ι : Type} (v : ι → Vy) (a : Addr) (cls : Value) (d : Option Addr) : SuI (ι := ι) cls d → Vy := fun q => ⟨(v q.1.1).s, (v q.1.1).H, (v q.1.1).env, (v q.1.1).outer, (v q.1.1).ex, (v q.1.1).fn, (a, q.1.2.1) :: q.1.2.2, fun _ _ => False⟩
/-- an except clause's class: which classes it catches, which it lets pass -/
structure Catch (K : PySem.W.Frag) (mg : Str → Option Value) (x : Str) (yes no : List Str) : Prop where
  ex : ∃ T, mg x = some (.ref T) ∧ (∀ c ∈ yes, ∀ C, mg c = some (.ref C) → PySem.W.exmOne K (.ref C) (.ref T) = some true) ∧ ∀ c ∈ no, ∀ C, mg c = some (.ref C) → PySem.W.exmOne K (.ref C) (.ref T) = some false
abbrev HdL : Type := List ((List Str × List Str) × DS)
def hdD (Ē : XD) (Z : DEnds) : HdL → XD
  | [], e, c, fs => Ē e c fs
  | ((yes, no), s) :: r, e, c, fs => if yes.contains c = true then s X0 Z e else no.contains c = true ∧ hdD Ē Z r e c fs
/-- try: body except X: .. except Y: .. -/
def dTryM (body : DS) (l : HdL) : DS := fun Ē Z e => body (hdD Ē Z l) Z e
inductive HdD (X : Cx) {ι : Type} (v : ι → Vy) : List ExceptHandler → HdL → Prop
  | nil : HdD X v [] []
  | cons {x : Str} {yes no : List Str} {b0 : Stmt} {suite : List Stmt} {np ph : Pos} {hs : List ExceptHandler} {ds : DS} {l : HdL} (hc : Catch X.K X.mg x yes no) (hsu : ∀ a cls d, PDSs (suA X a) (suF v a cls d) EZ (b0 :: suite) ds) (r : HdD X v hs l)
      (hg : ∀ ii, Gl (X.atV (v ii)) x := by intro _; rfl) (hdb : (x == ("__debug__" : Str)) = false := by decide) : HdD X v (.ExceptHandler (some (.Name x np)) none (b0 :: suite) ph :: hs) (((yes, no), ds) :: l)
/-- the clauses' readings, at both levels -/
inductive HdR (K : PySem.W.Frag) (mg : Str → Option Value) : HdL → List (Value × (Addr → Value → Option Addr → TS)) → Prop
  | nil : HdR K mg [] []
  | cons {yes no : List Str} {T : Addr} {ds : DS} {ts : Addr → Value → Option Addr → TS} {l : HdL} {m : List (Value × (Addr → Value → Option Addr → TS))} (h1 : ∀ c ∈ yes, ∀ C, mg c = some (.ref C) → PySem.W.exmOne K (.ref C) (.ref T) = some true) (h2 : ∀ c ∈ no, ∀ C, mg c = some (.ref C) → PySem.W.exmOne K (.ref C) (.ref T) = some false)
      (hs : ∀ a cls d, SS K mg EZ (ts a cls d) ds) (r : HdR K mg l m) : HdR K mg (((yes, no), ds) :: l) ((.ref T, ts) :: m)
section
variable {X : Cx} {ι : Type} {v : ι → Vy} {E : L2.St → XK}
theorem HdD.split {hs : List ExceptHandler} {l : HdL} (h : HdD X v hs l) : ∃ m, (∀ ii, L2N.HdsOk (X.atV (v ii)) hs m) ∧ HdR X.K X.mg l m := by
  induction h with
  | nil => exact ⟨[], fun _ => .nil, .nil⟩
  | cons hc hsu r hg hdb ih =>
    obtain ⟨m, h1, h2⟩ := ih
    obtain ⟨T, t1, t2, t3⟩ := hc.ex
    refine ⟨(.ref T, fun a cls d => Classical.choose (hsu a cls d).ex) :: m, fun ii => .cons ⟨hg ii, hdb, .inl t1⟩ (fun a oe cls d pn hz hf => ?_) (h1 ii), .cons t2 t3 (fun a cls d => (Classical.choose_spec (hsu a cls d).ex).2) h2⟩
    exact (Classical.choose_spec (hsu a cls d).ex).1 ⟨(ii, oe, pn), hz, hf⟩
theorem xr_many {K : PySem.W.Frag} {mg : Str → Option Value} {Wout : WX} {Ē : XD} {B : Nat → Option Addr} {G F : Hp} {Z : DEnds} {D : Ends} {l : HdL} {m : List (Value × (Addr → Value → Option Addr → TS))} (hr : HdR K mg l m) (σ : L2.St) (x : XR K mg (WE Wout) Ē B G F σ) (q : ER K mg B G F Z D) :
    XR K mg (WE (wMany K Wout D m)) (hdD Ē Z l) B G F σ := by
  induction hr with
  | nil => exact x
  | @cons yes no T ds ts l m h1 h2 hs r ih =>
    intro e' c fs u ad F' H' hh mm k rx
    obtain ⟨C, p1, rfl, p3⟩ := id rx
    unfold hdD at hh
    split at hh
    · rename_i hy
      exact ⟨true, h1 c (by simpa using hy) C p1, fun _ a ha => hs a _ _ B G F' H' e' σ X0 Z D k (fun _ => x0) hh (q.mv mm), fun z => by cases z⟩
    · obtain ⟨hn, hh⟩ := hh
      exact ⟨false, h2 c (by simpa using hn) C p1, (fun z => by cases z), fun _ => ih e' c fs _ ad F' H' hh mm k rx⟩
theorem tk_tr {W : WX} : Tk X (trF X v W) (WE W) := ⟨W, rfl, fun q => q.2.1⟩
theorem ds_tryM {body : List Stmt} {db : DS} {h0 : ExceptHandler} {hs : List ExceptHandler} {l : HdL} {pos : Pos} (tk : Tk X v E) (hb : ∀ W, Tk X (trF X v W) (WE W) → (∀ q : TrI X v W, PassesOwn (model X.prog X.w) X.A (trF X v W q).env (trF X v W q).xe) → PDSs X (trF X v W) (WE W) body db) (hh : HdD X v (h0 :: hs) l)
    (hst : ∀ ii, X.stack = (v ii).env :: (v ii).outer := by intro _; rfl) (hf : ∀ ii, (v ii).env.frame = some (v ii).env.locals := by intro _; rfl) : PDS X v E (.Try body (h0 :: hs) [] [] pos) (dTryM db l) := by
  obtain ⟨Wout, rfl, tw⟩ := tk.ex
  obtain ⟨m, h1, h2⟩ := hh.split
  have hb' := fun W => (hb W tk_tr fun q => q.2.2).ex
  refine ⟨fun D σ H => Classical.choose (hb' (wMany X.K Wout D m)) D σ H, fun ii => L2N.ps_try_many (X := X.atV (v ii)) (tb := fun W => Classical.choose (hb' W)) (hst ii) (hf ii) (tw ii) (fun W pn xe ht hp => (Classical.choose_spec (hb' W)).1 ⟨(ii, pn, xe), ht, hp⟩) (h1 ii), ?_⟩
  intro B G F H e σ Ē Z D k x h q
  exact (Classical.choose_spec (hb' (wMany X.K Wout D m))).2 B G F H e σ _ Z D k (fun σ' => xr_many h2 σ' (x σ') q) h q
end
/-! ### except X as n -/
def dropZ (i : Nat) (Z : DEnds) : DEnds := { nx := fun e => Z.nx (e.set i .no), rt := Z.rt, bk := fun e => Z.bk (e.set i .no), ct := fun e => Z.ct (e.set i .no) }
def asD (i : Nat) (yes no : List Str) (su : Addr → Str → Option Addr → DS) (Ē : XD) (Z : DEnds) : XD := fun e c fs => if yes.contains c = true then ∀ a d, setF e i (.exc c fs d a) fun e1 => su a c d X0 (dropZ i Z) e1 else no.contains c = true ∧ Ē e c fs
def dTryA (i : Nat) (yes no : List Str) (body : DS) (su : Addr → Str → Option Addr → DS) : DS := fun Ē Z e => body (asD i yes no su Ē Z) Z e
section
variable {K : PySem.W.Frag} {mg : Str → Option Value} {B : Nat → Option Addr} {G F H : Hp} {e : DEnv} {σ : L2.St}
theorem Ok.frzX (k : Ok K mg B G F H e σ) {d : Addr} {gs : List (Str × V)} (h1 : F d = none) (h2 : G d = none) (h3 : H d = some (.xd gs)) : Mv G F (upd F d (.xd gs)) ∧ Ok K mg B G (upd F d (.xd gs)) H e σ := by
  have m : Same F (upd F d (.xd gs)) := same_new h1
  refine ⟨⟨m, fun b o hb => upd_ne fun z => by rw [z, h2] at hb; cases hb⟩, ⟨fun b o hb => ?_, k.gh, k.len, fun i d h => let ⟨v, h1, h2⟩ := k.fr i d h; ⟨v, h1, h2.mono m⟩, fun i b o h => ?_, k.ap⟩⟩
  · by_cases z : b = d
    · rw [z, upd_same] at hb; cases hb; rw [z]; exact h3
    · rw [upd_ne z] at hb; exact k.fh b o hb
  · obtain ⟨a, w, p1, p2, p3, p4, p5, p6⟩ := k.ow i b o h
    refine ⟨a, w, p1, ?_, p3, p4, p5.mono m, p6⟩
    rw [upd_ne fun z => ?_]
    · exact p2
    · rw [z, h3] at p4
      cases p4
      cases p5
/-- the caught exception stands in the slot i -/
theorem Ok.caught (k : Ok K mg B G F H e σ) {i : Nat} {c : Str} {fs : List (Str × D)} {u : Value} {ad : Option Addr} (r : RepX K mg G F H c fs u ad) (a : Addr) (hi : i < e.length) : ∃ F', Mv G F F' ∧ Ok K mg B G F' H (e.set i (.fr (.exc c fs ad a))) (σ.set i (some (.ref a))) := by
  obtain ⟨C, p1, p2, ⟨rfl, rfl⟩ | ⟨d, gs, rfl, e2, e3, e4, e5⟩⟩ := r
  · exact ⟨F, Mv.refl, k.setF hi .exc0⟩
  · obtain ⟨m, k1⟩ := k.frzX e2 e3 e4
    exact ⟨_, m, k1.setF hi (.exc upd_same (e5.mono m.ff))⟩
theorem setF_lt {i : Nat} {d : D} {P : DEnv → Prop} (h : setF e i d P) : i < e.length ∧ P (e.set i (.fr d)) := by
  unfold setF at h
  split at h
  · exact h.elim
  · rename_i s hs _
    exact ⟨(List.getElem?_eq_some_iff.mp (by assumption)).1, h⟩
  · exact h.elim
end
section
variable {X : Cx} {ι : Type} {v : ι → Vy} {E : L2.St → XK}
theorem ds_tryA (i : Nat) {yes no : List Str} {body suite : List Stmt} {b0 : Stmt} {db : DS} {su : Addr → Str → Option Addr → DS} {x n : Str} {np ph pos : Pos} (g : X.N.Nodup) (tk : Tk X v E) (hc : Catch X.K X.mg x yes no) (hb : ∀ W, Tk X (trF X v W) (WE W) → (∀ q : TrI X v W, PassesOwn (model X.prog X.w) X.A (trF X v W q).env (trF X v W q).xe) → PDSs X (trF X v W) (WE W) body db)
    (hsu : ∀ a c d C, c ∈ yes → X.mg c = some (.ref C) → PDSs (suA X a) (suF v a (.ref C) d) EZ (b0 :: suite) (su a c d)) (hi : X.N[i]? = some n := by rfl) (hln : ∀ ii, (v ii).env.kindOf n = some .local := by intro _; rfl) (hg : ∀ ii, Gl (X.atV (v ii)) x := by intro _; rfl) (hdb : (x == ("__debug__" : Str)) = false := by decide)
    (hst : ∀ ii, X.stack = (v ii).env :: (v ii).outer := by intro _; rfl) (hf : ∀ ii, (v ii).env.frame = some (v ii).env.locals := by intro _; rfl) : PDS X v E (.Try body [.ExceptHandler (some (.Name x np)) (some n) (b0 :: suite) ph] [] [] pos) (dTryA i yes no db su) := by
  obtain ⟨Wout, rfl, tw⟩ := tk.ex
  obtain ⟨T, t1, t2, t3⟩ := hc.ex
  have hb' := fun W => (hb W tk_tr fun q => q.2.2).ex
  let ts : Addr → Value → Option Addr → TS := fun a cls d D σ H => ∃ (c : Str) (C : Addr) (hy : c ∈ yes) (hm : X.mg c = some (.ref C)), cls = .ref C ∧ Classical.choose (hsu a c d C hy hm).ex D σ H
  refine ⟨fun D σ H => Classical.choose (hb' (wAs X.K (.ref T) i ts Wout D)) D σ H, fun ii => L2N.ps_try_as (X := X.atV (v ii)) (tb := fun W => Classical.choose (hb' W)) (ts := ts) (hst ii) (hf ii) g hi (hln ii) ⟨hg ii, hdb, .inl t1⟩ (tw ii) (fun W pn xe ht hp => (Classical.choose_spec (hb' W)).1 ⟨(ii, pn, xe), ht, hp⟩) (fun a oe cls d pn hz hf => ⟨fun pins s σ H D I h => ?_⟩), ?_⟩
  · obtain ⟨c, C, hy, hm, rfl, h⟩ := h
    exact ((Classical.choose_spec (hsu a c d C hy hm).ex).1 ⟨(ii, oe, pn), hz, hf⟩).run pins s σ H D I h
  · intro B G F H e σ Ē Z D k x h q
    refine (Classical.choose_spec (hb' (wAs X.K (.ref T) i ts Wout D))).2 B G F H e σ _ Z D k (fun σ' => ?_) h q
    intro e' c fs u ad F' H' hh mm k' rx
    obtain ⟨C, p1, rfl, _⟩ := id rx
    unfold asD at hh
    split at hh
    · rename_i hy
      have hy : c ∈ yes := by simpa using hy
      refine ⟨true, t2 c hy C p1, fun _ a ha => ⟨c, C, hy, p1, rfl, ?_⟩, fun z => by cases z⟩
      obtain ⟨hlt, hh⟩ := setF_lt (hh a ad)
      obtain ⟨F2, m2, k2⟩ := k'.caught rx a hlt
      have q2 := q.mv (mm.trans m2)
      exact (Classical.choose_spec (hsu a c ad C hy p1).ex).2 B G F2 H' _ _ X0 (dropZ i Z) _ k2 (fun _ => x0) hh ⟨fun e1 σ1 F3 H3 z m3 k3 => q2.nx _ _ F3 H3 z m3 (k3.drop i), fun d e1 σ1 w F3 H3 z m3 k3 r3 => q2.rt d e1 σ1 w F3 H3 z m3 k3 r3, fun e1 σ1 F3 H3 z m3 k3 => q2.bk _ _ F3 H3 z m3 (k3.drop i), fun e1 σ1 F3 H3 z m3 k3 => q2.ct _ _ F3 H3 z m3 (k3.drop i)⟩
    · obtain ⟨hn, hh⟩ := hh
      exact ⟨false, t3 c (by simpa using hn) C p1, (fun z => by cases z), fun _ => x σ' e' c fs _ ad F' H' hh mm k' rx⟩
end
end DL

set_option Elab.async false
set_option linter.all false
set_option maxRecDepth 100000
set_option maxHeartbeats 8000000
/-! where an exception is handled: its class, its fields; list comprehensions over ranges. By an AI agent. -/
namespace DL
open PySem PySem.Spec PyProof.Rows L2
structure HotV (X : Cx) {ι : Type} (v : ι → Vy) (a : Addr) (cls : Value) (d : Option Addr) : Prop where
  hd : X.A.handled = some (.ref a)
  pin : ∀ ii, ∃ oe, (a, oe) ∈ (v ii).pn ∧ L2N.Zn cls d oe ∧ ∃ vs, oe.data = .fields vs
theorem HotV.hot {X : Cx} {ι : Type} {v : ι → Vy} {a : Addr} {cls : Value} {d : Option Addr} (h : HotV X v a cls d) (ii : ι) : L2H.HotC (X.atV (v ii)) := by
  obtain ⟨oe, m, z, vs, e⟩ := h.pin ii
  exact ⟨(a, oe), ⟨h.hd, vs, e, z.2.2 vs e⟩, m⟩
theorem hotV_su {X : Cx} {ι : Type} {v : ι → Vy} {a : Addr} {cls : Value} {d : Option Addr} : HotV (suA X a) (suF v a cls d) a cls d :=
  ⟨rfl, fun q => ⟨q.1.2.1, List.mem_cons_self, q.2.1, q.2.2⟩⟩
/-! ### facts of an exception class of the text -/
structure ExK (K : PySem.W.Frag) (C : Addr) : Prop where
  cl : (PySem.W.clsIn K C).isSome = true
  hga : PySem.W.findIn K (.ref C) "__getattribute__" = some (some (.builtin "BaseException.__getattribute__"))
  hgt : PySem.W.findIn K (.ref C) "__getattr__" = some none
  hsub : PySem.W.subIn K (.ref C) (.type "BaseException") = some true
  ha : PySem.W.findIn K (.ref C) "__class__" = some (some (.builtin "object.__class__"))
  hn : PySem.W.specialIn K (.builtin "object.__class__") "__get__" = some (some (.builtin "getset_descriptor.__get__"))
  htk : PySem.W.takesIn K (.builtin "object.__class__") = some true
  hm : PySem.W.mroIn K C (.type "object") = some true
  hd : PySem.W.hasDictIn K C = true
/-- isinstance of an exception: of which classes it is yes, of which no -/
structure IsX (K : PySem.W.Frag) (mg : Str → Option Value) (x : Str) (yes no : List Str) : Prop where
  ex : ∃ T, mg x = some (.ref T) ∧ (∀ c ∈ yes, ∀ C, mg c = some (.ref C) → PySem.W.kitOne K (.ref C) (.ref T) = some true) ∧ ∀ c ∈ no, ∀ C, mg c = some (.ref C) → PySem.W.kitOne K (.ref C) (.ref T) = some false
def rIsH (K : PySem.W.Frag) (C a : Addr) (d : Option Addr) : List V → Hp → VK → Prop := fun xs H Q => ∃ (T : Addr) (b : Bool), xs = [.ref a, .ref T] ∧ (d = none ∨ ∃ dd gs, d = some dd ∧ H dd = some (.xd gs)) ∧ PySem.W.kitOne K (.ref C) (.ref T) = some b ∧ Q (.bl b) H
theorem inst_of {X : Cx} {pins : List (Addr × Obj)} {σ : L2.St} {H : Hp} {s : Shared} {a C : Addr} {d : Option Addr} {oe : Obj} (I : Inv X pins σ H s) (hp : (a, oe) ∈ X.pn) (hz : L2N.Zn (.ref C) d oe) (hf : ∃ vs, oe.data = .fields vs) (hd : d = none ∨ ∃ dd gs, d = some dd ∧ H dd = some (.xd gs)) :
    ∃ od, PySem.W.InstAt s.heap a oe C od := by
  obtain ⟨vs, e⟩ := hf
  have hg := (I.pin (a, oe) (List.mem_append_left _ hp)).1
  have nc : PySem.W.notCls oe = true := by unfold PySem.W.notCls; rw [e] <;> rfl
  rcases hd with rfl | ⟨dd, gs, rfl, h⟩
  · exact ⟨none, hg, hz.1, nc, by rw [hz.2.1]; trivial⟩
  · obtain ⟨u, hu⟩ := objOk_get (I.hok dd _ h)
    exact ⟨some u, hg, hz.1, nc, by rw [hz.2.1]; exact hu⟩
theorem call_isH {X : Cx} {a C : Addr} {d : Option Addr} {oe : Obj} (k : ExK X.K C) (hp : (a, oe) ∈ X.pn) (hz : L2N.Zn (.ref C) d oe) (hf : ∃ vs, oe.data = .fields vs) : CallR X (.builtin "isinstance") (rIsH X.K C a d) := by
  intro pins s σ H xs us Q I r h
  obtain ⟨T, b, rfl, hd, e, q⟩ := h
  obtain ⟨od, J⟩ := inst_of I hp hz hf hd
  match us, r with
  | [u1, u2], .cons r1 (.cons r2 .nil) =>
    obtain rfl : u1 = Value.ref a := r1
    obtain rfl : u2 = Value.ref T := r2
    exact PySem.W.kia_one (PySem.W.kitx_exc k.cl k.hga k.hgt k.hsub k.ha k.hn k.htk k.hm) I.kIn J e (fun z => nomatch z) fun tk => ⟨.bl b, H, I.kept (t' := tk) fun _ _ z => z, rfl, q⟩
def dIsX (i : Nat) (yes no : List Str) (a : Addr) (c : Str) (d : Option Addr) : DE := fun _ e Q => match e[i]? with
  | some (.fr (.exc c' _ d' a')) => c' = c ∧ d' = d ∧ a' = a ∧ if yes.contains c = true then Q (.bl true) e else no.contains c = true ∧ Q (.bl false) e
  | _ => False
/-- e.f -/
def dXf (i : Nat) (f : Str) (a : Addr) (c : Str) (d : Option Addr) : DE := fun _ e Q => match e[i]? with
  | some (.fr (.exc c' fs d' a')) => c' = c ∧ d' = d ∧ a' = a ∧ (match fs.lookup f with
    | some w => Q w e
    | none => False)
  | _ => False
section
variable {X : Cx} {ι : Type} {v : ι → Vy} {E : L2.St → XK} {a C : Addr} {d : Option Addr} {c x n f : Str} {pos p px pn : Pos}
theorem xd_rep {K : PySem.W.Frag} {mg : Str → Option Value} {F H : Hp} {fs : List (Str × D)} {u : V} (h : Same F H) (r : Rep K mg F (.exc c fs d a) u) : u = .ref a ∧ ((fs = [] ∧ d = none) ∨ ∃ dd gs, d = some dd ∧ H dd = some (.xd gs) ∧ RepF K mg F fs gs) := by
  cases r with
  | exc0 => exact ⟨rfl, .inl ⟨rfl, rfl⟩⟩
  | exc hF l => exact ⟨rfl, .inr ⟨_, _, rfl, h _ _ hF, l⟩⟩
theorem pd_isX (i : Nat) {yes no : List Str} (hot : HotV X v a (.ref C) d) (hm : X.mg c = some (.ref C)) (k : ExK X.K C) (h : IsX X.K X.mg x yes no) (hi : X.mg "isinstance" = none) (hN : X.N[i]? = some n := by rfl) (hv : ∀ ii, Vis (v ii).env.scope n := by first | exact fun _ => Or.inl rfl | exact fun _ => Or.inr (Or.inl rfl) | exact fun _ => Or.inr (Or.inr rfl))
    (hd : (n == ("__debug__" : Str)) = false := by decide) (hcd : (n == ("__classdict__" : Str)) = false := by decide) (hdb : (x == ("__debug__" : Str)) = false := by decide) (hgt : ∀ ii, Gl (X.atV (v ii)) x := by intro _; rfl) (hg : ∀ ii, Gl (X.atV (v ii)) "isinstance" := by intro _; rfl)
    (he : ∀ ii, starEach [.Name n pn, .Name x px] (v ii).env = (false, eval (.Name n pn) (v ii).env) :: starEach [.Name x px] (v ii).env := by intro _; rfl) (he2 : ∀ ii, starEach [.Name x px] (v ii).env = (false, eval (.Name x px) (v ii).env) :: starEach [] (v ii).env := by intro _; rfl) (hpl : ∀ ii, (backTo pos (starEach [.Name x px] (v ii).env)).any (·.1) = false := by intro _; rfl) :
    PD X v E (.Call (.Name "isinstance" p) [.Name n pn, .Name x px] [] pos) (dIsX i yes no a c d) := by
  obtain ⟨T, t1, t2, t3⟩ := h.ex
  refine ⟨tCB (rIsH X.K C a d) (tCons (tVar i) (tCons (tC (.ref T)) tNil)), fun ii => ?_, ?_⟩
  · obtain ⟨oe, m, z, hf⟩ := hot.pin ii
    exact pe_callB (r := rIsH X.K C a d) (call_isH (X := X.atV (v ii)) k m z hf) (hg ii) hi PyProof.Rows.boot_isinstance (pa_cons (pe_var hN (hv ii) hd hcd) (pa_cons (pe_glob (v := .ref T) (hgt ii) t1 rfl hdb) pa_nil (he2 ii)) (he ii)) (by decide) (by decide) (he ii) (hpl ii)
  · intro B G F H e σ Ē Q' Q kk xr hh q
    unfold dIsX at hh
    split at hh
    · rename_i c' fs' d' a' hs
      obtain ⟨rfl, rfl, rfl, hh⟩ := hh
      obtain ⟨u, h1, h2⟩ := kk.fr i _ hs
      obtain ⟨rfl, h3⟩ := xd_rep kk.fh h2
      refine ⟨_, h1, ?_⟩
      have hx : d' = none ∨ ∃ dd gs, d' = some dd ∧ H dd = some (.xd gs) := h3.imp (fun z => z.2) fun ⟨dd, gs, y1, y2, _⟩ => ⟨dd, gs, y1, y2⟩
      split at hh
      · rename_i hy
        exact ⟨T, true, rfl, hx, t2 _ (by simpa using hy) C hm, q _ e _ F H hh Mv.refl kk (.bl true)⟩
      · exact ⟨T, false, rfl, hx, t3 _ (by simpa using hh.1) C hm, q _ e _ F H hh.2 Mv.refl kk (.bl false)⟩
    · exact hh.elim
def tXfH (i : Nat) (a C : Addr) (d : Option Addr) (f : Str) : TE := fun σ H Q => σ[i]? = some (some (.ref a)) ∧ ∃ (dd : Addr) (gs : List (Str × V)) (w : V), d = some dd ∧ H dd = some (.xd gs) ∧ gs.lookup f = some w ∧ Q w H
theorem pe_xfH {X : Cx} {i : Nat} {oe : Obj} (k : ExK X.K C) (hno : PySem.W.findIn X.K (.ref C) f = some none) (hp : (a, oe) ∈ X.pn) (hz : L2N.Zn (.ref C) d oe) (hf : ∃ vs, oe.data = .fields vs) (he : PE X (.Name n pn) (tVar i)) (hb : attributeBase (.Name n pn) f X.env (eval (.Name n pn) X.env) = eval (.Name n pn) X.env) :
    PE X (.Attribute (.Name n pn) f pos) (tXfH i a C d f) := ⟨fun pins s σ H Q I h => by
  obtain ⟨h1, dd, gs, w, rfl, h2, h3, q⟩ := h
  refine attr_of hb (thn (he.run pins s σ H (fun x H1 => x = .ref a ∧ H1 = H) I ⟨_, h1, rfl, rfl⟩) fun u s1 hh => ?_)
  obtain ⟨x, H1, J, rx, ex, eh⟩ := hh
  subst ex
  rw [eh] at J
  obtain rfl : u = Value.ref a := rx
  obtain ⟨mA, hns, hr⟩ : ObjOk X.prog X.w H s1.heap dd (.xd gs) := J.hok dd _ h2
  obtain ⟨od, ho, hl⟩ := lookIn_ns hns
  obtain ⟨u, hu, ru⟩ := RelO.some_of (v := w) (o := mA f) (by rw [← h3]; exact hr f)
  obtain ⟨vs, e⟩ := hf
  have hg := (J.pin (a, oe) (List.mem_append_left _ hp)).1
  have IA : PySem.W.InstAt s1.heap a oe C (some od) := ⟨hg, hz.1, by unfold PySem.W.notCls; rw [e] <;> rfl, by rw [hz.2.1]; exact ho⟩
  exact HandSPX.exc_get J.kIn IA k.hga k.hgt k.hsub (PySem.W.findObj_own k.hd hno rfl (by rw [hl, hu])) (handed_of ru) ⟨w, H, J.tok _, ru, q⟩⟩
theorem pd_xf (i : Nat) (hot : HotV X v a (.ref C) d) (k : ExK X.K C) (hno : PySem.W.findIn X.K (.ref C) f = some none) (hN : X.N[i]? = some n := by rfl) (hv : ∀ ii, Vis (v ii).env.scope n := by first | exact fun _ => Or.inl rfl | exact fun _ => Or.inr (Or.inl rfl) | exact fun _ => Or.inr (Or.inr rfl)) (hd : (n == ("__debug__" : Str)) = false := by decide) (hcd : (n == ("__classdict__" : Str)) = false := by decide)
    (hb : ∀ ii, attributeBase (.Name n pn) f (v ii).env (eval (.Name n pn) (v ii).env) = eval (.Name n pn) (v ii).env := by intro _; rfl) : PD X v E (.Attribute (.Name n pn) f pos) (dXf i f a c d) := by
  refine ⟨tXfH i a C d f, fun ii => ?_, ?_⟩
  · obtain ⟨oe, m, z, hf⟩ := hot.pin ii
    exact pe_xfH (X := X.atV (v ii)) k hno m z hf (pe_var hN (hv ii) hd hcd) (hb ii)
  · intro B G F H e σ Ē Q' Q kk xr hh q
    unfold dXf at hh
    split at hh
    · rename_i c' fs' d' a' hs
      obtain ⟨rfl, rfl, rfl, hh⟩ := hh
      obtain ⟨u, h1, h2⟩ := kk.fr i _ hs
      obtain ⟨rfl, h3⟩ := xd_rep kk.fh h2
      split at hh
      · rename_i w hw
        rcases h3 with ⟨rfl, _⟩ | ⟨dd, gs, rfl, y2, y3⟩
        · cases hw
        · obtain ⟨z, z1, z2⟩ := y3.look hw
          exact ⟨h1, dd, gs, z, rfl, y2, z1, q w e z F H hh Mv.refl kk z2⟩
      · exact hh.elim
    · exact hh.elim
end
end DL

set_option Elab.async false
set_option linter.all false
set_option maxRecDepth 100000
set_option maxHeartbeats 8000000
/-! a list comprehension over a range where an exception is handled. By an AI agent. -/
namespace DL
open PySem PySem.Spec PyProof.Rows L2
/-- a block's context that bears the pins of its def -/
abbrev blkH (X : Cx) (s : Shared) (H : Hp) (sc : Scope) (ce : PySem.Env) (fp : List Addr) : Cx := { X.blk s H sc ce fp with pn := X.pn }
section
variable {X : Cx} {pl : List (Addr × Obj)} {σ : L2.St} {H : Hp} {t : Shared}
theorem hot_start {sc : Scope} {own : List (Str × Nat)} {fp : List Addr} (I : Inv X pl σ H t) (ok : BlkOk X.N X.env.scope sc own) (nd : X.N.Nodup) (hfp : ∀ b ∈ fp, FpOk X pl H b ∧ b < t.heap.objs.size) :
    Inv (blkH X t H sc (compEnvC sc (cellsFrom (t.heap.objs.size + 1) sc.names (cloFrom X.env.cells sc.names [])) t.heap.objs.size X.env) fp) [] (wipe σ (own.map (·.2))) H { t with heap := pushCells (t.heap.push { cls := .type "dict", data := .dict #[] }) sc.names } := by
  have J := block_start I ok nd hfp
  have O := J.ok
  refine ⟨⟨O.mod, O.kind, O.glob, O.blt, O.above, O.inj, O.has, O.cab, O.hd, O.frames, O.stk, O.exf, O.bs, O.bsz, O.noex, O.exfs, O.funs, O.frf⟩, J.os, J.bare, J.base, J.loc, J.cell, J.free, J.freeC, fun p hp => ?_, J.hok, J.len⟩
  rw [List.append_nil] at hp
  obtain ⟨g1, g2, g3, g4, g5⟩ := I.pin p (List.mem_append_left _ hp)
  have hz := Heap.lt_size g1
  refine ⟨pushCells_keeps _ _ _ _ (Heap.get?_push_of_some _ g1), g2, fun z => ?_, fun hm => ?_, g5⟩
  · have z' : p.1 = t.heap.objs.size := z
    rw [z'] at hz
    exact Nat.lt_irrefl _ hz
  · rcases List.mem_cons.mp (I.stkSub p.1 hm) with z | z
    · exact g3 z
    · exact g4 z
end
section
variable {X : Cx}
theorem lc_hot {pl : List (Addr × Obj)} {t : Shared} {σ : L2.St} {H : Hp} {Q : VK} {el tg it : Expr} {ifs : List Expr} {sc : Scope} {own : List (Str × Nat)} {pos pos' : Pos} {wi : TI} {gt : TG} {tt : TT} {te : TE} {use : Option (Value → Sem Unit)} {Qf : Value → Shared → Prop}
    (hc : L2H.HotC X) (nd : X.N.Nodup) (I : Inv X pl σ H t) (hi : L2H.PIH X tg it wi) (ok : BlkOk X.N X.env.scope sc own)
    (pgs : ∀ (t : Shared) (H : Hp) (C : Addr) (cl : List (Str × Addr)) (fp : List Addr), PG (blkH X t H sc (compEnvC sc cl C X.env) fp) tg gt) (pts : ∀ (t : Shared) (H : Hp) (C : Addr) (cl : List (Str × Addr)) (fp : List Addr), PTs (blkH X t H sc (compEnvC sc cl C X.env) fp) ifs tt)
    (pes : ∀ (t : Shared) (H : Hp) (C : Addr) (cl : List (Str × Addr)) (fp : List Addr), PE (blkH X t H sc (compEnvC sc cl C X.env) fp) el te) (hs : ∀ x, foldedSetIterable it X.env x = pure x) (h : tLc wi gt tt te (own.map (·.2)) σ H Q)
    (hRR : ∀ D C t' m H', Inv X pl σ H' t' → Q (.ref D) H' → t'.heap.Ns C m → FpOk X pl H' C → compPost (model X.prog X.w) X.A X.xe use Qf (.ref D) C (.ok .next) t') :
    wpAny (model X.prog X.w) X.A (comprehension (.ListComp el [⟨tg, it, ifs, 0⟩] sc pos) sc X.env pos' (newList []) false (eval it X.env) use) Qf X.xe t := by
  have clo : ∀ y ∈ sc.names, y.2 = .free → ∃ c, X.env.cells.lookup y.1 = some c := fun y hy e => I.ok.has _ ((ok.free y hy e).imp id id)
  refine wpAny_comprehension_free (use := use) rfl hs (closure_ok clo) ok.kind (fun y hy e => by rw [ok.uniq y hy, e]) (thn (hi.run pl t σ H _ I h) fun xv t1 hx => thn hx fun itv t2 h2 => ?_)
  obtain ⟨ia, fp, tn, J, H2, rfl, I2, T, st, fk, q⟩ := h2
  refine wpAny_newObj_type (newEnv_comp ?_) (by show 0 ≤ sizeLine; decide)
  have free2 : H2 t2.heap.objs.size = none := I2.hok.fresh (Nat.le_refl _)
  obtain ⟨W, ⟨m0, w0⟩, turn⟩ := q t2.heap.objs.size free2
  have I3 : Inv X pl σ (upd H2 t2.heap.objs.size (.lst [])) { t2 with heap := t2.heap.push { cls := .type "list", data := .seq ([] : List Value).toArray } } :=
    I2.laid (t' := t2.toks) (fun b o e => Heap.get?_push_of_some _ e) (Nat.le_refl _) ⟨Nat.zero_le _, [], 0, .nil, Heap.get?_push_size _ rfl⟩
  have hk3 : ∀ b o, t2.heap.get? b = some o → (t2.heap.push { cls := .type "list", data := .seq ([] : List Value).toArray }).get? b = some o := fun b o e => Heap.get?_push_of_some _ e
  have f3 : ∀ b ∈ fp, FpOk X pl (upd H2 t2.heap.objs.size (.lst [])) b ∧ b < (t2.heap.push { cls := .type "list", data := .seq ([] : List Value).toArray }).objs.size := fun b hb => by
    obtain ⟨o, e, _⟩ := T.obj _ _ st b hb
    have l2 := Heap.lt_size e
    exact ⟨⟨by rw [upd_ne (Nat.ne_of_lt l2)]; exact (fk b hb).1, (fk b hb).2⟩, Heap.lt_size (hk3 b o e)⟩
  have st3 := T.keep _ _ _ st fun b _ o e => hk3 b o e
  generalize hD : t2.heap.objs.size = D at *
  generalize hT3 : ({ t2 with heap := t2.heap.push { cls := .type "list", data := .seq ([] : List Value).toArray } } : Shared) = t3 at *
  have e3 : t2.heap.push { cls := .type "list", data := .seq ([] : List Value).toArray } = t3.heap := by rw [← hT3]
  rw [e3] at f3 st3
  generalize upd H2 D (.lst []) = H3 at *
  have I4 := hot_start I3 ok nd f3
  show codeAny _ _ (.compStart (.ListComp el [⟨tg, it, ifs, 0⟩] sc pos) 0 (.ref ia) (.ref D) (compEnvC sc (cellsFrom (t3.heap.objs.size + 1) sc.names (cloFrom X.env.cells sc.names [])) t3.heap.objs.size X.env)) (compPost (model X.prog X.w) X.A X.xe use Qf (.ref D) t3.heap.objs.size) { t3 with heap := pushCells (t3.heap.push { cls := .type "dict", data := .dict #[] }) sc.names }
  have kg := pgs t3 H3 t3.heap.objs.size (cellsFrom (t3.heap.objs.size + 1) sc.names (cloFrom X.env.cells sc.names [])) fp
  have kt := pts t3 H3 t3.heap.objs.size (cellsFrom (t3.heap.objs.size + 1) sc.names (cloFrom X.env.cells sc.names [])) fp
  have ke := pes t3 H3 t3.heap.objs.size (cellsFrom (t3.heap.objs.size + 1) sc.names (cloFrom X.env.cells sc.names [])) fp
  generalize hce : compEnvC sc (cellsFrom (t3.heap.objs.size + 1) sc.names (cloFrom X.env.cells sc.names [])) t3.heap.objs.size X.env = ce at I4 kg kt ke ⊢
  have locE : ce.locals = t3.heap.objs.size := by rw [← hce]; rfl
  have st4 : tn 0 (pushCells (t3.heap.push { cls := .type "dict", data := .dict #[] }) sc.names) := T.keep _ _ _ st3 fun b _ o e => pushCells_keeps _ _ _ _ (Heap.get?_push_of_some _ e)
  have fpk : ∀ {σ' : L2.St} {H' : Hp} {t' : Shared}, Inv (blkH X t3 H3 sc ce fp) [] σ' H' t' → (∀ b ∈ fp, H' b = none) → ∀ b ∈ fp, FpOk (blkH X t3 H3 sc ce fp) [] H' b := fun {σ' H' t'} K hn b hb =>
    ⟨hn b hb, (K.ok.exf b hb).1, K.ok.exfs b hb, .inl hb, (K.ok.exf b hb).2, fun p hp => (f3 b hb).1.2.2.2.2.2 p (List.mem_append_left _ (by rw [List.append_nil] at hp; exact hp))⟩
  have hotB : L2H.HotC (blkH X t3 H3 sc ce fp) := hc
  have run : codeAny (model X.prog X.w) X.A (.compLoop (.ListComp el [⟨tg, it, ifs, 0⟩] sc pos) 0 (.ref ia) (.ref D) ce) (compPost (model X.prog X.w) X.A X.xe use Qf (.ref D) t3.heap.objs.size) { t3 with heap := pushCells (t3.heap.push { cls := .type "dict", data := .dict #[] }) sc.names } := by
    refine compLoop_any (fun n t' => ∃ i H', Inv (blkH X t3 H3 sc ce fp) [] (wipe σ (own.map (·.2))) H' t' ∧ tn i t'.heap ∧ (∀ b ∈ fp, H' b = none) ∧ W i n H') ?_ m0 ⟨0, H3, I4, st4, fun b hb => (f3 b hb).1.1, w0⟩
    rintro n t5 ⟨i, H5, I5, st5, n5, w5⟩
    rcases turn i n H5 w5 with ⟨stop, qq⟩ | ⟨go, Nx, hNx, step⟩
    · refine thnF (T.done (blkH X t3 H3 sc ce fp) rfl rfl rfl hotB i [] t5 _ H5 (fun _ _ => False) I5 (fpk I5 n5) st5 stop) fun r t6 ⟨hr, I6⟩ => ?_
      subst hr
      have back : Inv X pl σ H5 t6 := I3.call' (ch := fp) I6.os I6.base I6.hok I6.bare fun b hb => ⟨(f3 b hb).1.2.2.2.1, (f3 b hb).1.2.1, (f3 b hb).1.2.2.2.2.1, (f3 b hb).1.2.2.2.2.2⟩
      have noC : H5 t3.heap.objs.size = none := by rw [← locE]; exact I6.free
      obtain ⟨m, hn, _⟩ := I6.loc
      have hn : t6.heap.Ns ce.locals m := hn
      rw [locE] at hn
      exact hRR D t3.heap.objs.size t6 m H5 back qq hn (I3.fpOk (Nat.le_refl _) noC)
    · refine thnF (T.item (blkH X t3 H3 sc ce fp) rfl rfl rfl hotB i [] t5 _ H5 (fun _ _ => False) I5 (fpk I5 n5) st5 go) fun r t6 ⟨u, hr, h6⟩ => ?_
      subst hr
      refine thnF h6 fun _ t7 ⟨x, H7, I7, r7, y7, st7, n7⟩ => ?_
      have I7p := I7.pinned (fpk I7 n7) (T.obj _ _ st7)
      refine thnF (kg.run _ t7 _ H7 x u _ I7p r7 (step x H7 y7)) fun _ t8 ⟨σ8, H8, I8, hw8, q8⟩ => ?_
      refine thnF (kt.run _ t8 σ8 H8 _ I8 q8) fun b t9 ⟨H9, I9, q9⟩ => ?_
      have len8 : (wipe σ (own.map (·.2))).length = σ8.length := by rw [← hw8, wipe_length]
      have fin : ∀ {t' : Shared} {H' : Hp}, Inv (blkH X t3 H3 sc ce fp) ([] ++ pinsAt fp t7.heap) σ8 H' t' → Nx H' → ∃ m, m < n ∧ ∃ i H', Inv (blkH X t3 H3 sc ce fp) [] (wipe σ (own.map (·.2))) H' t' ∧ tn i t'.heap ∧ (∀ b ∈ fp, H' b = none) ∧ W i m H' := fun {t' H'} K nx => by
        obtain ⟨m', hm, w'⟩ := hNx H' nx
        have kept : ∀ b ∈ fp, ∀ o, t7.heap.get? b = some o → t'.heap.get? b = some o ∧ H' b = none := fun b hb o e =>
          have z := K.pin (b, o) (List.mem_append_right _ (List.mem_append_right _ (mem_pinsAt hb e)))
          ⟨z.1, z.2.1⟩
        have K0 : Inv (blkH X t3 H3 sc ce fp) [] (wipe σ (own.map (·.2))) H' t' := (K.unpinned (pins := [])).weak len8 fun j w e => by
          rw [← hw8] at e
          exact (wipe_some e).1
        exact ⟨m', hm, i + 1, H', K0, T.keep _ _ _ st7 fun b hb o e => (kept b hb o e).1, fun b hb => let ⟨o, e, _⟩ := T.obj _ _ st7 b hb; (kept b hb o e).2, w'⟩
      cases b with
      | true =>
        rw [if_pos rfl] at q9
        refine thnF (ke.run _ t9 σ8 H9 _ I9 q9) fun z t10 ⟨yv, H10, I10, r10, acc, hD10, hz10, nx⟩ => ?_
        exact app_ok (X := blkH X t3 H3 sc ce fp) I10 hD10 hz10 r10 fun t11 I11 => fin I11 nx
      | false =>
        rw [if_neg (by decide)] at q9
        exact fin I9 q9
  exact codeAny_compStart_list run (T.self X.A 0 _ _ _ st4 run)
theorem pe_lcHot {el tg it : Expr} {ifs : List Expr} {sc : Scope} {own : List (Str × Nat)} {pos : Pos} {wi : TI} {gt : TG} {tt : TT} {te : TE} (hc : L2H.HotC X) (nd : X.N.Nodup) (hi : L2H.PIH X tg it wi) (ok : BlkOk X.N X.env.scope sc own)
    (pgs : ∀ (t : Shared) (H : Hp) (C : Addr) (cl : List (Str × Addr)) (fp : List Addr), PG (blkH X t H sc (compEnvC sc cl C X.env) fp) tg gt) (pts : ∀ (t : Shared) (H : Hp) (C : Addr) (cl : List (Str × Addr)) (fp : List Addr), PTs (blkH X t H sc (compEnvC sc cl C X.env) fp) ifs tt)
    (pes : ∀ (t : Shared) (H : Hp) (C : Addr) (cl : List (Str × Addr)) (fp : List Addr), PE (blkH X t H sc (compEnvC sc cl C X.env) fp) el te) (hs : ∀ x, foldedSetIterable it X.env x = pure x) : PE X (.ListComp el [⟨tg, it, ifs, 0⟩] sc pos) (tLc wi gt tt te (own.map (·.2))) := ⟨fun pl t σ H Q I h => by
  rw [eval_ListComp]
  refine lc_hot hc nd I hi ok pgs pts pes hs h fun D C t' m H' J q hn f => ⟨m, hn, fun h2 sb => ?_⟩
  obtain ⟨f0, f1, f2, f3, f4, f5⟩ := f
  exact ⟨.ref D, H', J.turned (t' := t'.toks) (fun b o hb e => (sb.2 b hb).trans e) f0 f1 f3 f4 f5, rfl, q⟩⟩
end
/-! ### over the text -/
abbrev blkHF (X : Cx) {ι : Type} (v : ι → Vy) (scope : Scope) : Bi ι → Vy := fun q =>
  ⟨q.2.1, q.2.2.1, PySem.compEnvC scope q.2.2.2.2.1 q.2.2.2.1 (v q.1).env, X.stack, q.2.2.2.2.2, fun x => scope.names.lookup x == some .cell, (v q.1).pn, fun _ _ => False⟩
theorem HotV.blk {X : Cx} {ι : Type} {v : ι → Vy} {a : Addr} {cls : Value} {d : Option Addr} {scope : Scope} (h : HotV X v a cls d) : HotV X (blkHF X v scope) a cls d := ⟨h.hd, fun q => h.pin q.1⟩
structure PDIH (X : Cx) {ι : Type} (v : ι → Vy) (E : L2.St → XK) (tg iter : Expr) (di : DI) : Prop where
  ex : ∃ wi, (∀ ii, L2H.PIH (X.atV (v ii)) tg iter wi) ∧ SI X.K X.mg E wi di
section
variable {X : Cx} {ι : Type} {v : ι → Vy} {E E2 : L2.St → XK} {a tg iter elt : Expr} {da de : DE} {dt : DT} {pos p : Pos} {di : DI} {dg : DG} {js : List Nat} {ifs : List Expr} {scope : Scope}
theorem pdi_rng1H (hm : X.mg "range" = none) (ha : PD X v E a da) (hg : ∀ ii, Gl (X.atV (v ii)) "range" := by intro _; rfl) (he : ∀ ii, starEach [a] (v ii).env = (false, eval a (v ii).env) :: starEach [] (v ii).env := by intro _; rfl) (hs : ∀ ii, starEach [a] (v ii).env = [(false, eval a (v ii).env)] := by intro _; rfl) :
    PDIH X v E tg (.Call (.Name "range" p) [a] [] pos) (dRange1 da) := by
  obtain ⟨ta, ha, sa⟩ := ha.ex
  exact ⟨iRng1 (tCons ta tNil), fun ii => L2H.pi_range1H (X := X.atV (v ii)) (hg ii) hm (pa_cons (ha ii) pa_nil (he ii)) (hs ii), si_rng1 sa⟩
theorem pn_lcH (own : List (Str × Nat)) {at' : Addr} {cls : Value} {d : Option Addr} (nd : X.N.Nodup) (hot : HotV X v at' cls d) (hi : PDIH X v E tg iter di) (hg : PDG X (blkHF X v scope) js tg dg) (ht : PDTs X (blkHF X v scope) E2 ifs dt) (he : PD X (blkHF X v scope) E2 elt de)
    (ok : ∀ ii, blkC X.N (v ii).env.scope scope own = true := by intro _; kernel_rfl) (hj : ∀ j ∈ js, j ∈ own.map (·.2) := by decide) (hs : ∀ ii x, foldedSetIterable iter (v ii).env x = pure x := by intro _ _; rfl) :
    PN X v E (.ListComp elt [⟨tg, iter, ifs, 0⟩] scope pos) (dLc di dg dt de (own.map (·.2))) := by
  obtain ⟨wi, hi, si⟩ := hi.ex
  obtain ⟨gg, hg, sg⟩ := hg.ex
  obtain ⟨tt, ht, st⟩ := ht.ex
  obtain ⟨te, he, se⟩ := he.ex
  exact ⟨tLc wi gg tt te (own.map (·.2)), fun ii => pe_lcHot (X := X.atV (v ii)) (hot.hot ii) nd (hi ii) (blkOk_by (ok ii)) (fun s H C cl fp => hg (ii, s, H, C, cl, fp)) (fun s H C cl fp => ht (ii, s, H, C, cl, fp)) (fun s H C cl fp => he (ii, s, H, C, cl, fp)) (hs ii), sn_lc si sg hj st se⟩
/-- a target, a plain store -/
theorem pg_varH (i : Nat) {x : Str} (nd : X.N.Nodup) (hi : X.N[i]? = some x := by rfl) (hx : ∀ ii, Loc (v ii).env.scope x := by first | exact fun _ => Or.inl rfl | exact fun _ => Or.inr rfl) (hf : ∀ ii, (v ii).fn x = true ∨ (v ii).env.scope.names.lookup x = some .local := by first | exact fun _ => .inl rfl | exact fun _ => .inr rfl) :
    PDG X v [i] (.Name x p) (gVar i) := ⟨_, fun ii => pg_name nd hi (hx ii) (hf ii), sg_var⟩
theorem ds_asgH (i : Nat) {x : Str} (nd : X.N.Nodup) (ha : PD X v E a da) (hi : X.N[i]? = some x := by rfl) (hx : ∀ ii, Loc (v ii).env.scope x := by first | exact fun _ => Or.inl rfl | exact fun _ => Or.inr rfl) (hf : ∀ ii, (v ii).fn x = true ∨ (v ii).env.scope.names.lookup x = some .local := by first | exact fun _ => .inl rfl | exact fun _ => .inr rfl)
    (hs : ∀ ii, swapsWith a (some (.Name x p)) pos.line (v ii).env = pure false := by intro _; rfl) : PDS X v E (.Assign [.Name x p] a pos) (dAsg i da) := by
  obtain ⟨ta, ha, sa⟩ := ha.ex
  exact ⟨_, fun ii => ps_set nd hi (hx ii) (ha ii) (hs ii) (hf ii), ss_asg sa⟩
theorem ds_asgNH (i : Nat) {x : Str} {dn : DN} (nd : X.N.Nodup) (ha : PN X v E a dn) (hi : X.N[i]? = some x := by rfl) (hx : ∀ ii, Loc (v ii).env.scope x := by first | exact fun _ => Or.inl rfl | exact fun _ => Or.inr rfl) (hf : ∀ ii, (v ii).fn x = true ∨ (v ii).env.scope.names.lookup x = some .local := by first | exact fun _ => .inl rfl | exact fun _ => .inr rfl)
    (hs : ∀ ii, swapsWith a (some (.Name x p)) pos.line (v ii).env = pure false := by intro _; rfl) : PDS X v E (.Assign [.Name x p] a pos) (dAsgN i dn) := by
  obtain ⟨ta, ha, sa⟩ := ha.ex
  exact ⟨_, fun ii => ps_set nd hi (hx ii) (ha ii) (hs ii) (hf ii), ss_asgN sa⟩
end
end DL

set_option Elab.async false
set_option linter.all false
set_option maxRecDepth 100000
set_option maxHeartbeats 8000000
/-! a def that is called with the exception that is handled. By an AI agent. -/
namespace DL
open PySem PySem.Spec PyProof.Rows L2
structure FnHZ (P : Program) (w : World) (K : PySem.W.Frag) (mg : Str → Option Value) (base : Heap) (k : Nat) (f : Addr) (fd : FuncData) (ps : List Str) (a : Addr) (cls : Value) (d : Option Addr) (sp : Sp) : Prop where
  len : ∀ vs H Q E, sp vs H Q E → vs.length = ps.length
  run : ∀ (A : Around) (outer : List PySem.Env) (t : Shared) (H : Hp) (args : Args) (us : List Value) (vs : List V) (Q : VK) (oe : Obj), L2H.RoomH k A → A.handled = some (.ref a) → L2N.Zn cls d oe → (∃ fv, oe.data = .fields fv) → L2H.PinOk outer H t (a, oe) →
    Env0 P w K mg base A outer t H → BindsTo t fd args (ps.zip us) → Vals vs us → sp vs H Q E0 → codeAny (model P w) A (.call (.ref f) args) (CR CX0 outer P w H t Q E0) t
section
variable {P : Program} {w : World} {K : PySem.W.Frag} {mg : Str → Option Value} {base : Heap} {x qual : Str} {params : Arguments} {body : List Stmt} {scope : Scope} {f : Addr} {fd : FuncData} {N ps : List Str} {k : Nat} {sp : Sp} {a : Addr} {cls : Value} {d : Option Addr}
theorem fnHZ_of {kws : List (Str × V)} (F : FunD K x qual params body scope [] kws f fd) (S : FnScope N ps scope) (len : ∀ vs H Q E, sp vs H Q E → vs.length = ps.length)
    (hb : ∀ (cdv : Value) (A : Around) (outer : List PySem.Env) (t : Shared) (H : Hp) (vs : List V) (Q : VK) (oe : Obj), A.handled = some (.ref a) → L2N.Zn cls d oe → (∃ fv, oe.data = .fields fv) → L2H.RoomH k (A.deeper (envOfC qual scope t.heap.objs.size f cdv)) → sp vs H Q E0 →
      ∃ ts, PSs (L2H.cxH CX0 P w K mg base N qual scope f cdv A outer t H E0 (a, oe)) body ts ∧ ts { nx := fun _ H' => Q .non H', rt := Q } (L2.start N vs) H) : FnHZ P w K mg base (k + 1) f fd ps a cls d sp := by
  obtain ⟨oc, od, dV, kV, doc, pm, an, cdv, ct, osl, rfl, lk, hcd, _, _⟩ := F.ex
  refine ⟨len, fun A outer t H args us vs Q oe hr hh hz hf hpin e0 bnd r hsp => ?_⟩
  have kin : K.In t.heap := e0.mod.kin.keeps fun b o e => (e0.bs b o e).1
  have nolim : t.heap.NoLimit := e0.mod.nolimit.keeps fun b o e => (e0.bs b o e).1
  have kinds : ∀ y ∈ ps.zip us, scope.names.lookup y.1 = some .local ∨ (scope.names.lookup y.1 = some .cell ∧ ((cellsFrom (t.heap.objs.size + 1) scope.names []).lookup y.1).isSome = true) := fun y hy =>
    (S.par y.1 (List.of_mem_zip (a := y.1) (b := y.2) hy).1).imp id fun q => ⟨q, PySem.W.cellsFrom_some _ _ _ (.inl q)⟩
  refine codeAny_call_function hr.depth (kin _ _ lk) rfl S.co S.gen rfl (PySem.W.codeRec_of kin hcd) (bnd _ _ _ _ (wpAny_newFunctionEnv_cells S.kind kinds fun env he t1 inC => ?_))
  subst he
  refine ⟨nolim.keeps inC.toInCall.keep, codeAny_func ?_⟩
  obtain ⟨ts, h1, h2⟩ := hb cdv A outer t H vs Q oe hh hz hf (hr.deeper _) hsp
  have J := L2H.inv_startH (CX := CX0) (E := E0) S hpin e0 (len _ _ _ _ hsp) r inC
  refine wpAny_mono (h1.run [] t1 _ H _ J h2) (fun fl t' q => ?_) fun e t' q => q
  match fl, q with
  | .ret u, ⟨v, σ', H', J', rv, q⟩ => exact ⟨v, H', J'.os, J'.bare, J'.base, J'.hok, rv, q⟩
  | .next, ⟨σ', H', J', q⟩ => exact ⟨.non, H', J'.os, J'.bare, J'.base, J'.hok, rfl, q⟩
  | .brk, ⟨_, _, _, q⟩ => exact q.elim
  | .cont, ⟨_, _, _, q⟩ => exact q.elim
end
/-- a promise over data: of the class and the fields -/
abbrev HSp : Type := Str → List (Str × D) → (D → Prop) → Prop
def spH (K : PySem.W.Frag) (mg : Str → Option Value) (a : Addr) (c : Str) (d : Option Addr) (hsp : HSp) : Sp := fun vs H Q _ => ∃ (G F : Hp) (fs : List (Str × D)) (Q' : D → Prop), vs = [.ref a] ∧ Same F H ∧ Same G H ∧ Rep K mg F (.exc c fs d a) (.ref a) ∧ hsp c fs Q' ∧
  ∀ r v F' H', Q' r → Mv G F F' → Same F' H' → Same G H' → Rep K mg F' r v → Q v H'
structure FnHot (P : Program) (w : World) (K : PySem.W.Frag) (mg : Str → Option Value) (base : Heap) (lvl : Nat) (x : Str) (hsp : HSp) : Prop where
  ex : ∃ (f : Addr) (fd : FuncData) (ps : List Str), mg x = some (.ref f) ∧ PySem.W.keepIn K (.ref f) = true ∧ Binds K fd ps [] ∧ ∀ (a : Addr) (c : Str) (C : Addr) (d : Option Addr), mg c = some (.ref C) → FnHZ P w K mg base lvl f fd ps a (.ref C) d (spH K mg a c d hsp)
section
variable {P : Program} {w : World} {K : PySem.W.Frag} {mg : Str → Option Value} {base h : Heap} {x nm qual : Str} {params : Arguments} {body : List Stmt} {scope : Scope} {f : Addr} {fd : FuncData} {N : List Str} {n : Str} {k : Nat} {hsp : HSp}
theorem fn_okH {cs : List Str} {ds : Addr → Str → Option Addr → DS} {kws : List (Str × V)} (F : FunD K nm qual params body scope [] kws f fd) (S : FnScope N [n] scope) (hcs : ∀ c fs Q', hsp c fs Q' → c ∈ cs)
    (hb : ∀ (cdv : Value) (A : Around) (outer : List PySem.Env) (t : Shared) (H : Hp) (a : Addr) (oe : Obj) (c : Str) (C : Addr) (d : Option Addr), c ∈ cs → mg c = some (.ref C) → HotV (L2H.cxH CX0 P w K mg base N qual scope f cdv A outer t H E0 (a, oe)) (L2H.cxH CX0 P w K mg base N qual scope f cdv A outer t H E0 (a, oe)).vy a (.ref C) d →
      L2H.RoomH k (A.deeper (envOfC qual scope t.heap.objs.size f cdv)) → PDSs (L2H.cxH CX0 P w K mg base N qual scope f cdv A outer t H E0 (a, oe)) (L2H.cxH CX0 P w K mg base N qual scope f cdv A outer t H E0 (a, oe)).vy EZ body (ds a c d))
    (hd : ∀ a c d fs Q', hsp c fs Q' → ds a c d X0 { nx := fun _ => Q' .non, rt := fun r _ => Q' r } (.fr (.exc c fs d a) :: List.replicate (N.length - 1) .no)) (a : Addr) (c : Str) (C : Addr) (d : Option Addr) (hm : mg c = some (.ref C)) :
    FnHZ P w K mg base (k + 1) f fd [n] a (.ref C) d (spH K mg a c d hsp) := by
  refine fnHZ_of F S (fun vs H Q E ⟨G, F, fs, Q', e, _⟩ => by rw [e]; rfl) fun cdv A outer t H vs Q oe hh hz hf hr ⟨G, F, fs, Q', e, s1, s2, r, hs, hq⟩ => ?_
  subst e
  have hot : HotV (L2H.cxH CX0 P w K mg base N qual scope f cdv A outer t H E0 (a, oe)) (L2H.cxH CX0 P w K mg base N qual scope f cdv A outer t H E0 (a, oe)).vy a (.ref C) d := ⟨hh, fun _ => ⟨oe, List.mem_singleton.mpr rfl, hz, hf⟩⟩
  obtain ⟨ts, h1, st⟩ := (hb cdv A outer t H a oe c C d (hcs c fs Q' hs) hm hot hr).ex
  have k0 : Ok K mg (fun _ => none) G F H [.fr (.exc c fs d a)] ([V.ref a].map some) := by
    refine ⟨s1, s2, rfl, fun i d' hi => ?_, fun i b o hi => ?_, fun i j b c o o' z hi => ?_⟩
    · match i, hi with
      | 0, hi => cases hi; exact ⟨_, rfl, r⟩
      | i + 1, hi => simp at hi
    · match i, hi with
      | 0, hi => cases hi
      | i + 1, hi => simp at hi
    · match i, hi with
      | 0, hi => cases hi
      | i + 1, hi => simp at hi
  exact ⟨ts, h1 (), st (fun _ => none) G F H _ _ X0 _ _ (ok_start k0) (fun _ => x0) (hd a c d fs Q' hs) ⟨fun e' σ' F' H' z m kk => hq .non _ F' H' z m kk.fh kk.gh .non, fun r e' σ' v F' H' z m kk rr => hq r v F' H' z m kk.fh kk.gh rr, fun _ _ _ _ z => z.elim, fun _ _ _ _ z => z.elim⟩⟩
theorem fnHot_mk (X : K.In h) (G : h.Ns mainGlobals mg) (g : (He.Fa.glo x).ok K = true) (F : FunD K nm qual params body scope [] [] (He.fAd K (x, none)) fd)
    (hb : ∀ (kV doc pm : Value) (an : Option Addr) (cdv ct : Value) (us : List Value), us.length = [n].length → bindArgs (PySem.W.fnOf nm qual params body scope .none kV doc pm an cdv ct) ⟨us, []⟩ = pure ([n].zip us))
    (ok : ∀ (a : Addr) (c : Str) (C : Addr) (d : Option Addr), mg c = some (.ref C) → FnHZ P w K mg base k (He.fAd K (x, none)) fd [n] a (.ref C) d (spH K mg a c d hsp)) : FnHot P w K mg base k x hsp :=
  ⟨_, fd, [n], He.glo_ok X G g, F.kp, F.bindsN hb, ok⟩
end
/-- x(e), e the handled exception -/
def dCallHot (i : Nat) (hsp : HSp) (a : Addr) (c : Str) (d : Option Addr) : DE := fun _ e Q => match e[i]? with
  | some (.fr (.exc c' fs d' a')) => c' = c ∧ d' = d ∧ a' = a ∧ hsp c fs fun r => Q r e
  | _ => False
section
variable {X : Cx} {k lvl : Nat} {f a : Addr} {fd : FuncData} {ps : List Str} {cls : Value} {d : Option Addr} {sp : Sp} {x n : Str} {p pos pn : Pos} {i : Nat}
theorem pe_callHZ {oe : Obj} (F : FnHZ X.prog X.w X.K X.mg X.base k f fd ps a cls d sp) (hr : L2H.RoomH k X.A) (hh : X.A.handled = some (.ref a)) (hp : (a, oe) ∈ X.pn) (hz : L2N.Zn cls d oe) (hf : ∃ vs, oe.data = .fields vs) (hg : Gl X x) (hm : X.mg x = some (.ref f)) (hk : PySem.W.keepIn X.K (.ref f) = true) (hb : Binds X.K fd ps [])
    (he : PE X (.Name n pn) (tVar i)) (hdb : (x == ("__debug__" : Str)) = false) (hs : starEach [.Name n pn] X.env = (false, eval (.Name n pn) X.env) :: starEach [] X.env) (hpl : (backTo pos (starEach [] X.env)).any (·.1) = false) :
    PE X (.Call (.Name x p) [.Name n pn] [] pos) (fun σ H Q => σ[i]? = some (some (.ref a)) ∧ sp [.ref a] H Q E0) := ⟨fun pl t σ H Q I ⟨h1, h⟩ => by
  refine wpAny_Call_Name_kw (ld_glob I hg hm (PySem.W.callWith_K (h₀ := X.base) I.ok.mod.kin hk (thn ((pa_cons he pa_nil hs).run pos pl t σ H (fun vs H1 => vs = [V.ref a] ∧ H1 = H) I ⟨_, h1, rfl, rfl⟩) fun us t1 hh1 => ?_) hs hpl) hdb)
  obtain ⟨vs, H1, J, r, rfl, eh⟩ := hh1
  rw [eh] at J
  refine ⟨J.kIn, ?_⟩
  have hl : (us ++ []).length = ps.length := by rw [List.append_nil, ← r.length]; exact F.len _ _ _ _ h
  have bb := hb t1 us J.kIn hl
  rw [List.append_nil] at bb
  have P1 := J.pin (a, oe) (List.mem_append_left _ hp)
  have po : L2H.PinOk X.stack H t1 (a, oe) := ⟨P1.1, P1.2.1, fun hm => (List.mem_cons.mp (J.stkSub a hm)).elim P1.2.2.1 P1.2.2.2.1, P1.2.2.2.2⟩
  refine wpAny_call (codeAny_mono (F.run X.A X.stack t1 H ⟨us, []⟩ us [.ref a] Q oe hr hh hz hf po J.env0 bb r h) fun res t' q => ?_)
  match res, q with
  | .error er, q => exact q.elim
  | .ok (.ret u), q => exact J.after q⟩
theorem pd_callHot {ι : Type} {v : ι → Vy} {E : L2.St → XK} {C : Addr} {c : Str} {hsp : HSp} (i : Nat) (hot : HotV X v a (.ref C) d) (hc : X.mg c = some (.ref C)) (F : FnHot X.prog X.w X.K X.mg X.base lvl x hsp) (hr : L2H.RoomH k X.A) (hl : lvl ≤ k := by decide) (hN : X.N[i]? = some n := by rfl)
    (hv : ∀ ii, Vis (v ii).env.scope n := by first | exact fun _ => Or.inl rfl | exact fun _ => Or.inr (Or.inl rfl) | exact fun _ => Or.inr (Or.inr rfl)) (hd : (n == ("__debug__" : Str)) = false := by decide) (hcd : (n == ("__classdict__" : Str)) = false := by decide) (hdb : (x == ("__debug__" : Str)) = false := by decide) (hg : ∀ ii, Gl (X.atV (v ii)) x := by intro _; rfl)
    (he : ∀ ii, starEach [.Name n pn] (v ii).env = (false, eval (.Name n pn) (v ii).env) :: starEach [] (v ii).env := by intro _; rfl) (hpl : ∀ ii, (backTo pos (starEach [] (v ii).env)).any (·.1) = false := by intro _; rfl) : PD X v E (.Call (.Name x p) [.Name n pn] [] pos) (dCallHot i hsp a c d) := by
  obtain ⟨f, fd, ps, hm, hk, hb, F⟩ := F.ex
  refine ⟨fun σ H Q => σ[i]? = some (some (.ref a)) ∧ spH X.K X.mg a c d hsp [.ref a] H Q E0, fun ii => ?_, ?_⟩
  · obtain ⟨oe, m, z, hf⟩ := hot.pin ii
    exact pe_callHZ (X := X.atV (v ii)) (F a c C d hc) (hr.mono hl) hot.hd m z hf (hg ii) hm hk hb (pe_var hN (hv ii) hd hcd) hdb (he ii) (hpl ii)
  · intro B G F H e σ Ē Q' Q kk xr hh q
    unfold dCallHot at hh
    split at hh
    · rename_i c' fs d' a' hs
      obtain ⟨rfl, rfl, rfl, hh⟩ := hh
      obtain ⟨u, h1, h2⟩ := kk.fr i _ hs
      obtain ⟨rfl, _⟩ := xd_rep kk.fh h2
      refine ⟨h1, loose F H, F, fs, fun r => Q' r e, rfl, kk.fh, fun b o h => (loose_of h).2, h2, hh, fun r v F' H' h3 m fh gh rr => ?_⟩
      have g := gr_call m fh gh kk.fh
      exact q r e v F' H' h3 (kk.mv g) (kk.grow g) rr
    · exact hh.elim
end
end DL

set_option Elab.async false
set_option linter.all false
set_option maxRecDepth 100000
set_option maxHeartbeats 8000000
/-! == and != of instances of an own class with an own __eq__. By an AI agent. -/
namespace DL
open PySem PySem.Spec PyProof.Rows L2
section
variable {prog : Program} {w : World} {A : Around} {E : Value → Shared → Prop} {t : Shared} {K : PySem.W.Frag} {x y C f : Addr} {ox oy : Obj} {od oe : Option Obj}
theorem bnd_ne {M : Model} {us : List Value} {Q : Option Value → Shared → Prop} (kin : K.In t.heap) (I : PySem.W.InstAt t.heap x ox C od) (hs : PySem.W.findIn K (.ref C) "__ne__" = some (some (.builtin "object.__ne__")))
    (h : wpAny M A (call (.builtin "object.__ne__") (.ref x :: us)) (fun v => Q (some v)) E t) : wpAny M A (callSpecialIfBound? (.ref x) "__ne__" us) Q E t := by
  have fin : wpAny M A (call (.builtin "object.__ne__") ([.ref x] ++ us) >>= fun v => pure (some v)) Q E t := wpAny_bind (wpAny_mono h (fun v t' q => wpAny_pure q) fun _ _ q => q)
  simp only [callSpecialIfBound?, bindSpecialIfBound?]
  refine wpAny_holding (wpAny_bind (wpAny_bind (wpAny_bind (I.type.here ((PySem.W.looks_findIn kin hs).here (wpAny_bind (wpAny_askSetting (wpAny_ite ?_))))))))
  have bnd := F.cmp_object.ne.bind (.ref x)
  split
  · exact wpAny_bind (wpAny_of_eq bnd (wpAny_pure (by exact fin)))
  · exact wpAny_tryCatch (wpAny_bind (wpAny_of_eq bnd (wpAny_pure (by exact fin))))
/-- object.__ne__ asks the own __eq__ -/
theorem call_ne {Q : Value → Shared → Prop} {b : Value} (hu : A.in1.units < cLine) (kin : K.In t.heap) (I : PySem.W.InstAt t.heap x ox C od) (hm : PySem.W.mroIn K C (.type "object") = some true) (he : PySem.W.findIn K (.ref C) "__eq__" = some (some (.ref f))) (hf : PySem.W.isFn K (.ref f) = true)
    (h : wpAny (model prog w) A.in1 (call (.ref f) [.ref x, b]) (fun v t' => ∃ r, v = .bool r ∧ Q (.bool (!r)) t') E t) : wpAny (model prog w) A (call (.builtin "object.__ne__") [.ref x, b]) Q E t := by
  refine wpAny_call (codeAny_call_builtin F.cmp_object.ne.plain F.cmpEntry_ne (PySem.W.check_slot F.cmpKind_ne F.cmpSplit_ne (I.type.andThen (PySem.W.looks_mroIn kin hm)) (F.cmpArgs_ne _ _) ?_))
  unfold Builtin.«object.__ne__»
  refine wpAny_bind (wpAny_of_eq (a := ((Value.ref x : Value), [b])) (by first | rfl | (simp only [slotArgs]; rfl)) ?_)
  refine wpAny_bind (wpAny_cRoomFor hu ?_)
  refine wpAny_bind (PySem.W.ifBound_K kin I he hf (wpAny_mono h (fun v t' q => ?_) fun _ _ q => q))
  obtain ⟨r, rfl, q⟩ := q
  exact wpAny_bind (wpAny_truthy_bool (wpAny_pure q))
theorem rc_ne {Q : Value → Shared → Prop} (hu : A.units < cLine) (hu1 : A.in1.units < cLine) (kin : K.In t.heap) (I : PySem.W.InstAt t.heap x ox C od) (J : PySem.W.InstAt t.heap y oy C oe) (hm : PySem.W.mroIn K C (.type "object") = some true) (hn : PySem.W.findIn K (.ref C) "__ne__" = some (some (.builtin "object.__ne__")))
    (he : PySem.W.findIn K (.ref C) "__eq__" = some (some (.ref f))) (hf : PySem.W.isFn K (.ref f) = true)
    (h : wpAny (model prog w) A.in1 (call (.ref f) [.ref x, .ref y]) (fun v t' => ∃ r, v = .bool r ∧ Q (.bool (!r)) t') E t) : wpAny (model prog w) A (richCompare .NotEq (.ref x) (.ref y)) Q E t := by
  have one : wpAny (model prog w) A (tryCompare (.ref x) (cmpInfo .NotEq).2.1 (.ref y)) (fun r t' => ∃ v, r = some v ∧ Q v t') E t := by
    unfold tryCompare
    refine wpAny_bind (bnd_ne kin I hn (call_ne hu1 kin I hm he hf (wpAny_mono h (fun v t' q => ?_) fun _ _ q => q)))
    obtain ⟨r, hr, q⟩ := q
    exact ⟨r, hr, wpAny_pure ⟨_, rfl, q⟩⟩
  unfold richCompare
  simp only [oneThing_ref]
  refine wpAny_holding (wpAny_bind (wpAny_cRoomFor hu (wpAny_bind (I.type.here (wpAny_bind (J.type.here ?_))))))
  rw [show (Value.ref C != Value.ref C) = false from by simp]
  simp only [Bool.false_eq_true, if_false]
  refine wpAny_bind (wpAny_pure ?_)
  simp only [Bool.false_eq_true, if_false]
  refine wpAny_bind (wpAny_mono one (fun r t' q => ?_) fun _ _ q => q)
  obtain ⟨v, rfl, q⟩ := q
  exact wpAny_pure q
end
/-- what the text must say of a class with an own __eq__ -/
structure EqC (K : PySem.W.Frag) (mg : Str → Option Value) (c : Str) : Prop where
  ex : ∀ C, mg c = some (.ref C) → PySem.W.mroIn K C (.type "object") = some true ∧ PySem.W.findIn K (.ref C) "__ne__" = some (some (.builtin "object.__ne__"))
def rCmpO (C : Addr) (neg : Bool) (sp : Sp) : R2 := fun x y H Q => ∃ a b dx dy fs gs, x = .ref a ∧ y = .ref b ∧ H a = some (.ins C dx fs) ∧ H b = some (.ins C dy gs) ∧ sp [.ref a, .ref b] H (fun v H' => ∃ r, v = .bl r ∧ Q (.bl (if neg then !r else r)) H') E0
section
variable {X : Cx} {k : Nat} {f C : Addr} {fd : FuncData} {ps : List Str} {sp : Sp}
theorem run_cmp {A : Around} {pl : List (Addr × Obj)} {σ : L2.St} {H : Hp} {t : Shared} {a b : Addr} {Q : VK} {Ex : Value → Shared → Prop} (F : FnOk X.prog X.w X.K X.mg X.base (L2N.CX X.prog X.w) k f fd ps sp) (hr : Room k A) (hfr : A.frames = X.A.frames) (hb : Binds X.K fd ps []) (I : Inv X pl σ H t)
    (h : sp [.ref a, .ref b] H Q E0) : wpAny (model X.prog X.w) A (call (.ref f) [.ref a, .ref b]) (fun u t' => ∃ v H', Inv X pl σ H' t' ∧ RelV v u ∧ Q v H') Ex t := by
  have e0 : Env0 X.prog X.w X.K X.mg X.base A X.stack t H := by
    have e := I.env0
    exact ⟨by rw [hfr]; exact e.frames, e.mod, e.bs, e.bsz, e.funs, e.frf, e.hok, e.bare⟩
  have ll := F.len _ _ _ _ h
  have rr : Vals [V.ref a, V.ref b] [Value.ref a, Value.ref b] := .cons rfl (.cons rfl .nil)
  have bb := hb t [.ref a, .ref b] I.kIn (by simpa using ll)
  rw [List.append_nil] at bb
  refine wpAny_call (codeAny_mono (F.run A X.stack t H ⟨[.ref a, .ref b], []⟩ _ _ _ E0 hr e0 bb rr h) fun res t' q => ?_)
  match res, q with
  | .error er, q => obtain ⟨_, _, _, _, _, _, _, _, _, _, _, _, z⟩ := q; exact z.elim
  | .ok (.ret u), q => exact I.after q
theorem op_eqO (F : FnOk X.prog X.w X.K X.mg X.base (L2N.CX X.prog X.w) k f fd ps sp) (hr : Room k X.A) (hs : PySem.W.findIn X.K (.ref C) "__eq__" = some (some (.ref f))) (hf : PySem.W.isFn X.K (.ref f) = true) (hb : Binds X.K fd ps []) : OpR X (compareOp .Eq) (rCmpO C false sp) := by
  intro pl σ' s' H x y v u Q I rx ry h
  obtain ⟨a, b, dx, dy, fs, gs, rfl, rfl, ha, hb2, h⟩ := h
  obtain rfl : v = Value.ref a := rx
  obtain rfl : u = Value.ref b := ry
  obtain ⟨mA, J, _⟩ := ins_get I.hok ha
  obtain ⟨mB, J2, _⟩ := ins_get I.hok hb2
  obtain ⟨o1, J, _⟩ := J.look
  obtain ⟨o2, J2, _⟩ := J2.look
  obtain ⟨m, fr⟩ := I.fr
  show wpAny _ _ (richCompare .Eq (.ref a) (.ref b)) _ _ _
  refine PySem.W.cmp_K (op := .Eq) (tb := .ref C) (Nat.lt_of_le_of_lt (Nat.le_add_right _ _) hr.units) fr I.ok.mod.kin J J2.type (by simp [PySem.W.notFirst]) hs hf (wpAny_mono (run_cmp F hr rfl hb I h) (fun w t' q => ?_) fun _ _ q => q)
  obtain ⟨z, H', I', rz, r, rfl, q⟩ := q
  cases rz
  exact ⟨.bl r, H', I', rfl, q⟩
theorem op_neO (F : FnOk X.prog X.w X.K X.mg X.base (L2N.CX X.prog X.w) k f fd ps sp) (hr : Room (k + 1) X.A) (hs : PySem.W.findIn X.K (.ref C) "__eq__" = some (some (.ref f))) (hf : PySem.W.isFn X.K (.ref f) = true) (hb : Binds X.K fd ps []) (hm : PySem.W.mroIn X.K C (.type "object") = some true) (hn : PySem.W.findIn X.K (.ref C) "__ne__" = some (some (.builtin "object.__ne__"))) :
    OpR X (compareOp .NotEq) (rCmpO C true sp) := by
  intro pl σ' s' H x y v u Q I rx ry h
  obtain ⟨a, b, dx, dy, fs, gs, rfl, rfl, ha, hb2, h⟩ := h
  obtain rfl : v = Value.ref a := rx
  obtain rfl : u = Value.ref b := ry
  obtain ⟨mA, J, _⟩ := ins_get I.hok ha
  obtain ⟨mB, J2, _⟩ := ins_get I.hok hb2
  obtain ⟨o1, J, _⟩ := J.look
  obtain ⟨o2, J2, _⟩ := J2.look
  show wpAny _ _ (richCompare .NotEq (.ref a) (.ref b)) _ _ _
  refine rc_ne (Nat.lt_of_le_of_lt (Nat.le_add_right _ _) hr.units) (by have := hr.in1.units; omega) I.kIn J J2 hm hn hs hf (wpAny_mono (run_cmp F hr.in1 rfl hb I h) (fun w t' q => ?_) fun _ _ q => q)
  obtain ⟨z, H', I', rz, r, rfl, q⟩ := q
  cases rz
  exact ⟨r, rfl, .bl (!r), H', I', rfl, q⟩
end
def dCmpO (neg : Bool) (c : Str) (dsp : DSp) (a b : DE) : DE := fun Ē e Q => a Ē e fun x e1 => b Ē e1 fun y e2 => match x, y with
  | .ins c1 fs, .ins c2 gs => c1 = c ∧ c2 = c ∧ dsp [.fr (.ins c1 fs), .fr (.ins c2 gs)] (fun d _ => match d with
    | .bl r => Q (.bl (if neg then !r else r)) e2
    | _ => False) X0
  | _, _ => False
section
variable {X : Cx} {ι : Type} {v : ι → Vy} {E : L2.St → XK} {k lvl : Nat} {a b : Expr} {da db : DE} {pos : Pos} {dsp : DSp} {c : Str}
theorem se_cmpO {K : PySem.W.Frag} {mg : Str → Option Value} {C : Addr} (hm : mg c = some (.ref C)) {neg : Bool} {ta tb : TE} (sa : SE K mg E ta da) (sb : SE K mg E tb db) : SE K mg E (tOp (rCmpO C neg (spOf K mg dsp)) ta tb) (dCmpO neg c dsp da db) := fun B G F H e σ Ē Q' Q k x h q =>
  sa B G F H e σ Ē _ _ k x h fun d1 e1 v1 F1 H1 h1 m1 k1 r1 => sb B G F1 H1 e1 σ Ē _ _ k1 (x.mv m1) h1 fun d2 e2 v2 F2 H2 h2 m2 k2 r2 => by
    have r1 := r1.mono m2.ff
    cases d1 with
    | ins c1 fs => cases d2 with
      | ins c2 gs =>
        obtain ⟨e1', e2', h2⟩ := h2
        subst e1'
        subst e2'
        obtain ⟨a1, dx1, gs1, rfl, f1, l1⟩ : ∃ a1 dx1 gs1, v1 = V.ref a1 ∧ F2 a1 = some (.ins C dx1 gs1) ∧ RepF K mg F2 fs gs1 := by
          cases r1 with
          | ins mm1 f1 l1 => rw [hm] at mm1; cases mm1; exact ⟨_, _, _, rfl, f1, l1⟩
        obtain ⟨a2, dx2, gs2, rfl, f2, l2⟩ : ∃ a2 dx2 gs2, v2 = V.ref a2 ∧ F2 a2 = some (.ins C dx2 gs2) ∧ RepF K mg F2 gs gs2 := by
          cases r2 with
          | ins mm1 f1 l1 => rw [hm] at mm1; cases mm1; exact ⟨_, _, _, rfl, f1, l1⟩
        refine ⟨a1, a2, _, _, _, _, rfl, rfl, k2.fh _ _ f1, k2.fh _ _ f2, ?_⟩
        have rl : RepL K mg F2 [.ins c2 fs, .ins c2 gs] [V.ref a1, V.ref a2] := .cons (.ins hm f1 l1) (.cons (.ins hm f2 l2) .nil)
        refine ⟨fun _ => none, loose F2 H2, F2, _, _, ok_frozen k2.fh rl, h2, no_ow, fun d as' v F' H' h3 m3 k3 r3 => ?_⟩
        have g := gr_call m3 k3.fh k3.gh k2.fh
        cases d with
        | bl r =>
          cases r3
          exact ⟨r, rfl, q _ e2 _ F' H' h3 ((m1.trans m2).trans (k2.mv g)) (k2.grow g) (.bl _)⟩
        | _ => exact h3.elim
      | _ => exact h2.elim
    | _ => exact h2.elim
theorem pd_eqO (F : FnXM X.prog X.w X.K X.mg X.base lvl c "__eq__" dsp) (g : Good X k) (ha : PD X v E a da) (hb : PD X v E b db) (hl : lvl ≤ k := by decide) : PD X v E (.Compare a [.Eq] [b] pos) (dCmpO false c dsp da db) := by
  obtain ⟨C, f, fd, ps, hm, hc, hfi, hfn, hk, hkC, hmk, hfI, hbd, F⟩ := F.fn.ex
  obtain ⟨ta, ha, sa⟩ := ha.ex
  obtain ⟨tb, hb, sb⟩ := hb.ex
  exact ⟨_, fun ii => pe_cmpR (op_eqO (X := X.atV (v ii)) F (g.room.mono hl) hfi hfn hbd) (ha ii) (hb ii) (nomark _), se_cmpO hm sa sb⟩
theorem pd_neO (F : FnXM X.prog X.w X.K X.mg X.base lvl c "__eq__" dsp) (g : Good X (k + 1)) (hq : EqC X.K X.mg c) (ha : PD X v E a da) (hb : PD X v E b db) (hl : lvl ≤ k := by decide) : PD X v E (.Compare a [.NotEq] [b] pos) (dCmpO true c dsp da db) := by
  obtain ⟨C, f, fd, ps, hm, hc, hfi, hfn, hk, hkC, hmk, hfI, hbd, F⟩ := F.fn.ex
  obtain ⟨ta, ha, sa⟩ := ha.ex
  obtain ⟨tb, hb, sb⟩ := hb.ex
  obtain ⟨q1, q2⟩ := hq.ex C hm
  exact ⟨_, fun ii => pe_cmpR (op_neO (X := X.atV (v ii)) (F.mono hl) g.room hfi hfn hbd q1 q2) (ha ii) (hb ii) (nomark _), se_cmpO hm sa sb⟩
end
end DL

set_option Elab.async false
set_option linter.all false
set_option maxRecDepth 100000
set_option maxHeartbeats 3200000
/-! set(e), e a tuple of tuples of ints; sorted(set(e)). By an AI agent. -/
namespace DL
open PySem PySem.Spec PyProof.Rows L2
section
variable {P : Program} {w : World} {A : Around} {E : Value → Shared → Prop} {t : Shared}
/-- the empty set -/
abbrev set0 (w : World) : Obj := { cls := .type "set", dict := none, data := .set #[] 0 (.fresh 0 0 (!w.params.followText "set-order")) }
theorem gone_at {h : Heap} {b : Addr} (hb : h.objs.size ≤ b) : h.get? b = none := by
  cases q : h.get? b with
  | none => rfl
  | some o => exact absurd (Nat.lt_of_lt_of_le (Heap.lt_size q) hb) (Nat.lt_irrefl _)
/-- what set.__init__ leaves -/
def SetLeft (P : Program) (w : World) (t : Shared) (ks : List (Addr × List Int)) (r : Value) (t2 : Shared) : Prop :=
  r = .none ∧ ∃ h2 tk L es ep tb, t2 = { t with heap := h2, toks := tk } ∧ SetTR P w h2 t.heap.objs.size L es ep tb ∧ Got ks ks.length L ∧ ∀ b o, t.heap.get? b = some o → h2.get? b = some o
theorem set_initT {l : Addr} {xs : Array Value} (ks : List (Addr × List Int)) (hh : A.handled = none) (hl : t.heap.IsTuple l xs) (hit : xs.toList = ks.map fun p => Value.ref p.1) (hk : ∀ p ∈ ks, IsT P w t.heap p.2 p.1) (hfew : ks.length < 64) (hu : A.in1.in1.units < cLine) :
    codeAny (model P w) A (.call (.builtin "set.__init__") ⟨[.ref t.heap.objs.size, .ref l], []⟩) (wants (SetLeft P w t ks) E) { t with heap := t.heap.push (set0 w) } := by
  have nxs : xs.size = ks.length := by rw [← Array.length_toList, hit, List.length_map]
  have hS : (t.heap.push (set0 w)).get? t.heap.objs.size = some (set0 w) := Heap.get?_push_size _ rfl
  have hT : Shared.TypeIs { t with heap := t.heap.push (set0 w) } (.ref t.heap.objs.size) "set" := ⟨_, hS, rfl⟩
  refine codeAny_call_builtin F.called_set.init.plain F.entry_set_init (check_set_init_1 hT ?_)
  obtain ⟨ol, hol, hcl, nl, hdl⟩ := hl
  obtain ⟨ocls, odict, odata, oslots⟩ := ol
  simp only at hcl hdl
  subst hcl; subst hdl
  have hol' : (t.heap.push (set0 w)).get? l = some { cls := .type "tuple", dict := odict, data := .seq xs nl, slots := oslots } := Heap.get?_push_of_some _ hol
  have s1 := F.sub_tuple_set
  have s2 := F.sub_tuple_frozenset
  have s3 : (Value.type "tuple" == Value.type "dict") = false := by decide
  have hl1 : (t.heap.push (set0 w)).IsTuple l xs := ⟨_, hol', rfl, nl, rfl⟩
  unfold Builtin.«set.__init__» noKeywords Builtin.Frozenset.updateFrom
  generalize hPI : pyIter = PI
  wp_walk
  subst hPI
  refine wpAny_pyIter_tuple hl1 (wpAny_bind (wpAny_runValue ?_))
  have lt : l < t.heap.objs.size := Heap.lt_size hol
  have h3 : A.in1.in1.handled = none := by simp [hh]
  have zz : (t.heap.push (set0 w)).objs.size = t.heap.objs.size + 1 := Heap.size_push ..
  have nI : l ≠ (t.heap.push (set0 w)).objs.size := by rw [zz]; exact Nat.ne_of_lt (Nat.lt_succ_of_lt lt)
  have nS : t.heap.objs.size ∉ [(t.heap.push (set0 w)).objs.size, l] := by
    rw [zz]
    simp
    exact Nat.ne_of_gt lt
  have vals : ∀ (i : Nat) (v : Value), xs[i]? = some v → ∃ p, ks[i]? = some p ∧ v = .ref p.1 := fun i v hv => by
    rw [← Array.getElem?_toList, hit, List.getElem?_map] at hv
    obtain ⟨p, h1, h2⟩ := Option.map_eq_some_iff.mp hv
    exact ⟨p, h1, h2.symm⟩
  refine set_update_tups ((Walks.tuple h3 _ l nI xs).toS) t.heap.objs.size nS ks nxs hfew vals t.heap hk (gone_at (Nat.le_refl _)) (fun b hb => gone_at (by rw [List.mem_singleton.mp hb, zz]; omega)) hu (xs.size - 0) 0 _ (by omega) (Nat.zero_le _)
    ⟨⟨_, Heap.get?_push_size _ rfl, rfl, rfl⟩, hl1.push _⟩ (fun b o e => Heap.get?_push_of_some _ (Heap.get?_push_of_some _ e)) ⟨[], #[], 0, _, setTR_fresh (Heap.get?_push_of_some _ hS), Got.zero ks⟩ fun t2 L es ep tb hm hS2 got kept => ?_
  obtain ⟨h2, g2, d2, k2, o2⟩ := t2
  have eg : g2 = t.gens := hm.gens
  have ed : d2 = t.drawn := hm.drawn
  have eo : o2 = t.os := hm.os
  subst eg; subst ed; subst eo
  rw [nxs] at got
  show wpAny _ _ _ _ _ _
  refine wpAny_pure ?_
  show wpAny _ _ (ret Value.none) _ _ _
  exact wpAny_pure ⟨rfl, h2, k2, L, es, ep, tb, rfl, hS2, got, kept⟩
theorem call_setT {l : Addr} {xs : Array Value} (ks : List (Addr × List Int)) {Q : Value → Shared → Prop} (hh : A.handled = none) (hl : t.heap.IsTuple l xs) (hit : xs.toList = ks.map fun p => Value.ref p.1) (hk : ∀ p ∈ ks, IsT P w t.heap p.2 p.1) (hfew : ks.length < 64) (hu : A.units + 3 < cLine)
    (h : ∀ (h2 : Heap) (tk : Nat) L es ep tb, SetTR P w h2 t.heap.objs.size L es ep tb → Got ks ks.length L → (∀ b o, t.heap.get? b = some o → h2.get? b = some o) → Q (.ref t.heap.objs.size) { t with heap := h2, toks := tk }) :
    wpAny (model P w) A (call (.type "set") [.ref l]) Q E t := by
  obtain ⟨c, tl, hmro⟩ := F.called_set.mro
  have f1 := F.called_set.made
  have f2 := F.called_set.sub
  have f3 := F.called_set.notType
  have f4 := F.called_set.canCreate
  have f5 := F.typeCall_set_1 (.ref l)
  refine wpAny_call (codeAny_of_tree ?_)
  show wpAny _ _ (callAny (.type "set") _) _ _ _
  refine wpAny_pure ⟨Code.quiet_builtin _ (by decide +kernel), codeAny_builtin F.entry_type_call ?_⟩
  rw [Around.under_plain (weight_type_call_type "set" [.ref l] []) rfl]
  repeat (any_goals (first | assumption | wp_step))
  refine codeAny_mono (code_set_led1 (.ref l) (E := E) (Q₁ := fun obj t1 => obj = .ref t.heap.objs.size ∧ t1 = { t with heap := t.heap.push (set0 w) }) ⟨rfl, rfl⟩) fun r t1 hr => ?_
  match r, hr with
  | .error e, hr => exact hr
  | .ok (.ret obj), hr =>
    obtain ⟨rfl, rfl⟩ := hr
    have hS : (t.heap.push (set0 w)).get? t.heap.objs.size = some (set0 w) := Heap.get?_push_size _ rfl
    have hT : Shared.TypeIs { t with heap := t.heap.push (set0 w) } (.ref t.heap.objs.size) "set" := ⟨_, hS, rfl⟩
    have f6 := F.called_set.init.lookup
    have f7 := F.called_set.init.bind (.ref t.heap.objs.size)
    repeat (any_goals (first | assumption | wp_step))
    refine codeAny_mono (set_initT (E := E) ks (by simp [hh]) hl hit hk hfew hu) fun r2 t2 hr2 => ?_
    match r2, hr2 with
    | .error e, hr2 => exact hr2
    | .ok (.ret r), hr2 =>
      obtain ⟨rfl, h2, tk, L, es, ep, tb, rfl, hS2, got, kept⟩ := hr2
      repeat (any_goals (first | assumption | wp_step))
      exact h _ _ _ _ _ _ hS2 got kept
end
end DL

set_option Elab.async false
set_option linter.all false
set_option maxRecDepth 100000
set_option maxHeartbeats 8000000
namespace DL
open PySem PySem.Spec PyProof.Rows L2
def rowD (r : List Int) : D := .tup (r.map .int)
def D.row : D → Option (List Int)
  | .tup ds => D.ints ds
  | _ => none
def D.rows : List D → Option (List (List Int))
  | [] => some []
  | d :: ds => match D.row d, D.rows ds with
    | some r, some rs => some (r :: rs)
    | _, _ => none
theorem D.rows_map (rs : List (List Int)) : D.rows (rs.map rowD) = some rs := by
  induction rs with
  | nil => rfl
  | cons r rs ih =>
    rw [List.map_cons]
    unfold D.rows
    rw [show D.row (rowD r) = some r from D.ints_map r, ih]
section
variable {K : PySem.W.Frag} {mg : Str → Option Value} {F : Hp}
theorem row_rep {d : D} {v : V} {r : List Int} (h : Rep K mg F d v) (e : D.row d = some r) : ∃ p, v = .ref p ∧ F p = some (.tup (r.map V.int)) := by
  cases h with
  | tup hF l =>
    have := D.ints_eq (show D.ints _ = some r from e)
    rw [RepL.ints r l this] at hF
    exact ⟨_, rfl, hF⟩
  | _ => cases e
theorem rows_rep : ∀ {ds : List D} {vs : List V} {rs : List (List Int)}, RepL K mg F ds vs → D.rows ds = some rs → ∃ ks : List (Addr × List Int), vs = ks.map (fun p => V.ref p.1) ∧ ks.map (·.2) = rs ∧ ∀ p ∈ ks, F p.1 = some (.tup (p.2.map V.int))
  | _, _, rs, .nil, e => by cases e; exact ⟨[], rfl, rfl, fun _ h => by cases h⟩
  | d :: ds, _, rs, .cons h l, e => by
    unfold D.rows at e
    cases q : D.row d with
    | none => rw [q] at e; cases e
    | some r => cases q2 : D.rows ds with
      | none => rw [q, q2] at e; cases e
      | some r2 =>
        rw [q, q2] at e
        cases e
        obtain ⟨p, rfl, hp⟩ := row_rep h q
        obtain ⟨ks, h1, h2, h3⟩ := rows_rep l q2
        refine ⟨(p, r) :: ks, by rw [List.map_cons, ← h1], by rw [List.map_cons, h2], fun z hz => ?_⟩
        rcases List.mem_cons.mp hz with rfl | hz
        · exact hp
        · exact h3 z hz
end
/-- set(e), e a tuple -/
def rSetOfTT (K : PySem.W.Frag) (P : Program) (w : World) : List V → Hp → VK → Prop := fun xs H Q => ∃ (l : Addr) (ks : List (Addr × List Int)), xs = [V.ref l] ∧ SqT K H l (ks.map fun p => V.ref p.1) ∧ (∀ p ∈ ks, SqT K H p.1 (p.2.map V.int)) ∧ ks.length < 64 ∧
  ∀ a L, H a = none → (∀ p ∈ L, p ∈ ks) → (∀ p ∈ ks, p.2 ∈ L.map (·.2)) → Q (.ref a) (upd H a (SetTO P w a L))
theorem cr_setOfTT {X : Cx} (hc : X.calm = true) (hu : X.A.units + 64 < cLine) : CallR X (.type "set") (rSetOfTT X.K X.prog X.w) := by
  intro pl t σ H xs us Q I r h
  obtain ⟨l, ks, rfl, hl, hk, hf, q⟩ := h
  rw [Vals.ref1 r]
  obtain ⟨its, rv, tp, hz⟩ := I.tuple hl
  refine call_setT (P := X.prog) (w := X.w) ks (I.ok.hd hc) tp (by simpa using refs_of_vals rv) (fun p hp => I.isT (hk p hp)) hf (by omega) fun h2 tk L es ep tb R g k => ?_
  refine ⟨.ref t.heap.objs.size, upd H t.heap.objs.size (SetTO X.prog X.w t.heap.objs.size L), I.laid (t' := tk) k (Nat.le_refl _) (setTO_new R.t0), rfl, q _ L (I.hok.fresh (Nat.le_refl _)) (fun p hp => List.mem_of_mem_take (g.sub p hp)) fun p hp => g.all p (by rw [List.take_length]; exact hp)⟩
/-- sorted(set(e)) -/
def dSortSet (a : DE) : DE := fun Ē e Q => a Ē e fun x e1 => match x with
  | .tup ds => (match D.rows ds with
    | some rs => rs.length < 64 ∧ ∃ (d : Nat) (B : Int), 1 ≤ d ∧ (∀ r ∈ rs, r.length = d ∧ TS.Bd B r) ∧
      ∀ L : List (List Int), L.Nodup → (∀ r, r ∈ L ↔ r ∈ rs) → L.Pairwise (fun q r => TS.code B q ≤ TS.code B r) → Q (.lst (L.map rowD)) e1
    | none => False)
  | .lst ds => (match D.rows ds with
    | some rs => rs.length < 64 ∧ ∃ (d : Nat) (B : Int), 1 ≤ d ∧ (∀ r ∈ rs, r.length = d ∧ TS.Bd B r) ∧
      ∀ L : List (List Int), L.Nodup → (∀ r, r ∈ L ↔ r ∈ rs) → L.Pairwise (fun q r => TS.code B q ≤ TS.code B r) → Q (.lst (L.map rowD)) e1
    | none => False)
  | _ => False
section
variable {X : Cx} {ι : Type} {v : ι → Vy} {E : L2.St → XK} {k : Nat} {a : Expr} {da : DE} {p pos p2 pos2 : Pos}
theorem rep_rowL {K : PySem.W.Frag} {mg : Str → Option Value} {F : Hp} : ∀ L : List (Addr × List Int), (∀ q ∈ L, F q.1 = some (.tup (q.2.map V.int))) → RepL K mg F ((L.map (·.2)).map rowD) (L.map fun q => V.ref q.1)
  | [], _ => .nil
  | q :: L, h => .cons (.tup (h q List.mem_cons_self) (repl q.2)) (rep_rowL L fun z hz => h z (List.mem_cons_of_mem _ hz))
where
  repl : ∀ ns : List Int, RepL K mg F (ns.map D.int) (ns.map V.int)
  | [] => .nil
  | n :: ns => .cons (.int n) (repl ns)
theorem sort_end {K : PySem.W.Frag} {mg : Str → Option Value} {P : Program} {w : World} {B : Nat → Option Addr} {G F H : Hp} {e : DEnv} {σ : L2.St} {Q' : D → DEnv → Prop} {Q : VK} {ks : List (Addr × List Int)} {rs : List (List Int)} (kk : Ok K mg B G F H e σ) (h2 : ks.map (·.2) = rs) (h3 : ∀ p ∈ ks, F p.1 = some (.tup (p.2.map V.int)))
    (hh : ∃ (d : Nat) (B : Int), 1 ≤ d ∧ (∀ r ∈ rs, r.length = d ∧ TS.Bd B r) ∧ ∀ L : List (List Int), L.Nodup → (∀ r, r ∈ L ↔ r ∈ rs) → L.Pairwise (fun q r => TS.code B q ≤ TS.code B r) → Q' (.lst (L.map rowD)) e)
    (q : ∀ d e' v F' H', Q' d e' → Mv G F F' → Ok K mg B G F' H' e' σ → Rep K mg F' d v → Q v H') (a : Addr) (L : List (Addr × List Int)) (ha : H a = none) (l1 : ∀ p ∈ L, p ∈ ks) (l2 : ∀ p ∈ ks, p.2 ∈ L.map (·.2)) : rSortedT K P w [.ref a] (upd H a (SetTO P w a L)) Q := by
  obtain ⟨d, Bd, hd, hb, hh⟩ := hh
  have mem : ∀ p ∈ ks, p.2 ∈ rs := fun p hp => by rw [← h2]; exact List.mem_map_of_mem hp
  have g1 : Gr F H F (upd H a (SetTO P w a L)) := Gr.loose kk.fh ha
  refine ⟨a, L, d, Bd, rfl, upd_same, fun p hp => SqT.of (g1.fh _ _ (h3 p (l1 p hp))), hd, fun p hp => hb _ (mem p (l1 p hp)), fun L' z pm nd hl pw hz => ?_⟩
  have g2 : Gr F (upd H a (SetTO P w a L)) (upd F z (.lst (L'.map fun q => V.ref q.1))) (upd (upd H a (SetTO P w a L)) z (.lst (L'.map fun q => V.ref q.1))) := Gr.new g1.fh hz
  have gg := g1.trans g2
  refine q _ e _ _ _ (hh (L'.map (·.2)) nd (fun r => ?_) (List.pairwise_map.mpr pw)) (kk.mv gg) (kk.grow gg) (.lst upd_same (rep_rowL L' fun y hy => gg.ff _ _ (h3 y (l1 y (pm.mem_iff.mp hy)))))
  constructor
  · intro hr
    obtain ⟨y, hy, rfl⟩ := List.mem_map.mp hr
    exact mem y (l1 y (pm.mem_iff.mp hy))
  · intro hr
    rw [← h2] at hr
    obtain ⟨y, hy, rfl⟩ := List.mem_map.mp hr
    obtain ⟨z, hz, e⟩ := List.mem_map.mp (l2 y hy)
    exact List.mem_map.mpr ⟨z, pm.mem_iff.mpr hz, e⟩
theorem pd_sortSet (g : Good X k) (hs : X.mg "sorted" = none) (hm : X.mg "set" = none) (ha : PD X v E a da) (hg : ∀ ii, Gl (X.atV (v ii)) "sorted" := by intro _; rfl) (hg2 : ∀ ii, Gl (X.atV (v ii)) "set" := by intro _; rfl)
    (he : ∀ ii, starEach [a] (v ii).env = (false, eval a (v ii).env) :: starEach [] (v ii).env := by intro _; rfl) (he2 : ∀ ii, starEach [.Call (.Name "set" p2) [a] [] pos2] (v ii).env = (false, eval (.Call (.Name "set" p2) [a] [] pos2) (v ii).env) :: starEach [] (v ii).env := by intro _; rfl)
    (hpl : ∀ ii, (backTo pos2 (starEach [] (v ii).env)).any (·.1) = false := by intro _; rfl) (hpl2 : ∀ ii, (backTo pos (starEach [] (v ii).env)).any (·.1) = false := by intro _; rfl) :
    PD X v E (.Call (.Name "sorted" p) [.Call (.Name "set" p2) [a] [] pos2] [] pos) (dSortSet da) := by
  obtain ⟨ta, ha, sa⟩ := ha.ex
  refine ⟨tCB (rSortedT X.K X.prog X.w) (tCons (tCB (fun xs H Q => rSetOfTT X.K X.prog X.w xs H Q ∨ rSetOfT X.K X.prog X.w xs H Q) (tCons ta tNil)) tNil), fun ii => ?_, ?_⟩
  · refine pe_callB (r := rSortedT X.K X.prog X.w) (cr_sortedT (X := X.atV (v ii)) g.calm) (hg ii) hs boot_sorted (pa_cons (pe_callTy (r := fun xs H Q => rSetOfTT X.K X.prog X.w xs H Q ∨ rSetOfT X.K X.prog X.w xs H Q) ?_ (hg2 ii) hm boot_set (pa_cons (ha ii) pa_nil (he ii)) (by decide) (by decide) (he ii) (hpl ii)) pa_nil (he2 ii)) (by decide) (by decide) (he2 ii) (hpl2 ii)
    exact fun pl t σ H xs us Q I r h => h.elim (cr_setOfTT (X := X.atV (v ii)) g.calm g.hu pl t σ H xs us Q I r) (cr_setOfT (X := X.atV (v ii)) g.calm g.hu pl t σ H xs us Q I r)
  intro B G F H e σ Ē Q' Q kk x h q
  refine sa B G F H e σ Ē _ _ kk x h fun d e1 w F1 H1 h1 m1 k1 r1 => ?_
  cases d with
  | tup ds => cases r1 with
    | @tup l _ vs hF la =>
      cases q1 : D.rows ds with
      | none =>
        simp only [q1] at h1
      | some rs =>
        simp only [q1] at h1
        obtain ⟨hl, h1⟩ := h1
        obtain ⟨ks, rfl, h2, h3⟩ := rows_rep la q1
        refine .inl ⟨l, ks, rfl, SqT.of (k1.fh _ _ hF), fun p hp => SqT.of (k1.fh _ _ (h3 p hp)), by rw [← List.length_map (f := (·.2)) (as := ks), h2]; exact hl, fun a L ha l1 l2 => ?_⟩
        exact sort_end k1 h2 h3 h1 (fun d e' v F' H' z mm => q d e' v F' H' z (m1.trans mm)) a L ha l1 l2
  | lst ds => cases r1 with
    | @lst l _ vs hF la =>
      cases q1 : D.rows ds with
      | none =>
        simp only [q1] at h1
      | some rs =>
        simp only [q1] at h1
        obtain ⟨hl, h1⟩ := h1
        obtain ⟨ks, rfl, h2, h3⟩ := rows_rep la q1
        refine .inr ⟨l, ks, rfl, SqL.of (k1.fh _ _ hF), fun p hp => SqT.of (k1.fh _ _ (h3 p hp)), by rw [← List.length_map (f := (·.2)) (as := ks), h2]; exact hl, fun a L ha l1 l2 => ?_⟩
        exact sort_end k1 h2 h3 h1 (fun d e' v F' H' z mm => q d e' v F' H' z (m1.trans mm)) a L ha l1 l2
  | _ => exact h1.elim
end
end DL

set_option Elab.async false
set_option linter.all false
set_option maxRecDepth 100000
set_option maxHeartbeats 8000000
/-! facts of exception classes and of == for the head. By an AI agent. -/
namespace DL
open PySem PySem.Spec PyProof.Rows L2
def exkB (K : PySem.W.Frag) (c : Str) : Bool := (PySem.W.clsIn K (He.ga K c)).isSome && (He.eqO (PySem.W.findIn K (.ref (He.ga K c)) "__getattribute__") (some (some (.builtin "BaseException.__getattribute__"))) && (He.eqO (PySem.W.findIn K (.ref (He.ga K c)) "__getattr__") (some none) &&
  (decide (PySem.W.subIn K (.ref (He.ga K c)) (.type "BaseException") = some true) && (exC K c && PySem.W.hasDictIn K (He.ga K c)))))
theorem exk_ok {K : PySem.W.Frag} {c : Str} (e : exkB K c = true) : ExK K (He.ga K c) := by
  obtain ⟨e1, e⟩ := He.ba e
  obtain ⟨e2, e⟩ := He.ba e
  obtain ⟨e3, e⟩ := He.ba e
  obtain ⟨e4, e⟩ := He.ba e
  obtain ⟨e5, e6⟩ := He.ba e
  obtain ⟨a1, a⟩ := He.ba e5
  obtain ⟨a2, a⟩ := He.ba a
  obtain ⟨a3, a4⟩ := He.ba a
  exact ⟨e1, He.eqO_ok e2, He.eqO_ok e3, of_decide_eq_true e4, He.eqO_ok a1, He.eqO_ok a2, of_decide_eq_true a3, of_decide_eq_true a4, e6⟩
abbrev Tri : Type := Str × Str × Bool
def catchB (K : PySem.W.Frag) (p : Tri) : Bool := decide (PySem.W.exmOne K (.ref (He.ga K p.1)) (.ref (He.ga K p.2.1)) = some p.2.2)
def isxB (K : PySem.W.Frag) (p : Tri) : Bool := decide (PySem.W.kitOne K (.ref (He.ga K p.1)) (.ref (He.ga K p.2.1)) = some p.2.2)
def nofB (K : PySem.W.Frag) (p : Str × Str) : Bool := He.eqO (PySem.W.findIn K (.ref (He.ga K p.1)) p.2) (some none)
def eqcB (K : PySem.W.Frag) (c : Str) : Bool := decide (PySem.W.mroIn K (He.ga K c) (.type "object") = some true) && He.eqO (PySem.W.findIn K (.ref (He.ga K c)) "__ne__") (some (some (.builtin "object.__ne__")))
def exX (cs : List Str) (ms : List (Str × Str)) (xk : List Str) (ca ix : List Tri) (nf : List (Str × Str)) (eq : List Str) (K : PySem.W.Frag) : Bool :=
  exE cs ms K && (xk.all (exkB K) && (ca.all (catchB K) && (ix.all (isxB K) && (nf.all (nofB K) && eq.all (eqcB K)))))
section
variable {K : PySem.W.Frag} {h : Heap} {mg : Str → Option Value} {cs : List Str} {ms : List (Str × Str)} {xk eq : List Str} {ca ix : List Tri} {nf : List (Str × Str)}
theorem exX_e (e : exX cs ms xk ca ix nf eq K = true) : exE cs ms K = true := (He.ba e).1
theorem xk_ok (X : K.In h) (G : h.Ns mainGlobals mg) (gs : ∀ c ∈ xk, (He.Fa.glo c).ok K = true) (e : exX cs ms xk ca ix nf eq K = true) : ∀ c ∈ xk, ∀ C, mg c = some (.ref C) → ExK K C := fun c hc C hm => by
  rw [He.glo_ok X G (gs c hc)] at hm
  cases hm
  exact exk_ok (List.all_eq_true.mp (He.ba (He.ba e).2).1 c hc)
theorem catch_ok {x : Str} {yes no : List Str} (X : K.In h) (G : h.Ns mainGlobals mg) (g : (He.Fa.glo x).ok K = true) (gs : ∀ c ∈ yes ++ no, (He.Fa.glo c).ok K = true) (e : exX cs ms xk ca ix nf eq K = true) (hy : ∀ c ∈ yes, (c, x, true) ∈ ca) (hn : ∀ c ∈ no, (c, x, false) ∈ ca) : Catch K mg x yes no := by
  have e2 := (He.ba (He.ba (He.ba e).2).2).1
  refine ⟨_, He.glo_ok X G g, fun c hc C hm => ?_, fun c hc C hm => ?_⟩
  · rw [He.glo_ok X G (gs c (List.mem_append_left _ hc))] at hm
    cases hm
    exact of_decide_eq_true (List.all_eq_true.mp e2 _ (hy c hc))
  · rw [He.glo_ok X G (gs c (List.mem_append_right _ hc))] at hm
    cases hm
    exact of_decide_eq_true (List.all_eq_true.mp e2 _ (hn c hc))
theorem isx_ok {x : Str} {yes no : List Str} (X : K.In h) (G : h.Ns mainGlobals mg) (g : (He.Fa.glo x).ok K = true) (gs : ∀ c ∈ yes ++ no, (He.Fa.glo c).ok K = true) (e : exX cs ms xk ca ix nf eq K = true) (hy : ∀ c ∈ yes, (c, x, true) ∈ ix) (hn : ∀ c ∈ no, (c, x, false) ∈ ix) : IsX K mg x yes no := by
  have e2 := (He.ba (He.ba (He.ba (He.ba e).2).2).2).1
  refine ⟨_, He.glo_ok X G g, fun c hc C hm => ?_, fun c hc C hm => ?_⟩
  · rw [He.glo_ok X G (gs c (List.mem_append_left _ hc))] at hm
    cases hm
    exact of_decide_eq_true (List.all_eq_true.mp e2 _ (hy c hc))
  · rw [He.glo_ok X G (gs c (List.mem_append_right _ hc))] at hm
    cases hm
    exact of_decide_eq_true (List.all_eq_true.mp e2 _ (hn c hc))
theorem nof_ok {f : Str} {l : List Str} (X : K.In h) (G : h.Ns mainGlobals mg) (gs : ∀ c ∈ l, (He.Fa.glo c).ok K = true) (e : exX cs ms xk ca ix nf eq K = true) (hy : ∀ c ∈ l, (c, f) ∈ nf) : ∀ c ∈ l, ∀ C, mg c = some (.ref C) → PySem.W.findIn K (.ref C) f = some none := fun c hc C hm => by
  have e2 := (He.ba (He.ba (He.ba (He.ba (He.ba e).2).2).2).2).1
  rw [He.glo_ok X G (gs c hc)] at hm
  cases hm
  exact He.eqO_ok (List.all_eq_true.mp e2 _ (hy c hc))
theorem eqc_ok {c : Str} (X : K.In h) (G : h.Ns mainGlobals mg) (g : (He.Fa.glo c).ok K = true) (e : exX cs ms xk ca ix nf eq K = true) (hc : c ∈ eq) : EqC K mg c := ⟨fun C hm => by
  have e2 := (He.ba (He.ba (He.ba (He.ba (He.ba e).2).2).2).2).2
  rw [He.glo_ok X G g] at hm
  cases hm
  obtain ⟨a1, a2⟩ := He.ba (List.all_eq_true.mp e2 c hc)
  exact ⟨of_decide_eq_true a1, He.eqO_ok a2⟩⟩
end
end DL

set_option Elab.async false
set_option linter.all false
set_option maxRecDepth 100000
set_option maxHeartbeats 8000000
/-! list(x), x a slot that may be owned: the slot stays owned. By an AI agent. -/
namespace DL
open PySem PySem.Spec PyProof.Rows L2
def dListV (i : Nat) : DN := fun Ē e Q => match e[i]? with
  | some (.ow _ (.lst xs)) => Q (.lst xs) e
  | _ => dListOf (dVar i) Ē e Q
section
variable {X : Cx} {ι : Type} {v : ι → Vy} {E : L2.St → XK} {k : Nat} {pos p : Pos}
theorem sn_listOf {K : PySem.W.Frag} {mg : Str → Option Value} {ta : TE} {da : DE} (sa : SE K mg E ta da) : SN K mg E (tCB (rLstOf K) (tCons ta tNil)) (dListOf da) := by
  intro B G F H e σ Ē Q' Q kk x h q
  refine sa B G F H e σ Ē _ _ kk x h fun d1 e1 v1 F1 H1 h1 m1 k1 r1 => ?_
  cases d1 with
  | lst xs =>
    cases r1 with
    | @lst b _ vs hb lb =>
      refine ⟨b, vs, rfl, .inl (SqL.of (k1.fh _ _ hb)), fun l hl => ?_⟩
      have gg : Gr F1 H1 F1 (upd H1 l (.lst vs)) := Gr.loose k1.fh hl
      exact q _ e1 l _ _ _ h1 (m1.trans (k1.mv gg)) (k1.grow gg) (fresh_new k1 hl) (.lst lb)
  | tup xs =>
    cases r1 with
    | @tup b _ vs hb lb =>
      refine ⟨b, vs, rfl, .inr (SqT.of (k1.fh _ _ hb)), fun l hl => ?_⟩
      have gg : Gr F1 H1 F1 (upd H1 l (.lst vs)) := Gr.loose k1.fh hl
      exact q _ e1 l _ _ _ h1 (m1.trans (k1.mv gg)) (k1.grow gg) (fresh_new k1 hl) (.lst lb)
  | _ => exact h1.elim
theorem sn_listV {K : PySem.W.Frag} {mg : Str → Option Value} {i : Nat} : SN K mg E (tCB (rLstOf K) (tCons (tVar i) tNil)) (dListV i) := by
  intro B G F H e σ Ē Q' Q kk x h q
  unfold dListV at h
  split at h
  · rename_i fx xs he
    obtain ⟨a, u, h1, h2, h3, h4, h5, h6⟩ := kk.ow i fx _ he
    cases h5 with
    | @lst _ vs l0 =>
      refine ⟨_, h1, a, vs, rfl, .inl (SqL.of h4), fun l hl => ?_⟩
      have gg : Gr F H F (upd H l (.lst vs)) := Gr.loose kk.fh hl
      exact q _ e l _ _ _ h (kk.mv gg) (kk.grow gg) (fresh_new kk hl) (.lst l0)
  · exact sn_listOf se_var B G F H e σ Ē Q' Q kk x h q
theorem pn_listV (i : Nat) {x : Str} {q : Pos} (hm : X.mg "list" = none) (hN : X.N[i]? = some x := by rfl) (hv : ∀ ii, Vis (v ii).env.scope x := by first | exact fun _ => Or.inl rfl | exact fun _ => Or.inr (Or.inl rfl) | exact fun _ => Or.inr (Or.inr rfl)) (hd : (x == ("__debug__" : Str)) = false := by decide)
    (hcd : (x == ("__classdict__" : Str)) = false := by decide) (hg : ∀ ii, Gl (X.atV (v ii)) "list" := by intro _; rfl) (hs : ∀ ii, starEach [.Name x q] (v ii).env = (false, eval (.Name x q) (v ii).env) :: starEach [] (v ii).env := by intro _; rfl) : PN X v E (.Call (.Name "list" p) [.Name x q] [] pos) (dListV i) :=
  ⟨_, fun ii => pe_callTy (T := "list") (r := rLstOf X.K) (call_list_of (X := X.atV (v ii))) (hg ii) hm PyProof.Rows.boot_list (pa_cons (pe_var hN (hv ii) hd hcd) pa_nil (hs ii)) (by decide) (by decide) (hs ii) rfl, sn_listV⟩
end
end DL

set_option Elab.async false
set_option linter.all false
set_option maxRecDepth 100000
set_option maxHeartbeats 8000000
/-! the head's facts over told addresses; the looks at its run, each proved apart. By an AI agent. -/
namespace DL
open PySem PySem.Spec PyProof.Rows L2
theorem map3 {α β γ δ : Type} {o : Option α} {f : α → β} {g : α → γ} {h : α → δ} {x : β} {y : γ} {z : δ} (a : o.map f = some x) (b : o.map g = some y) (c : o.map h = some z) : o.map (fun s => (f s, g s, h s)) = some (x, y, z) := by
  cases o with
  | none => cases a
  | some s =>
    injection a with a
    injection b with b
    injection c with c
    show some (f s, g s, h s) = _
    rw [a, b, c]
def obsL (as : List Addr) (fa : List He.Fa) (fn : List He.DefD) (ex : PySem.W.Frag → Bool) (pr : List PrD) (g : Addr → Option Obj) : AlP :=
  ((He.obsD fa fn (He.frG g as), ex (He.frG g as)), pr.all fun d => d.ok (He.frG g as), pr.map fun d => fnA (He.frG g as) (gAd (He.frG g as) d.c d.f))
def hookL (as : List Addr) (fa : List He.Fa) (fn : List He.DefD) (ex : PySem.W.Frag → Bool) (pr : List PrD) : PySem.W.Hook where
  α := AlP
  obs := fun s => obsL as fa fn ex pr s.heap.get?
  val := fun _ => ((He.valD fn, true), true, pr.map PrD.val)
  says := fun _ h => ∃ K : PySem.W.Frag, K.In h ∧ SaysP fa fn ex pr K
  of := fun _ _ e => ⟨_, He.frG_in, ⟨congrArg (fun z : AlP => z.1.1) e, congrArg (fun z : AlP => z.1.2) e⟩, congrArg (fun z : AlP => z.2.1) e, congrArg (fun z : AlP => z.2.2) e⟩
  keeps := fun _ _ _ ⟨K, hK, c⟩ k => ⟨K, PySem.W.Frag.In.keeps hK k, c⟩
theorem obsL_eq {as : List Addr} {fa : List He.Fa} {fn : List He.DefD} {ex : PySem.W.Frag → Bool} {pr : List PrD} {g : Addr → Option Obj} {s : Shared} (h : ∀ a, g a = s.heap.get? a) : obsL as fa fn ex pr g = (hookL as fa fn ex pr).obs s := by
  have e : g = s.heap.get? := funext h
  rw [e] <;> rfl
theorem obs_of {α : Type} {o : Option α} {K : α → PySem.W.Frag} {fa : List He.Fa} {fn : List He.DefD} {ex : PySem.W.Frag → Bool} {pr : List PrD}
    (h1 : o.map (fun s => fa.all fun f => f.ok (K s)) = some true) (h2 : o.map (fun s => fn.all fun d => d.ok (K s)) = some true) (h3 : o.map (fun s => fn.map fun d => He.fnW (K s) d.at_) = some (fn.map He.DefD.val)) (h4 : o.map (fun s => ex (K s)) = some true)
    (h5 : o.map (fun s => pr.all fun d => d.ok (K s)) = some true) (h6 : o.map (fun s => pr.map fun d => fnA (K s) (gAd (K s) d.c d.f)) = some (pr.map PrD.val)) :
    o.map (fun s => (((((fa.all fun f => f.ok (K s)) && fn.all fun d => d.ok (K s), fn.map fun d => He.fnW (K s) d.at_), ex (K s)), pr.all fun d => d.ok (K s), pr.map fun d => fnA (K s) (gAd (K s) d.c d.f)) : AlP)) = some (((true, fn.map He.DefD.val), true), true, pr.map PrD.val) := by
  cases o with
  | none => cases h1
  | some s =>
    injection h1 with h1
    injection h2 with h2
    injection h3 with h3
    injection h4 with h4
    injection h5 with h5
    injection h6 with h6
    simp only [] at h1 h2 h3 h4 h5 h6
    show some ((((((fa.all fun f => f.ok (K s)) && fn.all fun d => d.ok (K s), fn.map fun d => He.fnW (K s) d.at_), ex (K s)), pr.all fun d => d.ok (K s), pr.map fun d => fnA (K s) (gAd (K s) d.c d.f)) : AlP)) = _
    rw [h1, h2, h3, h4, h5, h6]
    rfl
end DL

set_option Elab.async false
set_option linter.all false
set_option maxRecDepth 100000
set_option maxHeartbeats 8000000
/-! D-level: what simp steps. By an AI agent. -/
namespace DL
open PySem PySem.Spec PyProof.Rows L2
/-- a slot that may be set -/
def Fre (s : Sl) : Prop := ∀ o, s ≠ .ow true o
@[simp] theorem fre_no : Fre .no := fun _ h => by cases h
@[simp] theorem fre_fr {d : D} : Fre (.fr d) := fun _ h => by cases h
@[simp] theorem fre_ow {o : O} : Fre (.ow false o) := fun _ h => by cases h
section
variable {Ē : XD} {e : DEnv} {Q : D → DEnv → Prop} {QT : Bool → DEnv → Prop} {QA : List D → DEnv → Prop} {QO : O → DEnv → Prop} {Z : DEnds} {Q1 : D → Prop}
@[simp ↓] theorem s_seq {s t : DS} : dSeq s t Ē Z e = s Ē { Z with nx := t Ē Z } e := rfl
@[simp ↓] theorem s_next : dNext Ē Z e = Z.nx e := rfl
@[simp ↓] theorem s_brk : dBrk Ē Z e = Z.bk e := rfl
@[simp ↓] theorem s_cnt : dCnt Ē Z e = Z.ct e := rfl
@[simp ↓] theorem s_never : dNever Ē Z e = False := rfl
@[simp ↓] theorem s_drop {a : DE} : dDrop a Ē Z e = a Ē e fun _ e1 => Z.nx e1 := rfl
@[simp ↓] theorem s_ret {a : DE} : dRet a Ē Z e = a Ē e Z.rt := rfl
@[simp ↓] theorem s_retN : dRetN Ē Z e = Z.rt .non e := rfl
@[simp ↓] theorem s_if {c : DT} {s t : DS} : dIf c s t Ē Z e = c Ē e fun b e1 => if b = true then s Ē Z e1 else t Ē Z e1 := rfl
@[simp ↓] theorem s_asg {i : Nat} {a : DE} : dAsg i a Ē Z e = a Ē e fun d e1 => setF e1 i d Z.nx := rfl
@[simp ↓] theorem s_asgN {i : Nat} {a : DN} : dAsgN i a Ē Z e = a Ē e fun o e1 => setO e1 i o Z.nx := rfl
@[simp ↓] theorem s_asgG {a : DE} {g : DG} : dAsgG a g Ē Z e = a Ē e fun d e1 => g d e1 Z.nx := rfl
@[simp ↓] theorem s_gVar {i : Nat} {d : D} {P : DEnv → Prop} : gVar i d e P = setF e i d P := rfl
@[simp ↓] theorem s_gsNil {ds : List D} {P : DEnv → Prop} : gsNil ds e P = (ds = [] ∧ P e) := rfl
@[simp ↓] theorem s_gsCons {g : DG} {gs : DGs} {d : D} {ds : List D} {P : DEnv → Prop} : gsCons g gs (d :: ds) e P = g d e fun e' => gs ds e' P := rfl
@[simp ↓] theorem s_gTup {n : Nat} {gs : DGs} {ds : List D} {P : DEnv → Prop} : gTupD n gs (.tup ds) e P = (ds.length = n ∧ gs ds e P) := rfl
theorem s_setF {i : Nat} {d : D} {P : DEnv → Prop} : setF e i d P = match e[i]? with
  | some (.ow true _) => False
  | some _ => P (e.set i (.fr d))
  | none => False := rfl
@[simp ↓] theorem s_setF0 {d : D} {s : Sl} {P : DEnv → Prop} (h : Fre s) : setF (s :: e) 0 d P = P (.fr d :: e) := by cases s with
  | ow b o => cases b with
    | true => exact (h o rfl).elim
    | false => rfl
  | _ => rfl
@[simp ↓] theorem s_setFS {d : D} {s : Sl} {i : Nat} {P : DEnv → Prop} : setF (s :: e) (i + 1) d P = setF e i d fun e' => P (s :: e') := by
  unfold setF
  rw [List.getElem?_cons_succ, List.set_cons_succ]
@[simp ↓] theorem s_setO0 {d : O} {s : Sl} {P : DEnv → Prop} (h : Fre s) : setO (s :: e) 0 d P = P (.ow false d :: e) := by cases s with
  | ow b o => cases b with
    | true => exact (h o rfl).elim
    | false => rfl
  | _ => rfl
@[simp ↓] theorem s_setOS {d : O} {s : Sl} {i : Nat} {P : DEnv → Prop} : setO (s :: e) (i + 1) d P = setO e i d fun e' => P (s :: e') := by
  unfold setO
  rw [List.getElem?_cons_succ, List.set_cons_succ]
@[simp ↓] theorem s_c {d : D} : dC d Ē e Q = Q d e := rfl
@[simp ↓] theorem s_var0 {d : D} : dVar 0 Ē (.fr d :: e) Q = Q d (.fr d :: e) := rfl
@[simp ↓] theorem s_var0o {o : O} : dVar 0 Ē (.ow false o :: e) Q = Q o.toD (.fr o.toD :: e) := rfl
@[simp ↓] theorem s_varS {s : Sl} {i : Nat} : dVar (i + 1) Ē (s :: e) Q = dVar i Ē e fun d e' => Q d (s :: e') := by
  unfold dVar
  rw [List.getElem?_cons_succ]
  cases e[i]? with
  | none => rfl
  | some t => cases t with
    | ow b o => cases b <;> rfl
    | _ => rfl
@[simp ↓] theorem s_bin {f : F2} {a b : DE} : dBin f a b Ē e Q = a Ē e fun x e1 => b Ē e1 fun y e2 => f x y fun z => Q z e2 := rfl
@[simp ↓] theorem s_un {f : F1} {a : DE} : dUn f a Ē e Q = a Ē e fun x e1 => f x fun z => Q z e1 := rfl
@[simp ↓] theorem s_nil : dNil Ē e QA = QA [] e := rfl
@[simp ↓] theorem s_cons {a : DE} {r : DA} : dCons a r Ē e QA = a Ē e fun x e1 => r Ē e1 fun xs e2 => QA (x :: xs) e2 := rfl
@[simp ↓] theorem s_cb {f : FL} {a : DA} : dCB f a Ē e Q = a Ē e fun xs e1 => f xs fun z => Q z e1 := rfl
@[simp ↓] theorem s_tup {a : DA} : dTup a Ē e Q = a Ē e fun xs e1 => xs.length ≤ sizeLine ∧ Q (.tup xs) e1 := rfl
@[simp ↓] theorem s_lst {a : DA} : dLst a Ē e QO = a Ē e fun xs e1 => xs.length ≤ sizeLine ∧ QO (.lst xs) e1 := rfl
@[simp ↓] theorem s_frz {n : DN} : dFrz n Ē e Q = n Ē e fun o e1 => Q o.toD e1 := rfl
@[simp ↓] theorem s_toD {xs : List D} : (O.lst xs).toD = .lst xs := rfl
@[simp ↓] theorem s_toDT {xs} : (O.dT xs).toD = .dT xs := rfl
@[simp ↓] theorem s_toDI {c fs} : (O.ins c fs).toD = .ins c fs := rfl
@[simp ↓] theorem s_test {a : DE} : dTest a Ē e QT = a Ē e fun x e1 => match x with
  | .bl b => QT b e1
  | _ => False := rfl
@[simp ↓] theorem s_not {a : DT} : dNot a Ē e QT = a Ē e fun b e1 => QT (!b) e1 := rfl
@[simp ↓] theorem s_and {a b : DT} : dAnd a b Ē e QT = a Ē e fun c e1 => if c = true then b Ē e1 QT else QT false e1 := rfl
@[simp ↓] theorem s_or {a b : DT} : dOr a b Ē e QT = a Ē e fun c e1 => if c = true then QT true e1 else b Ē e1 QT := rfl
@[simp ↓] theorem s_andV {a b : DE} : dAndV a b Ē e Q = a Ē e fun x e1 => match x with
  | .bl c => if c = true then b Ē e1 Q else Q (.bl false) e1
  | _ => False := rfl
@[simp ↓] theorem s_orV {a b : DE} : dOrV a b Ē e Q = a Ē e fun x e1 => match x with
  | .bl c => if c = true then Q (.bl true) e1 else b Ē e1 Q
  | _ => False := rfl
@[simp ↓] theorem s_notV {a : DE} : dNotV a Ē e Q = a Ē e fun x e1 => match x with
  | .bl c => Q (.bl (!c)) e1
  | _ => False := rfl
@[simp ↓] theorem s_ifE {c : DT} {a b : DE} : dIfE c a b Ē e Q = c Ē e fun k e1 => if k = true then a Ē e1 Q else b Ē e1 Q := rfl
@[simp ↓] theorem s_yes : dYes Ē e QT = QT true e := rfl
@[simp ↓] theorem s_items {a : DE} {P : List D → DEnv → Prop} : dItems a Ē e P = a Ē e fun x e1 => match x with
  | .lst xs => P xs e1
  | .tup xs => P xs e1
  | .scr xs => P xs e1
  | .str z => P (signsD z) e1
  | _ => False := rfl
@[simp ↓] theorem s_enum {a : DE} {P : List D → DEnv → Prop} : dEnum a Ē e P = a Ē e fun x e1 => match x with
  | .lst xs => P (enumD xs) e1
  | .tup xs => P (enumD xs) e1
  | _ => False := rfl
@[simp ↓] theorem s_zip {a b : DE} {P : List D → DEnv → Prop} : dZip a b Ē e P = a Ē e fun x e1 => b Ē e1 fun y e2 => match x, y with
  | .lst xs, .lst ys => P (pairsD xs ys) e2
  | .tup xs, .tup ys => P (pairsD xs ys) e2
  | _, _ => False := rfl
@[simp ↓] theorem s_rev {a : DE} {P : List D → DEnv → Prop} : dRev a Ē e P = a Ē e fun x e1 => match x with
  | .lst xs => P xs.reverse e1
  | .tup xs => P xs.reverse e1
  | _ => False := rfl
@[simp ↓] theorem s_rng1 {a : DE} {P : List D → DEnv → Prop} : dRange1 a Ē e P = a Ē e fun x e1 => match x with
  | .int j => (-(2 ^ 62) ≤ j ∧ j < 2 ^ 62) ∧ P (rangeD 0 j.toNat) e1
  | _ => False := rfl
@[simp ↓] theorem s_rng2 {a b : DE} {P : List D → DEnv → Prop} : dRange2 a b Ē e P = a Ē e fun x e1 => b Ē e1 fun y e2 => match x, y with
  | .int i, .int j => (-(2 ^ 62) ≤ i ∧ i < 2 ^ 62 ∧ -(2 ^ 62) ≤ j ∧ j < 2 ^ 62) ∧ P (rangeD i (j - i).toNat) e2
  | _, _ => False := rfl
@[simp ↓] theorem s_for {di : DI} {g : DG} {b : DS} : dFor di g b Ē Z e = di Ē e fun ds e1 => forGo g b Ē Z ds e1 := rfl
@[simp ↓] theorem s_lc {di : DI} {g : DG} {dt : DT} {de : DE} {vs : List Nat} : dLc di g dt de vs Ē e QO = di Ē e fun ds e1 => notOwn vs e1 = true ∧ lcGo g dt de vs (fun acc e2 => QO (.lst acc) (backE vs e1 e2)) ds [] (wipeE vs e1) := rfl
@[simp ↓] theorem s_call {dsp : DSp} {a : DA} : dCall dsp a Ē e Q = a Ē e fun ds e1 => dsp (ds.map .fr) (fun d _ => Q d e1) X0 := rfl
@[simp ↓] theorem s_make {c : Str} {dsp : DSp} {a : DA} : dMake c dsp a Ē e Q = a Ē e fun ds e1 => dsp (.ow true (.ins c []) :: ds.map .fr) (fun d as' => isNon d = true ∧ match as' with
  | .ow true (.ins c' fs) :: _ => Q (.ins c' fs) e1
  | _ => False) X0 := rfl
@[simp ↓] theorem s_callS {j : Nat} {dsp : DSp} {a : DA} : dCallS j dsp a Ē e Q = match e[j]? with
  | some (.ow _ (_ : O)) => a Ē e fun ds e1 => (match e1[j]? with
    | some (.ow b o) => dsp (.ow true o :: ds.map .fr) (fun d as' => match as' with
      | .ow true o' :: _ => Q d (e1.set j (.ow b o'))
      | _ => False) X0
    | _ => False)
  | _ => False := rfl
@[simp ↓] theorem s_mth {j : Nat} {f : List D → List D → (List D → D → Prop) → Prop} {a : DA} : dMth j f a Ē e Q = match e[j]? with
  | some (.ow _ (.lst _)) => a Ē e fun ds e1 => (match e1[j]? with
    | some (.ow b (.lst xs)) => f xs ds fun xs' z => Q z (e1.set j (.ow b (.lst xs')))
    | _ => False)
  | _ => False := rfl
@[simp ↓] theorem s_fld {cs : List Str} {f : Str} {a : DE} : dFld cs f a Ē e Q = a Ē e fun x e1 => match x with
  | .ins c fs => cs.contains c = true ∧ (match fs.lookup f with
    | some d => Q d e1
    | none => False)
  | _ => False := rfl
@[simp ↓] theorem s_ixV {i : Nat} {b : DE} : dIxV i b Ē e Q = match e[i]? with
  | some (.fr d) => b Ē e fun y e1 => fIx d y fun z => Q z e1
  | some (.ow _ _) => b Ē e fun y e1 => match e1[i]? with
    | some (.ow _ o) => ixO o y fun z => Q z e1
    | some (.fr d) => fIx d y fun z => Q z e1
    | _ => False
  | _ => False := rfl
@[simp ↓] theorem s_ownL {i : Nat} {f : FL} {a : DE} : dOwnL i f a Ē e Q = match e[i]? with
  | some (.ow _ (.lst xs)) => f [.lst xs] fun z => Q z e
  | _ => a Ē e Q := rfl
@[simp ↓] theorem s_chain {f f' : F2} {a b c : DE} : dChain f f' a b c Ē e Q = a Ē e fun x e1 => b Ē e1 fun y e2 => f x y fun z => match z with
  | .bl k => if k = true then c Ē e2 fun u e3 => f' y u fun w => Q w e3 else Q (.bl false) e2
  | _ => False := rfl
@[simp ↓] theorem s_isN {a : DE} : fIsN a Ē e Q = a Ē e fun x e1 => Q (.bl (isNon x)) e1 := rfl
@[simp ↓] theorem s_notN {a : DE} : fNotN a Ē e Q = a Ē e fun x e1 => Q (.bl (!isNon x)) e1 := rfl
/-! values -/
@[simp ↓] theorem f_add {i j : Int} : fAdd (.int i) (.int j) Q1 = Q1 (.int (i + j)) := rfl
@[simp ↓] theorem f_addT {x y : List D} : fAdd (.tup x) (.tup y) Q1 = (x.length + y.length ≤ sizeLine ∧ Q1 (.tup (x ++ y))) := rfl
@[simp ↓] theorem f_sub {i j : Int} : fSub (.int i) (.int j) Q1 = Q1 (.int (i - j)) := rfl
def MulOk (i j : Int) : Prop := i.natAbs.log2 + j.natAbs.log2 < 1000000
theorem log2_le {n k : Nat} (h : n < 2 ^ k) : n.log2 ≤ k := by
  by_cases z : n = 0
  · subst z; simp
  · exact Nat.le_of_lt ((Nat.log2_lt z).mpr h)
theorem mulOk {i j : Int} (h1 : i.natAbs < 2 ^ 200) (h2 : j.natAbs < 2 ^ 200) : MulOk i j := by
  have a := log2_le h1
  have b := log2_le h2
  unfold MulOk
  omega
@[simp ↓] theorem f_mul {i j : Int} : fMul (.int i) (.int j) Q1 = (MulOk i j ∧ Q1 (.int (i * j))) := rfl
def DivOk (j : Int) : Prop := 0 < j ∧ j.natAbs.log2 < 9000
theorem divOk {j : Int} (h0 : 0 < j) (h1 : j.natAbs < 2 ^ 200) : DivOk j := ⟨h0, by have := log2_le h1; omega⟩
def PowOk (i j : Int) : Prop := 0 ≤ j ∧ (Builtin.Int.intBits i : Int) * j ≤ 2 ^ 27
instance {i j : Int} : Decidable (PowOk i j) := by unfold PowOk; infer_instance
@[simp ↓] theorem f_fdiv {i j : Int} : fFdiv (.int i) (.int j) Q1 = (DivOk j ∧ Q1 (.int (i / j))) := rfl
@[simp ↓] theorem f_mod {i j : Int} : fMod (.int i) (.int j) Q1 = (0 < j ∧ Q1 (.int (i % j))) := rfl
@[simp ↓] theorem f_pow {i j : Int} : fPow (.int i) (.int j) Q1 = (PowOk i j ∧ Q1 (.int (i ^ j.toNat))) := rfl
@[simp ↓] theorem f_neg {i : Int} : fNeg (.int i) Q1 = Q1 (.int (-i)) := rfl
@[simp ↓] theorem f_lt {i j : Int} : fLt (.int i) (.int j) Q1 = Q1 (.bl (decide (i < j))) := rfl
@[simp ↓] theorem f_le {i j : Int} : fLe (.int i) (.int j) Q1 = Q1 (.bl (decide (i ≤ j))) := rfl
@[simp ↓] theorem f_gt {i j : Int} : fGt (.int i) (.int j) Q1 = Q1 (.bl (decide (j < i))) := rfl
@[simp ↓] theorem f_ge {i j : Int} : fGe (.int i) (.int j) Q1 = Q1 (.bl (decide (j ≤ i))) := rfl
@[simp ↓] theorem f_lenT {xs : List D} : fLen [.tup xs] Q1 = Q1 (.int xs.length) := rfl
@[simp ↓] theorem f_lenL {xs : List D} : fLen [.lst xs] Q1 = Q1 (.int xs.length) := rfl
@[simp ↓] theorem f_lenS {x : Str} : fLen [.str x] Q1 = (x.length ≤ sizeLine ∧ Q1 (.int x.length)) := rfl
@[simp ↓] theorem f_intI {i : Int} : fInt [.int i] Q1 = Q1 (.int i) := rfl
@[simp ↓] theorem f_intB {b : Bool} : fInt [.bl b] Q1 = Q1 (.int (if b then 1 else 0)) := rfl
@[simp ↓] theorem f_max2 {i j : Int} : fMax2 [.int i, .int j] Q1 = Q1 (.int (if j > i then j else i)) := rfl
@[simp ↓] theorem f_min2 {i j : Int} : fMin2 [.int i, .int j] Q1 = Q1 (.int (if j < i then j else i)) := rfl
@[simp ↓] theorem f_tupL {xs : List D} : fTuple [.lst xs] Q1 = Q1 (.tup xs) := rfl
@[simp ↓] theorem f_tupT {xs : List D} : fTuple [.tup xs] Q1 = Q1 (.tup xs) := rfl
@[simp ↓] theorem f_isTy {t : Ty} {x : D} : fIsTy t x Q1 = match x.isTy t with
  | some b => Q1 (.bl b)
  | none => False := rfl
@[simp ↓] theorem f_isTy2 {t u : Ty} {x : D} : fIsTy2 t u x Q1 = match x.isTy t, x.isTy u with
  | some b, some c => Q1 (.bl (b || c))
  | _, _ => False := rfl
@[simp ↓] theorem s_isNon : isNon .non = true := rfl
@[simp ↓] theorem s_isNonI {i : Int} : isNon (.int i) = false := rfl
@[simp ↓] theorem s_isNonT {i : List D} : isNon (.tup i) = false := rfl
theorem okD_int {i : Int} : okD (.int i) = some (.int i) := by
  unfold okD D.py
  show (if SeqAt.shaped (.int i) = true then _ else _) = _
  rw [if_pos (by simp [SeqAt.shaped, PyData.canLay0, PyData.depth])]
@[simp ↓] theorem f_eq {i j : Int} : fEq (.int i) (.int j) Q1 = Q1 (.bl (decide (i = j))) := by
  unfold fEq
  rw [okD_int, okD_int]
  show Q1 (.bl (PyData.eqv (.int i) (.int j))) = _
  rw [show PyData.eqv (.int i) (.int j) = decide (i = j) from PySem.W.Datum.eqv (α := Int) i j]
@[simp ↓] theorem f_ne {i j : Int} : fNe (.int i) (.int j) Q1 = Q1 (.bl (!decide (i = j))) := by
  unfold fNe
  rw [okD_int, okD_int]
  show Q1 (.bl (!PyData.eqv (.int i) (.int j))) = _
  rw [show PyData.eqv (.int i) (.int j) = decide (i = j) from PySem.W.Datum.eqv (α := Int) i j]
theorem ix_lt {n : Nat} {i : Int} (h0 : 0 ≤ i) (h : i < n) : ixN n i = some i.toNat := by
  unfold ixN
  rw [if_pos h0, if_pos h]
theorem at_lt {α : Type} {xs : List α} {i : Int} (h0 : 0 ≤ i) (h : i < xs.length) : atI xs i = xs[i.toNat]? := by
  unfold atI
  rw [ix_lt h0 h]
  rfl
theorem atI_nat {α : Type} {xs : List α} {i : Nat} (h : i < xs.length) : atI xs (i : Int) = some xs[i] := by
  rw [at_lt (by omega) (by omega)]
  simp [h]
@[simp ↓] theorem at0 {α : Type} {a : α} {l : List α} : atI (a :: l) 0 = some a := by
  rw [at_lt (by decide) (by simp only [List.length_cons]; omega)]; rfl
@[simp ↓] theorem ix0 {n : Nat} : ixN (n + 1) 0 = some 0 := by
  rw [ix_lt (by decide) (by omega)]; rfl
@[simp ↓] theorem at1 {α : Type} {a b : α} {l : List α} : atI (a :: b :: l) 1 = some b := by
  rw [at_lt (by decide) (by simp only [List.length_cons]; omega)]; rfl
@[simp ↓] theorem ix1 {n : Nat} : ixN (n + 1 + 1) 1 = some 1 := by
  rw [ix_lt (by decide) (by omega)]; rfl
@[simp ↓] theorem at2 {α : Type} {a b c : α} {l : List α} : atI (a :: b :: c :: l) 2 = some c := by
  rw [at_lt (by decide) (by simp only [List.length_cons]; omega)]; rfl
@[simp ↓] theorem ix2 {n : Nat} : ixN (n + 1 + 1 + 1) 2 = some 2 := by
  rw [ix_lt (by decide) (by omega)]; rfl
@[simp ↓] theorem at3 {α : Type} {a b c d : α} {l : List α} : atI (a :: b :: c :: d :: l) 3 = some d := by
  rw [at_lt (by decide) (by simp only [List.length_cons]; omega)]; rfl
@[simp ↓] theorem ix3 {n : Nat} : ixN (n + 1 + 1 + 1 + 1) 3 = some 3 := by
  rw [ix_lt (by decide) (by omega)]; rfl
@[simp ↓] theorem at4 {α : Type} {a b c d e : α} {l : List α} : atI (a :: b :: c :: d :: e :: l) 4 = some e := by
  rw [at_lt (by decide) (by simp only [List.length_cons]; omega)]; rfl
@[simp ↓] theorem ix4 {n : Nat} : ixN (n + 1 + 1 + 1 + 1 + 1) 4 = some 4 := by
  rw [ix_lt (by decide) (by omega)]; rfl
@[simp ↓] theorem at5 {α : Type} {a b c d e f : α} {l : List α} : atI (a :: b :: c :: d :: e :: f :: l) 5 = some f := by
  rw [at_lt (by decide) (by simp only [List.length_cons]; omega)]; rfl
@[simp ↓] theorem ix5 {n : Nat} : ixN (n + 1 + 1 + 1 + 1 + 1 + 1) 5 = some 5 := by
  rw [ix_lt (by decide) (by omega)]; rfl
@[simp ↓] theorem f_ixT {xs : List D} {i : Int} : fIx (.tup xs) (.int i) Q1 = match atI xs i with
  | some d => Q1 d
  | none => False := rfl
@[simp ↓] theorem f_ixL {xs : List D} {i : Int} : fIx (.lst xs) (.int i) Q1 = match atI xs i with
  | some d => Q1 d
  | none => False := rfl
@[simp ↓] theorem f_ixO {xs : List D} {i : Int} : ixO (.lst xs) (.int i) Q1 = match atI xs i with
  | some d => Q1 d
  | none => False := rfl
@[simp ↓] theorem s_setIx {j : Nat} {i v : DE} : dSetIx j i v Ē Z e = v Ē e fun d e1 => match e1[j]? with
  | some (.ow _ (.lst _)) => i Ē e1 fun y e2 => (match y, e2[j]? with
    | .int k, some (.ow b (.lst xs)) => (match ixN xs.length k with
      | some m => Z.nx (e2.set j (.ow b (.lst (xs.set m d))))
      | none => False)
    | _, _ => False)
  | _ => False := rfl
theorem seq_cut {s t : DS} (I : DEnv → Prop) (h1 : ∀ K : DEnv → Prop, (∀ e, I e → K e) → s Ē { Z with nx := K } e) (h2 : ∀ e, I e → t Ē Z e) : dSeq s t Ē Z e := h1 _ h2
end
/-! loops -/
theorem for_rule {α : Type} (enc : α → D) (I : List α → DEnv → Prop) {g : DG} {body : DS} {Ē : XD} {Z : DEnds} {xs : List α} {e : DEnv} (h0 : I xs e)
    (step : ∀ x rest e, I (x :: rest) e → ∀ Kn : DEnv → Prop, (∀ e, I rest e → Kn e) → g (enc x) e fun e1 => body Ē { Z with nx := Kn, ct := Kn, bk := Z.nx } e1)
    (hend : ∀ e, I [] e → Z.nx e) : forGo g body Ē Z (xs.map enc) e := by
  induction xs generalizing e with
  | nil => exact hend e h0
  | cons x rest ih => exact step x rest e h0 _ fun e h => ih h
theorem wh_rule (I : Nat → DEnv → Prop) {dc : DT} {db : DS} {Ē : XD} {Z : DEnds} {e : DEnv} {n : Nat} (h0 : I n e) (step : ∀ n e, I n e → ∀ Kn : DEnv → Prop, (∀ m e', m < n → I m e' → Kn e') → dc Ē e fun b e1 => if b = true then db Ē { Z with nx := Kn, ct := Kn, bk := Z.nx } e1 else Z.nx e1) : dWhile dc db Ē Z e :=
  ⟨I, ⟨n, h0⟩, fun n e h => step n e h _ fun m e' l h' => ⟨m, l, h'⟩⟩
theorem lc_rule {α : Type} (enc : α → D) (I : List α → List D → DEnv → Prop) {g : DG} {dt : DT} {de : DE} {vs : List Nat} {P : List D → DEnv → Prop} {xs : List α} {acc : List D} {e : DEnv} (h0 : I xs acc e)
    (step : ∀ x rest acc e, I (x :: rest) acc e → ∀ Kn : List D → DEnv → Prop, (∀ acc e, I rest acc e → Kn acc e) → g (enc x) e fun e1 => dt X0 e1 fun b e2 => if b = true then de X0 e2 fun y e3 => acc.length < sizeLine ∧ Kn (acc ++ [y]) (wipeE vs e3) else Kn acc (wipeE vs e2))
    (hend : ∀ acc e, I [] acc e → P acc e) : lcGo g dt de vs P (xs.map enc) acc e := by
  induction xs generalizing acc e with
  | nil => exact hend acc e h0
  | cons x rest ih => exact step x rest acc e h0 _ fun acc e h => ih h
/-- a map over data, no slot changes but the target -/
theorem lc_map {α : Type} (enc : α → D) (f : α → D) {i : Nat} {de : DE} {P : List D → DEnv → Prop} {xs : List α} {acc : List D} {e : DEnv} (he : e[i]? = some .no) (hl : acc.length + xs.length < sizeLine)
    (step : ∀ x ∈ xs, ∀ Kn : D → DEnv → Prop, Kn (f x) (e.set i (.fr (enc x))) → de X0 (e.set i (.fr (enc x))) Kn) (hend : P (acc ++ xs.map f) e) : lcGo (gVar i) dYes de [i] P (xs.map enc) acc e := by
  induction xs generalizing acc with
  | nil => simpa [lcGo] using hend
  | cons x rest ih =>
    rw [List.map_cons]
    unfold lcGo gVar setF
    rw [he]
    refine step x List.mem_cons_self _ ?_
    simp only [List.length_cons] at hl
    refine ⟨by omega, ?_⟩
    have e1 : wipeE [i] (e.set i (.fr (enc x))) = e := by
      show (e.set i (.fr (enc x))).set i .no = e
      rw [List.set_set]
      apply List.ext_getElem?
      intro j
      by_cases h : i = j
      · subst h
        rw [he, List.getElem?_set_self (List.getElem?_eq_some_iff.mp he).1]
      · rw [List.getElem?_set_ne h]
    rw [e1]
    exact ih (by simp; omega) (fun y hy => step y (List.mem_cons_of_mem _ hy)) (by simpa using hend)
theorem lc_mapG {α : Type} (enc f : α → D) {g : DG} {de : DE} {vs : List Nat} {P : List D → DEnv → Prop} {xs : List α} {acc : List D} {e : DEnv} (hl : acc.length + xs.length < sizeLine)
    (step : ∀ x ∈ xs, ∀ Kn : D → DEnv → Prop, Kn (f x) e → g (enc x) e fun e1 => de X0 e1 fun y e3 => Kn y (wipeE vs e3)) (hend : P (acc ++ xs.map f) e) : lcGo g dYes de vs P (xs.map enc) acc e := by
  induction xs generalizing acc with
  | nil => simpa [lcGo] using hend
  | cons x rest ih =>
    rw [List.map_cons]
    simp only [List.length_cons] at hl
    refine step x List.mem_cons_self (fun y e' => acc.length < sizeLine ∧ lcGo g dYes de vs P (rest.map enc) (acc ++ [y]) e') ⟨by omega, ?_⟩
    exact ih (by simp; omega) (fun y hy => step y (List.mem_cons_of_mem _ hy)) (by simpa using hend)
theorem for_idx {g : DG} {body : DS} {Ē : XD} {Z : DEnds} (I : Nat → DEnv → Prop) {ds : List D} {e : DEnv} (h0 : I 0 e)
    (step : ∀ i (hi : i < ds.length) e, I i e → ∀ Kn : DEnv → Prop, (∀ e, I (i + 1) e → Kn e) → g ds[i] e fun e1 => body Ē { Z with nx := Kn, ct := Kn, bk := Z.nx } e1)
    (hend : ∀ e, I ds.length e → Z.nx e) : forGo g body Ē Z ds e := by
  have key : ∀ (n : Nat) (i : Nat) (e : DEnv), n = ds.length - i → i ≤ ds.length → I i e → forGo g body Ē Z (ds.drop i) e := by
    intro n
    induction n with
    | zero =>
      intro i e hn hi h
      have : i = ds.length := by omega
      subst this
      rw [List.drop_length]
      exact hend e h
    | succ n ih =>
      intro i e hn hi h
      have hlt : i < ds.length := by omega
      rw [List.drop_eq_getElem_cons hlt]
      exact step i hlt e h _ fun e' h' => ih (i + 1) e' (by omega) (by omega) h'
  have := key ds.length 0 e (by simp) (Nat.zero_le _) h0
  simpa using this
theorem range_map {n : Nat} : rangeD 0 n = (List.range n).map fun (i : Nat) => D.int i := by
  unfold rangeD
  apply List.map_congr_left
  intro i _
  rw [Int.zero_add]
theorem pairs_map {α β : Type} (f : α → D) (g : β → D) : ∀ (xs : List α) (ys : List β), pairsD (xs.map f) (ys.map g) = (xs.zip ys).map fun p => D.tup [f p.1, g p.2]
  | [], _ => by simp [pairsD]
  | _ :: _, [] => by simp [pairsD]
  | x :: xs, y :: ys => by simp [pairsD, pairs_map f g xs ys]
theorem enum_map {α : Type} (f : α → D) (xs : List α) : enumD (xs.map f) = xs.zipIdx.map fun p => D.tup [.int p.2, f p.1] := by
  unfold enumD
  rw [List.length_map, range_map, pairs_map]
  apply List.ext_getElem?
  intro i
  simp [List.getElem?_zipIdx, List.getElem?_zip_eq_some, List.zip]
  rw [List.getElem?_zipWith]
  cases h : xs[i]? with
  | none => simp
  | some x =>
    have := (List.getElem?_eq_some_iff.mp h).1
    simp [this]
@[simp] theorem wipe0 {e : DEnv} : wipeE [] e = e := rfl
@[simp] theorem wipeS {e : DEnv} {j : Nat} {vs : List Nat} : wipeE (j :: vs) e = (wipeE vs e).set j .no := rfl
@[simp] theorem back0 {e0 e : DEnv} : backE [] e0 e = e := rfl
@[simp] theorem backS {e0 e : DEnv} {j : Nat} {vs : List Nat} : backE (j :: vs) e0 e = match e0[j]? with
  | some s => (backE vs e0 e).set j s
  | none => backE vs e0 e := rfl
@[simp] theorem nown0 {e : DEnv} : notOwn [] e = true := rfl
@[simp] theorem nownS {e : DEnv} {j : Nat} {vs : List Nat} : notOwn (j :: vs) e = ((match e[j]? with
  | some (.ow _ _) => false
  | _ => true) && notOwn vs e) := rfl
theorem at_n {α : Type} {xs : List α} {f : α → D} {i : Nat} (h : i < xs.length) : atI (xs.map f) (i : Int) = some (f xs[i]) := by
  rw [atI_nat (by simpa using h)]
  simp
theorem f_sumN {xs : List Int} {Q1 : D → Prop} : fSum [.lst (xs.map D.int)] Q1 = Q1 (.int xs.sum) := by
  show (match D.ints (xs.map D.int) with | some ns => Q1 (.int ns.sum) | none => False) = _
  rw [D.ints_map]
/-! exits -/
theorem retA_fr : ∀ {ds : List D} {e : DEnv}, retA (ds.map .fr) e = ds.map .fr
  | [], _ => rfl
  | d :: ds, e => by simp [retA, ret1, retA_fr]
@[simp ↓] theorem retA_nil {e : DEnv} : retA [] e = [] := rfl
@[simp ↓] theorem retA_f {d : D} {as e : DEnv} : retA (.fr d :: as) e = .fr d :: retA as e.tail := rfl
@[simp ↓] theorem retA_o {o o' : O} {as e : DEnv} : retA (.ow true o :: as) (.ow true o' :: e) = .ow true o' :: retA as e := rfl
/-- natural numbers, rows of them -/
@[reducible] def nD (n : Nat) : D := .int n
@[reducible] def nT (xs : List Nat) : D := .tup (xs.map nD)
@[simp] theorem nT_eq {xs : List Nat} : nT xs = .tup (xs.map nD) := rfl
@[simp] theorem castEq {i j : Nat} : ((i : Int) = (j : Int)) = (i = j) := by
  apply propext
  omega
section
variable {Ē : XD} {e : DEnv} {Q1 : List D → D → Prop} {QO : O → DEnv → Prop} {Q : D → DEnv → Prop} {P : List D → DEnv → Prop}
@[simp ↓] theorem m_app {xs : List D} {d : D} : mAppend xs [d] Q1 = (xs.length < sizeLine ∧ Q1 (xs ++ [d]) .non) := rfl
@[simp ↓] theorem m_ins {xs : List D} {i : Int} {d : D} : mInsert xs [.int i, d] Q1 = (xs.length < sizeLine ∧ (0 ≤ i ∧ i < 2 ^ 63) ∧ Q1 (xs.take i.toNat ++ [d] ++ xs.drop i.toNat) .non) := rfl
@[simp ↓] theorem m_clr {xs : List D} : mClear xs [] Q1 = Q1 [] .non := rfl
@[simp ↓] theorem s_listOf {a : DE} : dListOf a Ē e QO = a Ē e fun x e1 => match x with
  | .lst xs => QO (.lst xs) e1
  | .tup xs => QO (.lst xs) e1
  | _ => False := rfl
@[simp ↓] theorem s_lc2 {di : DI} {g : DG} {dt : DT} {di1 : DI} {g1 : DG} {dt1 : DT} {de : DE} {vs vs1 : List Nat} : dLc2 di g dt di1 g1 dt1 de vs vs1 Ē e QO = di Ē e fun ds e1 => notOwn vs e1 = true ∧ lc2Go g dt di1 g1 dt1 de vs vs1 (fun acc e2 => QO (.lst acc) (backE vs e1 e2)) ds [] (wipeE vs e1) := rfl
theorem set_no {e : DEnv} {i : Nat} (h : e[i]? = some .no) (d : Sl) : (e.set i d).set i .no = e := by
  rw [List.set_set]
  apply List.ext_getElem?
  intro j
  by_cases z : i = j
  · subst z
    rw [h, List.getElem?_set_self (List.getElem?_eq_some_iff.mp h).1]
  · rw [List.getElem?_set_ne z]
theorem lc2_in {β : Type} (enc : β → D) (f : β → D) {j : Nat} {de : DE} {xs : List β} {acc : List D} {e : DEnv} (he : e[j]? = some .no) (hl : acc.length + xs.length < sizeLine)
    (step : ∀ x ∈ xs, ∀ Kn : D → DEnv → Prop, Kn (f x) (e.set j (.fr (enc x))) → de X0 (e.set j (.fr (enc x))) Kn) (hend : P (acc ++ xs.map f) e) : lc2In (gVar j) dYes de [j] P (xs.map enc) acc e := by
  induction xs generalizing acc with
  | nil => simpa [lc2In] using hend
  | cons x rest ih =>
    rw [List.map_cons]
    unfold lc2In gVar setF
    rw [he]
    refine step x List.mem_cons_self _ ?_
    simp only [List.length_cons] at hl
    refine ⟨by omega, ?_⟩
    rw [show wipeE [j] (e.set j (.fr (enc x))) = e from set_no he _]
    exact ih (by simp; omega) (fun y hy => step y (List.mem_cons_of_mem _ hy)) (by simpa using hend)
theorem lc2_map {α β : Type} (enc : α → D) (enc2 : β → D) (ys : α → List β) (f : α → β → D) {i j : Nat} {di1 : DI} {de : DE} {xs : List α} {acc : List D} {e : DEnv} (hij : i ≠ j) (hi : e[i]? = some .no) (he : e[j]? = some .no)
    (hl : acc.length + (xs.flatMap fun x => (ys x).map (f x)).length < sizeLine)
    (inn : ∀ x ∈ xs, ∀ Kn : List D → DEnv → Prop, Kn ((ys x).map enc2) (e.set i (.fr (enc x))) → di1 X0 (e.set i (.fr (enc x))) Kn)
    (step : ∀ x ∈ xs, ∀ y ∈ ys x, ∀ Kn : D → DEnv → Prop, Kn (f x y) ((e.set i (.fr (enc x))).set j (.fr (enc2 y))) → de X0 ((e.set i (.fr (enc x))).set j (.fr (enc2 y))) Kn) (hend : P (acc ++ xs.flatMap fun x => (ys x).map (f x)) e) :
    lc2Go (gVar i) dYes di1 (gVar j) dYes de [i, j] [j] P (xs.map enc) acc e := by
  induction xs generalizing acc with
  | nil => simpa [lc2Go] using hend
  | cons x rest ih =>
    rw [List.map_cons]
    unfold lc2Go
    show setF e i (enc x) _
    unfold setF
    rw [hi]
    refine inn x List.mem_cons_self _ ?_
    simp only [List.flatMap_cons, List.length_append, List.length_map] at hl hend
    have hn : (e.set i (.fr (enc x)))[j]? = some .no := by rw [List.getElem?_set_ne hij]; exact he
    have w1 : wipeE [j] (e.set i (.fr (enc x))) = e.set i (.fr (enc x)) := by
      show (e.set i (.fr (enc x))).set j .no = _
      apply List.ext_getElem?
      intro l
      by_cases z : j = l
      · subst z
        rw [hn, List.getElem?_set_self (List.getElem?_eq_some_iff.mp hn).1]
      · rw [List.getElem?_set_ne z]
    rw [w1]
    refine lc2_in enc2 (f x) hn (by omega) (fun y hy Kn h => step x List.mem_cons_self y hy Kn h) ?_
    have w2 : wipeE [i, j] (e.set i (.fr (enc x))) = e := by
      show ((e.set i (.fr (enc x))).set j .no).set i .no = e
      have := w1
      simp only [wipeS, wipe0] at this
      rw [this]
      exact set_no hi _
    rw [w2]
    exact ih (by rw [List.length_append, List.length_map]; omega) (fun y hy => inn y (List.mem_cons_of_mem _ hy)) (fun y hy => step y (List.mem_cons_of_mem _ hy)) (by simpa using hend)
end
@[simp] theorem lz0 : (0 ≤ sizeLine) = True := eq_true (by rw [sizeLine_eq]; omega)
@[simp] theorem lz1 : (1 ≤ sizeLine) = True := eq_true (by rw [sizeLine_eq]; omega)
@[simp] theorem lz2 : (2 ≤ sizeLine) = True := eq_true (by rw [sizeLine_eq]; omega)
@[simp] theorem lz3 : (3 ≤ sizeLine) = True := eq_true (by rw [sizeLine_eq]; omega)
@[simp] theorem lz4 : (4 ≤ sizeLine) = True := eq_true (by rw [sizeLine_eq]; omega)
@[simp] theorem lz5 : (5 ≤ sizeLine) = True := eq_true (by rw [sizeLine_eq]; omega)
@[simp] theorem lz6 : (6 ≤ sizeLine) = True := eq_true (by rw [sizeLine_eq]; omega)
@[simp] theorem lz7 : (7 ≤ sizeLine) = True := eq_true (by rw [sizeLine_eq]; omega)
@[simp] theorem lz8 : (8 ≤ sizeLine) = True := eq_true (by rw [sizeLine_eq]; omega)
@[simp] theorem lz9 : (9 ≤ sizeLine) = True := eq_true (by rw [sizeLine_eq]; omega)
@[simp] theorem lz10 : (10 ≤ sizeLine) = True := eq_true (by rw [sizeLine_eq]; omega)
@[simp] theorem lz11 : (11 ≤ sizeLine) = True := eq_true (by rw [sizeLine_eq]; omega)
@[simp] theorem lz12 : (12 ≤ sizeLine) = True := eq_true (by rw [sizeLine_eq]; omega)
@[simp] theorem lz13 : (13 ≤ sizeLine) = True := eq_true (by rw [sizeLine_eq]; omega)
section
variable {Ē : XD} {e : DEnv} {Q : D → DEnv → Prop} {Z : DEnds}
@[simp ↓] theorem s_fldO {j : Nat} {cs : List Str} {f : Str} : dFldO j cs f Ē e Q = match e[j]? with
  | some (.ow _ (.ins c fs)) => cs.contains c = true ∧ (match fs.lookup f with
    | some d => Q d e
    | none => False)
  | some (.fr (.ins c fs)) => cs.contains c = true ∧ (match fs.lookup f with
    | some d => Q d e
    | none => False)
  | _ => False := rfl
@[simp ↓] theorem s_setFld {j : Nat} {cs : List Str} {f : Str} {a : DE} : dSetFld j cs f a Ē Z e = a Ē e fun d e1 => match e1[j]? with
  | some (.ow b (.ins c fs)) => cs.contains c = true ∧ fs.length < 1000 ∧ Z.nx (e1.set j (.ow b (.ins c (putD f d fs))))
  | _ => False := rfl
@[simp ↓] theorem s_callO {c : Str} {dsp : DSp} {f : DE} {a : DA} : dCallO c dsp f a Ē e Q = f Ē e fun y e0 => match y with
  | .ins c' fs => c' = c ∧ a Ē e0 fun ds e1 => dsp ((.ins c' fs :: ds).map .fr) (fun d _ => Q d e1) X0
  | _ => False := rfl
@[simp ↓] theorem s_isC {c : Str} {a : DE} : dIsC c a Ē e Q = a Ē e fun x e1 => match x with
  | .ins c' _ => c' = c ∧ Q (.bl true) e1
  | _ => False := rfl
@[simp ↓] theorem s_bor {j : Nat} {a : DE} : dBor j a Ē e Q = match e[j]? with
  | some (.ow _ (.lst xs)) => (e.set j .no).all noO = true ∧ a X0 (e.set j (.fr (.lst xs))) fun d e1 => noL d = true ∧ e1 = e.set j (.fr (.lst xs)) ∧ Q d e
  | some _ => a Ē e Q
  | none => False := by
  unfold dBor
  rfl
end
/-! what == and in compare -/
def Sh (d : D) (p : PyData) (n : Nat) : Prop := d.py = some p ∧ p.canLay0 = true ∧ p.depth ≤ n
def ShL (ds : List D) (ps : List PyData) (n : Nat) : Prop := D.pyL ds = some ps ∧ PyData.canLayAll0 ps = true ∧ PyData.depthAll ps ≤ n
theorem Sh.int (i : Int) : Sh (.int i) (.int i) 0 := ⟨rfl, rfl, by simp [PyData.depth]⟩
theorem Sh.bl (i : Bool) : Sh (.bl i) (.bool i) 0 := ⟨rfl, rfl, by simp [PyData.depth]⟩
theorem Sh.str {x : Str} (h : PyData.strOk x = true) : Sh (.str x) (.str x) 0 := ⟨rfl, h, by simp [PyData.depth]⟩
theorem ShL.map {α : Type} {f : α → D} {g : α → PyData} {n : Nat} {xs : List α} (h : ∀ x ∈ xs, Sh (f x) (g x) n) : ShL (xs.map f) (xs.map g) n := by
  induction xs with
  | nil => exact ⟨rfl, rfl, by simp [PyData.depthAll]⟩
  | cons x xs ih =>
    obtain ⟨h1, h2, h3⟩ := h x List.mem_cons_self
    obtain ⟨k1, k2, k3⟩ := ih fun y hy => h y (List.mem_cons_of_mem _ hy)
    refine ⟨?_, ?_, ?_⟩
    · rw [List.map_cons, List.map_cons]; unfold D.pyL; rw [h1, k1]
    · rw [List.map_cons]; simp [PyData.canLayAll0, h2, k2]
    · rw [List.map_cons]; simp [PyData.depthAll]; omega
theorem ShL.nil {n : Nat} : ShL [] [] n := ⟨rfl, rfl, by simp [PyData.depthAll]⟩
theorem ShL.cons {d : D} {p : PyData} {ds : List D} {ps : List PyData} {n : Nat} (h : Sh d p n) (k : ShL ds ps n) : ShL (d :: ds) (p :: ps) n := by
  obtain ⟨h1, h2, h3⟩ := h
  obtain ⟨k1, k2, k3⟩ := k
  exact ⟨by unfold D.pyL; rw [h1, k1], by simp [PyData.canLayAll0, h2, k2], by simp [PyData.depthAll]; omega⟩
theorem Sh.tup {ds : List D} {ps : List PyData} {n : Nat} (h : ShL ds ps n) : Sh (.tup ds) (.tuple ps) (n + 1) := by
  obtain ⟨h1, h2, h3⟩ := h
  exact ⟨by unfold D.py; rw [h1]; rfl, by simp [PyData.canLay0, h2], by simp [PyData.depth]; omega⟩
theorem Sh.lst {ds : List D} {ps : List PyData} {n : Nat} (h : ShL ds ps n) : Sh (.lst ds) (.list ps) (n + 1) := by
  obtain ⟨h1, h2, h3⟩ := h
  exact ⟨by unfold D.py; rw [h1]; rfl, by simp [PyData.canLay0, h2], by simp [PyData.depth]; omega⟩
theorem Sh.mono {d : D} {p : PyData} {n m : Nat} (h : Sh d p n) (hm : n ≤ m) : Sh d p m := ⟨h.1, h.2.1, by have := h.2.2; omega⟩
theorem Sh.ok {d : D} {p : PyData} {n : Nat} (h : Sh d p n) (hn : n ≤ 64) : okD d = some p := by
  obtain ⟨h1, h2, h3⟩ := h
  unfold okD
  rw [h1]
  show (if SeqAt.shaped p = true then some p else none) = some p
  rw [if_pos]
  unfold SeqAt.shaped
  rw [h2, Bool.true_and]
  exact decide_eq_true (by omega)
theorem f_eqS {d d' : D} {p p' : PyData} {n n' : Nat} {Q1 : D → Prop} (h : Sh d p n) (h' : Sh d' p' n') (hn : n ≤ 64) (hn' : n' ≤ 64) : fEq d d' Q1 = Q1 (.bl (PyData.eqv p p')) := by
  unfold fEq
  rw [h.ok hn, h'.ok hn']
theorem f_neS {d d' : D} {p p' : PyData} {n n' : Nat} {Q1 : D → Prop} (h : Sh d p n) (h' : Sh d' p' n') (hn : n ≤ 64) (hn' : n' ≤ 64) : fNe d d' Q1 = Q1 (.bl (!PyData.eqv p p')) := by
  unfold fNe
  rw [h.ok hn, h'.ok hn']
theorem f_eqR {d : D} {p : PyData} {n : Nat} {Q1 : D → Prop} (h : Sh d p n) (hn : n ≤ 64) : fEq d d Q1 = Q1 (.bl true) := by
  rw [f_eqS h h hn hn, PySem.SeqAt.eqv_refl p h.2.1]
@[simp ↓] theorem f_eqB {a b : Bool} {Q1 : D → Prop} : fEq (.bl a) (.bl b) Q1 = Q1 (.bl (a == b)) := by
  rw [f_eqS (Sh.bl a) (Sh.bl b) (by decide) (by decide)]
  cases a <;> cases b <;> rfl
@[simp ↓] theorem f_neB {a b : Bool} {Q1 : D → Prop} : fNe (.bl a) (.bl b) Q1 = Q1 (.bl (!(a == b))) := by
  rw [f_neS (Sh.bl a) (Sh.bl b) (by decide) (by decide)]
  cases a <;> cases b <;> rfl
theorem f_inS {neg : Bool} {d : D} {p : PyData} {ds : List D} {ps : List PyData} {n m : Nat} {Q1 : D → Prop} (h : Sh d p n) (h' : ShL ds ps m) (hn : n ≤ 64) (hm : m ≤ 60) : fIn neg d (.lst ds) Q1 = Q1 (.bl (if neg then !(ps.any fun z => PyData.eqv z p) else ps.any fun z => PyData.eqv z p)) := by
  unfold fIn
  rw [h.ok hn]
  show (match okD (.lst ds) with | some (.list qs) => Q1 (.bl (if neg then !(qs.any fun z => PyData.eqv z p) else qs.any fun z => PyData.eqv z p)) | _ => False) = _
  rw [(Sh.lst h').ok (by omega)]
theorem f_inT {neg : Bool} {d : D} {p : PyData} {ds : List D} {ps : List PyData} {n m : Nat} {Q1 : D → Prop} (h : Sh d p n) (h' : ShL ds ps m) (hn : n ≤ 64) (hm : m ≤ 60) : fIn neg d (.tup ds) Q1 = Q1 (.bl (if neg then !(ps.any fun z => PyData.eqv z p) else ps.any fun z => PyData.eqv z p)) := by
  unfold fIn
  rw [h.ok hn]
  show (match okD (.tup ds) with | some (.tuple qs) => Q1 (.bl (if neg then !(qs.any fun z => PyData.eqv z p) else qs.any fun z => PyData.eqv z p)) | _ => False) = _
  rw [(Sh.tup h').ok (by omega)]
theorem f_inStr {neg : Bool} {x y : Str} {Q1 : D → Prop} (h : PyData.strOk x = true) : fIn neg (.str x) (.str y) Q1 = Q1 (.bl (if neg then !(!(Builtin.Str.occurrences y x 0 y.length 1).isEmpty) else !(Builtin.Str.occurrences y x 0 y.length 1).isEmpty)) := by
  unfold fIn
  rw [(Sh.str h).ok (by decide)]
@[simp ↓] theorem s_sl {a : DE} {l h : DO} {Ē : XD} {e : DEnv} {Q : D → DEnv → Prop} : dSl a l h Ē e Q = a Ē e fun x e1 => l Ē e1 fun i e2 => h Ē e2 fun j e3 => match x with
  | .tup xs => Q (.tup (cutD xs i j)) e3
  | .lst xs => Q (.lst (cutD xs i j)) e3
  | .scr xs => Q (.lst (cutD xs i j)) e3
  | _ => False := rfl
@[simp ↓] theorem s_noP {Ē : XD} {e : DEnv} {Q : Option Int → DEnv → Prop} : dNoP Ē e Q = Q none e := rfl
@[simp ↓] theorem s_pt {a : DE} {Ē : XD} {e : DEnv} {Q : Option Int → DEnv → Prop} : dPt a Ē e Q = a Ē e fun x e1 => match x with
  | .int i => Q (some i) e1
  | _ => False := rfl
theorem cut_to {xs : List D} {i : Nat} : cutD xs none (some (i : Int)) = xs.take i := by
  unfold cutD
  rw [HT.sIx_none, HT.sIx_nat]
  simp
theorem cut_from {xs : List D} {i : Nat} : cutD xs (some (i : Int)) none = xs.drop i := by
  unfold cutD
  rw [HT.sIx_none, HT.sIx_nat]
  rw [List.take_of_length_le (by simp)]
  by_cases h : i ≤ xs.length
  · rw [Nat.min_eq_left h]
  · rw [Nat.min_eq_right (by omega), List.drop_eq_nil_of_le (by omega), List.drop_eq_nil_of_le (by omega)]
section
variable {Ē : XD} {e : DEnv} {Q : D → DEnv → Prop} {QO : O → DEnv → Prop} {Z : DEnds}
@[simp ↓] theorem s_newT : dNewT Ē e QO = QO (.dT []) e := rfl
@[simp ↓] theorem s_din {neg : Bool} {j : Nat} {a : DE} : dDIn neg j a Ē e Q = a Ē e fun y e1 => match keyT y, e1[j]? with
  | some k, some (.ow _ (.dT kvs)) => Q (.bl (if neg then !(valD kvs k).isSome else (valD kvs k).isSome)) e1
  | _, _ => False := rfl
@[simp ↓] theorem s_dget {j : Nat} {a : DE} : dDGet j a Ē e Q = match e[j]? with
  | some (.ow _ (.dT _)) => a Ē e fun y e1 => (match keyT y, e1[j]? with
    | some k, some (.ow _ (.dT kvs)) => (match valD kvs k with
      | some d => Q d e1
      | none => False)
    | _, _ => False)
  | some (.fr (.dT kvs)) => a Ē e fun y e1 => (match keyT y with
    | some k => (match valD kvs k with
      | some d => Q d e1
      | none => False)
    | none => False)
  | _ => False := rfl
@[simp ↓] theorem s_dgetE {b a : DE} : dDGetE b a Ē e Q = b Ē e fun x e0 => match x with
  | .dT kvs => a Ē e0 fun y e1 => (match keyT y with
    | some k => (match valD kvs k with
      | some d => Q d e1
      | none => False)
    | none => False)
  | _ => False := rfl
@[simp ↓] theorem s_dput {j : Nat} {a b : DE} : dDPut j a b Ē Z e = b Ē e fun w e1 => match e1[j]? with
  | some (.ow _ (.dT _)) => a Ē e1 fun y e2 => (match keyT y, e2[j]? with
    | some k, some (.ow fx (.dT kvs)) => kvs.length < sizeLine ∧ Z.nx (e2.set j (.ow fx (.dT (putKD kvs k w))))
    | _, _ => False)
  | _ => False := rfl
@[simp ↓] theorem s_minD {a d : DE} : dMinD a d Ē e Q = a Ē e fun x e1 => d Ē e1 fun y e2 => match x, y with
  | .lst xs, .int z => (match D.ints xs with
    | some ns => Q (.int (minD z ns)) e2
    | none => False)
  | _, _ => False := rfl
end
def keyN (x : List Nat) : List Key := x.map fun n : Nat => Sum.inl (n : Int)
@[simp] theorem keyT_nT (x : List Nat) : keyT (.tup (x.map nD)) = some (keyN x) := by
  show keyL (x.map nD) = _
  induction x with
  | nil => rfl
  | cons n x ih =>
    rw [List.map_cons]
    unfold keyL
    rw [ih]
    rfl
theorem keyN_inj {x y : List Nat} (h : keyN x = keyN y) : x = y := by
  induction x generalizing y with
  | nil => cases y with
    | nil => rfl
    | cons _ _ => simp [keyN] at h
  | cons n x ih => cases y with
    | nil => simp [keyN] at h
    | cons m y =>
      unfold keyN at h
      simp only [List.map_cons, List.cons.injEq] at h
      obtain ⟨h1, h2⟩ := h
      injection h1 with h1
      rw [ih h2, show n = m by omega]
theorem valD_in {f : List Nat → D} {bs : List (List Nat)} {x : List Nat} (h : x ∈ bs) : valD (bs.map fun x => (keyN x, f x)) (keyN x) = some (f x) := by
  induction bs with
  | nil => cases h
  | cons b bs ih =>
    unfold valD
    rw [List.map_cons]
    by_cases z : b = x
    · subst z
      rw [List.find?_cons_of_pos (by simp)]
      rfl
    · rw [List.find?_cons_of_neg (by simp; exact fun y => z (keyN_inj y))]
      rcases List.mem_cons.mp h with h | h
      · exact absurd h.symm z
      · exact ih h
theorem valD_out {f : List Nat → D} {bs : List (List Nat)} {x : List Nat} (h : x ∉ bs) : valD (bs.map fun x => (keyN x, f x)) (keyN x) = none := by
  unfold valD
  rw [List.find?_eq_none.mpr]
  · rfl
  · intro p hp
    obtain ⟨b, hb, rfl⟩ := List.mem_map.mp hp
    simp
    exact fun y => h (keyN_inj y ▸ hb)
theorem put_out {f : List Nat → D} {bs : List (List Nat)} {x : List Nat} {d : D} (h : x ∉ bs) : putKD (bs.map fun x => (keyN x, f x)) (keyN x) d = (bs.map fun x => (keyN x, f x)) ++ [(keyN x, d)] := by
  unfold putKD
  rw [if_neg]
  simp
  intro b hb y
  exact h (keyN_inj y ▸ hb)
theorem minD_nat (l : List Nat) : minD 0 (l.map fun n : Nat => (n : Int)) = ((match l with | [] => 0 | n :: ns => ns.foldl min n : Nat) : Int) := by
  cases l with
  | nil => rfl
  | cons n ns =>
    show (ns.map fun n : Nat => (n : Int)).foldl min (n : Int) = _
    show _ = ((ns.foldl min n : Nat) : Int)
    induction ns generalizing n with
    | nil => rfl
    | cons m ns ih =>
      rw [List.map_cons, List.foldl_cons, List.foldl_cons, ← ih]
      congr 1
      omega
@[simp ↓] theorem look_hit {a : Str} {v : D} {l : List (Str × D)} : List.lookup a ((a, v) :: l) = some v := by
  rw [List.lookup_cons]
  simp
@[simp ↓] theorem look_miss {a b : Str} {v : D} {l : List (Str × D)} (h : (a == b) = false) : List.lookup a ((b, v) :: l) = List.lookup a l := by
  rw [List.lookup_cons, h]
theorem cut_from1 {xs : List D} {i : Nat} : cutD xs (some ((i : Int) + 1)) none = xs.drop (i + 1) := by
  have := cut_from (xs := xs) (i := i + 1)
  rwa [show (((i + 1 : Nat) : Int)) = (i : Int) + 1 by omega] at this
@[simp ↓] theorem ty_non_int  : D.isTy (.non) .int = some false := rfl
@[simp ↓] theorem ty_non_bool  : D.isTy (.non) .bool = some false := rfl
@[simp ↓] theorem ty_non_str  : D.isTy (.non) .str = some false := rfl
@[simp ↓] theorem ty_non_tuple  : D.isTy (.non) .tuple = some false := rfl
@[simp ↓] theorem ty_non_list  : D.isTy (.non) .list = some false := rfl
@[simp ↓] theorem ty_bl_int {b : Bool} : D.isTy (.bl b) .int = some true := rfl
@[simp ↓] theorem ty_bl_bool {b : Bool} : D.isTy (.bl b) .bool = some true := rfl
@[simp ↓] theorem ty_bl_str {b : Bool} : D.isTy (.bl b) .str = some false := rfl
@[simp ↓] theorem ty_bl_tuple {b : Bool} : D.isTy (.bl b) .tuple = some false := rfl
@[simp ↓] theorem ty_bl_list {b : Bool} : D.isTy (.bl b) .list = some false := rfl
@[simp ↓] theorem ty_int_int {i : Int} : D.isTy (.int i) .int = some true := rfl
@[simp ↓] theorem ty_int_bool {i : Int} : D.isTy (.int i) .bool = some false := rfl
@[simp ↓] theorem ty_int_str {i : Int} : D.isTy (.int i) .str = some false := rfl
@[simp ↓] theorem ty_int_tuple {i : Int} : D.isTy (.int i) .tuple = some false := rfl
@[simp ↓] theorem ty_int_list {i : Int} : D.isTy (.int i) .list = some false := rfl
@[simp ↓] theorem ty_str_int {x : Str} : D.isTy (.str x) .int = some false := rfl
@[simp ↓] theorem ty_str_bool {x : Str} : D.isTy (.str x) .bool = some false := rfl
@[simp ↓] theorem ty_str_str {x : Str} : D.isTy (.str x) .str = some true := rfl
@[simp ↓] theorem ty_str_tuple {x : Str} : D.isTy (.str x) .tuple = some false := rfl
@[simp ↓] theorem ty_str_list {x : Str} : D.isTy (.str x) .list = some false := rfl
@[simp ↓] theorem ty_tup_int {xs : List D} : D.isTy (.tup xs) .int = some false := rfl
@[simp ↓] theorem ty_tup_bool {xs : List D} : D.isTy (.tup xs) .bool = some false := rfl
@[simp ↓] theorem ty_tup_str {xs : List D} : D.isTy (.tup xs) .str = some false := rfl
@[simp ↓] theorem ty_tup_tuple {xs : List D} : D.isTy (.tup xs) .tuple = some true := rfl
@[simp ↓] theorem ty_tup_list {xs : List D} : D.isTy (.tup xs) .list = some false := rfl
@[simp ↓] theorem ty_lst_int {xs : List D} : D.isTy (.lst xs) .int = some false := rfl
@[simp ↓] theorem ty_lst_bool {xs : List D} : D.isTy (.lst xs) .bool = some false := rfl
@[simp ↓] theorem ty_lst_str {xs : List D} : D.isTy (.lst xs) .str = some false := rfl
@[simp ↓] theorem ty_lst_tuple {xs : List D} : D.isTy (.lst xs) .tuple = some false := rfl
@[simp ↓] theorem ty_lst_list {xs : List D} : D.isTy (.lst xs) .list = some true := rfl
@[simp ↓] theorem non_bl {b : Bool} : DL.isNon (.bl b) = false := rfl
@[simp ↓] theorem non_lst {b : List D} : DL.isNon (.lst b) = false := rfl
section
variable {Ē : XD} {e : DEnv} {Q : D → DEnv → Prop} {Z : DEnds}
@[simp ↓] theorem s_x0 {c : Str} {fs : List (Str × D)} : X0 e c fs = False := rfl
@[simp ↓] theorem s_callX {dsp : DSp} {a : DA} : dCallX dsp a Ē e Q = a Ē e fun ds e1 => dsp (ds.map .fr) (fun d _ => Q d e1) (fun _ c fs => Ē e1 c fs) := rfl
@[simp ↓] theorem s_makeX {c : Str} {dsp : DSp} {a : DA} : dMakeX c dsp a Ē e Q = a Ē e fun ds e1 => dsp (.ow true (.ins c []) :: ds.map .fr) (fun d as' => isNon d = true ∧ match as' with
  | .ow true (.ins c' fs) :: _ => Q (.ins c' fs) e1
  | _ => False) (fun as' c' fs => match as' with
  | .ow true _ :: _ => Ē e1 c' fs
  | _ => False) := rfl
@[simp ↓] theorem s_raise0 {c : Str} : dRaise0 c Ē Z e = Ē e c [] := rfl
@[simp ↓] theorem s_tryM {b : DS} {l : HdL} : dTryM b l Ē Z e = b (hdD Ē Z l) Z e := rfl
@[simp ↓] theorem s_hd0 {c : Str} {fs : List (Str × D)} : hdD Ē Z [] e c fs = Ē e c fs := rfl
@[simp ↓] theorem s_hdS {yes no : List Str} {s : DS} {r : HdL} {c : Str} {fs : List (Str × D)} : hdD Ē Z (((yes, no), s) :: r) e c fs = if yes.contains c = true then s X0 Z e else no.contains c = true ∧ hdD Ē Z r e c fs := rfl
@[simp ↓] theorem s_tryA {i : Nat} {yes no : List Str} {b : DS} {su : Addr → Str → Option Addr → DS} : dTryA i yes no b su Ē Z e = b (asD i yes no su Ē Z) Z e := rfl
@[simp ↓] theorem s_asD {i : Nat} {yes no : List Str} {su : Addr → Str → Option Addr → DS} {c : Str} {fs : List (Str × D)} : asD i yes no su Ē Z e c fs = if yes.contains c = true then ∀ a d, setF e i (.exc c fs d a) fun e1 => su a c d X0 (dropZ i Z) e1 else no.contains c = true ∧ Ē e c fs := rfl
@[simp ↓] theorem s_dropRt {i : Nat} : (dropZ i Z).rt = Z.rt := rfl
@[simp ↓] theorem s_dropNx {i : Nat} : (dropZ i Z).nx e = Z.nx (e.set i .no) := rfl
@[simp ↓] theorem s_isX {i : Nat} {yes no : List Str} {a : Addr} {c : Str} {d : Option Addr} : dIsX i yes no a c d Ē e Q = match e[i]? with
  | some (.fr (.exc c' _ d' a')) => c' = c ∧ d' = d ∧ a' = a ∧ if yes.contains c = true then Q (.bl true) e else no.contains c = true ∧ Q (.bl false) e
  | _ => False := rfl
@[simp ↓] theorem s_xf {i : Nat} {f : Str} {a : Addr} {c : Str} {d : Option Addr} : dXf i f a c d Ē e Q = match e[i]? with
  | some (.fr (.exc c' fs d' a')) => c' = c ∧ d' = d ∧ a' = a ∧ (match fs.lookup f with
    | some w => Q w e
    | none => False)
  | _ => False := rfl
@[simp ↓] theorem s_callHot {i : Nat} {hsp : HSp} {a : Addr} {c : Str} {d : Option Addr} : dCallHot i hsp a c d Ē e Q = match e[i]? with
  | some (.fr (.exc c' fs d' a')) => c' = c ∧ d' = d ∧ a' = a ∧ hsp c fs fun r => Q r e
  | _ => False := rfl
@[simp ↓] theorem s_cmpO {neg : Bool} {c : Str} {dsp : DSp} {a b : DE} : dCmpO neg c dsp a b Ē e Q = a Ē e fun x e1 => b Ē e1 fun y e2 => match x, y with
  | .ins c1 fs, .ins c2 gs => c1 = c ∧ c2 = c ∧ dsp [.fr (.ins c1 fs), .fr (.ins c2 gs)] (fun d _ => match d with
    | .bl r => Q (.bl (if neg then !r else r)) e2
    | _ => False) X0
  | _, _ => False := rfl
@[simp ↓] theorem s_prop {c : Str} {dsp : DSp} {a : DE} : dProp c dsp a Ē e Q = a Ē e fun y e0 => match y with
  | .ins c' fs => c' = c ∧ dsp [.fr (.ins c' fs)] (fun d _ => Q d e0) X0
  | _ => False := rfl
@[simp ↓] theorem s_listV {i : Nat} {QO : O → DEnv → Prop} : dListV i Ē e QO = match e[i]? with
  | some (.ow _ (.lst xs)) => QO (.lst xs) e
  | _ => dListOf (dVar i) Ē e QO := rfl
@[simp ↓] theorem f_addL {x y : List D} {Q1 : D → Prop} : fAdd (.lst x) (.lst y) Q1 = (x.length + y.length ≤ sizeLine ∧ Q1 (.lst (x ++ y))) := rfl
def SortOk (Q : D → Prop) (rs : List (List Int)) : Prop := rs.length < 64 ∧ ∃ (d : Nat) (B : Int), 1 ≤ d ∧ (∀ r ∈ rs, r.length = d ∧ TS.Bd B r) ∧
      ∀ L : List (List Int), L.Nodup → (∀ r, r ∈ L ↔ r ∈ rs) → L.Pairwise (fun q r => TS.code B q ≤ TS.code B r) → Q (.lst (L.map rowD))
@[simp ↓] theorem s_sortSet {a : DE} : dSortSet a Ē e Q = a Ē e fun x e1 => match x with
  | .tup ds => (match D.rows ds with
    | some rs => SortOk (fun d => Q d e1) rs
    | none => False)
  | .lst ds => (match D.rows ds with
    | some rs => SortOk (fun d => Q d e1) rs
    | none => False)
  | _ => False := rfl
end
end DL

set_option Elab.async false
set_option linter.all false
set_option maxRecDepth 100000
set_option maxHeartbeats 0
namespace K77
open PySem PySem.Spec PyProof.Rows L2
def top (i : Nat) : Stmt := PySem.Challenge.pw_tillsorder_k77_never_dearer_both_ways.main.body.getD i (.Pass ⟨0, 0, 0, 0⟩)
abbrev s_NoSingle_init : Stmt := inClass (top 9) 0
abbrev s_BadOffer_init : Stmt := inClass (top 10) 0
abbrev s_BadStock_init : Stmt := inClass (top 16) 0
abbrev s_BadText_init : Stmt := inClass (top 18) 0
abbrev s_TooMany_init : Stmt := inClass (top 23) 0
abbrev s_TooGreat_init : Stmt := inClass (top 24) 0
abbrev s_is_whole : Stmt := top 25
abbrev s_is_whole_in : Stmt := top 26
abbrev s_is_whole_row : Stmt := top 27
abbrev s_is_basket : Stmt := top 29
abbrev s_check_one : Stmt := top 30
abbrev s_cells : Stmt := top 31
abbrev s_box : Stmt := top 32
abbrev s_is_word : Stmt := top 36
abbrev s_check_words : Stmt := top 37
abbrev s_is_offer : Stmt := top 38
abbrev s_check_offers : Stmt := top 39
abbrev s_unit : Stmt := top 40
abbrev s_check_singles : Stmt := top 41
abbrev s_Book_init : Stmt := inClass (top 42) 0
abbrev s_Book_bundles : Stmt := inClass (top 42) 1
abbrev s_Book_prices : Stmt := inClass (top 42) 2
abbrev s_Book_len : Stmt := inClass (top 42) 3
abbrev s_Book_iter : Stmt := inClass (top 42) 4
abbrev s_Book_contains : Stmt := inClass (top 42) 5
abbrev s_Book_eq : Stmt := inClass (top 42) 6
abbrev s_Book_add : Stmt := inClass (top 42) 7
abbrev s_check_basket : Stmt := top 43
abbrev s_lies_below : Stmt := top 45
abbrev s_lies_in : Stmt := top 46
abbrev s_taken_off : Stmt := top 47
abbrev s_strides : Stmt := top 48
abbrev s_spot : Stmt := top 49
abbrev s_least_worths : Stmt := top 50
abbrev s_Table_init : Stmt := inClass (top 51) 0
abbrev s_Table_call : Stmt := inClass (top 51) 1
abbrev s_Table_bill : Stmt := inClass (top 51) 2
abbrev s_Table_contains : Stmt := inClass (top 51) 3
abbrev s_Table_len : Stmt := inClass (top 51) 4
abbrev s_Table_iter : Stmt := inClass (top 51) 5
abbrev s_box_prices : Stmt := top 52
abbrev s_cheapest_price : Stmt := top 54
abbrev s_check_alike : Stmt := top 56
abbrev s_dearer_place : Stmt := top 57
abbrev s_is_never_dearer : Stmt := top 58
abbrev s_compare_word : Stmt := top 59
abbrev s_last_needed : Stmt := top 61
abbrev s_least_offers : Stmt := top 62
abbrev s_least_list : Stmt := top 63
abbrev s_same_prices : Stmt := top 64
abbrev s__law_mix : Stmt := top 66
abbrev s__law_store : Stmt := top 67
abbrev s__law_take : Stmt := top 68
abbrev s__law_single : Stmt := top 69
abbrev s__law_fits : Stmt := top 70
abbrev s__law_box : Stmt := top 71
abbrev s__law_goods : Stmt := top 72
abbrev s__law_made : Stmt := top 73
abbrev s__law_parts : Stmt := top 74
abbrev s__law_named : Stmt := top 75
abbrev s__law_alike : Stmt := top 76
abbrev s__law_lots : Stmt := top 77
abbrev s__law_costs : Stmt := top 78
abbrev s__law_union : Stmt := top 79
abbrev s__law_pair_of_books : Stmt := top 80
abbrev s__law_less : Stmt := top 81
abbrev s__law_dearer : Stmt := top 82
abbrev s__law_told : Stmt := top 83
abbrev s__law_dues : Stmt := top 84
abbrev s__law_stranger : Stmt := top 85
abbrev s_law : Stmt := top 86
def d_is_whole : He.DefD := ⟨("is_whole", none), "is_whole", "is_whole", defArgs s_is_whole, defBody s_is_whole, defScope s_is_whole, [], []⟩
def d_is_whole_in : He.DefD := ⟨("is_whole_in", none), "is_whole_in", "is_whole_in", defArgs s_is_whole_in, defBody s_is_whole_in, defScope s_is_whole_in, [], []⟩
def d_is_whole_row : He.DefD := ⟨("is_whole_row", none), "is_whole_row", "is_whole_row", defArgs s_is_whole_row, defBody s_is_whole_row, defScope s_is_whole_row, [], []⟩
def d_is_basket : He.DefD := ⟨("is_basket", none), "is_basket", "is_basket", defArgs s_is_basket, defBody s_is_basket, defScope s_is_basket, [], []⟩
def d_check_one : He.DefD := ⟨("check_one", none), "check_one", "check_one", defArgs s_check_one, defBody s_check_one, defScope s_check_one, [], []⟩
def d_cells : He.DefD := ⟨("cells", none), "cells", "cells", defArgs s_cells, defBody s_cells, defScope s_cells, [], []⟩
def d_box : He.DefD := ⟨("box", none), "box", "box", defArgs s_box, defBody s_box, defScope s_box, [], []⟩
def d_is_word : He.DefD := ⟨("is_word", none), "is_word", "is_word", defArgs s_is_word, defBody s_is_word, defScope s_is_word, [], []⟩
def d_check_words : He.DefD := ⟨("check_words", none), "check_words", "check_words", defArgs s_check_words, defBody s_check_words, defScope s_check_words, [], []⟩
def d_is_offer : He.DefD := ⟨("is_offer", none), "is_offer", "is_offer", defArgs s_is_offer, defBody s_is_offer, defScope s_is_offer, [], []⟩
def d_check_offers : He.DefD := ⟨("check_offers", none), "check_offers", "check_offers", defArgs s_check_offers, defBody s_check_offers, defScope s_check_offers, [], []⟩
def d_unit : He.DefD := ⟨("unit", none), "unit", "unit", defArgs s_unit, defBody s_unit, defScope s_unit, [], []⟩
def d_check_singles : He.DefD := ⟨("check_singles", none), "check_singles", "check_singles", defArgs s_check_singles, defBody s_check_singles, defScope s_check_singles, [], []⟩
def d_Book_init : He.DefD := ⟨("Book", some "__init__"), "__init__", "Book.__init__", defArgs s_Book_init, defBody s_Book_init, defScope s_Book_init, [], []⟩
def d_Book_len : He.DefD := ⟨("Book", some "__len__"), "__len__", "Book.__len__", defArgs s_Book_len, defBody s_Book_len, defScope s_Book_len, [], []⟩
def d_Book_iter : He.DefD := ⟨("Book", some "__iter__"), "__iter__", "Book.__iter__", defArgs s_Book_iter, defBody s_Book_iter, defScope s_Book_iter, [], []⟩
def d_Book_contains : He.DefD := ⟨("Book", some "__contains__"), "__contains__", "Book.__contains__", defArgs s_Book_contains, defBody s_Book_contains, defScope s_Book_contains, [], []⟩
def d_Book_eq : He.DefD := ⟨("Book", some "__eq__"), "__eq__", "Book.__eq__", defArgs s_Book_eq, defBody s_Book_eq, defScope s_Book_eq, [], []⟩
def d_Book_add : He.DefD := ⟨("Book", some "__add__"), "__add__", "Book.__add__", defArgs s_Book_add, defBody s_Book_add, defScope s_Book_add, [], []⟩
def d_check_basket : He.DefD := ⟨("check_basket", none), "check_basket", "check_basket", defArgs s_check_basket, defBody s_check_basket, defScope s_check_basket, [], []⟩
def d_lies_below : He.DefD := ⟨("lies_below", none), "lies_below", "lies_below", defArgs s_lies_below, defBody s_lies_below, defScope s_lies_below, [], []⟩
def d_lies_in : He.DefD := ⟨("lies_in", none), "lies_in", "lies_in", defArgs s_lies_in, defBody s_lies_in, defScope s_lies_in, [], []⟩
def d_taken_off : He.DefD := ⟨("taken_off", none), "taken_off", "taken_off", defArgs s_taken_off, defBody s_taken_off, defScope s_taken_off, [], []⟩
def d_strides : He.DefD := ⟨("strides", none), "strides", "strides", defArgs s_strides, defBody s_strides, defScope s_strides, [], []⟩
def d_spot : He.DefD := ⟨("spot", none), "spot", "spot", defArgs s_spot, defBody s_spot, defScope s_spot, [], []⟩
def d_least_worths : He.DefD := ⟨("least_worths", none), "least_worths", "least_worths", defArgs s_least_worths, defBody s_least_worths, defScope s_least_worths, [], []⟩
def d_Table_init : He.DefD := ⟨("Table", some "__init__"), "__init__", "Table.__init__", defArgs s_Table_init, defBody s_Table_init, defScope s_Table_init, [], []⟩
def d_Table_call : He.DefD := ⟨("Table", some "__call__"), "__call__", "Table.__call__", defArgs s_Table_call, defBody s_Table_call, defScope s_Table_call, [], []⟩
def d_Table_bill : He.DefD := ⟨("Table", some "bill"), "bill", "Table.bill", defArgs s_Table_bill, defBody s_Table_bill, defScope s_Table_bill, [], []⟩
def d_Table_contains : He.DefD := ⟨("Table", some "__contains__"), "__contains__", "Table.__contains__", defArgs s_Table_contains, defBody s_Table_contains, defScope s_Table_contains, [], []⟩
def d_Table_len : He.DefD := ⟨("Table", some "__len__"), "__len__", "Table.__len__", defArgs s_Table_len, defBody s_Table_len, defScope s_Table_len, [], []⟩
def d_Table_iter : He.DefD := ⟨("Table", some "__iter__"), "__iter__", "Table.__iter__", defArgs s_Table_iter, defBody s_Table_iter, defScope s_Table_iter, [], []⟩
def d_box_prices : He.DefD := ⟨("box_prices", none), "box_prices", "box_prices", defArgs s_box_prices, defBody s_box_prices, defScope s_box_prices, [], []⟩
def d_cheapest_price : He.DefD := ⟨("cheapest_price", none), "cheapest_price", "cheapest_price", defArgs s_cheapest_price, defBody s_cheapest_price, defScope s_cheapest_price, [], []⟩
def d_check_alike : He.DefD := ⟨("check_alike", none), "check_alike", "check_alike", defArgs s_check_alike, defBody s_check_alike, defScope s_check_alike, [], []⟩
def d_dearer_place : He.DefD := ⟨("dearer_place", none), "dearer_place", "dearer_place", defArgs s_dearer_place, defBody s_dearer_place, defScope s_dearer_place, [], []⟩
def d_is_never_dearer : He.DefD := ⟨("is_never_dearer", none), "is_never_dearer", "is_never_dearer", defArgs s_is_never_dearer, defBody s_is_never_dearer, defScope s_is_never_dearer, [], []⟩
def d_compare_word : He.DefD := ⟨("compare_word", none), "compare_word", "compare_word", defArgs s_compare_word, defBody s_compare_word, defScope s_compare_word, [], []⟩
def d_last_needed : He.DefD := ⟨("last_needed", none), "last_needed", "last_needed", defArgs s_last_needed, defBody s_last_needed, defScope s_last_needed, [], []⟩
def d_least_offers : He.DefD := ⟨("least_offers", none), "least_offers", "least_offers", defArgs s_least_offers, defBody s_least_offers, defScope s_least_offers, [], []⟩
def d_least_list : He.DefD := ⟨("least_list", none), "least_list", "least_list", defArgs s_least_list, defBody s_least_list, defScope s_least_list, [], []⟩
def d_same_prices : He.DefD := ⟨("same_prices", none), "same_prices", "same_prices", defArgs s_same_prices, defBody s_same_prices, defScope s_same_prices, [], []⟩
def d__law_mix : He.DefD := ⟨("_law_mix", none), "_law_mix", "_law_mix", defArgs s__law_mix, defBody s__law_mix, defScope s__law_mix, [], []⟩
def d__law_store : He.DefD := ⟨("_law_store", none), "_law_store", "_law_store", defArgs s__law_store, defBody s__law_store, defScope s__law_store, [], []⟩
def d__law_take : He.DefD := ⟨("_law_take", none), "_law_take", "_law_take", defArgs s__law_take, defBody s__law_take, defScope s__law_take, [], []⟩
def d__law_single : He.DefD := ⟨("_law_single", none), "_law_single", "_law_single", defArgs s__law_single, defBody s__law_single, defScope s__law_single, [], []⟩
def d__law_fits : He.DefD := ⟨("_law_fits", none), "_law_fits", "_law_fits", defArgs s__law_fits, defBody s__law_fits, defScope s__law_fits, [], []⟩
def d__law_box : He.DefD := ⟨("_law_box", none), "_law_box", "_law_box", defArgs s__law_box, defBody s__law_box, defScope s__law_box, [], []⟩
def d__law_goods : He.DefD := ⟨("_law_goods", none), "_law_goods", "_law_goods", defArgs s__law_goods, defBody s__law_goods, defScope s__law_goods, [], []⟩
def d__law_made : He.DefD := ⟨("_law_made", none), "_law_made", "_law_made", defArgs s__law_made, defBody s__law_made, defScope s__law_made, [], []⟩
def d__law_parts : He.DefD := ⟨("_law_parts", none), "_law_parts", "_law_parts", defArgs s__law_parts, defBody s__law_parts, defScope s__law_parts, [], []⟩
def d__law_named : He.DefD := ⟨("_law_named", none), "_law_named", "_law_named", defArgs s__law_named, defBody s__law_named, defScope s__law_named, [], []⟩
def d__law_alike : He.DefD := ⟨("_law_alike", none), "_law_alike", "_law_alike", defArgs s__law_alike, defBody s__law_alike, defScope s__law_alike, [], []⟩
def d__law_lots : He.DefD := ⟨("_law_lots", none), "_law_lots", "_law_lots", defArgs s__law_lots, defBody s__law_lots, defScope s__law_lots, [], []⟩
def d__law_costs : He.DefD := ⟨("_law_costs", none), "_law_costs", "_law_costs", defArgs s__law_costs, defBody s__law_costs, defScope s__law_costs, [], []⟩
def d__law_union : He.DefD := ⟨("_law_union", none), "_law_union", "_law_union", defArgs s__law_union, defBody s__law_union, defScope s__law_union, [], []⟩
def d__law_pair_of_books : He.DefD := ⟨("_law_pair_of_books", none), "_law_pair_of_books", "_law_pair_of_books", defArgs s__law_pair_of_books, defBody s__law_pair_of_books, defScope s__law_pair_of_books, [], []⟩
def d__law_less : He.DefD := ⟨("_law_less", none), "_law_less", "_law_less", defArgs s__law_less, defBody s__law_less, defScope s__law_less, [], []⟩
def d__law_dearer : He.DefD := ⟨("_law_dearer", none), "_law_dearer", "_law_dearer", defArgs s__law_dearer, defBody s__law_dearer, defScope s__law_dearer, [], []⟩
def d__law_told : He.DefD := ⟨("_law_told", none), "_law_told", "_law_told", defArgs s__law_told, defBody s__law_told, defScope s__law_told, [], []⟩
def d__law_dues : He.DefD := ⟨("_law_dues", none), "_law_dues", "_law_dues", defArgs s__law_dues, defBody s__law_dues, defScope s__law_dues, [], []⟩
def d__law_stranger : He.DefD := ⟨("_law_stranger", none), "_law_stranger", "_law_stranger", defArgs s__law_stranger, defBody s__law_stranger, defScope s__law_stranger, [], []⟩
def d_law : He.DefD := ⟨("law", none), "law", "law", defArgs s_law, defBody s_law, defScope s_law, [], []⟩
def fn : List He.DefD := [d_is_whole, d_is_whole_in, d_is_whole_row, d_is_basket, d_check_one, d_cells, d_box, d_is_word, d_check_words, d_is_offer, d_check_offers, d_unit, d_check_singles, d_Book_init, d_Book_len, d_Book_iter, d_Book_contains, d_Book_eq, d_Book_add, d_check_basket, d_lies_below, d_lies_in, d_taken_off, d_strides, d_spot, d_least_worths, d_Table_init, d_Table_call, d_Table_bill, d_Table_contains, d_Table_len, d_Table_iter, d_box_prices, d_cheapest_price, d_check_alike, d_dearer_place, d_is_never_dearer, d_compare_word, d_last_needed, d_least_offers, d_least_list, d_same_prices, d__law_mix, d__law_store, d__law_take, d__law_single, d__law_fits, d__law_box, d__law_goods, d__law_made, d__law_parts, d__law_named, d__law_alike, d__law_lots, d__law_costs, d__law_union, d__law_pair_of_books, d__law_less, d__law_dearer, d__law_told, d__law_dues, d__law_stranger, d_law]
def fa : List He.Fa := [.int "KINDS" 4,
  .int "OFFERS" 10,
  .int "PIECES" 8,
  .int "TOP" 1000000000000,
  .int "MANY" 1000000000000,
  .int "CELLS" 1500,
  .glo "TillError",
  .glo "BadKinds",
  .glo "NoSingle",
  .glo "BadOffer",
  .glo "BadBasket",
  .glo "BadPlace",
  .glo "BadOrder",
  .glo "BadBill",
  .glo "BadPrices",
  .glo "BadStock",
  .glo "BadNumber",
  .glo "BadText",
  .glo "BadCoins",
  .glo "Unlike",
  .glo "NotOne",
  .glo "NothingToUndo",
  .glo "TooMany",
  .glo "TooGreat",
  .glo "is_whole",
  .glo "is_whole_in",
  .glo "is_whole_row",
  .glo "is_basket",
  .glo "check_one",
  .glo "cells",
  .glo "box",
  .str "LETTERS" "abcdefghijklmnopqrstuvwxyz",
  .int "LONGEST" 8,
  .glo "is_word",
  .glo "check_words",
  .glo "is_offer",
  .glo "check_offers",
  .glo "unit",
  .glo "check_singles",
  .glo "Book",
  .glo "check_basket",
  .glo "lies_below",
  .glo "lies_in",
  .glo "taken_off",
  .glo "strides",
  .glo "spot",
  .glo "least_worths",
  .glo "Table",
  .glo "box_prices",
  .glo "cheapest_price",
  .glo "check_alike",
  .glo "dearer_place",
  .glo "is_never_dearer",
  .glo "compare_word",
  .glo "last_needed",
  .glo "least_offers",
  .glo "least_list",
  .glo "same_prices",
  .glo "_law_mix",
  .glo "_law_store",
  .glo "_law_take",
  .glo "_law_single",
  .glo "_law_fits",
  .glo "_law_box",
  .glo "_law_goods",
  .glo "_law_made",
  .glo "_law_parts",
  .glo "_law_named",
  .glo "_law_alike",
  .glo "_law_lots",
  .glo "_law_costs",
  .glo "_law_union",
  .glo "_law_pair_of_books",
  .glo "_law_less",
  .glo "_law_dearer",
  .glo "_law_told",
  .glo "_law_dues",
  .glo "_law_stranger",
  .glo "law",
  .free "NotImplemented",
  .free "ValueError",
  .free "all",
  .free "bool",
  .free "enumerate",
  .free "int",
  .free "isinstance",
  .free "iter",
  .free "len",
  .free "list",
  .free "max",
  .free "min",
  .free "property",
  .free "range",
  .free "reversed",
  .free "set",
  .free "sorted",
  .free "str",
  .free "sum",
  .free "super",
  .free "tuple",
  .free "zip",
  .keep "TillError",
  .exc "TillError",
  .keep "BadKinds",
  .exc "BadKinds",
  .keep "NoSingle",
  .keep "BadOffer",
  .keep "BadBasket",
  .exc "BadBasket",
  .keep "BadPlace",
  .exc "BadPlace",
  .keep "BadOrder",
  .exc "BadOrder",
  .keep "BadBill",
  .exc "BadBill",
  .keep "BadPrices",
  .exc "BadPrices",
  .keep "BadStock",
  .keep "BadNumber",
  .exc "BadNumber",
  .keep "BadText",
  .keep "BadCoins",
  .exc "BadCoins",
  .keep "Unlike",
  .exc "Unlike",
  .keep "NotOne",
  .exc "NotOne",
  .keep "NothingToUndo",
  .exc "NothingToUndo",
  .keep "TooMany",
  .keep "TooGreat",
  .cls "Book",
  .noat "Book" "kinds",
  .noat "Book" "offers",
  .noat "Book" "bundle_row",
  .noat "Book" "price_row",
  .mkr "Book",
  .meth "Book" "__init__",
  .meth "Book" "__len__",
  .meth "Book" "__iter__",
  .meth "Book" "__contains__",
  .meth "Book" "__eq__",
  .meth "Book" "__add__",
  .cls "Table",
  .noat "Table" "top",
  .noat "Table" "stride_row",
  .noat "Table" "deal_rows",
  .noat "Table" "worth_row",
  .mkr "Table",
  .meth "Table" "__init__",
  .meth "Table" "__call__",
  .meth "Table" "bill",
  .meth "Table" "__contains__",
  .meth "Table" "__len__",
  .meth "Table" "__iter__"]
abbrev R : PySem.W.OpenRow := PySem.W.OpenLaw.row PySem.Challenge.rw_tillsorder_k77_never_dearer_both_ways
def exs : List PySem.Str := ["Book", "Table"]
def ems : List (PySem.Str × PySem.Str) := [("Book", "__init__"), ("Book", "__len__"), ("Book", "__iter__"), ("Book", "__contains__"), ("Book", "__eq__"), ("Book", "__add__"), ("Table", "__init__"), ("Table", "__call__"), ("Table", "bill"), ("Table", "__contains__"), ("Table", "__len__"), ("Table", "__iter__")]
def xks : List PySem.Str := ["Unlike"]
def cas : List DL.Tri := ([("Unlike", "TillError", true)] : List DL.Tri)
def ixs : List DL.Tri := ([("Unlike", "TooMany", false), ("Unlike", "TooGreat", false), ("Unlike", "BadKinds", false), ("Unlike", "NoSingle", false), ("Unlike", "BadOffer", false), ("Unlike", "BadBasket", false), ("Unlike", "BadPlace", false), ("Unlike", "BadOrder", false), ("Unlike", "BadBill", false), ("Unlike", "BadPrices", false), ("Unlike", "BadStock", false), ("Unlike", "BadNumber", false)] : List DL.Tri) ++ ([("Unlike", "BadText", false), ("Unlike", "BadCoins", false), ("Unlike", "Unlike", true), ("Unlike", "NotOne", false), ("Unlike", "NothingToUndo", false)] : List DL.Tri)
def nfs : List (PySem.Str × PySem.Str) := [("Unlike", "limit"), ("Unlike", "place")]
def eqs : List PySem.Str := ["Book"]
def ex : PySem.W.Frag → Bool := DL.exX exs ems xks cas ixs nfs eqs
def p_Book_bundles : DL.PrD := ⟨"Book", "bundles", "bundles", "Book.bundles", defArgs s_Book_bundles, defBody s_Book_bundles, defScope s_Book_bundles⟩
def p_Book_prices : DL.PrD := ⟨"Book", "prices", "prices", "Book.prices", defArgs s_Book_prices, defBody s_Book_prices, defScope s_Book_prices⟩
def prs : List DL.PrD := [p_Book_bundles, p_Book_prices]
def adr0 : List PySem.Addr := [3, 6, 4, 24, 37, 58, 79, 91, 103, 115, 127, 139, 160, 172, 193, 205, 217, 229, 241, 262, 283, 292, 299, 306, 313, 320, 327, 332, 339, 346, 353, 360, 365, 370, 436, 447, 454, 461, 466, 473]
def adr1 : List PySem.Addr := [478, 485, 535, 546, 553, 560, 567, 574, 581, 588, 595, 602, 609, 616, 623, 630, 635, 642, 649, 654, 661, 668, 673, 678, 683, 688, 693, 698, 703, 708, 715, 722, 729, 734, 0, 23, 36, 57, 78, 90]
def adr2 : List PySem.Addr := [102, 114, 126, 138, 159, 171, 192, 204, 216, 228, 240, 261, 282, 291, 298, 305, 312, 319, 326, 331, 338, 345, 352, 359, 364, 369, 435, 446, 453, 460, 465, 472, 477, 484, 534, 545, 552, 559, 566, 573]
def adr3 : List PySem.Addr := [580, 587, 594, 601, 608, 615, 622, 629, 634, 641, 648, 653, 660, 667, 672, 677, 682, 687, 692, 697, 702, 707, 714, 721, 728, 733, 22, 25, 35, 55, 56, 76, 77, 89, 101, 113, 125, 137, 157, 158]
def adr4 : List PySem.Addr := [170, 190, 191, 203, 215, 227, 239, 259, 260, 280, 281, 286, 287, 288, 289, 290, 293, 294, 295, 296, 297, 300, 301, 302, 303, 304, 307, 308, 309, 310, 311, 314, 315, 316, 317, 318, 321, 322, 323, 324]
def adr5 : List PySem.Addr := [325, 328, 329, 330, 333, 334, 335, 336, 337, 340, 341, 342, 343, 344, 347, 348, 349, 350, 351, 354, 355, 356, 357, 358, 361, 362, 363, 366, 367, 368, 382, 390, 398, 405, 412, 419, 426, 433, 434, 437]
def adr6 : List PySem.Addr := [438, 441, 442, 443, 444, 445, 448, 449, 450, 451, 452, 455, 456, 457, 458, 459, 462, 463, 464, 467, 468, 469, 470, 471, 474, 475, 476, 479, 480, 481, 482, 483, 497, 504, 511, 518, 525, 532, 533, 536]
def adr7 : List PySem.Addr := [537, 540, 541, 542, 543, 544, 547, 548, 549, 550, 551, 554, 555, 556, 557, 558, 561, 562, 563, 564, 565, 568, 569, 570, 571, 572, 575, 576, 577, 578, 579, 582, 583, 584, 585, 586, 589, 590, 591, 592]
def adr8 : List PySem.Addr := [593, 596, 597, 598, 599, 600, 603, 604, 605, 606, 607, 610, 611, 612, 613, 614, 617, 618, 619, 620, 621, 624, 625, 626, 627, 628, 631, 632, 633, 636, 637, 638, 639, 640, 643, 644, 645, 646, 647, 650]
def adr9 : List PySem.Addr := [651, 652, 655, 656, 657, 658, 659, 662, 663, 664, 665, 666, 669, 670, 671, 674, 675, 676, 679, 680, 681, 684, 685, 686, 689, 690, 691, 694, 695, 696, 699, 700, 701, 704, 705, 706, 709, 710, 711, 712]
def adr10 : List PySem.Addr := [713, 716, 717, 718, 719, 720, 723, 724, 725, 726, 727, 730, 731, 732, 54, 43, 75, 64, 156, 145, 189, 178, 258, 247, 279, 268, 381, 389, 397, 404, 411, 418, 425, 432, 496, 503, 510, 517, 524, 531]
def adr11 : List PySem.Addr := [49, 50, 51, 52, 53, 70, 71, 72, 73, 74, 151, 152, 153, 154, 155, 184, 185, 186, 187, 188, 253, 254, 255, 256, 257, 274, 275, 276, 277, 278, 378, 379, 380, 388, 396, 399, 400, 401, 402, 403]
def adr12 : List PySem.Addr := [406, 407, 408, 409, 410, 413, 414, 415, 416, 417, 420, 421, 422, 423, 424, 427, 428, 429, 430, 431, 493, 494, 495, 498, 499, 500, 501, 502, 505, 506, 507, 508, 509, 512, 513, 514, 515, 516, 519, 520]
def adr13 : List PySem.Addr := [521, 522, 523, 526, 527, 528, 529, 530, 383, 384, 385, 386, 387, 391, 392, 393, 394, 395]
def adr : List PySem.Addr := adr0 ++ adr1 ++ adr2 ++ adr3 ++ adr4 ++ adr5 ++ adr6 ++ adr7 ++ adr8 ++ adr9 ++ adr10 ++ adr11 ++ adr12 ++ adr13
abbrev hk : PySem.W.Hook := DL.hookL adr fa fn ex prs
def ob (s : PySem.W.SharedT) : DL.AlP := DL.obsL adr fa fn ex prs (HandSHeadRun.getT s)
theorem ob_eq (s : PySem.W.SharedT) : ob s = hk.obs s.abs := DL.obsL_eq (HandSHeadRun.getT_eq s)
def loose0 : List PySem.Str := ["__name__", "KINDS", "OFFERS", "PIECES", "TOP", "MANY", "CELLS", "TillError", "BadKinds", "NoSingle", "BadOffer", "BadBasket", "BadPlace", "BadOrder", "BadBill", "BadPrices", "BadStock", "BadNumber", "BadText", "BadCoins"]
def loose1 : List PySem.Str := ["Unlike", "NotOne", "NothingToUndo", "TooMany", "TooGreat", "is_whole", "is_whole_in", "is_whole_row", "is_basket", "check_one", "cells", "box", "LETTERS", "LONGEST", "is_word", "check_words", "is_offer", "check_offers", "unit", "check_singles"]
def loose2 : List PySem.Str := ["Book", "check_basket", "lies_below", "lies_in", "taken_off", "strides", "spot", "least_worths", "Table", "box_prices", "cheapest_price", "check_alike", "dearer_place", "is_never_dearer", "compare_word", "last_needed", "least_offers", "least_list", "same_prices", "_law_mix"]
def loose3 : List PySem.Str := ["_law_store", "_law_take", "_law_single", "_law_fits", "_law_box", "_law_goods", "_law_made", "_law_parts", "_law_named", "_law_alike", "_law_lots", "_law_costs", "_law_union", "_law_pair_of_books", "_law_less", "_law_dearer", "_law_told", "_law_dues", "_law_stranger"]
def loose : List PySem.Str := loose0 ++ loose1 ++ loose2 ++ loose3
open PySem PySem.W PySem.Calls PyProof.Rows HandSHeadRun in
theorem run_looks (w : World) : ∀ os : PySem.OsState, (endF (stepQ (denQ tabQ) R.prog w) 30000 R.prog w os).map (fun s => looksF R.prog (boot_heap w.params) s.abs) = some (true) := by
  intro os
  kernel_rfl
open PySem PySem.W PySem.Calls PyProof.Rows HandSHeadRun in
theorem run_seen (w : World) : ∀ os : PySem.OsState, (endF (stepQ (denQ tabQ) R.prog w) 30000 R.prog w os).map (fun s => seenQ (view R.prog [86]) loose (importedModules R.prog.main.body) (fun s => xlAt (view R.prog [86]) [] s && recOk R.toRowW.records s) s.abs) = some (openGood (view R.prog [86]) loose) := by
  intro os
  kernel_rfl
open PySem PySem.W PySem.Calls PyProof.Rows HandSHeadRun in
theorem run_ob (w : World) : ∀ os : PySem.OsState, (endF (stepQ (denQ tabQ) R.prog w) 30000 R.prog w os).map (fun s => ob s) = some (hk.val w) := by
  intro os
  kernel_rfl
theorem run (w : World) : HandSHeadRun.RunEq R (PySem.W.view R.prog [86]) hk ob 30000 loose w := fun os => DL.map3 (run_looks w os) (run_seen w os) (run_ob w os)
end K77


set_option Elab.async false
set_option linter.all false
set_option maxRecDepth 100000
set_option maxHeartbeats 0
namespace K77
open PySem PySem.Spec PyProof.Rows L2 DL
structure Tg (K : PySem.W.Frag) (mg : Str → Option Value) : Prop where
  xk : ∀ c ∈ xks, ∀ C, mg c = some (.ref C) → ExK K C
  a_bundle_row : FldOk K mg ["Book"] "bundle_row"
  a_deal_rows : FldOk K mg ["Table"] "deal_rows"
  a_kinds : FldOk K mg ["Book"] "kinds"
  a_offers : FldOk K mg ["Book"] "offers"
  a_price_row : FldOk K mg ["Book"] "price_row"
  a_stride_row : FldOk K mg ["Table"] "stride_row"
  a_top : FldOk K mg ["Table"] "top"
  a_worth_row : FldOk K mg ["Table"] "worth_row"
  ca_TillError : Catch K mg "TillError" ["Unlike"] []
  eq_Book : EqC K mg "Book"
  f_all : mg "all" = none
  f_bool : mg "bool" = none
  f_enumerate : mg "enumerate" = none
  f_int : mg "int" = none
  f_isinstance : mg "isinstance" = none
  f_len : mg "len" = none
  f_list : mg "list" = none
  f_max : mg "max" = none
  f_min : mg "min" = none
  f_range : mg "range" = none
  f_reversed : mg "reversed" = none
  f_set : mg "set" = none
  f_sorted : mg "sorted" = none
  f_str : mg "str" = none
  f_sum : mg "sum" = none
  f_tuple : mg "tuple" = none
  f_zip : mg "zip" = none
  g_CELLS : ∃ t, mg "CELLS" = some (.int 1500 t)
  g_KINDS : ∃ t, mg "KINDS" = some (.int 4 t)
  g_LETTERS : ∃ t, mg "LETTERS" = some (.str "abcdefghijklmnopqrstuvwxyz" t)
  g_LONGEST : ∃ t, mg "LONGEST" = some (.int 8 t)
  g_MANY : ∃ t, mg "MANY" = some (.int 1000000000000 t)
  g_OFFERS : ∃ t, mg "OFFERS" = some (.int 10 t)
  g_PIECES : ∃ t, mg "PIECES" = some (.int 8 t)
  g_TOP : ∃ t, mg "TOP" = some (.int 1000000000000 t)
  is_Book : IsC K mg "Book"
  ix_BadBasket : IsX K mg "BadBasket" [] ["Unlike"]
  ix_BadBill : IsX K mg "BadBill" [] ["Unlike"]
  ix_BadCoins : IsX K mg "BadCoins" [] ["Unlike"]
  ix_BadKinds : IsX K mg "BadKinds" [] ["Unlike"]
  ix_BadNumber : IsX K mg "BadNumber" [] ["Unlike"]
  ix_BadOffer : IsX K mg "BadOffer" [] ["Unlike"]
  ix_BadOrder : IsX K mg "BadOrder" [] ["Unlike"]
  ix_BadPlace : IsX K mg "BadPlace" [] ["Unlike"]
  ix_BadPrices : IsX K mg "BadPrices" [] ["Unlike"]
  ix_BadStock : IsX K mg "BadStock" [] ["Unlike"]
  ix_BadText : IsX K mg "BadText" [] ["Unlike"]
  ix_NoSingle : IsX K mg "NoSingle" [] ["Unlike"]
  ix_NotOne : IsX K mg "NotOne" [] ["Unlike"]
  ix_NothingToUndo : IsX K mg "NothingToUndo" [] ["Unlike"]
  ix_TooGreat : IsX K mg "TooGreat" [] ["Unlike"]
  ix_TooMany : IsX K mg "TooMany" [] ["Unlike"]
  ix_Unlike : IsX K mg "Unlike" ["Unlike"] []
  nf_limit : ∀ c ∈ xks, ∀ C, mg c = some (.ref C) → PySem.W.findIn K (.ref C) "limit" = some none
  nf_place : ∀ c ∈ xks, ∀ C, mg c = some (.ref C) → PySem.W.findIn K (.ref C) "place" = some none
  xr_BadBasket : ExcD K mg "BadBasket"
  xr_BadKinds : ExcD K mg "BadKinds"
  xr_Unlike : ExcD K mg "Unlike"
/-! ### _law_store -/
def N__law_store : List Str := ["script", "store", "cell"]
theorem sc__law_store : FnScope N__law_store ["script"] (defScope s__law_store) := ⟨rfl, rfl, rfl, by decide +kernel, rfl, by decide +kernel, by decide +kernel⟩
def ds__law_store : DS :=
 (dSeq (dAsgN 1 (dLst (dCons (dC (.int 5)) (dCons (dC (.int 0)) (dCons (dC (.int 0)) (dCons (dC (.int 0)) (dCons (dC (.int 314159)) dNil)))))))
  (dSeq (dFor (dItems (dSl (dVar 0) dNoP (dPt (dC (.int 63))))) (gVar 2)
 (dIf (dTest (dBin fGe (dVar 2) (dBin fPow (dC (.int 10)) (dC (.int 18)))))
 (dDrop (dMth 1 mAppend (dCons (dBin fAdd (dBin fPow (dC (.int 10)) (dC (.int 18))) (dBin fMod (dCB fInt (dCons (dBin fSub (dVar 2) (dBin fPow (dC (.int 10)) (dC (.int 18)))) dNil)) (dBin fPow (dBin fPow (dC (.int 10)) (dC (.int 60))) (dC (.int 10))))) dNil)))
 (dDrop (dMth 1 mAppend (dCons (dBin fMod (dCB fInt (dCons (dVar 2) dNil)) (dC (.int 1000000007))) dNil)))))
  (dRet (dVar 1))))
theorem w__law_store {P : Program} {w : World} {K : PySem.W.Frag} {mg : Str → Option Value} {base : Heap} {f : Addr} {fd : FuncData} {k : Nat} {dsp : DSp} (T : Tg K mg) (F : FunD K "_law_store" "_law_store" (defArgs s__law_store) (defBody s__law_store) (defScope s__law_store) [] [] f fd)
    (hlen : ∀ as Q' Ē, dsp as Q' Ē → as.length = 1) (hd : ∀ as Q' Ē, dsp as Q' Ē → ∃ Ē2 : XD, (∀ e' c fs, Ē2 e' c fs → Ē (retA as e') c fs) ∧ ds__law_store Ē2 { nx := fun e' => Q' .non (retA as e'), rt := fun d e' => Q' d (retA as e') } (as ++ List.replicate (N__law_store.length - as.length) .no)) :
    FnOk P w K mg base (L2N.CX P w) (k + 1) f fd ["script"] (spOfX K mg dsp) := by
  refine fn_okX F sc__law_store hlen (by decide) (fun cdv A outer s H E hr tk po => ?_) hd
  have g : Good (cxOf (L2N.CX P w) P w K mg base N__law_store "_law_store" (defScope s__law_store) f cdv A outer s H E) k := ⟨rfl, hr, sc__law_store.nd⟩
  exact (pds_cons (ds_asgN 1 g (pn_lst (pda_cons pd_int (pda_cons pd_int (pda_cons pd_int (pda_cons pd_int (pda_cons pd_int pda_nil)))))))
  (pds_cons (ds_for g po (pdi_seq (pd_sl (pd_var 0) po_no (po_pt pd_int))) (pg_var 2 g)
 (pds_one (ds_if (tt_ge (pd_var 2) (pd_pow pd_int pd_int))
 (pds_one (ds_expr (pd_mth 1 PySem.F.plainAttrs_list PySem.F.slot_list_append PySem.F.type_list_append (fun _ => mt_append) lm_append (pda_cons (pd_add (pd_pow pd_int pd_int) (pd_mod (pd_int1 T.f_int (pd_sub (pd_var 2) (pd_pow pd_int pd_int))) (pd_pow (pd_pow pd_int pd_int) pd_int))) pda_nil))))
 (pds_one (ds_expr (pd_mth 1 PySem.F.plainAttrs_list PySem.F.slot_list_append PySem.F.type_list_append (fun _ => mt_append) lm_append (pda_cons (pd_mod (pd_int1 T.f_int (pd_var 2)) pd_int) pda_nil)))))))
  (pds_one (ds_ret (pd_var 1)))))
/-! ### _law_mix -/
def N__law_mix : List Str := ["number", "turn", "step", "first", "second"]
theorem sc__law_mix : FnScope N__law_mix ["number", "turn"] (defScope s__law_mix) := ⟨rfl, rfl, rfl, by decide +kernel, rfl, by decide +kernel, by decide +kernel⟩
def ds__law_mix : DS :=
 (dSeq (dAsg 2 (dBin fMod (dCB fInt (dCons (dVar 1) dNil)) (dC (.int 1000003))))
  (dSeq (dAsg 3 (dBin fAdd (dBin fAdd (dBin fMul (dBin fAdd (dBin fMod (dCB fInt (dCons (dVar 0) dNil)) (dC (.int 1000000007))) (dC (.int 1))) (dC (.int 48271))) (dBin fMul (dVar 2) (dC (.int 69621)))) (dC (.int 40692))))
  (dSeq (dAsg 3 (dBin fMod (dCB fInt (dCons (dVar 3) dNil)) (dC (.int 2147483647))))
  (dSeq (dAsg 4 (dBin fMod (dCB fInt (dCons (dBin fAdd (dBin fAdd (dBin fAdd (dBin fMul (dVar 3) (dVar 3)) (dBin fMul (dBin fFdiv (dVar 3) (dC (.int 65536))) (dC (.int 16807)))) (dBin fMul (dVar 2) (dC (.int 1103515)))) (dC (.int 12345))) dNil)) (dC (.int 2147483629))))
  (dRet (dBin fMod (dCB fInt (dCons (dBin fAdd (dBin fAdd (dBin fMul (dVar 4) (dVar 4)) (dBin fMul (dBin fFdiv (dVar 4) (dC (.int 32768))) (dC (.int 48271)))) (dVar 3)) dNil)) (dC (.int 2147483587))))))))
theorem w__law_mix {P : Program} {w : World} {K : PySem.W.Frag} {mg : Str → Option Value} {base : Heap} {f : Addr} {fd : FuncData} {k : Nat} {dsp : DSp} (T : Tg K mg) (F : FunD K "_law_mix" "_law_mix" (defArgs s__law_mix) (defBody s__law_mix) (defScope s__law_mix) [] [] f fd)
    (hlen : ∀ as Q' Ē, dsp as Q' Ē → as.length = 2) (hd : ∀ as Q' Ē, dsp as Q' Ē → ∃ Ē2 : XD, (∀ e' c fs, Ē2 e' c fs → Ē (retA as e') c fs) ∧ ds__law_mix Ē2 { nx := fun e' => Q' .non (retA as e'), rt := fun d e' => Q' d (retA as e') } (as ++ List.replicate (N__law_mix.length - as.length) .no)) :
    FnOk P w K mg base (L2N.CX P w) (k + 1) f fd ["number", "turn"] (spOfX K mg dsp) := by
  refine fn_okX F sc__law_mix hlen (by decide) (fun cdv A outer s H E hr tk po => ?_) hd
  have g : Good (cxOf (L2N.CX P w) P w K mg base N__law_mix "_law_mix" (defScope s__law_mix) f cdv A outer s H E) k := ⟨rfl, hr, sc__law_mix.nd⟩
  exact (pds_cons (ds_asg 2 g (pd_mod (pd_int1 T.f_int (pd_var 1)) pd_int))
  (pds_cons (ds_asg 3 g (pd_add (pd_add (pd_mul (pd_add (pd_mod (pd_int1 T.f_int (pd_var 0)) pd_int) pd_int) pd_int) (pd_mul (pd_var 2) pd_int)) pd_int))
  (pds_cons (ds_asg 3 g (pd_mod (pd_int1 T.f_int (pd_var 3)) pd_int))
  (pds_cons (ds_asg 4 g (pd_mod (pd_int1 T.f_int (pd_add (pd_add (pd_add (pd_mul (pd_var 3) (pd_var 3)) (pd_mul (pd_fdiv (pd_var 3) pd_int) pd_int)) (pd_mul (pd_var 2) pd_int)) pd_int)) pd_int))
  (pds_one (ds_ret (pd_mod (pd_int1 T.f_int (pd_add (pd_add (pd_mul (pd_var 4) (pd_var 4)) (pd_mul (pd_fdiv (pd_var 4) pd_int) pd_int)) (pd_var 3))) pd_int)))))))
/-! ### _law_take -/
def N__law_take : List Str := ["store", "many", "cell", "drawn", "reach", "k"]
theorem sc__law_take : FnScope N__law_take ["store", "many"] (defScope s__law_take) := ⟨rfl, rfl, rfl, by decide +kernel, rfl, by decide +kernel, by decide +kernel⟩
def ds__law_take (c__law_mix : DSp) : DS :=
 (dSeq (dIf (dTest (dBin fLt (dVar 1) (dC (.int 2))))
 (dRet (dC (.int 0)))
 dNext)
  (dSeq (dSetIx 0 (dC (.int 3)) (dBin fAdd (dIxV 0 (dC (.int 3))) (dC (.int 1))))
  (dSeq (dIf (dAnd (dTest (dBin fEq (dIxV 0 (dC (.int 1))) (dC (.int 0)))) (dAnd (dTest (dBin fEq (dIxV 0 (dC (.int 2))) (dC (.int 0)))) (dTest (dBin fLt (dIxV 0 (dC (.int 0))) (dOwnL 0 fLen (dCB fLen (dCons (dVar 0) dNil)))))))
 (dSeq (dAsg 2 (dIxV 0 (dIxV 0 (dC (.int 0)))))
  (dSeq (dSetIx 0 (dC (.int 0)) (dBin fAdd (dIxV 0 (dC (.int 0))) (dC (.int 1))))
  (dSeq (dSetIx 0 (dC (.int 4)) (dCallX c__law_mix (dCons (dBin fAdd (dIxV 0 (dC (.int 4))) (dVar 2)) (dCons (dIxV 0 (dC (.int 0))) dNil))))
  (dIf (dTest (dBin fGe (dVar 2) (dBin fPow (dC (.int 10)) (dC (.int 18)))))
 (dSetIx 0 (dC (.int 1)) (dVar 2))
 (dSetIx 0 (dC (.int 2)) (dC (.int 3)))))))
 dNext)
  (dSeq (dIf (dTest (dBin fGt (dIxV 0 (dC (.int 1))) (dC (.int 0))))
 (dSeq (dAsg 3 (dBin fMod (dCB fInt (dCons (dIxV 0 (dC (.int 1))) dNil)) (dVar 1)))
  (dSeq (dSetIx 0 (dC (.int 1)) (dBin fFdiv (dIxV 0 (dC (.int 1))) (dVar 1)))
  (dRet (dVar 3))))
 dNext)
  (dSeq (dIf (dTest (dBin fGt (dIxV 0 (dC (.int 2))) (dC (.int 0))))
 (dSetIx 0 (dC (.int 2)) (dBin fSub (dIxV 0 (dC (.int 2))) (dC (.int 1))))
 dNext)
  (dSeq (dAsg 3 (dCallX c__law_mix (dCons (dIxV 0 (dC (.int 4))) (dCons (dIxV 0 (dC (.int 3))) dNil))))
  (dSeq (dAsg 4 (dC (.int 2147483587)))
  (dSeq (dFor (dRange1 (dC (.int 9))) (gVar 5)
 (dSeq (dIf (dTest (dBin fGe (dVar 4) (dVar 1)))
 dBrk
 dNext)
  (dSeq (dAsg 3 (dBin fAdd (dBin fMul (dVar 3) (dC (.int 2147483587))) (dCallX c__law_mix (dCons (dBin fAdd (dBin fAdd (dIxV 0 (dC (.int 4))) (dVar 5)) (dC (.int 1))) (dCons (dIxV 0 (dC (.int 3))) dNil)))))
  (dAsg 4 (dBin fMul (dVar 4) (dC (.int 2147483587)))))))
  (dRet (dBin fMod (dCB fInt (dCons (dVar 3) dNil)) (dVar 1)))))))))))
theorem w__law_take {P : Program} {w : World} {K : PySem.W.Frag} {mg : Str → Option Value} {base : Heap} {f : Addr} {fd : FuncData} {k : Nat} {dsp : DSp} {c__law_mix : DSp} {l__law_mix : Nat} (T : Tg K mg) (F : FunD K "_law_take" "_law_take" (defArgs s__law_take) (defBody s__law_take) (defScope s__law_take) [] [] f fd) (F__law_mix : FnX P w K mg base l__law_mix "_law_mix" c__law_mix) (h__law_mix : l__law_mix ≤ k)
    (hlen : ∀ as Q' Ē, dsp as Q' Ē → as.length = 2) (hd : ∀ as Q' Ē, dsp as Q' Ē → ∃ Ē2 : XD, (∀ e' c fs, Ē2 e' c fs → Ē (retA as e') c fs) ∧ ds__law_take c__law_mix Ē2 { nx := fun e' => Q' .non (retA as e'), rt := fun d e' => Q' d (retA as e') } (as ++ List.replicate (N__law_take.length - as.length) .no)) :
    FnOk P w K mg base (L2N.CX P w) (k + 1) f fd ["store", "many"] (spOfX K mg dsp) := by
  refine fn_okX F sc__law_take hlen (by decide) (fun cdv A outer s H E hr tk po => ?_) hd
  have g : Good (cxOf (L2N.CX P w) P w K mg base N__law_take "_law_take" (defScope s__law_take) f cdv A outer s H E) k := ⟨rfl, hr, sc__law_take.nd⟩
  exact (pds_cons (ds_if (tt_lt (pd_var 1) pd_int)
 (pds_one (ds_ret pd_int))
 pds_nil)
  (pds_cons (ds_setIx 0 pd_int (pd_add (pd_ixV 0 pd_int) pd_int))
  (pds_cons (ds_if (PDW.pt (tw_and (tt_eq g (pd_ixV 0 pd_int) pd_int) (tw_and (tt_eq g (pd_ixV 0 pd_int) pd_int) (tw_and1 (tt_lt (pd_ixV 0 pd_int) (pd_lenV 0 T.f_len))))))
 (pds_cons (ds_asg 2 g (pd_ixV 0 (pd_ixV 0 pd_int)))
  (pds_cons (ds_setIx 0 pd_int (pd_add (pd_ixV 0 pd_int) pd_int))
  (pds_cons (ds_setIx 0 pd_int (pd_callX tk F__law_mix g (pda_cons (pd_add (pd_ixV 0 pd_int) (pd_var 2)) (pda_cons (pd_ixV 0 pd_int) pda_nil)) (hl := h__law_mix)))
  (pds_one (ds_if (tt_ge (pd_var 2) (pd_pow pd_int pd_int))
 (pds_one (ds_setIx 0 pd_int (pd_var 2)))
 (pds_one (ds_setIx 0 pd_int pd_int)))))))
 pds_nil)
  (pds_cons (ds_if (tt_gt (pd_ixV 0 pd_int) pd_int)
 (pds_cons (ds_asg 3 g (pd_mod (pd_int1 T.f_int (pd_ixV 0 pd_int)) (pd_var 1)))
  (pds_cons (ds_setIx 0 pd_int (pd_fdiv (pd_ixV 0 pd_int) (pd_var 1)))
  (pds_one (ds_ret (pd_var 3)))))
 pds_nil)
  (pds_cons (ds_if (tt_gt (pd_ixV 0 pd_int) pd_int)
 (pds_one (ds_setIx 0 pd_int (pd_sub (pd_ixV 0 pd_int) pd_int)))
 pds_nil)
  (pds_cons (ds_asg 3 g (pd_callX tk F__law_mix g (pda_cons (pd_ixV 0 pd_int) (pda_cons (pd_ixV 0 pd_int) pda_nil)) (hl := h__law_mix)))
  (pds_cons (ds_asg 4 g pd_int)
  (pds_cons (ds_for g po (pdi_rng1 T.f_range pd_int) (pg_var 5 g)
 (pds_cons (ds_if (tt_ge (pd_var 4) (pd_var 1))
 (pds_one ds_brk)
 pds_nil)
  (pds_cons (ds_asg 3 g (pd_add (pd_mul (pd_var 3) pd_int) (pd_callX tk F__law_mix g (pda_cons (pd_add (pd_add (pd_ixV 0 pd_int) (pd_var 5)) pd_int) (pda_cons (pd_ixV 0 pd_int) pda_nil)) (hl := h__law_mix))))
  (pds_one (ds_asg 4 g (pd_mul (pd_var 4) pd_int))))))
  (pds_one (ds_ret (pd_mod (pd_int1 T.f_int (pd_var 3)) (pd_var 1))))))))))))
/-! ### _law_single -/
def N__law_single : List Str := ["k", "j", "i"]
theorem sc__law_single : FnScope N__law_single ["k", "j"] (defScope s__law_single) := ⟨rfl, rfl, rfl, by decide +kernel, rfl, by decide +kernel, by decide +kernel⟩
def ds__law_single : DS :=
 (dRet (dCB fTuple (dCons (dFrz (dLc (dRange1 (dVar 0)) (gVar 2) dYes (dCB fInt (dCons (dBin fEq (dVar 2) (dVar 1)) dNil)) [2])) dNil)))
theorem w__law_single {P : Program} {w : World} {K : PySem.W.Frag} {mg : Str → Option Value} {base : Heap} {f : Addr} {fd : FuncData} {k : Nat} {dsp : DSp} (T : Tg K mg) (F : FunD K "_law_single" "_law_single" (defArgs s__law_single) (defBody s__law_single) (defScope s__law_single) [] [] f fd)
    (hlen : ∀ as Q' Ē, dsp as Q' Ē → as.length = 2) (hd : ∀ as Q' Ē, dsp as Q' Ē → ∃ Ē2 : XD, (∀ e' c fs, Ē2 e' c fs → Ē (retA as e') c fs) ∧ ds__law_single Ē2 { nx := fun e' => Q' .non (retA as e'), rt := fun d e' => Q' d (retA as e') } (as ++ List.replicate (N__law_single.length - as.length) .no)) :
    FnOk P w K mg base (L2N.CX P w) (k + 1) f fd ["k", "j"] (spOfX K mg dsp) := by
  refine fn_okX F sc__law_single hlen (by decide) (fun cdv A outer s H E hr tk po => ?_) hd
  have g : Good (cxOf (L2N.CX P w) P w K mg base N__law_single "_law_single" (defScope s__law_single) f cdv A outer s H E) k := ⟨rfl, hr, sc__law_single.nd⟩
  exact (pds_one (ds_ret (pd_tuple T.f_tuple (pd_frz (pn_lc (E2 := EZ) [("i", 2)] g (pdi_rng1 T.f_range (pd_var 0)) (pg_var 2 g) tts_nil (pd_int1 T.f_int (pd_eq g (pd_var 2) (pd_var 1))))))))
/-! ### _law_lots -/
def N__law_lots : List Str := ["store", "k", "many", "high", "rows", "j", "i", "row", "spot_v", "alone", "piece"]
theorem sc__law_lots : FnScope N__law_lots ["store", "k", "many", "high"] (defScope s__law_lots) := ⟨rfl, rfl, rfl, by decide +kernel, rfl, by decide +kernel, by decide +kernel⟩
def ds__law_lots (c__law_single : DSp) (c__law_take : DSp) : DS :=
 (dSeq (dAsgN 4 (dLc (dRange1 (dVar 1)) (gVar 5) dYes (dCallX c__law_single (dCons (dVar 1) (dCons (dVar 5) dNil))) [5]))
  (dSeq (dIf (dTest (dBin fEq (dCallS 0 c__law_take (dCons (dC (.int 2)) dNil)) (dC (.int 0))))
 (dAsgN 4 (dLc (dRange1 (dVar 1)) (gVar 5) dYes (dIxV 4 (dBin fSub (dBin fSub (dVar 1) (dC (.int 1))) (dVar 5))) [5]))
 dNext)
  (dSeq (dFor (dRange1 (dVar 2)) (gVar 6)
 (dSeq (dAsgN 7 (dLc (dRange1 (dVar 1)) (gVar 5) dYes (dC (.int 0)) [5]))
  (dSeq (dAsg 8 (dCallS 0 c__law_take (dCons (dVar 1) dNil)))
  (dSeq (dAsg 9 (dBin fEq (dCallS 0 c__law_take (dCons (dC (.int 3)) dNil)) (dC (.int 0))))
  (dSeq (dFor (dRange1 (dCB fMax2 (dCons (dBin fAdd (dC (.int 1)) (dCallS 0 c__law_take (dCons (dVar 3) dNil))) (dCons (dBin fMul (dVar 3) (dCB fInt (dCons (dBin fEq (dCallS 0 c__law_take (dCons (dC (.int 4)) dNil)) (dC (.int 0))) dNil))) dNil)))) (gVar 10)
 (dSeq (dSetIx 7 (dVar 8) (dBin fAdd (dIxV 7 (dVar 8)) (dC (.int 1))))
  (dIf (dNot (dTest (dVar 9)))
 (dAsg 8 (dCallS 0 c__law_take (dCons (dVar 1) dNil)))
 dNext)))
  (dSeq (dIf (dTest (dBin fEq (dCallS 0 c__law_take (dCons (dC (.int 6)) dNil)) (dC (.int 0))))
 (dAsgN 7 (dListOf (dIxV 4 (dCallS 0 c__law_take (dCons (dOwnL 4 fLen (dCB fLen (dCons (dVar 4) dNil))) dNil)))))
 dNext)
  (dDrop (dMth 4 mInsert (dCons (dBin fMul (dCallS 0 c__law_take (dCons (dBin fAdd (dOwnL 4 fLen (dCB fLen (dCons (dVar 4) dNil))) (dC (.int 1))) dNil)) (dCB fInt (dCons (dBin fEq (dCallS 0 c__law_take (dCons (dC (.int 3)) dNil)) (dC (.int 0))) dNil))) (dCons (dCB fTuple (dCons (dVar 7) dNil)) dNil))))))))))
  (dRet (dVar 4)))))
theorem w__law_lots {P : Program} {w : World} {K : PySem.W.Frag} {mg : Str → Option Value} {base : Heap} {f : Addr} {fd : FuncData} {k : Nat} {dsp : DSp} {c__law_single : DSp} {c__law_take : DSp} {l__law_single l__law_take : Nat} (T : Tg K mg) (F : FunD K "_law_lots" "_law_lots" (defArgs s__law_lots) (defBody s__law_lots) (defScope s__law_lots) [] [] f fd) (F__law_single : FnX P w K mg base l__law_single "_law_single" c__law_single) (h__law_single : l__law_single ≤ k) (F__law_take : FnX P w K mg base l__law_take "_law_take" c__law_take) (h__law_take : l__law_take ≤ k)
    (hlen : ∀ as Q' Ē, dsp as Q' Ē → as.length = 4) (hd : ∀ as Q' Ē, dsp as Q' Ē → ∃ Ē2 : XD, (∀ e' c fs, Ē2 e' c fs → Ē (retA as e') c fs) ∧ ds__law_lots c__law_single c__law_take Ē2 { nx := fun e' => Q' .non (retA as e'), rt := fun d e' => Q' d (retA as e') } (as ++ List.replicate (N__law_lots.length - as.length) .no)) :
    FnOk P w K mg base (L2N.CX P w) (k + 1) f fd ["store", "k", "many", "high"] (spOfX K mg dsp) := by
  refine fn_okX F sc__law_lots hlen (by decide) (fun cdv A outer s H E hr tk po => ?_) hd
  have g : Good (cxOf (L2N.CX P w) P w K mg base N__law_lots "_law_lots" (defScope s__law_lots) f cdv A outer s H E) k := ⟨rfl, hr, sc__law_lots.nd⟩
  exact (pds_cons (ds_asgN 4 g (pn_lc (E2 := EZ) [("j", 5)] g (pdi_rng1 T.f_range (pd_var 1)) (pg_var 5 g) tts_nil (pd_callX tkZ F__law_single g (pda_cons (pd_var 1) (pda_cons (pd_var 5) pda_nil)) (hl := h__law_single))))
  (pds_cons (ds_if (tt_eq g (pd_callS 0 F__law_take.fn g (pda_cons pd_int pda_nil) (hl := h__law_take)) pd_int)
 (pds_one (ds_asgN 4 g (pn_lc (E2 := EZ) [("j", 5)] g (pdi_rng1 T.f_range (pd_var 1)) (pg_var 5 g) tts_nil (pd_ixV 4 (pd_sub (pd_sub (pd_var 1) pd_int) (pd_var 5))))))
 pds_nil)
  (pds_cons (ds_for g po (pdi_rng1 T.f_range (pd_var 2)) (pg_var 6 g)
 (pds_cons (ds_setLc (E2 := EZ) 7 [("j", 5)] g (pdi_rng1 T.f_range (pd_var 1)) (pg_var 5 g) tts_nil pd_int)
  (pds_cons (ds_asg 8 g (pd_callS 0 F__law_take.fn g (pda_cons (pd_var 1) pda_nil) (hl := h__law_take)))
  (pds_cons (ds_asg 9 g (pd_eq g (pd_callS 0 F__law_take.fn g (pda_cons pd_int pda_nil) (hl := h__law_take)) pd_int))
  (pds_cons (ds_for g po (pdi_rng1 T.f_range (pd_max2 g T.f_max (pd_add pd_int (pd_callS 0 F__law_take.fn g (pda_cons (pd_var 3) pda_nil) (hl := h__law_take))) (pd_mul (pd_var 3) (pd_int1 T.f_int (pd_eq g (pd_callS 0 F__law_take.fn g (pda_cons pd_int pda_nil) (hl := h__law_take)) pd_int))))) (pg_var 10 g)
 (pds_cons (ds_setIx 7 (pd_var 8) (pd_add (pd_ixV 7 (pd_var 8)) pd_int))
  (pds_one (ds_if (tt_not (pt_of (pd_var 9)))
 (pds_one (ds_asg 8 g (pd_callS 0 F__law_take.fn g (pda_cons (pd_var 1) pda_nil) (hl := h__law_take))))
 pds_nil))))
  (pds_cons (ds_if (tt_eq g (pd_callS 0 F__law_take.fn g (pda_cons pd_int pda_nil) (hl := h__law_take)) pd_int)
 (pds_one (ds_asgN 7 g (pn_list T.f_list (pd_ixV 4 (pd_callS 0 F__law_take.fn g (pda_cons (pd_lenV 4 T.f_len) pda_nil) (hl := h__law_take))))))
 pds_nil)
  (pds_one (ds_expr (pd_mth 4 PySem.F.plainAttrs_list PySem.F.slot_list_insert PySem.F.type_list_insert (fun _ => mt_insert) lm_insert (pda_cons (pd_mul (pd_callS 0 F__law_take.fn g (pda_cons (pd_add (pd_lenV 4 T.f_len) pd_int) pda_nil) (hl := h__law_take)) (pd_int1 T.f_int (pd_eq g (pd_callS 0 F__law_take.fn g (pda_cons pd_int pda_nil) (hl := h__law_take)) pd_int))) (pda_cons (pd_tuple T.f_tuple (pd_var 7)) pda_nil)))))))))))
  (pds_one (ds_ret (pd_var 4))))))
/-! ### _law_costs -/
def N__law_costs : List Str := ["store", "bundles", "way", "bundle", "powers", "i", "room", "less", "weights", "number", "worths", "j", "worth"]
theorem sc__law_costs : FnScope N__law_costs ["store", "bundles"] (defScope s__law_costs) := ⟨rfl, rfl, rfl, by decide +kernel, rfl, by decide +kernel, by decide +kernel⟩
def ds__law_costs (c__law_take : DSp) : DS :=
 (dSeq (dAsg 2 (dCallS 0 c__law_take (dCons (dC (.int 9)) dNil)))
  (dSeq (dIf (dTest (dBin fEq (dVar 2) (dC (.int 0))))
 (dRet (dFrz (dLc (dItems (dVar 1)) (gVar 3) dYes (dCallS 0 c__law_take (dCons (dC (.int 7)) dNil)) [3])))
 dNext)
  (dSeq (dIf (dTest (dBin fEq (dVar 2) (dC (.int 1))))
 (dSeq (dAsgN 4 (dLst (dCons (dC (.int 1)) (dCons (dC (.int 9)) (dCons (dC (.int 81)) (dCons (dC (.int 729)) (dCons (dC (.int 6561)) (dCons (dC (.int 59049)) (dCons (dC (.int 531441)) (dCons (dC (.int 4782969)) (dCons (dC (.int 43046721)) (dCons (dC (.int 387420489)) dNil))))))))))))
  (dRet (dFrz (dLc (dRange1 (dOwnL 1 fLen (dCB fLen (dCons (dVar 1) dNil)))) (gVar 5) dYes (dBin fSub (dBin fMul (dBin fPow (dC (.int 9)) (dC (.int 9))) (dCB fSum (dCons (dIxV 1 (dVar 5)) dNil))) (dIxV 4 (dBin fSub (dBin fSub (dOwnL 1 fLen (dCB fLen (dCons (dVar 1) dNil))) (dC (.int 1))) (dVar 5)))) [5]))))
 dNext)
  (dSeq (dIf (dTest (dBin fEq (dVar 2) (dC (.int 2))))
 (dRet (dFrz (dLc (dItems (dVar 1)) (gVar 3) dYes (dCallS 0 c__law_take (dCons (dBin fAdd (dBin fPow (dC (.int 10)) (dC (.int 12))) (dC (.int 1))) dNil)) [3])))
 dNext)
  (dSeq (dAsg 6 (dBin fIx (dFrz (dLst (dCons (dC (.int 10)) (dCons (dC (.int 10)) (dCons (dC (.int 10)) (dCons (dC (.int 10)) (dCons (dC (.int 3)) (dCons (dBin fMul (dC (.int 125)) (dBin fPow (dC (.int 10)) (dC (.int 9)))) dNil)))))))) (dBin fSub (dVar 2) (dC (.int 3)))))
  (dSeq (dAsg 7 (dBin fAdd (dC (.int 1)) (dCallS 0 c__law_take (dCons (dC (.int 3)) dNil))))
  (dSeq (dAsgN 8 (dLc (dItems (dIxV 1 (dC (.int 0)))) (gVar 9) dYes (dCallS 0 c__law_take (dCons (dVar 6) dNil)) [9]))
  (dSeq (dAsgN 10 (dLc (dItems (dVar 1)) (gVar 3) dYes (dCB fSum (dCons (dFrz (dLc (dRange1 (dOwnL 8 fLen (dCB fLen (dCons (dVar 8) dNil)))) (gVar 11) dYes (dBin fMul (dIxV 8 (dVar 11)) (dIxV 3 (dVar 11))) [11])) dNil)) [3]))
  (dRet (dFrz (dLc (dItems (dVar 10)) (gVar 12) dYes (dCB fMax2 (dCons (dC (.int 0)) (dCons (dBin fSub (dVar 12) (dCallS 0 c__law_take (dCons (dVar 7) dNil))) dNil))) [12])))))))))))
theorem w__law_costs {P : Program} {w : World} {K : PySem.W.Frag} {mg : Str → Option Value} {base : Heap} {f : Addr} {fd : FuncData} {k : Nat} {dsp : DSp} {c__law_take : DSp} {l__law_take : Nat} (T : Tg K mg) (F : FunD K "_law_costs" "_law_costs" (defArgs s__law_costs) (defBody s__law_costs) (defScope s__law_costs) [] [] f fd) (F__law_take : FnX P w K mg base l__law_take "_law_take" c__law_take) (h__law_take : l__law_take ≤ k)
    (hlen : ∀ as Q' Ē, dsp as Q' Ē → as.length = 2) (hd : ∀ as Q' Ē, dsp as Q' Ē → ∃ Ē2 : XD, (∀ e' c fs, Ē2 e' c fs → Ē (retA as e') c fs) ∧ ds__law_costs c__law_take Ē2 { nx := fun e' => Q' .non (retA as e'), rt := fun d e' => Q' d (retA as e') } (as ++ List.replicate (N__law_costs.length - as.length) .no)) :
    FnOk P w K mg base (L2N.CX P w) (k + 1) f fd ["store", "bundles"] (spOfX K mg dsp) := by
  refine fn_okX F sc__law_costs hlen (by decide) (fun cdv A outer s H E hr tk po => ?_) hd
  have g : Good (cxOf (L2N.CX P w) P w K mg base N__law_costs "_law_costs" (defScope s__law_costs) f cdv A outer s H E) k := ⟨rfl, hr, sc__law_costs.nd⟩
  exact (pds_cons (ds_asg 2 g (pd_callS 0 F__law_take.fn g (pda_cons pd_int pda_nil) (hl := h__law_take)))
  (pds_cons (ds_if (tt_eq g (pd_var 2) pd_int)
 (pds_one (ds_ret (pd_frz (pn_lc (E2 := EZ) [("bundle", 3)] g (pdi_seq (pd_var 1)) (pg_var 3 g) tts_nil (pd_callS 0 F__law_take.fn g (pda_cons pd_int pda_nil) (hl := h__law_take))))))
 pds_nil)
  (pds_cons (ds_if (tt_eq g (pd_var 2) pd_int)
 (pds_cons (ds_asgN 4 g (pn_lst (pda_cons pd_int (pda_cons pd_int (pda_cons pd_int (pda_cons pd_int (pda_cons pd_int (pda_cons pd_int (pda_cons pd_int (pda_cons pd_int (pda_cons pd_int (pda_cons pd_int pda_nil))))))))))))
  (pds_one (ds_ret (pd_frz (pn_lc (E2 := EZ) [("i", 5)] g (pdi_rng1 T.f_range (pd_lenV 1 T.f_len)) (pg_var 5 g) tts_nil (pd_sub (pd_mul (pd_pow pd_int pd_int) (pd_sum g T.f_sum (pd_ixV 1 (pd_var 5)))) (pd_ixV 4 (pd_sub (pd_sub (pd_lenV 1 T.f_len) pd_int) (pd_var 5)))))))))
 pds_nil)
  (pds_cons (ds_if (tt_eq g (pd_var 2) pd_int)
 (pds_one (ds_ret (pd_frz (pn_lc (E2 := EZ) [("bundle", 3)] g (pdi_seq (pd_var 1)) (pg_var 3 g) tts_nil (pd_callS 0 F__law_take.fn g (pda_cons (pd_add (pd_pow pd_int pd_int) pd_int) pda_nil) (hl := h__law_take))))))
 pds_nil)
  (pds_cons (ds_asg 6 g (pd_ix (pd_frz (pn_lst (pda_cons pd_int (pda_cons pd_int (pda_cons pd_int (pda_cons pd_int (pda_cons pd_int (pda_cons (pd_mul pd_int (pd_pow pd_int pd_int)) pda_nil)))))))) (pd_sub (pd_var 2) pd_int)))
  (pds_cons (ds_asg 7 g (pd_add pd_int (pd_callS 0 F__law_take.fn g (pda_cons pd_int pda_nil) (hl := h__law_take))))
  (pds_cons (ds_asgN 8 g (pn_lc (E2 := EZ) [("number", 9)] g (pdi_seq (pd_ixV 1 pd_int)) (pg_var 9 g) tts_nil (pd_callS 0 F__law_take.fn g (pda_cons (pd_var 6) pda_nil) (hl := h__law_take))))
  (pds_cons (ds_setLc (E2 := EZ) 10 [("bundle", 3)] g (pdi_seq (pd_var 1)) (pg_var 3 g) tts_nil (pd_sum g T.f_sum (pd_frz (pn_lc (E2 := EZ) [("j", 11)] g (pdi_rng1 T.f_range (pd_lenV 8 T.f_len)) (pg_var 11 g) tts_nil (pd_mul (pd_ixV 8 (pd_var 11)) (pd_ixV 3 (pd_var 11)))))))
  (pds_one (ds_ret (pd_frz (pn_lc (E2 := EZ) [("worth", 12)] g (pdi_seq (pd_var 10)) (pg_var 12 g) tts_nil (pd_max2 g T.f_max pd_int (pd_sub (pd_var 12) (pd_callS 0 F__law_take.fn g (pda_cons (pd_var 7) pda_nil) (hl := h__law_take))))))))))))))))
/-! ### _law_goods -/
def N__law_goods : List Str := ["store", "k", "letters", "first", "step", "j"]
theorem sc__law_goods : FnScope N__law_goods ["store", "k"] (defScope s__law_goods) := ⟨rfl, rfl, rfl, by decide +kernel, rfl, by decide +kernel, by decide +kernel⟩
def ds__law_goods (c__law_take : DSp) : DS :=
 (dSeq (dAsg 2 (dC (.str "abcdefghijklmnopqrstuvwxyz")))
  (dSeq (dAsg 3 (dCallS 0 c__law_take (dCons (dC (.int 26)) dNil)))
  (dSeq (dAsg 4 (dBin fAdd (dC (.int 1)) (dCallS 0 c__law_take (dCons (dC (.int 12)) dNil))))
  (dRet (dFrz (dLc (dRange1 (dVar 1)) (gVar 5) dYes (dBin fMul (dIxV 2 (dBin fMod (dCB fInt (dCons (dBin fAdd (dVar 3) (dBin fMul (dVar 5) (dVar 4))) dNil)) (dC (.int 26)))) (dBin fAdd (dC (.int 1)) (dCallS 0 c__law_take (dCons (dC (.int 8)) dNil)))) [5]))))))
theorem w__law_goods {P : Program} {w : World} {K : PySem.W.Frag} {mg : Str → Option Value} {base : Heap} {f : Addr} {fd : FuncData} {k : Nat} {dsp : DSp} {c__law_take : DSp} {l__law_take : Nat} (T : Tg K mg) (F : FunD K "_law_goods" "_law_goods" (defArgs s__law_goods) (defBody s__law_goods) (defScope s__law_goods) [] [] f fd) (F__law_take : FnX P w K mg base l__law_take "_law_take" c__law_take) (h__law_take : l__law_take ≤ k)
    (hlen : ∀ as Q' Ē, dsp as Q' Ē → as.length = 2) (hd : ∀ as Q' Ē, dsp as Q' Ē → ∃ Ē2 : XD, (∀ e' c fs, Ē2 e' c fs → Ē (retA as e') c fs) ∧ ds__law_goods c__law_take Ē2 { nx := fun e' => Q' .non (retA as e'), rt := fun d e' => Q' d (retA as e') } (as ++ List.replicate (N__law_goods.length - as.length) .no)) :
    FnOk P w K mg base (L2N.CX P w) (k + 1) f fd ["store", "k"] (spOfX K mg dsp) := by
  refine fn_okX F sc__law_goods hlen (by decide) (fun cdv A outer s H E hr tk po => ?_) hd
  have g : Good (cxOf (L2N.CX P w) P w K mg base N__law_goods "_law_goods" (defScope s__law_goods) f cdv A outer s H E) k := ⟨rfl, hr, sc__law_goods.nd⟩
  exact (pds_cons (ds_asg 2 g pd_str)
  (pds_cons (ds_asg 3 g (pd_callS 0 F__law_take.fn g (pda_cons pd_int pda_nil) (hl := h__law_take)))
  (pds_cons (ds_asg 4 g (pd_add pd_int (pd_callS 0 F__law_take.fn g (pda_cons pd_int pda_nil) (hl := h__law_take))))
  (pds_one (ds_ret (pd_frz (pn_lc (E2 := EZ) [("j", 5)] g (pdi_rng1 T.f_range (pd_var 1)) (pg_var 5 g) tts_nil (pd_mul (pd_ixV 2 (pd_mod (pd_int1 T.f_int (pd_add (pd_var 3) (pd_mul (pd_var 5) (pd_var 4)))) pd_int)) (pd_add pd_int (pd_callS 0 F__law_take.fn g (pda_cons pd_int pda_nil) (hl := h__law_take)))))))))))
/-! ### _law_pair_of_books -/
def N__law_pair_of_books : List Str := ["store", "shapes", "shape", "many", "bundles", "prices", "words", "more", "i", "offers", "way", "at", "weight", "row", "other", "j"]
theorem sc__law_pair_of_books : FnScope N__law_pair_of_books ["store", "shapes"] (defScope s__law_pair_of_books) := ⟨rfl, rfl, rfl, by decide +kernel, rfl, by decide +kernel, by decide +kernel⟩
def ds__law_pair_of_books (c__law_take : DSp) (c__law_lots : DSp) (c__law_costs : DSp) (c__law_goods : DSp) : DS :=
 (dSeq (dAsg 2 (dIxV 1 (dCallS 0 c__law_take (dCons (dOwnL 1 fLen (dCB fLen (dCons (dVar 1) dNil))) dNil))))
  (dSeq (dAsg 3 (dCB fMax2 (dCons (dCallS 0 c__law_take (dCons (dBin fAdd (dIxV 2 (dC (.int 1))) (dC (.int 1))) dNil)) (dCons (dCallS 0 c__law_take (dCons (dBin fAdd (dIxV 2 (dC (.int 1))) (dC (.int 1))) dNil)) dNil))))
  (dSeq (dAsg 4 (dCallS 0 c__law_lots (dCons (dIxV 2 (dC (.int 0))) (dCons (dVar 3) (dCons (dIxV 2 (dC (.int 2))) dNil)))))
  (dSeq (dAsg 5 (dCallS 0 c__law_costs (dCons (dVar 4) dNil)))
  (dSeq (dAsg 6 (dCallS 0 c__law_goods (dCons (dIxV 2 (dC (.int 0))) dNil)))
  (dSeq (dAsgN 7 (dLc (dRange1 (dOwnL 4 fLen (dCB fLen (dCons (dVar 4) dNil)))) (gVar 8) dYes (dTup (dCons (dIxV 4 (dVar 8)) (dCons (dIxV 5 (dVar 8)) dNil))) [8]))
  (dSeq (dAsgN 9 (dListV 7))
  (dSeq (dAsg 10 (dCallS 0 c__law_take (dCons (dC (.int 8)) dNil)))
  (dSeq (dAsg 11 (dCallS 0 c__law_take (dCons (dOwnL 7 fLen (dCB fLen (dCons (dVar 7) dNil))) dNil)))
  (dSeq (dIf (dTest (dBin fEq (dVar 10) (dC (.int 0))))
 (dAsgN 7 (dLc (dRange1 (dOwnL 7 fLen (dCB fLen (dCons (dVar 7) dNil)))) (gVar 8) dYes (dIxV 7 (dBin fSub (dBin fSub (dOwnL 7 fLen (dCB fLen (dCons (dVar 7) dNil))) (dC (.int 1))) (dVar 8))) [8]))
 dNext)
  (dSeq (dIf (dOr (dTest (dBin fEq (dVar 10) (dC (.int 1)))) (dTest (dBin fEq (dVar 10) (dC (.int 2)))))
 (dSetIx 7 (dVar 11) (dTup (dCons (dBin fIx (dIxV 7 (dVar 11)) (dC (.int 0))) (dCons (dCB fMax2 (dCons (dC (.int 0)) (dCons (dCB fMin2 (dCons (dBin fPow (dC (.int 10)) (dC (.int 12))) (dCons (dBin fAdd (dBin fIx (dIxV 7 (dVar 11)) (dC (.int 1))) (dBin fIx (dFrz (dLst (dCons (dC (.int 1)) (dCons (dUn fNeg (dC (.int 1))) (dCons (dC (.int 2)) (dCons (dUn fNeg (dC (.int 2))) dNil)))))) (dCallS 0 c__law_take (dCons (dC (.int 4)) dNil)))) dNil))) dNil))) dNil))))
 dNext)
  (dSeq (dIf (dTest (dBin fEq (dVar 10) (dC (.int 4))))
 (dSeq (dAsg 12 (dBin fAdd (dC (.int 1)) (dCallS 0 c__law_take (dCons (dC (.int 9)) dNil))))
  (dAsgN 7 (dLc (dItems (dVar 7)) (gVar 13) dYes (dTup (dCons (dIxV 13 (dC (.int 0))) (dCons (dCB fMin2 (dCons (dBin fPow (dC (.int 10)) (dC (.int 12))) (dCons (dBin fMul (dIxV 13 (dC (.int 1))) (dVar 12)) dNil))) dNil))) [13])))
 dNext)
  (dSeq (dIf (dOr (dTest (dBin fEq (dVar 10) (dC (.int 3)))) (dOr (dTest (dBin fEq (dVar 10) (dC (.int 5)))) (dTest (dBin fEq (dVar 10) (dC (.int 6))))))
 (dSeq (dIf (dTest (dBin fGt (dVar 10) (dC (.int 3))))
 (dAsg 4 (dCallS 0 c__law_lots (dCons (dIxV 2 (dC (.int 0))) (dCons (dCallS 0 c__law_take (dCons (dBin fAdd (dIxV 2 (dC (.int 1))) (dC (.int 1))) dNil)) (dCons (dIxV 2 (dC (.int 2))) dNil)))))
 dNext)
  (dSeq (dAsg 5 (dCallS 0 c__law_costs (dCons (dVar 4) dNil)))
  (dAsgN 7 (dLc (dRange1 (dOwnL 4 fLen (dCB fLen (dCons (dVar 4) dNil)))) (gVar 8) dYes (dTup (dCons (dIxV 4 (dVar 8)) (dCons (dIxV 5 (dVar 8)) dNil))) [8]))))
 dNext)
  (dSeq (dIf (dAnd (dTest (dBin fEq (dVar 10) (dC (.int 7)))) (dTest (dBin fLt (dOwnL 7 fLen (dCB fLen (dCons (dVar 7) dNil))) (dC (.int 10)))))
 (dSeq (dAsg 14 (dIxV 7 (dCallS 0 c__law_take (dCons (dOwnL 7 fLen (dCB fLen (dCons (dVar 7) dNil))) dNil))))
  (dSeq (dAsg 13 (dCB fTuple (dCons (dFrz (dLc (dRange1 (dIxV 2 (dC (.int 0)))) (gVar 15) dYes (dBin fAdd (dBin fIx (dBin fIx (dIxV 7 (dVar 11)) (dC (.int 0))) (dVar 15)) (dBin fIx (dIxV 14 (dC (.int 0))) (dVar 15))) [15])) dNil)))
  (dIf (dTest (dBin fLt (dCB fSum (dCons (dVar 13) dNil)) (dC (.int 9))))
 (dDrop (dMth 7 mInsert (dCons (dVar 11) (dCons (dTup (dCons (dVar 13) (dCons (dCB fMin2 (dCons (dBin fPow (dC (.int 10)) (dC (.int 12))) (dCons (dBin fAdd (dBin fAdd (dBin fIx (dIxV 7 (dVar 11)) (dC (.int 1))) (dIxV 14 (dC (.int 1)))) (dCallS 0 c__law_take (dCons (dC (.int 3)) dNil))) dNil))) dNil))) dNil))))
 dNext)))
 dNext)
  (dRet (dBin fAdd (dFrz (dLst (dCons (dVar 6) dNil))) (dBin fIx (dFrz (dLst (dCons (dFrz (dLst (dCons (dVar 9) (dCons (dVar 7) dNil)))) (dCons (dFrz (dLst (dCons (dVar 7) (dCons (dVar 9) dNil)))) dNil)))) (dCallS 0 c__law_take (dCons (dC (.int 2)) dNil)))))))))))))))))))
theorem w__law_pair_of_books {P : Program} {w : World} {K : PySem.W.Frag} {mg : Str → Option Value} {base : Heap} {f : Addr} {fd : FuncData} {k : Nat} {dsp : DSp} {c__law_take : DSp} {c__law_lots : DSp} {c__law_costs : DSp} {c__law_goods : DSp} {l__law_take l__law_lots l__law_costs l__law_goods : Nat} (T : Tg K mg) (F : FunD K "_law_pair_of_books" "_law_pair_of_books" (defArgs s__law_pair_of_books) (defBody s__law_pair_of_books) (defScope s__law_pair_of_books) [] [] f fd) (F__law_take : FnX P w K mg base l__law_take "_law_take" c__law_take) (h__law_take : l__law_take ≤ k) (F__law_lots : FnX P w K mg base l__law_lots "_law_lots" c__law_lots) (h__law_lots : l__law_lots ≤ k) (F__law_costs : FnX P w K mg base l__law_costs "_law_costs" c__law_costs) (h__law_costs : l__law_costs ≤ k) (F__law_goods : FnX P w K mg base l__law_goods "_law_goods" c__law_goods) (h__law_goods : l__law_goods ≤ k)
    (hlen : ∀ as Q' Ē, dsp as Q' Ē → as.length = 2) (hd : ∀ as Q' Ē, dsp as Q' Ē → ∃ Ē2 : XD, (∀ e' c fs, Ē2 e' c fs → Ē (retA as e') c fs) ∧ ds__law_pair_of_books c__law_take c__law_lots c__law_costs c__law_goods Ē2 { nx := fun e' => Q' .non (retA as e'), rt := fun d e' => Q' d (retA as e') } (as ++ List.replicate (N__law_pair_of_books.length - as.length) .no)) :
    FnOk P w K mg base (L2N.CX P w) (k + 1) f fd ["store", "shapes"] (spOfX K mg dsp) := by
  refine fn_okX F sc__law_pair_of_books hlen (by decide) (fun cdv A outer s H E hr tk po => ?_) hd
  have g : Good (cxOf (L2N.CX P w) P w K mg base N__law_pair_of_books "_law_pair_of_books" (defScope s__law_pair_of_books) f cdv A outer s H E) k := ⟨rfl, hr, sc__law_pair_of_books.nd⟩
  exact (pds_cons (ds_asg 2 g (pd_ixV 1 (pd_callS 0 F__law_take.fn g (pda_cons (pd_lenV 1 T.f_len) pda_nil) (hl := h__law_take))))
  (pds_cons (ds_asg 3 g (pd_max2 g T.f_max (pd_callS 0 F__law_take.fn g (pda_cons (pd_add (pd_ixV 2 pd_int) pd_int) pda_nil) (hl := h__law_take)) (pd_callS 0 F__law_take.fn g (pda_cons (pd_add (pd_ixV 2 pd_int) pd_int) pda_nil) (hl := h__law_take))))
  (pds_cons (ds_asg 4 g (pd_callS 0 F__law_lots.fn g (pda_cons (pd_ixV 2 pd_int) (pda_cons (pd_var 3) (pda_cons (pd_ixV 2 pd_int) pda_nil))) (hl := h__law_lots)))
  (pds_cons (ds_asg 5 g (pd_callS 0 F__law_costs.fn g (pda_cons (pd_var 4) pda_nil) (hl := h__law_costs)))
  (pds_cons (ds_asg 6 g (pd_callS 0 F__law_goods.fn g (pda_cons (pd_ixV 2 pd_int) pda_nil) (hl := h__law_goods)))
  (pds_cons (ds_asgN 7 g (pn_lc (E2 := EZ) [("i", 8)] g (pdi_rng1 T.f_range (pd_lenV 4 T.f_len)) (pg_var 8 g) tts_nil (pd_tup (pda_cons (pd_ixV 4 (pd_var 8)) (pda_cons (pd_ixV 5 (pd_var 8)) pda_nil)))))
  (pds_cons (ds_asgN 9 g (pn_listV 7 T.f_list))
  (pds_cons (ds_asg 10 g (pd_callS 0 F__law_take.fn g (pda_cons pd_int pda_nil) (hl := h__law_take)))
  (pds_cons (ds_asg 11 g (pd_callS 0 F__law_take.fn g (pda_cons (pd_lenV 7 T.f_len) pda_nil) (hl := h__law_take)))
  (pds_cons (ds_if (tt_eq g (pd_var 10) pd_int)
 (pds_one (ds_asgN 7 g (pn_lc (E2 := EZ) [("i", 8)] g (pdi_rng1 T.f_range (pd_lenV 7 T.f_len)) (pg_var 8 g) tts_nil (pd_ixV 7 (pd_sub (pd_sub (pd_lenV 7 T.f_len) pd_int) (pd_var 8))))))
 pds_nil)
  (pds_cons (ds_if (PDW.pt (tw_or (tt_eq g (pd_var 10) pd_int) (tw_or1 (tt_eq g (pd_var 10) pd_int))))
 (pds_one (ds_setIx 7 (pd_var 11) (pd_tup (pda_cons (pd_ix (pd_ixV 7 (pd_var 11)) pd_int) (pda_cons (pd_max2 g T.f_max pd_int (pd_min2 g T.f_min (pd_pow pd_int pd_int) (pd_add (pd_ix (pd_ixV 7 (pd_var 11)) pd_int) (pd_ix (pd_frz (pn_lst (pda_cons pd_int (pda_cons (pd_neg pd_int) (pda_cons pd_int (pda_cons (pd_neg pd_int) pda_nil)))))) (pd_callS 0 F__law_take.fn g (pda_cons pd_int pda_nil) (hl := h__law_take)))))) pda_nil)))))
 pds_nil)
  (pds_cons (ds_if (tt_eq g (pd_var 10) pd_int)
 (pds_cons (ds_asg 12 g (pd_add pd_int (pd_callS 0 F__law_take.fn g (pda_cons pd_int pda_nil) (hl := h__law_take))))
  (pds_one (ds_asgN 7 g (pn_lc (E2 := EZ) [("row", 13)] g (pdi_seq (pd_var 7)) (pg_var 13 g) tts_nil (pd_tup (pda_cons (pd_ixV 13 pd_int) (pda_cons (pd_min2 g T.f_min (pd_pow pd_int pd_int) (pd_mul (pd_ixV 13 pd_int) (pd_var 12))) pda_nil)))))))
 pds_nil)
  (pds_cons (ds_if (PDW.pt (tw_or (tt_eq g (pd_var 10) pd_int) (tw_or (tt_eq g (pd_var 10) pd_int) (tw_or1 (tt_eq g (pd_var 10) pd_int)))))
 (pds_cons (ds_if (tt_gt (pd_var 10) pd_int)
 (pds_one (ds_asg 4 g (pd_callS 0 F__law_lots.fn g (pda_cons (pd_ixV 2 pd_int) (pda_cons (pd_callS 0 F__law_take.fn g (pda_cons (pd_add (pd_ixV 2 pd_int) pd_int) pda_nil) (hl := h__law_take)) (pda_cons (pd_ixV 2 pd_int) pda_nil))) (hl := h__law_lots))))
 pds_nil)
  (pds_cons (ds_asg 5 g (pd_callS 0 F__law_costs.fn g (pda_cons (pd_var 4) pda_nil) (hl := h__law_costs)))
  (pds_one (ds_asgN 7 g (pn_lc (E2 := EZ) [("i", 8)] g (pdi_rng1 T.f_range (pd_lenV 4 T.f_len)) (pg_var 8 g) tts_nil (pd_tup (pda_cons (pd_ixV 4 (pd_var 8)) (pda_cons (pd_ixV 5 (pd_var 8)) pda_nil))))))))
 pds_nil)
  (pds_cons (ds_if (PDW.pt (tw_and (tt_eq g (pd_var 10) pd_int) (tw_and1 (tt_lt (pd_lenV 7 T.f_len) pd_int))))
 (pds_cons (ds_asg 14 g (pd_ixV 7 (pd_callS 0 F__law_take.fn g (pda_cons (pd_lenV 7 T.f_len) pda_nil) (hl := h__law_take))))
  (pds_cons (ds_asg 13 g (pd_tuple T.f_tuple (pd_frz (pn_lc (E2 := EZ) [("j", 15)] g (pdi_rng1 T.f_range (pd_ixV 2 pd_int)) (pg_var 15 g) tts_nil (pd_add (pd_ix (pd_ix (pd_ixV 7 (pd_var 11)) pd_int) (pd_var 15)) (pd_ix (pd_ixV 14 pd_int) (pd_var 15)))))))
  (pds_one (ds_if (tt_lt (pd_sum g T.f_sum (pd_var 13)) pd_int)
 (pds_one (ds_expr (pd_mth 7 PySem.F.plainAttrs_list PySem.F.slot_list_insert PySem.F.type_list_insert (fun _ => mt_insert) lm_insert (pda_cons (pd_var 11) (pda_cons (pd_tup (pda_cons (pd_var 13) (pda_cons (pd_min2 g T.f_min (pd_pow pd_int pd_int) (pd_add (pd_add (pd_ix (pd_ixV 7 (pd_var 11)) pd_int) (pd_ixV 14 pd_int)) (pd_callS 0 F__law_take.fn g (pda_cons pd_int pda_nil) (hl := h__law_take)))) pda_nil))) pda_nil)))))
 pds_nil))))
 pds_nil)
  (pds_one (ds_ret (pd_add (pd_frz (pn_lst (pda_cons (pd_var 6) pda_nil))) (pd_ix (pd_frz (pn_lst (pda_cons (pd_frz (pn_lst (pda_cons (pd_var 9) (pda_cons (pd_var 7) pda_nil)))) (pda_cons (pd_frz (pn_lst (pda_cons (pd_var 7) (pda_cons (pd_var 9) pda_nil)))) pda_nil)))) (pd_callS 0 F__law_take.fn g (pda_cons pd_int pda_nil) (hl := h__law_take))))))))))))))))))))
/-! ### _law_stranger -/
def N__law_stranger : List Str := ["store", "words", "offers", "way", "spot_v", "names"]
theorem sc__law_stranger : FnScope N__law_stranger ["store", "words", "offers"] (defScope s__law_stranger) := ⟨rfl, rfl, rfl, by decide +kernel, rfl, by decide +kernel, by decide +kernel⟩
def ds__law_stranger (c__law_take : DSp) : DS :=
 (dSeq (dAsg 3 (dCallS 0 c__law_take (dCons (dC (.int 3)) dNil)))
  (dSeq (dAsg 4 (dCallS 0 c__law_take (dCons (dOwnL 1 fLen (dCB fLen (dCons (dVar 1) dNil))) dNil)))
  (dSeq (dAsgN 5 (dListV 1))
  (dSeq (dIf (dAnd (dTest (dBin fEq (dVar 3) (dC (.int 0)))) (dTest (dBin fGt (dOwnL 1 fLen (dCB fLen (dCons (dVar 1) dNil))) (dC (.int 1)))))
 (dSeq (dSetIx 5 (dVar 4) (dIxV 1 (dBin fSub (dVar 4) (dC (.int 1)))))
  (dSeq (dSetIx 5 (dBin fSub (dVar 4) (dC (.int 1))) (dIxV 1 (dVar 4)))
  (dRet (dFrz (dLst (dCons (dVar 5) (dCons (dVar 2) dNil)))))))
 dNext)
  (dSeq (dIf (dTest (dBin fEq (dVar 3) (dC (.int 1))))
 (dSeq (dIf (dTest (dBin fGt (dOwnL 1 fLen (dCB fLen (dCons (dVar 1) dNil))) (dC (.int 1))))
 (dRet (dFrz (dLst (dCons (dFrz (dLst (dCons (dIxV 1 (dVar 4)) dNil))) (dCons (dFrz (dLst (dCons (dTup (dCons (dTup (dCons (dC (.int 1)) dNil)) (dCons (dBin fIx (dIxV 2 (dC (.int 0))) (dC (.int 1))) dNil))) dNil))) dNil)))))
 dNext)
  (dRet (dFrz (dLst (dCons (dFrz (dLst (dCons (dIxV 1 (dC (.int 0))) (dCons (dC (.str "other")) dNil)))) (dCons (dFrz (dLst (dCons (dTup (dCons (dTup (dCons (dC (.int 1)) (dCons (dC (.int 0)) dNil))) (dCons (dC (.int 1)) dNil))) (dCons (dTup (dCons (dTup (dCons (dC (.int 0)) (dCons (dC (.int 1)) dNil))) (dCons (dC (.int 1)) dNil))) dNil)))) dNil))))))
 dNext)
  (dSeq (dSetIx 5 (dVar 4) (dBin fMul (dBin fIx (dIxV 1 (dVar 4)) (dC (.int 0))) (dBin fAdd (dBin fSub (dCB fLen (dCons (dIxV 1 (dVar 4)) dNil)) (dC (.int 1))) (dBin fMul (dC (.int 2)) (dCB fInt (dCons (dBin fEq (dCB fLen (dCons (dIxV 1 (dVar 4)) dNil)) (dC (.int 1))) dNil))))))
  (dRet (dFrz (dLst (dCons (dVar 5) (dCons (dVar 2) dNil)))))))))))
theorem w__law_stranger {P : Program} {w : World} {K : PySem.W.Frag} {mg : Str → Option Value} {base : Heap} {f : Addr} {fd : FuncData} {k : Nat} {dsp : DSp} {c__law_take : DSp} {l__law_take : Nat} (T : Tg K mg) (F : FunD K "_law_stranger" "_law_stranger" (defArgs s__law_stranger) (defBody s__law_stranger) (defScope s__law_stranger) [] [] f fd) (F__law_take : FnX P w K mg base l__law_take "_law_take" c__law_take) (h__law_take : l__law_take ≤ k)
    (hlen : ∀ as Q' Ē, dsp as Q' Ē → as.length = 3) (hd : ∀ as Q' Ē, dsp as Q' Ē → ∃ Ē2 : XD, (∀ e' c fs, Ē2 e' c fs → Ē (retA as e') c fs) ∧ ds__law_stranger c__law_take Ē2 { nx := fun e' => Q' .non (retA as e'), rt := fun d e' => Q' d (retA as e') } (as ++ List.replicate (N__law_stranger.length - as.length) .no)) :
    FnOk P w K mg base (L2N.CX P w) (k + 1) f fd ["store", "words", "offers"] (spOfX K mg dsp) := by
  refine fn_okX F sc__law_stranger hlen (by decide) (fun cdv A outer s H E hr tk po => ?_) hd
  have g : Good (cxOf (L2N.CX P w) P w K mg base N__law_stranger "_law_stranger" (defScope s__law_stranger) f cdv A outer s H E) k := ⟨rfl, hr, sc__law_stranger.nd⟩
  exact (pds_cons (ds_asg 3 g (pd_callS 0 F__law_take.fn g (pda_cons pd_int pda_nil) (hl := h__law_take)))
  (pds_cons (ds_asg 4 g (pd_callS 0 F__law_take.fn g (pda_cons (pd_lenV 1 T.f_len) pda_nil) (hl := h__law_take)))
  (pds_cons (ds_asgN 5 g (pn_listV 1 T.f_list))
  (pds_cons (ds_if (PDW.pt (tw_and (tt_eq g (pd_var 3) pd_int) (tw_and1 (tt_gt (pd_lenV 1 T.f_len) pd_int))))
 (pds_cons (ds_setIx 5 (pd_var 4) (pd_ixV 1 (pd_sub (pd_var 4) pd_int)))
  (pds_cons (ds_setIx 5 (pd_sub (pd_var 4) pd_int) (pd_ixV 1 (pd_var 4)))
  (pds_one (ds_ret (pd_frz (pn_lst (pda_cons (pd_var 5) (pda_cons (pd_var 2) pda_nil))))))))
 pds_nil)
  (pds_cons (ds_if (tt_eq g (pd_var 3) pd_int)
 (pds_cons (ds_if (tt_gt (pd_lenV 1 T.f_len) pd_int)
 (pds_one (ds_ret (pd_frz (pn_lst (pda_cons (pd_frz (pn_lst (pda_cons (pd_ixV 1 (pd_var 4)) pda_nil))) (pda_cons (pd_frz (pn_lst (pda_cons (pd_tup (pda_cons (pd_tup (pda_cons pd_int pda_nil)) (pda_cons (pd_ix (pd_ixV 2 pd_int) pd_int) pda_nil))) pda_nil))) pda_nil))))))
 pds_nil)
  (pds_one (ds_ret (pd_frz (pn_lst (pda_cons (pd_frz (pn_lst (pda_cons (pd_ixV 1 pd_int) (pda_cons pd_str pda_nil)))) (pda_cons (pd_frz (pn_lst (pda_cons (pd_tup (pda_cons (pd_tup (pda_cons pd_int (pda_cons pd_int pda_nil))) (pda_cons pd_int pda_nil))) (pda_cons (pd_tup (pda_cons (pd_tup (pda_cons pd_int (pda_cons pd_int pda_nil))) (pda_cons pd_int pda_nil))) pda_nil)))) pda_nil)))))))
 pds_nil)
  (pds_cons (ds_setIx 5 (pd_var 4) (pd_mul (pd_ix (pd_ixV 1 (pd_var 4)) pd_int) (pd_add (pd_sub (pd_len T.f_len (pd_ixV 1 (pd_var 4))) pd_int) (pd_mul pd_int (pd_int1 T.f_int (pd_eq g (pd_len T.f_len (pd_ixV 1 (pd_var 4))) pd_int))))))
  (pds_one (ds_ret (pd_frz (pn_lst (pda_cons (pd_var 5) (pda_cons (pd_var 2) pda_nil))))))))))))
/-! ### _law_box -/
def N__law_box : List Str := ["top", "rows", "number", "longer", "row", "n"]
theorem sc__law_box : FnScope N__law_box ["top"] (defScope s__law_box) := ⟨rfl, rfl, rfl, by decide +kernel, rfl, by decide +kernel, by decide +kernel⟩
def ds__law_box : DS :=
 (dSeq (dAsgN 1 (dLst (dCons (dTup dNil) dNil)))
  (dSeq (dFor (dItems (dVar 0)) (gVar 2)
 (dSeq (dAsgN 3 (dLst dNil))
  (dSeq (dFor (dItems (dVar 1)) (gVar 4)
 (dFor (dRange1 (dBin fAdd (dVar 2) (dC (.int 1)))) (gVar 5)
 (dDrop (dMth 3 mAppend (dCons (dBin fAdd (dVar 4) (dTup (dCons (dVar 5) dNil))) dNil)))))
  (dAsgN 1 (dListV 3)))))
  (dRet (dVar 1))))
theorem w__law_box {P : Program} {w : World} {K : PySem.W.Frag} {mg : Str → Option Value} {base : Heap} {f : Addr} {fd : FuncData} {k : Nat} {dsp : DSp} (T : Tg K mg) (F : FunD K "_law_box" "_law_box" (defArgs s__law_box) (defBody s__law_box) (defScope s__law_box) [] [] f fd)
    (hlen : ∀ as Q' Ē, dsp as Q' Ē → as.length = 1) (hd : ∀ as Q' Ē, dsp as Q' Ē → ∃ Ē2 : XD, (∀ e' c fs, Ē2 e' c fs → Ē (retA as e') c fs) ∧ ds__law_box Ē2 { nx := fun e' => Q' .non (retA as e'), rt := fun d e' => Q' d (retA as e') } (as ++ List.replicate (N__law_box.length - as.length) .no)) :
    FnOk P w K mg base (L2N.CX P w) (k + 1) f fd ["top"] (spOfX K mg dsp) := by
  refine fn_okX F sc__law_box hlen (by decide) (fun cdv A outer s H E hr tk po => ?_) hd
  have g : Good (cxOf (L2N.CX P w) P w K mg base N__law_box "_law_box" (defScope s__law_box) f cdv A outer s H E) k := ⟨rfl, hr, sc__law_box.nd⟩
  exact (pds_cons (ds_asgN 1 g (pn_lst (pda_cons (pd_tup pda_nil) pda_nil)))
  (pds_cons (ds_for g po (pdi_seq (pd_var 0)) (pg_var 2 g)
 (pds_cons (ds_asgN 3 g (pn_lst pda_nil))
  (pds_cons (ds_for g po (pdi_seq (pd_var 1)) (pg_var 4 g)
 (pds_one (ds_for g po (pdi_rng1 T.f_range (pd_add (pd_var 2) pd_int)) (pg_var 5 g)
 (pds_one (ds_expr (pd_mth 3 PySem.F.plainAttrs_list PySem.F.slot_list_append PySem.F.type_list_append (fun _ => mt_append) lm_append (pda_cons (pd_add (pd_var 4) (pd_tup (pda_cons (pd_var 5) pda_nil))) pda_nil)))))))
  (pds_one (ds_asgN 1 g (pn_listV 3 T.f_list))))))
  (pds_one (ds_ret (pd_var 1)))))
/-! ### _law_fits -/
def N__law_fits : List Str := ["small", "great", "j"]
theorem sc__law_fits : FnScope N__law_fits ["small", "great"] (defScope s__law_fits) := ⟨rfl, rfl, rfl, by decide +kernel, rfl, by decide +kernel, by decide +kernel⟩
def ds__law_fits : DS :=
 (dSeq (dFor (dRange1 (dOwnL 0 fLen (dCB fLen (dCons (dVar 0) dNil)))) (gVar 2)
 (dIf (dTest (dBin fGt (dIxV 0 (dVar 2)) (dIxV 1 (dVar 2))))
 (dRet (dC (.bl false)))
 dNext))
  (dRet (dC (.bl true))))
theorem w__law_fits {P : Program} {w : World} {K : PySem.W.Frag} {mg : Str → Option Value} {base : Heap} {f : Addr} {fd : FuncData} {k : Nat} {dsp : DSp} (T : Tg K mg) (F : FunD K "_law_fits" "_law_fits" (defArgs s__law_fits) (defBody s__law_fits) (defScope s__law_fits) [] [] f fd)
    (hlen : ∀ as Q' Ē, dsp as Q' Ē → as.length = 2) (hd : ∀ as Q' Ē, dsp as Q' Ē → ∃ Ē2 : XD, (∀ e' c fs, Ē2 e' c fs → Ē (retA as e') c fs) ∧ ds__law_fits Ē2 { nx := fun e' => Q' .non (retA as e'), rt := fun d e' => Q' d (retA as e') } (as ++ List.replicate (N__law_fits.length - as.length) .no)) :
    FnOk P w K mg base (L2N.CX P w) (k + 1) f fd ["small", "great"] (spOfX K mg dsp) := by
  refine fn_okX F sc__law_fits hlen (by decide) (fun cdv A outer s H E hr tk po => ?_) hd
  have g : Good (cxOf (L2N.CX P w) P w K mg base N__law_fits "_law_fits" (defScope s__law_fits) f cdv A outer s H E) k := ⟨rfl, hr, sc__law_fits.nd⟩
  exact (pds_cons (ds_for g po (pdi_rng1 T.f_range (pd_lenV 0 T.f_len)) (pg_var 2 g)
 (pds_one (ds_if (tt_gt (pd_ixV 0 (pd_var 2)) (pd_ixV 1 (pd_var 2)))
 (pds_one (ds_ret pd_bl))
 pds_nil)))
  (pds_one (ds_ret pd_bl)))
/-! ### _law_less -/
def N__law_less : List Str := ["x", "y", "j"]
theorem sc__law_less : FnScope N__law_less ["x", "y"] (defScope s__law_less) := ⟨rfl, rfl, rfl, by decide +kernel, rfl, by decide +kernel, by decide +kernel⟩
def ds__law_less : DS :=
 (dRet (dCB fTuple (dCons (dFrz (dLc (dRange1 (dOwnL 0 fLen (dCB fLen (dCons (dVar 0) dNil)))) (gVar 2) dYes (dBin fSub (dIxV 0 (dVar 2)) (dIxV 1 (dVar 2))) [2])) dNil)))
theorem w__law_less {P : Program} {w : World} {K : PySem.W.Frag} {mg : Str → Option Value} {base : Heap} {f : Addr} {fd : FuncData} {k : Nat} {dsp : DSp} (T : Tg K mg) (F : FunD K "_law_less" "_law_less" (defArgs s__law_less) (defBody s__law_less) (defScope s__law_less) [] [] f fd)
    (hlen : ∀ as Q' Ē, dsp as Q' Ē → as.length = 2) (hd : ∀ as Q' Ē, dsp as Q' Ē → ∃ Ē2 : XD, (∀ e' c fs, Ē2 e' c fs → Ē (retA as e') c fs) ∧ ds__law_less Ē2 { nx := fun e' => Q' .non (retA as e'), rt := fun d e' => Q' d (retA as e') } (as ++ List.replicate (N__law_less.length - as.length) .no)) :
    FnOk P w K mg base (L2N.CX P w) (k + 1) f fd ["x", "y"] (spOfX K mg dsp) := by
  refine fn_okX F sc__law_less hlen (by decide) (fun cdv A outer s H E hr tk po => ?_) hd
  have g : Good (cxOf (L2N.CX P w) P w K mg base N__law_less "_law_less" (defScope s__law_less) f cdv A outer s H E) k := ⟨rfl, hr, sc__law_less.nd⟩
  exact (pds_one (ds_ret (pd_tuple T.f_tuple (pd_frz (pn_lc (E2 := EZ) [("j", 2)] g (pdi_rng1 T.f_range (pd_lenV 0 T.f_len)) (pg_var 2 g) tts_nil (pd_sub (pd_ixV 0 (pd_var 2)) (pd_ixV 1 (pd_var 2))))))))
/-! ### _law_union -/
def N__law_union : List Str := ["offers", "bundles", "prices", "bundle", "basket", "rows", "offer", "row"]
theorem sc__law_union : FnScope N__law_union ["offers", "bundles"] (defScope s__law_union) := ⟨rfl, rfl, rfl, by decide +kernel, rfl, by decide +kernel, by decide +kernel⟩
def ds__law_union (c__law_box : DSp) (c__law_fits : DSp) (c__law_less : DSp) : DS :=
 (dSeq (dAsgN 2 dNewT)
  (dSeq (dFor (dItems (dVar 1)) (gVar 3)
 (dFor (dItems (dCallX c__law_box (dCons (dVar 3) dNil))) (gVar 4)
 (dIf (dTest (dDIn true 2 (dVar 4)))
 (dSeq (dAsgN 5 (dLc (dItems (dVar 0)) (gVar 6) (dTest (dCallX c__law_fits (dCons (dIxV 6 (dC (.int 0))) (dCons (dVar 4) dNil)))) (dVar 6) [6]))
  (dDPut 2 (dVar 4) (dMinD (dFrz (dLc (dItems (dVar 5)) (gVar 7) dYes (dBin fAdd (dIxV 7 (dC (.int 1))) (dDGet 2 (dCallX c__law_less (dCons (dVar 4) (dCons (dIxV 7 (dC (.int 0))) dNil))))) [7])) (dC (.int 0)))))
 dNext)))
  (dRet (dVar 2))))
theorem w__law_union {P : Program} {w : World} {K : PySem.W.Frag} {mg : Str → Option Value} {base : Heap} {f : Addr} {fd : FuncData} {k : Nat} {dsp : DSp} {c__law_box : DSp} {c__law_fits : DSp} {c__law_less : DSp} {l__law_box l__law_fits l__law_less : Nat} (T : Tg K mg) (F : FunD K "_law_union" "_law_union" (defArgs s__law_union) (defBody s__law_union) (defScope s__law_union) [] [] f fd) (F__law_box : FnX P w K mg base l__law_box "_law_box" c__law_box) (h__law_box : l__law_box ≤ k) (F__law_fits : FnX P w K mg base l__law_fits "_law_fits" c__law_fits) (h__law_fits : l__law_fits ≤ k) (F__law_less : FnX P w K mg base l__law_less "_law_less" c__law_less) (h__law_less : l__law_less ≤ k)
    (hlen : ∀ as Q' Ē, dsp as Q' Ē → as.length = 2) (hd : ∀ as Q' Ē, dsp as Q' Ē → ∃ Ē2 : XD, (∀ e' c fs, Ē2 e' c fs → Ē (retA as e') c fs) ∧ ds__law_union c__law_box c__law_fits c__law_less Ē2 { nx := fun e' => Q' .non (retA as e'), rt := fun d e' => Q' d (retA as e') } (as ++ List.replicate (N__law_union.length - as.length) .no)) :
    FnOk P w K mg base (L2N.CX P w) (k + 1) f fd ["offers", "bundles"] (spOfX K mg dsp) := by
  refine fn_okX F sc__law_union hlen (by decide) (fun cdv A outer s H E hr tk po => ?_) hd
  have g : Good (cxOf (L2N.CX P w) P w K mg base N__law_union "_law_union" (defScope s__law_union) f cdv A outer s H E) k := ⟨rfl, hr, sc__law_union.nd⟩
  exact (pds_cons (ds_asgN 2 g pn_newT)
  (pds_cons (ds_for g po (pdi_seq (pd_var 1)) (pg_var 3 g)
 (pds_one (ds_for g po (pdi_seq (pd_callX tk F__law_box g (pda_cons (pd_var 3) pda_nil) (hl := h__law_box))) (pg_var 4 g)
 (pds_one (ds_if (tt_dnin 2 g (pd_var 4))
 (pds_cons (ds_setLc (E2 := EZ) 5 [("offer", 6)] g (pdi_seq (pd_var 0)) (pg_var 6 g) (tts_one (pt_of (pd_callX tkZ F__law_fits g (pda_cons (pd_ixV 6 pd_int) (pda_cons (pd_var 4) pda_nil)) (hl := h__law_fits)))) (pd_var 6))
  (pds_one (ds_dput 2 g (pd_var 4) (pd_minD g T.f_min (pd_frz (pn_lc (E2 := EZ) [("row", 7)] g (pdi_seq (pd_var 5)) (pg_var 7 g) tts_nil (pd_add (pd_ixV 7 pd_int) (pd_dget 2 g (pd_callX tkZ F__law_less g (pda_cons (pd_var 4) (pda_cons (pd_ixV 7 pd_int) pda_nil)) (hl := h__law_less)))))) pd_int))))
 pds_nil)))))
  (pds_one (ds_ret (pd_var 2)))))
/-! ### _law_dearer -/
def N__law_dearer : List Str := ["offers", "more", "prices", "row", "at"]
theorem sc__law_dearer : FnScope N__law_dearer ["offers", "more"] (defScope s__law_dearer) := ⟨rfl, rfl, rfl, by decide +kernel, rfl, by decide +kernel, by decide +kernel⟩
def ds__law_dearer (c__law_union : DSp) : DS :=
 (dSeq (dAsg 2 (dCallX c__law_union (dCons (dVar 0) (dCons (dFrz (dLc (dItems (dVar 1)) (gVar 3) dYes (dIxV 3 (dC (.int 0))) [3])) dNil))))
  (dSeq (dFor (dRange1 (dOwnL 1 fLen (dCB fLen (dCons (dVar 1) dNil)))) (gVar 4)
 (dIf (dTest (dBin fGt (dDGet 2 (dBin fIx (dIxV 1 (dVar 4)) (dC (.int 0)))) (dBin fIx (dIxV 1 (dVar 4)) (dC (.int 1)))))
 (dRet (dVar 4))
 dNext))
  (dRet (dC .non))))
theorem w__law_dearer {P : Program} {w : World} {K : PySem.W.Frag} {mg : Str → Option Value} {base : Heap} {f : Addr} {fd : FuncData} {k : Nat} {dsp : DSp} {c__law_union : DSp} {l__law_union : Nat} (T : Tg K mg) (F : FunD K "_law_dearer" "_law_dearer" (defArgs s__law_dearer) (defBody s__law_dearer) (defScope s__law_dearer) [] [] f fd) (F__law_union : FnX P w K mg base l__law_union "_law_union" c__law_union) (h__law_union : l__law_union ≤ k)
    (hlen : ∀ as Q' Ē, dsp as Q' Ē → as.length = 2) (hd : ∀ as Q' Ē, dsp as Q' Ē → ∃ Ē2 : XD, (∀ e' c fs, Ē2 e' c fs → Ē (retA as e') c fs) ∧ ds__law_dearer c__law_union Ē2 { nx := fun e' => Q' .non (retA as e'), rt := fun d e' => Q' d (retA as e') } (as ++ List.replicate (N__law_dearer.length - as.length) .no)) :
    FnOk P w K mg base (L2N.CX P w) (k + 1) f fd ["offers", "more"] (spOfX K mg dsp) := by
  refine fn_okX F sc__law_dearer hlen (by decide) (fun cdv A outer s H E hr tk po => ?_) hd
  have g : Good (cxOf (L2N.CX P w) P w K mg base N__law_dearer "_law_dearer" (defScope s__law_dearer) f cdv A outer s H E) k := ⟨rfl, hr, sc__law_dearer.nd⟩
  exact (pds_cons (ds_asg 2 g (pd_callX tk F__law_union g (pda_cons (pd_var 0) (pda_cons (pd_frz (pn_lc (E2 := EZ) [("row", 3)] g (pdi_seq (pd_var 1)) (pg_var 3 g) tts_nil (pd_ixV 3 pd_int))) pda_nil)) (hl := h__law_union)))
  (pds_cons (ds_for g po (pdi_rng1 T.f_range (pd_lenV 1 T.f_len)) (pg_var 4 g)
 (pds_one (ds_if (tt_gt (pd_dget 2 g (pd_ix (pd_ixV 1 (pd_var 4)) pd_int)) (pd_ix (pd_ixV 1 (pd_var 4)) pd_int))
 (pds_one (ds_ret (pd_var 4)))
 pds_nil)))
  (pds_one (ds_ret pd_non))))
/-! ### is_word -/
def N_is_word : List Str := ["value", "sign"]
theorem sc_is_word : FnScope N_is_word ["value"] (defScope s_is_word) := ⟨rfl, rfl, rfl, by decide +kernel, rfl, by decide +kernel, by decide +kernel⟩
def ds_is_word : DS :=
 (dSeq (dIf (dOr (dNot (dTest (dUn (fIsTy .str) (dVar 0)))) (dOr (dTest (dBin fLt (dOwnL 0 fLen (dCB fLen (dCons (dVar 0) dNil))) (dC (.int 1)))) (dTest (dBin fGt (dOwnL 0 fLen (dCB fLen (dCons (dVar 0) dNil))) (dC (.int 8))))))
 (dRet (dC (.bl false)))
 dNext)
  (dSeq (dFor (dItems (dVar 0)) (gVar 1)
 (dIf (dTest (dBin (fIn true) (dVar 1) (dC (.str "abcdefghijklmnopqrstuvwxyz"))))
 (dRet (dC (.bl false)))
 dNext))
  (dRet (dC (.bl true)))))
theorem w_is_word {P : Program} {w : World} {K : PySem.W.Frag} {mg : Str → Option Value} {base : Heap} {f : Addr} {fd : FuncData} {k : Nat} {dsp : DSp} (T : Tg K mg) (F : FunD K "is_word" "is_word" (defArgs s_is_word) (defBody s_is_word) (defScope s_is_word) [] [] f fd)
    (hlen : ∀ as Q' Ē, dsp as Q' Ē → as.length = 1) (hd : ∀ as Q' Ē, dsp as Q' Ē → ∃ Ē2 : XD, (∀ e' c fs, Ē2 e' c fs → Ē (retA as e') c fs) ∧ ds_is_word Ē2 { nx := fun e' => Q' .non (retA as e'), rt := fun d e' => Q' d (retA as e') } (as ++ List.replicate (N_is_word.length - as.length) .no)) :
    FnOk P w K mg base (L2N.CX P w) (k + 1) f fd ["value"] (spOfX K mg dsp) := by
  refine fn_okX F sc_is_word hlen (by decide) (fun cdv A outer s H E hr tk po => ?_) hd
  have g : Good (cxOf (L2N.CX P w) P w K mg base N_is_word "is_word" (defScope s_is_word) f cdv A outer s H E) k := ⟨rfl, hr, sc_is_word.nd⟩
  exact (pds_cons (ds_if (PDW.pt (tw_or (tt_not (pt_of (pd_isi .str T.f_isinstance T.f_str (by kernel_rfl) (pd_var 0)))) (tw_or (tt_lt (pd_lenV 0 T.f_len) pd_int) (tw_or1 (tt_gt (pd_lenV 0 T.f_len) (pd_gint T.g_LONGEST))))))
 (pds_one (ds_ret pd_bl))
 pds_nil)
  (pds_cons (ds_for g po (pdi_seq (pd_var 0)) (pg_var 1 g)
 (pds_one (ds_if (tt_nin g.hu65 (pd_var 1) (pd_gstr T.g_LETTERS))
 (pds_one (ds_ret pd_bl))
 pds_nil)))
  (pds_one (ds_ret pd_bl))))
/-! ### check_words -/
def N_check_words : List Str := ["kinds", "at", "word"]
theorem sc_check_words : FnScope N_check_words ["kinds"] (defScope s_check_words) := ⟨rfl, rfl, rfl, by decide +kernel, rfl, by decide +kernel, by decide +kernel⟩
def ds_check_words (c_is_word : DSp) : DS :=
 (dSeq (dIf (dOr (dNot (dTest (dUn (fIsTy2 .tuple .list) (dVar 0)))) (dOr (dTest (dBin fLt (dOwnL 0 fLen (dCB fLen (dCons (dVar 0) dNil))) (dC (.int 1)))) (dTest (dBin fGt (dOwnL 0 fLen (dCB fLen (dCons (dVar 0) dNil))) (dC (.int 4))))))
 (dRaise0 "BadKinds")
 dNext)
  (dFor (dEnum (dVar 0)) (gTupD 2 (gsCons (gVar 1) (gsCons (gVar 2) gsNil)))
 (dIf (dOr (dNot (dTest (dCallX c_is_word (dCons (dVar 2) dNil)))) (dTest (dBin (fIn false) (dVar 2) (dSl (dVar 0) dNoP (dPt (dVar 1))))))
 (dRaise0 "BadKinds")
 dNext)))
theorem w_check_words {P : Program} {w : World} {K : PySem.W.Frag} {mg : Str → Option Value} {base : Heap} {f : Addr} {fd : FuncData} {k : Nat} {dsp : DSp} {c_is_word : DSp} {l_is_word : Nat} (T : Tg K mg) (F : FunD K "check_words" "check_words" (defArgs s_check_words) (defBody s_check_words) (defScope s_check_words) [] [] f fd) (F_is_word : FnX P w K mg base l_is_word "is_word" c_is_word) (h_is_word : l_is_word ≤ k)
    (hlen : ∀ as Q' Ē, dsp as Q' Ē → as.length = 1) (hd : ∀ as Q' Ē, dsp as Q' Ē → ∃ Ē2 : XD, (∀ e' c fs, Ē2 e' c fs → Ē (retA as e') c fs) ∧ ds_check_words c_is_word Ē2 { nx := fun e' => Q' .non (retA as e'), rt := fun d e' => Q' d (retA as e') } (as ++ List.replicate (N_check_words.length - as.length) .no)) :
    FnOk P w K mg base (L2N.CX P w) (k + 1) f fd ["kinds"] (spOfX K mg dsp) := by
  refine fn_okX F sc_check_words hlen (by decide) (fun cdv A outer s H E hr tk po => ?_) hd
  have g : Good (cxOf (L2N.CX P w) P w K mg base N_check_words "check_words" (defScope s_check_words) f cdv A outer s H E) k := ⟨rfl, hr, sc_check_words.nd⟩
  exact (pds_cons (ds_if (PDW.pt (tw_or (tt_not (pt_of (pd_isi2 .tuple .list T.f_isinstance T.f_tuple (by kernel_rfl) T.f_list (by kernel_rfl) (pd_var 0)))) (tw_or (tt_lt (pd_lenV 0 T.f_len) pd_int) (tw_or1 (tt_gt (pd_lenV 0 T.f_len) (pd_gint T.g_KINDS))))))
 (pds_one (ds_raise0 tk g T.xr_BadKinds))
 pds_nil)
  (pds_one (ds_for g po (pdi_enum T.f_enumerate (pd_var 0)) (pgd_tup g (pgd_cons (pg_var 1 g) (pgd_cons (pg_var 2 g) pgd_nil)))
 (pds_one (ds_if (PDW.pt (tw_or (tt_not (pt_of (pd_callX tk F_is_word g (pda_cons (pd_var 2) pda_nil) (hl := h_is_word)))) (tw_or1 (tt_in g.hu65 (pd_var 2) (pd_sl (pd_var 0) po_no (po_pt (pd_var 1)))))))
 (pds_one (ds_raise0 tk g T.xr_BadKinds))
 pds_nil)))))
/-! ### is_whole_row -/
def N_is_whole_row : List Str := ["value", "length", "high", "number"]
theorem sc_is_whole_row : FnScope N_is_whole_row ["value", "length", "high"] (defScope s_is_whole_row) := ⟨rfl, rfl, rfl, by decide +kernel, rfl, by decide +kernel, by decide +kernel⟩
def ds_is_whole_row : DS :=
 (dSeq (dIf (dOr (dNot (dTest (dUn (fIsTy .tuple) (dVar 0)))) (dTest (dBin fNe (dOwnL 0 fLen (dCB fLen (dCons (dVar 0) dNil))) (dVar 1))))
 (dRet (dC (.bl false)))
 dNext)
  (dSeq (dFor (dItems (dVar 0)) (gVar 3)
 (dIf (dOr (dNot (dTest (dUn (fIsTy .int) (dVar 3)))) (dOr (dTest (dUn (fIsTy .bool) (dVar 3))) (dOr (dTest (dBin fLt (dVar 3) (dC (.int 0)))) (dTest (dBin fGt (dVar 3) (dVar 2))))))
 (dRet (dC (.bl false)))
 dNext))
  (dRet (dC (.bl true)))))
theorem w_is_whole_row {P : Program} {w : World} {K : PySem.W.Frag} {mg : Str → Option Value} {base : Heap} {f : Addr} {fd : FuncData} {k : Nat} {dsp : DSp} (T : Tg K mg) (F : FunD K "is_whole_row" "is_whole_row" (defArgs s_is_whole_row) (defBody s_is_whole_row) (defScope s_is_whole_row) [] [] f fd)
    (hlen : ∀ as Q' Ē, dsp as Q' Ē → as.length = 3) (hd : ∀ as Q' Ē, dsp as Q' Ē → ∃ Ē2 : XD, (∀ e' c fs, Ē2 e' c fs → Ē (retA as e') c fs) ∧ ds_is_whole_row Ē2 { nx := fun e' => Q' .non (retA as e'), rt := fun d e' => Q' d (retA as e') } (as ++ List.replicate (N_is_whole_row.length - as.length) .no)) :
    FnOk P w K mg base (L2N.CX P w) (k + 1) f fd ["value", "length", "high"] (spOfX K mg dsp) := by
  refine fn_okX F sc_is_whole_row hlen (by decide) (fun cdv A outer s H E hr tk po => ?_) hd
  have g : Good (cxOf (L2N.CX P w) P w K mg base N_is_whole_row "is_whole_row" (defScope s_is_whole_row) f cdv A outer s H E) k := ⟨rfl, hr, sc_is_whole_row.nd⟩
  exact (pds_cons (ds_if (PDW.pt (tw_or (tt_not (pt_of (pd_isi .tuple T.f_isinstance T.f_tuple (by kernel_rfl) (pd_var 0)))) (tw_or1 (tt_ne g (pd_lenV 0 T.f_len) (pd_var 1)))))
 (pds_one (ds_ret pd_bl))
 pds_nil)
  (pds_cons (ds_for g po (pdi_seq (pd_var 0)) (pg_var 3 g)
 (pds_one (ds_if (PDW.pt (tw_or (tt_not (pt_of (pd_isi .int T.f_isinstance T.f_int (by kernel_rfl) (pd_var 3)))) (tw_or (pt_of (pd_isi .bool T.f_isinstance T.f_bool (by kernel_rfl) (pd_var 3))) (tw_or (tt_lt (pd_var 3) pd_int) (tw_or1 (tt_gt (pd_var 3) (pd_var 2)))))))
 (pds_one (ds_ret pd_bl))
 pds_nil)))
  (pds_one (ds_ret pd_bl))))
/-! ### is_whole -/
def N_is_whole : List Str := ["value"]
theorem sc_is_whole : FnScope N_is_whole ["value"] (defScope s_is_whole) := ⟨rfl, rfl, rfl, by decide +kernel, rfl, by decide +kernel, by decide +kernel⟩
def ds_is_whole : DS :=
 (dRet (dAndV (dUn (fIsTy .int) (dVar 0)) (dNotV (dUn (fIsTy .bool) (dVar 0)))))
theorem w_is_whole {P : Program} {w : World} {K : PySem.W.Frag} {mg : Str → Option Value} {base : Heap} {f : Addr} {fd : FuncData} {k : Nat} {dsp : DSp} (T : Tg K mg) (F : FunD K "is_whole" "is_whole" (defArgs s_is_whole) (defBody s_is_whole) (defScope s_is_whole) [] [] f fd)
    (hlen : ∀ as Q' Ē, dsp as Q' Ē → as.length = 1) (hd : ∀ as Q' Ē, dsp as Q' Ē → ∃ Ē2 : XD, (∀ e' c fs, Ē2 e' c fs → Ē (retA as e') c fs) ∧ ds_is_whole Ē2 { nx := fun e' => Q' .non (retA as e'), rt := fun d e' => Q' d (retA as e') } (as ++ List.replicate (N_is_whole.length - as.length) .no)) :
    FnOk P w K mg base (L2N.CX P w) (k + 1) f fd ["value"] (spOfX K mg dsp) := by
  refine fn_okX F sc_is_whole hlen (by decide) (fun cdv A outer s H E hr tk po => ?_) hd
  have g : Good (cxOf (L2N.CX P w) P w K mg base N_is_whole "is_whole" (defScope s_is_whole) f cdv A outer s H E) k := ⟨rfl, hr, sc_is_whole.nd⟩
  exact (pds_one (ds_ret (pd_and (pd_isi .int T.f_isinstance T.f_int (by kernel_rfl) (pd_var 0)) (pd_one (pd_not (pd_isi .bool T.f_isinstance T.f_bool (by kernel_rfl) (pd_var 0)))))))
/-! ### is_whole_in -/
def N_is_whole_in : List Str := ["value", "low", "high"]
theorem sc_is_whole_in : FnScope N_is_whole_in ["value", "low", "high"] (defScope s_is_whole_in) := ⟨rfl, rfl, rfl, by decide +kernel, rfl, by decide +kernel, by decide +kernel⟩
def ds_is_whole_in (c_is_whole : DSp) : DS :=
 (dRet (dAndV (dCallX c_is_whole (dCons (dVar 0) dNil)) (dChain fLe fLe (dVar 1) (dVar 0) (dVar 2))))
theorem w_is_whole_in {P : Program} {w : World} {K : PySem.W.Frag} {mg : Str → Option Value} {base : Heap} {f : Addr} {fd : FuncData} {k : Nat} {dsp : DSp} {c_is_whole : DSp} {l_is_whole : Nat} (T : Tg K mg) (F : FunD K "is_whole_in" "is_whole_in" (defArgs s_is_whole_in) (defBody s_is_whole_in) (defScope s_is_whole_in) [] [] f fd) (F_is_whole : FnX P w K mg base l_is_whole "is_whole" c_is_whole) (h_is_whole : l_is_whole ≤ k)
    (hlen : ∀ as Q' Ē, dsp as Q' Ē → as.length = 3) (hd : ∀ as Q' Ē, dsp as Q' Ē → ∃ Ē2 : XD, (∀ e' c fs, Ē2 e' c fs → Ē (retA as e') c fs) ∧ ds_is_whole_in c_is_whole Ē2 { nx := fun e' => Q' .non (retA as e'), rt := fun d e' => Q' d (retA as e') } (as ++ List.replicate (N_is_whole_in.length - as.length) .no)) :
    FnOk P w K mg base (L2N.CX P w) (k + 1) f fd ["value", "low", "high"] (spOfX K mg dsp) := by
  refine fn_okX F sc_is_whole_in hlen (by decide) (fun cdv A outer s H E hr tk po => ?_) hd
  have g : Good (cxOf (L2N.CX P w) P w K mg base N_is_whole_in "is_whole_in" (defScope s_is_whole_in) f cdv A outer s H E) k := ⟨rfl, hr, sc_is_whole_in.nd⟩
  exact (pds_one (ds_ret (pd_and (pd_callX tk F_is_whole g (pda_cons (pd_var 0) pda_nil) (hl := h_is_whole)) (pd_one (pd_lele (pd_var 1) (pd_var 0) (pd_var 2))))))
/-! ### is_offer -/
def N_is_offer : List Str := ["value", "many_kinds"]
theorem sc_is_offer : FnScope N_is_offer ["value", "many_kinds"] (defScope s_is_offer) := ⟨rfl, rfl, rfl, by decide +kernel, rfl, by decide +kernel, by decide +kernel⟩
def ds_is_offer (c_is_whole_row : DSp) (c_is_whole_in : DSp) : DS :=
 (dSeq (dIf (dOr (dNot (dTest (dUn (fIsTy .tuple) (dVar 0)))) (dTest (dBin fNe (dOwnL 0 fLen (dCB fLen (dCons (dVar 0) dNil))) (dC (.int 2)))))
 (dRet (dC (.bl false)))
 dNext)
  (dSeq (dIf (dNot (dTest (dCallX c_is_whole_row (dCons (dIxV 0 (dC (.int 0))) (dCons (dVar 1) (dCons (dC (.int 8)) dNil))))))
 (dRet (dC (.bl false)))
 dNext)
  (dRet (dAndV (dChain fLe fLe (dC (.int 1)) (dCB fSum (dCons (dIxV 0 (dC (.int 0))) dNil)) (dC (.int 8))) (dCallX c_is_whole_in (dCons (dIxV 0 (dC (.int 1))) (dCons (dC (.int 0)) (dCons (dC (.int 1000000000000)) dNil))))))))
theorem w_is_offer {P : Program} {w : World} {K : PySem.W.Frag} {mg : Str → Option Value} {base : Heap} {f : Addr} {fd : FuncData} {k : Nat} {dsp : DSp} {c_is_whole_row : DSp} {c_is_whole_in : DSp} {l_is_whole_row l_is_whole_in : Nat} (T : Tg K mg) (F : FunD K "is_offer" "is_offer" (defArgs s_is_offer) (defBody s_is_offer) (defScope s_is_offer) [] [] f fd) (F_is_whole_row : FnX P w K mg base l_is_whole_row "is_whole_row" c_is_whole_row) (h_is_whole_row : l_is_whole_row ≤ k) (F_is_whole_in : FnX P w K mg base l_is_whole_in "is_whole_in" c_is_whole_in) (h_is_whole_in : l_is_whole_in ≤ k)
    (hlen : ∀ as Q' Ē, dsp as Q' Ē → as.length = 2) (hd : ∀ as Q' Ē, dsp as Q' Ē → ∃ Ē2 : XD, (∀ e' c fs, Ē2 e' c fs → Ē (retA as e') c fs) ∧ ds_is_offer c_is_whole_row c_is_whole_in Ē2 { nx := fun e' => Q' .non (retA as e'), rt := fun d e' => Q' d (retA as e') } (as ++ List.replicate (N_is_offer.length - as.length) .no)) :
    FnOk P w K mg base (L2N.CX P w) (k + 1) f fd ["value", "many_kinds"] (spOfX K mg dsp) := by
  refine fn_okX F sc_is_offer hlen (by decide) (fun cdv A outer s H E hr tk po => ?_) hd
  have g : Good (cxOf (L2N.CX P w) P w K mg base N_is_offer "is_offer" (defScope s_is_offer) f cdv A outer s H E) k := ⟨rfl, hr, sc_is_offer.nd⟩
  exact (pds_cons (ds_if (PDW.pt (tw_or (tt_not (pt_of (pd_isi .tuple T.f_isinstance T.f_tuple (by kernel_rfl) (pd_var 0)))) (tw_or1 (tt_ne g (pd_lenV 0 T.f_len) pd_int))))
 (pds_one (ds_ret pd_bl))
 pds_nil)
  (pds_cons (ds_if (tt_not (pt_of (pd_callX tk F_is_whole_row g (pda_cons (pd_ixV 0 pd_int) (pda_cons (pd_var 1) (pda_cons (pd_gint T.g_PIECES) pda_nil))) (hl := h_is_whole_row))))
 (pds_one (ds_ret pd_bl))
 pds_nil)
  (pds_one (ds_ret (pd_and (pd_lele pd_int (pd_sum g T.f_sum (pd_ixV 0 pd_int)) (pd_gint T.g_PIECES)) (pd_one (pd_callX tk F_is_whole_in g (pda_cons (pd_ixV 0 pd_int) (pda_cons pd_int (pda_cons (pd_gint T.g_TOP) pda_nil))) (hl := h_is_whole_in))))))))
/-! ### check_offers -/
def N_check_offers : List Str := ["offers", "many_kinds", "place", "offer"]
theorem sc_check_offers : FnScope N_check_offers ["offers", "many_kinds"] (defScope s_check_offers) := ⟨rfl, rfl, rfl, by decide +kernel, rfl, by decide +kernel, by decide +kernel⟩
def ds_check_offers (c_is_offer : DSp) : DS :=
 (dSeq (dIf (dNot (dTest (dUn (fIsTy2 .tuple .list) (dVar 0))))
 dNever
 dNext)
  (dSeq (dIf (dTest (dBin fGt (dOwnL 0 fLen (dCB fLen (dCons (dVar 0) dNil))) (dC (.int 10))))
 dNever
 dNext)
  (dFor (dEnum (dVar 0)) (gTupD 2 (gsCons (gVar 2) (gsCons (gVar 3) gsNil)))
 (dIf (dNot (dTest (dCallX c_is_offer (dCons (dVar 3) (dCons (dVar 1) dNil)))))
 dNever
 dNext))))
theorem w_check_offers {P : Program} {w : World} {K : PySem.W.Frag} {mg : Str → Option Value} {base : Heap} {f : Addr} {fd : FuncData} {k : Nat} {dsp : DSp} {c_is_offer : DSp} {l_is_offer : Nat} (T : Tg K mg) (F : FunD K "check_offers" "check_offers" (defArgs s_check_offers) (defBody s_check_offers) (defScope s_check_offers) [] [] f fd) (F_is_offer : FnX P w K mg base l_is_offer "is_offer" c_is_offer) (h_is_offer : l_is_offer ≤ k)
    (hlen : ∀ as Q' Ē, dsp as Q' Ē → as.length = 2) (hd : ∀ as Q' Ē, dsp as Q' Ē → ∃ Ē2 : XD, (∀ e' c fs, Ē2 e' c fs → Ē (retA as e') c fs) ∧ ds_check_offers c_is_offer Ē2 { nx := fun e' => Q' .non (retA as e'), rt := fun d e' => Q' d (retA as e') } (as ++ List.replicate (N_check_offers.length - as.length) .no)) :
    FnOk P w K mg base (L2N.CX P w) (k + 1) f fd ["offers", "many_kinds"] (spOfX K mg dsp) := by
  refine fn_okX F sc_check_offers hlen (by decide) (fun cdv A outer s H E hr tk po => ?_) hd
  have g : Good (cxOf (L2N.CX P w) P w K mg base N_check_offers "check_offers" (defScope s_check_offers) f cdv A outer s H E) k := ⟨rfl, hr, sc_check_offers.nd⟩
  exact (pds_cons (ds_if (tt_not (pt_of (pd_isi2 .tuple .list T.f_isinstance T.f_tuple (by kernel_rfl) T.f_list (by kernel_rfl) (pd_var 0))))
 (pds_one ds_never)
 pds_nil)
  (pds_cons (ds_if (tt_gt (pd_lenV 0 T.f_len) (pd_gint T.g_OFFERS))
 (pds_one ds_never)
 pds_nil)
  (pds_one (ds_for g po (pdi_enum T.f_enumerate (pd_var 0)) (pgd_tup g (pgd_cons (pg_var 2 g) (pgd_cons (pg_var 3 g) pgd_nil)))
 (pds_one (ds_if (tt_not (pt_of (pd_callX tk F_is_offer g (pda_cons (pd_var 3) (pda_cons (pd_var 1) pda_nil)) (hl := h_is_offer))))
 (pds_one ds_never)
 pds_nil))))))
/-! ### unit -/
def N_unit : List Str := ["many_kinds", "kind", "at"]
theorem sc_unit : FnScope N_unit ["many_kinds", "kind"] (defScope s_unit) := ⟨rfl, rfl, rfl, by decide +kernel, rfl, by decide +kernel, by decide +kernel⟩
def ds_unit : DS :=
 (dRet (dCB fTuple (dCons (dFrz (dLc (dRange1 (dVar 0)) (gVar 2) dYes (dIfE (dTest (dBin fEq (dVar 2) (dVar 1))) (dC (.int 1)) (dC (.int 0))) [2])) dNil)))
theorem w_unit {P : Program} {w : World} {K : PySem.W.Frag} {mg : Str → Option Value} {base : Heap} {f : Addr} {fd : FuncData} {k : Nat} {dsp : DSp} (T : Tg K mg) (F : FunD K "unit" "unit" (defArgs s_unit) (defBody s_unit) (defScope s_unit) [] [] f fd)
    (hlen : ∀ as Q' Ē, dsp as Q' Ē → as.length = 2) (hd : ∀ as Q' Ē, dsp as Q' Ē → ∃ Ē2 : XD, (∀ e' c fs, Ē2 e' c fs → Ē (retA as e') c fs) ∧ ds_unit Ē2 { nx := fun e' => Q' .non (retA as e'), rt := fun d e' => Q' d (retA as e') } (as ++ List.replicate (N_unit.length - as.length) .no)) :
    FnOk P w K mg base (L2N.CX P w) (k + 1) f fd ["many_kinds", "kind"] (spOfX K mg dsp) := by
  refine fn_okX F sc_unit hlen (by decide) (fun cdv A outer s H E hr tk po => ?_) hd
  have g : Good (cxOf (L2N.CX P w) P w K mg base N_unit "unit" (defScope s_unit) f cdv A outer s H E) k := ⟨rfl, hr, sc_unit.nd⟩
  exact (pds_one (ds_ret (pd_tuple T.f_tuple (pd_frz (pn_lc (E2 := EZ) [("at", 2)] g (pdi_rng1 T.f_range (pd_var 0)) (pg_var 2 g) tts_nil (pd_ifE (tt_eq g (pd_var 2) (pd_var 1)) pd_int pd_int))))))
/-! ### check_singles -/
def N_check_singles : List Str := ["offers", "many_kinds", "bundles", "offer", "kind"]
theorem sc_check_singles : FnScope N_check_singles ["offers", "many_kinds"] (defScope s_check_singles) := ⟨rfl, rfl, rfl, by decide +kernel, rfl, by decide +kernel, by decide +kernel⟩
def ds_check_singles (c_unit : DSp) : DS :=
 (dSeq (dAsgN 2 (dLc (dItems (dVar 0)) (gVar 3) dYes (dIxV 3 (dC (.int 0))) [3]))
  (dFor (dRange1 (dVar 1)) (gVar 4)
 (dIf (dTest (dBin (fIn true) (dCallX c_unit (dCons (dVar 1) (dCons (dVar 4) dNil))) (dVar 2)))
 dNever
 dNext)))
theorem w_check_singles {P : Program} {w : World} {K : PySem.W.Frag} {mg : Str → Option Value} {base : Heap} {f : Addr} {fd : FuncData} {k : Nat} {dsp : DSp} {c_unit : DSp} {l_unit : Nat} (T : Tg K mg) (F : FunD K "check_singles" "check_singles" (defArgs s_check_singles) (defBody s_check_singles) (defScope s_check_singles) [] [] f fd) (F_unit : FnX P w K mg base l_unit "unit" c_unit) (h_unit : l_unit ≤ k)
    (hlen : ∀ as Q' Ē, dsp as Q' Ē → as.length = 2) (hd : ∀ as Q' Ē, dsp as Q' Ē → ∃ Ē2 : XD, (∀ e' c fs, Ē2 e' c fs → Ē (retA as e') c fs) ∧ ds_check_singles c_unit Ē2 { nx := fun e' => Q' .non (retA as e'), rt := fun d e' => Q' d (retA as e') } (as ++ List.replicate (N_check_singles.length - as.length) .no)) :
    FnOk P w K mg base (L2N.CX P w) (k + 1) f fd ["offers", "many_kinds"] (spOfX K mg dsp) := by
  refine fn_okX F sc_check_singles hlen (by decide) (fun cdv A outer s H E hr tk po => ?_) hd
  have g : Good (cxOf (L2N.CX P w) P w K mg base N_check_singles "check_singles" (defScope s_check_singles) f cdv A outer s H E) k := ⟨rfl, hr, sc_check_singles.nd⟩
  exact (pds_cons (ds_setLc (E2 := EZ) 2 [("offer", 3)] g (pdi_seq (pd_var 0)) (pg_var 3 g) tts_nil (pd_ixV 3 pd_int))
  (pds_one (ds_for g po (pdi_rng1 T.f_range (pd_var 1)) (pg_var 4 g)
 (pds_one (ds_if (tt_nin g.hu65 (pd_callX tk F_unit g (pda_cons (pd_var 1) (pda_cons (pd_var 4) pda_nil)) (hl := h_unit)) (pd_var 2))
 (pds_one ds_never)
 pds_nil)))))
/-! ### Book_init -/
def N_Book_init : List Str := ["self", "kinds", "offers", "offer"]
theorem sc_Book_init : FnScope N_Book_init ["self", "kinds", "offers"] (defScope s_Book_init) := ⟨rfl, rfl, rfl, by decide +kernel, rfl, by decide +kernel, by decide +kernel⟩
def ds_Book_init (c_check_words : DSp) (c_check_offers : DSp) (c_check_singles : DSp) : DS :=
 (dSeq (dDrop (dCallX c_check_words (dCons (dVar 1) dNil)))
  (dSeq (dDrop (dCallX c_check_offers (dCons (dVar 2) (dCons (dOwnL 1 fLen (dCB fLen (dCons (dVar 1) dNil))) dNil))))
  (dSeq (dDrop (dCallX c_check_singles (dCons (dVar 2) (dCons (dOwnL 1 fLen (dCB fLen (dCons (dVar 1) dNil))) dNil))))
  (dSeq (dSetFld 0 ["Book"] "kinds" (dCB fTuple (dCons (dVar 1) dNil)))
  (dSeq (dSetFld 0 ["Book"] "offers" (dCB fTuple (dCons (dVar 2) dNil)))
  (dSeq (dSetFld 0 ["Book"] "bundle_row" (dCB fTuple (dCons (dFrz (dLc (dItems (dVar 2)) (gVar 3) dYes (dIxV 3 (dC (.int 0))) [3])) dNil)))
  (dSetFld 0 ["Book"] "price_row" (dCB fTuple (dCons (dFrz (dLc (dItems (dVar 2)) (gVar 3) dYes (dIxV 3 (dC (.int 1))) [3])) dNil)))))))))
theorem w_Book_init {P : Program} {w : World} {K : PySem.W.Frag} {mg : Str → Option Value} {base : Heap} {f : Addr} {fd : FuncData} {k : Nat} {dsp : DSp} {c_check_words : DSp} {c_check_offers : DSp} {c_check_singles : DSp} {l_check_words l_check_offers l_check_singles : Nat} (T : Tg K mg) (F : FunD K "__init__" "Book.__init__" (defArgs s_Book_init) (defBody s_Book_init) (defScope s_Book_init) [] [] f fd) (F_check_words : FnX P w K mg base l_check_words "check_words" c_check_words) (h_check_words : l_check_words ≤ k) (F_check_offers : FnX P w K mg base l_check_offers "check_offers" c_check_offers) (h_check_offers : l_check_offers ≤ k) (F_check_singles : FnX P w K mg base l_check_singles "check_singles" c_check_singles) (h_check_singles : l_check_singles ≤ k)
    (hlen : ∀ as Q' Ē, dsp as Q' Ē → as.length = 3) (hd : ∀ as Q' Ē, dsp as Q' Ē → ∃ Ē2 : XD, (∀ e' c fs, Ē2 e' c fs → Ē (retA as e') c fs) ∧ ds_Book_init c_check_words c_check_offers c_check_singles Ē2 { nx := fun e' => Q' .non (retA as e'), rt := fun d e' => Q' d (retA as e') } (as ++ List.replicate (N_Book_init.length - as.length) .no)) :
    FnOk P w K mg base (L2N.CX P w) (k + 1) f fd ["self", "kinds", "offers"] (spOfX K mg dsp) := by
  refine fn_okX F sc_Book_init hlen (by decide) (fun cdv A outer s H E hr tk po => ?_) hd
  have g : Good (cxOf (L2N.CX P w) P w K mg base N_Book_init "Book.__init__" (defScope s_Book_init) f cdv A outer s H E) k := ⟨rfl, hr, sc_Book_init.nd⟩
  exact (pds_cons (ds_expr (pd_callX tk F_check_words g (pda_cons (pd_var 1) pda_nil) (hl := h_check_words)))
  (pds_cons (ds_expr (pd_callX tk F_check_offers g (pda_cons (pd_var 2) (pda_cons (pd_lenV 1 T.f_len) pda_nil)) (hl := h_check_offers)))
  (pds_cons (ds_expr (pd_callX tk F_check_singles g (pda_cons (pd_var 2) (pda_cons (pd_lenV 1 T.f_len) pda_nil)) (hl := h_check_singles)))
  (pds_cons (ds_setFld 0 ["Book"] T.a_kinds (pd_tuple T.f_tuple (pd_var 1)))
  (pds_cons (ds_setFld 0 ["Book"] T.a_offers (pd_tuple T.f_tuple (pd_var 2)))
  (pds_cons (ds_setFld 0 ["Book"] T.a_bundle_row (pd_tuple T.f_tuple (pd_frz (pn_lc (E2 := EZ) [("offer", 3)] g (pdi_seq (pd_var 2)) (pg_var 3 g) tts_nil (pd_ixV 3 pd_int)))))
  (pds_one (ds_setFld 0 ["Book"] T.a_price_row (pd_tuple T.f_tuple (pd_frz (pn_lc (E2 := EZ) [("offer", 3)] g (pdi_seq (pd_var 2)) (pg_var 3 g) tts_nil (pd_ixV 3 pd_int))))))))))))
/-! ### _law_made -/
def N__law_made : List Str := ["words", "offers", "kinds", "rows", "book"]
theorem sc__law_made : FnScope N__law_made ["words", "offers"] (defScope s__law_made) := ⟨rfl, rfl, rfl, by decide +kernel, rfl, by decide +kernel, by decide +kernel⟩
def ds__law_made (c_Book_init : DSp) : DS :=
 (dSeq (dAsgN 2 (dListV 0))
  (dSeq (dAsgN 3 (dListV 1))
  (dSeq (dAsg 4 (dBor 3 (dBor 2 (dMakeX "Book" c_Book_init (dCons (dVar 2) (dCons (dVar 3) dNil))))))
  (dSeq (dDrop (dMth 2 mAppend (dCons (dC (.str "spoilt")) dNil)))
  (dSeq (dDrop (dMth 3 mClear dNil))
  (dRet (dVar 4)))))))
theorem w__law_made {P : Program} {w : World} {K : PySem.W.Frag} {mg : Str → Option Value} {base : Heap} {f : Addr} {fd : FuncData} {k : Nat} {dsp : DSp} {c_Book_init : DSp} {l_Book_init : Nat} (T : Tg K mg) (F : FunD K "_law_made" "_law_made" (defArgs s__law_made) (defBody s__law_made) (defScope s__law_made) [] [] f fd) (F_Book_init : FnXM P w K mg base l_Book_init "Book" "__init__" c_Book_init) (h_Book_init : l_Book_init < k)
    (hlen : ∀ as Q' Ē, dsp as Q' Ē → as.length = 2) (hd : ∀ as Q' Ē, dsp as Q' Ē → ∃ Ē2 : XD, (∀ e' c fs, Ē2 e' c fs → Ē (retA as e') c fs) ∧ ds__law_made c_Book_init Ē2 { nx := fun e' => Q' .non (retA as e'), rt := fun d e' => Q' d (retA as e') } (as ++ List.replicate (N__law_made.length - as.length) .no)) :
    FnOk P w K mg base (L2N.CX P w) (k + 1) f fd ["words", "offers"] (spOfX K mg dsp) := by
  refine fn_okX F sc__law_made hlen (by decide) (fun cdv A outer s H E hr tk po => ?_) hd
  have g : Good (cxOf (L2N.CX P w) P w K mg base N__law_made "_law_made" (defScope s__law_made) f cdv A outer s H E) k := ⟨rfl, hr, sc__law_made.nd⟩
  exact (pds_cons (ds_asgN 2 g (pn_listV 0 T.f_list))
  (pds_cons (ds_asgN 3 g (pn_listV 1 T.f_list))
  (pds_cons (ds_asg 4 g (pd_bor 3 (pd_bor 2 (pd_makeX (k := k - 1) tk F_Book_init (g.mono (by omega)) (pda_cons (pd_var 2) (pda_cons (pd_var 3) pda_nil)) (hl := (by omega))))))
  (pds_cons (ds_expr (pd_mth 2 PySem.F.plainAttrs_list PySem.F.slot_list_append PySem.F.type_list_append (fun _ => mt_append) lm_append (pda_cons pd_str pda_nil)))
  (pds_cons (ds_expr (pd_mth0 3 PySem.F.plainAttrs_list PySem.F.slot_list_clear PySem.F.type_list_clear (fun _ => mt_clear) lm_clear))
  (pds_one (ds_ret (pd_var 4))))))))
/-! ### _law_alike -/
def N__law_alike : List Str := ["answer", "due", "k"]
theorem sc__law_alike : FnScope N__law_alike ["answer", "due"] (defScope s__law_alike) := ⟨rfl, rfl, rfl, by decide +kernel, rfl, by decide +kernel, by decide +kernel⟩
def ds__law_alike (c__law_alike : DSp) : DS :=
 (dSeq (dIf (dOr (dTest (dBin fNe (dUn (fIsTy .tuple) (dVar 1)) (dUn (fIsTy .tuple) (dVar 0)))) (dTest (dBin fNe (dUn (fIsTy .list) (dVar 1)) (dUn (fIsTy .list) (dVar 0)))))
 (dRet (dC (.bl false)))
 dNext)
  (dSeq (dIf (dTest (dUn (fIsTy2 .tuple .list) (dVar 1)))
 (dRet (dAndV (dBin fEq (dOwnL 0 fLen (dCB fLen (dCons (dVar 0) dNil))) (dOwnL 1 fLen (dCB fLen (dCons (dVar 1) dNil)))) (dCB fAll (dCons (dFrz (dLc (dRange1 (dOwnL 1 fLen (dCB fLen (dCons (dVar 1) dNil)))) (gVar 2) dYes (dCallX c__law_alike (dCons (dIxV 0 (dVar 2)) (dCons (dIxV 1 (dVar 2)) dNil))) [2])) dNil))))
 dNext)
  (dSeq (dIf (dOr (dTest (fIsN (dVar 1))) (dOr (dTest (fIsN (dVar 0))) (dTest (dBin fNe (dUn (fIsTy .bool) (dVar 1)) (dUn (fIsTy .bool) (dVar 0))))))
 (dRet (dAndV (fIsN (dVar 1)) (fIsN (dVar 0))))
 dNext)
  (dSeq (dIf (dOr (dTest (dBin fNe (dUn (fIsTy .int) (dVar 1)) (dUn (fIsTy .int) (dVar 0)))) (dTest (dBin fNe (dUn (fIsTy .str) (dVar 1)) (dUn (fIsTy .str) (dVar 0)))))
 (dRet (dC (.bl false)))
 dNext)
  (dRet (dBin fEq (dVar 0) (dVar 1)))))))
theorem w__law_alike {P : Program} {w : World} {K : PySem.W.Frag} {mg : Str → Option Value} {base : Heap} {f : Addr} {fd : FuncData} {k : Nat} {dsp : DSp} {c__law_alike : DSp} {l__law_alike : Nat} (T : Tg K mg) (F : FunD K "_law_alike" "_law_alike" (defArgs s__law_alike) (defBody s__law_alike) (defScope s__law_alike) [] [] f fd) (F__law_alike : FnX P w K mg base l__law_alike "_law_alike" c__law_alike) (h__law_alike : l__law_alike ≤ k)
    (hlen : ∀ as Q' Ē, dsp as Q' Ē → as.length = 2) (hd : ∀ as Q' Ē, dsp as Q' Ē → ∃ Ē2 : XD, (∀ e' c fs, Ē2 e' c fs → Ē (retA as e') c fs) ∧ ds__law_alike c__law_alike Ē2 { nx := fun e' => Q' .non (retA as e'), rt := fun d e' => Q' d (retA as e') } (as ++ List.replicate (N__law_alike.length - as.length) .no)) :
    FnOk P w K mg base (L2N.CX P w) (k + 1) f fd ["answer", "due"] (spOfX K mg dsp) := by
  refine fn_okX F sc__law_alike hlen (by decide) (fun cdv A outer s H E hr tk po => ?_) hd
  have g : Good (cxOf (L2N.CX P w) P w K mg base N__law_alike "_law_alike" (defScope s__law_alike) f cdv A outer s H E) k := ⟨rfl, hr, sc__law_alike.nd⟩
  exact (pds_cons (ds_if (PDW.pt (tw_or (tt_ne g (pd_isi .tuple T.f_isinstance T.f_tuple (by kernel_rfl) (pd_var 1)) (pd_isi .tuple T.f_isinstance T.f_tuple (by kernel_rfl) (pd_var 0))) (tw_or1 (tt_ne g (pd_isi .list T.f_isinstance T.f_list (by kernel_rfl) (pd_var 1)) (pd_isi .list T.f_isinstance T.f_list (by kernel_rfl) (pd_var 0))))))
 (pds_one (ds_ret pd_bl))
 pds_nil)
  (pds_cons (ds_if (pt_of (pd_isi2 .tuple .list T.f_isinstance T.f_tuple (by kernel_rfl) T.f_list (by kernel_rfl) (pd_var 1)))
 (pds_one (ds_ret (pd_and (pd_eq g (pd_lenV 0 T.f_len) (pd_lenV 1 T.f_len)) (pd_one (pd_all g T.f_all (pd_frz (pn_lc (E2 := EZ) [("k", 2)] g (pdi_rng1 T.f_range (pd_lenV 1 T.f_len)) (pg_var 2 g) tts_nil (pd_callX tkZ F__law_alike g (pda_cons (pd_ixV 0 (pd_var 2)) (pda_cons (pd_ixV 1 (pd_var 2)) pda_nil)) (hl := h__law_alike)))))))))
 pds_nil)
  (pds_cons (ds_if (PDW.pt (tw_or (tt_isN (pd_var 1)) (tw_or (tt_isN (pd_var 0)) (tw_or1 (tt_ne g (pd_isi .bool T.f_isinstance T.f_bool (by kernel_rfl) (pd_var 1)) (pd_isi .bool T.f_isinstance T.f_bool (by kernel_rfl) (pd_var 0)))))))
 (pds_one (ds_ret (pd_and (pd_isN (pd_var 1)) (pd_one (pd_isN (pd_var 0))))))
 pds_nil)
  (pds_cons (ds_if (PDW.pt (tw_or (tt_ne g (pd_isi .int T.f_isinstance T.f_int (by kernel_rfl) (pd_var 1)) (pd_isi .int T.f_isinstance T.f_int (by kernel_rfl) (pd_var 0))) (tw_or1 (tt_ne g (pd_isi .str T.f_isinstance T.f_str (by kernel_rfl) (pd_var 1)) (pd_isi .str T.f_isinstance T.f_str (by kernel_rfl) (pd_var 0))))))
 (pds_one (ds_ret pd_bl))
 pds_nil)
  (pds_one (ds_ret (pd_eq g (pd_var 0) (pd_var 1))))))))
/-! ### check_basket -/
def N_check_basket : List Str := ["book", "x"]
theorem sc_check_basket : FnScope N_check_basket ["book", "x"] (defScope s_check_basket) := ⟨rfl, rfl, rfl, by decide +kernel, rfl, by decide +kernel, by decide +kernel⟩
def ds_check_basket (c_is_whole_row : DSp) : DS :=
 (dIf (dNot (dTest (dCallX c_is_whole_row (dCons (dVar 1) (dCons (dCB fLen (dCons (dFldO 0 ["Book"] "kinds") dNil)) (dCons (dC (.int 1000000000000)) dNil))))))
 (dRaise0 "BadBasket")
 dNext)
theorem w_check_basket {P : Program} {w : World} {K : PySem.W.Frag} {mg : Str → Option Value} {base : Heap} {f : Addr} {fd : FuncData} {k : Nat} {dsp : DSp} {c_is_whole_row : DSp} {l_is_whole_row : Nat} (T : Tg K mg) (F : FunD K "check_basket" "check_basket" (defArgs s_check_basket) (defBody s_check_basket) (defScope s_check_basket) [] [] f fd) (F_is_whole_row : FnX P w K mg base l_is_whole_row "is_whole_row" c_is_whole_row) (h_is_whole_row : l_is_whole_row ≤ k)
    (hlen : ∀ as Q' Ē, dsp as Q' Ē → as.length = 2) (hd : ∀ as Q' Ē, dsp as Q' Ē → ∃ Ē2 : XD, (∀ e' c fs, Ē2 e' c fs → Ē (retA as e') c fs) ∧ ds_check_basket c_is_whole_row Ē2 { nx := fun e' => Q' .non (retA as e'), rt := fun d e' => Q' d (retA as e') } (as ++ List.replicate (N_check_basket.length - as.length) .no)) :
    FnOk P w K mg base (L2N.CX P w) (k + 1) f fd ["book", "x"] (spOfX K mg dsp) := by
  refine fn_okX F sc_check_basket hlen (by decide) (fun cdv A outer s H E hr tk po => ?_) hd
  have g : Good (cxOf (L2N.CX P w) P w K mg base N_check_basket "check_basket" (defScope s_check_basket) f cdv A outer s H E) k := ⟨rfl, hr, sc_check_basket.nd⟩
  exact (pds_one (ds_if (tt_not (pt_of (pd_callX tk F_is_whole_row g (pda_cons (pd_var 1) (pda_cons (pd_len T.f_len (pd_fldO 0 ["Book"] T.a_kinds)) (pda_cons (pd_gint T.g_MANY) pda_nil))) (hl := h_is_whole_row))))
 (pds_one (ds_raise0 tk g T.xr_BadBasket))
 pds_nil))
/-! ### is_basket -/
def N_is_basket : List Str := ["value"]
theorem sc_is_basket : FnScope N_is_basket ["value"] (defScope s_is_basket) := ⟨rfl, rfl, rfl, by decide +kernel, rfl, by decide +kernel, by decide +kernel⟩
def ds_is_basket (c_is_whole_row : DSp) : DS :=
 (dSeq (dIf (dOr (dNot (dTest (dUn (fIsTy .tuple) (dVar 0)))) (dOr (dTest (dBin fLt (dOwnL 0 fLen (dCB fLen (dCons (dVar 0) dNil))) (dC (.int 1)))) (dTest (dBin fGt (dOwnL 0 fLen (dCB fLen (dCons (dVar 0) dNil))) (dC (.int 4))))))
 (dRet (dC (.bl false)))
 dNext)
  (dRet (dCallX c_is_whole_row (dCons (dVar 0) (dCons (dOwnL 0 fLen (dCB fLen (dCons (dVar 0) dNil))) (dCons (dC (.int 1000000000000)) dNil))))))
theorem w_is_basket {P : Program} {w : World} {K : PySem.W.Frag} {mg : Str → Option Value} {base : Heap} {f : Addr} {fd : FuncData} {k : Nat} {dsp : DSp} {c_is_whole_row : DSp} {l_is_whole_row : Nat} (T : Tg K mg) (F : FunD K "is_basket" "is_basket" (defArgs s_is_basket) (defBody s_is_basket) (defScope s_is_basket) [] [] f fd) (F_is_whole_row : FnX P w K mg base l_is_whole_row "is_whole_row" c_is_whole_row) (h_is_whole_row : l_is_whole_row ≤ k)
    (hlen : ∀ as Q' Ē, dsp as Q' Ē → as.length = 1) (hd : ∀ as Q' Ē, dsp as Q' Ē → ∃ Ē2 : XD, (∀ e' c fs, Ē2 e' c fs → Ē (retA as e') c fs) ∧ ds_is_basket c_is_whole_row Ē2 { nx := fun e' => Q' .non (retA as e'), rt := fun d e' => Q' d (retA as e') } (as ++ List.replicate (N_is_basket.length - as.length) .no)) :
    FnOk P w K mg base (L2N.CX P w) (k + 1) f fd ["value"] (spOfX K mg dsp) := by
  refine fn_okX F sc_is_basket hlen (by decide) (fun cdv A outer s H E hr tk po => ?_) hd
  have g : Good (cxOf (L2N.CX P w) P w K mg base N_is_basket "is_basket" (defScope s_is_basket) f cdv A outer s H E) k := ⟨rfl, hr, sc_is_basket.nd⟩
  exact (pds_cons (ds_if (PDW.pt (tw_or (tt_not (pt_of (pd_isi .tuple T.f_isinstance T.f_tuple (by kernel_rfl) (pd_var 0)))) (tw_or (tt_lt (pd_lenV 0 T.f_len) pd_int) (tw_or1 (tt_gt (pd_lenV 0 T.f_len) (pd_gint T.g_KINDS))))))
 (pds_one (ds_ret pd_bl))
 pds_nil)
  (pds_one (ds_ret (pd_callX tk F_is_whole_row g (pda_cons (pd_var 0) (pda_cons (pd_lenV 0 T.f_len) (pda_cons (pd_gint T.g_MANY) pda_nil))) (hl := h_is_whole_row)))))
/-! ### check_one -/
def N_check_one : List Str := ["x"]
theorem sc_check_one : FnScope N_check_one ["x"] (defScope s_check_one) := ⟨rfl, rfl, rfl, by decide +kernel, rfl, by decide +kernel, by decide +kernel⟩
def ds_check_one (c_is_basket : DSp) : DS :=
 (dIf (dNot (dTest (dCallX c_is_basket (dCons (dVar 0) dNil))))
 (dRaise0 "BadBasket")
 dNext)
theorem w_check_one {P : Program} {w : World} {K : PySem.W.Frag} {mg : Str → Option Value} {base : Heap} {f : Addr} {fd : FuncData} {k : Nat} {dsp : DSp} {c_is_basket : DSp} {l_is_basket : Nat} (T : Tg K mg) (F : FunD K "check_one" "check_one" (defArgs s_check_one) (defBody s_check_one) (defScope s_check_one) [] [] f fd) (F_is_basket : FnX P w K mg base l_is_basket "is_basket" c_is_basket) (h_is_basket : l_is_basket ≤ k)
    (hlen : ∀ as Q' Ē, dsp as Q' Ē → as.length = 1) (hd : ∀ as Q' Ē, dsp as Q' Ē → ∃ Ē2 : XD, (∀ e' c fs, Ē2 e' c fs → Ē (retA as e') c fs) ∧ ds_check_one c_is_basket Ē2 { nx := fun e' => Q' .non (retA as e'), rt := fun d e' => Q' d (retA as e') } (as ++ List.replicate (N_check_one.length - as.length) .no)) :
    FnOk P w K mg base (L2N.CX P w) (k + 1) f fd ["x"] (spOfX K mg dsp) := by
  refine fn_okX F sc_check_one hlen (by decide) (fun cdv A outer s H E hr tk po => ?_) hd
  have g : Good (cxOf (L2N.CX P w) P w K mg base N_check_one "check_one" (defScope s_check_one) f cdv A outer s H E) k := ⟨rfl, hr, sc_check_one.nd⟩
  exact (pds_one (ds_if (tt_not (pt_of (pd_callX tk F_is_basket g (pda_cons (pd_var 0) pda_nil) (hl := h_is_basket))))
 (pds_one (ds_raise0 tk g T.xr_BadBasket))
 pds_nil))
/-! ### cells -/
def N_cells : List Str := ["x", "product_so_far", "number"]
theorem sc_cells : FnScope N_cells ["x"] (defScope s_cells) := ⟨rfl, rfl, rfl, by decide +kernel, rfl, by decide +kernel, by decide +kernel⟩
def ds_cells (c_check_one : DSp) : DS :=
 (dSeq (dDrop (dCallX c_check_one (dCons (dVar 0) dNil)))
  (dSeq (dAsg 1 (dC (.int 1)))
  (dSeq (dFor (dItems (dVar 0)) (gVar 2)
 (dAsg 1 (dBin fMul (dVar 1) (dBin fAdd (dVar 2) (dC (.int 1))))))
  (dRet (dVar 1)))))
theorem w_cells {P : Program} {w : World} {K : PySem.W.Frag} {mg : Str → Option Value} {base : Heap} {f : Addr} {fd : FuncData} {k : Nat} {dsp : DSp} {c_check_one : DSp} {l_check_one : Nat} (T : Tg K mg) (F : FunD K "cells" "cells" (defArgs s_cells) (defBody s_cells) (defScope s_cells) [] [] f fd) (F_check_one : FnX P w K mg base l_check_one "check_one" c_check_one) (h_check_one : l_check_one ≤ k)
    (hlen : ∀ as Q' Ē, dsp as Q' Ē → as.length = 1) (hd : ∀ as Q' Ē, dsp as Q' Ē → ∃ Ē2 : XD, (∀ e' c fs, Ē2 e' c fs → Ē (retA as e') c fs) ∧ ds_cells c_check_one Ē2 { nx := fun e' => Q' .non (retA as e'), rt := fun d e' => Q' d (retA as e') } (as ++ List.replicate (N_cells.length - as.length) .no)) :
    FnOk P w K mg base (L2N.CX P w) (k + 1) f fd ["x"] (spOfX K mg dsp) := by
  refine fn_okX F sc_cells hlen (by decide) (fun cdv A outer s H E hr tk po => ?_) hd
  have g : Good (cxOf (L2N.CX P w) P w K mg base N_cells "cells" (defScope s_cells) f cdv A outer s H E) k := ⟨rfl, hr, sc_cells.nd⟩
  exact (pds_cons (ds_expr (pd_callX tk F_check_one g (pda_cons (pd_var 0) pda_nil) (hl := h_check_one)))
  (pds_cons (ds_asg 1 g pd_int)
  (pds_cons (ds_for g po (pdi_seq (pd_var 0)) (pg_var 2 g)
 (pds_one (ds_asg 1 g (pd_mul (pd_var 1) (pd_add (pd_var 2) pd_int)))))
  (pds_one (ds_ret (pd_var 1))))))
/-! ### strides -/
def N_strides : List Str := ["top", "row", "step", "most"]
theorem sc_strides : FnScope N_strides ["top"] (defScope s_strides) := ⟨rfl, rfl, rfl, by decide +kernel, rfl, by decide +kernel, by decide +kernel⟩
def ds_strides : DS :=
 (dSeq (dAsgN 1 (dLst dNil))
  (dSeq (dAsg 2 (dC (.int 1)))
  (dSeq (dFor (dRev (dVar 0)) (gVar 3)
 (dSeq (dDrop (dMth 1 mAppend (dCons (dVar 2) dNil)))
  (dAsg 2 (dBin fMul (dVar 2) (dBin fAdd (dVar 3) (dC (.int 1)))))))
  (dRet (dCB fTuple (dCons (dRevL (dVar 1)) dNil))))))
theorem w_strides {P : Program} {w : World} {K : PySem.W.Frag} {mg : Str → Option Value} {base : Heap} {f : Addr} {fd : FuncData} {k : Nat} {dsp : DSp} (T : Tg K mg) (F : FunD K "strides" "strides" (defArgs s_strides) (defBody s_strides) (defScope s_strides) [] [] f fd)
    (hlen : ∀ as Q' Ē, dsp as Q' Ē → as.length = 1) (hd : ∀ as Q' Ē, dsp as Q' Ē → ∃ Ē2 : XD, (∀ e' c fs, Ē2 e' c fs → Ē (retA as e') c fs) ∧ ds_strides Ē2 { nx := fun e' => Q' .non (retA as e'), rt := fun d e' => Q' d (retA as e') } (as ++ List.replicate (N_strides.length - as.length) .no)) :
    FnOk P w K mg base (L2N.CX P w) (k + 1) f fd ["top"] (spOfX K mg dsp) := by
  refine fn_okX F sc_strides hlen (by decide) (fun cdv A outer s H E hr tk po => ?_) hd
  have g : Good (cxOf (L2N.CX P w) P w K mg base N_strides "strides" (defScope s_strides) f cdv A outer s H E) k := ⟨rfl, hr, sc_strides.nd⟩
  exact (pds_cons (ds_asgN 1 g (pn_lst pda_nil))
  (pds_cons (ds_asg 2 g pd_int)
  (pds_cons (ds_for g po (pdi_rev T.f_reversed (pd_var 0)) (pg_var 3 g)
 (pds_cons (ds_expr (pd_mth 1 PySem.F.plainAttrs_list PySem.F.slot_list_append PySem.F.type_list_append (fun _ => mt_append) lm_append (pda_cons (pd_var 2) pda_nil)))
  (pds_one (ds_asg 2 g (pd_mul (pd_var 2) (pd_add (pd_var 3) pd_int))))))
  (pds_one (ds_ret (pd_tuple T.f_tuple (pd_revL (pd_var 1))))))))
/-! ### spot -/
def N_spot : List Str := ["basket", "row", "number", "step"]
theorem sc_spot : FnScope N_spot ["basket", "row"] (defScope s_spot) := ⟨rfl, rfl, rfl, by decide +kernel, rfl, by decide +kernel, by decide +kernel⟩
def ds_spot : DS :=
 (dRet (dCB fSum (dCons (dFrz (dLc (dZip (dVar 0) (dVar 1)) (gTupD 2 (gsCons (gVar 2) (gsCons (gVar 3) gsNil))) dYes (dBin fMul (dVar 2) (dVar 3)) [2, 3])) dNil)))
theorem w_spot {P : Program} {w : World} {K : PySem.W.Frag} {mg : Str → Option Value} {base : Heap} {f : Addr} {fd : FuncData} {k : Nat} {dsp : DSp} (T : Tg K mg) (F : FunD K "spot" "spot" (defArgs s_spot) (defBody s_spot) (defScope s_spot) [] [] f fd)
    (hlen : ∀ as Q' Ē, dsp as Q' Ē → as.length = 2) (hd : ∀ as Q' Ē, dsp as Q' Ē → ∃ Ē2 : XD, (∀ e' c fs, Ē2 e' c fs → Ē (retA as e') c fs) ∧ ds_spot Ē2 { nx := fun e' => Q' .non (retA as e'), rt := fun d e' => Q' d (retA as e') } (as ++ List.replicate (N_spot.length - as.length) .no)) :
    FnOk P w K mg base (L2N.CX P w) (k + 1) f fd ["basket", "row"] (spOfX K mg dsp) := by
  refine fn_okX F sc_spot hlen (by decide) (fun cdv A outer s H E hr tk po => ?_) hd
  have g : Good (cxOf (L2N.CX P w) P w K mg base N_spot "spot" (defScope s_spot) f cdv A outer s H E) k := ⟨rfl, hr, sc_spot.nd⟩
  exact (pds_one (ds_ret (pd_sum g T.f_sum (pd_frz (pn_lc (E2 := EZ) [("number", 2), ("step", 3)] g (pdi_zip T.f_zip (pd_var 0) (pd_var 1)) (pgd_tup g (pgd_cons (pg_var 2 g) (pgd_cons (pg_var 3 g) pgd_nil))) tts_nil (pd_mul (pd_var 2) (pd_var 3)))))))
/-! ### lies_in -/
def N_lies_in : List Str := ["bundle", "basket", "need", "given"]
theorem sc_lies_in : FnScope N_lies_in ["bundle", "basket"] (defScope s_lies_in) := ⟨rfl, rfl, rfl, by decide +kernel, rfl, by decide +kernel, by decide +kernel⟩
def ds_lies_in : DS :=
 (dSeq (dFor (dZip (dVar 0) (dVar 1)) (gTupD 2 (gsCons (gVar 2) (gsCons (gVar 3) gsNil)))
 (dIf (dTest (dBin fGt (dVar 2) (dVar 3)))
 (dRet (dC (.bl false)))
 dNext))
  (dRet (dC (.bl true))))
theorem w_lies_in {P : Program} {w : World} {K : PySem.W.Frag} {mg : Str → Option Value} {base : Heap} {f : Addr} {fd : FuncData} {k : Nat} {dsp : DSp} (T : Tg K mg) (F : FunD K "lies_in" "lies_in" (defArgs s_lies_in) (defBody s_lies_in) (defScope s_lies_in) [] [] f fd)
    (hlen : ∀ as Q' Ē, dsp as Q' Ē → as.length = 2) (hd : ∀ as Q' Ē, dsp as Q' Ē → ∃ Ē2 : XD, (∀ e' c fs, Ē2 e' c fs → Ē (retA as e') c fs) ∧ ds_lies_in Ē2 { nx := fun e' => Q' .non (retA as e'), rt := fun d e' => Q' d (retA as e') } (as ++ List.replicate (N_lies_in.length - as.length) .no)) :
    FnOk P w K mg base (L2N.CX P w) (k + 1) f fd ["bundle", "basket"] (spOfX K mg dsp) := by
  refine fn_okX F sc_lies_in hlen (by decide) (fun cdv A outer s H E hr tk po => ?_) hd
  have g : Good (cxOf (L2N.CX P w) P w K mg base N_lies_in "lies_in" (defScope s_lies_in) f cdv A outer s H E) k := ⟨rfl, hr, sc_lies_in.nd⟩
  exact (pds_cons (ds_for g po (pdi_zip T.f_zip (pd_var 0) (pd_var 1)) (pgd_tup g (pgd_cons (pg_var 2 g) (pgd_cons (pg_var 3 g) pgd_nil)))
 (pds_one (ds_if (tt_gt (pd_var 2) (pd_var 3))
 (pds_one (ds_ret pd_bl))
 pds_nil)))
  (pds_one (ds_ret pd_bl)))
/-! ### least_worths -/
def N_least_worths : List Str := ["deals", "baskets", "worths", "at", "basket", "best", "bundle", "shift", "price", "worth"]
theorem sc_least_worths : FnScope N_least_worths ["deals", "baskets"] (defScope s_least_worths) := ⟨rfl, rfl, rfl, by decide +kernel, rfl, by decide +kernel, by decide +kernel⟩
def ds_least_worths (c_lies_in : DSp) : DS :=
 (dSeq (dAsgN 2 (dLst dNil))
  (dSeq (dFor (dEnum (dVar 1)) (gTupD 2 (gsCons (gVar 3) (gsCons (gVar 4) gsNil)))
 (dSeq (dAsg 5 (dC .non))
  (dSeq (dFor (dItems (dVar 0)) (gTupD 3 (gsCons (gVar 6) (gsCons (gVar 7) (gsCons (gVar 8) gsNil))))
 (dIf (dTest (dCallX c_lies_in (dCons (dVar 6) (dCons (dVar 4) dNil))))
 (dSeq (dAsg 9 (dBin fAdd (dVar 8) (dIxV 2 (dBin fSub (dVar 3) (dVar 7)))))
  (dIf (dOr (dTest (fIsN (dVar 5))) (dTest (dBin fLt (dVar 9) (dVar 5))))
 (dAsg 5 (dVar 9))
 dNext))
 dNext))
  (dDrop (dMth 2 mAppend (dCons (dIfE (dTest (fIsN (dVar 5))) (dC (.int 0)) (dVar 5)) dNil))))))
  (dRet (dCB fTuple (dCons (dVar 2) dNil)))))
theorem w_least_worths {P : Program} {w : World} {K : PySem.W.Frag} {mg : Str → Option Value} {base : Heap} {f : Addr} {fd : FuncData} {k : Nat} {dsp : DSp} {c_lies_in : DSp} {l_lies_in : Nat} (T : Tg K mg) (F : FunD K "least_worths" "least_worths" (defArgs s_least_worths) (defBody s_least_worths) (defScope s_least_worths) [] [] f fd) (F_lies_in : FnX P w K mg base l_lies_in "lies_in" c_lies_in) (h_lies_in : l_lies_in ≤ k)
    (hlen : ∀ as Q' Ē, dsp as Q' Ē → as.length = 2) (hd : ∀ as Q' Ē, dsp as Q' Ē → ∃ Ē2 : XD, (∀ e' c fs, Ē2 e' c fs → Ē (retA as e') c fs) ∧ ds_least_worths c_lies_in Ē2 { nx := fun e' => Q' .non (retA as e'), rt := fun d e' => Q' d (retA as e') } (as ++ List.replicate (N_least_worths.length - as.length) .no)) :
    FnOk P w K mg base (L2N.CX P w) (k + 1) f fd ["deals", "baskets"] (spOfX K mg dsp) := by
  refine fn_okX F sc_least_worths hlen (by decide) (fun cdv A outer s H E hr tk po => ?_) hd
  have g : Good (cxOf (L2N.CX P w) P w K mg base N_least_worths "least_worths" (defScope s_least_worths) f cdv A outer s H E) k := ⟨rfl, hr, sc_least_worths.nd⟩
  exact (pds_cons (ds_asgN 2 g (pn_lst pda_nil))
  (pds_cons (ds_for g po (pdi_enum T.f_enumerate (pd_var 1)) (pgd_tup g (pgd_cons (pg_var 3 g) (pgd_cons (pg_var 4 g) pgd_nil)))
 (pds_cons (ds_asg 5 g pd_non)
  (pds_cons (ds_for g po (pdi_seq (pd_var 0)) (pgd_tup g (pgd_cons (pg_var 6 g) (pgd_cons (pg_var 7 g) (pgd_cons (pg_var 8 g) pgd_nil))))
 (pds_one (ds_if (pt_of (pd_callX tk F_lies_in g (pda_cons (pd_var 6) (pda_cons (pd_var 4) pda_nil)) (hl := h_lies_in)))
 (pds_cons (ds_asg 9 g (pd_add (pd_var 8) (pd_ixV 2 (pd_sub (pd_var 3) (pd_var 7)))))
  (pds_one (ds_if (PDW.pt (tw_or (tt_isN (pd_var 5)) (tw_or1 (tt_lt (pd_var 9) (pd_var 5)))))
 (pds_one (ds_asg 5 g (pd_var 9)))
 pds_nil)))
 pds_nil)))
  (pds_one (ds_expr (pd_mth 2 PySem.F.plainAttrs_list PySem.F.slot_list_append PySem.F.type_list_append (fun _ => mt_append) lm_append (pda_cons (pd_ifE (tt_isN (pd_var 5)) pd_int (pd_var 5)) pda_nil)))))))
  (pds_one (ds_ret (pd_tuple T.f_tuple (pd_var 2))))))
/-! ### box -/
def N_box : List Str := ["x", "rows", "number", "row", "many"]
theorem sc_box : FnScope N_box ["x"] (defScope s_box) := ⟨rfl, rfl, rfl, by decide +kernel, rfl, by decide +kernel, by decide +kernel⟩
def ds_box (c_cells : DSp) : DS :=
 (dSeq (dIf (dTest (dBin fGt (dCallX c_cells (dCons (dVar 0) dNil)) (dC (.int 1500))))
 dNever
 dNext)
  (dSeq (dAsgN 1 (dLst (dCons (dTup dNil) dNil)))
  (dSeq (dFor (dItems (dVar 0)) (gVar 2)
 (dAsgN 1 (dLc2 (dItems (dVar 1)) (gVar 3) dYes (dRange1 (dBin fAdd (dVar 2) (dC (.int 1)))) (gVar 4) dYes (dBin fAdd (dVar 3) (dTup (dCons (dVar 4) dNil))) [3, 4] [4])))
  (dRet (dCB fTuple (dCons (dVar 1) dNil))))))
theorem w_box {P : Program} {w : World} {K : PySem.W.Frag} {mg : Str → Option Value} {base : Heap} {f : Addr} {fd : FuncData} {k : Nat} {dsp : DSp} {c_cells : DSp} {l_cells : Nat} (T : Tg K mg) (F : FunD K "box" "box" (defArgs s_box) (defBody s_box) (defScope s_box) [] [] f fd) (F_cells : FnX P w K mg base l_cells "cells" c_cells) (h_cells : l_cells ≤ k)
    (hlen : ∀ as Q' Ē, dsp as Q' Ē → as.length = 1) (hd : ∀ as Q' Ē, dsp as Q' Ē → ∃ Ē2 : XD, (∀ e' c fs, Ē2 e' c fs → Ē (retA as e') c fs) ∧ ds_box c_cells Ē2 { nx := fun e' => Q' .non (retA as e'), rt := fun d e' => Q' d (retA as e') } (as ++ List.replicate (N_box.length - as.length) .no)) :
    FnOk P w K mg base (L2N.CX P w) (k + 1) f fd ["x"] (spOfX K mg dsp) := by
  refine fn_okX F sc_box hlen (by decide) (fun cdv A outer s H E hr tk po => ?_) hd
  have g : Good (cxOf (L2N.CX P w) P w K mg base N_box "box" (defScope s_box) f cdv A outer s H E) k := ⟨rfl, hr, sc_box.nd⟩
  exact (pds_cons (ds_if (tt_gt (pd_callX tk F_cells g (pda_cons (pd_var 0) pda_nil) (hl := h_cells)) (pd_gint T.g_CELLS))
 (pds_one ds_never)
 pds_nil)
  (pds_cons (ds_asgN 1 g (pn_lst (pda_cons (pd_tup pda_nil) pda_nil)))
  (pds_cons (ds_for g po (pdi_seq (pd_var 0)) (pg_var 2 g)
 (pds_one (ds_setLc2 (E2 := EZ) 1 [("row", 3), ("many", 4)] [4] g (pdi_seq (pd_var 1)) (pg_var 3 g) tts_nil (pdi_rng1 T.f_range (pd_add (pd_var 2) pd_int)) (pg_var 4 g) tts_nil (pd_add (pd_var 3) (pd_tup (pda_cons (pd_var 4) pda_nil))))))
  (pds_one (ds_ret (pd_tuple T.f_tuple (pd_var 1)))))))
/-! ### Table_init -/
def N_Table_init : List Str := ["self", "book", "top", "row", "bundle", "price"]
theorem sc_Table_init : FnScope N_Table_init ["self", "book", "top"] (defScope s_Table_init) := ⟨rfl, rfl, rfl, by decide +kernel, rfl, by decide +kernel, by decide +kernel⟩
def ds_Table_init (c_check_basket : DSp) (c_cells : DSp) (c_strides : DSp) (c_spot : DSp) (c_least_worths : DSp) (c_box : DSp) : DS :=
 (dSeq (dDrop (dCallX c_check_basket (dCons (dVar 1) (dCons (dVar 2) dNil))))
  (dSeq (dIf (dTest (dBin fGt (dCallX c_cells (dCons (dVar 2) dNil)) (dC (.int 1500))))
 dNever
 dNext)
  (dSeq (dAsg 3 (dCallX c_strides (dCons (dVar 2) dNil)))
  (dSeq (dSetFld 0 ["Table"] "top" (dVar 2))
  (dSeq (dSetFld 0 ["Table"] "stride_row" (dVar 3))
  (dSeq (dSetFld 0 ["Table"] "deal_rows" (dCB fTuple (dCons (dFrz (dLc (dItems (dFldO 1 ["Book"] "offers")) (gTupD 2 (gsCons (gVar 4) (gsCons (gVar 5) gsNil))) dYes (dTup (dCons (dVar 4) (dCons (dCallX c_spot (dCons (dVar 4) (dCons (dVar 3) dNil))) (dCons (dVar 5) dNil)))) [4, 5])) dNil)))
  (dSetFld 0 ["Table"] "worth_row" (dCallX c_least_worths (dCons (dFldO 0 ["Table"] "deal_rows") (dCons (dCallX c_box (dCons (dVar 2) dNil)) dNil))))))))))
theorem w_Table_init {P : Program} {w : World} {K : PySem.W.Frag} {mg : Str → Option Value} {base : Heap} {f : Addr} {fd : FuncData} {k : Nat} {dsp : DSp} {c_check_basket : DSp} {c_cells : DSp} {c_strides : DSp} {c_spot : DSp} {c_least_worths : DSp} {c_box : DSp} {l_check_basket l_cells l_strides l_spot l_least_worths l_box : Nat} (T : Tg K mg) (F : FunD K "__init__" "Table.__init__" (defArgs s_Table_init) (defBody s_Table_init) (defScope s_Table_init) [] [] f fd) (F_check_basket : FnX P w K mg base l_check_basket "check_basket" c_check_basket) (h_check_basket : l_check_basket ≤ k) (F_cells : FnX P w K mg base l_cells "cells" c_cells) (h_cells : l_cells ≤ k) (F_strides : FnX P w K mg base l_strides "strides" c_strides) (h_strides : l_strides ≤ k) (F_spot : FnX P w K mg base l_spot "spot" c_spot) (h_spot : l_spot ≤ k) (F_least_worths : FnX P w K mg base l_least_worths "least_worths" c_least_worths) (h_least_worths : l_least_worths ≤ k) (F_box : FnX P w K mg base l_box "box" c_box) (h_box : l_box ≤ k)
    (hlen : ∀ as Q' Ē, dsp as Q' Ē → as.length = 3) (hd : ∀ as Q' Ē, dsp as Q' Ē → ∃ Ē2 : XD, (∀ e' c fs, Ē2 e' c fs → Ē (retA as e') c fs) ∧ ds_Table_init c_check_basket c_cells c_strides c_spot c_least_worths c_box Ē2 { nx := fun e' => Q' .non (retA as e'), rt := fun d e' => Q' d (retA as e') } (as ++ List.replicate (N_Table_init.length - as.length) .no)) :
    FnOk P w K mg base (L2N.CX P w) (k + 1) f fd ["self", "book", "top"] (spOfX K mg dsp) := by
  refine fn_okX F sc_Table_init hlen (by decide) (fun cdv A outer s H E hr tk po => ?_) hd
  have g : Good (cxOf (L2N.CX P w) P w K mg base N_Table_init "Table.__init__" (defScope s_Table_init) f cdv A outer s H E) k := ⟨rfl, hr, sc_Table_init.nd⟩
  exact (pds_cons (ds_expr (pd_callX tk F_check_basket g (pda_cons (pd_var 1) (pda_cons (pd_var 2) pda_nil)) (hl := h_check_basket)))
  (pds_cons (ds_if (tt_gt (pd_callX tk F_cells g (pda_cons (pd_var 2) pda_nil) (hl := h_cells)) (pd_gint T.g_CELLS))
 (pds_one ds_never)
 pds_nil)
  (pds_cons (ds_asg 3 g (pd_callX tk F_strides g (pda_cons (pd_var 2) pda_nil) (hl := h_strides)))
  (pds_cons (ds_setFld 0 ["Table"] T.a_top (pd_var 2))
  (pds_cons (ds_setFld 0 ["Table"] T.a_stride_row (pd_var 3))
  (pds_cons (ds_setFld 0 ["Table"] T.a_deal_rows (pd_tuple T.f_tuple (pd_frz (pn_lc (E2 := EZ) [("bundle", 4), ("price", 5)] g (pdi_seq (pd_fldO 1 ["Book"] T.a_offers)) (pgd_tup g (pgd_cons (pg_var 4 g) (pgd_cons (pg_var 5 g) pgd_nil))) tts_nil (pd_tup (pda_cons (pd_var 4) (pda_cons (pd_callX tkZ F_spot g (pda_cons (pd_var 4) (pda_cons (pd_var 3) pda_nil)) (hl := h_spot)) (pda_cons (pd_var 5) pda_nil))))))))
  (pds_one (ds_setFld 0 ["Table"] T.a_worth_row (pd_callX tk F_least_worths g (pda_cons (pd_fldO 0 ["Table"] T.a_deal_rows) (pda_cons (pd_callX tk F_box g (pda_cons (pd_var 2) pda_nil) (hl := h_box)) pda_nil)) (hl := h_least_worths))))))))))
/-! ### box_prices -/
def N_box_prices : List Str := ["book", "top", "known"]
theorem sc_box_prices : FnScope N_box_prices ["book", "top"] (defScope s_box_prices) := ⟨rfl, rfl, rfl, by decide +kernel, rfl, by decide +kernel, by decide +kernel⟩
def ds_box_prices (c_Table_init : DSp) : DS :=
 (dSeq (dAsg 2 (dMakeX "Table" c_Table_init (dCons (dVar 0) (dCons (dVar 1) dNil))))
  (dRet (dFldO 2 ["Table"] "worth_row")))
theorem w_box_prices {P : Program} {w : World} {K : PySem.W.Frag} {mg : Str → Option Value} {base : Heap} {f : Addr} {fd : FuncData} {k : Nat} {dsp : DSp} {c_Table_init : DSp} {l_Table_init : Nat} (T : Tg K mg) (F : FunD K "box_prices" "box_prices" (defArgs s_box_prices) (defBody s_box_prices) (defScope s_box_prices) [] [] f fd) (F_Table_init : FnXM P w K mg base l_Table_init "Table" "__init__" c_Table_init) (h_Table_init : l_Table_init < k)
    (hlen : ∀ as Q' Ē, dsp as Q' Ē → as.length = 2) (hd : ∀ as Q' Ē, dsp as Q' Ē → ∃ Ē2 : XD, (∀ e' c fs, Ē2 e' c fs → Ē (retA as e') c fs) ∧ ds_box_prices c_Table_init Ē2 { nx := fun e' => Q' .non (retA as e'), rt := fun d e' => Q' d (retA as e') } (as ++ List.replicate (N_box_prices.length - as.length) .no)) :
    FnOk P w K mg base (L2N.CX P w) (k + 1) f fd ["book", "top"] (spOfX K mg dsp) := by
  refine fn_okX F sc_box_prices hlen (by decide) (fun cdv A outer s H E hr tk po => ?_) hd
  have g : Good (cxOf (L2N.CX P w) P w K mg base N_box_prices "box_prices" (defScope s_box_prices) f cdv A outer s H E) k := ⟨rfl, hr, sc_box_prices.nd⟩
  exact (pds_cons (ds_asg 2 g (pd_makeX (k := k - 1) tk F_Table_init (g.mono (by omega)) (pda_cons (pd_var 0) (pda_cons (pd_var 1) pda_nil)) (hl := (by omega))))
  (pds_one (ds_ret (pd_fldO 2 ["Table"] T.a_worth_row))))
/-! ### last_needed -/
def N_last_needed : List Str := ["numbers", "last", "index"]
theorem sc_last_needed : FnScope N_last_needed ["numbers"] (defScope s_last_needed) := ⟨rfl, rfl, rfl, by decide +kernel, rfl, by decide +kernel, by decide +kernel⟩
def ds_last_needed : DS :=
 (dSeq (dAsg 1 (dBin fSub (dOwnL 0 fLen (dCB fLen (dCons (dVar 0) dNil))) (dC (.int 1))))
  (dSeq (dIf (dTest (dBin fLt (dVar 1) (dC (.int 1))))
 (dRet (dC (.bl false)))
 dNext)
  (dSeq (dFor (dRange2 (dC (.int 1)) (dVar 1)) (gVar 2)
 (dIf (dTest (dBin fLe (dBin fAdd (dIxV 0 (dVar 2)) (dIxV 0 (dBin fSub (dVar 1) (dVar 2)))) (dIxV 0 (dVar 1))))
 (dRet (dC (.bl false)))
 dNext))
  (dRet (dC (.bl true))))))
theorem w_last_needed {P : Program} {w : World} {K : PySem.W.Frag} {mg : Str → Option Value} {base : Heap} {f : Addr} {fd : FuncData} {k : Nat} {dsp : DSp} (T : Tg K mg) (F : FunD K "last_needed" "last_needed" (defArgs s_last_needed) (defBody s_last_needed) (defScope s_last_needed) [] [] f fd)
    (hlen : ∀ as Q' Ē, dsp as Q' Ē → as.length = 1) (hd : ∀ as Q' Ē, dsp as Q' Ē → ∃ Ē2 : XD, (∀ e' c fs, Ē2 e' c fs → Ē (retA as e') c fs) ∧ ds_last_needed Ē2 { nx := fun e' => Q' .non (retA as e'), rt := fun d e' => Q' d (retA as e') } (as ++ List.replicate (N_last_needed.length - as.length) .no)) :
    FnOk P w K mg base (L2N.CX P w) (k + 1) f fd ["numbers"] (spOfX K mg dsp) := by
  refine fn_okX F sc_last_needed hlen (by decide) (fun cdv A outer s H E hr tk po => ?_) hd
  have g : Good (cxOf (L2N.CX P w) P w K mg base N_last_needed "last_needed" (defScope s_last_needed) f cdv A outer s H E) k := ⟨rfl, hr, sc_last_needed.nd⟩
  exact (pds_cons (ds_asg 1 g (pd_sub (pd_lenV 0 T.f_len) pd_int))
  (pds_cons (ds_if (tt_lt (pd_var 1) pd_int)
 (pds_one (ds_ret pd_bl))
 pds_nil)
  (pds_cons (ds_for g po (pdi_rng2 T.f_range pd_int (pd_var 1)) (pg_var 2 g)
 (pds_one (ds_if (tt_le (pd_add (pd_ixV 0 (pd_var 2)) (pd_ixV 0 (pd_sub (pd_var 1) (pd_var 2)))) (pd_ixV 0 (pd_var 1)))
 (pds_one (ds_ret pd_bl))
 pds_nil)))
  (pds_one (ds_ret pd_bl)))))
/-! ### Book_bundles -/
def N_Book_bundles : List Str := ["self"]
theorem sc_Book_bundles : FnScope N_Book_bundles ["self"] (defScope s_Book_bundles) := ⟨rfl, rfl, rfl, by decide +kernel, rfl, by decide +kernel, by decide +kernel⟩
def ds_Book_bundles : DS :=
 (dRet (dFldO 0 ["Book"] "bundle_row"))
theorem w_Book_bundles {P : Program} {w : World} {K : PySem.W.Frag} {mg : Str → Option Value} {base : Heap} {f : Addr} {fd : FuncData} {k : Nat} {dsp : DSp} (T : Tg K mg) (F : FunD K "bundles" "Book.bundles" (defArgs s_Book_bundles) (defBody s_Book_bundles) (defScope s_Book_bundles) [] [] f fd)
    (hlen : ∀ as Q' Ē, dsp as Q' Ē → as.length = 1) (hd : ∀ as Q' Ē, dsp as Q' Ē → ∃ Ē2 : XD, (∀ e' c fs, Ē2 e' c fs → Ē (retA as e') c fs) ∧ ds_Book_bundles Ē2 { nx := fun e' => Q' .non (retA as e'), rt := fun d e' => Q' d (retA as e') } (as ++ List.replicate (N_Book_bundles.length - as.length) .no)) :
    FnOk P w K mg base (L2N.CX P w) (k + 1) f fd ["self"] (spOfX K mg dsp) := by
  refine fn_okX F sc_Book_bundles hlen (by decide) (fun cdv A outer s H E hr tk po => ?_) hd
  have g : Good (cxOf (L2N.CX P w) P w K mg base N_Book_bundles "Book.bundles" (defScope s_Book_bundles) f cdv A outer s H E) k := ⟨rfl, hr, sc_Book_bundles.nd⟩
  exact (pds_one (ds_ret (pd_fldO 0 ["Book"] T.a_bundle_row)))
/-! ### least_offers -/
def N_least_offers : List Str := ["book", "found", "bundle", "numbers"]
theorem sc_least_offers : FnScope N_least_offers ["book"] (defScope s_least_offers) := ⟨rfl, rfl, rfl, by decide +kernel, rfl, by decide +kernel, by decide +kernel⟩
def ds_least_offers (c_Book_bundles : DSp) (c_box_prices : DSp) (c_last_needed : DSp) : DS :=
 (dSeq (dAsgN 1 (dLst dNil))
  (dSeq (dFor (dItems (dSortSet (dProp "Book" c_Book_bundles (dVar 0)))) (gVar 2)
 (dSeq (dAsg 3 (dCallX c_box_prices (dCons (dVar 0) (dCons (dVar 2) dNil))))
  (dIf (dTest (dCallX c_last_needed (dCons (dVar 3) dNil)))
 (dDrop (dMth 1 mAppend (dCons (dTup (dCons (dVar 2) (dCons (dIxV 3 (dUn fNeg (dC (.int 1)))) dNil))) dNil)))
 dNext)))
  (dRet (dCB fTuple (dCons (dVar 1) dNil)))))
theorem w_least_offers {P : Program} {w : World} {K : PySem.W.Frag} {mg : Str → Option Value} {base : Heap} {f : Addr} {fd : FuncData} {k : Nat} {dsp : DSp} {c_Book_bundles : DSp} {c_box_prices : DSp} {c_last_needed : DSp} {l_Book_bundles l_box_prices l_last_needed : Nat} (T : Tg K mg) (F : FunD K "least_offers" "least_offers" (defArgs s_least_offers) (defBody s_least_offers) (defScope s_least_offers) [] [] f fd) (F_Book_bundles : FnXP P w K mg base l_Book_bundles "Book" "bundles" c_Book_bundles) (h_Book_bundles : l_Book_bundles < k) (F_box_prices : FnX P w K mg base l_box_prices "box_prices" c_box_prices) (h_box_prices : l_box_prices ≤ k) (F_last_needed : FnX P w K mg base l_last_needed "last_needed" c_last_needed) (h_last_needed : l_last_needed ≤ k)
    (hlen : ∀ as Q' Ē, dsp as Q' Ē → as.length = 1) (hd : ∀ as Q' Ē, dsp as Q' Ē → ∃ Ē2 : XD, (∀ e' c fs, Ē2 e' c fs → Ē (retA as e') c fs) ∧ ds_least_offers c_Book_bundles c_box_prices c_last_needed Ē2 { nx := fun e' => Q' .non (retA as e'), rt := fun d e' => Q' d (retA as e') } (as ++ List.replicate (N_least_offers.length - as.length) .no)) :
    FnOk P w K mg base (L2N.CX P w) (k + 1) f fd ["book"] (spOfX K mg dsp) := by
  refine fn_okX F sc_least_offers hlen (by decide) (fun cdv A outer s H E hr tk po => ?_) hd
  have g : Good (cxOf (L2N.CX P w) P w K mg base N_least_offers "least_offers" (defScope s_least_offers) f cdv A outer s H E) k := ⟨rfl, hr, sc_least_offers.nd⟩
  exact (pds_cons (ds_asgN 1 g (pn_lst pda_nil))
  (pds_cons (ds_for g po (pdi_seq (pd_sortSet g T.f_sorted T.f_set (pd_prop (k := k - 1) F_Book_bundles.fn (g.mono (by omega)) (pd_var 0) (hl := (by omega))))) (pg_var 2 g)
 (pds_cons (ds_asg 3 g (pd_callX tk F_box_prices g (pda_cons (pd_var 0) (pda_cons (pd_var 2) pda_nil)) (hl := h_box_prices)))
  (pds_one (ds_if (pt_of (pd_callX tk F_last_needed g (pda_cons (pd_var 3) pda_nil) (hl := h_last_needed)))
 (pds_one (ds_expr (pd_mth 1 PySem.F.plainAttrs_list PySem.F.slot_list_append PySem.F.type_list_append (fun _ => mt_append) lm_append (pda_cons (pd_tup (pda_cons (pd_var 2) (pda_cons (pd_ixV 3 (pd_neg pd_int)) pda_nil))) pda_nil))))
 pds_nil))))
  (pds_one (ds_ret (pd_tuple T.f_tuple (pd_var 1))))))
/-! ### same_prices -/
def N_same_prices : List Str := ["one", "other"]
theorem sc_same_prices : FnScope N_same_prices ["one", "other"] (defScope s_same_prices) := ⟨rfl, rfl, rfl, by decide +kernel, rfl, by decide +kernel, by decide +kernel⟩
def ds_same_prices (c_least_offers : DSp) : DS :=
 (dSeq (dIf (dTest (dBin fNe (dFldO 0 ["Book"] "kinds") (dFldO 1 ["Book"] "kinds")))
 (dRaise0 "Unlike")
 dNext)
  (dRet (dBin fEq (dCallX c_least_offers (dCons (dVar 0) dNil)) (dCallX c_least_offers (dCons (dVar 1) dNil)))))
theorem w_same_prices {P : Program} {w : World} {K : PySem.W.Frag} {mg : Str → Option Value} {base : Heap} {f : Addr} {fd : FuncData} {k : Nat} {dsp : DSp} {c_least_offers : DSp} {l_least_offers : Nat} (T : Tg K mg) (F : FunD K "same_prices" "same_prices" (defArgs s_same_prices) (defBody s_same_prices) (defScope s_same_prices) [] [] f fd) (F_least_offers : FnX P w K mg base l_least_offers "least_offers" c_least_offers) (h_least_offers : l_least_offers ≤ k)
    (hlen : ∀ as Q' Ē, dsp as Q' Ē → as.length = 2) (hd : ∀ as Q' Ē, dsp as Q' Ē → ∃ Ē2 : XD, (∀ e' c fs, Ē2 e' c fs → Ē (retA as e') c fs) ∧ ds_same_prices c_least_offers Ē2 { nx := fun e' => Q' .non (retA as e'), rt := fun d e' => Q' d (retA as e') } (as ++ List.replicate (N_same_prices.length - as.length) .no)) :
    FnOk P w K mg base (L2N.CX P w) (k + 1) f fd ["one", "other"] (spOfX K mg dsp) := by
  refine fn_okX F sc_same_prices hlen (by decide) (fun cdv A outer s H E hr tk po => ?_) hd
  have g : Good (cxOf (L2N.CX P w) P w K mg base N_same_prices "same_prices" (defScope s_same_prices) f cdv A outer s H E) k := ⟨rfl, hr, sc_same_prices.nd⟩
  exact (pds_cons (ds_if (tt_ne g (pd_fldO 0 ["Book"] T.a_kinds) (pd_fldO 1 ["Book"] T.a_kinds))
 (pds_one (ds_raise0 tk g T.xr_Unlike))
 pds_nil)
  (pds_one (ds_ret (pd_eq g (pd_callX tk F_least_offers g (pda_cons (pd_var 0) pda_nil) (hl := h_least_offers)) (pd_callX tk F_least_offers g (pda_cons (pd_var 1) pda_nil) (hl := h_least_offers))))))
/-! ### _law_named -/
def N__law_named : List Str := ["e", "marks", "names", "told", "at", "k"]
theorem sc__law_named : FnScope N__law_named ["e"] (defScope s__law_named) := ⟨rfl, rfl, rfl, by decide +kernel, rfl, by decide +kernel, by decide +kernel⟩
def ds__law_named (a : Addr) (c : Str) (d : Option Addr) : DS :=
 (dSeq (dAsgN 1 (dLst (dCons (dIsX 0 [] ["Unlike"] a c d) (dCons (dIsX 0 [] ["Unlike"] a c d) (dCons (dIsX 0 [] ["Unlike"] a c d) (dCons (dIsX 0 [] ["Unlike"] a c d) dNil))))))
  (dSeq (dAsg 1 (dBin fAdd (dVar 1) (dFrz (dLst (dCons (dIsX 0 [] ["Unlike"] a c d) (dCons (dIsX 0 [] ["Unlike"] a c d) (dCons (dIsX 0 [] ["Unlike"] a c d) (dCons (dIsX 0 [] ["Unlike"] a c d) dNil))))))))
  (dSeq (dAsg 1 (dBin fAdd (dVar 1) (dFrz (dLst (dCons (dIsX 0 [] ["Unlike"] a c d) (dCons (dIsX 0 [] ["Unlike"] a c d) (dCons (dIsX 0 [] ["Unlike"] a c d) (dCons (dIsX 0 [] ["Unlike"] a c d) dNil))))))))
  (dSeq (dAsg 1 (dBin fAdd (dVar 1) (dFrz (dLst (dCons (dIsX 0 ["Unlike"] [] a c d) (dCons (dIsX 0 [] ["Unlike"] a c d) (dCons (dIsX 0 [] ["Unlike"] a c d) dNil)))))))
  (dSeq (dAsgN 2 (dLst (dCons (dC (.str "BadKinds")) (dCons (dC (.str "NoSingle")) (dCons (dC (.str "BadOffer")) (dCons (dC (.str "BadBasket")) (dCons (dC (.str "BadPlace")) (dCons (dC (.str "BadOrder")) (dCons (dC (.str "BadBill")) (dCons (dC (.str "BadPrices")) dNil))))))))))
  (dSeq (dAsg 2 (dBin fAdd (dVar 2) (dFrz (dLst (dCons (dC (.str "BadStock")) (dCons (dC (.str "BadNumber")) (dCons (dC (.str "BadText")) (dCons (dC (.str "BadCoins")) (dCons (dC (.str "Unlike")) (dCons (dC (.str "NotOne")) (dCons (dC (.str "NothingToUndo")) dNil)))))))))))
  (dSeq (dAsg 3 (dCB fTuple (dCons (dFrz (dLc (dRange1 (dOwnL 2 fLen (dCB fLen (dCons (dVar 2) dNil)))) (gVar 4) (dTest (dIxV 1 (dVar 4))) (dIxV 2 (dVar 4)) [4])) dNil)))
  (dSeq (dIf (dTest (dIsX 0 [] ["Unlike"] a c d))
 (dAsg 3 (dBin fAdd (dVar 3) (dTup (dCons (dC (.str "TooMany")) (dCons (dXf 0 "limit" a c d) dNil)))))
 dNext)
  (dSeq (dIf (dTest (dIsX 0 [] ["Unlike"] a c d))
 (dAsg 3 (dBin fAdd (dVar 3) (dTup (dCons (dC (.str "TooGreat")) (dCons (dXf 0 "limit" a c d) dNil)))))
 dNext)
  (dRet (dBin fAdd (dVar 3) (dCB fTuple (dCons (dFrz (dLc (dRange1 (dC (.int 1))) (gVar 5) (dTest (dIsX 0 [] ["Unlike"] a c d)) (dXf 0 "place" a c d) [5])) dNil)))))))))))))
theorem w__law_named {P : Program} {w : World} {K : PySem.W.Frag} {mg : Str → Option Value} {base : Heap} {f : Addr} {fd : FuncData} {k : Nat} {hsp : HSp} (T : Tg K mg) (F : FunD K "_law_named" "_law_named" (defArgs s__law_named) (defBody s__law_named) (defScope s__law_named) [] [] f fd)
    (hcs : ∀ c fs Q', hsp c fs Q' → c ∈ xks) (hd : ∀ a c d fs Q', hsp c fs Q' → ds__law_named a c d X0 { nx := fun _ => Q' .non, rt := fun r _ => Q' r } (.fr (.exc c fs d a) :: List.replicate (N__law_named.length - 1) .no)) (a : Addr) (c : Str) (C : Addr) (d : Option Addr) (hm : mg c = some (.ref C)) :
    FnHZ P w K mg base (k + 1) f fd ["e"] a (.ref C) d (spH K mg a c d hsp) :=
  fn_okH F sc__law_named hcs (fun cdv A outer t H a oe c C d hc hm hot hr => by
  exact (pds_cons (ds_asgNH 1 sc__law_named.nd (pn_lst (pda_cons (pd_isX 0 hot hm (T.xk c hc C hm) T.ix_BadKinds T.f_isinstance) (pda_cons (pd_isX 0 hot hm (T.xk c hc C hm) T.ix_NoSingle T.f_isinstance) (pda_cons (pd_isX 0 hot hm (T.xk c hc C hm) T.ix_BadOffer T.f_isinstance) (pda_cons (pd_isX 0 hot hm (T.xk c hc C hm) T.ix_BadBasket T.f_isinstance) pda_nil))))))
  (pds_cons (ds_asgH 1 sc__law_named.nd (pd_add (pd_var 1) (pd_frz (pn_lst (pda_cons (pd_isX 0 hot hm (T.xk c hc C hm) T.ix_BadPlace T.f_isinstance) (pda_cons (pd_isX 0 hot hm (T.xk c hc C hm) T.ix_BadOrder T.f_isinstance) (pda_cons (pd_isX 0 hot hm (T.xk c hc C hm) T.ix_BadBill T.f_isinstance) (pda_cons (pd_isX 0 hot hm (T.xk c hc C hm) T.ix_BadPrices T.f_isinstance) pda_nil))))))))
  (pds_cons (ds_asgH 1 sc__law_named.nd (pd_add (pd_var 1) (pd_frz (pn_lst (pda_cons (pd_isX 0 hot hm (T.xk c hc C hm) T.ix_BadStock T.f_isinstance) (pda_cons (pd_isX 0 hot hm (T.xk c hc C hm) T.ix_BadNumber T.f_isinstance) (pda_cons (pd_isX 0 hot hm (T.xk c hc C hm) T.ix_BadText T.f_isinstance) (pda_cons (pd_isX 0 hot hm (T.xk c hc C hm) T.ix_BadCoins T.f_isinstance) pda_nil))))))))
  (pds_cons (ds_asgH 1 sc__law_named.nd (pd_add (pd_var 1) (pd_frz (pn_lst (pda_cons (pd_isX 0 hot hm (T.xk c hc C hm) T.ix_Unlike T.f_isinstance) (pda_cons (pd_isX 0 hot hm (T.xk c hc C hm) T.ix_NotOne T.f_isinstance) (pda_cons (pd_isX 0 hot hm (T.xk c hc C hm) T.ix_NothingToUndo T.f_isinstance) pda_nil)))))))
  (pds_cons (ds_asgNH 2 sc__law_named.nd (pn_lst (pda_cons pd_str (pda_cons pd_str (pda_cons pd_str (pda_cons pd_str (pda_cons pd_str (pda_cons pd_str (pda_cons pd_str (pda_cons pd_str pda_nil))))))))))
  (pds_cons (ds_asgH 2 sc__law_named.nd (pd_add (pd_var 2) (pd_frz (pn_lst (pda_cons pd_str (pda_cons pd_str (pda_cons pd_str (pda_cons pd_str (pda_cons pd_str (pda_cons pd_str (pda_cons pd_str pda_nil)))))))))))
  (pds_cons (ds_asgH 3 sc__law_named.nd (pd_tuple T.f_tuple (pd_frz (pn_lcH (E2 := EZ) [("at", 4)] sc__law_named.nd hot (pdi_rng1H T.f_range (pd_lenV 2 T.f_len)) (pg_varH 4 sc__law_named.nd) (tts_one (pt_of (pd_ixV 1 (pd_var 4)))) (pd_ixV 2 (pd_var 4))))))
  (pds_cons (ds_if (pt_of (pd_isX 0 hot hm (T.xk c hc C hm) T.ix_TooMany T.f_isinstance))
 (pds_one (ds_asgH 3 sc__law_named.nd (pd_add (pd_var 3) (pd_tup (pda_cons pd_str (pda_cons (pd_xf 0 hot (T.xk c hc C hm) (T.nf_limit c hc C hm)) pda_nil))))))
 pds_nil)
  (pds_cons (ds_if (pt_of (pd_isX 0 hot hm (T.xk c hc C hm) T.ix_TooGreat T.f_isinstance))
 (pds_one (ds_asgH 3 sc__law_named.nd (pd_add (pd_var 3) (pd_tup (pda_cons pd_str (pda_cons (pd_xf 0 hot (T.xk c hc C hm) (T.nf_limit c hc C hm)) pda_nil))))))
 pds_nil)
  (pds_one (ds_ret (pd_add (pd_var 3) (pd_tuple T.f_tuple (pd_frz (pn_lcH (E2 := EZ) [("k", 5)] sc__law_named.nd hot (pdi_rng1H T.f_range pd_int) (pg_varH 5 sc__law_named.nd) (tts_one (pt_of (pd_isX 0 (hot).blk hm (T.xk c hc C hm) T.ix_BadOffer T.f_isinstance))) (pd_xf 0 (hot).blk (T.xk c hc C hm) (T.nf_place c hc C hm)))))))))))))))))) hd a c C d hm
/-! ### check_alike -/
def N_check_alike : List Str := ["one", "other"]
theorem sc_check_alike : FnScope N_check_alike ["one", "other"] (defScope s_check_alike) := ⟨rfl, rfl, rfl, by decide +kernel, rfl, by decide +kernel, by decide +kernel⟩
def ds_check_alike : DS :=
 (dIf (dTest (dBin fNe (dFldO 0 ["Book"] "kinds") (dFldO 1 ["Book"] "kinds")))
 (dRaise0 "Unlike")
 dNext)
theorem w_check_alike {P : Program} {w : World} {K : PySem.W.Frag} {mg : Str → Option Value} {base : Heap} {f : Addr} {fd : FuncData} {k : Nat} {dsp : DSp} (T : Tg K mg) (F : FunD K "check_alike" "check_alike" (defArgs s_check_alike) (defBody s_check_alike) (defScope s_check_alike) [] [] f fd)
    (hlen : ∀ as Q' Ē, dsp as Q' Ē → as.length = 2) (hd : ∀ as Q' Ē, dsp as Q' Ē → ∃ Ē2 : XD, (∀ e' c fs, Ē2 e' c fs → Ē (retA as e') c fs) ∧ ds_check_alike Ē2 { nx := fun e' => Q' .non (retA as e'), rt := fun d e' => Q' d (retA as e') } (as ++ List.replicate (N_check_alike.length - as.length) .no)) :
    FnOk P w K mg base (L2N.CX P w) (k + 1) f fd ["one", "other"] (spOfX K mg dsp) := by
  refine fn_okX F sc_check_alike hlen (by decide) (fun cdv A outer s H E hr tk po => ?_) hd
  have g : Good (cxOf (L2N.CX P w) P w K mg base N_check_alike "check_alike" (defScope s_check_alike) f cdv A outer s H E) k := ⟨rfl, hr, sc_check_alike.nd⟩
  exact (pds_one (ds_if (tt_ne g (pd_fldO 0 ["Book"] T.a_kinds) (pd_fldO 1 ["Book"] T.a_kinds))
 (pds_one (ds_raise0 tk g T.xr_Unlike))
 pds_nil))
/-! ### lies_below -/
def N_lies_below : List Str := ["value", "top", "number", "most"]
theorem sc_lies_below : FnScope N_lies_below ["value", "top"] (defScope s_lies_below) := ⟨rfl, rfl, rfl, by decide +kernel, rfl, by decide +kernel, by decide +kernel⟩
def ds_lies_below : DS :=
 (dSeq (dIf (dOr (dNot (dTest (dUn (fIsTy .tuple) (dVar 0)))) (dTest (dBin fNe (dOwnL 0 fLen (dCB fLen (dCons (dVar 0) dNil))) (dOwnL 1 fLen (dCB fLen (dCons (dVar 1) dNil))))))
 (dRet (dC (.bl false)))
 dNext)
  (dSeq (dFor (dZip (dVar 0) (dVar 1)) (gTupD 2 (gsCons (gVar 2) (gsCons (gVar 3) gsNil)))
 (dSeq (dIf (dOr (dTest (dUn (fIsTy .bool) (dVar 2))) (dNot (dTest (dUn (fIsTy .int) (dVar 2)))))
 (dRet (dC (.bl false)))
 dNext)
  (dIf (dOr (dTest (dBin fLt (dVar 2) (dC (.int 0)))) (dTest (dBin fGt (dVar 2) (dVar 3))))
 (dRet (dC (.bl false)))
 dNext)))
  (dRet (dC (.bl true)))))
theorem w_lies_below {P : Program} {w : World} {K : PySem.W.Frag} {mg : Str → Option Value} {base : Heap} {f : Addr} {fd : FuncData} {k : Nat} {dsp : DSp} (T : Tg K mg) (F : FunD K "lies_below" "lies_below" (defArgs s_lies_below) (defBody s_lies_below) (defScope s_lies_below) [] [] f fd)
    (hlen : ∀ as Q' Ē, dsp as Q' Ē → as.length = 2) (hd : ∀ as Q' Ē, dsp as Q' Ē → ∃ Ē2 : XD, (∀ e' c fs, Ē2 e' c fs → Ē (retA as e') c fs) ∧ ds_lies_below Ē2 { nx := fun e' => Q' .non (retA as e'), rt := fun d e' => Q' d (retA as e') } (as ++ List.replicate (N_lies_below.length - as.length) .no)) :
    FnOk P w K mg base (L2N.CX P w) (k + 1) f fd ["value", "top"] (spOfX K mg dsp) := by
  refine fn_okX F sc_lies_below hlen (by decide) (fun cdv A outer s H E hr tk po => ?_) hd
  have g : Good (cxOf (L2N.CX P w) P w K mg base N_lies_below "lies_below" (defScope s_lies_below) f cdv A outer s H E) k := ⟨rfl, hr, sc_lies_below.nd⟩
  exact (pds_cons (ds_if (PDW.pt (tw_or (tt_not (pt_of (pd_isi .tuple T.f_isinstance T.f_tuple (by kernel_rfl) (pd_var 0)))) (tw_or1 (tt_ne g (pd_lenV 0 T.f_len) (pd_lenV 1 T.f_len)))))
 (pds_one (ds_ret pd_bl))
 pds_nil)
  (pds_cons (ds_for g po (pdi_zip T.f_zip (pd_var 0) (pd_var 1)) (pgd_tup g (pgd_cons (pg_var 2 g) (pgd_cons (pg_var 3 g) pgd_nil)))
 (pds_cons (ds_if (PDW.pt (tw_or (pt_of (pd_isi .bool T.f_isinstance T.f_bool (by kernel_rfl) (pd_var 2))) (tw_or1 (tt_not (pt_of (pd_isi .int T.f_isinstance T.f_int (by kernel_rfl) (pd_var 2)))))))
 (pds_one (ds_ret pd_bl))
 pds_nil)
  (pds_one (ds_if (PDW.pt (tw_or (tt_lt (pd_var 2) pd_int) (tw_or1 (tt_gt (pd_var 2) (pd_var 3)))))
 (pds_one (ds_ret pd_bl))
 pds_nil))))
  (pds_one (ds_ret pd_bl))))
/-! ### Table_call -/
def N_Table_call : List Str := ["self", "x"]
theorem sc_Table_call : FnScope N_Table_call ["self", "x"] (defScope s_Table_call) := ⟨rfl, rfl, rfl, by decide +kernel, rfl, by decide +kernel, by decide +kernel⟩
def ds_Table_call (c_lies_below : DSp) (c_spot : DSp) : DS :=
 (dSeq (dIf (dNot (dTest (dCallX c_lies_below (dCons (dVar 1) (dCons (dFldO 0 ["Table"] "top") dNil)))))
 (dRaise0 "BadBasket")
 dNext)
  (dRet (dBin fIx (dFldO 0 ["Table"] "worth_row") (dCallX c_spot (dCons (dVar 1) (dCons (dFldO 0 ["Table"] "stride_row") dNil))))))
theorem w_Table_call {P : Program} {w : World} {K : PySem.W.Frag} {mg : Str → Option Value} {base : Heap} {f : Addr} {fd : FuncData} {k : Nat} {dsp : DSp} {c_lies_below : DSp} {c_spot : DSp} {l_lies_below l_spot : Nat} (T : Tg K mg) (F : FunD K "__call__" "Table.__call__" (defArgs s_Table_call) (defBody s_Table_call) (defScope s_Table_call) [] [] f fd) (F_lies_below : FnX P w K mg base l_lies_below "lies_below" c_lies_below) (h_lies_below : l_lies_below ≤ k) (F_spot : FnX P w K mg base l_spot "spot" c_spot) (h_spot : l_spot ≤ k)
    (hlen : ∀ as Q' Ē, dsp as Q' Ē → as.length = 2) (hd : ∀ as Q' Ē, dsp as Q' Ē → ∃ Ē2 : XD, (∀ e' c fs, Ē2 e' c fs → Ē (retA as e') c fs) ∧ ds_Table_call c_lies_below c_spot Ē2 { nx := fun e' => Q' .non (retA as e'), rt := fun d e' => Q' d (retA as e') } (as ++ List.replicate (N_Table_call.length - as.length) .no)) :
    FnOk P w K mg base (L2N.CX P w) (k + 1) f fd ["self", "x"] (spOfX K mg dsp) := by
  refine fn_okX F sc_Table_call hlen (by decide) (fun cdv A outer s H E hr tk po => ?_) hd
  have g : Good (cxOf (L2N.CX P w) P w K mg base N_Table_call "Table.__call__" (defScope s_Table_call) f cdv A outer s H E) k := ⟨rfl, hr, sc_Table_call.nd⟩
  exact (pds_cons (ds_if (tt_not (pt_of (pd_callX tk F_lies_below g (pda_cons (pd_var 1) (pda_cons (pd_fldO 0 ["Table"] T.a_top) pda_nil)) (hl := h_lies_below))))
 (pds_one (ds_raise0 tk g T.xr_BadBasket))
 pds_nil)
  (pds_one (ds_ret (pd_ix (pd_fldO 0 ["Table"] T.a_worth_row) (pd_callX tk F_spot g (pda_cons (pd_var 1) (pda_cons (pd_fldO 0 ["Table"] T.a_stride_row) pda_nil)) (hl := h_spot))))))
/-! ### cheapest_price -/
def N_cheapest_price : List Str := ["book", "x", "known"]
theorem sc_cheapest_price : FnScope N_cheapest_price ["book", "x"] (defScope s_cheapest_price) := ⟨rfl, rfl, rfl, by decide +kernel, rfl, by decide +kernel, by decide +kernel⟩
def ds_cheapest_price (c_Table_init : DSp) (c_Table_call : DSp) : DS :=
 (dSeq (dAsg 2 (dMakeX "Table" c_Table_init (dCons (dVar 0) (dCons (dVar 1) dNil))))
  (dRet (dCallO "Table" c_Table_call (dVar 2) (dCons (dVar 1) dNil))))
theorem w_cheapest_price {P : Program} {w : World} {K : PySem.W.Frag} {mg : Str → Option Value} {base : Heap} {f : Addr} {fd : FuncData} {k : Nat} {dsp : DSp} {c_Table_init : DSp} {c_Table_call : DSp} {l_Table_init l_Table_call : Nat} (T : Tg K mg) (F : FunD K "cheapest_price" "cheapest_price" (defArgs s_cheapest_price) (defBody s_cheapest_price) (defScope s_cheapest_price) [] [] f fd) (F_Table_init : FnXM P w K mg base l_Table_init "Table" "__init__" c_Table_init) (h_Table_init : l_Table_init < k) (F_Table_call : FnXM P w K mg base l_Table_call "Table" "__call__" c_Table_call) (h_Table_call : l_Table_call ≤ k)
    (hlen : ∀ as Q' Ē, dsp as Q' Ē → as.length = 2) (hd : ∀ as Q' Ē, dsp as Q' Ē → ∃ Ē2 : XD, (∀ e' c fs, Ē2 e' c fs → Ē (retA as e') c fs) ∧ ds_cheapest_price c_Table_init c_Table_call Ē2 { nx := fun e' => Q' .non (retA as e'), rt := fun d e' => Q' d (retA as e') } (as ++ List.replicate (N_cheapest_price.length - as.length) .no)) :
    FnOk P w K mg base (L2N.CX P w) (k + 1) f fd ["book", "x"] (spOfX K mg dsp) := by
  refine fn_okX F sc_cheapest_price hlen (by decide) (fun cdv A outer s H E hr tk po => ?_) hd
  have g : Good (cxOf (L2N.CX P w) P w K mg base N_cheapest_price "cheapest_price" (defScope s_cheapest_price) f cdv A outer s H E) k := ⟨rfl, hr, sc_cheapest_price.nd⟩
  exact (pds_cons (ds_asg 2 g (pd_makeX (k := k - 1) tk F_Table_init (g.mono (by omega)) (pda_cons (pd_var 0) (pda_cons (pd_var 1) pda_nil)) (hl := (by omega))))
  (pds_one (ds_ret (pd_callO F_Table_call.fn g (pd_var 2) (pda_cons (pd_var 1) pda_nil) (hl := h_Table_call)))))
/-! ### dearer_place -/
def N_dearer_place : List Str := ["one", "other", "place", "bundle", "price"]
theorem sc_dearer_place : FnScope N_dearer_place ["one", "other"] (defScope s_dearer_place) := ⟨rfl, rfl, rfl, by decide +kernel, rfl, by decide +kernel, by decide +kernel⟩
def ds_dearer_place (c_check_alike : DSp) (c_cheapest_price : DSp) : DS :=
 (dSeq (dDrop (dCallX c_check_alike (dCons (dVar 0) (dCons (dVar 1) dNil))))
  (dSeq (dFor (dEnum (dFldO 1 ["Book"] "offers")) (gTupD 2 (gsCons (gVar 2) (gsCons (gTupD 2 (gsCons (gVar 3) (gsCons (gVar 4) gsNil))) gsNil)))
 (dIf (dTest (dBin fGt (dCallX c_cheapest_price (dCons (dVar 0) (dCons (dVar 3) dNil))) (dVar 4)))
 (dRet (dVar 2))
 dNext))
  (dRet (dC .non))))
theorem w_dearer_place {P : Program} {w : World} {K : PySem.W.Frag} {mg : Str → Option Value} {base : Heap} {f : Addr} {fd : FuncData} {k : Nat} {dsp : DSp} {c_check_alike : DSp} {c_cheapest_price : DSp} {l_check_alike l_cheapest_price : Nat} (T : Tg K mg) (F : FunD K "dearer_place" "dearer_place" (defArgs s_dearer_place) (defBody s_dearer_place) (defScope s_dearer_place) [] [] f fd) (F_check_alike : FnX P w K mg base l_check_alike "check_alike" c_check_alike) (h_check_alike : l_check_alike ≤ k) (F_cheapest_price : FnX P w K mg base l_cheapest_price "cheapest_price" c_cheapest_price) (h_cheapest_price : l_cheapest_price ≤ k)
    (hlen : ∀ as Q' Ē, dsp as Q' Ē → as.length = 2) (hd : ∀ as Q' Ē, dsp as Q' Ē → ∃ Ē2 : XD, (∀ e' c fs, Ē2 e' c fs → Ē (retA as e') c fs) ∧ ds_dearer_place c_check_alike c_cheapest_price Ē2 { nx := fun e' => Q' .non (retA as e'), rt := fun d e' => Q' d (retA as e') } (as ++ List.replicate (N_dearer_place.length - as.length) .no)) :
    FnOk P w K mg base (L2N.CX P w) (k + 1) f fd ["one", "other"] (spOfX K mg dsp) := by
  refine fn_okX F sc_dearer_place hlen (by decide) (fun cdv A outer s H E hr tk po => ?_) hd
  have g : Good (cxOf (L2N.CX P w) P w K mg base N_dearer_place "dearer_place" (defScope s_dearer_place) f cdv A outer s H E) k := ⟨rfl, hr, sc_dearer_place.nd⟩
  exact (pds_cons (ds_expr (pd_callX tk F_check_alike g (pda_cons (pd_var 0) (pda_cons (pd_var 1) pda_nil)) (hl := h_check_alike)))
  (pds_cons (ds_for g po (pdi_enum T.f_enumerate (pd_fldO 1 ["Book"] T.a_offers)) (pgd_tup g (pgd_cons (pg_var 2 g) (pgd_cons (pgd_tup g (pgd_cons (pg_var 3 g) (pgd_cons (pg_var 4 g) pgd_nil))) pgd_nil)))
 (pds_one (ds_if (tt_gt (pd_callX tk F_cheapest_price g (pda_cons (pd_var 0) (pda_cons (pd_var 3) pda_nil)) (hl := h_cheapest_price)) (pd_var 4))
 (pds_one (ds_ret (pd_var 2)))
 pds_nil)))
  (pds_one (ds_ret pd_non))))
/-! ### is_never_dearer -/
def N_is_never_dearer : List Str := ["one", "other"]
theorem sc_is_never_dearer : FnScope N_is_never_dearer ["one", "other"] (defScope s_is_never_dearer) := ⟨rfl, rfl, rfl, by decide +kernel, rfl, by decide +kernel, by decide +kernel⟩
def ds_is_never_dearer (c_dearer_place : DSp) : DS :=
 (dRet (fIsN (dCallX c_dearer_place (dCons (dVar 0) (dCons (dVar 1) dNil)))))
theorem w_is_never_dearer {P : Program} {w : World} {K : PySem.W.Frag} {mg : Str → Option Value} {base : Heap} {f : Addr} {fd : FuncData} {k : Nat} {dsp : DSp} {c_dearer_place : DSp} {l_dearer_place : Nat} (T : Tg K mg) (F : FunD K "is_never_dearer" "is_never_dearer" (defArgs s_is_never_dearer) (defBody s_is_never_dearer) (defScope s_is_never_dearer) [] [] f fd) (F_dearer_place : FnX P w K mg base l_dearer_place "dearer_place" c_dearer_place) (h_dearer_place : l_dearer_place ≤ k)
    (hlen : ∀ as Q' Ē, dsp as Q' Ē → as.length = 2) (hd : ∀ as Q' Ē, dsp as Q' Ē → ∃ Ē2 : XD, (∀ e' c fs, Ē2 e' c fs → Ē (retA as e') c fs) ∧ ds_is_never_dearer c_dearer_place Ē2 { nx := fun e' => Q' .non (retA as e'), rt := fun d e' => Q' d (retA as e') } (as ++ List.replicate (N_is_never_dearer.length - as.length) .no)) :
    FnOk P w K mg base (L2N.CX P w) (k + 1) f fd ["one", "other"] (spOfX K mg dsp) := by
  refine fn_okX F sc_is_never_dearer hlen (by decide) (fun cdv A outer s H E hr tk po => ?_) hd
  have g : Good (cxOf (L2N.CX P w) P w K mg base N_is_never_dearer "is_never_dearer" (defScope s_is_never_dearer) f cdv A outer s H E) k := ⟨rfl, hr, sc_is_never_dearer.nd⟩
  exact (pds_one (ds_ret (pd_isN (pd_callX tk F_dearer_place g (pda_cons (pd_var 0) (pda_cons (pd_var 1) pda_nil)) (hl := h_dearer_place)))))
/-! ### compare_word -/
def N_compare_word : List Str := ["one", "other", "less", "more"]
theorem sc_compare_word : FnScope N_compare_word ["one", "other"] (defScope s_compare_word) := ⟨rfl, rfl, rfl, by decide +kernel, rfl, by decide +kernel, by decide +kernel⟩
def ds_compare_word (c_is_never_dearer : DSp) : DS :=
 (dSeq (dAsg 2 (dCallX c_is_never_dearer (dCons (dVar 0) (dCons (dVar 1) dNil))))
  (dSeq (dAsg 3 (dCallX c_is_never_dearer (dCons (dVar 1) (dCons (dVar 0) dNil))))
  (dSeq (dIf (dAnd (dTest (dVar 2)) (dTest (dVar 3)))
 (dRet (dC (.str "same")))
 dNext)
  (dSeq (dIf (dTest (dVar 2))
 (dRet (dC (.str "less")))
 dNext)
  (dSeq (dIf (dTest (dVar 3))
 (dRet (dC (.str "more")))
 dNext)
  (dRet (dC (.str "apart"))))))))
theorem w_compare_word {P : Program} {w : World} {K : PySem.W.Frag} {mg : Str → Option Value} {base : Heap} {f : Addr} {fd : FuncData} {k : Nat} {dsp : DSp} {c_is_never_dearer : DSp} {l_is_never_dearer : Nat} (T : Tg K mg) (F : FunD K "compare_word" "compare_word" (defArgs s_compare_word) (defBody s_compare_word) (defScope s_compare_word) [] [] f fd) (F_is_never_dearer : FnX P w K mg base l_is_never_dearer "is_never_dearer" c_is_never_dearer) (h_is_never_dearer : l_is_never_dearer ≤ k)
    (hlen : ∀ as Q' Ē, dsp as Q' Ē → as.length = 2) (hd : ∀ as Q' Ē, dsp as Q' Ē → ∃ Ē2 : XD, (∀ e' c fs, Ē2 e' c fs → Ē (retA as e') c fs) ∧ ds_compare_word c_is_never_dearer Ē2 { nx := fun e' => Q' .non (retA as e'), rt := fun d e' => Q' d (retA as e') } (as ++ List.replicate (N_compare_word.length - as.length) .no)) :
    FnOk P w K mg base (L2N.CX P w) (k + 1) f fd ["one", "other"] (spOfX K mg dsp) := by
  refine fn_okX F sc_compare_word hlen (by decide) (fun cdv A outer s H E hr tk po => ?_) hd
  have g : Good (cxOf (L2N.CX P w) P w K mg base N_compare_word "compare_word" (defScope s_compare_word) f cdv A outer s H E) k := ⟨rfl, hr, sc_compare_word.nd⟩
  exact (pds_cons (ds_asg 2 g (pd_callX tk F_is_never_dearer g (pda_cons (pd_var 0) (pda_cons (pd_var 1) pda_nil)) (hl := h_is_never_dearer)))
  (pds_cons (ds_asg 3 g (pd_callX tk F_is_never_dearer g (pda_cons (pd_var 1) (pda_cons (pd_var 0) pda_nil)) (hl := h_is_never_dearer)))
  (pds_cons (ds_if (PDW.pt (tw_and (pt_of (pd_var 2)) (tw_and1 (pt_of (pd_var 3)))))
 (pds_one (ds_ret pd_str))
 pds_nil)
  (pds_cons (ds_if (pt_of (pd_var 2))
 (pds_one (ds_ret pd_str))
 pds_nil)
  (pds_cons (ds_if (pt_of (pd_var 3))
 (pds_one (ds_ret pd_str))
 pds_nil)
  (pds_one (ds_ret pd_str)))))))
/-! ### _law_told -/
def N__law_told : List Str := ["way", "one", "other", "e"]
theorem sc__law_told : FnScope N__law_told ["way", "one", "other"] (defScope s__law_told) := ⟨rfl, rfl, rfl, by decide +kernel, rfl, by decide +kernel, by decide +kernel⟩
def ds__law_told (c_dearer_place : DSp) (c_is_never_dearer : DSp) (c_compare_word : DSp) (c_same_prices : DSp) (c__law_named : HSp) : DS :=
 (dTryA 3 ["Unlike"] [] (dSeq (dIf (dTest (dBin fEq (dVar 0) (dC (.int 0))))
 (dRet (dFrz (dLst (dCons (dCallX c_dearer_place (dCons (dVar 1) (dCons (dVar 2) dNil))) dNil))))
 dNext)
  (dSeq (dIf (dTest (dBin fEq (dVar 0) (dC (.int 1))))
 (dRet (dFrz (dLst (dCons (dCallX c_is_never_dearer (dCons (dVar 1) (dCons (dVar 2) dNil))) dNil))))
 dNext)
  (dSeq (dIf (dTest (dBin fEq (dVar 0) (dC (.int 2))))
 (dRet (dFrz (dLst (dCons (dCallX c_compare_word (dCons (dVar 1) (dCons (dVar 2) dNil))) dNil))))
 dNext)
  (dRet (dFrz (dLst (dCons (dCallX c_same_prices (dCons (dVar 1) (dCons (dVar 2) dNil))) dNil)))))))
 (fun a c d => (dRet (dCallHot 3 c__law_named a c d))))
theorem w__law_told {P : Program} {w : World} {K : PySem.W.Frag} {mg : Str → Option Value} {base : Heap} {f : Addr} {fd : FuncData} {k : Nat} {dsp : DSp} {c_dearer_place : DSp} {c_is_never_dearer : DSp} {c_compare_word : DSp} {c_same_prices : DSp} {c__law_named : HSp} {l_dearer_place l_is_never_dearer l_compare_word l_same_prices l__law_named : Nat} (T : Tg K mg) (F : FunD K "_law_told" "_law_told" (defArgs s__law_told) (defBody s__law_told) (defScope s__law_told) [] [] f fd) (F_dearer_place : FnX P w K mg base l_dearer_place "dearer_place" c_dearer_place) (h_dearer_place : l_dearer_place ≤ k) (F_is_never_dearer : FnX P w K mg base l_is_never_dearer "is_never_dearer" c_is_never_dearer) (h_is_never_dearer : l_is_never_dearer ≤ k) (F_compare_word : FnX P w K mg base l_compare_word "compare_word" c_compare_word) (h_compare_word : l_compare_word ≤ k) (F_same_prices : FnX P w K mg base l_same_prices "same_prices" c_same_prices) (h_same_prices : l_same_prices ≤ k) (F__law_named : FnHot P w K mg base l__law_named "_law_named" c__law_named) (h__law_named : l__law_named ≤ k)
    (hlen : ∀ as Q' Ē, dsp as Q' Ē → as.length = 3) (hd : ∀ as Q' Ē, dsp as Q' Ē → ∃ Ē2 : XD, (∀ e' c fs, Ē2 e' c fs → Ē (retA as e') c fs) ∧ ds__law_told c_dearer_place c_is_never_dearer c_compare_word c_same_prices c__law_named Ē2 { nx := fun e' => Q' .non (retA as e'), rt := fun d e' => Q' d (retA as e') } (as ++ List.replicate (N__law_told.length - as.length) .no)) :
    FnOk P w K mg base (L2N.CX P w) (k + 1) f fd ["way", "one", "other"] (spOfX K mg dsp) := by
  refine fn_okX F sc__law_told hlen (by decide) (fun cdv A outer s H E hr tk po => ?_) hd
  have g : Good (cxOf (L2N.CX P w) P w K mg base N__law_told "_law_told" (defScope s__law_told) f cdv A outer s H E) k := ⟨rfl, hr, sc__law_told.nd⟩
  exact (pds_one (ds_tryA 3 sc__law_told.nd tk T.ca_TillError (fun W tk po => (pds_cons (ds_if (tt_eq g (pd_var 0) pd_int)
 (pds_one (ds_ret (pd_frz (pn_lst (pda_cons (pd_callX tk F_dearer_place g (pda_cons (pd_var 1) (pda_cons (pd_var 2) pda_nil)) (hl := h_dearer_place)) pda_nil)))))
 pds_nil)
  (pds_cons (ds_if (tt_eq g (pd_var 0) pd_int)
 (pds_one (ds_ret (pd_frz (pn_lst (pda_cons (pd_callX tk F_is_never_dearer g (pda_cons (pd_var 1) (pda_cons (pd_var 2) pda_nil)) (hl := h_is_never_dearer)) pda_nil)))))
 pds_nil)
  (pds_cons (ds_if (tt_eq g (pd_var 0) pd_int)
 (pds_one (ds_ret (pd_frz (pn_lst (pda_cons (pd_callX tk F_compare_word g (pda_cons (pd_var 1) (pda_cons (pd_var 2) pda_nil)) (hl := h_compare_word)) pda_nil)))))
 pds_nil)
  (pds_one (ds_ret (pd_frz (pn_lst (pda_cons (pd_callX tk F_same_prices g (pda_cons (pd_var 1) (pda_cons (pd_var 2) pda_nil)) (hl := h_same_prices)) pda_nil)))))))))
 (fun a c d C hc hm => (pds_one (ds_ret (pd_callHot 3 hotV_su hm F__law_named (L2H.roomH_mark g.room _) (hl := h__law_named)))))))
/-! ### _law_dues -/
def N__law_dues : List Str := ["there", "back", "word"]
theorem sc__law_dues : FnScope N__law_dues ["there", "back"] (defScope s__law_dues) := ⟨rfl, rfl, rfl, by decide +kernel, rfl, by decide +kernel, by decide +kernel⟩
def ds__law_dues : DS :=
 (dSeq (dAsg 2 (dC (.str "apart")))
  (dSeq (dIf (dAnd (dTest (fIsN (dVar 0))) (dTest (fIsN (dVar 1))))
 (dAsg 2 (dC (.str "same")))
 (dIf (dTest (fIsN (dVar 0)))
 (dAsg 2 (dC (.str "less")))
 (dIf (dTest (fIsN (dVar 1)))
 (dAsg 2 (dC (.str "more")))
 dNext)))
  (dRet (dFrz (dLst (dCons (dFrz (dLst (dCons (dVar 0) dNil))) (dCons (dFrz (dLst (dCons (fIsN (dVar 0)) dNil))) (dCons (dFrz (dLst (dCons (dVar 2) dNil))) (dCons (dFrz (dLst (dCons (dBin fEq (dVar 2) (dC (.str "same"))) dNil))) dNil)))))))))
theorem w__law_dues {P : Program} {w : World} {K : PySem.W.Frag} {mg : Str → Option Value} {base : Heap} {f : Addr} {fd : FuncData} {k : Nat} {dsp : DSp} (T : Tg K mg) (F : FunD K "_law_dues" "_law_dues" (defArgs s__law_dues) (defBody s__law_dues) (defScope s__law_dues) [] [] f fd)
    (hlen : ∀ as Q' Ē, dsp as Q' Ē → as.length = 2) (hd : ∀ as Q' Ē, dsp as Q' Ē → ∃ Ē2 : XD, (∀ e' c fs, Ē2 e' c fs → Ē (retA as e') c fs) ∧ ds__law_dues Ē2 { nx := fun e' => Q' .non (retA as e'), rt := fun d e' => Q' d (retA as e') } (as ++ List.replicate (N__law_dues.length - as.length) .no)) :
    FnOk P w K mg base (L2N.CX P w) (k + 1) f fd ["there", "back"] (spOfX K mg dsp) := by
  refine fn_okX F sc__law_dues hlen (by decide) (fun cdv A outer s H E hr tk po => ?_) hd
  have g : Good (cxOf (L2N.CX P w) P w K mg base N__law_dues "_law_dues" (defScope s__law_dues) f cdv A outer s H E) k := ⟨rfl, hr, sc__law_dues.nd⟩
  exact (pds_cons (ds_asg 2 g pd_str)
  (pds_cons (ds_if (PDW.pt (tw_and (tt_isN (pd_var 0)) (tw_and1 (tt_isN (pd_var 1)))))
 (pds_one (ds_asg 2 g pd_str))
 (pds_one (ds_if (tt_isN (pd_var 0))
 (pds_one (ds_asg 2 g pd_str))
 (pds_one (ds_if (tt_isN (pd_var 1))
 (pds_one (ds_asg 2 g pd_str))
 pds_nil)))))
  (pds_one (ds_ret (pd_frz (pn_lst (pda_cons (pd_frz (pn_lst (pda_cons (pd_var 0) pda_nil))) (pda_cons (pd_frz (pn_lst (pda_cons (pd_isN (pd_var 0)) pda_nil))) (pda_cons (pd_frz (pn_lst (pda_cons (pd_var 2) pda_nil))) (pda_cons (pd_frz (pn_lst (pda_cons (pd_eq g (pd_var 2) pd_str) pda_nil))) pda_nil))))))))))
/-! ### least_list -/
def N_least_list : List Str := ["book"]
theorem sc_least_list : FnScope N_least_list ["book"] (defScope s_least_list) := ⟨rfl, rfl, rfl, by decide +kernel, rfl, by decide +kernel, by decide +kernel⟩
def ds_least_list (c_Book_init : DSp) (c_least_offers : DSp) : DS :=
 (dRet (dMakeX "Book" c_Book_init (dCons (dFldO 0 ["Book"] "kinds") (dCons (dCallX c_least_offers (dCons (dVar 0) dNil)) dNil))))
theorem w_least_list {P : Program} {w : World} {K : PySem.W.Frag} {mg : Str → Option Value} {base : Heap} {f : Addr} {fd : FuncData} {k : Nat} {dsp : DSp} {c_Book_init : DSp} {c_least_offers : DSp} {l_Book_init l_least_offers : Nat} (T : Tg K mg) (F : FunD K "least_list" "least_list" (defArgs s_least_list) (defBody s_least_list) (defScope s_least_list) [] [] f fd) (F_Book_init : FnXM P w K mg base l_Book_init "Book" "__init__" c_Book_init) (h_Book_init : l_Book_init < k) (F_least_offers : FnX P w K mg base l_least_offers "least_offers" c_least_offers) (h_least_offers : l_least_offers ≤ k)
    (hlen : ∀ as Q' Ē, dsp as Q' Ē → as.length = 1) (hd : ∀ as Q' Ē, dsp as Q' Ē → ∃ Ē2 : XD, (∀ e' c fs, Ē2 e' c fs → Ē (retA as e') c fs) ∧ ds_least_list c_Book_init c_least_offers Ē2 { nx := fun e' => Q' .non (retA as e'), rt := fun d e' => Q' d (retA as e') } (as ++ List.replicate (N_least_list.length - as.length) .no)) :
    FnOk P w K mg base (L2N.CX P w) (k + 1) f fd ["book"] (spOfX K mg dsp) := by
  refine fn_okX F sc_least_list hlen (by decide) (fun cdv A outer s H E hr tk po => ?_) hd
  have g : Good (cxOf (L2N.CX P w) P w K mg base N_least_list "least_list" (defScope s_least_list) f cdv A outer s H E) k := ⟨rfl, hr, sc_least_list.nd⟩
  exact (pds_one (ds_ret (pd_makeX (k := k - 1) tk F_Book_init (g.mono (by omega)) (pda_cons (pd_fldO 0 ["Book"] T.a_kinds) (pda_cons (pd_callX tk F_least_offers g (pda_cons (pd_var 0) pda_nil) (hl := h_least_offers)) pda_nil)) (hl := (by omega)))))
/-! ### _law_parts -/
def N__law_parts : List Str := ["value"]
theorem sc__law_parts : FnScope N__law_parts ["value"] (defScope s__law_parts) := ⟨rfl, rfl, rfl, by decide +kernel, rfl, by decide +kernel, by decide +kernel⟩
def ds__law_parts : DS :=
 (dSeq (dIf (dNot (dTest (dIsC "Book" (dVar 0))))
 (dRet (dC .non))
 dNext)
  (dRet (dTup (dCons (dFldO 0 ["Book"] "kinds") (dCons (dFldO 0 ["Book"] "offers") dNil)))))
theorem w__law_parts {P : Program} {w : World} {K : PySem.W.Frag} {mg : Str → Option Value} {base : Heap} {f : Addr} {fd : FuncData} {k : Nat} {dsp : DSp} (T : Tg K mg) (F : FunD K "_law_parts" "_law_parts" (defArgs s__law_parts) (defBody s__law_parts) (defScope s__law_parts) [] [] f fd)
    (hlen : ∀ as Q' Ē, dsp as Q' Ē → as.length = 1) (hd : ∀ as Q' Ē, dsp as Q' Ē → ∃ Ē2 : XD, (∀ e' c fs, Ē2 e' c fs → Ē (retA as e') c fs) ∧ ds__law_parts Ē2 { nx := fun e' => Q' .non (retA as e'), rt := fun d e' => Q' d (retA as e') } (as ++ List.replicate (N__law_parts.length - as.length) .no)) :
    FnOk P w K mg base (L2N.CX P w) (k + 1) f fd ["value"] (spOfX K mg dsp) := by
  refine fn_okX F sc__law_parts hlen (by decide) (fun cdv A outer s H E hr tk po => ?_) hd
  have g : Good (cxOf (L2N.CX P w) P w K mg base N__law_parts "_law_parts" (defScope s__law_parts) f cdv A outer s H E) k := ⟨rfl, hr, sc__law_parts.nd⟩
  exact (pds_cons (ds_if (tt_not (pt_of (pd_isC T.is_Book T.f_isinstance (pd_var 0))))
 (pds_one (ds_ret pd_non))
 pds_nil)
  (pds_one (ds_ret (pd_tup (pda_cons (pd_fldO 0 ["Book"] T.a_kinds) (pda_cons (pd_fldO 0 ["Book"] T.a_offers) pda_nil))))))
/-! ### Book_eq -/
def N_Book_eq : List Str := ["self", "other"]
theorem sc_Book_eq : FnScope N_Book_eq ["self", "other"] (defScope s_Book_eq) := ⟨rfl, rfl, rfl, by decide +kernel, rfl, by decide +kernel, by decide +kernel⟩
def ds_Book_eq : DS :=
 (dRet (dAndV (dIsC "Book" (dVar 1)) (dAndV (dBin fEq (dFldO 0 ["Book"] "kinds") (dFldO 1 ["Book"] "kinds")) (dBin fEq (dFldO 0 ["Book"] "offers") (dFldO 1 ["Book"] "offers")))))
theorem w_Book_eq {P : Program} {w : World} {K : PySem.W.Frag} {mg : Str → Option Value} {base : Heap} {f : Addr} {fd : FuncData} {k : Nat} {dsp : DSp} (T : Tg K mg) (F : FunD K "__eq__" "Book.__eq__" (defArgs s_Book_eq) (defBody s_Book_eq) (defScope s_Book_eq) [] [] f fd)
    (hlen : ∀ as Q' Ē, dsp as Q' Ē → as.length = 2) (hd : ∀ as Q' Ē, dsp as Q' Ē → ∃ Ē2 : XD, (∀ e' c fs, Ē2 e' c fs → Ē (retA as e') c fs) ∧ ds_Book_eq Ē2 { nx := fun e' => Q' .non (retA as e'), rt := fun d e' => Q' d (retA as e') } (as ++ List.replicate (N_Book_eq.length - as.length) .no)) :
    FnOk P w K mg base (L2N.CX P w) (k + 1) f fd ["self", "other"] (spOfX K mg dsp) := by
  refine fn_okX F sc_Book_eq hlen (by decide) (fun cdv A outer s H E hr tk po => ?_) hd
  have g : Good (cxOf (L2N.CX P w) P w K mg base N_Book_eq "Book.__eq__" (defScope s_Book_eq) f cdv A outer s H E) k := ⟨rfl, hr, sc_Book_eq.nd⟩
  exact (pds_one (ds_ret (pd_and (pd_isC T.is_Book T.f_isinstance (pd_var 1)) (pd_and (pd_eq g (pd_fldO 0 ["Book"] T.a_kinds) (pd_fldO 1 ["Book"] T.a_kinds)) (pd_one (pd_eq g (pd_fldO 0 ["Book"] T.a_offers) (pd_fldO 1 ["Book"] T.a_offers)))))))
/-! ### law -/
def N_law : List Str := ["script", "store", "shapes", "both", "strange", "spots", "k", "there", "back", "one", "other", "stranger", "way", "least", "others", "same"]
theorem sc_law : FnScope N_law ["script"] (defScope s_law) := ⟨rfl, rfl, rfl, by decide +kernel, rfl, by decide +kernel, by decide +kernel⟩
def ds_law (c__law_store : DSp) (c__law_take : DSp) (c__law_pair_of_books : DSp) (c__law_stranger : DSp) (c__law_dearer : DSp) (c__law_made : DSp) (c__law_alike : DSp) (c__law_dues : DSp) (c__law_told : DSp) (c_least_list : DSp) (c_Book_eq : DSp) (c__law_parts : DSp) : DS :=
 (dSeq (dAsgN 1 (dCallN c__law_store (dCons (dVar 0) dNil)))
  (dSeq (dAsgN 2 (dLst (dCons (dTup (dCons (dC (.int 1)) (dCons (dC (.int 4)) (dCons (dC (.int 8)) dNil)))) (dCons (dTup (dCons (dC (.int 2)) (dCons (dC (.int 4)) (dCons (dC (.int 4)) dNil)))) (dCons (dTup (dCons (dC (.int 3)) (dCons (dC (.int 4)) (dCons (dC (.int 3)) dNil)))) (dCons (dTup (dCons (dC (.int 4)) (dCons (dC (.int 3)) (dCons (dC (.int 2)) dNil)))) (dCons (dTup (dCons (dC (.int 2)) (dCons (dC (.int 5)) (dCons (dC (.int 3)) dNil)))) (dCons (dTup (dCons (dC (.int 1)) (dCons (dC (.int 3)) (dCons (dC (.int 4)) dNil)))) dNil))))))))
  (dSeq (dIf (dTest (dBin fEq (dCallS 1 c__law_take (dCons (dC (.int 12)) dNil)) (dC (.int 0))))
 (dAsgN 2 (dLst (dCons (dTup (dCons (dC (.int 1)) (dCons (dC (.int 9)) (dCons (dC (.int 8)) dNil)))) (dCons (dTup (dCons (dC (.int 2)) (dCons (dC (.int 8)) (dCons (dC (.int 8)) dNil)))) (dCons (dTup (dCons (dC (.int 3)) (dCons (dC (.int 7)) (dCons (dC (.int 8)) dNil)))) (dCons (dTup (dCons (dC (.int 4)) (dCons (dC (.int 6)) (dCons (dC (.int 8)) dNil)))) dNil))))))
 dNext)
  (dSeq (dAsg 3 (dCallS 1 c__law_pair_of_books (dCons (dVar 2) dNil)))
  (dSeq (dAsg 4 (dCallS 1 c__law_stranger (dCons (dIxV 3 (dC (.int 0))) (dCons (dIxV 3 (dC (.int 2))) dNil))))
  (dSeq (dAsgN 5 (dLc (dRange1 (dC (.int 3))) (gVar 6) dYes (dCallS 1 c__law_take (dCons (dC (.int 4)) dNil)) [6]))
  (dSeq (dAsg 7 (dCallX c__law_dearer (dCons (dIxV 3 (dC (.int 1))) (dCons (dIxV 3 (dC (.int 2))) dNil))))
  (dSeq (dAsg 8 (dCallX c__law_dearer (dCons (dIxV 3 (dC (.int 2))) (dCons (dIxV 3 (dC (.int 1))) dNil))))
  (dSeq (dAsg 9 (dCallX c__law_made (dCons (dIxV 3 (dC (.int 0))) (dCons (dIxV 3 (dC (.int 1))) dNil))))
  (dSeq (dAsg 10 (dCallX c__law_made (dCons (dIxV 3 (dC (.int 0))) (dCons (dIxV 3 (dC (.int 2))) dNil))))
  (dSeq (dAsg 11 (dCallX c__law_made (dCons (dIxV 4 (dC (.int 0))) (dCons (dIxV 4 (dC (.int 1))) dNil))))
  (dSeq (dFor (dRange1 (dC (.int 4))) (gVar 12)
 (dSeq (dIf (dNot (dTest (dCallX c__law_alike (dCons (dCallX c__law_told (dCons (dVar 12) (dCons (dVar 9) (dCons (dVar 10) dNil)))) (dCons (dBin fIx (dCallX c__law_dues (dCons (dVar 7) (dCons (dVar 8) dNil))) (dVar 12)) dNil)))))
 (dRet (dC (.bl false)))
 dNext)
  (dSeq (dIf (dNot (dTest (dCallX c__law_alike (dCons (dCallX c__law_told (dCons (dVar 12) (dCons (dVar 10) (dCons (dVar 9) dNil)))) (dCons (dBin fIx (dCallX c__law_dues (dCons (dVar 8) (dCons (dVar 7) dNil))) (dVar 12)) dNil)))))
 (dRet (dC (.bl false)))
 dNext)
  (dSeq (dIf (dNot (dTest (dCallX c__law_alike (dCons (dCallX c__law_told (dCons (dVar 12) (dCons (dVar 9) (dCons (dVar 11) dNil)))) (dCons (dTup (dCons (dC (.str "Unlike")) dNil)) dNil)))))
 (dRet (dC (.bl false)))
 dNext)
  (dIf (dNot (dTest (dCallX c__law_alike (dCons (dCallX c__law_told (dCons (dVar 12) (dCons (dVar 11) (dCons (dVar 10) dNil)))) (dCons (dTup (dCons (dC (.str "Unlike")) dNil)) dNil)))))
 (dRet (dC (.bl false)))
 dNext)))))
  (dSeq (dAsg 13 (dCallX c_least_list (dCons (dVar 9) dNil)))
  (dSeq (dAsg 14 (dCallX c_least_list (dCons (dVar 10) dNil)))
  (dSeq (dAsg 15 (dAndV (fIsN (dVar 7)) (fIsN (dVar 8))))
  (dSeq (dIf (dOr (dTest (fIsN (dCallX c__law_parts (dCons (dVar 13) dNil)))) (dNot (dTest (dCallX c__law_alike (dCons (dFrz (dLst (dCons (dCmpO false "Book" c_Book_eq (dVar 13) (dVar 14)) (dCons (dCmpO true "Book" c_Book_eq (dVar 13) (dVar 14)) dNil)))) (dCons (dFrz (dLst (dCons (dVar 15) (dCons (dNotV (dVar 15)) dNil)))) dNil))))))
 (dRet (dC (.bl false)))
 dNext)
  (dSeq (dIf (dNot (dTest (dCallX c__law_alike (dCons (dCallX c__law_told (dCons (dIxV 5 (dC (.int 0))) (dCons (dVar 9) (dCons (dVar 13) dNil)))) (dCons (dBin fIx (dCallX c__law_dues (dCons (dC .non) (dCons (dC .non) dNil))) (dIxV 5 (dC (.int 0)))) dNil)))))
 (dRet (dC (.bl false)))
 dNext)
  (dSeq (dIf (dNot (dTest (dCallX c__law_alike (dCons (dCallX c__law_told (dCons (dIxV 5 (dC (.int 1))) (dCons (dVar 10) (dCons (dVar 10) dNil)))) (dCons (dBin fIx (dCallX c__law_dues (dCons (dC .non) (dCons (dC .non) dNil))) (dIxV 5 (dC (.int 1)))) dNil)))))
 (dRet (dC (.bl false)))
 dNext)
  (dSeq (dIf (dNot (dTest (dCallX c__law_alike (dCons (dCallX c__law_told (dCons (dIxV 5 (dC (.int 2))) (dCons (dVar 9) (dCons (dVar 10) dNil)))) (dCons (dBin fIx (dCallX c__law_dues (dCons (dVar 7) (dCons (dVar 8) dNil))) (dIxV 5 (dC (.int 2)))) dNil)))))
 (dRet (dC (.bl false)))
 dNext)
  (dRet (dAndV (dBin fEq (dCallX c__law_parts (dCons (dVar 9) dNil)) (dTup (dCons (dCB fTuple (dCons (dIxV 3 (dC (.int 0))) dNil)) (dCons (dCB fTuple (dCons (dIxV 3 (dC (.int 1))) dNil)) dNil)))) (dBin fEq (dCallX c__law_parts (dCons (dVar 10) dNil)) (dTup (dCons (dCB fTuple (dCons (dIxV 3 (dC (.int 0))) dNil)) (dCons (dCB fTuple (dCons (dIxV 3 (dC (.int 2))) dNil)) dNil)))))))))))))))))))))))))
theorem w_law {P : Program} {w : World} {K : PySem.W.Frag} {mg : Str → Option Value} {base : Heap} {f : Addr} {fd : FuncData} {k : Nat} {dsp : DSp} {c__law_store : DSp} {c__law_take : DSp} {c__law_pair_of_books : DSp} {c__law_stranger : DSp} {c__law_dearer : DSp} {c__law_made : DSp} {c__law_alike : DSp} {c__law_dues : DSp} {c__law_told : DSp} {c_least_list : DSp} {c_Book_eq : DSp} {c__law_parts : DSp} {l__law_store l__law_take l__law_pair_of_books l__law_stranger l__law_dearer l__law_made l__law_alike l__law_dues l__law_told l_least_list l_Book_eq l__law_parts : Nat} (T : Tg K mg) (F : FunD K "law" "law" (defArgs s_law) (defBody s_law) (defScope s_law) [] [] f fd) (F__law_store : FnX P w K mg base l__law_store "_law_store" c__law_store) (h__law_store : l__law_store ≤ k) (F__law_take : FnX P w K mg base l__law_take "_law_take" c__law_take) (h__law_take : l__law_take ≤ k) (F__law_pair_of_books : FnX P w K mg base l__law_pair_of_books "_law_pair_of_books" c__law_pair_of_books) (h__law_pair_of_books : l__law_pair_of_books ≤ k) (F__law_stranger : FnX P w K mg base l__law_stranger "_law_stranger" c__law_stranger) (h__law_stranger : l__law_stranger ≤ k) (F__law_dearer : FnX P w K mg base l__law_dearer "_law_dearer" c__law_dearer) (h__law_dearer : l__law_dearer ≤ k) (F__law_made : FnX P w K mg base l__law_made "_law_made" c__law_made) (h__law_made : l__law_made ≤ k) (F__law_alike : FnX P w K mg base l__law_alike "_law_alike" c__law_alike) (h__law_alike : l__law_alike ≤ k) (F__law_dues : FnX P w K mg base l__law_dues "_law_dues" c__law_dues) (h__law_dues : l__law_dues ≤ k) (F__law_told : FnX P w K mg base l__law_told "_law_told" c__law_told) (h__law_told : l__law_told ≤ k) (F_least_list : FnX P w K mg base l_least_list "least_list" c_least_list) (h_least_list : l_least_list ≤ k) (F_Book_eq : FnXM P w K mg base l_Book_eq "Book" "__eq__" c_Book_eq) (h_Book_eq : l_Book_eq < k) (F__law_parts : FnX P w K mg base l__law_parts "_law_parts" c__law_parts) (h__law_parts : l__law_parts ≤ k)
    (hlen : ∀ as Q' Ē, dsp as Q' Ē → as.length = 1) (hd : ∀ as Q' Ē, dsp as Q' Ē → ∃ Ē2 : XD, (∀ e' c fs, Ē2 e' c fs → Ē (retA as e') c fs) ∧ ds_law c__law_store c__law_take c__law_pair_of_books c__law_stranger c__law_dearer c__law_made c__law_alike c__law_dues c__law_told c_least_list c_Book_eq c__law_parts Ē2 { nx := fun e' => Q' .non (retA as e'), rt := fun d e' => Q' d (retA as e') } (as ++ List.replicate (N_law.length - as.length) .no)) :
    FnOk P w K mg base (L2N.CX P w) (k + 1) f fd ["script"] (spOfX K mg dsp) := by
  refine fn_okX F sc_law hlen (by decide) (fun cdv A outer s H E hr tk po => ?_) hd
  have g : Good (cxOf (L2N.CX P w) P w K mg base N_law "law" (defScope s_law) f cdv A outer s H E) k := ⟨rfl, hr, sc_law.nd⟩
  exact (pds_cons (ds_asgN 1 g (pn_callN F__law_store.fn g (pda_cons (pd_var 0) pda_nil) (hl := h__law_store)))
  (pds_cons (ds_asgN 2 g (pn_lst (pda_cons (pd_tup (pda_cons pd_int (pda_cons pd_int (pda_cons pd_int pda_nil)))) (pda_cons (pd_tup (pda_cons pd_int (pda_cons pd_int (pda_cons pd_int pda_nil)))) (pda_cons (pd_tup (pda_cons pd_int (pda_cons pd_int (pda_cons pd_int pda_nil)))) (pda_cons (pd_tup (pda_cons pd_int (pda_cons pd_int (pda_cons pd_int pda_nil)))) (pda_cons (pd_tup (pda_cons pd_int (pda_cons pd_int (pda_cons pd_int pda_nil)))) (pda_cons (pd_tup (pda_cons pd_int (pda_cons pd_int (pda_cons pd_int pda_nil)))) pda_nil))))))))
  (pds_cons (ds_if (tt_eq g (pd_callS 1 F__law_take.fn g (pda_cons pd_int pda_nil) (hl := h__law_take)) pd_int)
 (pds_one (ds_asgN 2 g (pn_lst (pda_cons (pd_tup (pda_cons pd_int (pda_cons pd_int (pda_cons pd_int pda_nil)))) (pda_cons (pd_tup (pda_cons pd_int (pda_cons pd_int (pda_cons pd_int pda_nil)))) (pda_cons (pd_tup (pda_cons pd_int (pda_cons pd_int (pda_cons pd_int pda_nil)))) (pda_cons (pd_tup (pda_cons pd_int (pda_cons pd_int (pda_cons pd_int pda_nil)))) pda_nil)))))))
 pds_nil)
  (pds_cons (ds_asg 3 g (pd_callS 1 F__law_pair_of_books.fn g (pda_cons (pd_var 2) pda_nil) (hl := h__law_pair_of_books)))
  (pds_cons (ds_asg 4 g (pd_callS 1 F__law_stranger.fn g (pda_cons (pd_ixV 3 pd_int) (pda_cons (pd_ixV 3 pd_int) pda_nil)) (hl := h__law_stranger)))
  (pds_cons (ds_setLc (E2 := EZ) 5 [("k", 6)] g (pdi_rng1 T.f_range pd_int) (pg_var 6 g) tts_nil (pd_callS 1 F__law_take.fn g (pda_cons pd_int pda_nil) (hl := h__law_take)))
  (pds_cons (ds_asg 7 g (pd_callX tk F__law_dearer g (pda_cons (pd_ixV 3 pd_int) (pda_cons (pd_ixV 3 pd_int) pda_nil)) (hl := h__law_dearer)))
  (pds_cons (ds_asg 8 g (pd_callX tk F__law_dearer g (pda_cons (pd_ixV 3 pd_int) (pda_cons (pd_ixV 3 pd_int) pda_nil)) (hl := h__law_dearer)))
  (pds_cons (ds_asg 9 g (pd_callX tk F__law_made g (pda_cons (pd_ixV 3 pd_int) (pda_cons (pd_ixV 3 pd_int) pda_nil)) (hl := h__law_made)))
  (pds_cons (ds_asg 10 g (pd_callX tk F__law_made g (pda_cons (pd_ixV 3 pd_int) (pda_cons (pd_ixV 3 pd_int) pda_nil)) (hl := h__law_made)))
  (pds_cons (ds_asg 11 g (pd_callX tk F__law_made g (pda_cons (pd_ixV 4 pd_int) (pda_cons (pd_ixV 4 pd_int) pda_nil)) (hl := h__law_made)))
  (pds_cons (ds_for g po (pdi_rng1 T.f_range pd_int) (pg_var 12 g)
 (pds_cons (ds_if (tt_not (pt_of (pd_callX tk F__law_alike g (pda_cons (pd_callX tk F__law_told g (pda_cons (pd_var 12) (pda_cons (pd_var 9) (pda_cons (pd_var 10) pda_nil))) (hl := h__law_told)) (pda_cons (pd_ix (pd_callX tk F__law_dues g (pda_cons (pd_var 7) (pda_cons (pd_var 8) pda_nil)) (hl := h__law_dues)) (pd_var 12)) pda_nil)) (hl := h__law_alike))))
 (pds_one (ds_ret pd_bl))
 pds_nil)
  (pds_cons (ds_if (tt_not (pt_of (pd_callX tk F__law_alike g (pda_cons (pd_callX tk F__law_told g (pda_cons (pd_var 12) (pda_cons (pd_var 10) (pda_cons (pd_var 9) pda_nil))) (hl := h__law_told)) (pda_cons (pd_ix (pd_callX tk F__law_dues g (pda_cons (pd_var 8) (pda_cons (pd_var 7) pda_nil)) (hl := h__law_dues)) (pd_var 12)) pda_nil)) (hl := h__law_alike))))
 (pds_one (ds_ret pd_bl))
 pds_nil)
  (pds_cons (ds_if (tt_not (pt_of (pd_callX tk F__law_alike g (pda_cons (pd_callX tk F__law_told g (pda_cons (pd_var 12) (pda_cons (pd_var 9) (pda_cons (pd_var 11) pda_nil))) (hl := h__law_told)) (pda_cons (pd_tup (pda_cons pd_str pda_nil)) pda_nil)) (hl := h__law_alike))))
 (pds_one (ds_ret pd_bl))
 pds_nil)
  (pds_one (ds_if (tt_not (pt_of (pd_callX tk F__law_alike g (pda_cons (pd_callX tk F__law_told g (pda_cons (pd_var 12) (pda_cons (pd_var 11) (pda_cons (pd_var 10) pda_nil))) (hl := h__law_told)) (pda_cons (pd_tup (pda_cons pd_str pda_nil)) pda_nil)) (hl := h__law_alike))))
 (pds_one (ds_ret pd_bl))
 pds_nil))))))
  (pds_cons (ds_asg 13 g (pd_callX tk F_least_list g (pda_cons (pd_var 9) pda_nil) (hl := h_least_list)))
  (pds_cons (ds_asg 14 g (pd_callX tk F_least_list g (pda_cons (pd_var 10) pda_nil) (hl := h_least_list)))
  (pds_cons (ds_asg 15 g (pd_and (pd_isN (pd_var 7)) (pd_one (pd_isN (pd_var 8)))))
  (pds_cons (ds_if (PDW.pt (tw_or (tt_isN (pd_callX tk F__law_parts g (pda_cons (pd_var 13) pda_nil) (hl := h__law_parts))) (tw_or1 (tt_not (pt_of (pd_callX tk F__law_alike g (pda_cons (pd_frz (pn_lst (pda_cons (pd_eqO F_Book_eq g (pd_var 13) (pd_var 14) (hl := Nat.le_of_lt h_Book_eq)) (pda_cons (pd_neO (k := k - 1) F_Book_eq (g.mono (by omega)) T.eq_Book (pd_var 13) (pd_var 14) (hl := (by omega))) pda_nil)))) (pda_cons (pd_frz (pn_lst (pda_cons (pd_var 15) (pda_cons (pd_not (pd_var 15)) pda_nil)))) pda_nil)) (hl := h__law_alike)))))))
 (pds_one (ds_ret pd_bl))
 pds_nil)
  (pds_cons (ds_if (tt_not (pt_of (pd_callX tk F__law_alike g (pda_cons (pd_callX tk F__law_told g (pda_cons (pd_ixV 5 pd_int) (pda_cons (pd_var 9) (pda_cons (pd_var 13) pda_nil))) (hl := h__law_told)) (pda_cons (pd_ix (pd_callX tk F__law_dues g (pda_cons pd_non (pda_cons pd_non pda_nil)) (hl := h__law_dues)) (pd_ixV 5 pd_int)) pda_nil)) (hl := h__law_alike))))
 (pds_one (ds_ret pd_bl))
 pds_nil)
  (pds_cons (ds_if (tt_not (pt_of (pd_callX tk F__law_alike g (pda_cons (pd_callX tk F__law_told g (pda_cons (pd_ixV 5 pd_int) (pda_cons (pd_var 10) (pda_cons (pd_var 10) pda_nil))) (hl := h__law_told)) (pda_cons (pd_ix (pd_callX tk F__law_dues g (pda_cons pd_non (pda_cons pd_non pda_nil)) (hl := h__law_dues)) (pd_ixV 5 pd_int)) pda_nil)) (hl := h__law_alike))))
 (pds_one (ds_ret pd_bl))
 pds_nil)
  (pds_cons (ds_if (tt_not (pt_of (pd_callX tk F__law_alike g (pda_cons (pd_callX tk F__law_told g (pda_cons (pd_ixV 5 pd_int) (pda_cons (pd_var 9) (pda_cons (pd_var 10) pda_nil))) (hl := h__law_told)) (pda_cons (pd_ix (pd_callX tk F__law_dues g (pda_cons (pd_var 7) (pda_cons (pd_var 8) pda_nil)) (hl := h__law_dues)) (pd_ixV 5 pd_int)) pda_nil)) (hl := h__law_alike))))
 (pds_one (ds_ret pd_bl))
 pds_nil)
  (pds_one (ds_ret (pd_and (pd_eq g (pd_callX tk F__law_parts g (pda_cons (pd_var 9) pda_nil) (hl := h__law_parts)) (pd_tup (pda_cons (pd_tuple T.f_tuple (pd_ixV 3 pd_int)) (pda_cons (pd_tuple T.f_tuple (pd_ixV 3 pd_int)) pda_nil)))) (pd_one (pd_eq g (pd_callX tk F__law_parts g (pda_cons (pd_var 10) pda_nil) (hl := h__law_parts)) (pd_tup (pda_cons (pd_tuple T.f_tuple (pd_ixV 3 pd_int)) (pda_cons (pd_tuple T.f_tuple (pd_ixV 3 pd_int)) pda_nil)))))))))))))))))))))))))))
end K77

set_option Elab.async false
set_option linter.all false
/-! the plain law: cheapest prices by parts. By an AI agent. -/
namespace PM
abbrev Bk := List Nat
abbrev Offs := List (Bk × Nat)
def fits : Bk → Bk → Bool
  | [], _ => true
  | _ :: _, [] => true
  | b :: bs, x :: xs => decide (b ≤ x) && fits bs xs
def less : Bk → Bk → Bk
  | x :: xs, b :: bs => (x - b) :: less xs bs
  | _, _ => []
def minN (z : Nat) : List Nat → Nat
  | [] => z
  | n :: ns => ns.foldl min n
def bestF (os : Offs) : Nat → Bk → Nat
  | 0, _ => 0
  | n + 1, x => minN 0 ((os.filter fun o => fits o.1 x).map fun o => o.2 + bestF os n (less x o.1))
def best (os : Offs) (x : Bk) : Nat := bestF os x.sum x
def Pos (k : Nat) (os : Offs) : Prop := ∀ o ∈ os, o.1.length = k ∧ 1 ≤ o.1.sum
theorem less_len : ∀ {x b : Bk}, x.length = b.length → (less x b).length = x.length
  | [], [], _ => rfl
  | x :: xs, b :: bs, h => by
    simp only [less, List.length_cons]
    rw [less_len (by simpa using h)]
  | [], _ :: _, h => by simp at h
  | _ :: _, [], h => by simp at h
theorem less_sum : ∀ {x b : Bk}, x.length = b.length → fits b x = true → (less x b).sum + b.sum = x.sum
  | [], [], _, _ => rfl
  | x :: xs, b :: bs, h, f => by
    simp only [fits, Bool.and_eq_true, decide_eq_true_eq] at f
    have := less_sum (x := xs) (b := bs) (by simpa using h) f.2
    simp only [less, List.sum_cons]
    omega
  | [], _ :: _, h, _ => by simp at h
  | _ :: _, [], h, _ => by simp at h
theorem bestF_eq {k : Nat} {os : Offs} (hp : Pos k os) : ∀ (n m : Nat) (x : Bk), x.length = k → x.sum ≤ n → x.sum ≤ m → bestF os n x = bestF os m x := by
  have zero : ∀ (m : Nat) (x : Bk), x.length = k → x.sum = 0 → bestF os m x = 0 := fun m x hx h0 => by
    cases m with
    | zero => rfl
    | succ m =>
      have : os.filter (fun o => fits o.1 x) = [] := by
        rw [List.filter_eq_nil_iff]
        intro o ho hf
        have h1 := hp o ho
        have := less_sum (x := x) (b := o.1) (by omega) hf
        omega
      simp [bestF, this, minN]
  intro n
  induction n with
  | zero =>
    intro m x hx h0 hm
    rw [zero m x hx (by omega)]
    rfl
  | succ n ih =>
    intro m x hx hn hm
    cases m with
    | zero => rw [zero (n + 1) x hx (by omega)]; rfl
    | succ m =>
      simp only [bestF]
      congr 1
      apply List.map_congr_left
      intro o ho
      have ho := List.mem_filter.mp ho
      have h1 := hp o ho.1
      have h2 := less_sum (x := x) (b := o.1) (by omega) ho.2
      rw [ih m (less x o.1) (by rw [less_len (by omega)]; exact hx) (by omega) (by omega)]
theorem best_eq {k : Nat} {os : Offs} (hp : Pos k os) {x : Bk} (hx : x.length = k) : best os x = minN 0 ((os.filter fun o => fits o.1 x).map fun o => o.2 + best os (less x o.1)) := by
  unfold best
  rw [bestF_eq hp x.sum (x.sum + 1) x hx (Nat.le_refl _) (by omega)]
  simp only [bestF]
  congr 1
  apply List.map_congr_left
  intro o ho
  have ho := List.mem_filter.mp ho
  have h1 := hp o ho.1
  have h2 := less_sum (x := x) (b := o.1) (by omega) ho.2
  rw [bestF_eq hp x.sum (less x o.1).sum (less x o.1) (by rw [less_len (by omega)]; exact hx) (by omega) (Nat.le_refl _)]
/-! the least -/
theorem foldl_min_le : ∀ (l : List Nat) (a : Nat), l.foldl min a ≤ a ∧ ∀ y ∈ l, l.foldl min a ≤ y
  | [], a => ⟨Nat.le_refl _, fun y h => by cases h⟩
  | b :: l, a => by
    obtain ⟨h1, h2⟩ := foldl_min_le l (min a b)
    refine ⟨Nat.le_trans h1 (Nat.min_le_left _ _), fun y hy => ?_⟩
    rcases List.mem_cons.mp hy with rfl | hy
    · exact Nat.le_trans h1 (Nat.min_le_right _ _)
    · exact h2 y hy
theorem foldl_min_mem : ∀ (l : List Nat) (a : Nat), l.foldl min a = a ∨ l.foldl min a ∈ l
  | [], a => .inl rfl
  | b :: l, a => by
    rcases foldl_min_mem l (min a b) with h | h
    · rw [List.foldl_cons, h]
      by_cases z : a ≤ b
      · exact .inl (Nat.min_eq_left z)
      · exact .inr (by rw [Nat.min_eq_right (by omega)]; exact List.mem_cons_self)
    · exact .inr (List.mem_cons_of_mem _ h)
theorem minN_le {z : Nat} {l : List Nat} {y : Nat} (h : y ∈ l) : minN z l ≤ y := by
  cases l with
  | nil => cases h
  | cons a l =>
    obtain ⟨h1, h2⟩ := foldl_min_le l a
    rcases List.mem_cons.mp h with rfl | h
    · exact h1
    · exact h2 y h
theorem minN_mem {z : Nat} {l : List Nat} (h : l ≠ []) : minN z l ∈ l := by
  cases l with
  | nil => exact (h rfl).elim
  | cons a l =>
    rcases foldl_min_mem l a with h | h
    · show l.foldl min a ∈ _
      rw [h]; exact List.mem_cons_self
    · exact List.mem_cons_of_mem _ h
section
variable {k : Nat} {os : Offs}
theorem best_le (hp : Pos k os) {x : Bk} (hx : x.length = k) {o : Bk × Nat} (ho : o ∈ os) (hf : fits o.1 x = true) : best os x ≤ o.2 + best os (less x o.1) := by
  rw [best_eq hp hx]
  exact minN_le (List.mem_map.mpr ⟨o, List.mem_filter.mpr ⟨ho, hf⟩, rfl⟩)
theorem best_zero (hp : Pos k os) {x : Bk} (hx : x.length = k) (h0 : x.sum = 0) : best os x = 0 := by
  unfold best
  rw [h0]
  rfl
/-- the single pieces are there -/
def unitN (k j : Nat) : Bk := (List.range k).map fun i => if i = j then 1 else 0
def Ones (k : Nat) (os : Offs) : Prop := ∀ j, j < k → unitN k j ∈ os.map (·.1)
theorem fits_of : ∀ {b x : Bk}, b.length = x.length → (∀ i (h : i < b.length) (h2 : i < x.length), b[i] ≤ x[i]) → fits b x = true
  | [], [], _, _ => rfl
  | b :: bs, x :: xs, hl, h => by
    simp only [fits, Bool.and_eq_true, decide_eq_true_eq]
    refine ⟨h 0 (by simp) (by simp), fits_of (by simpa using hl) fun i h1 h2 => ?_⟩
    exact h (i + 1) (by simpa using h1) (by simpa using h2)
  | [], _ :: _, hl, _ => by simp at hl
  | _ :: _, [], hl, _ => by simp at hl
theorem fits_at : ∀ {b x : Bk}, b.length = x.length → fits b x = true → ∀ i (h : i < b.length) (h2 : i < x.length), b[i] ≤ x[i]
  | [], [], _, _, i, h, _ => by simp at h
  | b :: bs, x :: xs, hl, f, i, h1, h2 => by
    simp only [fits, Bool.and_eq_true, decide_eq_true_eq] at f
    cases i with
    | zero => exact f.1
    | succ i => simpa using fits_at (by simpa using hl) f.2 i (by simpa using h1) (by simpa using h2)
  | [], _ :: _, hl, _, _, _, _ => by simp at hl
  | _ :: _, [], hl, _, _, _, _ => by simp at hl
theorem less_at : ∀ {x b : Bk}, x.length = b.length → ∀ i (h : i < (less x b).length) (h1 : i < x.length) (h2 : i < b.length), (less x b)[i] = x[i] - b[i]
  | [], [], _, i, h, _, _ => by simp [less] at h
  | x :: xs, b :: bs, hl, i, h, h1, h2 => by
    cases i with
    | zero => rfl
    | succ i => simpa [less] using less_at (by simpa using hl) i (by simpa [less] using h) (by simpa using h1) (by simpa using h2)
  | [], _ :: _, hl, _, _, _, _ => by simp at hl
  | _ :: _, [], hl, _, _, _, _ => by simp at hl
theorem unitN_len : (unitN k j).length = k := by simp [unitN]
theorem unitN_at {j i : Nat} (h : i < (unitN k j).length) : (unitN k j)[i] = if i = j then 1 else 0 := by simp [unitN]
theorem sum_pos_at : ∀ {x : Bk}, 0 < x.sum → ∃ i, ∃ h : i < x.length, 0 < x[i]
  | [], h => by simp at h
  | x :: xs, h => by
    by_cases z : 0 < x
    · exact ⟨0, by simp, z⟩
    · simp only [List.sum_cons] at h
      obtain ⟨i, h1, h2⟩ := sum_pos_at (x := xs) (by omega)
      exact ⟨i + 1, by simpa using h1, by simpa using h2⟩
theorem sum_zero_at : ∀ {x : Bk}, x.sum = 0 → ∀ i (h : i < x.length), x[i] = 0
  | [], _, i, h => by simp at h
  | x :: xs, h0, i, h => by
    simp only [List.sum_cons] at h0
    cases i with
    | zero => show x = 0; omega
    | succ i => exact sum_zero_at (x := xs) (by omega) i (by simpa using h)
/-- a basket that is not empty: its cheapest price is that of one offer and the rest -/
theorem best_step (hp : Pos k os) (h1 : Ones k os) {x : Bk} (hx : x.length = k) (h0 : 0 < x.sum) : ∃ o ∈ os, fits o.1 x = true ∧ best os x = o.2 + best os (less x o.1) := by
  rw [best_eq hp hx]
  have ne : ((os.filter fun o => fits o.1 x).map fun o => o.2 + best os (less x o.1)) ≠ [] := by
    obtain ⟨j, hj, hpos⟩ := sum_pos_at h0
    obtain ⟨o, ho, e⟩ := List.mem_map.mp (h1 j (by omega))
    have hf : fits o.1 x = true := by
      rw [e]
      refine fits_of (by rw [unitN_len, hx]) fun i a b => ?_
      rw [unitN_at]
      split
      · rename_i z; subst z; omega
      · omega
    intro z
    have : o.2 + best os (less x o.1) ∈ ((os.filter fun o => fits o.1 x).map fun o => o.2 + best os (less x o.1)) := List.mem_map.mpr ⟨o, List.mem_filter.mpr ⟨ho, hf⟩, rfl⟩
    rw [z] at this
    cases this
  obtain ⟨o, ho, e⟩ := List.mem_map.mp (minN_mem (z := 0) ne)
  have ho := List.mem_filter.mp ho
  exact ⟨o, ho.1, ho.2, e.symm⟩
def add : Bk → Bk → Bk
  | x :: xs, y :: ys => (x + y) :: add xs ys
  | _, _ => []
theorem add_len : ∀ {x y : Bk}, x.length = y.length → (add x y).length = x.length
  | [], [], _ => rfl
  | x :: xs, y :: ys, h => by simp only [add, List.length_cons]; rw [add_len (by simpa using h)]
  | [], _ :: _, h => by simp at h
  | _ :: _, [], h => by simp at h
theorem add_at : ∀ {x b : Bk}, x.length = b.length → ∀ i (h : i < (add x b).length) (h1 : i < x.length) (h2 : i < b.length), (add x b)[i] = x[i] + b[i]
  | [], [], _, i, h, _, _ => by simp [add] at h
  | x :: xs, b :: bs, hl, i, h, h1, h2 => by
    cases i with
    | zero => rfl
    | succ i => simpa [add] using add_at (by simpa using hl) i (by simpa [add] using h) (by simpa using h1) (by simpa using h2)
  | [], _ :: _, hl, _, _, _, _ => by simp at hl
  | _ :: _, [], hl, _, _, _, _ => by simp at hl
/-- two baskets side by side cost at most the sum -/
theorem best_add (hp : Pos k os) (h1 : Ones k os) : ∀ (n : Nat) (x y : Bk), x.sum ≤ n → x.length = k → y.length = k → best os (add x y) ≤ best os x + best os y := by
  intro n
  induction n with
  | zero =>
    intro x y hn hx hy
    have hz := sum_zero_at (x := x) (by omega)
    have : add x y = y := by
      apply List.ext_getElem (by rw [add_len (by omega)]; omega)
      intro i a b
      rw [add_at (by omega) i a (by omega) b, hz]
      omega
    rw [this]
    omega
  | succ n ih =>
    intro x y hn hx hy
    by_cases h0 : x.sum = 0
    · exact ih x y (by omega) hx hy
    obtain ⟨o, ho, hf, e⟩ := best_step hp h1 hx (by omega)
    have hol := (hp o ho).1
    have hos := (hp o ho).2
    have hs := less_sum (x := x) (b := o.1) (by omega) hf
    have hf2 : fits o.1 (add x y) = true := by
      refine fits_of (by rw [add_len (by omega)]; omega) fun i a b => ?_
      rw [add_at (by omega) i b (by omega) (by omega)]
      have := fits_at (by omega) hf i a (by omega)
      omega
    have h2 := best_le hp (x := add x y) (by rw [add_len (by omega)]; exact hx) ho hf2
    have e2 : less (add x y) o.1 = add (less x o.1) y := by
      have l1 : (add x y).length = k := by rw [add_len (by omega)]; exact hx
      have l2 : (less x o.1).length = k := by rw [less_len (by omega)]; exact hx
      apply List.ext_getElem
      · rw [less_len (x := add x y) (b := o.1) (by omega), add_len (x := less x o.1) (y := y) (by omega), l1, l2]
      intro i a b
      rw [less_len (by omega)] at a
      rw [less_at (by omega) i _ a (by omega), add_at (by omega) i a (by omega) (by omega), add_at (by omega) i b (by omega) (by omega), less_at (by omega) i _ (by omega) (by omega)]
      have := fits_at (by omega) hf i (by omega) (by omega)
      omega
    rw [e2] at h2
    have h3 := ih (less x o.1) y (by omega) (by rw [less_len (by omega)]; exact hx) hy
    omega

/-! one piece less, one more -/
def dec (x : Bk) (j : Nat) : Bk := x.set j (x.getD j 0 - 1)
def inc (x : Bk) (j : Nat) : Bk := x.set j (x.getD j 0 + 1)
theorem dec_len {x : Bk} {j : Nat} : (dec x j).length = x.length := List.length_set ..
theorem inc_len {x : Bk} {j : Nat} : (inc x j).length = x.length := List.length_set ..
theorem dec_at {x : Bk} {j i : Nat} (h : i < (dec x j).length) (h1 : i < x.length) : (dec x j)[i] = if j = i then x[i] - 1 else x[i] := by
  have h0 : i < (x.set j (x.getD j 0 - 1)).length := h
  show (x.set j (x.getD j 0 - 1))[i]'h0 = _
  rw [List.getElem_set]
  split
  · rename_i z; subst z; simp [h1]
  · rfl
theorem inc_at {x : Bk} {j i : Nat} (h : i < (inc x j).length) (h1 : i < x.length) : (inc x j)[i] = if j = i then x[i] + 1 else x[i] := by
  have h0 : i < (x.set j (x.getD j 0 + 1)).length := h
  show (x.set j (x.getD j 0 + 1))[i]'h0 = _
  rw [List.getElem_set]
  split
  · rename_i z; subst z; simp [h1]
  · rfl
def NoFall (os : Offs) : Prop := ∀ o ∈ os, ∀ j (h : j < o.1.length), 0 < o.1[j] → best os (dec o.1 j) ≤ o.2
theorem best_mono (hp : Pos k os) (h1 : Ones k os) (hf : NoFall os) : ∀ (n : Nat) (x : Bk) (j : Nat), x.sum ≤ n → x.length = k → j < k → best os x ≤ best os (inc x j) := by
  intro n
  induction n with
  | zero =>
    intro x j hn hx hj
    rw [best_zero hp hx (by omega)]
    omega
  | succ n ih =>
    intro x j hn hx hj
    have hy : (inc x j).length = k := by rw [inc_len]; exact hx
    have hy0 : 0 < (inc x j).sum := by
      cases z : (inc x j).sum with
      | succ m => omega
      | zero =>
        have := sum_zero_at z j (by omega)
        rw [inc_at (by omega) (by omega), if_pos rfl] at this
        omega
    obtain ⟨o, ho, hfit, e⟩ := best_step hp h1 hy hy0
    have hol := (hp o ho).1
    have hos := (hp o ho).2
    by_cases hz : o.1[j]'(by omega) = 0
    · have hfx : fits o.1 x = true := by
        refine fits_of (by omega) fun i a b => ?_
        have q := fits_at (by omega) hfit i a (by omega)
        rw [inc_at (by omega) (by omega)] at q
        split at q
        · rename_i z; subst z; omega
        · exact q
      have e2 : less (inc x j) o.1 = inc (less x o.1) j := by
        have l1 : (less x o.1).length = k := by rw [less_len (by omega)]; exact hx
        apply List.ext_getElem
        · rw [less_len (x := inc x j) (b := o.1) (by omega), inc_len, inc_len, l1, hx]
        intro i a b
        rw [less_len (x := inc x j) (b := o.1) (by omega)] at a
        rw [less_at (by omega) i _ a (by omega), inc_at (by omega) (by omega), inc_at (by omega) (by omega), less_at (by omega) i _ (by omega) (by omega)]
        split
        · rename_i z; subst z; omega
        · rfl
      have hs := less_sum (x := x) (b := o.1) (by omega) hfx
      have h2 := best_le hp hx ho hfx
      have h3 := ih (less x o.1) j (by omega) (by rw [less_len (by omega)]; exact hx) hj
      rw [e2] at e
      omega
    · have e2 : x = add (less (inc x j) o.1) (dec o.1 j) := by
        have l1 : (less (inc x j) o.1).length = k := by rw [less_len (by omega)]; exact hy
        have l2 : (dec o.1 j).length = k := by rw [dec_len]; exact hol
        apply List.ext_getElem
        · rw [add_len (by omega), l1, hx]
        intro i a b
        rw [add_at (by omega) i _ (by omega) (by omega), less_at (by omega) i _ (by omega) (by omega), inc_at (by omega) (by omega), dec_at (by omega) (by omega)]
        have q := fits_at (by omega) hfit i (by omega) (by omega)
        rw [inc_at (by omega) (by omega)] at q
        split
        · rename_i z; subst z; simp at q; omega
        · rename_i z; simp [z] at q; omega
      have h2 := best_add hp h1 _ (less (inc x j) o.1) (dec o.1 j) (Nat.le_refl _) (by rw [less_len (by omega)]; exact hy) (by rw [dec_len]; exact hol)
      rw [← e2] at h2
      have h3 := hf o ho j (by omega) (by omega)
      omega
/-- a bundle of an offer costs at most its price -/
theorem best_bundle (hp : Pos k os) {o : Bk × Nat} (ho : o ∈ os) : best os o.1 ≤ o.2 := by
  have hol := (hp o ho).1
  have hf : fits o.1 o.1 = true := fits_of rfl fun _ _ _ => Nat.le_refl _
  have h := best_le hp hol ho hf
  have hs := less_sum (x := o.1) (b := o.1) rfl hf
  rw [best_zero hp (x := less o.1 o.1) (by rw [less_len rfl]; exact hol) (by omega)] at h
  exact h
/-- the falls -/
def fallAt (os : Offs) (o : Bk × Nat) (j : Nat) : Bool := decide (0 < o.1.getD j 0) && decide (o.2 < best os (dec o.1 j))
def fallsN (os : Offs) : List (Nat × Nat) := (os.zipIdx).flatMap fun p => ((List.range p.1.1.length).filter fun j => fallAt os p.1 j).map fun j => (p.2, j)
theorem noFall_of (h : fallsN os = []) : NoFall os := by
  intro o ho j hj hpos
  obtain ⟨a, ha, e⟩ := List.mem_iff_getElem.mp ho
  have h1 : (o, a) ∈ os.zipIdx := by
    rw [List.mem_zipIdx_iff_getElem?]
    simp [ha, e]
  have h2 := List.flatMap_eq_nil_iff.mp h _ h1
  have h3 := List.map_eq_nil_iff.mp h2
  have h4 := List.filter_eq_nil_iff.mp h3 j (by simpa using hj)
  simp only [fallAt, Bool.and_eq_true, decide_eq_true_eq, not_and] at h4
  have := h4 (by simp [hj]; exact hpos)
  omega
theorem falls_mem {a j : Nat} (h : (a, j) ∈ fallsN os) : ∃ (ha : a < os.length), j < os[a].1.length ∧ fallAt os os[a] j = true := by
  obtain ⟨p, hp, hj⟩ := List.mem_flatMap.mp h
  obtain ⟨i, hi, e⟩ := List.mem_map.mp hj
  have hi := List.mem_filter.mp hi
  cases e
  obtain ⟨o, n⟩ := p
  rw [List.mem_zipIdx_iff_getElem?] at hp
  obtain ⟨h1, h2⟩ := List.getElem?_eq_some_iff.mp hp
  have h2 : os[n] = o := h2
  refine ⟨h1, ?_, ?_⟩
  · show j < os[n].1.length
    rw [h2]; simpa using hi.1
  · show fallAt os os[n] j = true
    rw [h2]; exact hi.2
end
/-! boxes -/
def vol : Bk → Nat
  | [] => 1
  | t :: ts => (t + 1) * vol ts
def boxR : Bk → List Bk
  | [] => [[]]
  | t :: ts => (List.range (t + 1)).flatMap fun m => (boxR ts).map (m :: ·)
def boxN (top : Bk) : List Bk := top.foldl (fun rows n => rows.flatMap fun r => (List.range (n + 1)).map fun m => r ++ [m]) [[]]
theorem boxN_go : ∀ (top : Bk) (rows : List Bk), top.foldl (fun rows n => rows.flatMap fun r => (List.range (n + 1)).map fun m => r ++ [m]) rows = rows.flatMap fun r => (boxR top).map (r ++ ·)
  | [], rows => by
    simp [boxR]
  | t :: ts, rows => by
    rw [List.foldl_cons, boxN_go ts]
    simp [boxR, List.flatMap_assoc, List.map_flatMap, List.flatMap_map, Function.comp_def]
theorem boxN_eq (top : Bk) : boxN top = boxR top := by
  unfold boxN
  rw [boxN_go]
  simp
theorem boxR_len : ∀ top : Bk, (boxR top).length = vol top
  | [] => rfl
  | t :: ts => by
    simp [boxR, vol, List.length_flatMap, boxR_len ts]
    rw [List.map_const', List.sum_replicate_nat, List.length_range]
theorem vol_pos : ∀ top : Bk, 0 < vol top
  | [] => by simp [vol]
  | t :: ts => Nat.mul_pos (by omega) (vol_pos ts)
def spotN : Bk → Bk → Nat
  | [], _ => 0
  | _ :: ts, m :: x => m * vol ts + spotN ts x
  | _ :: _, [] => 0
theorem flat_get {α β : Type} (f : α → List β) (n : Nat) : ∀ (l : List α), (∀ a ∈ l, (f a).length = n) → ∀ (i j : Nat), j < n → (l.flatMap f)[i * n + j]? = (l[i]?).bind fun a => (f a)[j]?
  | [], _, i, j, _ => by simp
  | a :: l, h, i, j, hj => by
    rw [List.flatMap_cons]
    cases i with
    | zero =>
      rw [Nat.zero_mul, Nat.zero_add, List.getElem?_append_left (by rw [h a List.mem_cons_self]; exact hj)]
      rfl
    | succ i =>
      have e : (i + 1) * n + j = (i * n + j) + n := by rw [Nat.succ_mul]; omega
      rw [List.getElem?_append_right (by rw [h a List.mem_cons_self]; omega), h a List.mem_cons_self, e, Nat.add_sub_cancel]
      exact flat_get f n l (fun b hb => h b (List.mem_cons_of_mem _ hb)) i j hj
theorem spot_lt : ∀ {top x : Bk}, x.length = top.length → fits x top = true → spotN top x < vol top
  | [], [], _, _ => by simp [spotN, vol]
  | t :: ts, m :: x, hl, f => by
    simp only [fits, Bool.and_eq_true, decide_eq_true_eq] at f
    have h := spot_lt (top := ts) (x := x) (by simpa using hl) f.2
    simp only [spotN, vol]
    have : m * vol ts + vol ts ≤ (t + 1) * vol ts := by
      rw [← Nat.succ_mul]
      exact Nat.mul_le_mul_right _ (by omega)
    omega
  | [], _ :: _, hl, _ => by simp at hl
  | _ :: _, [], hl, _ => by simp at hl
theorem box_get : ∀ {top x : Bk}, x.length = top.length → fits x top = true → (boxR top)[spotN top x]? = some x
  | [], [], _, _ => rfl
  | t :: ts, m :: x, hl, f => by
    simp only [fits, Bool.and_eq_true, decide_eq_true_eq] at f
    have h := spot_lt (top := ts) (x := x) (by simpa using hl) f.2
    simp only [boxR, spotN]
    rw [flat_get _ (vol ts) _ (fun a _ => by simp [boxR_len]) m _ h]
    rw [List.getElem?_range (by omega)]
    simp [box_get (top := ts) (x := x) (by simpa using hl) f.2]
  | [], _ :: _, hl, _ => by simp at hl
  | _ :: _, [], hl, _ => by simp at hl
theorem box_mem : ∀ {top x : Bk}, x ∈ boxR top → x.length = top.length ∧ fits x top = true
  | [], x, h => by
    simp [boxR] at h
    subst h
    exact ⟨rfl, rfl⟩
  | t :: ts, x, h => by
    simp only [boxR, List.mem_flatMap, List.mem_range, List.mem_map] at h
    obtain ⟨m, hm, y, hy, rfl⟩ := h
    obtain ⟨h1, h2⟩ := box_mem hy
    refine ⟨by simp [h1], ?_⟩
    simp only [fits, Bool.and_eq_true, decide_eq_true_eq]
    exact ⟨by omega, h2⟩
theorem box_spot {top : Bk} : ∀ {i : Nat} {x : Bk}, (boxR top)[i]? = some x → spotN top x = i := by
  induction top with
  | nil =>
    intro i x h
    cases i with
    | zero => simp [boxR] at h; subst h; rfl
    | succ i => simp [boxR] at h
  | cons t ts ih =>
    intro i x h
    have hv := vol_pos ts
    have e : i = i / vol ts * vol ts + i % vol ts := by rw [Nat.mul_comm]; exact (Nat.div_add_mod _ _).symm
    simp only [boxR] at h
    rw [e, flat_get _ (vol ts) _ (fun a _ => by simp [boxR_len]) _ _ (Nat.mod_lt _ hv)] at h
    obtain ⟨m, hm, h⟩ := Option.bind_eq_some_iff.mp h
    rw [List.getElem?_map] at h
    obtain ⟨y, hy, rfl⟩ := Option.map_eq_some_iff.mp h
    obtain ⟨h1, h2⟩ := List.getElem?_eq_some_iff.mp hm
    rw [List.getElem_range] at h2
    simp only [spotN]
    rw [ih hy, ← h2]
    exact e.symm
theorem spot_less : ∀ {top x b : Bk}, x.length = top.length → b.length = top.length → fits b x = true → spotN top (less x b) + spotN top b = spotN top x
  | [], [], [], _, _, _ => rfl
  | t :: ts, m :: x, n :: b, hl, hb, f => by
    simp only [fits, Bool.and_eq_true, decide_eq_true_eq] at f
    have h := spot_less (top := ts) (x := x) (b := b) (by simpa using hl) (by simpa using hb) f.2
    simp only [less, spotN]
    have : (m - n) * vol ts + n * vol ts = m * vol ts := by rw [← Nat.add_mul, Nat.sub_add_cancel f.1]
    omega
  | [], _ :: _, _, hl, _, _ => by simp at hl
  | [], [], _ :: _, _, hb, _ => by simp at hb
  | _ :: _, [], _, hl, _, _ => by simp at hl
  | _ :: _, _ :: _, [], _, hb, _ => by simp at hb
theorem spot_pos : ∀ {top b : Bk}, b.length = top.length → 1 ≤ b.sum → 1 ≤ spotN top b
  | [], [], _, h => by simp at h
  | t :: ts, n :: b, hl, h => by
    simp only [List.sum_cons] at h
    simp only [spotN]
    by_cases z : n = 0
    · have := spot_pos (top := ts) (b := b) (by simpa using hl) (by omega)
      omega
    · have := Nat.mul_le_mul (show 1 ≤ n by omega) (vol_pos ts)
      omega
  | [], _ :: _, hl, _ => by simp at hl
  | _ :: _, [], hl, _ => by simp at hl
theorem fits_trans : ∀ {a b c : Bk}, a.length = b.length → b.length = c.length → fits a b = true → fits b c = true → fits a c = true
  | [], _, _, _, _, _, _ => rfl
  | a :: as, b :: bs, c :: cs, h1, h2, f, g => by
    simp only [fits, Bool.and_eq_true, decide_eq_true_eq] at f g ⊢
    exact ⟨by omega, fits_trans (by simpa using h1) (by simpa using h2) f.2 g.2⟩
  | _ :: _, [], _, h1, _, _, _ => by simp at h1
  | _ :: _, _ :: _, [], _, h2, _, _ => by simp at h2
theorem less_fits : ∀ {x b : Bk}, x.length = b.length → fits (less x b) x = true
  | [], [], _ => rfl
  | x :: xs, b :: bs, h => by
    simp only [less, fits, Bool.and_eq_true, decide_eq_true_eq]
    exact ⟨by omega, less_fits (by simpa using h)⟩
  | [], _ :: _, h => by simp at h
  | _ :: _, [], h => by simp at h
end PM

set_option Elab.async false
set_option linter.all false
/-! the plain law: least offers. By an AI agent. -/
namespace PM
def ltB : Bk → Bk → Bool
  | a :: as, b :: bs => decide (a < b) || (decide (a = b) && ltB as bs)
  | _, _ => false
theorem ltB_irr : ∀ a : Bk, ltB a a = false
  | [] => rfl
  | a :: as => by simp [ltB, ltB_irr as]
theorem ltB_trans : ∀ {a b c : Bk}, ltB a b = true → ltB b c = true → ltB a c = true
  | [], _, _, h, _ => by simp [ltB] at h
  | _ :: _, [], _, h, _ => by simp [ltB] at h
  | _ :: _, _ :: _, [], _, h => by simp [ltB] at h
  | a :: as, b :: bs, c :: cs, h, g => by
    simp only [ltB, Bool.or_eq_true, Bool.and_eq_true, decide_eq_true_eq] at h g ⊢
    rcases h with h | ⟨h, h'⟩ <;> rcases g with g | ⟨g, g'⟩
    · exact .inl (by omega)
    · exact .inl (by omega)
    · exact .inl (by omega)
    · exact .inr ⟨by omega, ltB_trans h' g'⟩
theorem ltB_tri : ∀ {a b : Bk}, a.length = b.length → a = b ∨ ltB a b = true ∨ ltB b a = true
  | [], [], _ => .inl rfl
  | [], _ :: _, h => by simp at h
  | _ :: _, [], h => by simp at h
  | a :: as, b :: bs, h => by
    simp only [ltB, Bool.or_eq_true, Bool.and_eq_true, decide_eq_true_eq]
    rcases Nat.lt_trichotomy a b with z | z | z
    · exact .inr (.inl (.inl z))
    · subst z
      rcases ltB_tri (a := as) (b := bs) (by simpa using h) with y | y | y
      · exact .inl (by rw [y])
      · exact .inr (.inl (.inr ⟨rfl, y⟩))
      · exact .inr (.inr (.inr ⟨rfl, y⟩))
    · exact .inr (.inr (.inl z))
def insB (x : Bk) : List Bk → List Bk
  | [] => [x]
  | y :: ys => if x = y then y :: ys else if ltB x y then x :: y :: ys else y :: insB x ys
def sortB : List Bk → List Bk
  | [] => []
  | x :: xs => insB x (sortB xs)
theorem mem_insB {x z : Bk} : ∀ {l : List Bk}, z ∈ insB x l ↔ z = x ∨ z ∈ l
  | [] => by simp [insB]
  | y :: ys => by
    unfold insB
    split
    · rename_i h
      subst h
      simp
    · split
      · simp
      · simp only [List.mem_cons, mem_insB (l := ys)]
        constructor
        · rintro (h | h | h)
          · exact .inr (.inl h)
          · exact .inl h
          · exact .inr (.inr h)
        · rintro (h | h | h)
          · exact .inr (.inl h)
          · exact .inl h
          · exact .inr (.inr h)
theorem mem_sortB {z : Bk} : ∀ {l : List Bk}, z ∈ sortB l ↔ z ∈ l
  | [] => by simp [sortB]
  | x :: xs => by simp [sortB, mem_insB, mem_sortB (l := xs)]
theorem insB_len {x : Bk} : ∀ {l : List Bk}, (insB x l).length ≤ l.length + 1
  | [] => by simp [insB]
  | y :: ys => by
    unfold insB
    have := insB_len (x := x) (l := ys)
    split
    · simp
    · split
      · simp
      · simp; omega
theorem sortB_len : ∀ {l : List Bk}, (sortB l).length ≤ l.length
  | [] => by simp [sortB]
  | x :: xs => by
    have h1 := sortB_len (l := xs)
    have h2 := insB_len (x := x) (l := sortB xs)
    simp only [sortB, List.length_cons]
    omega
theorem insB_pw {k : Nat} {x : Bk} (hx : x.length = k) : ∀ {l : List Bk}, (∀ y ∈ l, y.length = k) → l.Pairwise (fun a b => ltB a b = true) → (insB x l).Pairwise (fun a b => ltB a b = true)
  | [], _, _ => by simp [insB]
  | y :: ys, hl, hp => by
    unfold insB
    rw [List.pairwise_cons] at hp
    split
    · exact List.pairwise_cons.mpr hp
    · rename_i hne
      split
      · rename_i h
        refine List.pairwise_cons.mpr ⟨fun z hz => ?_, List.pairwise_cons.mpr hp⟩
        rcases List.mem_cons.mp hz with rfl | hz
        · exact h
        · exact ltB_trans h (hp.1 z hz)
      · rename_i h
        have hyx : ltB y x = true := by
          rcases ltB_tri (a := x) (b := y) (by rw [hx, hl y List.mem_cons_self]) with q | q | q
          · exact absurd q hne
          · exact absurd q h
          · exact q
        refine List.pairwise_cons.mpr ⟨fun z hz => ?_, insB_pw hx (fun z hz => hl z (List.mem_cons_of_mem _ hz)) hp.2⟩
        rcases mem_insB.mp hz with rfl | hz
        · exact hyx
        · exact hp.1 z hz
theorem sortB_pw {k : Nat} : ∀ {l : List Bk}, (∀ y ∈ l, y.length = k) → (sortB l).Pairwise (fun a b => ltB a b = true)
  | [], _ => by simp [sortB]
  | x :: xs, h => insB_pw (h x List.mem_cons_self) (fun y hy => h y (List.mem_cons_of_mem _ (mem_sortB.mp hy))) (sortB_pw fun y hy => h y (List.mem_cons_of_mem _ hy))
/-- two strictly ascending lists of the same members are the same -/
theorem pw_uniq : ∀ {l m : List Bk}, l.Pairwise (fun a b => ltB a b = true) → m.Pairwise (fun a b => ltB a b = true) → (∀ z, z ∈ l ↔ z ∈ m) → l = m
  | [], [], _, _, _ => rfl
  | [], b :: m, _, _, h => by have := (h b).mpr List.mem_cons_self; cases this
  | a :: l, [], _, _, h => by have := (h a).mp List.mem_cons_self; cases this
  | a :: l, b :: m, h1, h2, h => by
    rw [List.pairwise_cons] at h1 h2
    have e : a = b := by
      rcases List.mem_cons.mp ((h a).mp List.mem_cons_self) with q | q
      · exact q
      · rcases List.mem_cons.mp ((h b).mpr List.mem_cons_self) with r | r
        · exact r.symm
        · have := ltB_trans (h1.1 b r) (h2.1 a q)
          rw [ltB_irr] at this
          cases this
    subst e
    rw [pw_uniq h1.2 h2.2 fun z => ?_]
    constructor
    · intro q
      rcases List.mem_cons.mp ((h z).mp (List.mem_cons_of_mem _ q)) with r | r
      · subst r
        have := h1.1 z q
        rw [ltB_irr] at this
        cases this
      · exact r
    · intro q
      rcases List.mem_cons.mp ((h z).mpr (List.mem_cons_of_mem _ q)) with r | r
      · subst r
        have := h2.1 z q
        rw [ltB_irr] at this
        cases this
      · exact r
/-! the last number is needed -/
def lastN (ns : List Nat) : Bool := decide (2 ≤ ns.length) && (List.range (ns.length - 1)).all fun i => decide (i = 0) || decide (ns.getD (ns.length - 1) 0 < ns.getD i 0 + ns.getD (ns.length - 1 - i) 0)
def need (os : Offs) (b : Bk) : Bool := lastN ((boxN b).map (best os))
theorem spot_top : ∀ top : Bk, spotN top top = vol top - 1
  | [] => rfl
  | t :: ts => by
    have := vol_pos ts
    simp only [spotN, vol, spot_top ts, Nat.succ_mul]
    omega
theorem spot_zero : ∀ {top x : Bk}, x.length = top.length → x.sum = 0 → spotN top x = 0
  | [], [], _, _ => rfl
  | t :: ts, m :: x, hl, h => by
    simp only [List.sum_cons] at h
    simp only [spotN]
    rw [spot_zero (by simpa using hl) (by omega), show m = 0 by omega]
    simp
  | [], _ :: _, hl, _ => by simp at hl
  | _ :: _, [], hl, _ => by simp at hl
theorem add_sum : ∀ {x y : Bk}, x.length = y.length → (add x y).sum = x.sum + y.sum
  | [], [], _ => rfl
  | x :: xs, y :: ys, h => by
    simp only [add, List.sum_cons]
    rw [add_sum (by simpa using h)]
    omega
  | [], _ :: _, h => by simp at h
  | _ :: _, [], h => by simp at h
theorem add_less : ∀ {x b : Bk}, x.length = b.length → fits b x = true → add b (less x b) = x
  | [], [], _, _ => rfl
  | x :: xs, b :: bs, h, f => by
    simp only [fits, Bool.and_eq_true, decide_eq_true_eq] at f
    simp only [less, add]
    rw [add_less (by simpa using h) f.2, show b + (x - b) = x by omega]
  | [], _ :: _, h, _ => by simp at h
  | _ :: _, [], h, _ => by simp at h
theorem less_add : ∀ {x y : Bk}, x.length = y.length → less (add x y) x = y ∧ fits x (add x y) = true
  | [], [], _ => ⟨rfl, rfl⟩
  | x :: xs, y :: ys, h => by
    obtain ⟨h1, h2⟩ := less_add (x := xs) (y := ys) (by simpa using h)
    simp only [add, less, fits, Bool.and_eq_true, decide_eq_true_eq, h1, h2]
    exact ⟨by rw [show x + y - x = y by omega], by omega, trivial⟩
  | [], _ :: _, h => by simp at h
  | _ :: _, [], h => by simp at h
theorem fits_self (x : Bk) : fits x x = true := fits_of rfl fun _ _ _ => Nat.le_refl _
theorem box_at (os : Offs) {b y : Bk} (hl : y.length = b.length) (hf : fits y b = true) : ((boxN b).map (best os)).getD (spotN b y) 0 = best os y := by
  rw [boxN_eq, List.getD_eq_getElem?_getD, List.getElem?_map, box_get hl hf]
  rfl
theorem box_len (b : Bk) : (boxN b).length = vol b := by rw [boxN_eq, boxR_len]
theorem vol_two {b : Bk} (h : 1 ≤ b.sum) : 2 ≤ vol b := by
  have h1 := spot_top b
  have h2 := spot_pos (top := b) (b := b) rfl h
  have := vol_pos b
  omega
theorem need_true {os : Offs} {y z : Bk} (hl : y.length = z.length) (hy : 1 ≤ y.sum) (hz : 1 ≤ z.sum) (h : need os (add y z) = true) : best os (add y z) < best os y + best os z := by
  obtain ⟨e1, e2⟩ := less_add hl
  have hyl : y.length = (add y z).length := (add_len hl).symm
  have hzl : z.length = (add y z).length := by omega
  have hs := spot_less (top := add y z) (x := add y z) (b := y) rfl hyl e2
  rw [e1] at hs
  have p1 := spot_pos (top := add y z) hyl hy
  have p2 := spot_pos (top := add y z) hzl hz
  have ht := spot_top (add y z)
  have hfz : fits z (add y z) = true := by
    have := less_fits (x := add y z) (b := y) hyl.symm
    rw [e1] at this
    exact this
  unfold need lastN at h
  simp only [Bool.and_eq_true, List.all_eq_true, List.length_map, box_len] at h
  have h2 := h.2 (spotN (add y z) y) (by simp; omega)
  rw [← ht] at h2
  rw [show spotN (add y z) (add y z) - spotN (add y z) y = spotN (add y z) z by omega] at h2
  rw [box_at os rfl (fits_self _), box_at os hyl e2, box_at os hzl hfz] at h2
  simp only [Bool.or_eq_true, decide_eq_true_eq] at h2
  omega
theorem need_false {os : Offs} {b : Bk} (hb : 1 ≤ b.sum) (h : need os b = false) : ∃ y z : Bk, y.length = b.length ∧ z.length = b.length ∧ add y z = b ∧ 1 ≤ y.sum ∧ 1 ≤ z.sum ∧ best os y + best os z ≤ best os b := by
  have hv := vol_two hb
  have ht := spot_top b
  unfold need lastN at h
  rw [List.length_map, box_len, decide_eq_true hv, Bool.true_and, List.all_eq_false] at h
  obtain ⟨i, hi, h⟩ := h
  simp only [List.mem_range] at hi
  simp only [Bool.or_eq_true, decide_eq_true_eq, not_or] at h
  have hlt : i < (boxR b).length := by rw [boxR_len]; omega
  have hx : (boxR b)[i]? = some (boxR b)[i] := by simp [hlt]
  generalize (boxR b)[i] = y at hx
  obtain ⟨hl, hf⟩ := box_mem (List.mem_of_getElem? hx)
  have hsp := box_spot hx
  have hs := spot_less (top := b) (x := b) (b := y) rfl hl hf
  have hzl : (less b y).length = b.length := less_len hl.symm
  have hzf : fits (less b y) b = true := less_fits hl.symm
  have h2 := h.2
  rw [← ht, show spotN b b - i = spotN b (less b y) by omega, ← hsp, box_at os rfl (fits_self _), box_at os hl hf, box_at os hzl hzf] at h2
  refine ⟨y, less b y, hl, hzl, add_less hl.symm hf, ?_, ?_, by omega⟩
  · apply Nat.pos_of_ne_zero
    intro z
    have := spot_zero hl z
    omega
  · apply Nat.pos_of_ne_zero
    intro z
    have := spot_zero hzl z
    omega
theorem need_congr {k : Nat} {o1 o2 : Offs} {b : Bk} (hb : b.length = k) (h : ∀ x : Bk, x.length = k → best o1 x = best o2 x) : need o1 b = need o2 b := by
  unfold need
  rw [List.map_congr_left fun x hx => ?_]
  rw [boxN_eq] at hx
  exact h x (by rw [(box_mem hx).1, hb])
section
variable {k : Nat} {os : Offs}
theorem need_mem (hp : Pos k os) (h1 : Ones k os) {b : Bk} (hb : b.length = k) (hs : 1 ≤ b.sum) (h : need os b = true) : b ∈ os.map (·.1) := by
  obtain ⟨o, ho, hf, e⟩ := best_step hp h1 hb hs
  have hol := (hp o ho).1
  have hos := (hp o ho).2
  have ea := add_less (x := b) (b := o.1) (by omega) hf
  by_cases z : 1 ≤ (less b o.1).sum
  · have hn := need_true (os := os) (y := o.1) (z := less b o.1) (by rw [less_len (by omega)]; omega) hos z (by rw [ea]; exact h)
    rw [ea] at hn
    have := best_bundle hp ho
    omega
  · have h0 : (less b o.1).sum = 0 := by omega
    have : b = o.1 := by
      apply List.ext_getElem (by omega)
      intro i a c
      have h2 := sum_zero_at h0 i (by rw [less_len (by omega)]; exact a)
      rw [less_at (by omega) i _ a c] at h2
      have := fits_at (by omega) hf i c a
      omega
    rw [this]
    exact List.mem_map.mpr ⟨o, ho, rfl⟩
def leastN (os : Offs) : Offs := ((sortB (os.map (·.1))).filter (need os)).map fun b => (b, best os b)
theorem least_mem {o : Bk × Nat} (h : o ∈ leastN os) : (∃ p ∈ os, p.1 = o.1) ∧ need os o.1 = true ∧ o.2 = best os o.1 := by
  obtain ⟨b, hb, rfl⟩ := List.mem_map.mp h
  have hb := List.mem_filter.mp hb
  obtain ⟨p, hp, e⟩ := List.mem_map.mp (mem_sortB.mp hb.1)
  exact ⟨⟨p, hp, e⟩, hb.2, rfl⟩
theorem mem_least (hp : Pos k os) (h1 : Ones k os) {b : Bk} (hb : b.length = k) (hs : 1 ≤ b.sum) (h : need os b = true) : (b, best os b) ∈ leastN os :=
  List.mem_map.mpr ⟨b, List.mem_filter.mpr ⟨mem_sortB.mpr (need_mem hp h1 hb hs h), h⟩, rfl⟩
theorem least_len : (leastN os).length ≤ os.length := by
  unfold leastN
  rw [List.length_map]
  refine Nat.le_trans (List.length_filter_le ..) (Nat.le_trans sortB_len ?_)
  simp
theorem least_pos (hp : Pos k os) : Pos k (leastN os) := fun o ho => by
  obtain ⟨⟨p, h, e⟩, _⟩ := least_mem ho
  rw [← e]
  exact hp p h
theorem unitN_sum : ∀ {k j : Nat}, j < k → (unitN k j).sum = 1
  | 0, _, h => by omega
  | k + 1, j, h => by
    unfold unitN
    rw [List.range_succ_eq_map, List.map_cons, List.sum_cons, List.map_map]
    cases j with
    | zero =>
      have : ((List.range k).map ((fun i => if i = 0 then 1 else 0) ∘ Nat.succ)).sum = 0 := by
        have e : ((List.range k).map ((fun i => if i = 0 then 1 else 0) ∘ Nat.succ)) = (List.range k).map fun _ => 0 := List.map_congr_left fun i _ => by simp
        rw [e, List.map_const', List.sum_replicate_nat]
        omega
      rw [this]
      rfl
    | succ j =>
      have := unitN_sum (k := k) (j := j) (by omega)
      unfold unitN at this
      have e : ((List.range k).map ((fun i => if i = j + 1 then 1 else 0) ∘ Nat.succ)) = (List.range k).map fun i => if i = j then 1 else 0 := List.map_congr_left fun i _ => by simp
      rw [e, this]
      simp
theorem need_unit {j : Nat} (hj : j < k) : need os (unitN k j) = true := by
  cases h : need os (unitN k j) with
  | true => rfl
  | false =>
    obtain ⟨y, z, h1, h2, h3, h4, h5, _⟩ := need_false (by rw [unitN_sum hj]; exact Nat.le_refl _) h
    have := add_sum (x := y) (y := z) (by omega)
    rw [h3, unitN_sum hj] at this
    omega
theorem least_ones (hp : Pos k os) (h1 : Ones k os) : Ones k (leastN os) := fun j hj =>
  List.mem_map.mpr ⟨_, mem_least hp h1 unitN_len (by rw [unitN_sum hj]; exact Nat.le_refl _) (need_unit hj), rfl⟩
end
/-- no offer cheaper: no basket cheaper -/
theorem cover_le {k : Nat} {o1 o2 : Offs} (hp1 : Pos k o1) (h1 : Ones k o1) (hp2 : Pos k o2) (h2 : Ones k o2) (hc : ∀ o ∈ o2, best o1 o.1 ≤ o.2) : ∀ (n : Nat) (x : Bk), x.sum ≤ n → x.length = k → best o1 x ≤ best o2 x := by
  intro n
  induction n with
  | zero =>
    intro x hn hx
    rw [best_zero hp1 hx (by omega)]
    omega
  | succ n ih =>
    intro x hn hx
    by_cases h0 : x.sum = 0
    · exact ih x (by omega) hx
    obtain ⟨o, ho, hf, e⟩ := best_step hp2 h2 hx (by omega)
    have hol := (hp2 o ho).1
    have hos := (hp2 o ho).2
    have hs := less_sum (x := x) (b := o.1) (by omega) hf
    have ea := add_less (x := x) (b := o.1) (by omega) hf
    have hll : (less x o.1).length = k := by rw [less_len (by omega)]; exact hx
    have h3 := ih (less x o.1) (by omega) hll
    have h4 := best_add hp1 h1 _ o.1 (less x o.1) (Nat.le_refl _) hol hll
    rw [ea] at h4
    have := hc o ho
    omega
section
variable {k : Nat} {os : Offs}
theorem least_best (hp : Pos k os) (h1 : Ones k os) {x : Bk} (hx : x.length = k) : best (leastN os) x = best os x := by
  have lp := least_pos hp
  have lo := least_ones hp h1
  refine Nat.le_antisymm ?_ (cover_le hp h1 lp lo (fun o ho => by rw [(least_mem ho).2.2]; exact Nat.le_refl _) _ x (Nat.le_refl _) hx)
  have key : ∀ (n : Nat) (x : Bk), x.sum ≤ n → x.length = k → best (leastN os) x ≤ best os x := by
    intro n
    induction n with
    | zero =>
      intro x hn hx
      rw [best_zero lp hx (by omega)]
      omega
    | succ n ih =>
      intro x hn hx
      by_cases h0 : x.sum = 0
      · exact ih x (by omega) hx
      cases h : need os x with
      | true => exact best_bundle lp (mem_least hp h1 hx (by omega) h)
      | false =>
        obtain ⟨y, z, h2, h3, h4, h5, h6, h7⟩ := need_false (by omega) h
        have hs := add_sum (x := y) (y := z) (by omega)
        rw [h4] at hs
        have a1 := ih y (by omega) (by omega)
        have a2 := ih z (by omega) (by omega)
        have a3 := best_add lp lo _ y z (Nat.le_refl _) (by omega) (by omega)
        rw [h4] at a3
        omega
  exact key _ x (Nat.le_refl _) hx
def dearN (o1 o2 : Offs) : Option Nat := o2.findIdx? fun o => decide (o.2 < best o1 o.1)
theorem dear_none {o1 o2 : Offs} : dearN o1 o2 = none ↔ ∀ o ∈ o2, best o1 o.1 ≤ o.2 := by
  unfold dearN
  rw [List.findIdx?_eq_none_iff]
  constructor
  · intro h o ho
    have := h o ho
    simpa using this
  · intro h o ho
    have := h o ho
    simpa using this
theorem dear_self (hp : Pos k os) : dearN os os = none := dear_none.mpr fun o ho => best_bundle hp ho
theorem dear_least : dearN os (leastN os) = none := dear_none.mpr fun o ho => by
  rw [(least_mem ho).2.2]; exact Nat.le_refl _
theorem least_congr {o1 o2 : Offs} (hp1 : Pos k o1) (h1 : Ones k o1) (hp2 : Pos k o2) (h2 : Ones k o2) (h : ∀ x : Bk, x.length = k → best o1 x = best o2 x) : leastN o1 = leastN o2 := by
  have hl : ∀ {o : Offs}, Pos k o → ∀ y ∈ o.map (·.1), y.length = k := fun hp y hy => by
    obtain ⟨p, q, e⟩ := List.mem_map.mp hy
    rw [← e]; exact (hp p q).1
  have hn : ∀ {o : Offs}, Pos k o → ∀ y ∈ o.map (·.1), 1 ≤ y.sum := fun hp y hy => by
    obtain ⟨p, q, e⟩ := List.mem_map.mp hy
    rw [← e]; exact (hp p q).2
  have e : (sortB (o1.map (·.1))).filter (need o1) = (sortB (o2.map (·.1))).filter (need o2) := by
    refine pw_uniq ((sortB_pw (hl hp1)).filter _) ((sortB_pw (hl hp2)).filter _) fun z => ?_
    rw [List.mem_filter, List.mem_filter, mem_sortB, mem_sortB]
    constructor
    · rintro ⟨a, b⟩
      have b' := b
      rw [need_congr (hl hp1 z a) h] at b'
      exact ⟨need_mem hp2 h2 (hl hp1 z a) (hn hp1 z a) b', b'⟩
    · rintro ⟨a, b⟩
      have b' := b
      rw [← need_congr (hl hp2 z a) h] at b'
      exact ⟨need_mem hp1 h1 (hl hp2 z a) (hn hp2 z a) b', b'⟩
  unfold leastN
  rw [e]
  refine List.map_congr_left fun b hb => ?_
  rw [h b (hl hp2 b (mem_sortB.mp (List.mem_filter.mp hb).1))]
theorem same_iff {o1 o2 : Offs} (hp1 : Pos k o1) (h1 : Ones k o1) (hp2 : Pos k o2) (h2 : Ones k o2) : leastN o1 = leastN o2 ↔ (dearN o1 o2 = none ∧ dearN o2 o1 = none) := by
  constructor
  · intro h
    have hb : ∀ x : Bk, x.length = k → best o1 x = best o2 x := fun x hx => by rw [← least_best hp1 h1 hx, ← least_best hp2 h2 hx, h]
    refine ⟨dear_none.mpr fun o ho => ?_, dear_none.mpr fun o ho => ?_⟩
    · rw [hb o.1 (hp2 o ho).1]; exact best_bundle hp2 ho
    · rw [← hb o.1 (hp1 o ho).1]; exact best_bundle hp1 ho
  · rintro ⟨a, b⟩
    refine least_congr hp1 h1 hp2 h2 fun x hx => ?_
    exact Nat.le_antisymm (cover_le hp1 h1 hp2 h2 (dear_none.mp a) _ x (Nat.le_refl _) hx) (cover_le hp2 h2 hp1 h1 (dear_none.mp b) _ x (Nat.le_refl _) hx)
end
end PM

set_option Elab.async false
set_option linter.all false
set_option maxRecDepth 100000
set_option maxHeartbeats 8000000
namespace K77
open PySem PySem.Spec PyProof.Rows L2 DL
abbrev Goal (as : DEnv) (Q' : D → DEnv → Prop) (ds : DS) (N : List Str) : Prop := ds X0 { nx := fun e' => Q' .non (retA as e'), rt := fun d e' => Q' d (retA as e') } (as ++ List.replicate (N.length - as.length) .no)
def sp_is_whole_row : DSp := fun as Q _ => ∃ (xs : List Nat) (m : Nat), as = [.fr (nT xs), .fr (.int xs.length), .fr (.int m)] ∧ (∀ x ∈ xs, x ≤ m) ∧ Q (.bl true) as
theorem q_is_whole_row (as Q') (h : sp_is_whole_row as Q' X0) : Goal as Q' ds_is_whole_row N_is_whole_row := by
  obtain ⟨xs, m, rfl, h1, hQ⟩ := h
  simp [Goal, ds_is_whole_row, N_is_whole_row, D.isTy]
  refine for_rule nD (fun rest e => ∃ s, e = [.fr (nT xs), .fr (.int xs.length), .fr (.int m), s] ∧ Fre s ∧ ∀ x ∈ rest, x ≤ m) ⟨_, rfl, by simp, h1⟩ ?_ ?_
  · rintro x rest e ⟨s, rfl, hs, hr⟩ Kn hK
    have h2 := hr x (by simp)
    simp [hs, D.isTy]
    simp [show ¬ (m < x) by omega]
    exact hK _ ⟨_, rfl, by simp, fun y hy => hr y (by simp [hy])⟩
  · rintro e ⟨s, rfl, hs, hr⟩
    simpa using hQ
def sp_is_whole : DSp := fun as Q _ => ∃ n : Int, as = [.fr (.int n)] ∧ Q (.bl true) as
theorem q_is_whole (as Q') (h : sp_is_whole as Q' X0) : Goal as Q' ds_is_whole N_is_whole := by
  obtain ⟨n, rfl, hQ⟩ := h
  simpa [Goal, ds_is_whole, N_is_whole, D.isTy] using hQ
def sp_is_whole_in : DSp := fun as Q _ => ∃ n l h : Int, as = [.fr (.int n), .fr (.int l), .fr (.int h)] ∧ l ≤ n ∧ n ≤ h ∧ Q (.bl true) as
theorem q_is_whole_in (as Q') (h : sp_is_whole_in as Q' X0) : Goal as Q' (ds_is_whole_in sp_is_whole) N_is_whole_in := by
  obtain ⟨n, l, h, rfl, h1, h2, hQ⟩ := h
  simp [Goal, ds_is_whole_in, N_is_whole_in, sp_is_whole, h1, h2]
  exact hQ
end K77

set_option Elab.async false
set_option linter.all false
set_option maxRecDepth 100000
set_option maxHeartbeats 8000000
namespace K77
open PySem PySem.Spec PyProof.Rows L2 DL
def sp__law_mix : DSp := fun as Q _ => ∃ a b : Int, as = [.fr (.int a), .fr (.int b)] ∧ ∀ r : Int, 0 ≤ r → r < 2147483587 → Q (.int r) as
theorem q__law_mix (as Q') (h : sp__law_mix as Q' X0) : Goal as Q' ds__law_mix N__law_mix := by
  obtain ⟨a, b, rfl, hQ⟩ := h
  simp [Goal, ds__law_mix, N__law_mix]
  have h1 := Int.emod_nonneg a (show (1000000007 : Int) ≠ 0 by decide)
  have h2 := Int.emod_lt_of_pos a (show (0 : Int) < 1000000007 by decide)
  have h3 := Int.emod_nonneg b (show (1000003 : Int) ≠ 0 by decide)
  have h4 := Int.emod_lt_of_pos b (show (0 : Int) < 1000003 by decide)
  generalize a % 1000000007 = a1 at *
  generalize b % 1000003 = b1 at *
  refine ⟨mulOk (by omega) (by omega), mulOk (by omega) (by omega), ?_⟩
  generalize hc : (a1 + 1) * 48271 + b1 * 69621 + 40692 = c0
  have h5 := Int.emod_nonneg c0 (show (2147483647 : Int) ≠ 0 by decide)
  have h6 := Int.emod_lt_of_pos c0 (show (0 : Int) < 2147483647 by decide)
  generalize c0 % 2147483647 = c at *
  have h7 : 0 ≤ c / 65536 ∧ c / 65536 < 2147483647 := by omega
  refine ⟨mulOk (by omega) (by omega), divOk (by omega) (by omega), mulOk (by omega) (by omega), mulOk (by omega) (by omega), ?_⟩
  generalize c * c + c / 65536 * 16807 + b1 * 1103515 + 12345 = d0
  have h8 := Int.emod_nonneg d0 (show (2147483629 : Int) ≠ 0 by decide)
  have h9 := Int.emod_lt_of_pos d0 (show (0 : Int) < 2147483629 by decide)
  generalize d0 % 2147483629 = d at *
  have h10 : 0 ≤ d / 32768 ∧ d / 32768 < 2147483647 := by omega
  refine ⟨mulOk (by omega) (by omega), divOk (by omega) (by omega), mulOk (by omega) (by omega), ?_⟩
  exact hQ _ (Int.emod_nonneg _ (by decide)) (Int.emod_lt_of_pos _ (by decide))
/-- a store -/
def StO (o : O) : Prop := ∃ (a b c d m : Int) (cs : List Int), 5 ≤ a ∧ o = .lst (.int a :: .int b :: .int c :: .int d :: .int m :: cs.map .int)
def sp__law_take : DSp := fun as Q _ => ∃ (o : O) (n : Nat), as = [.ow true o, .fr (.int n)] ∧ StO o ∧ n < 2 ^ 61 ∧ ∀ (r : Nat) (o' : O), StO o' → (r < n ∨ r = 0) → Q (.int r) [.ow true o', .fr (.int n)]
def StN (n : Nat) (e : DEnv) : Prop := ∃ (o : O) (s2 : Sl), StO o ∧ Fre s2 ∧ e = [.ow true o, .fr (.int n), s2, .no, .no, .no]
theorem q__law_take (as Q') (h : sp__law_take as Q' X0) : Goal as Q' (ds__law_take sp__law_mix) N__law_take := by
  obtain ⟨o, n, rfl, ⟨a, b, c, d, m, cs, ha, rfl⟩, hn, hQ⟩ := h
  unfold Goal ds__law_take
  refine seq_cut (fun e => 2 ≤ n ∧ e = [.ow true (.lst (.int a :: .int b :: .int c :: .int d :: .int m :: cs.map .int)), .fr (.int n), .no, .no, .no, .no]) (fun K hK => ?_) ?_
  · simp [N__law_take]
    split
    · exact hQ 0 _ ⟨a, b, c, d, m, cs, ha, rfl⟩ (.inr rfl)
    · exact hK _ ⟨by omega, rfl⟩
  rintro e ⟨h2, rfl⟩
  have hn400 : (n : Int).natAbs < 2 ^ 200 := by omega
  refine seq_cut (fun e => StN n e) (fun K hK => ?_) ?_
  · simp
    exact hK _ ⟨_, _, ⟨a, b, c, d + 1, m, cs, ha, rfl⟩, fre_no, rfl⟩
  rintro e ⟨o, s2, ⟨a, b, c, d, m, cs, ha, rfl⟩, hs, rfl⟩
  refine seq_cut (fun e => StN n e) (fun K hK => ?_) ?_
  · have hK' : ∀ (a b c d m : Int) (s2 : Sl), 5 ≤ a → Fre s2 → K [.ow true (.lst (.int a :: .int b :: .int c :: .int d :: .int m :: cs.map .int)), .fr (.int n), s2, .no, .no, .no] := fun a b c d m s2 h h2 => hK _ ⟨_, _, ⟨a, b, c, d, m, cs, h, rfl⟩, h2, rfl⟩
    simp
    split
    · split
      · split
        · rename_i hlt
          obtain ⟨j, hj⟩ : ∃ j : Nat, a = j + 5 := ⟨(a - 5).toNat, by omega⟩
          have hj2 : j < cs.length := by omega
          have e1 : atI (D.int a :: D.int b :: D.int c :: D.int d :: D.int m :: List.map D.int cs) a = some (.int cs[j]) := by
            rw [at_lt (by omega) (by simp; omega), show a.toNat = j + 5 by omega]
            simp [hj2]
          rw [e1]
          simp [hs]
          refine ⟨_, _, rfl, fun r h0 h1 => ⟨by decide, ?_⟩⟩
          split
          · exact hK' _ _ _ _ _ _ (by omega) (by simp)
          · exact hK' _ _ _ _ _ _ (by omega) (by simp)
        · exact hK' _ _ _ _ _ _ ha hs
      · exact hK' _ _ _ _ _ _ ha hs
    · exact hK' _ _ _ _ _ _ ha hs
  clear ha hs
  rintro e ⟨o, s2, ⟨a, b, c, d, m, cs, ha, rfl⟩, hs, rfl⟩
  refine seq_cut (fun e => StN n e) (fun K hK => ?_) ?_
  · simp
    split
    · rename_i hb
      refine ⟨by omega, divOk (by omega) hn400, ?_⟩
      have h3 := Int.emod_nonneg b (show (n : Int) ≠ 0 by omega)
      have h4 := Int.emod_lt_of_pos b (show (0 : Int) < n by omega)
      have h5 := hQ (b % n).toNat _ ⟨a, b / n, c, d, m, cs, ha, rfl⟩ (.inl (by omega))
      rw [Int.toNat_of_nonneg h3] at h5
      exact h5
    · exact hK _ ⟨_, _, ⟨a, b, c, d, m, cs, ha, rfl⟩, hs, rfl⟩
  clear ha hs
  rintro e ⟨o, s2, ⟨a, b, c, d, m, cs, ha, rfl⟩, hs, rfl⟩
  refine seq_cut (fun e => StN n e) (fun K hK => ?_) ?_
  · simp
    split
    · exact hK _ ⟨_, _, ⟨a, b, c - 1, d, m, cs, ha, rfl⟩, hs, rfl⟩
    · exact hK _ ⟨_, _, ⟨a, b, c, d, m, cs, ha, rfl⟩, hs, rfl⟩
  clear ha hs
  rintro e ⟨o, s2, ⟨a, b, c, d, m, cs, ha, rfl⟩, hs, rfl⟩
  simp
  refine ⟨_, _, rfl, fun r h0 h1 => ?_⟩
  have hst : StO (.lst (.int a :: .int b :: .int c :: .int d :: .int m :: cs.map .int)) := ⟨a, b, c, d, m, cs, ha, rfl⟩
  have fin : ∀ dr : Int, 0 ≤ dr → Q' (D.int (dr % n)) [.ow true (.lst (.int a :: .int b :: .int c :: .int d :: .int m :: cs.map .int)), .fr (.int n)] := fun dr hd => by
    have h3 := Int.emod_nonneg dr (show (n : Int) ≠ 0 by omega)
    have h4 := Int.emod_lt_of_pos dr (show (0 : Int) < n by omega)
    have h5 := hQ (dr % n).toNat _ hst (.inl (by omega))
    rw [Int.toNat_of_nonneg h3] at h5
    exact h5
  refine for_rule (fun i : Nat => D.int (0 + (i : Int))) (fun rest e => ∃ (dr re : Int) (s5 : Sl), 0 ≤ dr ∧ dr < re ∧ (re = 2147483587 ∨ re = 2147483587 * 2147483587) ∧ Fre s5 ∧ e = [.ow true (.lst (.int a :: .int b :: .int c :: .int d :: .int m :: cs.map .int)), .fr (.int n), s2, .fr (.int dr), .fr (.int re), s5]) ⟨_, _, _, h0, h1, .inl rfl, fre_no, rfl⟩ ?_ ?_
  · rintro x rest e ⟨dr, re, s5, hd, hr, hre, h5, rfl⟩ Kn hK
    simp [h5]
    split
    · exact ⟨by omega, fin dr hd⟩
    · have hre : re = 2147483587 := by omega
      subst hre
      refine ⟨mulOk (by omega) (by decide), _, _, rfl, fun r h6 h7 => ⟨mulOk (by decide) (by decide), ?_⟩⟩
      exact hK _ ⟨_, _, _, by omega, by omega, .inr rfl, fre_fr, rfl⟩
  · rintro e ⟨dr, re, s5, hd, hr, hre, h5, rfl⟩
    simp
    exact ⟨by omega, fin dr hd⟩
end K77

set_option Elab.async false
set_option linter.all false
set_option maxRecDepth 100000
set_option maxHeartbeats 8000000
namespace K77
open PySem PySem.Spec PyProof.Rows L2 DL PM
theorem sz {n : Nat} (h : n ≤ 2000) : n < sizeLine := by rw [sizeLine_eq]; omega
def sp__law_single : DSp := fun as Q _ => ∃ k j : Nat, as = [.fr (.int k), .fr (.int j)] ∧ k ≤ 1000 ∧ Q (nT (unitN k j)) as
theorem q__law_single (as Q') (h : sp__law_single as Q' X0) : Goal as Q' ds__law_single N__law_single := by
  obtain ⟨k, j, rfl, hk, hQ⟩ := h
  simp [Goal, ds__law_single, N__law_single]
  refine ⟨by omega, ?_⟩
  rw [DL.range_map]
  refine lc_map _ (fun i : Nat => nD (if i = j then 1 else 0)) rfl (by simp; exact sz (by omega)) (fun i hi Kn hKn => ?_) ?_
  · by_cases h : i = j <;> simpa [h, nD] using hKn
  · simpa [unitN, Function.comp_def] using hQ
def sp_unit : DSp := fun as Q _ => ∃ k j : Nat, as = [.fr (.int k), .fr (.int j)] ∧ k ≤ 1000 ∧ Q (nT (unitN k j)) as
theorem q_unit (as Q') (h : sp_unit as Q' X0) : Goal as Q' ds_unit N_unit := by
  obtain ⟨k, j, rfl, hk, hQ⟩ := h
  simp [Goal, ds_unit, N_unit]
  refine ⟨by omega, ?_⟩
  rw [DL.range_map]
  refine lc_map _ (fun i : Nat => nD (if i = j then 1 else 0)) rfl (by simp; exact sz (by omega)) (fun i hi Kn hKn => ?_) ?_
  · by_cases h : i = j <;> simpa [h, nD] using hKn
  · simpa [unitN, Function.comp_def] using hQ
def sp__law_fits : DSp := fun as Q _ => ∃ b x : List Nat, as = [.fr (nT b), .fr (nT x)] ∧ b.length = x.length ∧ b.length ≤ 1000 ∧ Q (.bl (fits b x)) as
theorem fits_false {b x : List Nat} {i : Nat} (hl : b.length = x.length) (h : i < b.length) (h2 : x[i] < b[i]) : fits b x = false := by
  cases q : fits b x with
  | false => rfl
  | true => have := fits_at hl q i h (by omega); omega
theorem q__law_fits (as Q') (h : sp__law_fits as Q' X0) : Goal as Q' ds__law_fits N__law_fits := by
  obtain ⟨b, x, rfl, hl, hb, hQ⟩ := h
  simp [Goal, ds__law_fits, N__law_fits]
  refine ⟨by omega, ?_⟩
  refine for_idx (fun i e => ∃ s, Fre s ∧ e = [.fr (nT b), .fr (nT x), s] ∧ ∀ j (h : j < i) (h1 : j < b.length) (h2 : j < x.length), b[j] ≤ x[j]) ⟨_, fre_no, rfl, fun j h => by omega⟩ ?_ ?_
  · rintro i hi e ⟨s, hs, rfl, hle⟩ Kn hK
    rw [rangeD_length] at hi
    rw [show (rangeD 0 b.length)[i]'(by rw [rangeD_length]; exact hi) = .int (i : Int) by simp [rangeD]]
    simp [hs]
    rw [at_n hi, at_n (by omega)]
    simp
    split
    · rename_i hlt
      rw [fits_false hl hi hlt] at hQ
      exact hQ
    · rename_i hlt
      refine hK _ ⟨_, fre_fr, rfl, fun j h h1 h2 => ?_⟩
      by_cases z : j = i
      · subst z; omega
      · exact hle j (by omega) h1 h2
  · rintro e ⟨s, hs, rfl, hle⟩
    rw [rangeD_length] at hle
    rw [fits_of hl fun i h1 h2 => hle i h1 h1 h2] at hQ
    simpa using hQ
def sp__law_less : DSp := fun as Q _ => ∃ x b : List Nat, as = [.fr (nT x), .fr (nT b)] ∧ x.length = b.length ∧ x.length ≤ 1000 ∧ fits b x = true ∧ Q (nT (less x b)) as
theorem less_range {x b : List Nat} (hl : x.length = b.length) : less x b = (List.range x.length).map fun i => x.getD i 0 - b.getD i 0 := by
  apply List.ext_getElem
  · rw [less_len hl]; simp
  · intro i h1 h2
    rw [less_len hl] at h1
    rw [less_at hl i _ h1 (by omega)]
    simp [h1, show i < b.length by omega]
theorem q__law_less (as Q') (h : sp__law_less as Q' X0) : Goal as Q' ds__law_less N__law_less := by
  obtain ⟨x, b, rfl, hl, hx, hf, hQ⟩ := h
  simp [Goal, ds__law_less, N__law_less]
  refine ⟨by omega, ?_⟩
  rw [DL.range_map]
  refine lc_map _ (fun i : Nat => nD (x.getD i 0 - b.getD i 0)) rfl (by simp; exact sz (by omega)) (fun i hi Kn hKn => ?_) ?_
  · have hi : i < x.length := by simpa using hi
    simp at hKn ⊢
    rw [at_n hi, at_n (by omega)]
    have := fits_at hl.symm hf i (by omega) hi
    simp
    rw [show ((x[i] : Int) - (b[i] : Int)) = ((x[i]?.getD 0 - b[i]?.getD 0 : Nat) : Int) by simp [hi, show i < b.length by omega]; omega]
    exact hKn
  · rw [less_range hl] at hQ
    simpa [Function.comp_def] using hQ
end K77

set_option Elab.async false
set_option linter.all false
set_option maxRecDepth 100000
set_option maxHeartbeats 8000000
namespace K77
open PySem PySem.Spec PyProof.Rows L2 DL PM
/-! rows of numbers -/
def sp_is_basket : DSp := fun as Q _ => ∃ xs : List Nat, as = [.fr (nT xs)] ∧ 1 ≤ xs.length ∧ xs.length ≤ 4 ∧ (∀ x ∈ xs, x ≤ 1000000000000) ∧ Q (.bl true) as
theorem q_is_basket (as Q') (h : sp_is_basket as Q' X0) : Goal as Q' (ds_is_basket sp_is_whole_row) N_is_basket := by
  obtain ⟨xs, rfl, h1, h2, h3, hQ⟩ := h
  simp [Goal, ds_is_basket, N_is_basket, D.isTy]
  simp at hQ
  rw [if_neg (by omega), if_neg (by omega)]
  exact ⟨xs, 1000000000000, rfl, h3, by simpa using hQ⟩
def sp_check_one : DSp := fun as Q _ => ∃ xs : List Nat, as = [.fr (nT xs)] ∧ 1 ≤ xs.length ∧ xs.length ≤ 4 ∧ (∀ x ∈ xs, x ≤ 1000000000000) ∧ Q .non as
theorem q_check_one (as Q') (h : sp_check_one as Q' X0) : Goal as Q' (ds_check_one sp_is_basket) N_check_one := by
  obtain ⟨xs, rfl, h1, h2, h3, hQ⟩ := h
  simp [Goal, ds_check_one, N_check_one]
  exact ⟨xs, rfl, h1, h2, h3, by simpa using hQ⟩
def sp_cells : DSp := fun as Q _ => ∃ xs : List Nat, as = [.fr (nT xs)] ∧ 1 ≤ xs.length ∧ xs.length ≤ 4 ∧ (∀ x ∈ xs, x ≤ 1000000000000) ∧ vol xs ≤ 1500 ∧ Q (.int (vol xs)) as
theorem vol_go (xs : List Nat) (a : Nat) : xs.foldl (fun p x => p * (x + 1)) a = a * vol xs := by
  induction xs generalizing a with
  | nil => simp [vol]
  | cons x xs ih => simp [vol, ih, Nat.mul_assoc]
theorem q_cells (as Q') (h : sp_cells as Q' X0) : Goal as Q' (ds_cells sp_check_one) N_cells := by
  obtain ⟨xs, rfl, h1, h2, h3, hv, hQ⟩ := h
  simp [Goal, ds_cells, N_cells]
  refine ⟨xs, rfl, h1, h2, h3, ?_⟩
  simp
  have key : ∀ (xs : List Nat) (a : Nat), a * vol xs ≤ 1500 → 0 < a → ∀ x rest, xs = x :: rest → a ≤ 1500 ∧ x + 1 ≤ 1500 := fun xs a h ha x rest e => by
    subst e
    simp only [vol] at h
    have := vol_pos rest
    have h1 : a * (x + 1) ≤ a * ((x + 1) * vol rest) := Nat.mul_le_mul_left _ (Nat.le_mul_of_pos_right _ this)
    have h2 : a ≤ a * (x + 1) := Nat.le_mul_of_pos_right _ (by omega)
    have h3 : x + 1 ≤ a * (x + 1) := Nat.le_mul_of_pos_left _ ha
    omega
  refine for_rule nD (fun rest e => ∃ (a : Nat) (s : Sl), e = [.fr (nT xs), .fr (.int a), s] ∧ Fre s ∧ 0 < a ∧ a * vol rest = vol xs) ⟨1, _, rfl, fre_no, by decide, by simp⟩ ?_ ?_
  · rintro x rest e ⟨a, s, rfl, hs, ha, hr⟩ Kn hK
    obtain ⟨k1, k2⟩ := key (x :: rest) a (by omega) ha x rest rfl
    simp [hs]
    refine ⟨mulOk (by omega) (by omega), hK _ ⟨a * (x + 1), .fr (nD x), by simp, by simp, Nat.mul_pos ha (by omega), ?_⟩⟩
    rw [← hr]
    simp [vol, Nat.mul_assoc]
  · rintro e ⟨a, s, rfl, hs, ha, hr⟩
    simp [vol] at hr
    subst hr
    simpa using hQ
/-! boxes -/
theorem row_le {top : List Nat} : (boxN top).length = vol top := by rw [boxN_eq, boxR_len]
def stepB (rows : List (List Nat)) (n : Nat) : List (List Nat) := rows.flatMap fun r => (List.range (n + 1)).map fun m => r ++ [m]
theorem stepB_len {rows : List (List Nat)} {n : Nat} : (stepB rows n).length = rows.length * (n + 1) := by
  unfold stepB
  rw [List.length_flatMap]
  simp
  rw [List.map_const', List.sum_replicate_nat]
theorem box_foldl (top : List Nat) : boxN top = top.foldl stepB [[]] := rfl
theorem fold_len (top : List Nat) (rows : List (List Nat)) : (top.foldl stepB rows).length = rows.length * vol top := by
  induction top generalizing rows with
  | nil => simp [vol]
  | cons t ts ih => rw [List.foldl_cons, ih, stepB_len, vol, Nat.mul_assoc]
theorem stepB_mem {rows : List (List Nat)} {n : Nat} {r : List Nat} (h : r ∈ stepB rows n) : ∃ r0 ∈ rows, r.length = r0.length + 1 := by
  unfold stepB at h
  obtain ⟨r0, h0, h1⟩ := List.mem_flatMap.mp h
  obtain ⟨m, _, rfl⟩ := List.mem_map.mp h1
  exact ⟨r0, h0, by simp⟩
def sp__law_box : DSp := fun as Q _ => ∃ top : List Nat, as = [.fr (nT top)] ∧ vol top ≤ 1500 ∧ top.length ≤ 1000 ∧ Q (.lst ((boxN top).map nT)) as
theorem q__law_box (as Q') (h : sp__law_box as Q' X0) : Goal as Q' ds__law_box N__law_box := by
  obtain ⟨top, rfl, hv, hl, hQ⟩ := h
  simp [Goal, ds__law_box, N__law_box]
  refine for_rule nD (fun rest e => ∃ (rows : List (List Nat)) (s2 s3 s4 s5 : Sl), e = [.fr (nT top), .ow false (.lst (rows.map nT)), s2, s3, s4, s5] ∧ Fre s2 ∧ Fre s3 ∧ Fre s4 ∧ Fre s5 ∧ rest.foldl stepB rows = boxN top ∧ (∀ r ∈ rows, r.length + rest.length ≤ 1000)) ⟨[[]], _, _, _, _, rfl, fre_no, fre_no, fre_no, fre_no, rfl, by simpa using hl⟩ ?_ ?_
  · rintro n rest e ⟨rows, s2, s3, s4, s5, rfl, h2, h3, h4, h5, hb, hr⟩ Kn hK
    simp [h2, h3]
    have hlen : (stepB rows n).length ≤ 1500 := by
      have e1 := fold_len rest (stepB rows n)
      rw [List.foldl_cons] at hb
      rw [hb, row_le] at e1
      have := vol_pos rest
      have : (stepB rows n).length ≤ (stepB rows n).length * vol rest := Nat.le_mul_of_pos_right _ this
      omega
    refine for_rule nT (fun rest2 e => ∃ (acc : List (List Nat)) (s4 s5 : Sl), e = [.fr (nT top), .fr (.lst (rows.map nT)), .fr (.int n), .ow false (.lst (acc.map nT)), s4, s5] ∧ Fre s4 ∧ Fre s5 ∧ acc ++ stepB rest2 n = stepB rows n ∧ ∀ r ∈ rest2, r ∈ rows) ⟨[], _, _, rfl, h4, h5, rfl, fun r h => h⟩ ?_ ?_
    · rintro row rest2 e ⟨acc, s4, s5, rfl, h4, h5, hacc, hrr⟩ Kn2 hK2
      simp [h4]
      have hn1500 : n + 1 ≤ 1500 := by
        have : (stepB rows n).length = rows.length * (n + 1) := stepB_len
        have h0 : 0 < rows.length := List.length_pos_of_mem (hrr row (by simp))
        have : n + 1 ≤ rows.length * (n + 1) := Nat.le_mul_of_pos_left _ h0
        omega
      refine ⟨by omega, ?_⟩
      rw [DL.range_map]
      have e0 : stepB (row :: rest2) n = (List.range (n + 1)).map (fun m => row ++ [m]) ++ stepB rest2 n := by simp [stepB]
      rw [e0] at hacc
      refine for_rule _ (fun rest3 e => ∃ (acc : List (List Nat)) (s5 : Sl), e = [.fr (nT top), .fr (.lst (rows.map nT)), .fr (.int n), .ow false (.lst (acc.map nT)), .fr (nT row), s5] ∧ Fre s5 ∧ acc ++ (rest3.map (fun m => row ++ [m]) ++ stepB rest2 n) = stepB rows n) ⟨acc, _, by simp, h5, hacc⟩ ?_ ?_
      · rintro m rest3 e ⟨acc, s5, rfl, h5, hacc⟩ Kn3 hK3
        have hsz : acc.length < 1500 := by
          have := congrArg List.length hacc
          simp at this
          omega
        have hrow := hr row (hrr row (by simp))
        simp [h5]
        have h9 := hK3 _ ⟨acc ++ [row ++ [m]], .fr (.int m), rfl, by simp, by simpa using hacc⟩
        refine ⟨by have := sz (n := row.length + 1) (by simp at hrow; omega); omega, sz (by omega), ?_⟩
        simpa [nD] using h9
      · rintro e ⟨acc, s5, rfl, h5, hacc⟩
        exact hK2 _ ⟨acc, _, _, rfl, by simp, h5, by simpa using hacc, fun r h => hrr r (by simp [h])⟩
    · rintro e ⟨acc, s4, s5, rfl, h4, h5, hacc, _⟩
      simp
      have : acc = stepB rows n := by simpa [stepB] using hacc
      subst this
      refine hK _ ⟨_, _, _, _, _, rfl, by simp, by simp, h4, h5, hb, fun r h => ?_⟩
      obtain ⟨r0, q1, q2⟩ := stepB_mem h
      have := hr r0 q1
      simp at this
      omega
  · rintro e ⟨rows, s2, s3, s4, s5, rfl, h2, h3, h4, h5, hb, hr⟩
    simp at hb
    subst hb
    simpa using hQ
end K77

set_option Elab.async false
set_option linter.all false
set_option maxRecDepth 100000
set_option maxHeartbeats 8000000
namespace K77
open PySem PySem.Spec PyProof.Rows L2 DL PM
def sp_box : DSp := fun as Q _ => ∃ top : List Nat, as = [.fr (nT top)] ∧ 1 ≤ top.length ∧ top.length ≤ 4 ∧ (∀ x ∈ top, x ≤ 1000000000000) ∧ vol top ≤ 1500 ∧ Q (.tup ((boxN top).map nT)) as
theorem q_box (as Q') (h : sp_box as Q' X0) : Goal as Q' (ds_box sp_cells) N_box := by
  obtain ⟨top, rfl, h1, h2, h3, hv, hQ⟩ := h
  simp [Goal, ds_box, N_box]
  refine ⟨top, rfl, h1, h2, h3, hv, ?_⟩
  simp
  refine ⟨by omega, ?_⟩
  refine for_rule nD (fun rest e => ∃ (rows : List (List Nat)) (s2 : Sl), e = [.fr (nT top), .ow false (.lst (rows.map nT)), s2, .no, .no] ∧ Fre s2 ∧ rest.foldl stepB rows = boxN top ∧ (∀ r ∈ rows, r.length + rest.length ≤ 1000)) ⟨[[]], _, rfl, fre_no, rfl, by simp; omega⟩ ?_ ?_
  · rintro n rest e ⟨rows, s2, rfl, hs2, hb, hr⟩ Kn hK
    have hlen : (stepB rows n).length ≤ 1500 := by
      have e1 := fold_len rest (stepB rows n)
      rw [List.foldl_cons] at hb
      rw [hb, row_le] at e1
      have := vol_pos rest
      have : (stepB rows n).length ≤ (stepB rows n).length * vol rest := Nat.le_mul_of_pos_right _ this
      omega
    simp [hs2]
    refine lc2_map nT (fun m : Nat => D.int m) (fun _ => List.range (n + 1)) (fun r m => nT (r ++ [m])) (by decide) rfl rfl ?_ (fun r hr2 Kn2 h => ?_) (fun r hr2 m hm Kn2 h => ?_) ?_
    · have e0 : ((rows.flatMap fun x => (List.range (n + 1)).map fun m => nT (x ++ [m])).length) = (stepB rows n).length := by simp [stepB, List.length_flatMap]
      rw [e0]
      exact sz (by simp; omega)
    · simp
      have h0 : 0 < rows.length := List.length_pos_of_mem hr2
      have : (stepB rows n).length = rows.length * (n + 1) := stepB_len
      have : n + 1 ≤ rows.length * (n + 1) := Nat.le_mul_of_pos_left _ h0
      refine ⟨by omega, ?_⟩
      rw [DL.range_map]
      exact h
    · simp
      have := hr r hr2
      simp at this
      refine ⟨by have := sz (n := r.length + 1) (by omega); omega, ?_⟩
      simpa using h
    · simp
      refine hK _ ⟨stepB rows n, .fr (nD n), ?_, by simp, hb, fun r h => ?_⟩
      · simp [stepB, List.map_flatMap, Function.comp_def]
      · obtain ⟨r0, q1, q2⟩ := stepB_mem h
        have := hr r0 q1
        simp at this
        omega
  · rintro e ⟨rows, s2, rfl, hs2, hb, hr⟩
    simp at hb
    subst hb
    simpa using hQ
/-! places in the box -/
def stridesN : List Nat → List Nat
  | [] => []
  | _ :: ts => vol ts :: stridesN ts
theorem stridesN_len : ∀ top : List Nat, (stridesN top).length = top.length
  | [] => rfl
  | _ :: ts => by simp [stridesN, stridesN_len ts]
theorem vol_snoc (xs : List Nat) (x : Nat) : vol (xs ++ [x]) = vol xs * (x + 1) := by
  induction xs with
  | nil => simp [vol]
  | cons y ys ih => simp [vol, ih, Nat.mul_assoc]
def sp_strides : DSp := fun as Q _ => ∃ top : List Nat, as = [.fr (nT top)] ∧ top.length ≤ 4 ∧ vol top ≤ 1500 ∧ Q (nT (stridesN top)) as
theorem strides_rev : ∀ (top : List Nat) (rest : List Nat), stridesN (top ++ rest) = stridesN (top ++ rest) := fun _ _ => rfl
theorem vol_le_app (a b : List Nat) : vol b ≤ vol (a ++ b) := by
  induction a with
  | nil => exact Nat.le_refl _
  | cons x a ih => exact Nat.le_trans ih (Nat.le_mul_of_pos_left _ (by omega))
theorem q_strides (as Q') (h : sp_strides as Q' X0) : Goal as Q' ds_strides N_strides := by
  obtain ⟨top, rfl, hl, hv, hQ⟩ := h
  simp [Goal, ds_strides, N_strides]
  rw [← List.map_reverse]
  refine for_rule nD (fun rest e => ∃ (done : List Nat) (s3 : Sl), e = [.fr (nT top), .ow false (.lst ((stridesN done).reverse.map nD)), .fr (.int (vol done)), s3] ∧ Fre s3 ∧ rest.reverse ++ done = top) ⟨[], _, by simp [stridesN, vol], fre_no, by simp⟩ ?_ ?_
  · rintro x rest e ⟨done, s3, rfl, hs, hd⟩ Kn hK
    have hd2 : rest.reverse ++ (x :: done) = top := by simpa using hd
    have hvd : vol (x :: done) ≤ 1500 := by rw [← hd2] at hv; exact Nat.le_trans (vol_le_app _ _) hv
    have hld : (x :: done).length ≤ 4 := by rw [← hd2] at hl; simp at hl ⊢; omega
    simp [vol] at hvd hld
    have v1 := vol_pos done
    have b1 : vol done ≤ (x + 1) * vol done := Nat.le_mul_of_pos_left _ (by omega)
    have b2 : x + 1 ≤ (x + 1) * vol done := Nat.le_mul_of_pos_right _ v1
    simp [hs]
    refine ⟨sz (by rw [stridesN_len]; omega), mulOk (by omega) (by omega), hK _ ⟨x :: done, .fr (nD x), ?_, by simp, hd2⟩⟩
    simp [stridesN, vol, Int.mul_comm]
  · rintro e ⟨done, s3, rfl, hs, hd⟩
    simp at hd
    subst hd
    simp
    unfold dRevL
    simp
    simpa [List.map_reverse] using hQ
def dotN : List Nat → List Nat → Nat
  | x :: xs, y :: ys => x * y + dotN xs ys
  | _, _ => 0
theorem dot_zip (xs ys : List Nat) : ((xs.zip ys).map fun p => (p.1 : Int) * (p.2 : Int)).sum = (dotN xs ys : Int) := by
  induction xs generalizing ys with
  | nil => simp [dotN]
  | cons x xs ih => cases ys with
    | nil => simp [dotN]
    | cons y ys => simp [dotN, ih]
theorem dot_spot : ∀ {top x : List Nat}, x.length = top.length → dotN x (stridesN top) = spotN top x
  | [], [], _ => rfl
  | t :: ts, x :: xs, h => by simp [stridesN, dotN, spotN, dot_spot (top := ts) (x := xs) (by simpa using h)]
  | [], _ :: _, h => by simp at h
  | _ :: _, [], h => by simp at h
def sp_spot : DSp := fun as Q _ => ∃ xs ys : List Nat, as = [.fr (nT xs), .fr (nT ys)] ∧ xs.length ≤ 4 ∧ (∀ x ∈ xs, x ≤ 1000000000000) ∧ (∀ y ∈ ys, y ≤ 1500) ∧ Q (.int (dotN xs ys)) as
theorem q_spot (as Q') (h : sp_spot as Q' X0) : Goal as Q' ds_spot N_spot := by
  obtain ⟨xs, ys, rfl, hl, hx, hy, hQ⟩ := h
  simp [Goal, ds_spot, N_spot]
  rw [pairs_map]
  refine lc_mapG _ (fun p : Nat × Nat => D.int ((p.1 : Int) * (p.2 : Int))) (by simp; exact sz (by omega)) (fun p hp Kn h => ?_) ?_
  · have b1 := hx p.1 (List.of_mem_zip hp).1
    have b2 := hy p.2 (List.of_mem_zip hp).2
    simp
    exact ⟨mulOk (by omega) (by omega), h⟩
  · have e0 : ((xs.zip ys).map fun p => D.int ((p.1 : Int) * (p.2 : Int))) = ((xs.zip ys).map fun p => (p.1 : Int) * (p.2 : Int)).map D.int := by simp
    simp
    rw [e0, f_sumN, dot_zip]
    simpa using hQ
def sp_lies_in : DSp := fun as Q _ => ∃ b x : List Nat, as = [.fr (nT b), .fr (nT x)] ∧ b.length = x.length ∧ Q (.bl (fits b x)) as
theorem fits_zip : ∀ {b x : List Nat}, fits b x = ((b.zip x).all fun p => decide (p.1 ≤ p.2))
  | [], _ => by simp [fits]
  | _ :: _, [] => by simp [fits]
  | b :: bs, x :: xs => by simp [fits, fits_zip (b := bs) (x := xs)]
theorem q_lies_in (as Q') (h : sp_lies_in as Q' X0) : Goal as Q' ds_lies_in N_lies_in := by
  obtain ⟨b, x, rfl, hl, hQ⟩ := h
  simp [Goal, ds_lies_in, N_lies_in]
  rw [pairs_map]
  rw [fits_zip] at hQ
  refine for_rule _ (fun rest e => ∃ (s2 s3 : Sl), e = [.fr (nT b), .fr (nT x), s2, s3] ∧ Fre s2 ∧ Fre s3 ∧ (b.zip x).all (fun p => decide (p.1 ≤ p.2)) = rest.all fun p => decide (p.1 ≤ p.2)) ⟨_, _, rfl, fre_no, fre_no, rfl⟩ ?_ ?_
  · rintro p rest e ⟨s2, s3, rfl, h2, h3, ha⟩ Kn hK
    simp [h2, h3]
    split
    · rename_i hlt
      rw [ha, List.all_cons, decide_eq_false (by omega)] at hQ
      simpa using hQ
    · rename_i hlt
      refine hK _ ⟨.fr (nD p.1), .fr (nD p.2), by simp, by simp, by simp, ?_⟩
      rw [ha, List.all_cons, decide_eq_true (by omega), Bool.true_and]
  · rintro e ⟨s2, s3, rfl, h2, h3, ha⟩
    rw [ha] at hQ
    simpa using hQ
def sp_lies_below : DSp := fun as Q _ => ∃ b x : List Nat, as = [.fr (nT b), .fr (nT x)] ∧ b.length = x.length ∧ fits b x = true ∧ Q (.bl true) as
theorem q_lies_below (as Q') (h : sp_lies_below as Q' X0) : Goal as Q' ds_lies_below N_lies_below := by
  obtain ⟨b, x, rfl, hl, hf, hQ⟩ := h
  simp [Goal, ds_lies_below, N_lies_below, D.isTy, hl]
  rw [pairs_map]
  rw [fits_zip] at hf
  refine for_rule _ (fun rest e => ∃ (s2 s3 : Sl), e = [.fr (nT b), .fr (nT x), s2, s3] ∧ Fre s2 ∧ Fre s3 ∧ rest.all (fun p => decide (p.1 ≤ p.2)) = true) ⟨_, _, rfl, fre_no, fre_no, hf⟩ ?_ ?_
  · rintro p rest e ⟨s2, s3, rfl, h2, h3, ha⟩ Kn hK
    simp only [List.all_cons, Bool.and_eq_true, decide_eq_true_eq] at ha
    simp [h2, h3, D.isTy]
    rw [if_neg (by omega), if_neg (by omega)]
    exact hK _ ⟨.fr (nD p.1), .fr (nD p.2), rfl, by simp, by simp, ha.2⟩
  · rintro e ⟨s2, s3, rfl, h2, h3, ha⟩
    simpa using hQ
end K77

set_option Elab.async false
set_option linter.all false
set_option maxRecDepth 100000
set_option maxHeartbeats 8000000
namespace K77
open PySem PySem.Spec PyProof.Rows L2 DL PM
/-! offers, books -/
@[reducible] def oD (o : List Nat × Nat) : D := .tup [nT o.1, nD o.2]
structure OkOff (k : Nat) (o : List Nat × Nat) : Prop where
  len : o.1.length = k
  le : ∀ x ∈ o.1, x ≤ 8
  one : 1 ≤ o.1.sum
  top : o.1.sum ≤ 8
  pr : o.2 ≤ 1000000000000
structure OkOffs (k : Nat) (os : List (List Nat × Nat)) : Prop where
  len : os.length ≤ 10
  all : ∀ o ∈ os, OkOff k o
  one : ∀ j, j < k → unitN k j ∈ os.map (·.1)
theorem OkOffs.pos {k : Nat} {os : List (List Nat × Nat)} (h : OkOffs k os) : Pos k os := fun o ho => ⟨(h.all o ho).len, (h.all o ho).one⟩
def alphabet : Str := "abcdefghijklmnopqrstuvwxyz"
structure OkWord (w : Str) : Prop where
  one : 1 ≤ w.length
  top : w.length ≤ 8
  sign : ∀ c ∈ w.cps.toList, c ∈ alphabet.cps.toList
structure OkWords (k : Nat) (ws : List Str) : Prop where
  len : ws.length = k
  one : 1 ≤ k
  top : k ≤ 4
  all : ∀ w ∈ ws, OkWord w
  nd : ws.Nodup
@[reducible] def bookD (ws : List Str) (os : List (List Nat × Nat)) : D := .ins "Book" [("kinds", .tup (ws.map .str)), ("offers", .tup (os.map oD)), ("bundle_row", .tup (os.map fun o => nT o.1)), ("price_row", .tup (os.map fun o => nD o.2))]
def sp_is_offer : DSp := fun as Q _ => ∃ (k : Nat) (o : List Nat × Nat), as = [.fr (oD o), .fr (.int k)] ∧ OkOff k o ∧ Q (.bl true) as
theorem sum_nat (xs : List Nat) : (xs.map fun x : Nat => (x : Int)).sum = (xs.sum : Int) := by
  induction xs with
  | nil => rfl
  | cons x xs ih => simp [ih]
theorem f_sumNat {xs : List Nat} {Q1 : D → Prop} : fSum [.lst (xs.map nD)] Q1 = Q1 (.int (xs.sum : Int)) := by
  have : xs.map nD = (xs.map fun x : Nat => (x : Int)).map D.int := by simp [Function.comp_def, nD]
  rw [this, f_sumN, sum_nat]
theorem f_sumNatT {xs : List Nat} {Q1 : D → Prop} : fSum [.tup (xs.map nD)] Q1 = Q1 (.int (xs.sum : Int)) := by
  have : xs.map nD = (xs.map fun x : Nat => (x : Int)).map D.int := by simp [Function.comp_def, nD]
  rw [this, ← sum_nat]
  show (match D.ints ((xs.map fun x : Nat => (x : Int)).map D.int) with | some ns => Q1 (.int ns.sum) | none => False) = _
  rw [D.ints_map]
theorem q_is_offer (as Q') (h : sp_is_offer as Q' X0) : Goal as Q' (ds_is_offer sp_is_whole_row sp_is_whole_in) N_is_offer := by
  obtain ⟨k, o, rfl, ho, hQ⟩ := h
  simp [Goal, ds_is_offer, N_is_offer, D.isTy]
  refine ⟨o.1, 8, by simp [ho.len], ho.le, ?_⟩
  simp [f_sumNatT]
  have h1 := ho.one
  have h8 := ho.top
  rw [if_pos (by omega), if_pos (by omega)]
  refine ⟨_, _, _, rfl, by omega, by have := ho.pr; omega, ?_⟩
  simpa using hQ
def sp_check_basket : DSp := fun as Q _ => ∃ (ws : List Str) (os : List (List Nat × Nat)) (x : List Nat), as = [.fr (bookD ws os), .fr (nT x)] ∧ x.length = ws.length ∧ (∀ y ∈ x, y ≤ 1000000000000) ∧ Q .non as
theorem q_check_basket (as Q') (h : sp_check_basket as Q' X0) : Goal as Q' (ds_check_basket sp_is_whole_row) N_check_basket := by
  obtain ⟨ws, os, x, rfl, hl, hx, hQ⟩ := h
  simp [Goal, ds_check_basket, N_check_basket]
  refine ⟨x, 1000000000000, by simp [hl], hx, ?_⟩
  simpa using hQ
theorem less_zip {x b : List Nat} (hl : x.length = b.length) : less x b = x.zipIdx.map fun p => p.1 - b.getD p.2 0 := by
  rw [less_range hl]
  apply List.ext_getElem?
  intro i
  rw [List.getElem?_map, List.getElem?_map, List.getElem?_zipIdx]
  by_cases h : i < x.length
  · simp [h]
  · simp [h]
end K77

set_option Elab.async false
set_option linter.all false
set_option maxRecDepth 100000
set_option maxHeartbeats 8000000
namespace K77
open PySem PySem.Spec PyProof.Rows L2 DL PM
theorem letters_ok : (alphabet.cps.toList.all fun c => decide (c < 0x110000) && !(Builtin.Str.occurrences alphabet ⟨#[c]⟩ 0 alphabet.length 1).isEmpty) = true := by decide +kernel
theorem letter_ok {c : Nat} (h : c ∈ alphabet.cps.toList) : PyData.strOk ⟨#[c]⟩ = true ∧ (Builtin.Str.occurrences alphabet ⟨#[c]⟩ 0 alphabet.length 1).isEmpty = false := by
  have := List.all_eq_true.mp letters_ok c h
  simp only [Bool.and_eq_true, decide_eq_true_eq, Bool.not_eq_true'] at this
  exact ⟨by simp [PyData.strOk, this.1], this.2⟩
theorem OkWord.str {w : Str} (h : OkWord w) : PyData.strOk w = true := by
  unfold PyData.strOk
  rw [Array.all_eq_true']
  intro c hc
  have := List.all_eq_true.mp letters_ok c (h.sign c (by simpa using hc))
  simp only [Bool.and_eq_true, decide_eq_true_eq] at this
  exact decide_eq_true this.1
def sp_is_word : DSp := fun as Q _ => ∃ w : Str, as = [.fr (.str w)] ∧ OkWord w ∧ Q (.bl true) as
theorem q_is_word (as Q') (h : sp_is_word as Q' X0) : Goal as Q' ds_is_word N_is_word := by
  obtain ⟨w, rfl, hw, hQ⟩ := h
  have h1 := hw.one
  have h8 := hw.top
  have hz : w.length ≤ sizeLine := by have := sz (n := w.length) (by omega); omega
  simp [Goal, ds_is_word, N_is_word, D.isTy, hz]
  rw [if_neg (by omega), if_neg (by omega)]
  unfold signsD
  refine for_rule _ (fun rest e => ∃ s, e = [.fr (.str w), s] ∧ Fre s ∧ ∀ c ∈ rest, c ∈ alphabet.cps.toList) ⟨_, rfl, fre_no, hw.sign⟩ ?_ ?_
  · rintro c rest e ⟨s, rfl, hs, hr⟩ Kn hK
    obtain ⟨a1, a2⟩ := letter_ok (hr c (by simp))
    simp [hs]
    rw [show (Str.ofString "abcdefghijklmnopqrstuvwxyz") = alphabet from rfl, f_inStr a1, a2]
    simp
    exact hK _ ⟨_, rfl, by simp, fun y hy => hr y (by simp [hy])⟩
  · rintro e ⟨s, rfl, hs, hr⟩
    simpa using hQ
/-- a list or a tuple -/
def SqK (c : List D → D) : Prop := c = .lst ∨ c = .tup
theorem sqL : SqK .lst := .inl rfl
theorem sqT : SqK .tup := .inr rfl
def sp_check_words : DSp := fun as Q _ => ∃ (k : Nat) (ws : List Str) (c : List D → D), as = [.fr (c (ws.map .str))] ∧ SqK c ∧ OkWords k ws ∧ Q .non as
theorem any_str (ws : List Str) (w : Str) : ((ws.map PyData.str).any fun d => PyData.eqv d (.str w)) = decide (w ∈ ws) := PySem.W.any_datum (α := Str) ws w
theorem any_tup (xs : List (List Nat)) (x : List Nat) : ((xs.map fun y => PyData.tuple (y.map fun n : Nat => PyData.int n)).any fun d => PyData.eqv d (.tuple (x.map fun n : Nat => PyData.int n))) = decide (x ∈ xs) := by
  have key : ∀ a b : List Nat, PyData.eqv (.tuple (a.map fun n : Nat => PyData.int n)) (.tuple (b.map fun n : Nat => PyData.int n)) = decide (a = b) := fun a b => by
    have h := PySem.W.eqvAll_map (α := Int) (a.map fun n : Nat => (n : Int)) (b.map fun n : Nat => (n : Int))
    simp only [List.map_map] at h
    have e : ∀ l : List Nat, l.map ((PySem.W.Datum.toD : Int → PyData) ∘ fun n : Nat => (n : Int)) = l.map fun n : Nat => PyData.int n := fun l => rfl
    rw [e, e] at h
    rw [PyData.eqv, h]
    by_cases z : a = b
    · subst z; simp
    · rw [decide_eq_false z, decide_eq_false]
      intro y
      apply z
      have inj : ∀ (l m : List Nat), (l.map fun n : Nat => (n : Int)) = (m.map fun n : Nat => (n : Int)) → l = m := by
        intro l
        induction l with
        | nil => intro m h; cases m with
          | nil => rfl
          | cons _ _ => simp at h
        | cons p l ih => intro m h; cases m with
          | nil => simp at h
          | cons q m =>
            simp at h
            rw [h.1, ih m (by simpa using h.2)]
      exact inj a b y
  induction xs with
  | nil => simp
  | cons y xs ih =>
    rw [List.map_cons, List.any_cons, ih, key]
    by_cases z : y = x
    · simp [z]
    · simp [z, Ne.symm z]
theorem sh_nT (xs : List Nat) : Sh (nT xs) (.tuple (xs.map fun n : Nat => PyData.int n)) 1 := Sh.tup (ShL.map fun x _ => Sh.int x)
theorem q_check_words (as Q') (h : sp_check_words as Q' X0) : Goal as Q' (ds_check_words sp_is_word) N_check_words := by
  obtain ⟨k, ws, c, rfl, hc, hw, hQ⟩ := h
  rcases hc with rfl | rfl
  · have e1 := hw.len
    have e2 := hw.one
    have e3 := hw.top
    simp [Goal, ds_check_words, N_check_words, D.isTy]
    refine ⟨by omega, by omega, ?_⟩
    rw [enum_map]
    refine for_rule _ (fun rest e => ∃ (s1 s2 : Sl), e = [.fr (.lst (ws.map .str)), s1, s2] ∧ Fre s1 ∧ Fre s2 ∧ ∀ p ∈ rest, p ∈ ws.zipIdx) ⟨_, _, rfl, fre_no, fre_no, fun p h => h⟩ ?_ ?_
    · rintro p rest e ⟨s1, s2, rfl, h1, h2, hr⟩ Kn hK
      obtain ⟨w, i⟩ := p
      have hp := hr (w, i) (by simp)
      rw [List.mem_zipIdx_iff_getElem?] at hp
      have hp : ws[i]? = some w := hp
      have hww := hw.all w (List.mem_of_getElem? hp)
      simp [h1, h2]
      refine ⟨w, rfl, hww, ?_⟩
      simp
      rw [cut_to, ← List.map_take]
      first | rw [f_inS (Sh.str hww.str) (ShL.map (g := PyData.str) fun x hx => Sh.str (hw.all x (List.mem_of_mem_take hx)).str) (by decide) (by decide), any_str] | rw [f_inT (Sh.str hww.str) (ShL.map (g := PyData.str) fun x hx => Sh.str (hw.all x (List.mem_of_mem_take hx)).str) (by decide) (by decide), any_str]
      have hn : w ∉ ws.take i := by
        intro hm
        obtain ⟨j, hj, e⟩ := List.mem_iff_getElem.mp hm
        rw [List.length_take] at hj
        rw [List.getElem_take] at e
        obtain ⟨hi, e2⟩ := List.getElem?_eq_some_iff.mp hp
        have := (List.getElem_inj hw.nd).mp (e.trans e2.symm)
        omega
      simp [hn]
      exact hK _ ⟨_, _, rfl, by simp, by simp, fun p h => hr p (by simp [h])⟩
    · rintro e ⟨s1, s2, rfl, h1, h2, hr⟩
      simpa using hQ
  · have e1 := hw.len
    have e2 := hw.one
    have e3 := hw.top
    simp [Goal, ds_check_words, N_check_words, D.isTy]
    refine ⟨by omega, by omega, ?_⟩
    rw [enum_map]
    refine for_rule _ (fun rest e => ∃ (s1 s2 : Sl), e = [.fr (.tup (ws.map .str)), s1, s2] ∧ Fre s1 ∧ Fre s2 ∧ ∀ p ∈ rest, p ∈ ws.zipIdx) ⟨_, _, rfl, fre_no, fre_no, fun p h => h⟩ ?_ ?_
    · rintro p rest e ⟨s1, s2, rfl, h1, h2, hr⟩ Kn hK
      obtain ⟨w, i⟩ := p
      have hp := hr (w, i) (by simp)
      rw [List.mem_zipIdx_iff_getElem?] at hp
      have hp : ws[i]? = some w := hp
      have hww := hw.all w (List.mem_of_getElem? hp)
      simp [h1, h2]
      refine ⟨w, rfl, hww, ?_⟩
      simp
      rw [cut_to, ← List.map_take]
      first | rw [f_inS (Sh.str hww.str) (ShL.map (g := PyData.str) fun x hx => Sh.str (hw.all x (List.mem_of_mem_take hx)).str) (by decide) (by decide), any_str] | rw [f_inT (Sh.str hww.str) (ShL.map (g := PyData.str) fun x hx => Sh.str (hw.all x (List.mem_of_mem_take hx)).str) (by decide) (by decide), any_str]
      have hn : w ∉ ws.take i := by
        intro hm
        obtain ⟨j, hj, e⟩ := List.mem_iff_getElem.mp hm
        rw [List.length_take] at hj
        rw [List.getElem_take] at e
        obtain ⟨hi, e2⟩ := List.getElem?_eq_some_iff.mp hp
        have := (List.getElem_inj hw.nd).mp (e.trans e2.symm)
        omega
      simp [hn]
      exact hK _ ⟨_, _, rfl, by simp, by simp, fun p h => hr p (by simp [h])⟩
    · rintro e ⟨s1, s2, rfl, h1, h2, hr⟩
      simpa using hQ
def sp_check_offers : DSp := fun as Q _ => ∃ (k : Nat) (os : List (List Nat × Nat)) (c : List D → D), as = [.fr (c (os.map oD)), .fr (.int k)] ∧ SqK c ∧ OkOffs k os ∧ Q .non as
theorem q_check_offers (as Q') (h : sp_check_offers as Q' X0) : Goal as Q' (ds_check_offers sp_is_offer) N_check_offers := by
  obtain ⟨k, os, c, rfl, hc, ho, hQ⟩ := h
  rcases hc with rfl | rfl
  · have e1 := ho.len
    simp [Goal, ds_check_offers, N_check_offers, D.isTy]
    refine ⟨by omega, ?_⟩
    rw [enum_map]
    refine for_rule _ (fun rest e => ∃ (s1 s2 : Sl), e = [.fr (.lst (os.map oD)), .fr (.int k), s1, s2] ∧ Fre s1 ∧ Fre s2 ∧ ∀ p ∈ rest, p ∈ os.zipIdx) ⟨_, _, rfl, fre_no, fre_no, fun p h => h⟩ ?_ ?_
    · rintro p rest e ⟨s1, s2, rfl, h1, h2, hr⟩ Kn hK
      obtain ⟨o, i⟩ := p
      have hp := hr (o, i) (by simp)
      rw [List.mem_zipIdx_iff_getElem?] at hp
      have hp : os[i]? = some o := hp
      simp [h1, h2]
      refine ⟨k, o, rfl, ho.all o (List.mem_of_getElem? hp), ?_⟩
      simp
      exact hK _ ⟨_, _, rfl, by simp, by simp, fun p h => hr p (by simp [h])⟩
    · rintro e ⟨s1, s2, rfl, h1, h2, hr⟩
      simpa using hQ
  · have e1 := ho.len
    simp [Goal, ds_check_offers, N_check_offers, D.isTy]
    refine ⟨by omega, ?_⟩
    rw [enum_map]
    refine for_rule _ (fun rest e => ∃ (s1 s2 : Sl), e = [.fr (.tup (os.map oD)), .fr (.int k), s1, s2] ∧ Fre s1 ∧ Fre s2 ∧ ∀ p ∈ rest, p ∈ os.zipIdx) ⟨_, _, rfl, fre_no, fre_no, fun p h => h⟩ ?_ ?_
    · rintro p rest e ⟨s1, s2, rfl, h1, h2, hr⟩ Kn hK
      obtain ⟨o, i⟩ := p
      have hp := hr (o, i) (by simp)
      rw [List.mem_zipIdx_iff_getElem?] at hp
      have hp : os[i]? = some o := hp
      simp [h1, h2]
      refine ⟨k, o, rfl, ho.all o (List.mem_of_getElem? hp), ?_⟩
      simp
      exact hK _ ⟨_, _, rfl, by simp, by simp, fun p h => hr p (by simp [h])⟩
    · rintro e ⟨s1, s2, rfl, h1, h2, hr⟩
      simpa using hQ
def sp_check_singles : DSp := fun as Q _ => ∃ (k : Nat) (os : List (List Nat × Nat)) (c : List D → D), as = [.fr (c (os.map oD)), .fr (.int k)] ∧ SqK c ∧ k ≤ 4 ∧ OkOffs k os ∧ Q .non as
theorem q_check_singles (as Q') (h : sp_check_singles as Q' X0) : Goal as Q' (ds_check_singles sp_unit) N_check_singles := by
  obtain ⟨k, os, c, rfl, hc, hk, ho, hQ⟩ := h
  rcases hc with rfl | rfl
  · have e1 := ho.len
    simp [Goal, ds_check_singles, N_check_singles]
    refine lc_map oD (fun o => nT o.1) rfl (by simp; exact sz (by omega)) (fun o ho Kn h => ?_) ?_
    · simp
      simpa using h
    · simp
      refine ⟨by omega, ?_⟩
      rw [DL.range_map]
      refine for_rule _ (fun rest e => ∃ (s2 s4 : Sl), e = [.fr (.lst (os.map oD)), .fr (.int k), s2, .no, s4] ∧ (s2 = .ow false (.lst (os.map fun o => nT o.1)) ∨ s2 = .fr (.lst (os.map fun o => nT o.1))) ∧ Fre s4 ∧ ∀ j ∈ rest, j < k) ⟨_, _, rfl, .inl (by simp), fre_no, by simp⟩ ?_ ?_
      · rintro j rest e ⟨s2, s4, rfl, h2, h4, hr⟩ Kn hK
        have key : ∀ Q1 : D → Prop, fIn true (.tup ((unitN k j).map nD)) (.lst (os.map fun o : List Nat × Nat => D.tup (o.1.map nD))) Q1 = Q1 (.bl false) := fun Q1 => by
          rw [f_inS (sh_nT (unitN k j)) (ShL.map (f := fun o : List Nat × Nat => nT o.1) (g := fun o => PyData.tuple (o.1.map fun n : Nat => PyData.int n)) fun o _ => sh_nT o.1) (by decide) (by decide)]
          have e2 : (os.map fun o : List Nat × Nat => PyData.tuple (o.1.map fun n : Nat => PyData.int n)) = (os.map (·.1)).map fun y => PyData.tuple (y.map fun n : Nat => PyData.int n) := by simp
          rw [e2, any_tup, decide_eq_true (ho.one j (hr j (by simp)))]
          rfl
        have fin : Kn [.fr (.lst (os.map oD)), .fr (.int k), .fr (.lst (os.map fun o => nT o.1)), .no, .fr (.int j)] := hK _ ⟨_, _, rfl, .inr (by simp), by simp, fun i h => hr i (by simp [h])⟩
        simp [h4]
        refine ⟨k, j, rfl, by omega, ?_⟩
        rcases h2 with rfl | rfl
        · simp
          rw [key]
          simpa using fin
        · simp
          rw [key]
          simpa using fin
      · rintro e ⟨s2, s4, rfl, h2, h4, hr⟩
        simpa using hQ
  · have e1 := ho.len
    simp [Goal, ds_check_singles, N_check_singles]
    refine lc_map oD (fun o => nT o.1) rfl (by simp; exact sz (by omega)) (fun o ho Kn h => ?_) ?_
    · simp
      simpa using h
    · simp
      refine ⟨by omega, ?_⟩
      rw [DL.range_map]
      refine for_rule _ (fun rest e => ∃ (s2 s4 : Sl), e = [.fr (.tup (os.map oD)), .fr (.int k), s2, .no, s4] ∧ (s2 = .ow false (.lst (os.map fun o => nT o.1)) ∨ s2 = .fr (.lst (os.map fun o => nT o.1))) ∧ Fre s4 ∧ ∀ j ∈ rest, j < k) ⟨_, _, rfl, .inl (by simp), fre_no, by simp⟩ ?_ ?_
      · rintro j rest e ⟨s2, s4, rfl, h2, h4, hr⟩ Kn hK
        have key : ∀ Q1 : D → Prop, fIn true (.tup ((unitN k j).map nD)) (.lst (os.map fun o : List Nat × Nat => D.tup (o.1.map nD))) Q1 = Q1 (.bl false) := fun Q1 => by
          rw [f_inS (sh_nT (unitN k j)) (ShL.map (f := fun o : List Nat × Nat => nT o.1) (g := fun o => PyData.tuple (o.1.map fun n : Nat => PyData.int n)) fun o _ => sh_nT o.1) (by decide) (by decide)]
          have e2 : (os.map fun o : List Nat × Nat => PyData.tuple (o.1.map fun n : Nat => PyData.int n)) = (os.map (·.1)).map fun y => PyData.tuple (y.map fun n : Nat => PyData.int n) := by simp
          rw [e2, any_tup, decide_eq_true (ho.one j (hr j (by simp)))]
          rfl
        have fin : Kn [.fr (.tup (os.map oD)), .fr (.int k), .fr (.lst (os.map fun o => nT o.1)), .no, .fr (.int j)] := hK _ ⟨_, _, rfl, .inr (by simp), by simp, fun i h => hr i (by simp [h])⟩
        simp [h4]
        refine ⟨k, j, rfl, by omega, ?_⟩
        rcases h2 with rfl | rfl
        · simp
          rw [key]
          simpa using fin
        · simp
          rw [key]
          simpa using fin
      · rintro e ⟨s2, s4, rfl, h2, h4, hr⟩
        simpa using hQ
end K77

set_option Elab.async false
set_option linter.all false
set_option maxRecDepth 100000
set_option maxHeartbeats 8000000
namespace K77
open PySem PySem.Spec PyProof.Rows L2 DL PM
/-! field names -/
@[simp] theorem ne_kinds_offers : (Str.ofString "kinds" = Str.ofString "offers") = False := eq_false (by decide)
@[simp] theorem bq_kinds_offers : (Str.ofString "kinds" == Str.ofString "offers") = false := by decide
@[simp] theorem ne_kinds_bundle_row : (Str.ofString "kinds" = Str.ofString "bundle_row") = False := eq_false (by decide)
@[simp] theorem bq_kinds_bundle_row : (Str.ofString "kinds" == Str.ofString "bundle_row") = false := by decide
@[simp] theorem ne_kinds_price_row : (Str.ofString "kinds" = Str.ofString "price_row") = False := eq_false (by decide)
@[simp] theorem bq_kinds_price_row : (Str.ofString "kinds" == Str.ofString "price_row") = false := by decide
@[simp] theorem ne_offers_kinds : (Str.ofString "offers" = Str.ofString "kinds") = False := eq_false (by decide)
@[simp] theorem bq_offers_kinds : (Str.ofString "offers" == Str.ofString "kinds") = false := by decide
@[simp] theorem ne_offers_bundle_row : (Str.ofString "offers" = Str.ofString "bundle_row") = False := eq_false (by decide)
@[simp] theorem bq_offers_bundle_row : (Str.ofString "offers" == Str.ofString "bundle_row") = false := by decide
@[simp] theorem ne_offers_price_row : (Str.ofString "offers" = Str.ofString "price_row") = False := eq_false (by decide)
@[simp] theorem bq_offers_price_row : (Str.ofString "offers" == Str.ofString "price_row") = false := by decide
@[simp] theorem ne_bundle_row_kinds : (Str.ofString "bundle_row" = Str.ofString "kinds") = False := eq_false (by decide)
@[simp] theorem bq_bundle_row_kinds : (Str.ofString "bundle_row" == Str.ofString "kinds") = false := by decide
@[simp] theorem ne_bundle_row_offers : (Str.ofString "bundle_row" = Str.ofString "offers") = False := eq_false (by decide)
@[simp] theorem bq_bundle_row_offers : (Str.ofString "bundle_row" == Str.ofString "offers") = false := by decide
@[simp] theorem ne_bundle_row_price_row : (Str.ofString "bundle_row" = Str.ofString "price_row") = False := eq_false (by decide)
@[simp] theorem bq_bundle_row_price_row : (Str.ofString "bundle_row" == Str.ofString "price_row") = false := by decide
@[simp] theorem ne_price_row_kinds : (Str.ofString "price_row" = Str.ofString "kinds") = False := eq_false (by decide)
@[simp] theorem bq_price_row_kinds : (Str.ofString "price_row" == Str.ofString "kinds") = false := by decide
@[simp] theorem ne_price_row_offers : (Str.ofString "price_row" = Str.ofString "offers") = False := eq_false (by decide)
@[simp] theorem bq_price_row_offers : (Str.ofString "price_row" == Str.ofString "offers") = false := by decide
@[simp] theorem ne_price_row_bundle_row : (Str.ofString "price_row" = Str.ofString "bundle_row") = False := eq_false (by decide)
@[simp] theorem bq_price_row_bundle_row : (Str.ofString "price_row" == Str.ofString "bundle_row") = false := by decide
@[simp] theorem ne_top_stride_row : (Str.ofString "top" = Str.ofString "stride_row") = False := eq_false (by decide)
@[simp] theorem bq_top_stride_row : (Str.ofString "top" == Str.ofString "stride_row") = false := by decide
@[simp] theorem ne_top_deal_rows : (Str.ofString "top" = Str.ofString "deal_rows") = False := eq_false (by decide)
@[simp] theorem bq_top_deal_rows : (Str.ofString "top" == Str.ofString "deal_rows") = false := by decide
@[simp] theorem ne_top_worth_row : (Str.ofString "top" = Str.ofString "worth_row") = False := eq_false (by decide)
@[simp] theorem bq_top_worth_row : (Str.ofString "top" == Str.ofString "worth_row") = false := by decide
@[simp] theorem ne_stride_row_top : (Str.ofString "stride_row" = Str.ofString "top") = False := eq_false (by decide)
@[simp] theorem bq_stride_row_top : (Str.ofString "stride_row" == Str.ofString "top") = false := by decide
@[simp] theorem ne_stride_row_deal_rows : (Str.ofString "stride_row" = Str.ofString "deal_rows") = False := eq_false (by decide)
@[simp] theorem bq_stride_row_deal_rows : (Str.ofString "stride_row" == Str.ofString "deal_rows") = false := by decide
@[simp] theorem ne_stride_row_worth_row : (Str.ofString "stride_row" = Str.ofString "worth_row") = False := eq_false (by decide)
@[simp] theorem bq_stride_row_worth_row : (Str.ofString "stride_row" == Str.ofString "worth_row") = false := by decide
@[simp] theorem ne_deal_rows_top : (Str.ofString "deal_rows" = Str.ofString "top") = False := eq_false (by decide)
@[simp] theorem bq_deal_rows_top : (Str.ofString "deal_rows" == Str.ofString "top") = false := by decide
@[simp] theorem ne_deal_rows_stride_row : (Str.ofString "deal_rows" = Str.ofString "stride_row") = False := eq_false (by decide)
@[simp] theorem bq_deal_rows_stride_row : (Str.ofString "deal_rows" == Str.ofString "stride_row") = false := by decide
@[simp] theorem ne_deal_rows_worth_row : (Str.ofString "deal_rows" = Str.ofString "worth_row") = False := eq_false (by decide)
@[simp] theorem bq_deal_rows_worth_row : (Str.ofString "deal_rows" == Str.ofString "worth_row") = false := by decide
@[simp] theorem ne_worth_row_top : (Str.ofString "worth_row" = Str.ofString "top") = False := eq_false (by decide)
@[simp] theorem bq_worth_row_top : (Str.ofString "worth_row" == Str.ofString "top") = false := by decide
@[simp] theorem ne_worth_row_stride_row : (Str.ofString "worth_row" = Str.ofString "stride_row") = False := eq_false (by decide)
@[simp] theorem bq_worth_row_stride_row : (Str.ofString "worth_row" == Str.ofString "stride_row") = false := by decide
@[simp] theorem ne_worth_row_deal_rows : (Str.ofString "worth_row" = Str.ofString "deal_rows") = False := eq_false (by decide)
@[simp] theorem bq_worth_row_deal_rows : (Str.ofString "worth_row" == Str.ofString "deal_rows") = false := by decide
def sp_Book_init : DSp := fun as Q _ => ∃ (k : Nat) (ws : List Str) (os : List (List Nat × Nat)) (c c2 : List D → D), as = [.ow true (.ins "Book" []), .fr (c (ws.map .str)), .fr (c2 (os.map oD))] ∧ SqK c ∧ SqK c2 ∧ OkWords k ws ∧ OkOffs k os ∧
  Q .non [.ow true (.ins "Book" [("kinds", .tup (ws.map .str)), ("offers", .tup (os.map oD)), ("bundle_row", .tup (os.map fun o => nT o.1)), ("price_row", .tup (os.map fun o => nD o.2))]), .fr (c (ws.map .str)), .fr (c2 (os.map oD))]
theorem q_Book_init (as Q') (h : sp_Book_init as Q' X0) : Goal as Q' (ds_Book_init sp_check_words sp_check_offers sp_check_singles) N_Book_init := by
  obtain ⟨k, ws, os, c, c2, rfl, hc, hc2, hw, ho, hQ⟩ := h
  have hcc := hc
  have hcc2 := hc2
  have e1 := hw.len
  have e2 := ho.len
  have e3 := hw.top
  rcases hc with rfl | rfl <;> rcases hc2 with rfl | rfl
  all_goals (
    simp [Goal, ds_Book_init, N_Book_init]
    refine ⟨k, ws, _, rfl, hcc, hw, ?_⟩
    simp
    refine ⟨k, os, _, by simp [e1], hcc2, ho, ?_⟩
    simp
    refine ⟨k, os, _, by simp [e1], hcc2, e3, ho, ?_⟩
    simp [putD]
    refine lc_map oD (fun o => nT o.1) rfl (by simp; exact sz (by omega)) (fun o ho Kn h => ?_) ?_
    · simp
      simpa using h
    simp [putD]
    refine lc_map oD (fun o => nD o.2) rfl (by simp; exact sz (by omega)) (fun o ho Kn h => ?_) ?_
    · simp
      simpa using h
    simp [putD]
    simpa [Function.comp_def] using hQ
  )
theorem noLs_map {α : Type} {f : α → D} {xs : List α} (h : ∀ x ∈ xs, noL (f x) = true) : noLs (xs.map f) = true := by
  induction xs with
  | nil => rfl
  | cons x xs ih =>
    rw [List.map_cons]
    simp [noLs, h x List.mem_cons_self, ih fun y hy => h y (List.mem_cons_of_mem _ hy)]
@[simp] theorem noLs_nD {xs : List Nat} : noLs (xs.map nD) = true := noLs_map fun _ _ => rfl
@[simp] theorem noLs_str {xs : List Str} : noLs (xs.map D.str) = true := noLs_map fun _ _ => rfl
@[simp] theorem noLs_int {xs : List Int} : noLs (xs.map D.int) = true := noLs_map fun _ _ => rfl
@[simp] theorem noLs_oD {xs : List (List Nat × Nat)} : noLs (xs.map oD) = true := noLs_map fun _ _ => by simp [noL, noLs]
theorem noL_book {ws : List Str} {os : List (List Nat × Nat)} : noL (bookD ws os) = true := by
  simp [noL, noLf]
  exact ⟨noLs_map fun _ _ => by simp [noL, noLs], noLs_map fun _ _ => rfl⟩
def sp__law_made : DSp := fun as Q _ => ∃ (k : Nat) (ws : List Str) (os : List (List Nat × Nat)), as = [.fr (.lst (ws.map .str)), .fr (.lst (os.map oD))] ∧ OkWords k ws ∧ OkOffs k os ∧ Q (bookD ws os) as
theorem q__law_made (as Q') (h : sp__law_made as Q' X0) : Goal as Q' (ds__law_made sp_Book_init) N__law_made := by
  obtain ⟨k, ws, os, rfl, hw, ho, hQ⟩ := h
  have e1 := hw.len
  have e2 := hw.top
  simp [Goal, ds__law_made, N__law_made, noO]
  refine ⟨k, ws, os, _, _, rfl, sqL, sqL, hw, ho, ?_⟩
  simp [noL_book]
  refine ⟨sz (by omega), ?_⟩
  simpa using hQ
/-! tables -/
theorem le_vol {top : List Nat} {x : Nat} (h : x ∈ top) : x + 1 ≤ vol top := by
  induction top with
  | nil => cases h
  | cons t ts ih =>
    simp only [vol]
    rcases List.mem_cons.mp h with rfl | h
    · exact Nat.le_mul_of_pos_right _ (vol_pos ts)
    · exact Nat.le_trans (ih h) (Nat.le_mul_of_pos_left _ (by omega))
theorem strides_le {top : List Nat} {y : Nat} (h : y ∈ stridesN top) : y ≤ vol top := by
  induction top with
  | nil => cases h
  | cons t ts ih =>
    have b : vol ts ≤ vol (t :: ts) := Nat.le_mul_of_pos_left _ (by omega)
    rcases List.mem_cons.mp h with rfl | h
    · exact b
    · exact Nat.le_trans (ih h) b
@[reducible] def dealD (top : List Nat) (o : List Nat × Nat) : D := .tup [nT o.1, .int (spotN top o.1 : Nat), nD o.2]
@[reducible] def worthsD (os : List (List Nat × Nat)) (top : List Nat) : List D := (boxN top).map fun x => nD (best os x)
def sp_least_worths : DSp := fun as Q _ => ∃ (k : Nat) (os : List (List Nat × Nat)) (top : List Nat), as = [.fr (.tup (os.map (dealD top))), .fr (.tup ((boxN top).map nT))] ∧ top.length = k ∧ Pos k os ∧ vol top ≤ 1500 ∧ Q (.tup (worthsD os top)) as
def optD : Option Nat → D
  | none => .non
  | some b => nD b
def stepW (os : List (List Nat × Nat)) (x : List Nat) (acc : Option Nat) (o : List Nat × Nat) : Option Nat :=
  if fits o.1 x = true then (match acc with
    | none => some (o.2 + best os (less x o.1))
    | some b => if o.2 + best os (less x o.1) < b then some (o.2 + best os (less x o.1)) else some b) else acc
theorem stepW_some (os : List (List Nat × Nat)) (x : List Nat) : ∀ (l : List (List Nat × Nat)) (b : Nat), l.foldl (stepW os x) (some b) = some (((l.filter fun o => fits o.1 x).map fun o => o.2 + best os (less x o.1)).foldl min b)
  | [], b => rfl
  | o :: l, b => by
    rw [List.foldl_cons]
    by_cases h : fits o.1 x = true
    · rw [List.filter_cons, if_pos h, List.map_cons, List.foldl_cons]
      unfold stepW
      rw [if_pos h]
      show (l.foldl (stepW os x) (if o.2 + best os (less x o.1) < b then some (o.2 + best os (less x o.1)) else some b)) = _
      split
      · rw [stepW_some os x l, Nat.min_eq_right (by omega)]
      · rw [stepW_some os x l, Nat.min_eq_left (by omega)]
    · rw [List.filter_cons_of_neg (p := fun o : List Nat × Nat => fits o.1 x) h]
      unfold stepW
      rw [if_neg h]
      exact stepW_some os x l b
theorem stepW_none (os : List (List Nat × Nat)) (x : List Nat) : ∀ (l : List (List Nat × Nat)), (l.foldl (stepW os x) none).getD 0 = minN 0 ((l.filter fun o => fits o.1 x).map fun o => o.2 + best os (less x o.1))
  | [] => rfl
  | o :: l => by
    rw [List.foldl_cons]
    by_cases h : fits o.1 x = true
    · rw [List.filter_cons, if_pos h, List.map_cons]
      unfold stepW
      rw [if_pos h]
      show (l.foldl (stepW os x) (some (o.2 + best os (less x o.1)))).getD 0 = _
      rw [stepW_some]
      rfl
    · rw [List.filter_cons_of_neg (p := fun o : List Nat × Nat => fits o.1 x) h]
      unfold stepW
      rw [if_neg h]
      exact stepW_none os x l
theorem q_least_worths (as Q') (h : sp_least_worths as Q' X0) : Goal as Q' (ds_least_worths sp_lies_in) N_least_worths := by
  obtain ⟨k, os, top, rfl, hk, hp, hv, hQ⟩ := h
  simp [Goal, ds_least_worths, N_least_worths]
  rw [enum_map]
  have hbl : (boxN top).length = vol top := row_le
  refine for_rule _ (fun rest e => ∃ (i : Nat) (s3 s4 s5 s6 s7 s8 s9 : Sl), rest = (boxN top).zipIdx.drop i ∧ i ≤ vol top ∧ e = [.fr (.tup (os.map (dealD top))), .fr (.tup ((boxN top).map nT)), .ow false (.lst (((boxN top).take i).map fun x => nD (best os x))), s3, s4, s5, s6, s7, s8, s9] ∧ Fre s3 ∧ Fre s4 ∧ Fre s5 ∧ Fre s6 ∧ Fre s7 ∧ Fre s8 ∧ Fre s9) ⟨0, .no, .no, .no, .no, .no, .no, .no, rfl, Nat.zero_le _, rfl, fre_no, fre_no, fre_no, fre_no, fre_no, fre_no, fre_no⟩ ?_ ?_
  · rintro p rest e ⟨i, s3, s4, s5, s6, s7, s8, s9, hr, hi, rfl, h3, h4, h5, h6, h7, h8, h9⟩ Kn hK
    have hlt : i < (boxN top).length := by
      by_cases z : i < (boxN top).length
      · exact z
      · rw [List.drop_eq_nil_of_le (by simp; omega)] at hr
        cases hr
    rw [List.drop_eq_getElem_cons (by simpa using hlt)] at hr
    injection hr with hr1 hr2
    rw [List.getElem_zipIdx] at hr1
    simp at hr1
    subst hr1
    have hx : (boxN top)[i]? = some (boxN top)[i] := by simp [hlt]
    have hx2 := hx
    generalize (boxN top)[i] = x at hx hx2 ⊢
    rw [boxN_eq] at hx
    obtain ⟨hxl, hxf⟩ := box_mem (List.mem_of_getElem? hx)
    have hsp := box_spot hx
    simp [h3, h4, h5]
    refine for_rule (dealD top) (fun rest2 e => ∃ (acc : Option Nat) (s6 s7 s8 s9 : Sl), e = [.fr (.tup (os.map (dealD top))), .fr (.tup ((boxN top).map nT)), .ow false (.lst (((boxN top).take i).map fun x => nD (best os x))), .fr (.int i), .fr (nT x), .fr (optD acc), s6, s7, s8, s9] ∧ Fre s6 ∧ Fre s7 ∧ Fre s8 ∧ Fre s9 ∧ rest2.foldl (stepW os x) acc = os.foldl (stepW os x) none ∧ ∀ o ∈ rest2, o ∈ os) ⟨none, s6, s7, s8, s9, by simp [optD], h6, h7, h8, h9, rfl, fun o h => h⟩ ?_ ?_
    · clear h6 h7 h8 h9
      rintro o rest2 e ⟨acc, s6, s7, s8, s9, rfl, h6, h7, h8, h9, hacc, hro⟩ Kn2 hK2
      have hoo := hp o (hro o (by simp))
      simp [h6, h7, h8]
      refine ⟨o.1, x, rfl, by omega, ?_⟩
      rw [List.foldl_cons] at hacc
      simp
      split
      · rename_i hf
        have hsl := spot_less (top := top) (x := x) (b := o.1) (by omega) (by omega) hf
        have hps := spot_pos (top := top) (b := o.1) (by omega) hoo.2
        have hll : (less x o.1).length = top.length := by rw [less_len (by omega)]; exact hxl
        have hget := box_get hll (fits_trans (by rw [less_len (by omega)]) hxl (less_fits (by omega)) hxf)
        rw [← boxN_eq] at hget
        have hidx : atI (List.take i ((boxN top).map fun x => nD (best os x))) ((i : Int) - (spotN top o.1 : Int)) = some (nD (best os (less x o.1))) := by
          rw [show ((i : Int) - (spotN top o.1 : Int)) = ((spotN top (less x o.1) : Nat) : Int) by omega]
          rw [at_lt (by omega) (by simp; omega)]
          rw [List.getElem?_take, if_pos (by omega), List.getElem?_map]
          rw [show ((spotN top (less x o.1) : Nat) : Int).toNat = spotN top (less x o.1) by omega, hget]
          rfl
        rw [hidx]
        simp [h9]
        have hro2 : ∀ o ∈ rest2, o ∈ os := fun o h => hro o (by simp [h])
        have fin : ∀ b : Nat, rest2.foldl (stepW os x) (some b) = os.foldl (stepW os x) none → ∀ s9, Fre s9 → Kn2 [.fr (.tup (os.map (dealD top))), .fr (.tup ((boxN top).map nT)), .ow false (.lst (((boxN top).take i).map fun x => nD (best os x))), .fr (.int i), .fr (nT x), .fr (nD b), .fr (nT o.1), .fr (.int (spotN top o.1 : Nat)), .fr (nD o.2), s9] := fun b h s9 h9 => hK2 _ ⟨some b, _, _, _, _, rfl, by simp, by simp, by simp, h9, h, hro2⟩
        cases acc with
        | none =>
          have e5 : stepW os x none o = some (o.2 + best os (less x o.1)) := by unfold stepW; rw [if_pos hf]
          rw [e5] at hacc
          have f9 := fin _ hacc (.fr (nD (o.2 + best os (less x o.1)))) (by simp)
          simp [optD, DL.isNon]
          simpa [nD] using f9
        | some b =>
          have e5 : stepW os x (some b) o = if o.2 + best os (less x o.1) < b then some (o.2 + best os (less x o.1)) else some b := by unfold stepW; rw [if_pos hf]
          rw [e5] at hacc
          simp [optD, DL.isNon]
          split
          · rename_i hlt2
            rw [if_pos (by omega)] at hacc
            have f9 := fin _ hacc (.fr (nD (o.2 + best os (less x o.1)))) (by simp)
            simpa [nD] using f9
          · rename_i hlt2
            rw [if_neg (by omega)] at hacc
            have f9 := fin _ hacc (.fr (nD (o.2 + best os (less x o.1)))) (by simp)
            simpa [nD] using f9
      · rename_i hf
        have e5 : stepW os x acc o = acc := by unfold stepW; rw [if_neg hf]
        rw [e5] at hacc
        have f9 := hK2 _ ⟨acc, _, _, _, _, rfl, fre_fr (d := nT o.1), fre_fr (d := .int (spotN top o.1 : Nat)), fre_fr (d := nD o.2), h9, hacc, fun o h => hro o (by simp [h])⟩
        simpa using f9
    · clear h6 h7 h8 h9
      rintro e ⟨acc, s6, s7, s8, s9, rfl, h6, h7, h8, h9, hacc, _⟩
      have hb : acc.getD 0 = best os x := by
        have : acc = os.foldl (stepW os x) none := hacc
        rw [this, stepW_none, ← best_eq hp (by omega)]
      have fin : Kn [.fr (.tup (os.map (dealD top))), .fr (.tup ((boxN top).map nT)), .ow false (.lst ((((boxN top).take i).map fun x => nD (best os x)) ++ [nD (best os x)])), .fr (.int i), .fr (nT x), .fr (optD acc), s6, s7, s8, s9] := by
        refine hK _ ⟨i + 1, .fr (.int i), .fr (nT x), .fr (optD acc), _, _, _, _, hr2, by omega, ?_, by simp, by simp, by simp, h6, h7, h8, h9⟩
        rw [List.take_add_one, hx2]
        simp
      have hsz : i < sizeLine := sz (by omega)
      have hmin : min i (boxN top).length < sizeLine := by omega
      cases acc with
      | none =>
        simp [optD, DL.isNon, hmin] at hb fin ⊢
        simpa [← hb, nD] using fin
      | some b =>
        simp [optD, DL.isNon, hmin] at hb fin ⊢
        subst hb
        simpa [nD] using fin
  · rintro e ⟨i, s3, s4, s5, s6, s7, s8, s9, hr, hi, rfl, _⟩
    have hi2 : (boxN top).length ≤ i := by
      have := congrArg List.length hr
      simp at this
      omega
    rw [List.take_of_length_le hi2]
    simpa using hQ
end K77

set_option Elab.async false
set_option linter.all false
set_option maxRecDepth 100000
set_option maxHeartbeats 8000000
namespace K77
open PySem PySem.Spec PyProof.Rows L2 DL PM
@[reducible] def tableF (os : List (List Nat × Nat)) (top : List Nat) : List (Str × D) := [("top", nT top), ("stride_row", nT (stridesN top)), ("deal_rows", .tup (os.map (dealD top))), ("worth_row", .tup (worthsD os top))]
@[reducible] def tableD (os : List (List Nat × Nat)) (top : List Nat) : D := .ins "Table" (tableF os top)
structure OkTop (k : Nat) (top : List Nat) : Prop where
  len : top.length = k
  vol : vol top ≤ 1500
structure OkBook (k : Nat) (ws : List Str) (os : List (List Nat × Nat)) : Prop where
  ws : OkWords k ws
  os : OkOffs k os
def sp_Table_init : DSp := fun as Q _ => ∃ (k : Nat) (ws : List Str) (os : List (List Nat × Nat)) (top : List Nat), as = [.ow true (.ins "Table" []), .fr (bookD ws os), .fr (nT top)] ∧ OkBook k ws os ∧ OkTop k top ∧
  Q .non [.ow true (.ins "Table" (tableF os top)), .fr (bookD ws os), .fr (nT top)]
theorem q_Table_init (as Q') (h : sp_Table_init as Q' X0) : Goal as Q' (ds_Table_init sp_check_basket sp_cells sp_strides sp_spot sp_least_worths sp_box) N_Table_init := by
  obtain ⟨k, ws, os, top, rfl, hb, ht, hQ⟩ := h
  have e1 := hb.ws.len
  have e2 := hb.ws.one
  have e3 := hb.ws.top
  have e4 := ht.len
  have e5 := ht.vol
  have hx : ∀ x ∈ top, x ≤ 1000000000000 := fun x hx => by have := le_vol hx; omega
  simp [Goal, ds_Table_init, N_Table_init]
  refine ⟨ws, os, top, rfl, by omega, hx, ?_⟩
  simp
  refine ⟨top, rfl, by omega, by omega, hx, e5, ?_⟩
  simp
  refine ⟨by omega, ?_⟩
  refine ⟨top, rfl, by omega, e5, ?_⟩
  simp [putD]
  refine lc_mapG oD (dealD top) (by simp; have := hb.os.len; exact sz (by omega)) (fun o ho Kn h => ?_) ?_
  · have hoo := hb.os.all o ho
    simp
    refine ⟨o.1, stridesN top, rfl, by have := hoo.len; omega, fun x hx => by have := hoo.le x hx; omega, fun y hy => by have := strides_le hy; omega, ?_⟩
    rw [dot_spot (by have := hoo.len; omega)]
    simpa using h
  simp [putD]
  refine ⟨top, rfl, by omega, by omega, hx, e5, ?_⟩
  simp
  refine ⟨k, os, top, rfl, e4, hb.os.pos, e5, ?_⟩
  simp [putD]
  simpa using hQ
def sp_Table_call : DSp := fun as Q _ => ∃ (k : Nat) (os : List (List Nat × Nat)) (top x : List Nat), as = [.fr (tableD os top), .fr (nT x)] ∧ k ≤ 4 ∧ OkTop k top ∧ x.length = k ∧ fits x top = true ∧ Q (nD (best os x)) as
theorem q_Table_call (as Q') (h : sp_Table_call as Q' X0) : Goal as Q' (ds_Table_call sp_lies_below sp_spot) N_Table_call := by
  obtain ⟨k, os, top, x, rfl, hk, ht, hx, hf, hQ⟩ := h
  have e4 := ht.len
  have e5 := ht.vol
  simp [Goal, ds_Table_call, N_Table_call]
  refine ⟨x, top, rfl, by omega, hf, ?_⟩
  simp
  have hxx : ∀ y ∈ x, y ≤ 1000000000000 := fun y hy => by
    obtain ⟨i, hi, e⟩ := List.mem_iff_getElem.mp hy
    have := fits_at (by omega) hf i hi (by omega)
    have := le_vol (List.getElem_mem (show i < top.length by omega))
    omega
  refine ⟨x, stridesN top, rfl, by omega, hxx, fun y hy => by have := strides_le hy; omega, ?_⟩
  rw [dot_spot (by omega)]
  have hg := box_get (top := top) (x := x) (by omega) hf
  have hl := spot_lt (top := top) (x := x) (by omega) hf
  rw [← boxN_eq] at hg
  simp
  rw [at_lt (by omega) (by simp [row_le]; omega)]
  simp [hg]
  simpa [nD] using hQ
def sp_cheapest_price : DSp := fun as Q _ => ∃ (k : Nat) (ws : List Str) (os : List (List Nat × Nat)) (x : List Nat), as = [.fr (bookD ws os), .fr (nT x)] ∧ OkBook k ws os ∧ OkTop k x ∧ Q (nD (best os x)) as
theorem fits_refl (x : List Nat) : fits x x = true := fits_of rfl fun _ _ _ => Nat.le_refl _
theorem q_cheapest_price (as Q') (h : sp_cheapest_price as Q' X0) : Goal as Q' (ds_cheapest_price sp_Table_init sp_Table_call) N_cheapest_price := by
  obtain ⟨k, ws, os, x, rfl, hb, ht, hQ⟩ := h
  simp [Goal, ds_cheapest_price, N_cheapest_price]
  refine ⟨k, ws, os, x, rfl, hb, ht, ?_⟩
  simp
  refine ⟨k, os, x, x, rfl, hb.ws.top, ht, ht.len, fits_refl x, ?_⟩
  simpa using hQ
@[reducible] def pairD (p : Nat × Nat) : D := .tup [nD p.1, nD p.2]
theorem vol_pow (x : List Nat) : vol x ≤ 2 ^ x.sum := by
  induction x with
  | nil => simp [vol]
  | cons t ts ih =>
    simp only [vol, List.sum_cons, Nat.pow_add]
    exact Nat.mul_le_mul (Nat.lt_two_pow_self) ih
theorem OkOff.topOk {k : Nat} {o : List Nat × Nat} (h : OkOff k o) : OkTop k o.1 := ⟨h.len, by
  have h1 := vol_pow o.1
  have h2 : 2 ^ o.1.sum ≤ 2 ^ 8 := Nat.pow_le_pow_right (by decide) h.top
  omega⟩
theorem less_unit {k j : Nat} {x : List Nat} (hx : x.length = k) (hj : j < k) : less x (unitN k j) = dec x j := by
  apply List.ext_getElem
  · rw [less_len (by rw [unitN_len]; exact hx), dec_len]
  · intro i h1 h2
    rw [less_len (by rw [unitN_len]; exact hx)] at h1
    rw [less_at (by rw [unitN_len]; exact hx) i _ h1 (by rw [unitN_len]; omega), unitN_at, dec_at h2 h1]
    by_cases z : i = j
    · subst z; simp
    · rw [if_neg z, if_neg (Ne.symm z)]; omega
theorem dec_fits {x : List Nat} {j : Nat} : fits (dec x j) x = true := fits_of dec_len fun i a b => by
  rw [dec_at a b]
  split <;> omega
theorem falls_len {k : Nat} {os : List (List Nat × Nat)} (ho : OkOffs k os) (hk : k ≤ 4) : (fallsN os).length ≤ 40 := by
  have key : ∀ l : List ((List Nat × Nat) × Nat), (∀ p ∈ l, p.1.1.length = k) → (l.flatMap fun p => ((List.range p.1.1.length).filter fun j => fallAt os p.1 j).map fun j => (p.2, j)).length ≤ l.length * 4 := by
    intro l
    induction l with
    | nil => intro _; simp
    | cons p l ih =>
      intro h
      have h1 := ih fun q hq => h q (List.mem_cons_of_mem _ hq)
      have h2 := List.length_filter_le (fun j => fallAt os p.1 j) (List.range p.1.1.length)
      rw [List.flatMap_cons, List.length_append, List.length_map, List.length_cons]
      have h3 : (List.range p.1.1.length).length ≤ 4 := by rw [List.length_range, h p List.mem_cons_self]; exact hk
      omega
  have h := key os.zipIdx fun p hp => by
    obtain ⟨o, i⟩ := p
    rw [List.mem_zipIdx_iff_getElem?] at hp
    exact (ho.all o (List.mem_of_getElem? hp)).len
  have := ho.len
  rw [List.length_zipIdx] at h
  have h2 : (fallsN os).length ≤ os.length * 4 := h
  omega
end K77

set_option Elab.async false
set_option linter.all false
set_option maxRecDepth 100000
set_option maxHeartbeats 8000000
namespace K77
open PySem PySem.Spec PyProof.Rows L2 DL PM
def firstD : List (Nat × Nat) → D
  | [] => .non
  | p :: _ => pairD p
@[reducible] def pricesD (os : List (List Nat × Nat)) (bs : List (List Nat)) : D := .dT (bs.map fun x => (keyN x, nD (best os x)))
def unionStep (acc : List (List Nat)) (t : List Nat) : List (List Nat) := acc ++ (boxN t).filter fun y => decide (y ∉ acc)
def unionB (tops : List (List Nat)) : List (List Nat) := tops.foldl unionStep []
def sp__law_union : DSp := fun as Q _ => ∃ (k : Nat) (os : List (List Nat × Nat)) (tops : List (List Nat)), as = [.fr (.lst (os.map oD)), .fr (.lst (tops.map nT))] ∧ k ≤ 4 ∧ OkOffs k os ∧ tops.length ≤ 100 ∧ (∀ t ∈ tops, OkTop k t) ∧ Q (pricesD os (unionB tops)) as
theorem box_nd (top : List Nat) {i j : Nat} (hi : i < (boxN top).length) (hj : j < (boxN top).length) (h : (boxN top)[i] = (boxN top)[j]) : i = j := by
  have h1 : (boxR top)[i]? = some (boxN top)[i] := by rw [← boxN_eq]; simp [hi]
  have h2 : (boxR top)[j]? = some (boxN top)[j] := by rw [← boxN_eq]; simp [hj]
  rw [← box_spot h1, ← box_spot h2, h]
theorem fold_sub {y : List Nat} : ∀ (tops acc : List (List Nat)), y ∈ acc → y ∈ tops.foldl unionStep acc
  | [], _, h => h
  | t :: ts, acc, h => fold_sub ts _ (List.mem_append.mpr (.inl h))
theorem mem_fold {y t : List Nat} (hy : y ∈ boxN t) : ∀ (tops acc : List (List Nat)), t ∈ tops → y ∈ tops.foldl unionStep acc
  | t' :: ts, acc, h => by
    rcases List.mem_cons.mp h with rfl | h
    · refine fold_sub ts _ ?_
      by_cases z : y ∈ acc
      · exact List.mem_append.mpr (.inl z)
      · exact List.mem_append.mpr (.inr (List.mem_filter.mpr ⟨hy, decide_eq_true z⟩))
    · exact mem_fold hy ts _ h
theorem mem_union {y t : List Nat} {tops : List (List Nat)} (ht : t ∈ tops) (hy : y ∈ boxN t) : y ∈ unionB tops := mem_fold hy tops [] ht
theorem szB {n : Nat} (h : n ≤ 200000) : n < sizeLine := by rw [sizeLine_eq]; omega
theorem q__law_union (as Q') (h : sp__law_union as Q' X0) : Goal as Q' (ds__law_union sp__law_box sp__law_fits sp__law_less) N__law_union := by
  obtain ⟨k, os, tops, rfl, hk, ho, hn, ht, hQ⟩ := h
  have e3 := ho.len
  have hp := ho.pos
  simp [Goal, ds__law_union, N__law_union]
  refine for_rule nT (fun rest e => ∃ (acc : List (List Nat)) (s3 s4 s5 : Sl), e = [.fr (.lst (os.map oD)), .fr (.lst (tops.map nT)), .ow false (.dT (acc.map fun x => (keyN x, nD (best os x)))), s3, s4, s5, .no, .no] ∧ Fre s3 ∧ Fre s4 ∧ Fre s5 ∧ rest.foldl unionStep acc = unionB tops ∧ (∀ t ∈ rest, OkTop k t) ∧ acc.length + 1500 * rest.length ≤ 150000) ⟨[], .no, .no, .no, rfl, by simp, by simp, by simp, rfl, ht, by simp; omega⟩ ?_ ?_
  · rintro x rest e ⟨acc0, s3, s4, s5, rfl, h3, h4, h5, hacc, hr, hlen⟩ Kn hK
    have ht := hr x (by simp)
    have e1 := ht.len
    have e2 := ht.vol
    have hbl : (boxN x).length = vol x := row_le
    simp only [List.length_cons] at hlen
    rw [List.foldl_cons] at hacc
    simp [h3]
    refine ⟨x, rfl, e2, by omega, ?_⟩
    simp
    refine for_rule nT (fun rest e => ∃ (done : List (List Nat)) (s4 s5 : Sl), boxN x = done ++ rest ∧ e = [.fr (.lst (os.map oD)), .fr (.lst (tops.map nT)), .ow false (.dT ((acc0 ++ done.filter fun y => decide (y ∉ acc0)).map fun x => (keyN x, nD (best os x)))), .fr (nT x), s4, s5, .no, .no] ∧ Fre s4 ∧ Fre s5) ⟨[], s4, s5, rfl, by simp, h4, h5⟩ ?_ ?_
    · clear h4 h5
      rintro y rest e ⟨done, s4, s5, hr, rfl, h4, h5⟩ Kn2 hK2
      have hlt : done.length < (boxN x).length := by rw [hr]; simp
      have hy : (boxN x)[done.length]? = some y := by rw [hr]; simp
      have hdl : done.length < 1500 := by omega
      have hget0 : ∀ j, j < done.length → (boxN x)[j]? = done[j]? := fun j hj => by rw [hr, List.getElem?_append_left hj]
      have hy2 : (boxR x)[done.length]? = some y := by rw [← boxN_eq]; exact hy
      obtain ⟨hyl, hyf⟩ := box_mem (List.mem_of_getElem? hy2)
      have hsp := box_spot hy2
      have hout : y ∉ done := by
        intro hm
        obtain ⟨j, hj, e⟩ := List.mem_iff_getElem.mp hm
        have h1 : (boxN x)[j]? = some y := by rw [hget0 j hj]; simp [hj, e]
        have h2 : (boxR x)[j]? = some y := by rw [← boxN_eq]; exact h1
        have := box_spot h2
        omega
      have hfl : (done.filter fun y => decide (y ∉ acc0)).length ≤ done.length := List.length_filter_le ..
      have hsub : ∀ z, z ∈ done → z ∈ acc0 ++ done.filter fun y => decide (y ∉ acc0) := fun z hz => by
        by_cases q : z ∈ acc0
        · exact List.mem_append.mpr (.inl q)
        · exact List.mem_append.mpr (.inr (List.mem_filter.mpr ⟨hz, decide_eq_true q⟩))
      by_cases hin0 : y ∈ acc0
      · have hK3 : Kn2 [.fr (.lst (os.map oD)), .fr (.lst (tops.map nT)), .ow false (.dT ((acc0 ++ done.filter fun y => decide (y ∉ acc0)).map fun x => (keyN x, nD (best os x)))), .fr (nT x), .fr (nT y), s5, .no, .no] := by
          have h := hK2 _ ⟨done ++ [y], .fr (nT y), s5, by simp [hr], rfl, by simp, h5⟩
          rw [List.filter_append, List.filter_cons, decide_eq_false (fun h => h hin0), if_neg (by simp), List.filter_nil, List.append_nil] at h
          exact h
        have hin : y ∈ acc0 ++ done.filter fun y => decide (y ∉ acc0) := List.mem_append.mpr (.inl hin0)
        generalize (acc0 ++ done.filter fun y => decide (y ∉ acc0)) = l2 at hin hK3 hsub
        simp [h4]
        rw [valD_in (f := fun x => nD (best os x)) hin]
        simp at hK3 ⊢
        exact hK3
      have hout2 : y ∉ acc0 ++ done.filter fun y => decide (y ∉ acc0) := fun h => by
        rcases List.mem_append.mp h with h | h
        · exact hin0 h
        · exact hout (List.mem_filter.mp h).1
      have hK3 : ∀ s5, Fre s5 → Kn2 [.fr (.lst (os.map oD)), .fr (.lst (tops.map nT)), .ow false (.dT (((acc0 ++ done.filter fun y => decide (y ∉ acc0)) ++ [y]).map fun x => (keyN x, nD (best os x)))), .fr (nT x), .fr (nT y), s5, .no, .no] := fun s5 h5 => by
        have h := hK2 _ ⟨done ++ [y], .fr (nT y), s5, by simp [hr], rfl, by simp, h5⟩
        rw [List.filter_append, List.filter_cons, decide_eq_true hin0, if_pos rfl, List.filter_nil, ← List.append_assoc] at h
        exact h
      have hl2 : (acc0 ++ done.filter fun y => decide (y ∉ acc0)).length < 150000 := by rw [List.length_append]; omega
      generalize (acc0 ++ done.filter fun y => decide (y ∉ acc0)) = l2 at hout2 hK3 hsub hl2
      simp [h4]
      rw [valD_out (f := fun x => nD (best os x)) hout2]
      simp
      refine lc_rule oD (fun rest acc e => ∃ l1 : List (List Nat × Nat), os = l1 ++ rest ∧ acc = (l1.filter fun o => fits o.1 y).map oD ∧ e = [.fr (.lst (os.map oD)), .fr (.lst (tops.map nT)), .ow false (.dT (l2.map fun x => (keyN x, nD (best os x)))), .fr (nT x), .fr (nT y), s5, .no, .no]) ⟨[], rfl, rfl, by simp⟩ ?_ ?_
      · rintro o rest3 acc e ⟨l1, ho1, rfl, rfl⟩ Kn3 hK4
        have hmem : o ∈ os := by rw [ho1]; simp
        have hoo := hp o hmem
        simp
        refine ⟨o.1, y, rfl, by omega, by omega, ?_⟩
        simp
        split
        · rename_i hf
          refine ⟨?_, hK4 _ _ ⟨l1 ++ [o], by simp [ho1], ?_, by simp⟩⟩
          · have := List.length_filter_le (fun o : List Nat × Nat => fits o.1 y) l1
            have h9 := congrArg List.length ho1
            simp at h9
            exact sz (by omega)
          · simp [List.filter_append, List.filter_cons, hf]
        · rename_i hf
          exact hK4 _ _ ⟨l1 ++ [o], by simp [ho1], by simp [List.filter_append, List.filter_cons, hf], by simp⟩
      · rintro acc e ⟨l1, ho1, rfl, rfl⟩
        have : l1 = os := by simpa using ho1.symm
        subst this
        simp [h5]
        refine lc_map oD (fun o => nD (o.2 + best l1 (less y o.1))) rfl (by simp; have := List.length_filter_le (fun o : List Nat × Nat => fits o.1 y) l1; exact sz (by omega)) (fun o ho Kn h => ?_) ?_
        · have ho2 := List.mem_filter.mp ho
          have hoo := hp o ho2.1
          have hsl := spot_less (top := x) (x := y) (b := o.1) (by omega) (by omega) ho2.2
          have hps := spot_pos (top := x) (b := o.1) (by omega) hoo.2
          have hll : (less y o.1).length = x.length := by rw [less_len (by omega)]; exact hyl
          have hget := box_get hll (fits_trans (by rw [less_len (by omega)]) hyl (less_fits (by omega)) hyf)
          rw [← boxN_eq] at hget
          simp
          refine ⟨y, o.1, rfl, by omega, by omega, ho2.2, ?_⟩
          have hin : less y o.1 ∈ l2 := by
            refine hsub _ (List.mem_iff_getElem?.mpr ⟨spotN x (less y o.1), ?_⟩)
            rw [← hget0 _ (by omega)]
            exact hget
          simp
          rw [valD_in (f := fun x => nD (best l1 x)) hin]
          simp
          simpa [nD] using h
        · have e12 := best_eq hp (x := y) (by omega)
          have e13 : ∀ (f : List Nat × Nat → Nat) (l : List (List Nat × Nat)), D.ints (l.map fun o => nD (f o)) = some ((l.map f).map fun n : Nat => (n : Int)) := fun f l => by
            rw [← D.ints_map, List.map_map, List.map_map]
            rfl
          have e14 : minD 0 ((((l1.filter fun o => fits o.1 y).map fun o => o.2 + best l1 (less y o.1))).map fun n : Nat => (n : Int)) = (best l1 y : Int) := by
            rw [minD_nat, e12]
            cases ((l1.filter fun o => fits o.1 y).map fun o => o.2 + best l1 (less y o.1)) <;> rfl
          simp only [List.nil_append]
          simp
          rw [e13 (fun o => o.2 + best l1 (less y o.1)), ]
          show (List.length _ < sizeLine ∧ _)
          rw [e14]
          rw [put_out (f := fun x => nD (best l1 x)) hout2]
          refine ⟨by (try simp); exact szB (by omega), ?_⟩
          have h9 := hK3 (.fr (.lst ((l1.filter fun o => fits o.1 y).map oD))) (by simp)
          simp at h9 ⊢
          exact h9
    · clear h4 h5
      rintro e ⟨done, s4, s5, hr2, rfl, h4, h5⟩
      have : done = boxN x := by simpa using hr2.symm
      subst this
      have hfl : ((boxN x).filter fun y => decide (y ∉ acc0)).length ≤ (boxN x).length := List.length_filter_le ..
      exact hK _ ⟨unionStep acc0 x, .fr (nT x), s4, s5, rfl, by simp, h4, h5, hacc, fun t h => hr t (by simp [h]), by unfold unionStep; rw [List.length_append]; omega⟩
  · rintro e ⟨acc, s3, s4, s5, rfl, h3, h4, h5, hacc, _⟩
    have hacc : acc = unionB tops := hacc
    subst hacc
    simp
    simpa using hQ
theorem union_c {k : Nat} {os : List (List Nat × Nat)} {top : List Nat} {Q : D → DEnv → Prop} (hk : k ≤ 4) (ho : OkOffs k os) (ht : OkTop k top) (h : Q (pricesD os (boxN top)) [.fr (.lst (os.map oD)), .fr (.lst [nT top])]) : sp__law_union [.fr (.lst (os.map oD)), .fr (.lst [nT top])] Q X0 :=
  ⟨k, os, [top], rfl, hk, ho, by simp, fun t h => by rw [List.mem_singleton.mp h]; exact ht, by
    have e : unionB [top] = boxN top := by show unionStep [] top = _; simp [unionStep]
    rw [e]; exact h⟩
end K77

set_option Elab.async false
set_option linter.all false
set_option maxRecDepth 100000
set_option maxHeartbeats 8000000
namespace K77
open PySem PySem.Spec PyProof.Rows L2 DL PM
theorem dec_cut {x : List Nat} {j : Nat} (h : j < x.length) : dec x j = x.take j ++ (x[j] - 1) :: x.drop (j + 1) := by
  unfold dec
  rw [List.set_eq_take_append_cons_drop, if_pos h]
  simp [h]
theorem inc_cut {x : List Nat} {j : Nat} (h : j < x.length) : inc x j = x.take j ++ (x[j] + 1) :: x.drop (j + 1) := by
  unfold inc
  rw [List.set_eq_take_append_cons_drop, if_pos h]
  simp [h]
theorem decD {x : List Nat} {j : Nat} (h : j < x.length) (h0 : 0 < x[j]) : D.tup (List.take j (x.map nD) ++ D.int ((x[j] : Int) - 1) :: List.drop (j + 1) (x.map nD)) = nT (dec x j) := by
  rw [dec_cut h]
  simp [nD]
  omega
theorem incD {x : List Nat} {j : Nat} (h : j < x.length) : D.tup (List.take j (x.map nD) ++ D.int ((x[j] : Int) + 1) :: List.drop (j + 1) (x.map nD)) = nT (inc x j) := by
  rw [inc_cut h]
  simp [nD]
theorem vol_mono : ∀ {a b : List Nat}, a.length = b.length → fits a b = true → vol a ≤ vol b
  | [], [], _, _ => Nat.le_refl _
  | x :: xs, y :: ys, hl, f => by
    simp only [fits, Bool.and_eq_true, decide_eq_true_eq] at f
    exact Nat.mul_le_mul (by omega) (vol_mono (by simpa using hl) f.2)
  | [], _ :: _, hl, _ => by simp at hl
  | _ :: _, [], hl, _ => by simp at hl
theorem zipIdx_range (os : List (List Nat × Nat)) : os.zipIdx = (List.range os.length).map fun a => (os.getD a ([], 0), a) := by
  apply List.ext_getElem?
  intro i
  rw [List.getElem?_zipIdx, List.getElem?_map]
  by_cases h : i < os.length
  · simp [h]
  · simp [h]
end K77

set_option Elab.async false
set_option linter.all false
set_option maxRecDepth 100000
set_option maxHeartbeats 8000000
namespace K77
open PySem PySem.Spec PyProof.Rows L2 DL PM
/-! equality by structure -/
def okA : Nat → D → Bool
  | _, .non => true
  | _, .bl _ => true
  | _, .int _ => true
  | _, .str x => PyData.strOk x
  | n + 1, .tup xs => decide (xs.length ≤ 1000) && xs.all (okA n)
  | n + 1, .lst xs => decide (xs.length ≤ 1000) && xs.all (okA n)
  | _, _ => false
def sp__law_alike (n : Nat) : DSp := fun as Q _ => ∃ d : D, as = [.fr d, .fr d] ∧ okA n d = true ∧ Q (.bl true) as
theorem f_allT {n : Nat} {Q1 : D → Prop} : fAll [.lst ((List.range n).map fun _ => D.bl true)] Q1 = Q1 (.bl true) := by
  have e : ((List.range n).map fun _ => D.bl true) = ((List.range n).map fun _ => true).map D.bl := by simp
  rw [e]
  show (match D.bls (((List.range n).map fun _ => true).map D.bl) with | some bs => Q1 (.bl (bs.all id)) | none => False) = _
  rw [D.bls_map]
  have : ((List.range n).map fun _ => true).all id = true := by simp
  show Q1 (.bl (((List.range n).map fun _ => true).all id)) = _
  rw [this]
theorem q__law_alike (n : Nat) (as Q') (h : sp__law_alike (n + 1) as Q' X0) : Goal as Q' (ds__law_alike (sp__law_alike n)) N__law_alike := by
  obtain ⟨d, rfl, hok, hQ⟩ := h
  cases d with
  | int i =>
    simp -implicitDefEqProofs [Goal, ds__law_alike, N__law_alike]
    exact hQ
  | bl b =>
    simp -implicitDefEqProofs [Goal, ds__law_alike, N__law_alike]
    exact hQ
  | non =>
    simp -implicitDefEqProofs [Goal, ds__law_alike, N__law_alike]
    exact hQ
  | str x =>
    simp -implicitDefEqProofs [Goal, ds__law_alike, N__law_alike]
    rw [f_eqR (Sh.str (show PyData.strOk x = true from hok)) (by decide)]
    exact hQ
  | tup xs =>
    simp only [okA, Bool.and_eq_true, decide_eq_true_eq] at hok
    simp -implicitDefEqProofs [Goal, ds__law_alike, N__law_alike]
    refine ⟨by omega, ?_⟩
    rw [DL.range_map]
    refine lc_map (fun i : Nat => D.int i) (fun _ => .bl true) rfl (by simp; exact sz (by omega)) (fun i hi Kn h => ?_) ?_
    · have hi : i < xs.length := by simpa using hi
      simp -implicitDefEqProofs
      rw [atI_nat hi]
      exact ⟨xs[i], rfl, List.all_eq_true.mp hok.2 _ (List.getElem_mem hi), h⟩
    · show fAll [.lst ([] ++ (List.range xs.length).map fun _ => D.bl true)] _
      rw [List.nil_append, f_allT]
      exact hQ
  | lst xs =>
    simp only [okA, Bool.and_eq_true, decide_eq_true_eq] at hok
    simp -implicitDefEqProofs [Goal, ds__law_alike, N__law_alike]
    refine ⟨by omega, ?_⟩
    rw [DL.range_map]
    refine lc_map (fun i : Nat => D.int i) (fun _ => .bl true) rfl (by simp; exact sz (by omega)) (fun i hi Kn h => ?_) ?_
    · have hi : i < xs.length := by simpa using hi
      simp -implicitDefEqProofs
      rw [atI_nat hi]
      exact ⟨xs[i], rfl, List.all_eq_true.mp hok.2 _ (List.getElem_mem hi), h⟩
    · show fAll [.lst ([] ++ (List.range xs.length).map fun _ => D.bl true)] _
      rw [List.nil_append, f_allT]
      exact hQ
  | _ => simp [okA] at hok
theorem q__law_alike0 (c : DSp) (as Q') (h : sp__law_alike 0 as Q' X0) : Goal as Q' (ds__law_alike c) N__law_alike := by
  obtain ⟨d, rfl, hok, hQ⟩ := h
  cases d with
  | int i =>
    simp -implicitDefEqProofs [Goal, ds__law_alike, N__law_alike]
    exact hQ
  | bl b =>
    simp -implicitDefEqProofs [Goal, ds__law_alike, N__law_alike]
    exact hQ
  | non =>
    simp -implicitDefEqProofs [Goal, ds__law_alike, N__law_alike]
    exact hQ
  | str x =>
    simp -implicitDefEqProofs [Goal, ds__law_alike, N__law_alike]
    rw [f_eqR (Sh.str (show PyData.strOk x = true from hok)) (by decide)]
    exact hQ
  | _ => simp [okA] at hok
/-! the law's questions -/
theorem okA_pairs {l : List (Nat × Nat)} (h : l.length ≤ 1000) : okA 2 (.tup (l.map pairD)) = true := by
  simp only [okA, List.length_map, Bool.and_eq_true, decide_eq_true_eq]
  refine ⟨h, List.all_eq_true.mpr fun d hd => ?_⟩
  obtain ⟨p, _, rfl⟩ := List.mem_map.mp hd
  simp [okA]
theorem okA_first {l : List (Nat × Nat)} : okA 2 (firstD l) = true := by
  cases l with
  | nil => rfl
  | cons p l => simp [firstD, okA]
end K77

set_option Elab.async false
set_option linter.all false
set_option maxRecDepth 100000
set_option maxHeartbeats 8000000
namespace K77
open PySem PySem.Spec PyProof.Rows L2 DL PM
def sp__law_parts : DSp := fun as Q _ => ∃ (ws : List Str) (os : List (List Nat × Nat)), as = [.fr (bookD ws os)] ∧ Q (.tup [.tup (ws.map .str), .tup (os.map oD)]) as
theorem q__law_parts (as Q') (h : sp__law_parts as Q' X0) : Goal as Q' ds__law_parts N__law_parts := by
  obtain ⟨ws, os, rfl, hQ⟩ := h
  simp -implicitDefEqProofs [Goal, ds__law_parts, N__law_parts]
  exact hQ
theorem vol_succ (x : List Nat) : vol (x.map (· + 1)) ≤ 2 ^ x.length * vol x := by
  induction x with
  | nil => simp [vol]
  | cons t ts ih =>
    simp only [List.map_cons, vol, List.length_cons, Nat.pow_succ]
    have h1 : (t + 1 + 1) ≤ 2 * (t + 1) := by omega
    calc (t + 1 + 1) * vol (ts.map (· + 1)) ≤ (2 * (t + 1)) * (2 ^ ts.length * vol ts) := Nat.mul_le_mul h1 ih
      _ = 2 ^ ts.length * 2 * ((t + 1) * vol ts) := by
        rw [Nat.mul_comm 2 (t + 1), Nat.mul_assoc, Nat.mul_comm (2 ^ ts.length) 2, Nat.mul_assoc 2, Nat.mul_left_comm (t + 1) 2, Nat.mul_left_comm (t + 1)]
end K77

set_option Elab.async false
set_option linter.all false
set_option maxRecDepth 100000
set_option maxHeartbeats 8000000
namespace K77
open PySem PySem.Spec PyProof.Rows L2 DL PM
theorem take_c {o : O} {n : Nat} {Q : D → DEnv → Prop} (hst : StO o) (hn : n < 2 ^ 61) (h : ∀ (r : Nat) (o' : O), StO o' → (r < n ∨ r = 0) → Q (.int r) [.ow true o', .fr (.int n)]) : sp__law_take [.ow true o, .fr (.int n)] Q X0 := ⟨o, n, rfl, hst, hn, h⟩
theorem ix_nat {n i : Nat} (h : i < n) : ixN n (i : Int) = some i := by
  rw [ix_lt (by omega) (by omega)]
  rfl
theorem inc_sum : ∀ {x : List Nat} {j : Nat}, j < x.length → (inc x j).sum = x.sum + 1
  | [], _, h => by simp at h
  | x :: xs, 0, _ => by simp [inc]; omega
  | x :: xs, j + 1, h => by
    have := inc_sum (x := xs) (j := j) (by simpa using h)
    simp [inc] at this ⊢
    omega
theorem inc_map {x : List Nat} {j : Nat} (h : j < x.length) : (x.map nD).set j (D.int ((x[j] : Int) + 1)) = (inc x j).map nD := by
  unfold inc
  rw [List.map_set]
  simp [h, nD]
structure GoodB (k n : Nat) (bs : List (List Nat)) : Prop where
  len : bs.length = n
  row : ∀ b ∈ bs, b.length = k ∧ 1 ≤ b.sum ∧ b.sum ≤ 8
  one : ∀ j, j < k → unitN k j ∈ bs
theorem unit_sum {k j : Nat} (h : j < k) : (unitN k j).sum = 1 := by
  have e : unitN k j = inc (List.replicate k 0) j := by
    apply List.ext_getElem
    · rw [unitN_len, inc_len]; simp
    · intro i a b
      rw [unitN_at, inc_at b (by rw [inc_len] at b; exact b)]
      simp [eq_comm]
  rw [e, inc_sum (by simpa using h)]
  simp
theorem goodUnits (k : Nat) (f : Nat → Nat) (hf : ∀ j, j < k → f j < k) (hs : ∀ j, j < k → ∃ i, i < k ∧ f i = j) : GoodB k k ((List.range k).map fun j => unitN k (f j)) := by
  refine ⟨by simp, fun b hb => ?_, fun j hj => ?_⟩
  · obtain ⟨j, hj, rfl⟩ := List.mem_map.mp hb
    have hj : j < k := by simpa using hj
    rw [unitN_len, unit_sum (hf j hj)]
    exact ⟨rfl, Nat.le_refl _, by decide⟩
  · obtain ⟨i, hi, e⟩ := hs j hj
    exact List.mem_map.mpr ⟨i, by simpa using hi, by rw [e]⟩
def sp__law_lots : DSp := fun as Q _ => ∃ (o : O) (k many high : Nat), as = [.ow true o, .fr (.int k), .fr (.int many), .fr (.int high)] ∧ StO o ∧ 1 ≤ k ∧ k ≤ 4 ∧ 1 ≤ high ∧ high ≤ 8 ∧ k + many ≤ 10 ∧
  ∀ (o' : O) (bs : List (List Nat)), StO o' → GoodB k (k + many) bs → Q (.lst (bs.map nT)) [.ow true o', .fr (.int k), .fr (.int many), .fr (.int high)]
def LotE (k many high : Nat) (o : O) (bs : List (List Nat)) (r : DEnv) : DEnv := .ow true o :: .fr (.int k) :: .fr (.int many) :: .fr (.int high) :: .ow false (.lst (bs.map nT)) :: .no :: r
theorem q__law_lots (as Q') (h : sp__law_lots as Q' X0) : Goal as Q' (ds__law_lots sp__law_single sp__law_take) N__law_lots := by
  obtain ⟨o, k, many, high, rfl, hst, hk1, hk4, hh1, hh8, hm, hQ⟩ := h
  unfold Goal ds__law_lots
  refine seq_cut (fun e => e = [.ow true o, .fr (.int k), .fr (.int many), .fr (.int high), .ow false (.lst (((List.range k).map fun j => unitN k j).map nT)), .no, .no, .no, .no, .no, .no]) (fun K hK => ?_) ?_
  · simp -implicitDefEqProofs [N__law_lots]
    refine ⟨by omega, ?_⟩
    rw [DL.range_map]
    refine lc_map _ (fun j => nT (unitN k j)) rfl (by simp; exact sz (by omega)) (fun j hj Kn h => ?_) ?_
    · simp -implicitDefEqProofs
      exact ⟨k, j, rfl, by omega, by simpa using h⟩
    · simp -implicitDefEqProofs
      exact hK _ (by simp [Function.comp_def])
  rintro e rfl
  refine seq_cut (fun e => ∃ (o : O) (bs : List (List Nat)), StO o ∧ GoodB k k bs ∧ e = [.ow true o, .fr (.int k), .fr (.int many), .fr (.int high), .ow false (.lst (bs.map nT)), .no, .no, .no, .no, .no, .no]) (fun K hK => ?_) ?_
  · simp -implicitDefEqProofs
    refine take_c (n := 2) hst (by decide) fun r o' hst' hr => ?_
    simp -implicitDefEqProofs
    split
    · refine ⟨by omega, ?_⟩
      rw [DL.range_map]
      refine lc_map _ (fun j => nT (unitN k (k - 1 - j))) rfl (by simp; exact sz (by omega)) (fun j hj Kn h => ?_) ?_
      · have hj : j < k := by simpa using hj
        have e1 : atI ((List.range k).map fun j => nT (unitN k j)) ((k : Int) - 1 - (j : Int)) = some (nT (unitN k (k - 1 - j))) := by
          rw [show ((k : Int) - 1 - (j : Int)) = ((k - 1 - j : Nat) : Int) by omega, at_n (by simp; omega)]
          simp
        simp -implicitDefEqProofs [Function.comp_def] at e1 ⊢
        rw [e1]
        simpa [Function.comp_def] using h
      · simp -implicitDefEqProofs
        exact hK _ ⟨o', (List.range k).map fun j => unitN k (k - 1 - j), hst', goodUnits k (fun j => k - 1 - j) (fun j hj => by omega) (fun j hj => ⟨k - 1 - j, by omega, by omega⟩), by simp [Function.comp_def]⟩
    · exact hK _ ⟨o', (List.range k).map fun j => unitN k j, hst', goodUnits k (fun j => j) (fun j hj => hj) (fun j hj => ⟨j, hj, rfl⟩), by simp [Function.comp_def]⟩
  clear hst
  rintro e ⟨o, bs, hst, hg, rfl⟩
  refine seq_cut (fun e => ∃ (o : O) (bs : List (List Nat)) (r : DEnv), StO o ∧ GoodB k (k + many) bs ∧ e = .ow true o :: .fr (.int k) :: .fr (.int many) :: .fr (.int high) :: .ow false (.lst (bs.map nT)) :: r) (fun K hK => ?_) ?_
  · simp -implicitDefEqProofs
    refine ⟨by omega, ?_⟩
    rw [DL.range_map]
    refine for_rule _ (fun rest e => ∃ (o : O) (bs : List (List Nat)) (n : Nat) (s6 s7 s8 s9 s10 : Sl), StO o ∧ GoodB k n bs ∧ n + rest.length = k + many ∧ e = [.ow true o, .fr (.int k), .fr (.int many), .fr (.int high), .ow false (.lst (bs.map nT)), .no, s6, s7, s8, s9, s10] ∧ Fre s6 ∧ Fre s7 ∧ Fre s8 ∧ Fre s9 ∧ Fre s10) ⟨o, bs, k, .no, .no, .no, .no, .no, hst, hg, by simp, rfl, by simp, by simp, by simp, by simp, by simp⟩ ?_ ?_
    · clear hst hg
      rintro i rest e ⟨o, bs, n, s6, s7, s8, s9, s10, hst, hg, hn, rfl, h6, h7, h8, h9, h10⟩ Kn hKn
      simp only [List.length_cons] at hn
      simp -implicitDefEqProofs only [s_gVar, s_setFS, s_setF0 h6]
      refine seq_cut (fun e => e = [.ow true o, .fr (.int k), .fr (.int many), .fr (.int high), .ow false (.lst (bs.map nT)), .no, .fr (.int i), .ow false (.lst ((List.replicate k 0).map nD)), s8, s9, s10]) (fun K1 hK1 => ?_) ?_
      · simp -implicitDefEqProofs
        refine ⟨by omega, ?_⟩
        rw [DL.range_map]
        refine lc_map _ (fun j => nD 0) rfl (by simp; exact sz (by omega)) (fun j hj Kn h => ?_) ?_
        · simp -implicitDefEqProofs
          simpa [nD] using h
        · simp -implicitDefEqProofs [h7]
          refine hK1 _ ?_
          rw [List.map_const', List.length_range]
          simp
      rintro e rfl
      refine seq_cut (fun e => ∃ (o : O) (sp : Nat), StO o ∧ sp < k ∧ e = [.ow true o, .fr (.int k), .fr (.int many), .fr (.int high), .ow false (.lst (bs.map nT)), .no, .fr (.int i), .ow false (.lst ((List.replicate k 0).map nD)), .fr (.int sp), s9, s10]) (fun K1 hK1 => ?_) ?_
      · simp -implicitDefEqProofs
        refine take_c hst (by omega) fun r o' hst' hr => ?_
        simp -implicitDefEqProofs [h8]
        have := hK1 _ ⟨o', r, hst', by omega, rfl⟩
        simpa using this
      clear hst
      rintro e ⟨o, sp, hst, hsp, rfl⟩
      refine seq_cut (fun e => ∃ (o : O) (al : Bool), StO o ∧ e = [.ow true o, .fr (.int k), .fr (.int many), .fr (.int high), .ow false (.lst (bs.map nT)), .no, .fr (.int i), .ow false (.lst ((List.replicate k 0).map nD)), .fr (.int sp), .fr (.bl al), s10]) (fun K1 hK1 => ?_) ?_
      · simp -implicitDefEqProofs
        refine take_c (n := 3) hst (by decide) fun r o' hst' hr => ?_
        simp -implicitDefEqProofs [h9]
        have := hK1 _ ⟨o', decide (r = 0), hst', rfl⟩
        simpa using this
      clear hst
      rintro e ⟨o, al, hst, rfl⟩
      refine seq_cut (fun e => ∃ (o : O) (row : List Nat) (s8 s10 : Sl), StO o ∧ row.length = k ∧ 1 ≤ row.sum ∧ row.sum ≤ 8 ∧ Fre s8 ∧ Fre s10 ∧ e = [.ow true o, .fr (.int k), .fr (.int many), .fr (.int high), .ow false (.lst (bs.map nT)), .no, .fr (.int i), .ow false (.lst (row.map nD)), s8, .fr (.bl al), s10]) (fun K1 hK1 => ?_) ?_
      · simp -implicitDefEqProofs
        refine take_c hst (by omega) fun r o' hst' hr => ?_
        simp -implicitDefEqProofs
        refine take_c (n := 4) hst' (by decide) fun r2 o2 hst2 hr2 => ?_
        simp -implicitDefEqProofs
        have hmul : DL.MulOk (high : Int) (if r2 = 0 then 1 else 0) := by
          split
          · exact mulOk (by omega) (by decide)
          · exact mulOk (by omega) (by decide)
        refine ⟨hmul, ?_⟩
        obtain ⟨n, hn1, hn8, hne⟩ : ∃ n : Nat, 1 ≤ n ∧ n ≤ 8 ∧ (if 1 + (r : Int) < (high : Int) * (if r2 = 0 then 1 else 0) then (high : Int) * (if r2 = 0 then 1 else 0) else 1 + (r : Int)) = (n : Int) := by
          by_cases z : r2 = 0
          · rw [if_pos z]
            split
            · exact ⟨high, by omega, by omega, by omega⟩
            · exact ⟨1 + r, by omega, by omega, by omega⟩
          · rw [if_neg z]
            split
            · omega
            · exact ⟨1 + r, by omega, by omega, by omega⟩
        rw [hne]
        refine ⟨by omega, ?_⟩
        rw [Int.toNat_natCast, DL.range_map]
        refine for_rule _ (fun rest e => ∃ (o : O) (row : List Nat) (sp : Nat) (s10 : Sl), StO o ∧ row.length = k ∧ row.sum + rest.length = n ∧ sp < k ∧ Fre s10 ∧ e = [.ow true o, .fr (.int k), .fr (.int many), .fr (.int high), .ow false (.lst (bs.map nT)), .no, .fr (.int i), .ow false (.lst (row.map nD)), .fr (.int sp), .fr (.bl al), s10]) ⟨o2, List.replicate k 0, sp, s10, hst2, by simp, by simp, hsp, h10, by simp⟩ ?_ ?_
        · clear hst hst' hst2 hsp h10
          rintro p rest2 e ⟨o, row, sp, s10, hst, hrl, hrs, hsp, h10, rfl⟩ Kn2 hK2
          have hspr : sp < row.length := by omega
          simp only [List.length_cons] at hrs
          simp -implicitDefEqProofs [h10]
          rw [at_n hspr]
          simp -implicitDefEqProofs
          rw [ix_nat hspr]
          simp -implicitDefEqProofs
          rw [inc_map hspr]
          have hi1 : (inc row sp).length = k := by rw [inc_len, hrl]
          have hi2 : (inc row sp).sum + rest2.length = n := by rw [inc_sum hspr]; omega
          cases al with
          | true =>
            simp -implicitDefEqProofs
            have := hK2 _ ⟨o, inc row sp, sp, .fr (.int p), hst, hi1, hi2, hsp, by simp, rfl⟩
            simpa using this
          | false =>
            simp -implicitDefEqProofs
            refine take_c hst (by omega) fun r o' hst' hr => ?_
            have := hK2 _ ⟨o', inc row sp, r, .fr (.int p), hst', hi1, hi2, by omega, by simp, rfl⟩
            simpa using this
        · rintro e ⟨o, row, sp, s10, hst, hrl, hrs, hsp, h10, rfl⟩
          simp at hrs
          exact hK1 _ ⟨o, row, .fr (.int sp), s10, hst, hrl, by omega, by omega, by simp, h10, rfl⟩
      clear hst
      rintro e ⟨o, row, s8, s10, hst, hrl, hr1, hr8, h8, h10, rfl⟩
      refine seq_cut (fun e => ∃ (o : O) (row : List Nat), StO o ∧ row.length = k ∧ 1 ≤ row.sum ∧ row.sum ≤ 8 ∧ e = [.ow true o, .fr (.int k), .fr (.int many), .fr (.int high), .ow false (.lst (bs.map nT)), .no, .fr (.int i), .ow false (.lst (row.map nD)), s8, .fr (.bl al), s10]) (fun K1 hK1 => ?_) ?_
      · simp -implicitDefEqProofs
        refine take_c (n := 6) hst (by decide) fun r o' hst' hr => ?_
        simp -implicitDefEqProofs
        split
        · refine take_c hst' (by rw [hg.len]; omega) fun r2 o2 hst2 hr2 => ?_
          have hr2 : r2 < bs.length := by have := List.length_pos_of_mem (hg.one 0 (by omega)); omega
          simp -implicitDefEqProofs
          rw [at_n hr2]
          simp -implicitDefEqProofs
          have hrow := hg.row _ (List.getElem_mem hr2)
          have := hK1 _ ⟨o2, bs[r2], hst2, hrow.1, hrow.2.1, hrow.2.2, rfl⟩
          simpa using this
        · exact hK1 _ ⟨o', row, hst', hrl, hr1, hr8, rfl⟩
      clear hst hrl hr1 hr8
      rintro e ⟨o, row, hst, hrl, hr1, hr8, rfl⟩
      simp -implicitDefEqProofs
      refine take_c (n := bs.length + 1) hst (by rw [hg.len]; omega) fun r o' hst' hr => ?_
      simp -implicitDefEqProofs
      refine take_c (n := 3) hst' (by decide) fun r2 o2 hst2 hr2 => ?_
      simp -implicitDefEqProofs
      have hbl : bs.length ≤ 10 := by have := hg.len; omega
      have hmul : DL.MulOk (r : Int) (if r2 = 0 then 1 else 0) := by
        split
        · exact mulOk (by omega) (by decide)
        · exact mulOk (by omega) (by decide)
      obtain ⟨p, hp, hpe⟩ : ∃ p : Nat, p ≤ bs.length ∧ ((r : Int) * if r2 = 0 then 1 else 0) = (p : Int) := by
        split
        · exact ⟨r, by omega, by simp⟩
        · exact ⟨0, by omega, by simp⟩
      rw [hpe]
      refine ⟨hmul, sz (by omega), by omega, ?_⟩
      rw [Int.toNat_natCast]
      have hg2 : GoodB k (n + 1) (bs.take p ++ row :: bs.drop p) := by
        refine ⟨by simp [hg.len]; have := hg.len; omega, fun b hb => ?_, fun j hj => ?_⟩
        · rcases List.mem_append.mp hb with h | h
          · exact hg.row b (List.mem_of_mem_take h)
          · rcases List.mem_cons.mp h with rfl | h
            · exact ⟨hrl, hr1, hr8⟩
            · exact hg.row b (List.mem_of_mem_drop h)
        · have h := hg.one j hj
          rw [← List.take_append_drop p bs] at h
          rcases List.mem_append.mp h with h | h
          · exact List.mem_append.mpr (.inl h)
          · exact List.mem_append.mpr (.inr (List.mem_cons_of_mem _ h))
      have := hKn _ ⟨o2, _, n + 1, .fr (.int i), .fr (.lst (row.map nD)), s8, .fr (.bl al), s10, hst2, hg2, by omega, rfl, by simp, by simp, h8, by simp, h10⟩
      simpa using this
    · rintro e ⟨o, bs, n, s6, s7, s8, s9, s10, hst, hg, hn, rfl, _⟩
      have : n = k + many := by simpa using hn
      subst this
      exact hK _ ⟨o, bs, _, hst, hg, rfl⟩
  rintro e ⟨o, bs, r, hst, hg, rfl⟩
  simp -implicitDefEqProofs
  have := hQ o bs hst hg
  simpa using this
end K77

set_option Elab.async false
set_option linter.all false
set_option maxRecDepth 100000
set_option maxHeartbeats 8000000
namespace K77
open PySem PySem.Spec PyProof.Rows L2 DL PM
theorem lc_take {α : Type} (enc : α → D) {i n : Nat} {a : DA} {P : List D → DEnv → Prop} {xs : List α} {o : O} {e : DEnv} (hst : StO o) (hn : n < 2 ^ 61) (he : e[i]? = some .no) (hl : xs.length < sizeLine)
    (ha : ∀ (o : O) (d : D) (Kn : List D → DEnv → Prop), Kn [.int n] (.ow true o :: e.set i (.fr d)) → a X0 (.ow true o :: e.set i (.fr d)) Kn)
    (hend : ∀ (o' : O) (ps : List Nat), StO o' → ps.length = xs.length → (∀ p ∈ ps, p < n ∨ p = 0) → P (ps.map nD) (.ow true o' :: e)) :
    lcGo (gVar (i + 1)) dYes (dCallS 0 sp__law_take a) [i + 1] P (xs.map enc) [] (.ow true o :: e) := by
  have hi := (List.getElem?_eq_some_iff.mp he).1
  refine lc_rule enc (fun rest acc e' => ∃ (o : O) (ps : List Nat), StO o ∧ acc = ps.map nD ∧ ps.length + rest.length = xs.length ∧ (∀ p ∈ ps, p < n ∨ p = 0) ∧ e' = .ow true o :: e) ⟨o, [], hst, rfl, by simp, by simp, rfl⟩ ?_ ?_
  · clear hst
    rintro x rest acc e' ⟨o, ps, hst, rfl, hlen, hps, rfl⟩ Kn hK
    simp only [List.length_cons] at hlen
    show setF (.ow true o :: e) (i + 1) (enc x) _
    rw [s_setFS]
    unfold setF
    rw [he]
    refine ha o (enc x) _ ?_
    show sp__law_take [.ow true o, .fr (.int n)] _ X0
    refine take_c hst hn fun r o' hst' hr => ?_
    have e1 : wipeE [i + 1] (.ow true o' :: e.set i (.fr (enc x))) = .ow true o' :: e := by
      show (Sl.ow true o' :: e.set i (.fr (enc x))).set (i + 1) .no = _
      rw [List.set_cons_succ, set_no he]
    refine ⟨by simp; omega, ?_⟩
    have := hK (ps.map nD ++ [.int r]) (.ow true o' :: e) ⟨o', ps ++ [r], hst', by simp, by simp; omega, fun p hp => ?_, rfl⟩
    · show Kn _ (wipeE [i + 1] (.ow true o' :: e.set i (.fr (enc x))))
      rw [e1]
      exact this
    · rcases List.mem_append.mp hp with h | h
      · exact hps p h
      · rw [List.mem_singleton.mp h]; exact hr
  · rintro acc e' ⟨o, ps, hst, rfl, hlen, hps, rfl⟩
    exact hend o ps hst (by simpa using hlen) hps
theorem dot_le {R : Nat} : ∀ {ws b : List Nat}, (∀ w ∈ ws, w ≤ R) → dotN ws b ≤ R * b.sum
  | [], b, _ => by simp [dotN]
  | w :: ws, [], _ => by simp [dotN]
  | w :: ws, y :: b, h => by
    have h1 := dot_le (ws := ws) (b := b) fun v hv => h v (List.mem_cons_of_mem _ hv)
    have h2 : w * y ≤ R * y := Nat.mul_le_mul_right _ (h w List.mem_cons_self)
    simp only [dotN, List.sum_cons, Nat.mul_add]
    omega
theorem dot_range : ∀ {ws b : List Nat}, ws.length = b.length → ((List.range ws.length).map fun j => ws.getD j 0 * b.getD j 0).sum = dotN ws b
  | [], [], _ => rfl
  | w :: ws, y :: b, h => by
    have := dot_range (ws := ws) (b := b) (by simpa using h)
    rw [List.length_cons, List.range_succ_eq_map, List.map_cons, List.sum_cons, List.map_map]
    simp only [dotN, Function.comp_def, List.getD_cons_succ, List.getD_cons_zero]
    rw [this]
  | [], _ :: _, h => by simp at h
  | _ :: _, [], h => by simp at h
def powL : List Nat := [1, 9, 81, 729, 6561, 59049, 531441, 4782969, 43046721, 387420489]
def roomL : List Nat := [10, 10, 10, 10, 3, 125000000000]
def sp__law_costs : DSp := fun as Q _ => ∃ (o : O) (k n : Nat) (bs : List (List Nat)), as = [.ow true o, .fr (.lst (bs.map nT))] ∧ StO o ∧ k ≤ 4 ∧ 1 ≤ n ∧ n ≤ 10 ∧ GoodB k n bs ∧
  ∀ (o' : O) (ps : List Nat), StO o' → ps.length = n → (∀ p ∈ ps, p ≤ 1000000000000) → Q (.lst (ps.map nD)) [.ow true o', .fr (.lst (bs.map nT))]
theorem q__law_costs (as Q') (h : sp__law_costs as Q' X0) : Goal as Q' (ds__law_costs sp__law_take) N__law_costs := by
  obtain ⟨o, k, n, bs, rfl, hst, hk4, hn1, hn10, hg, hQ⟩ := h
  have hbl := hg.len
  unfold Goal ds__law_costs
  refine seq_cut (fun e => ∃ (o : O) (way : Nat), StO o ∧ way < 9 ∧ e = [.ow true o, .fr (.lst (bs.map nT)), .fr (.int way), .no, .no, .no, .no, .no, .no, .no, .no, .no, .no]) (fun K hK => ?_) ?_
  · simp -implicitDefEqProofs [N__law_costs]
    refine take_c (n := 9) hst (by decide) fun r o' hst' hr => ?_
    simp -implicitDefEqProofs
    exact hK _ ⟨o', r, hst', by omega, rfl⟩
  clear hst
  rintro e ⟨o, way, hst, hw, rfl⟩
  refine seq_cut (fun e => way ≠ 0 ∧ e = [.ow true o, .fr (.lst (bs.map nT)), .fr (.int way), .no, .no, .no, .no, .no, .no, .no, .no, .no, .no]) (fun K hK => ?_) ?_
  · simp -implicitDefEqProofs
    split
    · refine lc_take nT (n := 7) hst (by decide) rfl (by rw [hbl]; exact sz (by omega)) (fun o d Kn h => ?_) fun o' ps hst' hpl hps => ?_
      · simp -implicitDefEqProofs
        exact h
      · simp -implicitDefEqProofs
        exact hQ o' ps hst' (by omega) fun p hp => by have := hps p hp; omega
    · exact hK _ ⟨by omega, rfl⟩
  rintro e ⟨hw0, rfl⟩
  refine seq_cut (fun e => way ≠ 1 ∧ e = [.ow true o, .fr (.lst (bs.map nT)), .fr (.int way), .no, .no, .no, .no, .no, .no, .no, .no, .no, .no]) (fun K hK => ?_) ?_
  · simp -implicitDefEqProofs
    split
    · refine ⟨by omega, ?_⟩
      rw [DL.range_map]
      refine lc_map _ (fun i => nD (387420489 * (bs.getD i []).sum - powL.getD (bs.length - 1 - i) 0)) rfl (by simp; exact sz (by omega)) (fun i hi Kn h => ?_) ?_
      · have hi : i < bs.length := by simpa using hi
        have hb := hg.row _ (List.getElem_mem hi)
        have hpl : bs.length - 1 - i < powL.length := by show _ < 10; omega
        have hple : powL[bs.length - 1 - i] ≤ 387420489 := by
          have : ∀ x ∈ powL, x ≤ 387420489 := by decide
          exact this _ (List.getElem_mem hpl)
        have hat : atI (powL.map nD) ((bs.length : Int) - 1 - (i : Int)) = some (nD powL[bs.length - 1 - i]) := by
          rw [show ((bs.length : Int) - 1 - (i : Int)) = ((bs.length - 1 - i : Nat) : Int) by omega, at_n hpl]
        have hat : atI [D.int 1, D.int 9, D.int 81, D.int 729, D.int 6561, D.int 59049, D.int 531441, D.int 4782969, D.int 43046721, D.int 387420489] ((bs.length : Int) - 1 - (i : Int)) = some (nD powL[bs.length - 1 - i]) := hat
        simp -implicitDefEqProofs
        refine ⟨by decide, ?_⟩
        rw [at_n hi]
        simp -implicitDefEqProofs [f_sumNatT]
        refine ⟨mulOk (by decide) (by omega), ?_⟩
        rw [hat]
        simp -implicitDefEqProofs
        have e5 : (387420489 * ((bs[i].sum : Nat) : Int) - (powL[bs.length - 1 - i] : Int)) = ((387420489 * (bs.getD i []).sum - powL.getD (bs.length - 1 - i) 0 : Nat) : Int) := by
          simp only [List.getD_eq_getElem?_getD, List.getElem?_eq_getElem hi, List.getElem?_eq_getElem hpl, Option.getD_some]
          omega
        rw [e5]
        exact h
      · simp -implicitDefEqProofs
        have := hQ o ((List.range bs.length).map fun i => 387420489 * (bs.getD i []).sum - powL.getD (bs.length - 1 - i) 0) hst (by simp [hbl]) fun p hp => by
          obtain ⟨i, hi, rfl⟩ := List.mem_map.mp hp
          have hi : i < bs.length := by simpa using hi
          have hb := hg.row _ (List.getElem_mem hi)
          simp only [List.getD_eq_getElem?_getD, List.getElem?_eq_getElem hi, Option.getD_some]
          omega
        simpa [Function.comp_def] using this
    · exact hK _ ⟨by omega, rfl⟩
  rintro e ⟨hw1, rfl⟩
  refine seq_cut (fun e => way ≠ 2 ∧ e = [.ow true o, .fr (.lst (bs.map nT)), .fr (.int way), .no, .no, .no, .no, .no, .no, .no, .no, .no, .no]) (fun K hK => ?_) ?_
  · simp -implicitDefEqProofs
    split
    · refine lc_take nT (n := 1000000000001) hst (by decide) rfl (by rw [hbl]; exact sz (by omega)) (fun o d Kn h => ?_) fun o' ps hst' hpl hps => ?_
      · simp -implicitDefEqProofs
        exact ⟨by decide, h⟩
      · simp -implicitDefEqProofs
        exact hQ o' ps hst' (by omega) fun p hp => by have := hps p hp; omega
    · exact hK _ ⟨by omega, rfl⟩
  rintro e ⟨hw2, rfl⟩
  obtain ⟨room, hroom, hr3, hr12⟩ : ∃ room : Nat, roomL[way - 3]? = some room ∧ 3 ≤ room ∧ room ≤ 125000000000 := by
    have h6 : way - 3 < roomL.length := by show _ < 6; omega
    have : ∀ x ∈ roomL, 3 ≤ x ∧ x ≤ 125000000000 := by decide
    exact ⟨roomL[way - 3], by simp [h6], this _ (List.getElem_mem h6)⟩
  have hat : atI [D.int 10, D.int 10, D.int 10, D.int 10, D.int 3, D.int 125000000000] ((way : Int) - 3) = some (.int room) := by
    have h6 : way - 3 < roomL.length := by show _ < 6; omega
    have : atI (roomL.map nD) (((way - 3 : Nat)) : Int) = some (nD room) := by
      rw [at_n h6]
      have := (List.getElem?_eq_some_iff.mp hroom).2
      rw [this]
    rw [show ((way - 3 : Nat) : Int) = (way : Int) - 3 by omega] at this
    exact this
  have hb0 : 0 < bs.length := by omega
  have hk0 := hg.row _ (List.getElem_mem hb0)
  simp -implicitDefEqProofs
  refine ⟨by decide, mulOk (by decide) (by decide), ?_⟩
  rw [hat]
  simp -implicitDefEqProofs
  refine take_c (n := 3) hst (by decide) fun r o' hst' hr => ?_
  simp -implicitDefEqProofs
  rw [show (0 : Int) = ((0 : Nat) : Int) from rfl, at_n hb0]
  simp -implicitDefEqProofs
  refine lc_take nD (n := room) hst' (by omega) rfl (by rw [hk0.1]; exact sz (by omega)) (fun o d Kn h => ?_) fun o2 ws hst2 hwl hws => ?_
  · simp -implicitDefEqProofs
    exact h
  simp -implicitDefEqProofs
  have hwk : ws.length = k := by rw [hwl, hk0.1]
  refine lc_map nT (fun b => nD (dotN ws b)) rfl (by rw [hbl]; simp; exact sz (by omega)) (fun b hb Kn h => ?_) ?_
  · have hbr := hg.row b hb
    simp -implicitDefEqProofs
    refine ⟨by omega, ?_⟩
    rw [DL.range_map]
    refine lc_map _ (fun j => nD (ws.getD j 0 * b.getD j 0)) rfl (by simp; exact sz (by omega)) (fun j hj Kn h => ?_) ?_
    · have hj : j < ws.length := by simpa using hj
      have hj2 : j < b.length := by omega
      have hw12 := hws _ (List.getElem_mem hj)
      simp -implicitDefEqProofs
      rw [at_n hj]
      simp -implicitDefEqProofs
      rw [at_n hj2]
      simp -implicitDefEqProofs
      have hb8 : b[j] ≤ b.sum := by
        have : ∀ (l : List Nat) (i : Nat) (h : i < l.length), l[i] ≤ l.sum := by
          intro l
          induction l with
          | nil => intro i h; simp at h
          | cons a l ih =>
            intro i h
            cases i with
            | zero => simp
            | succ i =>
              have := ih i (by simpa using h)
              simp
              omega
        exact this b j hj2
      refine ⟨mulOk (by omega) (by omega), ?_⟩
      simpa [nD, hj, hj2] using h
    · simp -implicitDefEqProofs
      have e6 : ((List.range ws.length).map fun j => nD (ws.getD j 0 * b.getD j 0)) = ((List.range ws.length).map fun j => ws.getD j 0 * b.getD j 0).map nD := by simp
      simp only [List.getD_eq_getElem?_getD] at e6
      rw [e6, f_sumNat]
      have e7 := dot_range (ws := ws) (b := b) (by omega)
      simp only [List.getD_eq_getElem?_getD] at e7
      rw [e7]
      exact h
  simp -implicitDefEqProofs
  have hdl : ∀ b ∈ bs, dotN ws b ≤ 1000000000000 := fun b hb => by
    have h1 := dot_le (R := 125000000000) (ws := ws) (b := b) fun w hw => by have := hws w hw; omega
    have h2 := (hg.row b hb).2.2
    have h3 : 125000000000 * b.sum ≤ 125000000000 * 8 := Nat.mul_le_mul_left _ h2
    omega
  refine lc_rule (fun b => nD (dotN ws b)) (fun rest acc e' => ∃ (o : O) (ps : List Nat), StO o ∧ acc = ps.map nD ∧ ps.length + rest.length = n ∧ (∀ p ∈ ps, p ≤ 1000000000000) ∧ (∀ b ∈ rest, b ∈ bs) ∧ e' = [.ow true o, .fr (.lst (bs.map nT)), .fr (.int way), .no, .no, .no, .fr (.int room), .fr (.int (1 + (r : Int))), .ow false (.lst (ws.map nD)), .no, .fr (.lst (bs.map fun b => nD (dotN ws b))), .no, .no]) ⟨o2, [], hst2, rfl, by simp [hbl], by simp, fun b h => h, rfl⟩ ?_ ?_
  · rintro b rest acc e' ⟨o3, ps, hst3, rfl, hlen, hps, hbs, rfl⟩ Kn hK
    simp only [List.length_cons] at hlen
    have hd := hdl b (hbs b (by simp))
    simp -implicitDefEqProofs
    refine take_c (n := 1 + r) hst3 (by omega) fun r2 o4 hst4 hr2 => ?_
    simp -implicitDefEqProofs
    refine ⟨sz (by omega), ?_⟩
    have h9 := hK (ps.map nD ++ [nD (dotN ws b - r2)]) _ ⟨o4, ps ++ [dotN ws b - r2], hst4, by simp, by simp; omega, fun p hp => by
      rcases List.mem_append.mp hp with h | h
      · exact hps p h
      · rw [List.mem_singleton.mp h]; omega, fun b h => hbs b (by simp [h]), rfl⟩
    have e9 : (if r2 < dotN ws b then (dotN ws b : Int) - (r2 : Int) else 0) = ((dotN ws b - r2 : Nat) : Int) := by split <;> omega
    rw [e9]
    simpa [nD] using h9
  · rintro acc e' ⟨o3, ps, hst3, rfl, hlen, hps, hbs, rfl⟩
    have := hQ o3 ps hst3 (by simpa using hlen) hps
    simpa using this
end K77

set_option Elab.async false
set_option linter.all false
set_option maxRecDepth 100000
set_option maxHeartbeats 8000000
namespace K77
open PySem PySem.Spec PyProof.Rows L2 DL PM
/-! words -/
def wordN (c m : Nat) : Str := ⟨(List.replicate m [c]).flatten.toArray⟩
theorem rep_flat (c m : Nat) : (List.replicate m [c]).flatten = List.replicate m c := by
  induction m with
  | zero => rfl
  | succ m ih => rw [List.replicate_succ, List.flatten_cons, ih]; rfl
theorem alpha_len : alphabet.cps.toList.length = 26 := by decide +kernel
theorem alpha_at (i : Nat) (h : i < 26) : alphabet.cps.toList[i]? = some (97 + i) := by
  have : ∀ i, i < 26 → alphabet.cps.toList[i]? = some (97 + i) := by decide +kernel
  exact this i h
theorem okWord {i m : Nat} (hi : i < 26) (h1 : 1 ≤ m) (h8 : m ≤ 8) : OkWord (wordN (97 + i) m) := by
  refine ⟨?_, ?_, fun c hc => ?_⟩
  · show 1 ≤ (List.replicate m [97 + i]).flatten.toArray.size
    rw [rep_flat]; simp; exact h1
  · show (List.replicate m [97 + i]).flatten.toArray.size ≤ 8
    rw [rep_flat]; simp; exact h8
  · have hc : c ∈ (List.replicate m [97 + i]).flatten.toArray.toList := hc
    rw [rep_flat] at hc
    simp at hc
    rw [hc.2]
    exact List.mem_of_getElem? (alpha_at i hi)
theorem wordN_inj {c d m n : Nat} (hm : 1 ≤ m) (hn : 1 ≤ n) (h : wordN c m = wordN d n) : c = d := by
  unfold wordN at h
  injection h with h
  have h := congrArg Array.toList h
  rw [rep_flat, rep_flat] at h
  simp at h
  omega
/-- words of one letter each, the letters distinct -/
structure GoodWords (k : Nat) (ws : List Str) : Prop where
  ok : OkWords k ws
  form : ∃ cs ms : Nat → Nat, (∀ i (h : i < ws.length), cs i < 26 ∧ 1 ≤ ms i ∧ ms i ≤ 8 ∧ ws[i] = wordN (97 + cs i) (ms i)) ∧ ∀ i j, i < ws.length → j < ws.length → cs i = cs j → i = j
def sp__law_goods : DSp := fun as Q _ => ∃ (o : O) (k : Nat), as = [.ow true o, .fr (.int k)] ∧ StO o ∧ 1 ≤ k ∧ k ≤ 4 ∧ ∀ (o' : O) (ws : List Str), StO o' → GoodWords k ws → Q (.lst (ws.map .str)) [.ow true o', .fr (.int k)]
theorem f_mulStr {x : Str} {j : Int} {Q1 : D → Prop} : fMul (.str x) (.int j) Q1 = (0 ≤ j ∧ j < 1000 ∧ x.length ≤ 1000 ∧ Q1 (.str ⟨(List.replicate j.toNat x.cps.toList).flatten.toArray⟩)) := rfl
theorem step_inj {f s i j : Nat} (hs1 : 1 ≤ s) (hs : s ≤ 12) (hi : i < 4) (hj : j < 4) (h : (f + i * s) % 26 = (f + j * s) % 26) : i = j := by
  have hi' : i = 0 ∨ i = 1 ∨ i = 2 ∨ i = 3 := by omega
  have hj' : j = 0 ∨ j = 1 ∨ j = 2 ∨ j = 3 := by omega
  rcases hi' with rfl | rfl | rfl | rfl <;> rcases hj' with rfl | rfl | rfl | rfl <;> first | rfl | (exfalso; omega)
theorem q__law_goods (as Q') (h : sp__law_goods as Q' X0) : Goal as Q' (ds__law_goods sp__law_take) N__law_goods := by
  obtain ⟨o, k, rfl, hst, hk1, hk4, hQ⟩ := h
  simp -implicitDefEqProofs [Goal, ds__law_goods, N__law_goods]
  refine take_c (n := 26) hst (by decide) fun f o1 hst1 hf => ?_
  simp -implicitDefEqProofs
  refine take_c (n := 12) hst1 (by decide) fun s o2 hst2 hs => ?_
  simp -implicitDefEqProofs
  refine ⟨by omega, ?_⟩
  rw [DL.range_map]
  refine lc_rule _ (fun rest acc e => ∃ (o : O) (i : Nat) (ms : List Nat), StO o ∧ rest = (List.range k).drop i ∧ i ≤ k ∧ ms.length = i ∧ (∀ m ∈ ms, 1 ≤ m ∧ m ≤ 8) ∧ acc = (ms.zipIdx.map fun p => wordN (97 + (f + p.2 * (1 + s)) % 26) p.1).map D.str ∧ e = [.ow true o, .fr (.int k), .fr (.str "abcdefghijklmnopqrstuvwxyz"), .fr (.int f), .fr (.int (1 + (s : Int))), .no]) ⟨o2, 0, [], hst2, rfl, Nat.zero_le _, rfl, by simp, rfl, rfl⟩ ?_ ?_
  · rintro j rest acc e ⟨o, i, ms, hst, hr, hi, hml, hms, rfl, rfl⟩ Kn hK
    have hik : i < k := by
      by_cases z : i < k
      · exact z
      · rw [List.drop_eq_nil_of_le (by simp; omega)] at hr
        cases hr
    rw [List.drop_eq_getElem_cons (by simpa using hik)] at hr
    injection hr with hj hr
    have hj : j = i := by rw [hj]; simp
    subst hj
    simp -implicitDefEqProofs
    have hix : (((f : Int) + (j : Int) * (1 + (s : Int))) % 26) = (((f + j * (1 + s)) % 26 : Nat) : Int) := by
      rw [Int.natCast_emod]
      simp
    refine ⟨mulOk (by omega) (by omega), ?_⟩
    rw [hix]
    have hlt : (f + j * (1 + s)) % 26 < 26 := Nat.mod_lt _ (by decide)
    generalize hx : (f + j * (1 + s)) % 26 = x at hlt ⊢
    show match atI alphabet.cps.toList (x : Int) with | some c => alphabet.length ≤ sizeLine ∧ _ | none => False
    rw [at_lt (by omega) (by rw [alpha_len]; omega), Int.toNat_natCast, alpha_at x hlt]
    refine ⟨by have : alphabet.length = 26 := by decide +kernel
               have := sz (n := 26) (by decide); omega, ?_⟩
    refine take_c (n := 8) hst (by decide) fun m o' hst' hm => ?_
    simp -implicitDefEqProofs
    rw [f_mulStr]
    refine ⟨by omega, by omega, by show 1 ≤ 1000; decide, ?_⟩
    have e1 : (⟨(List.replicate (1 + (m : Int)).toNat (#[97 + x] : Array Nat).toList).flatten.toArray⟩ : Str) = wordN (97 + x) (m + 1) := by
      unfold wordN
      rw [show (1 + (m : Int)).toNat = m + 1 by omega]
    show ms.length < sizeLine ∧ Kn (_ ++ [D.str (⟨(List.replicate (1 + (m : Int)).toNat (#[97 + x] : Array Nat).toList).flatten.toArray⟩ : Str)]) _
    rw [e1]
    have h9 := hK _ _ ⟨o', j + 1, ms ++ [m + 1], hst', hr, by omega, by simp [hml], fun q hq => by
      rcases List.mem_append.mp hq with h | h
      · exact hms q h
      · rw [List.mem_singleton.mp h]; omega, rfl, rfl⟩
    refine ⟨sz (by omega), ?_⟩
    rw [List.zipIdx_append, List.map_append, List.map_append] at h9
    simp [hml, hx] at h9 ⊢
    exact h9
  · rintro acc e ⟨o, i, ms, hst, hr, hi, hml, hms, rfl, rfl⟩
    have hik : i = k := by
      have := congrArg List.length hr
      simp at this
      omega
    have hws : OkWords k (ms.zipIdx.map fun p => wordN (97 + (f + p.2 * (1 + s)) % 26) p.1) := by
      refine ⟨by simp; omega, hk1, hk4, fun w hw => ?_, ?_⟩
      · obtain ⟨p, hp, rfl⟩ := List.mem_map.mp hw
        obtain ⟨m, j⟩ := p
        rw [List.mem_zipIdx_iff_getElem?] at hp
        have hm := hms m (List.mem_of_getElem? hp)
        exact okWord (Nat.mod_lt _ (by decide)) hm.1 hm.2
      · refine List.pairwise_iff_getElem.mpr fun a b ha hb hab he => ?_
        simp at ha hb
        simp at he
        have h1 := hms _ (List.getElem_mem ha)
        have h2 := hms _ (List.getElem_mem hb)
        have := wordN_inj h1.1 h2.1 he
        have := step_inj (f := f) (s := 1 + s) (i := a) (j := b) (by omega) (by omega) (by omega) (by omega) (by omega)
        omega
    have h9 := hQ o _ hst ⟨hws, fun j => (f + j * (1 + s)) % 26, fun j => ms.getD j 0, fun j h => ?_, fun a b ha hb he => ?_⟩
    · simpa using h9
    · have h : j < ms.length := by simpa using h
      have hm := hms _ (List.getElem_mem h)
      refine ⟨Nat.mod_lt _ (by decide), ?_, ?_, ?_⟩
      · simp [h]; omega
      · simp [h]; omega
      · simp [h]
    · simp at ha hb
      exact step_inj (f := f) (s := 1 + s) (i := a) (j := b) (by omega) (by omega) (by omega) (by omega) he
/-! a market -/
@[reducible] def shD (t : Nat × Nat × Nat) : D := .tup [nD t.1, nD t.2.1, nD t.2.2]
theorem zip_ok {k n : Nat} {bs : List (List Nat)} {ps : List Nat} (hg : GoodB k n bs) (hn : n ≤ 10) (hpl : ps.length = n) (hp : ∀ p ∈ ps, p ≤ 1000000000000) : OkOffs k (bs.zip ps) := by
  have hbl := hg.len
  refine ⟨by simp; omega, fun o ho => ?_, fun j hj => ?_⟩
  · have hb := hg.row o.1 (List.of_mem_zip ho).1
    refine ⟨hb.1, fun x hx => ?_, hb.2.1, hb.2.2, hp o.2 (List.of_mem_zip ho).2⟩
    have : ∀ (l : List Nat) (x : Nat), x ∈ l → x ≤ l.sum := by
      intro l
      induction l with
      | nil => intro x h; cases h
      | cons a l ih =>
        intro x h
        rcases List.mem_cons.mp h with rfl | h
        · simp
        · have := ih x h
          simp
          omega
    have := this o.1 x hx
    omega
  · rw [List.map_fst_zip (by omega)]
    exact hg.one j hj
end K77

set_option Elab.async false
set_option linter.all false
set_option maxRecDepth 100000
set_option maxHeartbeats 8000000
namespace K77
open PySem PySem.Spec PyProof.Rows L2 DL PM
def stL (cs : List Int) : List D := .int 5 :: .int 0 :: .int 0 :: .int 0 :: .int 314159 :: cs.map .int
theorem stO_stL (cs : List Int) : StO (.lst (stL cs)) := ⟨5, 0, 0, 0, 314159, cs, by decide, rfl⟩
def sp__law_store : DSp := fun as Q _ => ∃ ns : List Int, as = [.fr (.scr (ns.map .int))] ∧ ∀ cs : List Int, cs.length = min 63 ns.length → Q (.lst (stL cs)) as
theorem q__law_store (as Q') (h : sp__law_store as Q' X0) : Goal as Q' ds__law_store N__law_store := by
  obtain ⟨ns, rfl, hQ⟩ := h
  simp -implicitDefEqProofs [Goal, ds__law_store, N__law_store]
  have hc : cutD (ns.map D.int) none (some 63) = (ns.take 63).map D.int := by
    have := cut_to (xs := ns.map D.int) (i := 63)
    rw [show ((63 : Nat) : Int) = 63 from rfl] at this
    rw [this, List.map_take]
  rw [hc]
  refine for_rule D.int (fun rest e => ∃ (cs : List Int) (s2 : Sl), e = [.fr (.scr (ns.map .int)), .ow false (.lst (stL cs)), s2] ∧ Fre s2 ∧ cs.length + rest.length = min 63 ns.length) ⟨[], .no, rfl, by simp, by simp⟩ ?_ ?_
  · rintro n rest e ⟨cs, s2, rfl, h2, hl⟩ Kn hK
    simp only [List.length_cons] at hl
    have hsz : (stL cs).length < sizeLine := by
      unfold stL
      simp
      exact sz (by omega)
    have fin : ∀ v : Int, Kn [.fr (.scr (ns.map .int)), .ow false (.lst (stL cs ++ [.int v])), .fr (.int n)] := fun v => by
      have := hK _ ⟨cs ++ [v], .fr (.int n), rfl, by simp, by simp; omega⟩
      simpa [stL] using this
    simp -implicitDefEqProofs [h2]
    refine ⟨by decide, ?_⟩
    split
    · refine ⟨by decide, by decide, by decide, ?_⟩
      exact ⟨hsz, fin _⟩
    · exact ⟨hsz, fin _⟩
  · rintro e ⟨cs, s2, rfl, h2, hl⟩
    simp -implicitDefEqProofs
    exact hQ cs (by simpa using hl)
theorem vol_set {x : List Nat} {j v : Nat} (h : j < x.length) (h0 : x[j] = 0) : vol (x.set j v) = vol x * (v + 1) := by
  induction x generalizing j with
  | nil => simp at h
  | cons a x ih =>
    cases j with
    | zero =>
      have h0 : a = 0 := h0
      subst h0
      simp [vol, Nat.mul_comm]
    | succ j =>
      simp only [List.set_cons_succ, vol]
      rw [ih (by simpa using h) (by simpa using h0), Nat.mul_assoc]
def capL : List Nat := [24, 7, 4, 3]
end K77

set_option Elab.async false
set_option linter.all false
set_option maxRecDepth 100000
set_option maxHeartbeats 8000000
namespace K77
open PySem PySem.Spec PyProof.Rows L2 DL PM
@[simp ↓] theorem s_callN {dsp : DSp} {a : DA} {Ē : XD} {e : DEnv} {QO : O → DEnv → Prop} : dCallN dsp a Ē e QO = a Ē e fun ds e1 => ds.all okArg = true ∧ dsp (ds.map .fr) (fun d _ => match d with
  | .lst xs => noLs xs = true ∧ xs.length ∉ lensD ds ∧ QO (.lst xs) e1
  | _ => False) X0 := rfl
def ShOk (shs : List (Nat × Nat × Nat)) : Prop := shs ≠ [] ∧ shs.length ≤ 100 ∧ ∀ t ∈ shs, 1 ≤ t.1 ∧ t.1 ≤ 4 ∧ t.1 + t.2.1 ≤ 10 ∧ 1 ≤ t.2.2 ∧ t.2.2 ≤ 8
def sh1 : List (Nat × Nat × Nat) := [(1, 4, 8), (2, 4, 4), (3, 4, 3), (4, 3, 2), (2, 5, 3), (1, 3, 4)]
def sh2 : List (Nat × Nat × Nat) := [(1, 9, 8), (2, 8, 8), (3, 7, 8), (4, 6, 8)]
def sh3 : List (Nat × Nat × Nat) := [(1, 4, 8), (2, 4, 4)]
theorem ok1 : ShOk sh1 := ⟨by decide, by decide, by decide⟩
theorem ok2 : ShOk sh2 := ⟨by decide, by decide, by decide⟩
theorem ok3 : ShOk sh3 := ⟨by decide, by decide, by decide⟩
theorem sh_book {k : Nat} {ws : List Str} {os : List (List Nat × Nat)} (hw : OkWords k ws) : ∃ p, Sh (.tup [.tup (ws.map .str), .tup (os.map oD)]) p 4 :=
  ⟨_, Sh.tup (ShL.cons ((Sh.tup (ShL.map (g := PyData.str) fun w hw' => Sh.str (hw.all w hw').str)).mono (by decide)) (ShL.cons (Sh.tup (n := 2) (ShL.map (g := fun o : List Nat × Nat => PyData.tuple [PyData.tuple (o.1.map fun n : Nat => PyData.int n), PyData.int o.2]) fun o _ => Sh.tup (ShL.cons (sh_nT o.1) (ShL.cons ((Sh.int o.2).mono (by decide)) ShL.nil)))) ShL.nil))⟩
theorem raised_ok {k : Nat} {os os2 : List (List Nat × Nat)} (h : OkOffs k os) (e : os2.map (·.1) = os.map (·.1)) (hp : ∀ o ∈ os2, o.2 ≤ 1000000000000) : OkOffs k os2 := by
  have hl := congrArg List.length e
  simp at hl
  refine ⟨by have := h.len; omega, fun o ho => ?_, fun j hj => by rw [e]; exact h.one j hj⟩
  have : o.1 ∈ os.map (·.1) := by rw [← e]; exact List.mem_map.mpr ⟨o, ho, rfl⟩
  obtain ⟨o', ho', e'⟩ := List.mem_map.mp this
  have q := h.all o' ho'
  exact ⟨by rw [← e']; exact q.len, by rw [← e']; exact q.le, by rw [← e']; exact q.one, by rw [← e']; exact q.top, hp o ho⟩
end K77

set_option Elab.async false
set_option linter.all false
set_option maxRecDepth 100000
set_option maxHeartbeats 8000000
namespace K77
open PySem PySem.Spec PyProof.Rows L2 DL PM
/-! a pair of markets -/
theorem le_sumN : ∀ (l : List Nat) (x : Nat), x ∈ l → x ≤ l.sum := by
  intro l
  induction l with
  | nil => intro x h; cases h
  | cons a l ih =>
    intro x h
    rcases List.mem_cons.mp h with rfl | h
    · simp
    · have := ih x h
      simp
      omega
theorem OkOffs.perm {k : Nat} {os os2 : List (List Nat × Nat)} (h : OkOffs k os) (hl : os2.length ≤ 10) (hm : ∀ o, o ∈ os2 ↔ o ∈ os) : OkOffs k os2 :=
  ⟨hl, fun o ho => h.all o ((hm o).mp ho), fun j hj => by
    obtain ⟨o, ho, e⟩ := List.mem_map.mp (h.one j hj)
    exact List.mem_map.mpr ⟨o, (hm o).mpr ho, e⟩⟩
theorem pr_ok {k : Nat} {os os2 : List (List Nat × Nat)} (h : OkOffs k os) (e : os2.map (·.1) = os.map (·.1)) (hp : ∀ o ∈ os2, o.2 ≤ 1000000000000) : OkOffs k os2 := by
  have hl := congrArg List.length e
  simp at hl
  refine ⟨by have := h.len; omega, fun o ho => ?_, fun j hj => by rw [e]; exact h.one j hj⟩
  have : o.1 ∈ os.map (·.1) := by rw [← e]; exact List.mem_map.mpr ⟨o, ho, rfl⟩
  obtain ⟨o', ho', e'⟩ := List.mem_map.mp this
  have q := h.all o' ho'
  exact ⟨by rw [← e']; exact q.len, by rw [← e']; exact q.le, by rw [← e']; exact q.one, by rw [← e']; exact q.top, hp o ho⟩
theorem rev_eq (os : List (List Nat × Nat)) : ((List.range os.length).map fun i => os.getD (os.length - 1 - i) ([], 0)) = os.reverse := by
  apply List.ext_getElem
  · simp
  · intro i a b
    simp at a b
    simp [show os.length - 1 - i < os.length by omega]
theorem add_range {x b : List Nat} (hl : x.length = b.length) : add x b = (List.range x.length).map fun i => x.getD i 0 + b.getD i 0 := by
  apply List.ext_getElem
  · rw [add_len hl]; simp
  · intro i h1 h2
    rw [add_len hl] at h1
    rw [add_at hl i _ h1 (by omega)]
    simp [h1, show i < b.length by omega]
def ShOk2 (shs : List (Nat × Nat × Nat)) : Prop := shs ≠ [] ∧ shs.length ≤ 100 ∧ ∀ t ∈ shs, 1 ≤ t.1 ∧ t.1 ≤ 4 ∧ t.1 + t.2.1 ≤ 10 ∧ 1 ≤ t.2.2 ∧ t.2.2 ≤ 8
def sp__law_pair_of_books : DSp := fun as Q _ => ∃ (o : O) (shs : List (Nat × Nat × Nat)), as = [.ow true o, .fr (.lst (shs.map shD))] ∧ StO o ∧ ShOk2 shs ∧
  ∀ (o' : O) (k : Nat) (ws : List Str) (os1 os2 : List (List Nat × Nat)), StO o' → GoodWords k ws → OkOffs k os1 → OkOffs k os2 → Q (.lst [.lst (ws.map .str), .lst (os1.map oD), .lst (os2.map oD)]) [.ow true o', .fr (.lst (shs.map shD))]
theorem pair_c {o : O} {shs : List (Nat × Nat × Nat)} {Q : D → DEnv → Prop} (hst : StO o) (hs : ShOk2 shs) (h : ∀ (o' : O) (k : Nat) (ws : List Str) (os1 os2 : List (List Nat × Nat)), StO o' → GoodWords k ws → OkOffs k os1 → OkOffs k os2 → Q (.lst [.lst (ws.map .str), .lst (os1.map oD), .lst (os2.map oD)]) [.ow true o', .fr (.lst (shs.map shD))]) : sp__law_pair_of_books [.ow true o, .fr (.lst (shs.map shD))] Q X0 := ⟨o, shs, rfl, hst, hs, h⟩
theorem q__law_pair_of_books (as Q') (h : sp__law_pair_of_books as Q' X0) : Goal as Q' (ds__law_pair_of_books sp__law_take sp__law_lots sp__law_costs sp__law_goods) N__law_pair_of_books := by
  obtain ⟨o, shs, rfl, hst, ⟨hne, hl100, hsh⟩, hQ⟩ := h
  have hl0 : 0 < shs.length := List.length_pos_iff.mpr hne
  unfold Goal ds__law_pair_of_books
  refine seq_cut (fun e => ∃ (o : O) (t : Nat × Nat × Nat), StO o ∧ t ∈ shs ∧ e = [.ow true o, .fr (.lst (shs.map shD)), .fr (shD t), .no, .no, .no, .no, .no, .no, .no, .no, .no, .no, .no, .no, .no]) (fun K hK => ?_) ?_
  · simp -implicitDefEqProofs [N__law_pair_of_books]
    refine take_c (n := shs.length) hst (by omega) fun r o1 hst1 hr => ?_
    have hr : r < shs.length := by omega
    simp -implicitDefEqProofs
    rw [at_n hr]
    exact hK _ ⟨o1, shs[r], hst1, List.getElem_mem hr, rfl⟩
  clear hst
  rintro e ⟨o, ⟨k, m, hh⟩, hst, ht, rfl⟩
  have ht := hsh _ ht
  simp at ht
  obtain ⟨hk1, hk4, hkm, hh1, hh8⟩ := ht
  refine seq_cut (fun e => ∃ (o : O) (many : Nat), StO o ∧ many ≤ m ∧ e = [.ow true o, .fr (.lst (shs.map shD)), .fr (shD (k, m, hh)), .fr (.int many), .no, .no, .no, .no, .no, .no, .no, .no, .no, .no, .no, .no]) (fun K hK => ?_) ?_
  · simp -implicitDefEqProofs
    refine take_c (n := m + 1) hst (by omega) fun r1 o2 hst2 hr1 => ?_
    simp -implicitDefEqProofs
    refine take_c (n := m + 1) hst2 (by omega) fun r2 o3 hst3 hr2 => ?_
    simp -implicitDefEqProofs
    obtain ⟨many, hmm, hme⟩ : ∃ many : Nat, many ≤ m ∧ (if r1 < r2 then (r2 : Int) else (r1 : Int)) = (many : Int) := by
      split
      · exact ⟨r2, by omega, rfl⟩
      · exact ⟨r1, by omega, rfl⟩
    rw [hme]
    exact hK _ ⟨o3, many, hst3, hmm, rfl⟩
  clear hst
  rintro e ⟨o, many, hst, hmm, rfl⟩
  refine seq_cut (fun e => ∃ (o : O) (bs : List (List Nat)), StO o ∧ GoodB k (k + many) bs ∧ e = [.ow true o, .fr (.lst (shs.map shD)), .fr (shD (k, m, hh)), .fr (.int many), .fr (.lst (bs.map nT)), .no, .no, .no, .no, .no, .no, .no, .no, .no, .no, .no]) (fun K hK => ?_) ?_
  · simp -implicitDefEqProofs
    refine ⟨o, k, many, hh, rfl, hst, hk1, hk4, hh1, hh8, by omega, fun o4 bs hst4 hg => ?_⟩
    simp -implicitDefEqProofs
    exact hK _ ⟨o4, bs, hst4, hg, rfl⟩
  clear hst
  rintro e ⟨o, bs, hst, hg, rfl⟩
  refine seq_cut (fun e => ∃ (o : O) (ps : List Nat), StO o ∧ ps.length = k + many ∧ (∀ p ∈ ps, p ≤ 1000000000000) ∧ e = [.ow true o, .fr (.lst (shs.map shD)), .fr (shD (k, m, hh)), .fr (.int many), .fr (.lst (bs.map nT)), .fr (.lst (ps.map nD)), .no, .no, .no, .no, .no, .no, .no, .no, .no, .no]) (fun K hK => ?_) ?_
  · simp -implicitDefEqProofs
    refine ⟨o, k, k + many, bs, rfl, hst, hk4, by omega, by omega, hg, fun o5 ps hst5 hpl hps => ?_⟩
    simp -implicitDefEqProofs
    exact hK _ ⟨o5, ps, hst5, hpl, hps, rfl⟩
  clear hst
  rintro e ⟨o, ps, hst, hpl, hps, rfl⟩
  refine seq_cut (fun e => ∃ (o : O) (ws : List Str), StO o ∧ GoodWords k ws ∧ e = [.ow true o, .fr (.lst (shs.map shD)), .fr (shD (k, m, hh)), .fr (.int many), .fr (.lst (bs.map nT)), .fr (.lst (ps.map nD)), .fr (.lst (ws.map .str)), .no, .no, .no, .no, .no, .no, .no, .no, .no]) (fun K hK => ?_) ?_
  · simp -implicitDefEqProofs
    refine ⟨o, k, rfl, hst, hk1, hk4, fun o6 ws hst6 hws => ?_⟩
    simp -implicitDefEqProofs
    exact hK _ ⟨o6, ws, hst6, hws, rfl⟩
  clear hst
  rintro e ⟨o, ws, hst, hws, rfl⟩
  have zipD : ∀ {bs : List (List Nat)} {ps : List Nat}, bs.length = ps.length → ((List.range bs.length).map fun i => oD (bs.getD i [], ps.getD i 0)) = (bs.zip ps).map oD := fun {bs ps} hl => by
    apply List.ext_getElem
    · simp; omega
    · intro i a b
      simp at a b
      have b2 : i < ps.length := by omega
      simp [a, b2]
  have hbl := hg.len
  refine seq_cut (fun e => ∃ (os : List (List Nat × Nat)), os.length = k + many ∧ OkOffs k os ∧ e = [.ow true o, .fr (.lst (shs.map shD)), .fr (shD (k, m, hh)), .fr (.int many), .fr (.lst (bs.map nT)), .fr (.lst (ps.map nD)), .fr (.lst (ws.map .str)), .ow false (.lst (os.map oD)), .no, .no, .no, .no, .no, .no, .no, .no]) (fun K hK => ?_) ?_
  · simp -implicitDefEqProofs
    refine ⟨by omega, ?_⟩
    rw [DL.range_map]
    refine lc_map _ (fun i => oD (bs.getD i [], ps.getD i 0)) rfl (by simp; exact sz (by omega)) (fun i hi Kn h => ?_) ?_
    · have hi : i < bs.length := by simpa using hi
      have hi2 : i < ps.length := by omega
      simp -implicitDefEqProofs
      rw [at_n hi]
      simp -implicitDefEqProofs
      rw [at_n hi2]
      simp -implicitDefEqProofs
      simpa [hi, hi2] using h
    · have h9 := hK _ ⟨bs.zip ps, by simp; omega, zip_ok hg (by omega) hpl hps, rfl⟩
      rw [← zipD (by omega)] at h9
      simpa using h9
  clear hbl
  rintro e ⟨os, hol, hok, rfl⟩
  refine seq_cut (fun e => e = [.ow true o, .fr (.lst (shs.map shD)), .fr (shD (k, m, hh)), .fr (.int many), .fr (.lst (bs.map nT)), .fr (.lst (ps.map nD)), .fr (.lst (ws.map .str)), .ow false (.lst (os.map oD)), .no, .ow false (.lst (os.map oD)), .no, .no, .no, .no, .no, .no]) (fun K hK => ?_) ?_
  · simp -implicitDefEqProofs
    exact hK _ rfl
  rintro e rfl
  refine seq_cut (fun e => ∃ (o : O) (way : Nat), StO o ∧ way < 8 ∧ e = [.ow true o, .fr (.lst (shs.map shD)), .fr (shD (k, m, hh)), .fr (.int many), .fr (.lst (bs.map nT)), .fr (.lst (ps.map nD)), .fr (.lst (ws.map .str)), .ow false (.lst (os.map oD)), .no, .ow false (.lst (os.map oD)), .fr (.int way), .no, .no, .no, .no, .no]) (fun K hK => ?_) ?_
  · simp -implicitDefEqProofs
    refine take_c (n := 8) hst (by decide) fun r o1 hst1 hr => ?_
    simp -implicitDefEqProofs
    exact hK _ ⟨o1, r, hst1, by omega, rfl⟩
  clear hst
  rintro e ⟨o, way, hst, hway, rfl⟩
  refine seq_cut (fun e => ∃ (o : O) (at_ : Nat), StO o ∧ at_ < k + many ∧ e = [.ow true o, .fr (.lst (shs.map shD)), .fr (shD (k, m, hh)), .fr (.int many), .fr (.lst (bs.map nT)), .fr (.lst (ps.map nD)), .fr (.lst (ws.map .str)), .ow false (.lst (os.map oD)), .no, .ow false (.lst (os.map oD)), .fr (.int way), .fr (.int at_), .no, .no, .no, .no]) (fun K hK => ?_) ?_
  · simp -implicitDefEqProofs
    refine take_c (n := os.length) hst (by omega) fun r o1 hst1 hr => ?_
    simp -implicitDefEqProofs
    exact hK _ ⟨o1, r, hst1, by omega, rfl⟩
  clear hst
  rintro e ⟨o, at_, hst, hat, rfl⟩
  let E (o : O) (b p : Sl) (os2 : List (List Nat × Nat)) (s12 s13 s14 : Sl) : DEnv := [.ow true o, .fr (.lst (shs.map shD)), .fr (shD (k, m, hh)), .fr (.int many), b, p, .fr (.lst (ws.map .str)), .ow false (.lst (os2.map oD)), .no, .ow false (.lst (os.map oD)), .fr (.int way), .fr (.int at_), s12, s13, s14, .no]
  refine seq_cut (fun e => ∃ os2, os2.length = k + many ∧ OkOffs k os2 ∧ e = E o (.fr (.lst (bs.map nT))) (.fr (.lst (ps.map nD))) os2 .no .no .no) (fun K hK => ?_) ?_
  · simp -implicitDefEqProofs
    split
    · refine ⟨by omega, ?_⟩
      rw [DL.range_map]
      refine lc_map _ (fun i => oD (os.getD (os.length - 1 - i) ([], 0))) rfl (by simp; exact sz (by omega)) (fun i hi Kn h => ?_) ?_
      · have hi : i < os.length := by simpa using hi
        have e1 : atI (os.map oD) ((os.length : Int) - 1 - (i : Int)) = some (oD (os.getD (os.length - 1 - i) ([], 0))) := by
          rw [show ((os.length : Int) - 1 - (i : Int)) = ((os.length - 1 - i : Nat) : Int) by omega, at_n (by omega)]
          simp [show os.length - 1 - i < os.length by omega]
        simp -implicitDefEqProofs at e1 ⊢
        rw [e1]
        simpa using h
      · have e1 : ((List.range os.length).map fun i => oD (os.getD (os.length - 1 - i) ([], 0))) = os.reverse.map oD := by rw [← rev_eq, List.map_map]; rfl
        have h9 := hK _ ⟨os.reverse, by simp [hol], hok.perm (by simp; omega) (by simp), rfl⟩
        simp only [E] at h9
        rw [← e1] at h9
        simpa using h9
    · exact hK _ ⟨os, hol, hok, rfl⟩
  rintro e ⟨os1, hol1, hok1, rfl⟩
  refine seq_cut (fun e => ∃ o os2, StO o ∧ os2.length = k + many ∧ OkOffs k os2 ∧ e = E o (.fr (.lst (bs.map nT))) (.fr (.lst (ps.map nD))) os2 .no .no .no) (fun K hK => ?_) ?_
  · have hset : K (E o (.fr (.lst (bs.map nT))) (.fr (.lst (ps.map nD))) os1 .no .no .no) := hK _ ⟨o, os1, hst, hol1, hok1, rfl⟩
    have go : ∀ Kn : DEnv → Prop, (∀ e, (∃ o os2, StO o ∧ os2.length = k + many ∧ OkOffs k os2 ∧ e = E o (.fr (.lst (bs.map nT))) (.fr (.lst (ps.map nD))) os2 .no .no .no) → Kn e) → dSetIx 7 (dVar 11) (dTup (dCons (dBin fIx (dIxV 7 (dVar 11)) (dC (.int 0))) (dCons (dCB fMax2 (dCons (dC (.int 0)) (dCons (dCB fMin2 (dCons (dBin fPow (dC (.int 10)) (dC (.int 12))) (dCons (dBin fAdd (dBin fIx (dIxV 7 (dVar 11)) (dC (.int 1))) (dBin fIx (dFrz (dLst (dCons (dC (.int 1)) (dCons (dUn fNeg (dC (.int 1))) (dCons (dC (.int 2)) (dCons (dUn fNeg (dC (.int 2))) dNil)))))) (dCallS 0 sp__law_take (dCons (dC (.int 4)) dNil)))) dNil))) dNil))) dNil))) X0 { nx := Kn, rt := fun d e' => Q' d (retA [.ow true o, .fr (.lst (shs.map shD))] e') } (E o (.fr (.lst (bs.map nT))) (.fr (.lst (ps.map nD))) os1 .no .no .no) := fun Kn hKn => by
      simp -implicitDefEqProofs [E]
      rw [at_n (by omega)]
      simp -implicitDefEqProofs
      have hi : at_ < os1.length := by omega
      refine ⟨by decide, ?_⟩
      refine take_c (n := 4) hst (by decide) fun r o1 hst1 hr => ?_
      simp -implicitDefEqProofs
      obtain ⟨c, hc⟩ : ∃ c : Int, atI [D.int 1, D.int (-1), D.int 2, D.int (-2)] (r : Int) = some (.int c) := by
        have hr : r = 0 ∨ r = 1 ∨ r = 2 ∨ r = 3 := by omega
        rcases hr with rfl | rfl | rfl | rfl
        · exact ⟨1, rfl⟩
        · exact ⟨-1, rfl⟩
        · exact ⟨2, rfl⟩
        · exact ⟨-2, rfl⟩
      rw [hc]
      simp -implicitDefEqProofs
      rw [ix_nat (by omega)]
      obtain ⟨p, hp1, hpe⟩ : ∃ p : Nat, p ≤ 1000000000000 ∧ (if 0 < (if (os1[at_].2 : Int) + c < 1000000000000 then (os1[at_].2 : Int) + c else 1000000000000) then (if (os1[at_].2 : Int) + c < 1000000000000 then (os1[at_].2 : Int) + c else 1000000000000) else 0) = (p : Int) := by
        have hy : (if (os1[at_].2 : Int) + c < 1000000000000 then (os1[at_].2 : Int) + c else 1000000000000) ≤ 1000000000000 := by split <;> omega
        generalize (if (os1[at_].2 : Int) + c < 1000000000000 then (os1[at_].2 : Int) + c else 1000000000000) = y at hy ⊢
        split
        · exact ⟨y.toNat, by omega, by omega⟩
        · exact ⟨0, by omega, rfl⟩
      rw [hpe]
      have h9 := hKn _ ⟨o1, os1.set at_ (os1[at_].1, p), hst1, by simpa using hol1, pr_ok hok1 ?_ fun q hq => ?_, rfl⟩
      · simp -implicitDefEqProofs [E, List.map_set] at h9 ⊢
        exact h9
      · rw [List.map_set]
        have : (os1.map (·.1))[at_]? = some os1[at_].1 := by simp [hi]
        apply List.ext_getElem?
        intro j
        by_cases z : at_ = j
        · subst z
          rw [List.getElem?_set_self (by simpa using hi), this]
        · rw [List.getElem?_set_ne z]
      · rcases List.mem_or_eq_of_mem_set hq with h | h
        · exact (hok1.all q h).pr
        · rw [h]; exact hp1
    simp only [E] at go hset ⊢
    simp -implicitDefEqProofs only [s_if, s_or, s_test, s_bin, s_varS, s_var0, s_c, f_eq, s_next]
    split
    · exact go K hK
    · split
      · exact go K hK
      · exact hset
  clear hst hol1 hok1
  rintro e ⟨o, os1, hst, hol1, hok1, rfl⟩
  refine seq_cut (fun e => ∃ o os2 s12, StO o ∧ Fre s12 ∧ os2.length = k + many ∧ OkOffs k os2 ∧ e = E o (.fr (.lst (bs.map nT))) (.fr (.lst (ps.map nD))) os2 s12 .no .no) (fun K hK => ?_) ?_
  · simp -implicitDefEqProofs [E]
    split
    · refine take_c (n := 9) hst (by decide) fun r o1 hst1 hr => ?_
      simp -implicitDefEqProofs
      refine lc_map oD (fun x => oD (x.1, if x.2 * (1 + r) < 1000000000000 then x.2 * (1 + r) else 1000000000000)) rfl (by simp; exact sz (by omega)) (fun x hx Kn h => ?_) ?_
      · have hp := (hok1.all x hx).pr
        simp -implicitDefEqProofs
        refine ⟨by decide, mulOk (by omega) (by omega), ?_⟩
        have e1 : (if (x.2 : Int) * (1 + (r : Int)) < 1000000000000 then (x.2 : Int) * (1 + (r : Int)) else 1000000000000) = ((if x.2 * (1 + r) < 1000000000000 then x.2 * (1 + r) else 1000000000000 : Nat) : Int) := by
          obtain ⟨N, hN⟩ : ∃ N, N = x.2 * (1 + r) := ⟨_, rfl⟩
          have e2 : (x.2 : Int) * (1 + (r : Int)) = (N : Int) := by rw [hN]; simp
          rw [e2, ← hN]
          clear hN e2
          split
          · rw [if_pos (by omega)]
          · rw [if_neg (by omega)]; rfl
        rw [e1]
        simpa using h
      · have h9 := hK _ ⟨o1, os1.map fun x => (x.1, if x.2 * (1 + r) < 1000000000000 then x.2 * (1 + r) else 1000000000000), .fr (.int (1 + (r : Int))), hst1, by simp, by simp [hol1], pr_ok hok1 (by simp) fun q hq => by
          obtain ⟨x, _, rfl⟩ := List.mem_map.mp hq
          have q9 : ∀ N : Nat, (if N < 1000000000000 then N else 1000000000000) ≤ 1000000000000 := fun N => by split <;> omega
          exact q9 _, rfl⟩
        simp [E] at h9 ⊢
        exact h9
    · exact hK _ ⟨o, os1, .no, hst, by simp, hol1, hok1, rfl⟩
  clear hst hol1 hok1
  rintro e ⟨o, os1, s12, hst, h12, hol1, hok1, rfl⟩
  refine seq_cut (fun e => ∃ o b p os2, StO o ∧ Fre b ∧ Fre p ∧ (way = 7 → os2.length = k + many) ∧ OkOffs k os2 ∧ e = E o b p os2 s12 .no .no) (fun K hK => ?_) ?_
  · have hno : K (E o (.fr (.lst (bs.map nT))) (.fr (.lst (ps.map nD))) os1 s12 .no .no) := hK _ ⟨o, _, _, os1, hst, by simp, by simp, fun _ => hol1, hok1, rfl⟩
    by_cases hw : way = 3 ∨ way = 5 ∨ way = 6
    · have hw3 : (way : Int) = 3 ∨ (way : Int) = 5 ∨ (way : Int) = 6 := by omega
      have cond : ∀ (P : Prop), P → (if decide ((way : Int) = 3) = true then True ∧ P else if decide ((way : Int) = 5) = true then P else if decide ((way : Int) = 6) = true then P else False) ∨ True := fun _ _ => .inr trivial
      let B : DS := (dSeq (dIf (dTest (dBin fGt (dVar 10) (dC (.int 3)))) (dAsg 4 (dCallS 0 sp__law_lots (dCons (dIxV 2 (dC (.int 0))) (dCons (dCallS 0 sp__law_take (dCons (dBin fAdd (dIxV 2 (dC (.int 1))) (dC (.int 1))) dNil)) (dCons (dIxV 2 (dC (.int 2))) dNil))))) dNext) (dSeq (dAsg 5 (dCallS 0 sp__law_costs (dCons (dVar 4) dNil))) (dAsgN 7 (dLc (dRange1 (dOwnL 4 fLen (dCB fLen (dCons (dVar 4) dNil)))) (gVar 8) dYes (dTup (dCons (dIxV 4 (dVar 8)) (dCons (dIxV 5 (dVar 8)) dNil))) [8]))))
      have key : B X0 { nx := K, rt := fun d e' => Q' d (retA [.ow true o, .fr (.lst (shs.map shD))] e') } (E o (.fr (.lst (bs.map nT))) (.fr (.lst (ps.map nD))) os1 s12 .no .no) := by
        refine seq_cut (fun e => ∃ (o : O) (n : Nat) (bs : List (List Nat)), StO o ∧ 1 ≤ n ∧ n ≤ 10 ∧ GoodB k n bs ∧ e = E o (.fr (.lst (bs.map nT))) (.fr (.lst (ps.map nD))) os1 s12 .no .no) (fun K hK => ?_) ?_
        · simp -implicitDefEqProofs [E]
          split
          · refine take_c (n := m + 1) hst (by omega) fun r o1 hst1 hr => ?_
            simp -implicitDefEqProofs
            refine ⟨o1, k, r, hh, rfl, hst1, hk1, hk4, hh1, hh8, by omega, fun o4 bs hst4 hg => ?_⟩
            simp -implicitDefEqProofs
            exact hK _ ⟨o4, k + r, bs, hst4, by omega, by omega, hg, rfl⟩
          · exact hK _ ⟨o, k + many, bs, hst, by omega, by omega, hg, rfl⟩
        clear hst hg
        rintro e ⟨o, n, bs, hst, hn1, hn10, hg, rfl⟩
        have hbl := hg.len
        refine seq_cut (fun e => ∃ (o : O) (ps : List Nat), StO o ∧ ps.length = n ∧ (∀ p ∈ ps, p ≤ 1000000000000) ∧ e = E o (.fr (.lst (bs.map nT))) (.fr (.lst (ps.map nD))) os1 s12 .no .no) (fun K hK => ?_) ?_
        · simp -implicitDefEqProofs [E]
          refine ⟨o, k, n, bs, rfl, hst, hk4, hn1, hn10, hg, fun o5 ps hst5 hpl hps => ?_⟩
          simp -implicitDefEqProofs
          exact hK _ ⟨o5, ps, hst5, hpl, hps, rfl⟩
        clear hst hpl hps
        rintro e ⟨o, ps, hst, hpl, hps, rfl⟩
        simp -implicitDefEqProofs [E]
        refine ⟨by omega, ?_⟩
        rw [DL.range_map]
        refine lc_map _ (fun i => oD (bs.getD i [], ps.getD i 0)) rfl (by simp; exact sz (by omega)) (fun i hi Kn h => ?_) ?_
        · have hi : i < bs.length := by simpa using hi
          have hi2 : i < ps.length := by omega
          simp -implicitDefEqProofs
          rw [at_n hi]
          simp -implicitDefEqProofs
          rw [at_n hi2]
          simp -implicitDefEqProofs
          simpa [hi, hi2] using h
        · have h9 := hK _ ⟨o, .fr (.lst (bs.map nT)), .fr (.lst (ps.map nD)), bs.zip ps, hst, by simp, by simp, fun h => by omega, zip_ok hg hn10 hpl hps, rfl⟩
          simp only [E] at h9
          rw [← zipD (by omega)] at h9
          simpa using h9
      simp only [E] at key ⊢
      simp -implicitDefEqProofs only [s_if, s_or, s_test, s_bin, s_varS, s_var0, s_c, f_eq]
      rcases hw with rfl | rfl | rfl
      · exact key
      · exact key
      · exact key
    · have h3 : ¬ (way : Int) = 3 := by omega
      have h5 : ¬ (way : Int) = 5 := by omega
      have h6 : ¬ (way : Int) = 6 := by omega
      simp -implicitDefEqProofs [E, h3, h5, h6]
      exact hno
  clear hst hol1 hok1
  rintro e ⟨o, b, p, os1, hst, hb, hp, hol1, hok1, rfl⟩
  refine seq_cut (fun e => ∃ o os2 s13 s14, StO o ∧ OkOffs k os2 ∧ e = E o b p os2 s12 s13 s14) (fun K hK => ?_) ?_
  · simp -implicitDefEqProofs [E]
    have hno : ∀ o s13 s14, StO o → K (E o b p os1 s12 s13 s14) := fun o s13 s14 h => hK _ ⟨o, os1, s13, s14, h, hok1, rfl⟩
    split
    · rename_i hw7
      have hl7 := hol1 (by omega)
      split
      · rename_i hlt10
        refine take_c (n := os1.length) hst (by omega) fun r o1 hst1 hr => ?_
        have hr : r < os1.length := by omega
        have hi : at_ < os1.length := by omega
        simp -implicitDefEqProofs
        rw [at_n hr]
        simp -implicitDefEqProofs
        have ha := hok1.all _ (List.getElem_mem hi)
        have hb2 := hok1.all _ (List.getElem_mem hr)
        have hal := ha.len
        have hbl := hb2.len
        have hat1 : atI (os1.map oD) (at_ : Int) = some (oD os1[at_]) := at_n hi
        generalize os1[at_] = x at ha hal hat1
        generalize os1[r] = y at hb2 hbl
        refine ⟨by omega, ?_⟩
        rw [DL.range_map]
        refine lc_map _ (fun j => nD (x.1.getD j 0 + y.1.getD j 0)) rfl (by simp; exact sz (by omega)) (fun j hj Kn h => ?_) ?_
        · have hj : j < k := by simpa using hj
          simp -implicitDefEqProofs
          rw [hat1]
          simp -implicitDefEqProofs
          rw [at_n (by omega)]
          simp -implicitDefEqProofs
          rw [at_n (by omega)]
          simp -implicitDefEqProofs
          simpa [nD, show j < x.1.length by omega, show j < y.1.length by omega] using h
        · have e6 : ([] ++ (List.range ((k : Int)).toNat).map fun j => nD (x.1.getD j 0 + y.1.getD j 0)) = (add x.1 y.1).map nD := by
            rw [add_range (by omega), hal]
            simp
          have e7 : (List.range k).map (fun j => nD (x.1.getD j 0 + y.1.getD j 0)) = (add x.1 y.1).map nD := by
            rw [add_range (by omega), hal]
            simp
          simp -implicitDefEqProofs only [List.nil_append, Int.toNat_natCast]
          rw [e7]
          simp -implicitDefEqProofs
          rw [f_sumNatT]
          have hs := add_sum (x := x.1) (y := y.1) (by omega)
          have hadl := add_len (x := x.1) (y := y.1) (by omega)
          simp -implicitDefEqProofs
          split
          · rename_i h9
            refine ⟨by decide, ?_⟩
            rw [hat1]
            simp -implicitDefEqProofs
            refine take_c (n := 3) hst1 (by decide) fun r3 o2 hst2 hr3 => ?_
            simp -implicitDefEqProofs
            obtain ⟨p9, hp9, hpe⟩ : ∃ p : Nat, p ≤ 1000000000000 ∧ (if (x.2 : Int) + (y.2 : Int) + (r3 : Int) < 1000000000000 then (x.2 : Int) + (y.2 : Int) + (r3 : Int) else 1000000000000) = (p : Int) := by
              split
              · exact ⟨x.2 + y.2 + r3, by omega, by simp⟩
              · exact ⟨1000000000000, by omega, rfl⟩
            rw [hpe]
            refine ⟨sz (by omega), by omega, ?_⟩
            have hnew : OkOff k (add x.1 y.1, p9) := ⟨by show (add x.1 y.1).length = k; omega, fun z hz => by
              have h7 : z ≤ (add x.1 y.1).sum := le_sumN _ _ hz
              omega, by show 1 ≤ (add x.1 y.1).sum; have := ha.one; omega, by show (add x.1 y.1).sum ≤ 8; omega, hp9⟩
            have hok2 : OkOffs k (os1.take at_ ++ (add x.1 y.1, p9) :: os1.drop at_) := by
              refine ⟨by simp; omega, fun z hz => ?_, fun j hj => ?_⟩
              · rcases List.mem_append.mp hz with h | h
                · exact hok1.all z (List.mem_of_mem_take h)
                · rcases List.mem_cons.mp h with rfl | h
                  · exact hnew
                  · exact hok1.all z (List.mem_of_mem_drop h)
              · obtain ⟨z, hz, e⟩ := List.mem_map.mp (hok1.one j hj)
                rw [← List.take_append_drop at_ os1] at hz
                refine List.mem_map.mpr ⟨z, ?_, e⟩
                rcases List.mem_append.mp hz with h | h
                · exact List.mem_append.mpr (.inl h)
                · exact List.mem_append.mpr (.inr (List.mem_cons_of_mem _ h))
            have h9 := hK _ ⟨o2, _, .fr (nT (add x.1 y.1)), .fr (oD y), hst2, hok2, rfl⟩
            simp [E, List.map_take, List.map_drop] at h9 ⊢
            exact h9
          · have h9 := hno o1 (.fr (nT (add x.1 y.1))) (.fr (oD y)) hst1
            simpa [E] using h9
      · exact hno o .no .no hst
    · exact hno o .no .no hst
  clear hst hok1 hol1
  rintro e ⟨o, os2, s13, s14, hst, hok2, rfl⟩
  simp -implicitDefEqProofs [E]
  refine take_c (n := 2) hst (by decide) fun r o1 hst1 hr => ?_
  simp -implicitDefEqProofs
  have hr : r = 0 ∨ r = 1 := by omega
  rcases hr with rfl | rfl
  · have h9 := hQ o1 k ws os os2 hst1 hws hok hok2
    simpa using h9
  · have h9 := hQ o1 k ws os2 os hst1 hws hok2 hok
    simpa using h9
end K77

set_option Elab.async false
set_option linter.all false
set_option maxRecDepth 100000
set_option maxHeartbeats 8000000
namespace K77
open PySem PySem.Spec PyProof.Rows L2 DL PM
/-! == of rows -/
theorem eqvAll_dec {α : Type} [DecidableEq α] (g : α → PyData) (h : ∀ x y, PyData.eqv (g x) (g y) = decide (x = y)) : ∀ xs ys : List α, PyData.eqvAll (xs.map g) (ys.map g) = decide (xs = ys)
  | [], [] => by simp [PyData.eqvAll]
  | [], _ :: _ => by simp [PyData.eqvAll]
  | _ :: _, [] => by simp [PyData.eqvAll]
  | x :: xs, y :: ys => by
    rw [List.map_cons, List.map_cons, PyData.eqvAll, h, eqvAll_dec g h xs ys, ← Bool.decide_and]
    exact decide_eq_decide.mpr (by rw [List.cons.injEq])
theorem eqv_tup {α : Type} [DecidableEq α] (g : α → PyData) (h : ∀ x y, PyData.eqv (g x) (g y) = decide (x = y)) (xs ys : List α) : PyData.eqv (.tuple (xs.map g)) (.tuple (ys.map g)) = decide (xs = ys) := by
  rw [PyData.eqv, eqvAll_dec g h]
theorem eqv_nat (x y : Nat) : PyData.eqv (.int (x : Int)) (.int (y : Int)) = decide (x = y) := by
  rw [show PyData.eqv (.int (x : Int)) (.int (y : Int)) = decide ((x : Int) = (y : Int)) from PySem.W.Datum.eqv (α := Int) _ _]
  exact decide_eq_decide.mpr (by omega)
theorem eqv_str (x y : Str) : PyData.eqv (.str x) (.str y) = decide (x = y) := PySem.W.Datum.eqv (α := Str) x y
def pyO (o : List Nat × Nat) : PyData := .tuple [.tuple (o.1.map fun n : Nat => PyData.int n), .int o.2]
theorem eqv_off (x y : List Nat × Nat) : PyData.eqv (pyO x) (pyO y) = decide (x = y) := by
  unfold pyO
  have h1 := eqv_tup (fun n : Nat => PyData.int n) eqv_nat x.1 y.1
  rw [PyData.eqv]
  simp only [PyData.eqvAll, h1, eqv_nat, Bool.and_true]
  rw [← Bool.decide_and]
  exact decide_eq_decide.mpr (by rw [Prod.ext_iff])
theorem sh_off (o : List Nat × Nat) : Sh (oD o) (pyO o) 2 := Sh.tup (ShL.cons (sh_nT o.1) (ShL.cons ((Sh.int o.2).mono (by decide)) ShL.nil))
theorem sh_offs (os : List (List Nat × Nat)) : Sh (.tup (os.map oD)) (.tuple (os.map pyO)) 3 := Sh.tup (ShL.map fun o _ => sh_off o)
theorem sh_offsL (os : List (List Nat × Nat)) : Sh (.lst (os.map oD)) (.list (os.map pyO)) 3 := Sh.lst (ShL.map fun o _ => sh_off o)
theorem sh_wds {k : Nat} {ws : List Str} (h : OkWords k ws) : Sh (.tup (ws.map .str)) (.tuple (ws.map .str)) 1 := Sh.tup (ShL.map (g := PyData.str) fun w hw => Sh.str (h.all w hw).str)
theorem f_eqOffs {x y : List (List Nat × Nat)} {Q1 : D → Prop} : fEq (.tup (x.map oD)) (.tup (y.map oD)) Q1 = Q1 (.bl (decide (x = y))) := by
  rw [f_eqS (sh_offs x) (sh_offs y) (by decide) (by decide), eqv_tup pyO eqv_off]
theorem f_eqWds {k k2 : Nat} {x y : List Str} {Q1 : D → Prop} (hx : OkWords k x) (hy : OkWords k2 y) : fEq (.tup (x.map .str)) (.tup (y.map .str)) Q1 = Q1 (.bl (decide (x = y))) := by
  rw [f_eqS (sh_wds hx) (sh_wds hy) (by decide) (by decide), eqv_tup PyData.str eqv_str]
theorem f_neWds {k k2 : Nat} {x y : List Str} {Q1 : D → Prop} (hx : OkWords k x) (hy : OkWords k2 y) : fNe (.tup (x.map .str)) (.tup (y.map .str)) Q1 = Q1 (.bl (!decide (x = y))) := by
  rw [f_neS (sh_wds hx) (sh_wds hy) (by decide) (by decide), eqv_tup PyData.str eqv_str]
theorem f_eqStr {x y : Str} {Q1 : D → Prop} (hx : PyData.strOk x = true) (hy : PyData.strOk y = true) : fEq (.str x) (.str y) Q1 = Q1 (.bl (decide (x = y))) := by
  rw [f_eqS (Sh.str hx) (Sh.str hy) (by decide) (by decide), eqv_str]
theorem ix_neg1 {n : Nat} (h : 0 < n) : ixN n (-1) = some (n - 1) := by
  unfold ixN
  rw [if_neg (by decide)]
  first | (rw [if_pos (by omega)]; congr 1; omega) | (simp; omega)
theorem at_neg1 {α : Type} {xs : List α} (h : 0 < xs.length) : atI xs (-1) = some (xs[xs.length - 1]'(by omega)) := by
  unfold atI
  rw [ix_neg1 h]
  simp [show xs.length - 1 < xs.length by omega]
/-! another market's words -/
def sp__law_stranger : DSp := fun as Q _ => ∃ (o : O) (k : Nat) (ws : List Str) (os : List (List Nat × Nat)), as = [.ow true o, .fr (.lst (ws.map .str)), .fr (.lst (os.map oD))] ∧ StO o ∧ GoodWords k ws ∧ OkOffs k os ∧
  ∀ (o' : O) (k2 : Nat) (ws2 : List Str) (os2 : List (List Nat × Nat)), StO o' → OkBook k2 ws2 os2 → ws2 ≠ ws → Q (.lst [.lst (ws2.map .str), .lst (os2.map oD)]) [.ow true o', .fr (.lst (ws.map .str)), .fr (.lst (os.map oD))]
theorem strange_c {o : O} {k : Nat} {ws : List Str} {os : List (List Nat × Nat)} {Q : D → DEnv → Prop} (hst : StO o) (hw : GoodWords k ws) (ho : OkOffs k os)
    (h : ∀ (o' : O) (k2 : Nat) (ws2 : List Str) (os2 : List (List Nat × Nat)), StO o' → OkBook k2 ws2 os2 → ws2 ≠ ws → Q (.lst [.lst (ws2.map .str), .lst (os2.map oD)]) [.ow true o', .fr (.lst (ws.map .str)), .fr (.lst (os.map oD))]) : sp__law_stranger [.ow true o, .fr (.lst (ws.map .str)), .fr (.lst (os.map oD))] Q X0 := ⟨o, k, ws, os, rfl, hst, hw, ho, h⟩
theorem wordN_len (c m : Nat) : (wordN c m).length = m := by
  show (List.replicate m [c]).flatten.toArray.size = m
  rw [rep_flat]; simp
theorem wordN_list (c m : Nat) : (wordN c m).cps.toList = List.replicate m c := by
  show (List.replicate m [c]).flatten.toArray.toList = _
  rw [rep_flat]
theorem other_ne (c m : Nat) : wordN c m ≠ "other" := by
  intro h
  have h1 := congrArg (fun s : Str => s.cps.toList) h
  simp only [wordN_list] at h1
  have h2 : (Str.ofString "other").cps.toList = [111, 116, 104, 101, 114] := by decide +kernel
  have h3 : List.replicate m c = [111, 116, 104, 101, 114] := h1.trans h2
  have h4 := congrArg List.length h3
  simp at h4
  subst h4
  simp [List.replicate] at h3
  omega
theorem ok_other : OkWord "other" := by
  refine ⟨by decide +kernel, by decide +kernel, fun c hc => ?_⟩
  have h2 : ("other" : Str).cps.toList = [111, 116, 104, 101, 114] := by decide +kernel
  rw [h2] at hc
  have key : ∀ c ∈ [111, 116, 104, 101, 114], c ∈ alphabet.cps.toList := by decide +kernel
  exact key c hc
theorem ix_prev {n i : Nat} (h : i < n) (h2 : 1 < n) : ixN n ((i : Int) - 1) = some (if i = 0 then n - 1 else i - 1) := by
  cases i with
  | zero => exact ix_neg1 (by omega)
  | succ i => rw [show (((i + 1 : Nat) : Int) - 1) = ((i : Nat) : Int) by omega, ix_nat (by omega)]; rfl
theorem at_prev {α : Type} {xs : List α} {i : Nat} (h : i < xs.length) (h2 : 1 < xs.length) : atI xs ((i : Int) - 1) = xs[if i = 0 then xs.length - 1 else i - 1]? := by
  unfold atI
  rw [ix_prev h h2]
  rfl
theorem swap_ok {k : Nat} {ws : List Str} (hw : OkWords k ws) {a b : Nat} (ha : a < ws.length) (hb : b < ws.length) (hab : a ≠ b) : OkWords k ((ws.set a ws[b]).set b ws[a]) ∧ ((ws.set a ws[b]).set b ws[a]) ≠ ws := by
  have hat : ∀ i (h : i < ws.length), ((ws.set a ws[b]).set b ws[a])[i]? = some (ws[if i = b then a else if i = a then b else i]'(by split; exact ha; split; exact hb; exact h)) := fun i h => by
    rw [List.getElem?_set]
    by_cases z : b = i
    · subst z; simp [hb]
    · rw [if_neg z, List.getElem?_set]
      by_cases y : a = i
      · subst y; simp [ha, Ne.symm z]
      · simp [y, Ne.symm z, Ne.symm y, h]
  have hl : ((ws.set a ws[b]).set b ws[a]).length = ws.length := by simp
  refine ⟨⟨by rw [hl]; exact hw.len, hw.one, hw.top, fun w hm => ?_, ?_⟩, fun h => ?_⟩
  · obtain ⟨i, hi, e⟩ := List.mem_iff_getElem?.mp hm |>.imp fun i h => (⟨(List.getElem?_eq_some_iff.mp h).1, h⟩ : i < ((ws.set a ws[b]).set b ws[a]).length ∧ _)
    rw [hl] at hi
    rw [hat i hi] at e
    cases e
    exact hw.all _ (List.getElem_mem _)
  · refine List.pairwise_iff_getElem.mpr fun i j hi hj hij he => ?_
    have hi' := hi; have hj' := hj
    rw [hl] at hi' hj'
    have e1 := hat i hi'
    have e2 := hat j hj'
    rw [List.getElem?_eq_getElem hi] at e1
    rw [List.getElem?_eq_getElem hj] at e2
    injection e1 with e1
    injection e2 with e2
    rw [e1, e2] at he
    have := (List.getElem_inj hw.nd).mp he
    split at this <;> split at this <;> (try split at this) <;> (try split at this) <;> omega
  · have e1 := hat a ha
    rw [h, List.getElem?_eq_getElem ha] at e1
    injection e1 with e1
    have := (List.getElem_inj hw.nd).mp e1
    split at this <;> (try split at this) <;> omega
theorem set_ok {k : Nat} {ws : List Str} (hw : GoodWords k ws) {a : Nat} (ha : a < ws.length) {c m m2 : Nat} (hc : ∀ cs ms : Nat → Nat, (∀ i (h : i < ws.length), cs i < 26 ∧ 1 ≤ ms i ∧ ms i ≤ 8 ∧ ws[i] = wordN (97 + cs i) (ms i)) → True) (e : ws[a] = wordN c m) (h1 : 1 ≤ m2) (h8 : m2 ≤ 8) (hm : m2 ≠ m) : OkWords k (ws.set a (wordN c m2)) ∧ ws.set a (wordN c m2) ≠ ws := by
  obtain ⟨cs, ms, h, inj⟩ := hw.form
  obtain ⟨a1, a2, a3, a4⟩ := h a ha
  have hc : c = 97 + cs a := by
    rw [a4] at e
    refine (wordN_inj a2 ?_ e).symm
    have := congrArg Str.length e
    rw [wordN_len, wordN_len] at this
    omega
  have hat : ∀ i (h : i < ws.length), ∃ n, 1 ≤ n ∧ n ≤ 8 ∧ (ws.set a (wordN c m2))[i]? = some (wordN (97 + cs i) n) := fun i hi => by
    rw [List.getElem?_set]
    by_cases z : a = i
    · subst z; simp [ha, hc]; exact ⟨m2, h1, h8, rfl⟩
    · rw [if_neg z, List.getElem?_eq_getElem hi, (h i hi).2.2.2]
      exact ⟨_, (h i hi).2.1, (h i hi).2.2.1, rfl⟩
  refine ⟨⟨by simp; exact hw.ok.len, hw.ok.one, hw.ok.top, fun w hm => ?_, ?_⟩, fun h9 => ?_⟩
  · obtain ⟨i, e⟩ := List.mem_iff_getElem?.mp hm
    have hi : i < ws.length := by have := (List.getElem?_eq_some_iff.mp e).1; simpa using this
    obtain ⟨n, n1, n8, en⟩ := hat i hi
    rw [en] at e
    cases e
    exact okWord (h i hi).1 n1 n8
  · refine List.pairwise_iff_getElem.mpr fun i j hi hj hij he => ?_
    have hi' : i < ws.length := by simpa using hi
    have hj' : j < ws.length := by simpa using hj
    obtain ⟨n, n1, n8, en⟩ := hat i hi'
    obtain ⟨n', n1', n8', en'⟩ := hat j hj'
    rw [List.getElem?_eq_getElem hi] at en
    rw [List.getElem?_eq_getElem hj] at en'
    injection en with en
    injection en' with en'
    rw [en, en'] at he
    have := wordN_inj n1 n1' he
    have := inj i j hi' hj' (by omega)
    omega
  · have e1 : (ws.set a (wordN c m2))[a]? = some (wordN c m2) := by rw [List.getElem?_set_self ha]
    rw [h9, List.getElem?_eq_getElem ha, e] at e1
    injection e1 with e1
    have := congrArg Str.length e1
    rw [wordN_len, wordN_len] at this
    omega
theorem q__law_stranger (as Q') (h : sp__law_stranger as Q' X0) : Goal as Q' (ds__law_stranger sp__law_take) N__law_stranger := by
  obtain ⟨o, k, ws, os, rfl, hst, hw, ho, hQ⟩ := h
  have hl := hw.ok.len
  have hk1 := hw.ok.one
  have hk4 := hw.ok.top
  unfold Goal ds__law_stranger
  refine seq_cut (fun e => ∃ (o : O) (way : Nat), StO o ∧ way < 3 ∧ e = [.ow true o, .fr (.lst (ws.map .str)), .fr (.lst (os.map oD)), .fr (.int way), .no, .no]) (fun K hK => ?_) ?_
  · simp -implicitDefEqProofs [N__law_stranger]
    refine take_c (n := 3) hst (by decide) fun r o1 hst1 hr => ?_
    simp -implicitDefEqProofs
    exact hK _ ⟨o1, r, hst1, by omega, rfl⟩
  clear hst
  rintro e ⟨o, way, hst, hway, rfl⟩
  refine seq_cut (fun e => ∃ (o : O) (sp : Nat), StO o ∧ sp < ws.length ∧ e = [.ow true o, .fr (.lst (ws.map .str)), .fr (.lst (os.map oD)), .fr (.int way), .fr (.int sp), .no]) (fun K hK => ?_) ?_
  · simp -implicitDefEqProofs
    refine take_c (n := ws.length) hst (by omega) fun r o1 hst1 hr => ?_
    simp -implicitDefEqProofs
    exact hK _ ⟨o1, r, hst1, by omega, rfl⟩
  clear hst
  rintro e ⟨o, sp, hst, hsp, rfl⟩
  have hats : atI (ws.map D.str) (sp : Int) = some (.str ws[sp]) := at_n hsp
  refine seq_cut (fun e => e = [.ow true o, .fr (.lst (ws.map .str)), .fr (.lst (os.map oD)), .fr (.int way), .fr (.int sp), .ow false (.lst (ws.map .str))]) (fun K hK => ?_) ?_
  · simp -implicitDefEqProofs
    exact hK _ rfl
  rintro e rfl
  refine seq_cut (fun e => ¬ (way = 0 ∧ 1 < ws.length) ∧ e = [.ow true o, .fr (.lst (ws.map .str)), .fr (.lst (os.map oD)), .fr (.int way), .fr (.int sp), .ow false (.lst (ws.map .str))]) (fun K hK => ?_) ?_
  · by_cases hc : way = 0 ∧ 1 < ws.length
    · obtain ⟨rfl, h1⟩ := hc
      obtain ⟨j, hj, hjs, hje⟩ : ∃ j, j < ws.length ∧ sp ≠ j ∧ (if sp = 0 then ws.length - 1 else sp - 1) = j := by
        refine ⟨_, ?_, ?_, rfl⟩
        · split <;> omega
        · split <;> omega
      have hprev : atI (ws.map D.str) ((sp : Int) - 1) = some (.str ws[j]) := by
        rw [at_prev (by simpa using hsp) (by simpa using h1)]
        simp only [List.length_map, hje]
        simp [hj]
      have hixp : ixN ws.length ((sp : Int) - 1) = some j := by rw [ix_prev hsp h1, hje]
      obtain ⟨s1, s2⟩ := swap_ok hw.ok hsp hj hjs
      have h9 := hQ o k _ os hst ⟨s1, ho⟩ s2
      have e5 : ((ws.map D.str).set sp (.str ws[j])).set j (.str ws[sp]) = ((ws.set sp ws[j]).set j ws[sp]).map D.str := by rw [List.map_set, List.map_set]
      have h1' : (1 : Int) < ws.length := by omega
      simp -implicitDefEqProofs [h1']
      rw [hprev]
      simp -implicitDefEqProofs
      rw [ix_nat hsp]
      simp -implicitDefEqProofs
      rw [hats]
      simp -implicitDefEqProofs
      rw [hixp]
      simp -implicitDefEqProofs
      rw [e5]
      simpa using h9
    · have h9 := hK _ ⟨hc, rfl⟩
      simp -implicitDefEqProofs
      split
      · rename_i h0
        rw [if_neg (by omega)]
        exact h9
      · exact h9
  rintro e ⟨hnc, rfl⟩
  refine seq_cut (fun e => way ≠ 1 ∧ e = [.ow true o, .fr (.lst (ws.map .str)), .fr (.lst (os.map oD)), .fr (.int way), .fr (.int sp), .ow false (.lst (ws.map .str))]) (fun K hK => ?_) ?_
  · by_cases hc : way = 1
    · subst hc
      have h0o : 0 < os.length := by
        obtain ⟨z, hz, _⟩ := List.mem_map.mp (ho.one 0 (by omega))
        exact List.length_pos_of_mem hz
      by_cases h1 : 1 < ws.length
      · have hat0 : atI (os.map oD) ((0 : Nat) : Int) = some (oD os[0]) := at_n h0o
        have hok1 : OkBook 1 [ws[sp]] [([1], os[0].2)] := ⟨⟨rfl, by decide, by decide, fun w hm => by rw [List.mem_singleton.mp hm]; exact hw.ok.all _ (List.getElem_mem _), by simp⟩, ⟨by simp, fun z hz => by
          rw [List.mem_singleton.mp hz]
          exact ⟨rfl, by simp, by simp, by simp, (ho.all _ (List.getElem_mem h0o)).pr⟩, fun j hj => by
          have : j = 0 := by omega
          subst this
          exact List.mem_singleton.mpr rfl⟩⟩
        have h9 := hQ o 1 _ _ hst hok1 (fun h => by have := congrArg List.length h; simp at this; omega)
        have h1' : (1 : Int) < ws.length := by omega
        simp -implicitDefEqProofs [h1']
        rw [hats]
        simp -implicitDefEqProofs
        rw [show (0 : Int) = ((0 : Nat) : Int) from rfl, hat0]
        simp -implicitDefEqProofs
        exact h9
      · have hk : ws.length = 1 := by omega
        have hat0 : atI (ws.map D.str) ((0 : Nat) : Int) = some (.str ws[0]) := at_n (by omega)
        obtain ⟨cs, ms, hf, _⟩ := hw.form
        have hok1 : OkBook 2 [ws[0], "other"] [([1, 0], 1), ([0, 1], 1)] := ⟨⟨rfl, by decide, by decide, fun w hm => by
          rcases List.mem_cons.mp hm with rfl | hm
          · exact hw.ok.all _ (List.getElem_mem _)
          · rw [List.mem_singleton.mp hm]; exact ok_other, by
          rw [List.nodup_cons]
          refine ⟨fun hm => ?_, by simp⟩
          have := List.mem_singleton.mp hm
          rw [(hf 0 (by omega)).2.2.2] at this
          exact other_ne _ _ this⟩, ⟨by simp, fun z hz => by
          rcases List.mem_cons.mp hz with rfl | hz
          · exact ⟨rfl, by simp, by simp, by simp, by simp⟩
          · rw [List.mem_singleton.mp hz]
            exact ⟨rfl, by simp, by simp, by simp, by simp⟩, fun j hj => by
          have : j = 0 ∨ j = 1 := by omega
          rcases this with rfl | rfl
          · exact List.mem_cons_self
          · exact List.mem_cons_of_mem _ List.mem_cons_self⟩⟩
        have h9 := hQ o 2 _ _ hst hok1 (fun h => by have := congrArg List.length h; simp at this; omega)
        simp -implicitDefEqProofs [hk]
        rw [show (0 : Int) = ((0 : Nat) : Int) from rfl, hat0]
        simp -implicitDefEqProofs
        exact h9
    · have h9 := hK _ ⟨hc, rfl⟩
      simp -implicitDefEqProofs
      rw [if_neg (by omega)]
      exact h9
  rintro e ⟨hn1, rfl⟩
  obtain ⟨cs, ms, hf, inj⟩ := hw.form
  obtain ⟨c26, m1, m8, we⟩ := hf sp hsp
  have wl : ws[sp].length = ms sp := by rw [we, wordN_len]
  have w0 : atI ws[sp].cps.toList 0 = some (97 + cs sp) := by
    rw [we, wordN_list, at_lt (by decide) (by simp; omega)]
    simp [show 0 < ms sp by omega]
  obtain ⟨s1, s2⟩ := set_ok hw hsp (fun _ _ _ => trivial) we (m2 := if ms sp = 1 then 2 else ms sp - 1) (by split <;> omega) (by split <;> omega) (by split <;> omega)
  have h9 := hQ o k _ os hst ⟨s1, ho⟩ s2
  have hz : ws[sp].length ≤ sizeLine := by have := sz (n := ws[sp].length) (by omega); omega
  have e5 : ((ms sp : Int) - 1 + 2 * (if (ms sp : Int) = 1 then 1 else 0)) = ((if ms sp = 1 then 2 else ms sp - 1 : Nat) : Int) := by
    by_cases z : ms sp = 1
    · rw [if_pos (by omega), if_pos z]; omega
    · rw [if_neg (by omega), if_neg z]; omega
  simp -implicitDefEqProofs
  rw [hats]
  simp -implicitDefEqProofs
  show match atI ws[sp].cps.toList (0 : Int) with | some c => ws[sp].length ≤ sizeLine ∧ _ | none => False
  rw [w0]
  show ws[sp].length ≤ sizeLine ∧ _
  refine ⟨hz, hz, mulOk (by decide) (by split <;> decide), ?_⟩
  rw [wl, e5]
  have b1 : 1 ≤ (if ms sp = 1 then 2 else ms sp - 1) ∧ (if ms sp = 1 then 2 else ms sp - 1) ≤ 8 := by split <;> omega
  generalize (if ms sp = 1 then 2 else ms sp - 1) = m2 at *
  rw [f_mulStr]
  refine ⟨by omega, by omega, by show 1 ≤ 1000; decide, ?_⟩
  rw [ix_nat hsp]
  have e7 : (⟨(List.replicate ((m2 : Nat) : Int).toNat (#[97 + cs sp] : Array Nat).toList).flatten.toArray⟩ : Str) = wordN (97 + cs sp) m2 := by
    unfold wordN
    rw [Int.toNat_natCast]
  rw [List.map_set] at h9
  rw [e7]
  exact h9
end K77

set_option Elab.async false
set_option linter.all false
set_option maxRecDepth 100000
set_option maxHeartbeats 8000000
namespace K77
open PySem PySem.Spec PyProof.Rows L2 DL PM
/-! never dearer; least offers -/
abbrev GoalX (as : DEnv) (Q' : D → DEnv → Prop) (Ē : XD) (ds : DS) (N : List Str) : Prop := ds (fun e' c fs => Ē (retA as e') c fs) { nx := fun e' => Q' .non (retA as e'), rt := fun d e' => Q' d (retA as e') } (as ++ List.replicate (N.length - as.length) .no)
theorem in_box (b : List Nat) : b ∈ boxN b := by
  rw [boxN_eq]
  exact List.mem_of_getElem? (box_get rfl (fits_refl _))
theorem dear_some {o1 o2 : List (List Nat × Nat)} {i : Nat} (hi : i < o2.length) (h : o2[i].2 < best o1 o2[i].1) (hb : ∀ j (hj : j < i), ¬ o2[j].2 < best o1 o2[j].1) : dearN o1 o2 = some i := by
  unfold dearN
  rw [List.findIdx?_eq_some_iff_getElem]
  exact ⟨hi, decide_eq_true h, fun j hj => by simpa using hb j hj⟩
theorem dear_no {o1 o2 : List (List Nat × Nat)} (hb : ∀ j (hj : j < o2.length), ¬ o2[j].2 < best o1 o2[j].1) : dearN o1 o2 = none := dear_none.mpr fun o ho => by
  obtain ⟨j, hj, rfl⟩ := List.mem_iff_getElem.mp ho
  have := hb j hj
  omega
def sp__law_dearer : DSp := fun as Q _ => ∃ (k : Nat) (o1 o2 : List (List Nat × Nat)), as = [.fr (.lst (o1.map oD)), .fr (.lst (o2.map oD))] ∧ k ≤ 4 ∧ OkOffs k o1 ∧ OkOffs k o2 ∧ Q (optD (dearN o1 o2)) as
theorem q__law_dearer (as Q') (h : sp__law_dearer as Q' X0) : Goal as Q' (ds__law_dearer sp__law_union) N__law_dearer := by
  obtain ⟨k, o1, o2, rfl, hk, ho1, ho2, hQ⟩ := h
  have hl2 := ho2.len
  simp [Goal, ds__law_dearer, N__law_dearer]
  refine lc_map oD (fun o => nT o.1) rfl (by simp; exact sz (by omega)) (fun o ho Kn h => ?_) ?_
  · simp
    simpa using h
  simp
  refine ⟨k, o1, o2.map (·.1), by simp, hk, ho1, by simp; omega, fun t ht => ?_, ?_⟩
  · obtain ⟨o, ho, rfl⟩ := List.mem_map.mp ht
    exact (ho2.all o ho).topOk
  simp
  refine ⟨by omega, ?_⟩
  refine for_idx (fun i e => ∃ s4, Fre s4 ∧ e = [.fr (.lst (o1.map oD)), .fr (.lst (o2.map oD)), .fr (pricesD o1 (unionB (o2.map (·.1)))), .no, s4] ∧ ∀ j (hj : j < i) (h2 : j < o2.length), ¬ o2[j].2 < best o1 o2[j].1) ⟨.no, by simp, rfl, fun j hj => by omega⟩ ?_ ?_
  · rintro i hi e ⟨s4, h4, rfl, hb⟩ Kn hK
    rw [rangeD_length] at hi
    rw [show (rangeD 0 o2.length)[i]'(by rw [rangeD_length]; exact hi) = .int (i : Int) by simp [rangeD]]
    have hin : o2[i].1 ∈ unionB (o2.map (·.1)) := mem_union (List.mem_map.mpr ⟨o2[i], List.getElem_mem _, rfl⟩) (in_box _)
    simp [h4]
    rw [at_n hi]
    simp
    rw [valD_in (f := fun x => nD (best o1 x)) hin]
    simp
    split
    · rename_i hlt
      rw [dear_some hi (by omega) fun j hj => hb j hj (by omega)] at hQ
      exact hQ
    · rename_i hlt
      refine hK _ ⟨.fr (.int i), by simp, rfl, fun j hj h2 => ?_⟩
      by_cases z : j = i
      · subst z; omega
      · exact hb j (by omega) h2
  · rintro e ⟨s4, h4, rfl, hb⟩
    rw [rangeD_length] at hb
    rw [dear_no fun j hj => hb j hj hj] at hQ
    simpa [optD] using hQ
def sp_box_prices : DSp := fun as Q _ => ∃ (k : Nat) (ws : List Str) (os : List (List Nat × Nat)) (top : List Nat), as = [.fr (bookD ws os), .fr (nT top)] ∧ OkBook k ws os ∧ OkTop k top ∧ Q (.tup (worthsD os top)) as
theorem q_box_prices (as Q') (h : sp_box_prices as Q' X0) : Goal as Q' (ds_box_prices sp_Table_init) N_box_prices := by
  obtain ⟨k, ws, os, top, rfl, hb, ht, hQ⟩ := h
  simp [Goal, ds_box_prices, N_box_prices]
  refine ⟨k, ws, os, top, rfl, hb, ht, ?_⟩
  simp
  simpa using hQ
def sp_last_needed : DSp := fun as Q _ => ∃ ns : List Nat, as = [.fr (.tup (ns.map nD))] ∧ 2 ≤ ns.length ∧ ns.length ≤ 2000 ∧ Q (.bl (lastN ns)) as
theorem last_true {ns : List Nat} (h2 : 2 ≤ ns.length) (h : ∀ i, 1 ≤ i → i < ns.length - 1 → ns.getD (ns.length - 1) 0 < ns.getD i 0 + ns.getD (ns.length - 1 - i) 0) : lastN ns = true := by
  unfold lastN
  rw [decide_eq_true h2, Bool.true_and, List.all_eq_true]
  intro i hi
  by_cases z : i = 0
  · simp [z]
  · rw [decide_eq_true (h i (by omega) (by simpa using hi))]
    simp
theorem last_false {ns : List Nat} {i : Nat} (h1 : 1 ≤ i) (hi : i < ns.length - 1) (h : ¬ ns.getD (ns.length - 1) 0 < ns.getD i 0 + ns.getD (ns.length - 1 - i) 0) : lastN ns = false := by
  unfold lastN
  rw [show ((List.range (ns.length - 1)).all fun i => decide (i = 0) || decide (ns.getD (ns.length - 1) 0 < ns.getD i 0 + ns.getD (ns.length - 1 - i) 0)) = false from ?_, Bool.and_false]
  rw [List.all_eq_false]
  exact ⟨i, by simpa using hi, by rw [decide_eq_false (by omega), decide_eq_false h]; simp⟩
theorem q_last_needed (as Q') (h : sp_last_needed as Q' X0) : Goal as Q' ds_last_needed N_last_needed := by
  obtain ⟨ns, rfl, h2, hl, hQ⟩ := h
  simp [Goal, ds_last_needed, N_last_needed]
  rw [if_neg (by omega)]
  refine ⟨by omega, ?_⟩
  have hlast : ((ns.length : Int) - 1) = ((ns.length - 1 : Nat) : Int) := by omega
  have hcnt : (((ns.length : Int) - 1) - 1).toNat = ns.length - 2 := by omega
  have hrl : ∀ (a : Int) (n : Nat), (rangeD a n).length = n := fun a n => by simp [rangeD]
  rw [show ns.length - 1 - 1 = ns.length - 2 by omega]
  refine for_idx (fun i e => ∃ s2, Fre s2 ∧ e = [.fr (.tup (ns.map nD)), .fr (.int ((ns.length : Int) - 1)), s2] ∧ ∀ j, 1 ≤ j → j < i + 1 → ns.getD (ns.length - 1) 0 < ns.getD j 0 + ns.getD (ns.length - 1 - j) 0) ⟨.no, by simp, rfl, fun j h1 h2 => by omega⟩ ?_ ?_
  · rintro i hi e ⟨s2, hs, rfl, hb⟩ Kn hK
    rw [hrl] at hi
    rw [show (rangeD 1 (ns.length - 2))[i]'(by rw [hrl]; exact hi) = .int ((i + 1 : Nat) : Int) by simp [rangeD]; omega]
    have i1 : i + 1 < ns.length := by omega
    have i2 : ns.length - 1 - (i + 1) < ns.length := by omega
    have i3 : ns.length - 1 < ns.length := by omega
    have a1 : atI (ns.map nD) ((i + 1 : Nat) : Int) = some (nD ns[i + 1]) := at_n i1
    have a2 : atI (ns.map nD) ((ns.length : Int) - 1 - ((i + 1 : Nat) : Int)) = some (nD ns[ns.length - 1 - (i + 1)]) := by
      rw [show ((ns.length : Int) - 1 - ((i + 1 : Nat) : Int)) = ((ns.length - 1 - (i + 1) : Nat) : Int) by omega]
      exact at_n i2
    have a3 : atI (ns.map nD) ((ns.length : Int) - 1) = some (nD ns[ns.length - 1]) := by rw [hlast]; exact at_n i3
    have g1 : ns.getD (i + 1) 0 = ns[i + 1] := by simp [i1]
    have g2 : ns.getD (ns.length - 1 - (i + 1)) 0 = ns[ns.length - 1 - (i + 1)] := by simp [i2]
    have g3 : ns.getD (ns.length - 1) 0 = ns[ns.length - 1] := by simp [i3]
    generalize hx : ns[i + 1] = x at a1 g1
    generalize hy : ns[ns.length - 1 - (i + 1)] = y at a2 g2
    generalize hz : ns[ns.length - 1] = z at a3 g3
    generalize ((i + 1 : Nat) : Int) = ii at a1 a2
    simp [hs]
    rw [a1]
    simp
    rw [a2]
    simp
    rw [a3]
    simp
    split
    · rename_i hle
      rw [last_false (i := i + 1) (by omega) (by omega) (by rw [g1, g2, g3]; omega)] at hQ
      simpa using hQ
    · rename_i hle
      refine hK _ ⟨.fr (.int ii), by simp, by simp, fun j h1 h3 => ?_⟩
      by_cases q : j = i + 1
      · subst q; rw [g1, g2, g3]; omega
      · exact hb j h1 (by omega)
  · rintro e ⟨s2, hs, rfl, hb⟩
    rw [hrl] at hb
    rw [last_true h2 fun i h1 h3 => hb i h1 (by omega)] at hQ
    simpa using hQ
def sp_Book_bundles : DSp := fun as Q _ => ∃ (ws : List Str) (os : List (List Nat × Nat)), as = [.fr (bookD ws os)] ∧ Q (.tup (os.map fun o => nT o.1)) as
theorem q_Book_bundles (as Q') (h : sp_Book_bundles as Q' X0) : Goal as Q' ds_Book_bundles N_Book_bundles := by
  obtain ⟨ws, os, rfl, hQ⟩ := h
  simp [Goal, ds_Book_bundles, N_Book_bundles]
  simpa using hQ
theorem code_ltB {B : Int} : ∀ {x y : List Nat}, x.length = y.length → TS.Bd B (x.map fun n : Nat => (n : Int)) → TS.Bd B (y.map fun n : Nat => (n : Int)) → x ≠ y → TS.code B (x.map fun n : Nat => (n : Int)) ≤ TS.code B (y.map fun n : Nat => (n : Int)) → ltB x y = true
  | [], [], _, _, _, h, _ => (h rfl).elim
  | [], _ :: _, h, _, _, _, _ => by simp at h
  | _ :: _, [], h, _, _, _, _ => by simp at h
  | a :: x, b :: y, hl, hx, hy, hne, hc => by
    simp only [List.map_cons] at hx hy hc
    simp only [ltB, Bool.or_eq_true, Bool.and_eq_true, decide_eq_true_eq]
    have hl2 : x.length = y.length := by simpa using hl
    rcases Nat.lt_trichotomy a b with z | z | z
    · exact .inl z
    · subst z
      refine .inr ⟨rfl, code_ltB hl2 hx.tail hy.tail (fun h => hne (by rw [h])) ?_⟩
      have := TS.code_same (B := B) (d := (a : Int)) (r := y.map fun n : Nat => (n : Int)) (q := x.map fun n : Nat => (n : Int)) (by simp [hl2])
      apply Int.not_lt.mp
      intro h
      have := this.mpr h
      omega
    · have := TS.code_lt (B := B) (d := (b : Int)) (e := (a : Int)) (r := y.map fun n : Nat => (n : Int)) (q := x.map fun n : Nat => (n : Int)) (by simp [hl2]) hy.tail hx.tail (by omega)
      omega
def nI (x : List Nat) : List Int := x.map fun n : Nat => (n : Int)
theorem nI_inj {x y : List Nat} (h : nI x = nI y) : x = y := by
  have h2 := congrArg (List.map Int.toNat) h
  unfold nI at h2
  simpa [Function.comp_def] using h2
theorem rows_nT {α : Type} (f : α → List Nat) (xs : List α) : D.rows (xs.map fun o => nT (f o)) = some (xs.map fun o => nI (f o)) := by
  have e : (xs.map fun o => nT (f o)) = (xs.map fun o => nI (f o)).map rowD := by
    rw [List.map_map]
    exact List.map_congr_left fun o _ => by simp [rowD, nI, nT, nD, Function.comp_def]
  rw [e, D.rows_map]
theorem sort_ok {k : Nat} {bs : List (List Nat)} {Q1 : D → Prop} (hk : 1 ≤ k) (hn : bs.length < 64) (hb : ∀ b ∈ bs, b.length = k ∧ ∀ x ∈ b, x ≤ 8) (h : Q1 (.lst ((sortB bs).map nT))) : SortOk Q1 (bs.map nI) := by
  refine ⟨by simpa using hn, k, 9, hk, fun r hr => ?_, fun L hnd hm hp => ?_⟩
  · obtain ⟨b, hb', rfl⟩ := List.mem_map.mp hr
    refine ⟨by simp [nI, (hb b hb').1], fun m hm => ?_⟩
    obtain ⟨x, hx, rfl⟩ := List.mem_map.mp hm
    have := (hb b hb').2 x hx
    omega
  · have bd : ∀ b ∈ bs, TS.Bd 9 (b.map fun n : Nat => (n : Int)) := fun b hb' m hm => by
      obtain ⟨x, hx, rfl⟩ := List.mem_map.mp hm
      have := (hb b hb').2 x hx
      omega
    obtain ⟨M, rfl⟩ : ∃ M : List (List Nat), L = M.map nI := by
      refine ⟨L.map (List.map Int.toNat), ?_⟩
      rw [List.map_map]
      refine (List.map_id L).symm.trans (List.map_congr_left fun r hr => ?_)
      obtain ⟨b, hb', rfl⟩ := List.mem_map.mp ((hm r).mp hr)
      simp [nI, Function.comp_def]
    have hmem : ∀ z, z ∈ M ↔ z ∈ bs := fun z => by
      constructor
      · intro hz
        obtain ⟨b, hb', e⟩ := List.mem_map.mp ((hm (nI z)).mp (List.mem_map.mpr ⟨z, hz, rfl⟩))
        rwa [← nI_inj e]
      · intro hz
        obtain ⟨b, hb', e⟩ := List.mem_map.mp ((hm (nI z)).mpr (List.mem_map.mpr ⟨z, hz, rfl⟩))
        rwa [← nI_inj e]
    have e : M = sortB bs := by
      refine pw_uniq ?_ (sortB_pw fun b hb' => (hb b hb').1) fun z => by rw [hmem, mem_sortB]
      rw [List.pairwise_map] at hp
      have hnd2 : M.Nodup := by
        rw [List.nodup_iff_pairwise_ne, List.pairwise_map] at hnd
        exact hnd.imp fun h e => h (by rw [e])
      have hand := hp.and hnd2
      refine List.Pairwise.imp_of_mem (fun {x y} hx hy h => ?_) hand
      have hx' := (hmem x).mp hx
      have hy' := (hmem y).mp hy
      exact code_ltB (by rw [(hb x hx').1, (hb y hy').1]) (bd x hx') (bd y hy') h.2 h.1
    subst e
    have e2 : ((sortB bs).map nI).map rowD = (sortB bs).map nT := by
      rw [List.map_map]
      exact List.map_congr_left fun x _ => by simp [rowD, nI, nT, nD, Function.comp_def]
    rw [e2]
    exact h
def sp_least_offers : DSp := fun as Q _ => ∃ (k : Nat) (ws : List Str) (os : List (List Nat × Nat)), as = [.fr (bookD ws os)] ∧ OkBook k ws os ∧ Q (.tup ((leastN os).map oD)) as
theorem q_least_offers (as Q') (h : sp_least_offers as Q' X0) : Goal as Q' (ds_least_offers sp_Book_bundles sp_box_prices sp_last_needed) N_least_offers := by
  obtain ⟨k, ws, os, rfl, hb, hQ⟩ := h
  have hk1 := hb.ws.one
  have hl := hb.os.len
  have hbm : ∀ b ∈ os.map (·.1), b.length = k ∧ (∀ x ∈ b, x ≤ 8) ∧ OkTop k b ∧ 1 ≤ b.sum := fun b hb' => by
    obtain ⟨o, ho, rfl⟩ := List.mem_map.mp hb'
    have q := hb.os.all o ho
    exact ⟨q.len, q.le, q.topOk, q.one⟩
  have hsl := sortB_len (l := os.map (·.1))
  simp only [List.length_map] at hsl
  simp -implicitDefEqProofs [Goal, ds_least_offers, N_least_offers]
  refine ⟨ws, os, rfl, ?_⟩
  simp -implicitDefEqProofs
  have er := rows_nT (fun o : List Nat × Nat => o.1) os
  simp only [nT_eq] at er
  rw [er]
  have e3 : (os.map fun o : List Nat × Nat => nI o.1) = (os.map (·.1)).map nI := by rw [List.map_map]; rfl
  rw [e3]
  refine sort_ok hk1 (by simp; omega) (fun b h => ⟨(hbm b h).1, (hbm b h).2.1⟩) ?_
  simp -implicitDefEqProofs only [s_items]
  refine for_rule nT (fun rest e => ∃ (done : List (List Nat)) (s2 s3 : Sl), Fre s2 ∧ Fre s3 ∧ done ++ rest = sortB (os.map (·.1)) ∧ e = [.fr (bookD ws os), .ow false (.lst ((((done.filter (need os)).map fun b => (b, best os b))).map oD)), s2, s3]) ⟨[], .no, .no, by simp, by simp, rfl, rfl⟩ ?_ ?_
  · rintro b rest e ⟨done, s2, s3, h2, h3, hd, rfl⟩ Kn hK
    have hbs : b ∈ os.map (·.1) := mem_sortB.mp (by rw [← hd]; simp)
    obtain ⟨bl, b8, bt, b1⟩ := hbm b hbs
    have hvl : (boxN b).length = vol b := row_le
    have hv2 := vol_two b1
    have hv := bt.vol
    have hdl : done.length ≤ 10 := by
      have := congrArg List.length hd
      simp at this
      omega
    simp -implicitDefEqProofs [h2]
    refine ⟨k, ws, os, b, rfl, hb, bt, ?_⟩
    simp -implicitDefEqProofs [h3]
    refine ⟨(boxN b).map (best os), by simp [worthsD, nD, Function.comp_def], by simp; omega, by simp; omega, ?_⟩
    have en : lastN ((boxN b).map (best os)) = need os b := rfl
    rw [en]
    have hlast : atI ((boxN b).map fun x => nD (best os x)) (-1) = some (nD (best os b)) := by
      rw [at_neg1 (by simp; omega)]
      have h5 := box_get (top := b) (x := b) rfl (fits_refl _)
      rw [← boxN_eq, spot_top] at h5
      obtain ⟨h6, h7⟩ := List.getElem?_eq_some_iff.mp h5
      simp only [List.length_map, hvl, List.getElem_map, h7]
    cases hn : need os b with
    | true =>
      have h9 := hK _ ⟨done ++ [b], .fr (nT b), .fr (.tup (worthsD os b)), by simp, by simp, by simp [hd], rfl⟩
      rw [List.filter_append, List.filter_cons, hn, if_pos rfl, List.filter_nil, List.map_append, List.map_append] at h9
      simp -implicitDefEqProofs
      rw [hlast]
      refine ⟨?_, ?_⟩
      · have := List.length_filter_le (need os) done
        exact sz (by omega)
      · simpa using h9
    | false =>
      have h9 := hK _ ⟨done ++ [b], .fr (nT b), .fr (.tup (worthsD os b)), by simp, by simp, by simp [hd], rfl⟩
      rw [List.filter_append, List.filter_cons, hn, if_neg (by simp), List.filter_nil, List.append_nil] at h9
      simp -implicitDefEqProofs
      simpa using h9
  · rintro e ⟨done, s2, s3, h2, h3, hd, rfl⟩
    have hd : done = sortB (os.map (·.1)) := by simpa using hd
    subst hd
    simp -implicitDefEqProofs
    simpa [leastN] using hQ
end K77

set_option Elab.async false
set_option linter.all false
set_option maxRecDepth 100000
set_option maxHeartbeats 8000000
namespace K77
open PySem PySem.Spec PyProof.Rows L2 DL PM
/-! two markets compared -/
theorem isNon_opt {a : Option Nat} : isNon (optD a) = a.isNone := by cases a <;> rfl
def Two (as : DEnv) (k1 k2 : Nat) (ws1 ws2 : List Str) (os1 os2 : List (List Nat × Nat)) : Prop := as = [.fr (bookD ws1 os1), .fr (bookD ws2 os2)] ∧ OkBook k1 ws1 os1 ∧ OkBook k2 ws2 os2
--@def check_alike 60688d47
def sp_check_alike : DSp := fun as Q Ē => ∃ (k1 k2 : Nat) (ws1 ws2 : List Str) (os1 os2 : List (List Nat × Nat)), as = [.fr (bookD ws1 os1), .fr (bookD ws2 os2)] ∧ OkWords k1 ws1 ∧ OkWords k2 ws2 ∧ (ws1 = ws2 → Q .non as) ∧ (ws1 ≠ ws2 → Ē as "Unlike" [])
--@def check_alike 60688d47
theorem q_check_alike (as Q' Ē) (h : sp_check_alike as Q' Ē) : GoalX as Q' Ē ds_check_alike N_check_alike := by
  obtain ⟨k1, k2, ws1, ws2, os1, os2, rfl, hw1, hw2, hQ, hE⟩ := h
  simp -implicitDefEqProofs [GoalX, ds_check_alike, N_check_alike]
  rw [f_neWds hw1 hw2]
  simp -implicitDefEqProofs
  split
  · rename_i h
    exact hQ h
  · rename_i h
    exact hE h
--@def dearer_place 147aacfd
def sp_dearer_place : DSp := fun as Q Ē => ∃ (k1 k2 : Nat) (ws1 ws2 : List Str) (os1 os2 : List (List Nat × Nat)), as = [.fr (bookD ws1 os1), .fr (bookD ws2 os2)] ∧ OkBook k1 ws1 os1 ∧ OkBook k2 ws2 os2 ∧ (ws1 = ws2 → Q (optD (dearN os1 os2)) as) ∧ (ws1 ≠ ws2 → Ē as "Unlike" [])
--@def dearer_place 147aacfd
theorem q_dearer_place (as Q' Ē) (h : sp_dearer_place as Q' Ē) : GoalX as Q' Ē (ds_dearer_place sp_check_alike sp_cheapest_price) N_dearer_place := by
  obtain ⟨k1, k2, ws1, ws2, os1, os2, rfl, hb1, hb2, hQ, hE⟩ := h
  simp -implicitDefEqProofs [GoalX, ds_dearer_place, N_dearer_place]
  refine ⟨k1, k2, ws1, ws2, os1, os2, rfl, hb1.ws, hb2.ws, fun e => ?_, fun n => by simpa using hE n⟩
  have hQ := hQ e
  clear hE
  subst e
  have hk : k2 = k1 := by rw [← hb1.ws.len, ← hb2.ws.len]
  subst hk
  simp -implicitDefEqProofs
  rw [enum_map]
  refine for_rule _ (fun rest e => ∃ (i : Nat) (s2 s3 s4 : Sl), Fre s2 ∧ Fre s3 ∧ Fre s4 ∧ rest = os2.zipIdx.drop i ∧ (∀ j, j < i → ∀ (h2 : j < os2.length), ¬ os2[j].2 < best os1 os2[j].1) ∧ e = [.fr (bookD ws1 os1), .fr (bookD ws1 os2), s2, s3, s4]) ⟨0, .no, .no, .no, by simp, by simp, by simp, rfl, fun j h => by omega, rfl⟩ ?_ ?_
  · rintro p rest e ⟨i, s2, s3, s4, h2, h3, h4, hr, hb, rfl⟩ Kn hK
    have hlt : i < os2.length := by
      by_cases z : i < os2.length
      · exact z
      · rw [List.drop_eq_nil_of_le (by simp; omega)] at hr
        cases hr
    rw [List.drop_eq_getElem_cons (by simpa using hlt)] at hr
    injection hr with hr1 hr2
    rw [List.getElem_zipIdx] at hr1
    simp at hr1
    subst hr1
    have hoo := hb2.os.all _ (List.getElem_mem hlt)
    simp -implicitDefEqProofs [h2, h3, h4]
    refine ⟨k2, ws1, os1, os2[i].1, rfl, hb1, hoo.topOk, ?_⟩
    simp -implicitDefEqProofs
    split
    · rename_i hc
      rw [dear_some hlt (by omega) fun j hj => hb j hj (by omega)] at hQ
      exact hQ
    · rename_i hc
      refine hK _ ⟨i + 1, .fr (.int i), .fr (nT os2[i].1), .fr (nD os2[i].2), by simp, by simp, by simp, hr2, fun j hj hj2 => ?_, rfl⟩
      by_cases z : j = i
      · subst z; omega
      · exact hb j (by omega) hj2
  · rintro e ⟨i, s2, s3, s4, h2, h3, h4, hr, hb, rfl⟩
    have hi : os2.length ≤ i := by
      have := congrArg List.length hr
      simp at this
      omega
    rw [dear_no fun j hj => hb j (by omega) hj] at hQ
    simpa [optD] using hQ
--@def is_never_dearer 45696fca
def sp_is_never_dearer : DSp := fun as Q Ē => ∃ (k1 k2 : Nat) (ws1 ws2 : List Str) (os1 os2 : List (List Nat × Nat)), as = [.fr (bookD ws1 os1), .fr (bookD ws2 os2)] ∧ OkBook k1 ws1 os1 ∧ OkBook k2 ws2 os2 ∧ (ws1 = ws2 → Q (.bl (dearN os1 os2).isNone) as) ∧ (ws1 ≠ ws2 → Ē as "Unlike" [])
--@def is_never_dearer 45696fca
theorem q_is_never_dearer (as Q' Ē) (h : sp_is_never_dearer as Q' Ē) : GoalX as Q' Ē (ds_is_never_dearer sp_dearer_place) N_is_never_dearer := by
  obtain ⟨k1, k2, ws1, ws2, os1, os2, rfl, hb1, hb2, hQ, hE⟩ := h
  simp -implicitDefEqProofs [GoalX, ds_is_never_dearer, N_is_never_dearer]
  refine ⟨k1, k2, ws1, ws2, os1, os2, rfl, hb1, hb2, fun e => ?_, fun n => by simpa using hE n⟩
  have h := hQ e
  rw [← isNon_opt] at h
  exact h
--@end
def wordC (a b : Option Nat) : Str := if a.isNone = true then (if b.isNone = true then "same" else "less") else if b.isNone = true then "more" else "apart"
--@def compare_word 4bac7edb
def sp_compare_word : DSp := fun as Q Ē => ∃ (k1 k2 : Nat) (ws1 ws2 : List Str) (os1 os2 : List (List Nat × Nat)), as = [.fr (bookD ws1 os1), .fr (bookD ws2 os2)] ∧ OkBook k1 ws1 os1 ∧ OkBook k2 ws2 os2 ∧ (ws1 = ws2 → Q (.str (wordC (dearN os1 os2) (dearN os2 os1))) as) ∧ (ws1 ≠ ws2 → Ē as "Unlike" [])
--@def compare_word 4bac7edb
theorem q_compare_word (as Q' Ē) (h : sp_compare_word as Q' Ē) : GoalX as Q' Ē (ds_compare_word sp_is_never_dearer) N_compare_word := by
  obtain ⟨k1, k2, ws1, ws2, os1, os2, rfl, hb1, hb2, hQ, hE⟩ := h
  simp -implicitDefEqProofs [GoalX, ds_compare_word, N_compare_word]
  refine ⟨k1, k2, ws1, ws2, os1, os2, rfl, hb1, hb2, fun e => ?_, fun n => by simpa using hE n⟩
  have hQ := hQ e
  clear hE
  simp -implicitDefEqProofs
  refine ⟨k2, k1, ws2, ws1, os2, os1, rfl, hb2, hb1, fun _ => ?_, fun n => (n e.symm).elim⟩
  generalize dearN os1 os2 = a at hQ ⊢
  generalize dearN os2 os1 = b at hQ ⊢
  cases a <;> cases b <;> simpa [wordC] using hQ
--@def same_prices 1622fc1c
def sp_same_prices : DSp := fun as Q Ē => ∃ (k1 k2 : Nat) (ws1 ws2 : List Str) (os1 os2 : List (List Nat × Nat)), as = [.fr (bookD ws1 os1), .fr (bookD ws2 os2)] ∧ OkBook k1 ws1 os1 ∧ OkBook k2 ws2 os2 ∧ (ws1 = ws2 → Q (.bl (decide (leastN os1 = leastN os2))) as) ∧ (ws1 ≠ ws2 → Ē as "Unlike" [])
--@def same_prices 1622fc1c
theorem q_same_prices (as Q' Ē) (h : sp_same_prices as Q' Ē) : GoalX as Q' Ē (ds_same_prices sp_least_offers) N_same_prices := by
  obtain ⟨k1, k2, ws1, ws2, os1, os2, rfl, hb1, hb2, hQ, hE⟩ := h
  simp -implicitDefEqProofs [GoalX, ds_same_prices, N_same_prices]
  rw [f_neWds hb1.ws hb2.ws]
  simp -implicitDefEqProofs
  split
  · rename_i e
    refine ⟨k1, ws1, os1, rfl, hb1, ?_⟩
    simp -implicitDefEqProofs
    refine ⟨k2, ws2, os2, rfl, hb2, ?_⟩
    show fEq (.tup ((leastN os1).map oD)) (.tup ((leastN os2).map oD)) _
    rw [f_eqOffs]
    exact hQ e
  · rename_i n
    exact hE n
--@end
theorem least_ok {k : Nat} {os : List (List Nat × Nat)} (h : OkOffs k os) : OkOffs k (leastN os) := by
  refine ⟨Nat.le_trans least_len h.len, fun o ho => ?_, fun j hj => ?_⟩
  · obtain ⟨⟨p, hp, e⟩, _, e2⟩ := least_mem ho
    have q := h.all p hp
    have hbd := best_bundle h.pos hp
    exact ⟨by rw [← e]; exact q.len, by rw [← e]; exact q.le, by rw [← e]; exact q.one, by rw [← e]; exact q.top, by rw [e2, ← e]; exact Nat.le_trans hbd q.pr⟩
  · exact least_ones h.pos h.one j hj
--@def least_list 17f2d23e
def sp_least_list : DSp := fun as Q _ => ∃ (k : Nat) (ws : List Str) (os : List (List Nat × Nat)), as = [.fr (bookD ws os)] ∧ OkBook k ws os ∧ Q (bookD ws (leastN os)) as
--@def least_list 17f2d23e
theorem q_least_list (as Q') (h : sp_least_list as Q' X0) : Goal as Q' (ds_least_list sp_Book_init sp_least_offers) N_least_list := by
  obtain ⟨k, ws, os, rfl, hb, hQ⟩ := h
  simp -implicitDefEqProofs [Goal, ds_least_list, N_least_list]
  refine ⟨k, ws, os, rfl, hb, ?_⟩
  simp -implicitDefEqProofs
  refine ⟨k, ws, leastN os, _, _, rfl, sqT, sqT, hb.ws, least_ok hb.os, ?_⟩
  simp -implicitDefEqProofs
  simpa using hQ
--@def Book_eq c90e68ca
def sp_Book_eq : DSp := fun as Q _ => ∃ (k1 k2 : Nat) (ws1 ws2 : List Str) (os1 os2 : List (List Nat × Nat)), as = [.fr (bookD ws1 os1), .fr (bookD ws2 os2)] ∧ OkWords k1 ws1 ∧ OkWords k2 ws2 ∧ Q (.bl (decide (ws1 = ws2) && decide (os1 = os2))) as
--@def Book_eq c90e68ca
theorem q_Book_eq (as Q') (h : sp_Book_eq as Q' X0) : Goal as Q' ds_Book_eq N_Book_eq := by
  obtain ⟨k1, k2, ws1, ws2, os1, os2, rfl, hw1, hw2, hQ⟩ := h
  simp -implicitDefEqProofs [Goal, ds_Book_eq, N_Book_eq]
  rw [f_eqWds hw1 hw2]
  by_cases e : ws1 = ws2
  · simp -implicitDefEqProofs [e] at hQ ⊢
    rw [f_eqOffs]
    simpa using hQ
  · simp -implicitDefEqProofs [e] at hQ ⊢
    simpa using hQ
/-- the names that are marked -/
theorem lc_pick {e : DEnv} (bs : List Bool) (ns : List Str) {i j l : Nat} {P : List D → DEnv → Prop} (h1 : e[j]? = some (.fr (.lst (bs.map D.bl)))) (h2 : e[l]? = some (.fr (.lst (ns.map D.str)))) (hi : e[i]? = some .no) (hj : i ≠ j) (hil : i ≠ l) (hl : bs.length = ns.length) (hs : bs.length ≤ 1000)
    (h : P (((bs.zip ns).filter (·.1)).map fun p => D.str p.2) e) : lcGo (gVar i) (dTest (dIxV j (dVar i))) (dIxV l (dVar i)) [i] P (rangeD 0 bs.length) [] e := by
  rw [DL.range_map]
  refine lc_rule (fun i : Nat => D.int i) (fun rest acc e' => e' = e ∧ ∃ m, rest = (List.range bs.length).drop m ∧ acc = (((bs.zip ns).take m).filter (·.1)).map fun p => D.str p.2) ⟨rfl, 0, rfl, rfl⟩ ?_ ?_
  · rintro x rest acc e' ⟨rfl, m, hr, rfl⟩ Kn hK
    have hlt : m < bs.length := by
      by_cases z : m < bs.length
      · exact z
      · rw [List.drop_eq_nil_of_le (by simp; omega)] at hr
        cases hr
    rw [List.drop_eq_getElem_cons (by simpa using hlt)] at hr
    injection hr with hx hr
    have hx : x = m := by rw [hx]; simp
    subst hx
    unfold gVar setF
    rw [hi]
    have g1 : (e'.set i (.fr (.int (x : Int))))[j]? = some (.fr (.lst (bs.map D.bl))) := by rw [List.getElem?_set_ne hj]; exact h1
    have g2 : (e'.set i (.fr (.int (x : Int))))[l]? = some (.fr (.lst (ns.map D.str))) := by rw [List.getElem?_set_ne hil]; exact h2
    have g3 : (e'.set i (.fr (.int (x : Int))))[i]? = some (.fr (.int (x : Int))) := List.getElem?_set_self (List.getElem?_eq_some_iff.mp hi).1
    have gw : wipeE [i] (e'.set i (.fr (.int (x : Int)))) = e' := set_no hi _
    have hz : (bs.zip ns)[x]? = some (bs[x], ns[x]'(by omega)) := by
      rw [List.getElem?_zip_eq_some]
      exact ⟨by simp [hlt], by simp [show x < ns.length by omega]⟩
    have h9 := hK ((((bs.zip ns).take (x + 1)).filter (·.1)).map fun p => D.str p.2) e' ⟨rfl, x + 1, hr, rfl⟩
    rw [List.take_add_one, hz] at h9
    have vv : ∀ Q : D → DEnv → Prop, dVar i X0 (e'.set i (.fr (.int (x : Int)))) Q = Q (.int (x : Int)) (e'.set i (.fr (.int (x : Int)))) := fun Q => by
      unfold dVar
      rw [g3]
    have iv : ∀ Q : D → DEnv → Prop, dIxV j (dVar i) X0 (e'.set i (.fr (.int (x : Int)))) Q = Q (.bl bs[x]) (e'.set i (.fr (.int (x : Int)))) := fun Q => by
      rw [s_ixV, g1]
      show dVar i X0 (e'.set i (.fr (.int (x : Int)))) _ = _
      rw [vv, f_ixL, at_n hlt]
    have nv : ∀ Q : D → DEnv → Prop, dIxV l (dVar i) X0 (e'.set i (.fr (.int (x : Int)))) Q = Q (.str (ns[x]'(by omega))) (e'.set i (.fr (.int (x : Int)))) := fun Q => by
      rw [s_ixV, g2]
      show dVar i X0 (e'.set i (.fr (.int (x : Int)))) _ = _
      rw [vv, f_ixL, at_n (show x < ns.length by omega)]
    show dTest (dIxV j (dVar i)) X0 (e'.set i (.fr (.int (x : Int)))) _
    unfold dTest
    rw [iv]
    show (if bs[x] = true then _ else _)
    have hlen : ((((bs.zip ns).take x).filter (·.1)).map fun p => D.str p.2).length < sizeLine := by
      have := List.length_filter_le (fun p : Bool × Str => p.1) ((bs.zip ns).take x)
      rw [List.length_map]
      rw [List.length_take] at this
      exact sz (by omega)
    cases hb : bs[x] with
    | true =>
      rw [hb] at h9
      rw [if_pos rfl, nv]
      refine ⟨hlen, ?_⟩
      rw [gw]
      rw [List.filter_append, List.map_append] at h9
      exact h9
    | false =>
      rw [hb] at h9
      rw [if_neg (by simp), gw]
      rw [List.filter_append, List.map_append] at h9
      simpa using h9
  · rintro acc e' ⟨rfl, m, hr, rfl⟩
    have hm : bs.length ≤ m := by
      have := congrArg List.length hr
      simp at this
      omega
    rw [List.take_of_length_le (by simp; omega)]
    exact h
--@def _law_named 57f9fb7c
def sp__law_named : HSp := fun c fs Q => c = "Unlike" ∧ fs = [] ∧ Q (.tup [.str "Unlike"])
--@def _law_named 57f9fb7c
theorem hcs__law_named (c : Str) (fs : List (Str × D)) (Q' : D → Prop) (h : sp__law_named c fs Q') : c ∈ xks := by
  obtain ⟨rfl, _⟩ := h
  decide
--@def _law_named 57f9fb7c
theorem q__law_named (a : Addr) (c : Str) (d : Option Addr) (fs : List (Str × D)) (Q' : D → Prop) (h : sp__law_named c fs Q') : ds__law_named a c d X0 { nx := fun _ => Q' .non, rt := fun r _ => Q' r } (.fr (.exc c fs d a) :: List.replicate (N__law_named.length - 1) .no) := by
  obtain ⟨rfl, rfl, hQ⟩ := h
  have hc : ([] : List Str).contains ("Unlike" : Str) = false := rfl
  have hc1 : (["Unlike"] : List Str).contains ("Unlike" : Str) = true := by decide
  simp -implicitDefEqProofs [ds__law_named, N__law_named, hc, hc1]
  refine ⟨by rw [sizeLine_eq]; decide, ?_⟩
  have key := fun (e : DEnv) P h1 h2 hi h => lc_pick (e := e) [false, false, false, false, false, false, false, false, false, false, false, false, true, false, false] [Str.ofString "BadKinds", Str.ofString "NoSingle", Str.ofString "BadOffer", Str.ofString "BadBasket", Str.ofString "BadPlace", Str.ofString "BadOrder", Str.ofString "BadBill", Str.ofString "BadPrices", Str.ofString "BadStock", Str.ofString "BadNumber", Str.ofString "BadText", Str.ofString "BadCoins", Str.ofString "Unlike", Str.ofString "NotOne", Str.ofString "NothingToUndo"] (i := 4) (j := 1) (l := 2) (P := P) h1 h2 hi (by decide) (by decide) rfl (by decide) h
  refine key _ _ ?_ ?_ ?_ ?_
  · rfl
  · rfl
  · rfl
  clear key
  simp -implicitDefEqProofs [hc, hc1]
  rw [show rangeD 0 1 = [D.int 0] from rfl]
  simp -implicitDefEqProofs [lcGo, hc, hc1]
  exact hQ
--@end
def toldD (way : Nat) (o1 o2 : List (List Nat × Nat)) : D := match way with
  | 0 => .lst [optD (dearN o1 o2)]
  | 1 => .lst [.bl (dearN o1 o2).isNone]
  | 2 => .lst [.str (wordC (dearN o1 o2) (dearN o2 o1))]
  | _ => .lst [.bl (decide (leastN o1 = leastN o2))]
--@def _law_told bb6868f4
def sp__law_told : DSp := fun as Q _ => ∃ (way k1 k2 : Nat) (ws1 ws2 : List Str) (os1 os2 : List (List Nat × Nat)), as = [.fr (.int way), .fr (bookD ws1 os1), .fr (bookD ws2 os2)] ∧ way < 4 ∧ OkBook k1 ws1 os1 ∧ OkBook k2 ws2 os2 ∧ (ws1 = ws2 → Q (toldD way os1 os2) as) ∧ (ws1 ≠ ws2 → Q (.tup [.str "Unlike"]) as)
--@def _law_told bb6868f4
theorem q__law_told (as Q') (h : sp__law_told as Q' X0) : Goal as Q' (ds__law_told sp_dearer_place sp_is_never_dearer sp_compare_word sp_same_prices sp__law_named) N__law_told := by
  obtain ⟨way, k1, k2, ws1, ws2, os1, os2, rfl, hw, hb1, hb2, hQ, hU⟩ := h
  simp -implicitDefEqProofs [Goal, ds__law_told, N__law_told]
  have hway : way = 0 ∨ way = 1 ∨ way = 2 ∨ way = 3 := by omega
  rcases hway with rfl | rfl | rfl | rfl
  · simp -implicitDefEqProofs
    exact ⟨k1, k2, ws1, ws2, os1, os2, rfl, hb1, hb2, fun e => hQ e, fun n => ⟨rfl, rfl, rfl, hU n⟩⟩
  · simp -implicitDefEqProofs
    exact ⟨k1, k2, ws1, ws2, os1, os2, rfl, hb1, hb2, fun e => hQ e, fun n => ⟨rfl, rfl, rfl, hU n⟩⟩
  · simp -implicitDefEqProofs
    exact ⟨k1, k2, ws1, ws2, os1, os2, rfl, hb1, hb2, fun e => hQ e, fun n => ⟨rfl, rfl, rfl, hU n⟩⟩
  · simp -implicitDefEqProofs
    exact ⟨k1, k2, ws1, ws2, os1, os2, rfl, hb1, hb2, fun e => hQ e, fun n => ⟨rfl, rfl, rfl, hU n⟩⟩
--@def _law_dues ff31c632
def sp__law_dues : DSp := fun as Q _ => ∃ a b : Option Nat, as = [.fr (optD a), .fr (optD b)] ∧ Q (.lst [.lst [optD a], .lst [.bl a.isNone], .lst [.str (wordC a b)], .lst [.bl (decide (wordC a b = "same"))]]) as
--@end
theorem wordC_ok (a b : Option Nat) : PyData.strOk (wordC a b) = true := by
  have h1 : PyData.strOk ("same" : Str) = true := by decide +kernel
  have h2 : PyData.strOk ("less" : Str) = true := by decide +kernel
  have h3 : PyData.strOk ("more" : Str) = true := by decide +kernel
  have h4 : PyData.strOk ("apart" : Str) = true := by decide +kernel
  unfold wordC
  split <;> split
  · exact h1
  · exact h2
  · exact h3
  · exact h4
--@def _law_dues ff31c632
theorem q__law_dues (as Q') (h : sp__law_dues as Q' X0) : Goal as Q' ds__law_dues N__law_dues := by
  obtain ⟨a, b, rfl, hQ⟩ := h
  have ok := wordC_ok a b
  have same : PyData.strOk ("same" : Str) = true := by decide +kernel
  cases a <;> cases b <;> simp -implicitDefEqProofs [Goal, ds__law_dues, N__law_dues, optD, wordC] at hQ ok ⊢ <;> (first | (rw [f_eqStr same same]; simpa using hQ) | (rw [f_eqStr ok same]; simpa using hQ))
--@end
end K77

set_option Elab.async false
set_option linter.all false
set_option maxRecDepth 100000
set_option maxHeartbeats 8000000
namespace K77
open PySem PySem.Spec PyProof.Rows L2 DL PM
theorem ok1' : ShOk2 sh1 := ⟨by decide, by decide, by decide⟩
theorem ok2' : ShOk2 sh2 := ⟨by decide, by decide, by decide⟩
def duesL (a b : Option Nat) : List D := [.lst [optD a], .lst [.bl a.isNone], .lst [.str (wordC a b)], .lst [.bl (decide (wordC a b = "same"))]]
theorem word_same (a b : Option Nat) : (wordC a b = "same") = (a = none ∧ b = none) := by
  have h2 : ("less" : Str) ≠ "same" := by decide +kernel
  have h3 : ("more" : Str) ≠ "same" := by decide +kernel
  have h4 : ("apart" : Str) ≠ "same" := by decide +kernel
  apply propext
  cases a <;> cases b <;> simp [wordC, h2, h3, h4]
theorem told_dues {k way : Nat} {o1 o2 : List (List Nat × Nat)} {a b : Option Nat} (h1 : OkOffs k o1) (h2 : OkOffs k o2) (hw : way < 4) (ha : dearN o1 o2 = a) (hb : dearN o2 o1 = b) : atI (duesL a b) (way : Int) = some (toldD way o1 o2) := by
  rw [at_lt (by omega) (by show _ < ((4 : Nat) : Int); omega), Int.toNat_natCast]
  have hs := same_iff h1.pos h1.one h2.pos h2.one
  subst ha hb
  have hway : way = 0 ∨ way = 1 ∨ way = 2 ∨ way = 3 := by omega
  rcases hway with rfl | rfl | rfl | rfl
  · rfl
  · rfl
  · rfl
  · show some (D.lst [.bl (decide (wordC _ _ = "same"))]) = some (D.lst [.bl (decide (leastN o1 = leastN o2))])
    congr 4
    exact decide_eq_decide.mpr (by rw [word_same]; exact hs.symm)
theorem okA_told (way : Nat) (o1 o2 : List (List Nat × Nat)) : okA 3 (toldD way o1 o2) = true := by
  unfold toldD
  have h1 : okA 2 (optD (dearN o1 o2)) = true := by cases dearN o1 o2 <;> rfl
  have h2 : okA 2 (.str (wordC (dearN o1 o2) (dearN o2 o1))) = true := wordC_ok _ _
  split
  · show (decide (1 ≤ 1000) && [optD (dearN o1 o2)].all (okA 2)) = true
    simp only [List.all_cons, List.all_nil, h1]; rfl
  · rfl
  · show (decide (1 ≤ 1000) && [D.str (wordC (dearN o1 o2) (dearN o2 o1))].all (okA 2)) = true
    simp only [List.all_cons, List.all_nil, h2]; rfl
  · rfl
theorem okA_unlike : okA 3 (.tup [.str "Unlike"]) = true := by decide +kernel
theorem dues_c (a b : Option Nat) {Q : D → DEnv → Prop} {Ē : XD} (h : Q (.lst (duesL a b)) [.fr (optD a), .fr (optD b)]) : sp__law_dues [.fr (optD a), .fr (optD b)] Q Ē := ⟨a, b, rfl, h⟩
theorem dear_from {k : Nat} {os : List (List Nat × Nat)} (h : OkOffs k os) : dearN (leastN os) os = none := dear_none.mpr fun o ho => by
  rw [least_best h.pos h.one (h.pos o ho).1]
  exact best_bundle h.pos ho
def sp_law : DSp := fun as Q _ => ∃ ns : List Int, as = [.fr (.scr (ns.map .int))] ∧ ns.length ≤ 63 ∧ Q (.bl true) as
theorem q_law (as Q') (h : sp_law as Q' X0) : Goal as Q' (ds_law sp__law_store sp__law_take sp__law_pair_of_books sp__law_stranger sp__law_dearer sp__law_made (sp__law_alike 3) sp__law_dues sp__law_told sp_least_list sp_Book_eq sp__law_parts) N_law := by
  obtain ⟨ns, rfl, hns, hQ⟩ := h
  unfold Goal ds_law
  refine seq_cut (fun e => ∃ o, StO o ∧ e = [.fr (.scr (ns.map .int)), .ow false o, .no, .no, .no, .no, .no, .no, .no, .no, .no, .no, .no, .no, .no, .no]) (fun K hK => ?_) ?_
  · simp -implicitDefEqProofs [N_law]
    refine ⟨by show noLs (ns.map D.int) = true; simp, ns, rfl, fun cs hcs => ?_⟩
    have hn : noLs (stL cs) = true := by
      show noLs (D.int 5 :: D.int 0 :: D.int 0 :: D.int 0 :: D.int 314159 :: cs.map .int) = true
      simp [noLs, noL]
    refine ⟨hn, ?_, hK _ ⟨_, stO_stL cs, rfl⟩⟩
    show (stL cs).length ∉ [(ns.map D.int).length]
    simp [stL]
    omega
  rintro e ⟨o, hst, rfl⟩
  refine seq_cut (fun e => e = [.fr (.scr (ns.map .int)), .ow false o, .ow false (.lst (sh1.map shD)), .no, .no, .no, .no, .no, .no, .no, .no, .no, .no, .no, .no, .no]) (fun K hK => ?_) ?_
  · simp -implicitDefEqProofs
    exact hK _ rfl
  rintro e rfl
  refine seq_cut (fun e => ∃ o shs, StO o ∧ ShOk2 shs ∧ e = [.fr (.scr (ns.map .int)), .ow false o, .ow false (.lst (shs.map shD)), .no, .no, .no, .no, .no, .no, .no, .no, .no, .no, .no, .no, .no]) (fun K hK => ?_) ?_
  · simp -implicitDefEqProofs
    refine take_c (n := 12) hst (by decide) fun r o' hst' hr => ?_
    simp -implicitDefEqProofs
    split
    · exact hK _ ⟨o', sh2, hst', ok2', rfl⟩
    · exact hK _ ⟨o', sh1, hst', ok1', rfl⟩
  clear hst
  rintro e ⟨o, shs, hst, hsh, rfl⟩
  refine seq_cut (fun e => ∃ o k ws os1 os2, StO o ∧ GoodWords k ws ∧ OkOffs k os1 ∧ OkOffs k os2 ∧ e = [.fr (.scr (ns.map .int)), .ow false o, .fr (.lst (shs.map shD)), .fr (.lst [.lst (ws.map .str), .lst (os1.map oD), .lst (os2.map oD)]), .no, .no, .no, .no, .no, .no, .no, .no, .no, .no, .no, .no]) (fun K hK => ?_) ?_
  · simp -implicitDefEqProofs
    refine pair_c hst hsh fun o' k ws os1 os2 hst' hw h1 h2 => ?_
    simp -implicitDefEqProofs
    exact hK _ ⟨o', k, ws, os1, os2, hst', hw, h1, h2, rfl⟩
  clear hst
  rintro e ⟨o, k, ws, os1, os2, hst, hw, ho1, ho2, rfl⟩
  refine seq_cut (fun e => ∃ o k3 ws3 os3, StO o ∧ OkBook k3 ws3 os3 ∧ ws3 ≠ ws ∧ e = [.fr (.scr (ns.map .int)), .ow false o, .fr (.lst (shs.map shD)), .fr (.lst [.lst (ws.map .str), .lst (os1.map oD), .lst (os2.map oD)]), .fr (.lst [.lst (ws3.map .str), .lst (os3.map oD)]), .no, .no, .no, .no, .no, .no, .no, .no, .no, .no, .no]) (fun K hK => ?_) ?_
  · simp -implicitDefEqProofs
    refine strange_c hst hw ho2 fun o' k3 ws3 os3 hst' hb3 hne => ?_
    simp -implicitDefEqProofs
    exact hK _ ⟨o', k3, ws3, os3, hst', hb3, hne, rfl⟩
  clear hst
  rintro e ⟨o, k3, ws3, os3, hst, hb3, hne, rfl⟩
  refine seq_cut (fun e => ∃ o x y z, x < 4 ∧ y < 4 ∧ z < 4 ∧ e = [.fr (.scr (ns.map .int)), .ow false o, .fr (.lst (shs.map shD)), .fr (.lst [.lst (ws.map .str), .lst (os1.map oD), .lst (os2.map oD)]), .fr (.lst [.lst (ws3.map .str), .lst (os3.map oD)]), .ow false (.lst [nD x, nD y, nD z]), .no, .no, .no, .no, .no, .no, .no, .no, .no, .no]) (fun K hK => ?_) ?_
  · simp -implicitDefEqProofs
    rw [show rangeD 0 3 = [D.int 0, D.int 1, D.int 2] from rfl]
    simp -implicitDefEqProofs [lcGo]
    refine take_c (n := 4) hst (by decide) fun x oa hsta hx => ?_
    simp -implicitDefEqProofs [lcGo]
    refine ⟨by rw [sizeLine_eq]; decide, ?_⟩
    refine take_c (n := 4) hsta (by decide) fun y ob hstb hy => ?_
    simp -implicitDefEqProofs [lcGo]
    refine ⟨by rw [sizeLine_eq]; decide, ?_⟩
    refine take_c (n := 4) hstb (by decide) fun z oc hstc hz => ?_
    simp -implicitDefEqProofs [lcGo]
    refine ⟨by rw [sizeLine_eq]; decide, ?_⟩
    exact hK _ ⟨oc, x, y, z, by omega, by omega, by omega, rfl⟩
  clear hst
  rintro e ⟨o, x, y, z, hx, hy, hz, rfl⟩
  have hk1 := hw.ok.one
  have hk4 := hw.ok.top
  have hb1 : OkBook k ws os1 := ⟨hw.ok, ho1⟩
  have hb2 : OkBook k ws os2 := ⟨hw.ok, ho2⟩
  let E (s7 s8 s9 s10 s11 s12 s13 s14 s15 : Sl) : DEnv := [.fr (.scr (ns.map .int)), .ow false o, .fr (.lst (shs.map shD)), .fr (.lst [.lst (ws.map .str), .lst (os1.map oD), .lst (os2.map oD)]), .fr (.lst [.lst (ws3.map .str), .lst (os3.map oD)]), .ow false (.lst [nD x, nD y, nD z]), .no, s7, s8, s9, s10, s11, s12, s13, s14, s15]
  refine seq_cut (fun e => e = E (.fr (optD (dearN os1 os2))) .no .no .no .no .no .no .no .no) (fun K hK => ?_) ?_
  · simp -implicitDefEqProofs
    refine ⟨k, os1, os2, rfl, hk4, ho1, ho2, ?_⟩
    simp -implicitDefEqProofs
    exact hK _ rfl
  rintro e rfl
  refine seq_cut (fun e => e = E (.fr (optD (dearN os1 os2))) (.fr (optD (dearN os2 os1))) .no .no .no .no .no .no .no) (fun K hK => ?_) ?_
  · simp -implicitDefEqProofs [E]
    refine ⟨k, os2, os1, rfl, hk4, ho2, ho1, ?_⟩
    simp -implicitDefEqProofs
    exact hK _ rfl
  rintro e rfl
  generalize ha : dearN os1 os2 = a
  generalize hb : dearN os2 os1 = b
  refine seq_cut (fun e => e = E (.fr (optD a)) (.fr (optD b)) (.fr (bookD ws os1)) .no .no .no .no .no .no) (fun K hK => ?_) ?_
  · simp -implicitDefEqProofs [E]
    refine ⟨k, ws, os1, rfl, hw.ok, ho1, ?_⟩
    simp -implicitDefEqProofs
    exact hK _ rfl
  rintro e rfl
  refine seq_cut (fun e => e = E (.fr (optD a)) (.fr (optD b)) (.fr (bookD ws os1)) (.fr (bookD ws os2)) .no .no .no .no .no) (fun K hK => ?_) ?_
  · simp -implicitDefEqProofs [E]
    refine ⟨k, ws, os2, rfl, hw.ok, ho2, ?_⟩
    simp -implicitDefEqProofs
    exact hK _ rfl
  rintro e rfl
  refine seq_cut (fun e => e = E (.fr (optD a)) (.fr (optD b)) (.fr (bookD ws os1)) (.fr (bookD ws os2)) (.fr (bookD ws3 os3)) .no .no .no .no) (fun K hK => ?_) ?_
  · simp -implicitDefEqProofs [E]
    refine ⟨k3, ws3, os3, rfl, hb3.ws, hb3.os, ?_⟩
    simp -implicitDefEqProofs
    exact hK _ rfl
  rintro e rfl
  refine seq_cut (fun e => ∃ s12, e = E (.fr (optD a)) (.fr (optD b)) (.fr (bookD ws os1)) (.fr (bookD ws os2)) (.fr (bookD ws3 os3)) s12 .no .no .no) (fun K hK => ?_) ?_
  · simp -implicitDefEqProofs [E]
    rw [show rangeD 0 4 = (List.range 4).map fun (i : Nat) => D.int i from rfl]
    refine for_rule _ (fun rest e => (∀ i ∈ rest, i < 4) ∧ ∃ s12, Fre s12 ∧ e = E (.fr (optD a)) (.fr (optD b)) (.fr (bookD ws os1)) (.fr (bookD ws os2)) (.fr (bookD ws3 os3)) s12 .no .no .no) ⟨by simp, .no, by simp, rfl⟩ ?_ ?_
    · rintro way rest e ⟨hr, s12, h12, rfl⟩ Kn hKn
      have hway := hr way (by simp)
      simp -implicitDefEqProofs [E, h12]
      refine ⟨way, k, k, ws, ws, os1, os2, rfl, hway, hb1, hb2, fun _ => ?_, fun n => (n rfl).elim⟩
      show sp__law_dues _ _ _
      refine dues_c a b ?_
      simp -implicitDefEqProofs
      rw [told_dues ho1 ho2 hway ha hb]
      refine ⟨_, rfl, okA_told way os1 os2, ?_⟩
      simp -implicitDefEqProofs
      refine ⟨way, k, k, ws, ws, os2, os1, rfl, hway, hb2, hb1, fun _ => ?_, fun n => (n rfl).elim⟩
      show sp__law_dues _ _ _
      refine dues_c b a ?_
      simp -implicitDefEqProofs
      rw [told_dues ho2 ho1 hway hb ha]
      refine ⟨_, rfl, okA_told way os2 os1, ?_⟩
      simp -implicitDefEqProofs
      refine ⟨way, k, k3, ws, ws3, os1, os3, rfl, hway, hb1, hb3, fun h => (hne h.symm).elim, fun _ => ?_⟩
      refine ⟨_, rfl, okA_unlike, ?_⟩
      simp -implicitDefEqProofs
      refine ⟨way, k3, k, ws3, ws, os3, os2, rfl, hway, hb3, hb2, fun h => (hne h).elim, fun _ => ?_⟩
      refine ⟨_, rfl, okA_unlike, ?_⟩
      simp -implicitDefEqProofs
      exact hKn _ ⟨fun i h => hr i (by simp [h]), .fr (.int way), by simp, rfl⟩
    · rintro e ⟨_, s12, h12, rfl⟩
      exact hK _ ⟨s12, rfl⟩
  rintro e ⟨s12, rfl⟩
  refine seq_cut (fun e => e = E (.fr (optD a)) (.fr (optD b)) (.fr (bookD ws os1)) (.fr (bookD ws os2)) (.fr (bookD ws3 os3)) s12 (.fr (bookD ws (leastN os1))) .no .no) (fun K hK => ?_) ?_
  · simp -implicitDefEqProofs [E]
    refine ⟨k, ws, os1, rfl, hb1, ?_⟩
    simp -implicitDefEqProofs
    exact hK _ rfl
  rintro e rfl
  refine seq_cut (fun e => e = E (.fr (optD a)) (.fr (optD b)) (.fr (bookD ws os1)) (.fr (bookD ws os2)) (.fr (bookD ws3 os3)) s12 (.fr (bookD ws (leastN os1))) (.fr (bookD ws (leastN os2))) .no) (fun K hK => ?_) ?_
  · simp -implicitDefEqProofs [E]
    refine ⟨k, ws, os2, rfl, hb2, ?_⟩
    simp -implicitDefEqProofs
    exact hK _ rfl
  rintro e rfl
  have hl1 := least_ok ho1
  have hl2 := least_ok ho2
  have hsame : decide (leastN os1 = leastN os2) = (a.isNone && b.isNone) := by
    have := same_iff ho1.pos ho1.one ho2.pos ho2.one
    rw [ha, hb] at this
    rw [decide_eq_decide.mpr this]
    cases a <;> cases b <;> rfl
  refine seq_cut (fun e => e = E (.fr (optD a)) (.fr (optD b)) (.fr (bookD ws os1)) (.fr (bookD ws os2)) (.fr (bookD ws3 os3)) s12 (.fr (bookD ws (leastN os1))) (.fr (bookD ws (leastN os2))) (.fr (.bl (decide (leastN os1 = leastN os2))))) (fun K hK => ?_) ?_
  · have hK' := hK _ rfl
    rw [hsame] at hK'
    simp -implicitDefEqProofs [E] at hK' ⊢
    rw [isNon_opt, isNon_opt]
    cases a <;> cases b <;> simpa using hK'
  rintro e rfl
  generalize hsm : decide (leastN os1 = leastN os2) = sm
  refine seq_cut (fun e => e = E (.fr (optD a)) (.fr (optD b)) (.fr (bookD ws os1)) (.fr (bookD ws os2)) (.fr (bookD ws3 os3)) s12 (.fr (bookD ws (leastN os1))) (.fr (bookD ws (leastN os2))) (.fr (.bl sm))) (fun K hK => ?_) ?_
  · simp -implicitDefEqProofs [E]
    refine ⟨ws, leastN os1, rfl, ?_⟩
    simp -implicitDefEqProofs
    refine ⟨k, k, ws, ws, leastN os1, leastN os2, rfl, hw.ok, hw.ok, ?_⟩
    simp -implicitDefEqProofs
    refine ⟨k, k, ws, ws, leastN os1, leastN os2, rfl, hw.ok, hw.ok, ?_⟩
    rw [hsm]
    simp -implicitDefEqProofs
    refine ⟨_, rfl, rfl, ?_⟩
    simp -implicitDefEqProofs
    exact hK _ rfl
  rintro e rfl
  have hlb : OkBook k ws (leastN os1) := ⟨hw.ok, hl1⟩
  refine seq_cut (fun e => e = E (.fr (optD a)) (.fr (optD b)) (.fr (bookD ws os1)) (.fr (bookD ws os2)) (.fr (bookD ws3 os3)) s12 (.fr (bookD ws (leastN os1))) (.fr (bookD ws (leastN os2))) (.fr (.bl sm))) (fun K hK => ?_) ?_
  · simp -implicitDefEqProofs [E]
    refine ⟨x, k, k, ws, ws, os1, leastN os1, rfl, hx, hb1, hlb, fun _ => ?_, fun n => (n rfl).elim⟩
    show sp__law_dues _ _ _
    refine dues_c none none ?_
    simp -implicitDefEqProofs
    rw [told_dues ho1 hl1 hx dear_least (dear_from ho1)]
    refine ⟨_, rfl, okA_told x os1 (leastN os1), ?_⟩
    simp -implicitDefEqProofs
    exact hK _ rfl
  rintro e rfl
  refine seq_cut (fun e => e = E (.fr (optD a)) (.fr (optD b)) (.fr (bookD ws os1)) (.fr (bookD ws os2)) (.fr (bookD ws3 os3)) s12 (.fr (bookD ws (leastN os1))) (.fr (bookD ws (leastN os2))) (.fr (.bl sm))) (fun K hK => ?_) ?_
  · simp -implicitDefEqProofs [E]
    refine ⟨y, k, k, ws, ws, os2, os2, rfl, hy, hb2, hb2, fun _ => ?_, fun n => (n rfl).elim⟩
    show sp__law_dues _ _ _
    refine dues_c none none ?_
    simp -implicitDefEqProofs
    rw [told_dues ho2 ho2 hy (dear_self ho2.pos) (dear_self ho2.pos)]
    refine ⟨_, rfl, okA_told y os2 os2, ?_⟩
    simp -implicitDefEqProofs
    exact hK _ rfl
  rintro e rfl
  refine seq_cut (fun e => e = E (.fr (optD a)) (.fr (optD b)) (.fr (bookD ws os1)) (.fr (bookD ws os2)) (.fr (bookD ws3 os3)) s12 (.fr (bookD ws (leastN os1))) (.fr (bookD ws (leastN os2))) (.fr (.bl sm))) (fun K hK => ?_) ?_
  · simp -implicitDefEqProofs [E]
    refine ⟨z, k, k, ws, ws, os1, os2, rfl, hz, hb1, hb2, fun _ => ?_, fun n => (n rfl).elim⟩
    show sp__law_dues _ _ _
    refine dues_c a b ?_
    simp -implicitDefEqProofs
    rw [told_dues ho1 ho2 hz ha hb]
    refine ⟨_, rfl, okA_told z os1 os2, ?_⟩
    simp -implicitDefEqProofs
    exact hK _ rfl
  rintro e rfl
  obtain ⟨p1, hp1⟩ := sh_book (os := os1) hw.ok
  obtain ⟨p2, hp2⟩ := sh_book (os := os2) hw.ok
  simp -implicitDefEqProofs [E]
  refine ⟨ws, os1, rfl, ?_⟩
  simp -implicitDefEqProofs
  rw [f_eqR hp1 (by decide)]
  simp -implicitDefEqProofs
  refine ⟨ws, os2, rfl, ?_⟩
  simp -implicitDefEqProofs
  rw [f_eqR hp2 (by decide)]
  simpa using hQ
end K77

set_option Elab.async false
set_option linter.all false
set_option maxRecDepth 100000
set_option maxHeartbeats 2000000
namespace K77
open PySem PySem.Spec PyProof.Rows L2 DL PM
theorem repL_ints {K : PySem.W.Frag} {mg : Str → Option Value} {F : Hp} : ∀ ns : List Int, RepL K mg F (ns.map D.int) (ns.map V.int)
  | [] => .nil
  | n :: ns => .cons (.int n) (repL_ints ns)
theorem sp_start {K : PySem.W.Frag} {mg : Str → Option Value} {H : Hp} {a : Addr} {ns : List Int} (hl : ns.length ≤ 63) (hS : SqL K H a (ns.map V.int)) : spOf K mg sp_law [.ref a] H (fun v _ => v = .bl true) fun _ _ _ => False := by
  refine ⟨fun _ => none, fun _ => none, H, [.fr (.scr (ns.map .int))], fun d _ => d = .bl true, ⟨Same.refl H, (fun _ _ h => by cases h), rfl, fun i d h => ?_, fun i b o h => ?_, fun i j b c o o' x h => ?_⟩, ⟨ns, rfl, hl, rfl⟩, fun i b o h => ?_, fun d as' v F' H' hd _ _ r => ?_⟩
  · cases i with
    | zero =>
      cases h
      exact ⟨_, rfl, .scr hS (repL_ints ns)⟩
    | succ i => simp at h
  · cases i with
    | zero => cases h
    | succ i => simp at h
  · cases i with
    | zero => cases h
    | succ i => simp at h
  · cases i with
    | zero => cases h
    | succ i => simp at h
  · subst hd
    cases r
    rfl
theorem fld1 {K : PySem.W.Frag} {h : Heap} {mg : Str → Option Value} {x f : Str} (X : K.In h) (G : h.Ns mainGlobals mg) (g : (He.Fa.glo x).ok K = true) (k : (He.Fa.cls x).ok K = true) (n : (He.Fa.noat x f).ok K = true) : FldOk K mg [x] f := fun c hc C hm => by
  rw [List.mem_singleton.mp hc, He.glo_ok X G g] at hm
  cases hm
  exact ⟨He.cls_ok k, He.noat_ok n⟩
theorem mkT {K : PySem.W.Frag} {h : Heap} {mg : Str → Option Value} (X : K.In h) (G : h.Ns mainGlobals mg) (c : DL.SaysP fa fn ex prs K) : Tg K mg :=
  ⟨xk_ok X G (List.forall_mem_cons.mpr ⟨(c.s.d.fact 19 (f := .glo "Unlike") rfl), (List.forall_mem_nil _)⟩) c.s.e,
   fld1 X G (c.s.d.fact 39 (f := .glo "Book") rfl) (c.s.d.fact 131 (f := .cls "Book") rfl) (c.s.d.fact 134 (f := .noat "Book" "bundle_row") rfl),
   fld1 X G (c.s.d.fact 47 (f := .glo "Table") rfl) (c.s.d.fact 143 (f := .cls "Table") rfl) (c.s.d.fact 146 (f := .noat "Table" "deal_rows") rfl),
   fld1 X G (c.s.d.fact 39 (f := .glo "Book") rfl) (c.s.d.fact 131 (f := .cls "Book") rfl) (c.s.d.fact 132 (f := .noat "Book" "kinds") rfl),
   fld1 X G (c.s.d.fact 39 (f := .glo "Book") rfl) (c.s.d.fact 131 (f := .cls "Book") rfl) (c.s.d.fact 133 (f := .noat "Book" "offers") rfl),
   fld1 X G (c.s.d.fact 39 (f := .glo "Book") rfl) (c.s.d.fact 131 (f := .cls "Book") rfl) (c.s.d.fact 135 (f := .noat "Book" "price_row") rfl),
   fld1 X G (c.s.d.fact 47 (f := .glo "Table") rfl) (c.s.d.fact 143 (f := .cls "Table") rfl) (c.s.d.fact 145 (f := .noat "Table" "stride_row") rfl),
   fld1 X G (c.s.d.fact 47 (f := .glo "Table") rfl) (c.s.d.fact 143 (f := .cls "Table") rfl) (c.s.d.fact 144 (f := .noat "Table" "top") rfl),
   fld1 X G (c.s.d.fact 47 (f := .glo "Table") rfl) (c.s.d.fact 143 (f := .cls "Table") rfl) (c.s.d.fact 147 (f := .noat "Table" "worth_row") rfl),
   catch_ok X G (c.s.d.fact 6 (f := .glo "TillError") rfl) (List.forall_mem_cons.mpr ⟨(c.s.d.fact 19 (f := .glo "Unlike") rfl), (List.forall_mem_nil _)⟩) c.s.e (by decide) (by decide),
   eqc_ok X G (c.s.d.fact 39 (f := .glo "Book") rfl) c.s.e (by decide),
   He.free_ok X G (c.s.d.fact 81 (f := .free "all") rfl),
   He.free_ok X G (c.s.d.fact 82 (f := .free "bool") rfl),
   He.free_ok X G (c.s.d.fact 83 (f := .free "enumerate") rfl),
   He.free_ok X G (c.s.d.fact 84 (f := .free "int") rfl),
   He.free_ok X G (c.s.d.fact 85 (f := .free "isinstance") rfl),
   He.free_ok X G (c.s.d.fact 87 (f := .free "len") rfl),
   He.free_ok X G (c.s.d.fact 88 (f := .free "list") rfl),
   He.free_ok X G (c.s.d.fact 89 (f := .free "max") rfl),
   He.free_ok X G (c.s.d.fact 90 (f := .free "min") rfl),
   He.free_ok X G (c.s.d.fact 92 (f := .free "range") rfl),
   He.free_ok X G (c.s.d.fact 93 (f := .free "reversed") rfl),
   He.free_ok X G (c.s.d.fact 94 (f := .free "set") rfl),
   He.free_ok X G (c.s.d.fact 95 (f := .free "sorted") rfl),
   He.free_ok X G (c.s.d.fact 96 (f := .free "str") rfl),
   He.free_ok X G (c.s.d.fact 97 (f := .free "sum") rfl),
   He.free_ok X G (c.s.d.fact 99 (f := .free "tuple") rfl),
   He.free_ok X G (c.s.d.fact 100 (f := .free "zip") rfl),
   He.int_ok X G (c.s.d.fact 5 (f := .int "CELLS" 1500) rfl),
   He.int_ok X G (c.s.d.fact 0 (f := .int "KINDS" 4) rfl),
   He.str_ok X G (c.s.d.fact 31 (f := .str "LETTERS" "abcdefghijklmnopqrstuvwxyz") rfl),
   He.int_ok X G (c.s.d.fact 32 (f := .int "LONGEST" 8) rfl),
   He.int_ok X G (c.s.d.fact 4 (f := .int "MANY" 1000000000000) rfl),
   He.int_ok X G (c.s.d.fact 1 (f := .int "OFFERS" 10) rfl),
   He.int_ok X G (c.s.d.fact 2 (f := .int "PIECES" 8) rfl),
   He.int_ok X G (c.s.d.fact 3 (f := .int "TOP" 1000000000000) rfl),
   isC_ok X G (c.s.d.fact 39 (f := .glo "Book") rfl) (c.s.d.fact 131 (f := .cls "Book") rfl) (exX_e c.s.e) (by decide),
   isx_ok X G (c.s.d.fact 10 (f := .glo "BadBasket") rfl) (List.forall_mem_cons.mpr ⟨(c.s.d.fact 19 (f := .glo "Unlike") rfl), (List.forall_mem_nil _)⟩) c.s.e (by decide) (by decide),
   isx_ok X G (c.s.d.fact 13 (f := .glo "BadBill") rfl) (List.forall_mem_cons.mpr ⟨(c.s.d.fact 19 (f := .glo "Unlike") rfl), (List.forall_mem_nil _)⟩) c.s.e (by decide) (by decide),
   isx_ok X G (c.s.d.fact 18 (f := .glo "BadCoins") rfl) (List.forall_mem_cons.mpr ⟨(c.s.d.fact 19 (f := .glo "Unlike") rfl), (List.forall_mem_nil _)⟩) c.s.e (by decide) (by decide),
   isx_ok X G (c.s.d.fact 7 (f := .glo "BadKinds") rfl) (List.forall_mem_cons.mpr ⟨(c.s.d.fact 19 (f := .glo "Unlike") rfl), (List.forall_mem_nil _)⟩) c.s.e (by decide) (by decide),
   isx_ok X G (c.s.d.fact 16 (f := .glo "BadNumber") rfl) (List.forall_mem_cons.mpr ⟨(c.s.d.fact 19 (f := .glo "Unlike") rfl), (List.forall_mem_nil _)⟩) c.s.e (by decide) (by decide),
   isx_ok X G (c.s.d.fact 9 (f := .glo "BadOffer") rfl) (List.forall_mem_cons.mpr ⟨(c.s.d.fact 19 (f := .glo "Unlike") rfl), (List.forall_mem_nil _)⟩) c.s.e (by decide) (by decide),
   isx_ok X G (c.s.d.fact 12 (f := .glo "BadOrder") rfl) (List.forall_mem_cons.mpr ⟨(c.s.d.fact 19 (f := .glo "Unlike") rfl), (List.forall_mem_nil _)⟩) c.s.e (by decide) (by decide),
   isx_ok X G (c.s.d.fact 11 (f := .glo "BadPlace") rfl) (List.forall_mem_cons.mpr ⟨(c.s.d.fact 19 (f := .glo "Unlike") rfl), (List.forall_mem_nil _)⟩) c.s.e (by decide) (by decide),
   isx_ok X G (c.s.d.fact 14 (f := .glo "BadPrices") rfl) (List.forall_mem_cons.mpr ⟨(c.s.d.fact 19 (f := .glo "Unlike") rfl), (List.forall_mem_nil _)⟩) c.s.e (by decide) (by decide),
   isx_ok X G (c.s.d.fact 15 (f := .glo "BadStock") rfl) (List.forall_mem_cons.mpr ⟨(c.s.d.fact 19 (f := .glo "Unlike") rfl), (List.forall_mem_nil _)⟩) c.s.e (by decide) (by decide),
   isx_ok X G (c.s.d.fact 17 (f := .glo "BadText") rfl) (List.forall_mem_cons.mpr ⟨(c.s.d.fact 19 (f := .glo "Unlike") rfl), (List.forall_mem_nil _)⟩) c.s.e (by decide) (by decide),
   isx_ok X G (c.s.d.fact 8 (f := .glo "NoSingle") rfl) (List.forall_mem_cons.mpr ⟨(c.s.d.fact 19 (f := .glo "Unlike") rfl), (List.forall_mem_nil _)⟩) c.s.e (by decide) (by decide),
   isx_ok X G (c.s.d.fact 20 (f := .glo "NotOne") rfl) (List.forall_mem_cons.mpr ⟨(c.s.d.fact 19 (f := .glo "Unlike") rfl), (List.forall_mem_nil _)⟩) c.s.e (by decide) (by decide),
   isx_ok X G (c.s.d.fact 21 (f := .glo "NothingToUndo") rfl) (List.forall_mem_cons.mpr ⟨(c.s.d.fact 19 (f := .glo "Unlike") rfl), (List.forall_mem_nil _)⟩) c.s.e (by decide) (by decide),
   isx_ok X G (c.s.d.fact 23 (f := .glo "TooGreat") rfl) (List.forall_mem_cons.mpr ⟨(c.s.d.fact 19 (f := .glo "Unlike") rfl), (List.forall_mem_nil _)⟩) c.s.e (by decide) (by decide),
   isx_ok X G (c.s.d.fact 22 (f := .glo "TooMany") rfl) (List.forall_mem_cons.mpr ⟨(c.s.d.fact 19 (f := .glo "Unlike") rfl), (List.forall_mem_nil _)⟩) c.s.e (by decide) (by decide),
   isx_ok X G (c.s.d.fact 19 (f := .glo "Unlike") rfl) (List.forall_mem_cons.mpr ⟨(c.s.d.fact 19 (f := .glo "Unlike") rfl), (List.forall_mem_nil _)⟩) c.s.e (by decide) (by decide),
   nof_ok X G (List.forall_mem_cons.mpr ⟨(c.s.d.fact 19 (f := .glo "Unlike") rfl), (List.forall_mem_nil _)⟩) c.s.e (by decide),
   nof_ok X G (List.forall_mem_cons.mpr ⟨(c.s.d.fact 19 (f := .glo "Unlike") rfl), (List.forall_mem_nil _)⟩) c.s.e (by decide),
   excD_ok X G (c.s.d.fact 10 (f := .glo "BadBasket") rfl) (c.s.d.fact 108 (f := .exc "BadBasket") rfl),
   excD_ok X G (c.s.d.fact 7 (f := .glo "BadKinds") rfl) (c.s.d.fact 104 (f := .exc "BadKinds") rfl),
   excD_ok X G (c.s.d.fact 19 (f := .glo "Unlike") rfl) (c.s.d.fact 124 (f := .exc "Unlike") rfl)⟩
theorem fn_no {P : Program} {w : World} {K : PySem.W.Frag} {mg : Str → Option Value} {base : Heap} {k : Nat} {f : Addr} {fd : FuncData} {ps : List Str} : FnOk P w K mg base (L2N.CX P w) k f fd ps (spOfX K mg fun _ _ _ => False) :=
  ⟨fun _ _ _ _ h => by obtain ⟨_, _, _, _, _, _, _, h, _⟩ := h; exact h.elim, fun _ _ _ _ _ _ _ _ _ _ _ _ _ h => by obtain ⟨_, _, _, _, _, _, _, h, _⟩ := h; exact h.elim⟩
theorem fn_0 {P : Program} {w : World} {K : PySem.W.Frag} {mg : Str → Option Value} {base : Heap} {k : Nat} {f : Addr} {fd : FuncData} {ps : List Str} {dsp : DSp} (F : FnOk P w K mg base (L2N.CX P w) k f fd ps (spOfX K mg dsp)) : FnOk P w K mg base CX0 k f fd ps (spOf K mg dsp) :=
  ⟨fun vs H Q E h => F.len vs H Q E (spOf_X h), fun A outer s H args us vs Q E hr e hb r h => codeAny_mono (F.run A outer s H args us vs Q E0 hr e hb r (spOf_X h)) fun rr s2 cc => by
    cases rr with
    | ok v => cases v <;> first | exact cc | exact cc.elim
    | error e => obtain ⟨_, _, _, _, _, _, _, _, _, _, _, _, z⟩ := cc; exact z.elim⟩
theorem facts {P : Program} {w : World} {K : PySem.W.Frag} {h : Heap} {mg : Str → Option Value} {f : Addr} (X : K.In h) (G : h.Ns mainGlobals mg) (hfa : mg ("law" : Str) = some (.ref f)) (c : DL.SaysP fa fn ex prs K) :
    ∃ fd : FuncData, (∀ (s : Shared) (v : Value), BindsTo s fd ⟨[v], []⟩ [("script", v)]) ∧ ∀ base : Heap, FnOk P w K mg base CX0 13 f fd ["script"] (spOf K mg sp_law) := by
  have T := mkT X G c
  obtain ⟨fd_law, F_law⟩ := c.s.d.def_ 62 (d := d_law) rfl
  have e := hfa.symm.trans (He.glo_ok X G (c.s.d.fact 78 (f := .glo "law") rfl))
  cases e
  have b := FunD.bindsA (ps := ["script"]) F_law fun _ _ _ _ _ _ us hl => match us, hl with | [_], _ => rfl
  refine ⟨fd_law, fun s v => b s [v] rfl, fun base => ?_⟩
  obtain ⟨fd__law_store, F__law_store⟩ := c.s.d.def_ 43 (d := d__law_store) rfl
  have K__law_store : FnX P w K mg base 1 "_law_store" sp__law_store := fnX_mk (ps := ["script"]) X G (c.s.d.fact 59 (f := .glo "_law_store") rfl) F__law_store (fun _ _ _ _ _ _ us hl => match us, hl with | [_], _ => rfl) (w__law_store (k := 0) (dsp := sp__law_store) T F__law_store  (fun as Q' Ē h => by first | (obtain ⟨_, rfl, _⟩ := h; rfl) | (obtain ⟨_, _, rfl, _⟩ := h; rfl) | (obtain ⟨_, _, _, rfl, _⟩ := h; rfl) | (obtain ⟨_, _, _, _, rfl, _⟩ := h; rfl) | (obtain ⟨_, _, _, _, _, rfl, _⟩ := h; rfl) | (obtain ⟨_, _, _, _, _, _, rfl, _⟩ := h; rfl) | (obtain ⟨_, _, _, _, _, _, _, rfl, _⟩ := h; rfl) | (obtain ⟨_, _, _, _, _, _, _, _, rfl, _⟩ := h; rfl)) (lg (fun _ _ _ h => h) (fun as Q' h => q__law_store as Q' h)))
  obtain ⟨fd__law_mix, F__law_mix⟩ := c.s.d.def_ 42 (d := d__law_mix) rfl
  have K__law_mix : FnX P w K mg base 1 "_law_mix" sp__law_mix := fnX_mk (ps := ["number", "turn"]) X G (c.s.d.fact 58 (f := .glo "_law_mix") rfl) F__law_mix (fun _ _ _ _ _ _ us hl => match us, hl with | [_, _], _ => rfl) (w__law_mix (k := 0) (dsp := sp__law_mix) T F__law_mix  (fun as Q' Ē h => by first | (obtain ⟨_, rfl, _⟩ := h; rfl) | (obtain ⟨_, _, rfl, _⟩ := h; rfl) | (obtain ⟨_, _, _, rfl, _⟩ := h; rfl) | (obtain ⟨_, _, _, _, rfl, _⟩ := h; rfl) | (obtain ⟨_, _, _, _, _, rfl, _⟩ := h; rfl) | (obtain ⟨_, _, _, _, _, _, rfl, _⟩ := h; rfl) | (obtain ⟨_, _, _, _, _, _, _, rfl, _⟩ := h; rfl) | (obtain ⟨_, _, _, _, _, _, _, _, rfl, _⟩ := h; rfl)) (lg (fun _ _ _ h => h) (fun as Q' h => q__law_mix as Q' h)))
  obtain ⟨fd__law_take, F__law_take⟩ := c.s.d.def_ 44 (d := d__law_take) rfl
  have K__law_take : FnX P w K mg base 2 "_law_take" sp__law_take := fnX_mk (ps := ["store", "many"]) X G (c.s.d.fact 60 (f := .glo "_law_take") rfl) F__law_take (fun _ _ _ _ _ _ us hl => match us, hl with | [_, _], _ => rfl) (w__law_take (k := 1) (dsp := sp__law_take) T F__law_take K__law_mix (by decide) (fun as Q' Ē h => by first | (obtain ⟨_, rfl, _⟩ := h; rfl) | (obtain ⟨_, _, rfl, _⟩ := h; rfl) | (obtain ⟨_, _, _, rfl, _⟩ := h; rfl) | (obtain ⟨_, _, _, _, rfl, _⟩ := h; rfl) | (obtain ⟨_, _, _, _, _, rfl, _⟩ := h; rfl) | (obtain ⟨_, _, _, _, _, _, rfl, _⟩ := h; rfl) | (obtain ⟨_, _, _, _, _, _, _, rfl, _⟩ := h; rfl) | (obtain ⟨_, _, _, _, _, _, _, _, rfl, _⟩ := h; rfl)) (lg (fun _ _ _ h => h) (fun as Q' h => q__law_take as Q' h)))
  obtain ⟨fd__law_single, F__law_single⟩ := c.s.d.def_ 45 (d := d__law_single) rfl
  have K__law_single : FnX P w K mg base 1 "_law_single" sp__law_single := fnX_mk (ps := ["k", "j"]) X G (c.s.d.fact 61 (f := .glo "_law_single") rfl) F__law_single (fun _ _ _ _ _ _ us hl => match us, hl with | [_, _], _ => rfl) (w__law_single (k := 0) (dsp := sp__law_single) T F__law_single  (fun as Q' Ē h => by first | (obtain ⟨_, rfl, _⟩ := h; rfl) | (obtain ⟨_, _, rfl, _⟩ := h; rfl) | (obtain ⟨_, _, _, rfl, _⟩ := h; rfl) | (obtain ⟨_, _, _, _, rfl, _⟩ := h; rfl) | (obtain ⟨_, _, _, _, _, rfl, _⟩ := h; rfl) | (obtain ⟨_, _, _, _, _, _, rfl, _⟩ := h; rfl) | (obtain ⟨_, _, _, _, _, _, _, rfl, _⟩ := h; rfl) | (obtain ⟨_, _, _, _, _, _, _, _, rfl, _⟩ := h; rfl)) (lg (fun _ _ _ h => h) (fun as Q' h => q__law_single as Q' h)))
  obtain ⟨fd__law_lots, F__law_lots⟩ := c.s.d.def_ 53 (d := d__law_lots) rfl
  have K__law_lots : FnX P w K mg base 3 "_law_lots" sp__law_lots := fnX_mk (ps := ["store", "k", "many", "high"]) X G (c.s.d.fact 69 (f := .glo "_law_lots") rfl) F__law_lots (fun _ _ _ _ _ _ us hl => match us, hl with | [_, _, _, _], _ => rfl) (w__law_lots (k := 2) (dsp := sp__law_lots) T F__law_lots K__law_single (by decide) K__law_take (by decide) (fun as Q' Ē h => by first | (obtain ⟨_, rfl, _⟩ := h; rfl) | (obtain ⟨_, _, rfl, _⟩ := h; rfl) | (obtain ⟨_, _, _, rfl, _⟩ := h; rfl) | (obtain ⟨_, _, _, _, rfl, _⟩ := h; rfl) | (obtain ⟨_, _, _, _, _, rfl, _⟩ := h; rfl) | (obtain ⟨_, _, _, _, _, _, rfl, _⟩ := h; rfl) | (obtain ⟨_, _, _, _, _, _, _, rfl, _⟩ := h; rfl) | (obtain ⟨_, _, _, _, _, _, _, _, rfl, _⟩ := h; rfl)) (lg (fun _ _ _ h => h) (fun as Q' h => q__law_lots as Q' h)))
  obtain ⟨fd__law_costs, F__law_costs⟩ := c.s.d.def_ 54 (d := d__law_costs) rfl
  have K__law_costs : FnX P w K mg base 3 "_law_costs" sp__law_costs := fnX_mk (ps := ["store", "bundles"]) X G (c.s.d.fact 70 (f := .glo "_law_costs") rfl) F__law_costs (fun _ _ _ _ _ _ us hl => match us, hl with | [_, _], _ => rfl) (w__law_costs (k := 2) (dsp := sp__law_costs) T F__law_costs K__law_take (by decide) (fun as Q' Ē h => by first | (obtain ⟨_, rfl, _⟩ := h; rfl) | (obtain ⟨_, _, rfl, _⟩ := h; rfl) | (obtain ⟨_, _, _, rfl, _⟩ := h; rfl) | (obtain ⟨_, _, _, _, rfl, _⟩ := h; rfl) | (obtain ⟨_, _, _, _, _, rfl, _⟩ := h; rfl) | (obtain ⟨_, _, _, _, _, _, rfl, _⟩ := h; rfl) | (obtain ⟨_, _, _, _, _, _, _, rfl, _⟩ := h; rfl) | (obtain ⟨_, _, _, _, _, _, _, _, rfl, _⟩ := h; rfl)) (lg (fun _ _ _ h => h) (fun as Q' h => q__law_costs as Q' h)))
  obtain ⟨fd__law_goods, F__law_goods⟩ := c.s.d.def_ 48 (d := d__law_goods) rfl
  have K__law_goods : FnX P w K mg base 3 "_law_goods" sp__law_goods := fnX_mk (ps := ["store", "k"]) X G (c.s.d.fact 64 (f := .glo "_law_goods") rfl) F__law_goods (fun _ _ _ _ _ _ us hl => match us, hl with | [_, _], _ => rfl) (w__law_goods (k := 2) (dsp := sp__law_goods) T F__law_goods K__law_take (by decide) (fun as Q' Ē h => by first | (obtain ⟨_, rfl, _⟩ := h; rfl) | (obtain ⟨_, _, rfl, _⟩ := h; rfl) | (obtain ⟨_, _, _, rfl, _⟩ := h; rfl) | (obtain ⟨_, _, _, _, rfl, _⟩ := h; rfl) | (obtain ⟨_, _, _, _, _, rfl, _⟩ := h; rfl) | (obtain ⟨_, _, _, _, _, _, rfl, _⟩ := h; rfl) | (obtain ⟨_, _, _, _, _, _, _, rfl, _⟩ := h; rfl) | (obtain ⟨_, _, _, _, _, _, _, _, rfl, _⟩ := h; rfl)) (lg (fun _ _ _ h => h) (fun as Q' h => q__law_goods as Q' h)))
  obtain ⟨fd__law_pair_of_books, F__law_pair_of_books⟩ := c.s.d.def_ 56 (d := d__law_pair_of_books) rfl
  have K__law_pair_of_books : FnX P w K mg base 4 "_law_pair_of_books" sp__law_pair_of_books := fnX_mk (ps := ["store", "shapes"]) X G (c.s.d.fact 72 (f := .glo "_law_pair_of_books") rfl) F__law_pair_of_books (fun _ _ _ _ _ _ us hl => match us, hl with | [_, _], _ => rfl) (w__law_pair_of_books (k := 3) (dsp := sp__law_pair_of_books) T F__law_pair_of_books K__law_take (by decide) K__law_lots (by decide) K__law_costs (by decide) K__law_goods (by decide) (fun as Q' Ē h => by first | (obtain ⟨_, rfl, _⟩ := h; rfl) | (obtain ⟨_, _, rfl, _⟩ := h; rfl) | (obtain ⟨_, _, _, rfl, _⟩ := h; rfl) | (obtain ⟨_, _, _, _, rfl, _⟩ := h; rfl) | (obtain ⟨_, _, _, _, _, rfl, _⟩ := h; rfl) | (obtain ⟨_, _, _, _, _, _, rfl, _⟩ := h; rfl) | (obtain ⟨_, _, _, _, _, _, _, rfl, _⟩ := h; rfl) | (obtain ⟨_, _, _, _, _, _, _, _, rfl, _⟩ := h; rfl)) (lg (fun _ _ _ h => h) (fun as Q' h => q__law_pair_of_books as Q' h)))
  obtain ⟨fd__law_stranger, F__law_stranger⟩ := c.s.d.def_ 61 (d := d__law_stranger) rfl
  have K__law_stranger : FnX P w K mg base 3 "_law_stranger" sp__law_stranger := fnX_mk (ps := ["store", "words", "offers"]) X G (c.s.d.fact 77 (f := .glo "_law_stranger") rfl) F__law_stranger (fun _ _ _ _ _ _ us hl => match us, hl with | [_, _, _], _ => rfl) (w__law_stranger (k := 2) (dsp := sp__law_stranger) T F__law_stranger K__law_take (by decide) (fun as Q' Ē h => by first | (obtain ⟨_, rfl, _⟩ := h; rfl) | (obtain ⟨_, _, rfl, _⟩ := h; rfl) | (obtain ⟨_, _, _, rfl, _⟩ := h; rfl) | (obtain ⟨_, _, _, _, rfl, _⟩ := h; rfl) | (obtain ⟨_, _, _, _, _, rfl, _⟩ := h; rfl) | (obtain ⟨_, _, _, _, _, _, rfl, _⟩ := h; rfl) | (obtain ⟨_, _, _, _, _, _, _, rfl, _⟩ := h; rfl) | (obtain ⟨_, _, _, _, _, _, _, _, rfl, _⟩ := h; rfl)) (lg (fun _ _ _ h => h) (fun as Q' h => q__law_stranger as Q' h)))
  obtain ⟨fd__law_box, F__law_box⟩ := c.s.d.def_ 47 (d := d__law_box) rfl
  have K__law_box : FnX P w K mg base 1 "_law_box" sp__law_box := fnX_mk (ps := ["top"]) X G (c.s.d.fact 63 (f := .glo "_law_box") rfl) F__law_box (fun _ _ _ _ _ _ us hl => match us, hl with | [_], _ => rfl) (w__law_box (k := 0) (dsp := sp__law_box) T F__law_box  (fun as Q' Ē h => by first | (obtain ⟨_, rfl, _⟩ := h; rfl) | (obtain ⟨_, _, rfl, _⟩ := h; rfl) | (obtain ⟨_, _, _, rfl, _⟩ := h; rfl) | (obtain ⟨_, _, _, _, rfl, _⟩ := h; rfl) | (obtain ⟨_, _, _, _, _, rfl, _⟩ := h; rfl) | (obtain ⟨_, _, _, _, _, _, rfl, _⟩ := h; rfl) | (obtain ⟨_, _, _, _, _, _, _, rfl, _⟩ := h; rfl) | (obtain ⟨_, _, _, _, _, _, _, _, rfl, _⟩ := h; rfl)) (lg (fun _ _ _ h => h) (fun as Q' h => q__law_box as Q' h)))
  obtain ⟨fd__law_fits, F__law_fits⟩ := c.s.d.def_ 46 (d := d__law_fits) rfl
  have K__law_fits : FnX P w K mg base 1 "_law_fits" sp__law_fits := fnX_mk (ps := ["small", "great"]) X G (c.s.d.fact 62 (f := .glo "_law_fits") rfl) F__law_fits (fun _ _ _ _ _ _ us hl => match us, hl with | [_, _], _ => rfl) (w__law_fits (k := 0) (dsp := sp__law_fits) T F__law_fits  (fun as Q' Ē h => by first | (obtain ⟨_, rfl, _⟩ := h; rfl) | (obtain ⟨_, _, rfl, _⟩ := h; rfl) | (obtain ⟨_, _, _, rfl, _⟩ := h; rfl) | (obtain ⟨_, _, _, _, rfl, _⟩ := h; rfl) | (obtain ⟨_, _, _, _, _, rfl, _⟩ := h; rfl) | (obtain ⟨_, _, _, _, _, _, rfl, _⟩ := h; rfl) | (obtain ⟨_, _, _, _, _, _, _, rfl, _⟩ := h; rfl) | (obtain ⟨_, _, _, _, _, _, _, _, rfl, _⟩ := h; rfl)) (lg (fun _ _ _ h => h) (fun as Q' h => q__law_fits as Q' h)))
  obtain ⟨fd__law_less, F__law_less⟩ := c.s.d.def_ 57 (d := d__law_less) rfl
  have K__law_less : FnX P w K mg base 1 "_law_less" sp__law_less := fnX_mk (ps := ["x", "y"]) X G (c.s.d.fact 73 (f := .glo "_law_less") rfl) F__law_less (fun _ _ _ _ _ _ us hl => match us, hl with | [_, _], _ => rfl) (w__law_less (k := 0) (dsp := sp__law_less) T F__law_less  (fun as Q' Ē h => by first | (obtain ⟨_, rfl, _⟩ := h; rfl) | (obtain ⟨_, _, rfl, _⟩ := h; rfl) | (obtain ⟨_, _, _, rfl, _⟩ := h; rfl) | (obtain ⟨_, _, _, _, rfl, _⟩ := h; rfl) | (obtain ⟨_, _, _, _, _, rfl, _⟩ := h; rfl) | (obtain ⟨_, _, _, _, _, _, rfl, _⟩ := h; rfl) | (obtain ⟨_, _, _, _, _, _, _, rfl, _⟩ := h; rfl) | (obtain ⟨_, _, _, _, _, _, _, _, rfl, _⟩ := h; rfl)) (lg (fun _ _ _ h => h) (fun as Q' h => q__law_less as Q' h)))
  obtain ⟨fd__law_union, F__law_union⟩ := c.s.d.def_ 55 (d := d__law_union) rfl
  have K__law_union : FnX P w K mg base 2 "_law_union" sp__law_union := fnX_mk (ps := ["offers", "bundles"]) X G (c.s.d.fact 71 (f := .glo "_law_union") rfl) F__law_union (fun _ _ _ _ _ _ us hl => match us, hl with | [_, _], _ => rfl) (w__law_union (k := 1) (dsp := sp__law_union) T F__law_union K__law_box (by decide) K__law_fits (by decide) K__law_less (by decide) (fun as Q' Ē h => by first | (obtain ⟨_, rfl, _⟩ := h; rfl) | (obtain ⟨_, _, rfl, _⟩ := h; rfl) | (obtain ⟨_, _, _, rfl, _⟩ := h; rfl) | (obtain ⟨_, _, _, _, rfl, _⟩ := h; rfl) | (obtain ⟨_, _, _, _, _, rfl, _⟩ := h; rfl) | (obtain ⟨_, _, _, _, _, _, rfl, _⟩ := h; rfl) | (obtain ⟨_, _, _, _, _, _, _, rfl, _⟩ := h; rfl) | (obtain ⟨_, _, _, _, _, _, _, _, rfl, _⟩ := h; rfl)) (lg (fun _ _ _ h => h) (fun as Q' h => q__law_union as Q' h)))
  obtain ⟨fd__law_dearer, F__law_dearer⟩ := c.s.d.def_ 58 (d := d__law_dearer) rfl
  have K__law_dearer : FnX P w K mg base 3 "_law_dearer" sp__law_dearer := fnX_mk (ps := ["offers", "more"]) X G (c.s.d.fact 74 (f := .glo "_law_dearer") rfl) F__law_dearer (fun _ _ _ _ _ _ us hl => match us, hl with | [_, _], _ => rfl) (w__law_dearer (k := 2) (dsp := sp__law_dearer) T F__law_dearer K__law_union (by decide) (fun as Q' Ē h => by first | (obtain ⟨_, rfl, _⟩ := h; rfl) | (obtain ⟨_, _, rfl, _⟩ := h; rfl) | (obtain ⟨_, _, _, rfl, _⟩ := h; rfl) | (obtain ⟨_, _, _, _, rfl, _⟩ := h; rfl) | (obtain ⟨_, _, _, _, _, rfl, _⟩ := h; rfl) | (obtain ⟨_, _, _, _, _, _, rfl, _⟩ := h; rfl) | (obtain ⟨_, _, _, _, _, _, _, rfl, _⟩ := h; rfl) | (obtain ⟨_, _, _, _, _, _, _, _, rfl, _⟩ := h; rfl)) (lg (fun _ _ _ h => h) (fun as Q' h => q__law_dearer as Q' h)))
  obtain ⟨fd_is_word, F_is_word⟩ := c.s.d.def_ 7 (d := d_is_word) rfl
  have K_is_word : FnX P w K mg base 1 "is_word" sp_is_word := fnX_mk (ps := ["value"]) X G (c.s.d.fact 33 (f := .glo "is_word") rfl) F_is_word (fun _ _ _ _ _ _ us hl => match us, hl with | [_], _ => rfl) (w_is_word (k := 0) (dsp := sp_is_word) T F_is_word  (fun as Q' Ē h => by first | (obtain ⟨_, rfl, _⟩ := h; rfl) | (obtain ⟨_, _, rfl, _⟩ := h; rfl) | (obtain ⟨_, _, _, rfl, _⟩ := h; rfl) | (obtain ⟨_, _, _, _, rfl, _⟩ := h; rfl) | (obtain ⟨_, _, _, _, _, rfl, _⟩ := h; rfl) | (obtain ⟨_, _, _, _, _, _, rfl, _⟩ := h; rfl) | (obtain ⟨_, _, _, _, _, _, _, rfl, _⟩ := h; rfl) | (obtain ⟨_, _, _, _, _, _, _, _, rfl, _⟩ := h; rfl)) (lg (fun _ _ _ h => h) (fun as Q' h => q_is_word as Q' h)))
  obtain ⟨fd_check_words, F_check_words⟩ := c.s.d.def_ 8 (d := d_check_words) rfl
  have K_check_words : FnX P w K mg base 2 "check_words" sp_check_words := fnX_mk (ps := ["kinds"]) X G (c.s.d.fact 34 (f := .glo "check_words") rfl) F_check_words (fun _ _ _ _ _ _ us hl => match us, hl with | [_], _ => rfl) (w_check_words (k := 1) (dsp := sp_check_words) T F_check_words K_is_word (by decide) (fun as Q' Ē h => by first | (obtain ⟨_, rfl, _⟩ := h; rfl) | (obtain ⟨_, _, rfl, _⟩ := h; rfl) | (obtain ⟨_, _, _, rfl, _⟩ := h; rfl) | (obtain ⟨_, _, _, _, rfl, _⟩ := h; rfl) | (obtain ⟨_, _, _, _, _, rfl, _⟩ := h; rfl) | (obtain ⟨_, _, _, _, _, _, rfl, _⟩ := h; rfl) | (obtain ⟨_, _, _, _, _, _, _, rfl, _⟩ := h; rfl) | (obtain ⟨_, _, _, _, _, _, _, _, rfl, _⟩ := h; rfl)) (lg (fun _ _ _ h => h) (fun as Q' h => q_check_words as Q' h)))
  obtain ⟨fd_is_whole_row, F_is_whole_row⟩ := c.s.d.def_ 2 (d := d_is_whole_row) rfl
  have K_is_whole_row : FnX P w K mg base 1 "is_whole_row" sp_is_whole_row := fnX_mk (ps := ["value", "length", "high"]) X G (c.s.d.fact 26 (f := .glo "is_whole_row") rfl) F_is_whole_row (fun _ _ _ _ _ _ us hl => match us, hl with | [_, _, _], _ => rfl) (w_is_whole_row (k := 0) (dsp := sp_is_whole_row) T F_is_whole_row  (fun as Q' Ē h => by first | (obtain ⟨_, rfl, _⟩ := h; rfl) | (obtain ⟨_, _, rfl, _⟩ := h; rfl) | (obtain ⟨_, _, _, rfl, _⟩ := h; rfl) | (obtain ⟨_, _, _, _, rfl, _⟩ := h; rfl) | (obtain ⟨_, _, _, _, _, rfl, _⟩ := h; rfl) | (obtain ⟨_, _, _, _, _, _, rfl, _⟩ := h; rfl) | (obtain ⟨_, _, _, _, _, _, _, rfl, _⟩ := h; rfl) | (obtain ⟨_, _, _, _, _, _, _, _, rfl, _⟩ := h; rfl)) (lg (fun _ _ _ h => h) (fun as Q' h => q_is_whole_row as Q' h)))
  obtain ⟨fd_is_whole, F_is_whole⟩ := c.s.d.def_ 0 (d := d_is_whole) rfl
  have K_is_whole : FnX P w K mg base 1 "is_whole" sp_is_whole := fnX_mk (ps := ["value"]) X G (c.s.d.fact 24 (f := .glo "is_whole") rfl) F_is_whole (fun _ _ _ _ _ _ us hl => match us, hl with | [_], _ => rfl) (w_is_whole (k := 0) (dsp := sp_is_whole) T F_is_whole  (fun as Q' Ē h => by first | (obtain ⟨_, rfl, _⟩ := h; rfl) | (obtain ⟨_, _, rfl, _⟩ := h; rfl) | (obtain ⟨_, _, _, rfl, _⟩ := h; rfl) | (obtain ⟨_, _, _, _, rfl, _⟩ := h; rfl) | (obtain ⟨_, _, _, _, _, rfl, _⟩ := h; rfl) | (obtain ⟨_, _, _, _, _, _, rfl, _⟩ := h; rfl) | (obtain ⟨_, _, _, _, _, _, _, rfl, _⟩ := h; rfl) | (obtain ⟨_, _, _, _, _, _, _, _, rfl, _⟩ := h; rfl)) (lg (fun _ _ _ h => h) (fun as Q' h => q_is_whole as Q' h)))
  obtain ⟨fd_is_whole_in, F_is_whole_in⟩ := c.s.d.def_ 1 (d := d_is_whole_in) rfl
  have K_is_whole_in : FnX P w K mg base 2 "is_whole_in" sp_is_whole_in := fnX_mk (ps := ["value", "low", "high"]) X G (c.s.d.fact 25 (f := .glo "is_whole_in") rfl) F_is_whole_in (fun _ _ _ _ _ _ us hl => match us, hl with | [_, _, _], _ => rfl) (w_is_whole_in (k := 1) (dsp := sp_is_whole_in) T F_is_whole_in K_is_whole (by decide) (fun as Q' Ē h => by first | (obtain ⟨_, rfl, _⟩ := h; rfl) | (obtain ⟨_, _, rfl, _⟩ := h; rfl) | (obtain ⟨_, _, _, rfl, _⟩ := h; rfl) | (obtain ⟨_, _, _, _, rfl, _⟩ := h; rfl) | (obtain ⟨_, _, _, _, _, rfl, _⟩ := h; rfl) | (obtain ⟨_, _, _, _, _, _, rfl, _⟩ := h; rfl) | (obtain ⟨_, _, _, _, _, _, _, rfl, _⟩ := h; rfl) | (obtain ⟨_, _, _, _, _, _, _, _, rfl, _⟩ := h; rfl)) (lg (fun _ _ _ h => h) (fun as Q' h => q_is_whole_in as Q' h)))
  obtain ⟨fd_is_offer, F_is_offer⟩ := c.s.d.def_ 9 (d := d_is_offer) rfl
  have K_is_offer : FnX P w K mg base 3 "is_offer" sp_is_offer := fnX_mk (ps := ["value", "many_kinds"]) X G (c.s.d.fact 35 (f := .glo "is_offer") rfl) F_is_offer (fun _ _ _ _ _ _ us hl => match us, hl with | [_, _], _ => rfl) (w_is_offer (k := 2) (dsp := sp_is_offer) T F_is_offer K_is_whole_row (by decide) K_is_whole_in (by decide) (fun as Q' Ē h => by first | (obtain ⟨_, rfl, _⟩ := h; rfl) | (obtain ⟨_, _, rfl, _⟩ := h; rfl) | (obtain ⟨_, _, _, rfl, _⟩ := h; rfl) | (obtain ⟨_, _, _, _, rfl, _⟩ := h; rfl) | (obtain ⟨_, _, _, _, _, rfl, _⟩ := h; rfl) | (obtain ⟨_, _, _, _, _, _, rfl, _⟩ := h; rfl) | (obtain ⟨_, _, _, _, _, _, _, rfl, _⟩ := h; rfl) | (obtain ⟨_, _, _, _, _, _, _, _, rfl, _⟩ := h; rfl)) (lg (fun _ _ _ h => h) (fun as Q' h => q_is_offer as Q' h)))
  obtain ⟨fd_check_offers, F_check_offers⟩ := c.s.d.def_ 10 (d := d_check_offers) rfl
  have K_check_offers : FnX P w K mg base 4 "check_offers" sp_check_offers := fnX_mk (ps := ["offers", "many_kinds"]) X G (c.s.d.fact 36 (f := .glo "check_offers") rfl) F_check_offers (fun _ _ _ _ _ _ us hl => match us, hl with | [_, _], _ => rfl) (w_check_offers (k := 3) (dsp := sp_check_offers) T F_check_offers K_is_offer (by decide) (fun as Q' Ē h => by first | (obtain ⟨_, rfl, _⟩ := h; rfl) | (obtain ⟨_, _, rfl, _⟩ := h; rfl) | (obtain ⟨_, _, _, rfl, _⟩ := h; rfl) | (obtain ⟨_, _, _, _, rfl, _⟩ := h; rfl) | (obtain ⟨_, _, _, _, _, rfl, _⟩ := h; rfl) | (obtain ⟨_, _, _, _, _, _, rfl, _⟩ := h; rfl) | (obtain ⟨_, _, _, _, _, _, _, rfl, _⟩ := h; rfl) | (obtain ⟨_, _, _, _, _, _, _, _, rfl, _⟩ := h; rfl)) (lg (fun _ _ _ h => h) (fun as Q' h => q_check_offers as Q' h)))
  obtain ⟨fd_unit, F_unit⟩ := c.s.d.def_ 11 (d := d_unit) rfl
  have K_unit : FnX P w K mg base 1 "unit" sp_unit := fnX_mk (ps := ["many_kinds", "kind"]) X G (c.s.d.fact 37 (f := .glo "unit") rfl) F_unit (fun _ _ _ _ _ _ us hl => match us, hl with | [_, _], _ => rfl) (w_unit (k := 0) (dsp := sp_unit) T F_unit  (fun as Q' Ē h => by first | (obtain ⟨_, rfl, _⟩ := h; rfl) | (obtain ⟨_, _, rfl, _⟩ := h; rfl) | (obtain ⟨_, _, _, rfl, _⟩ := h; rfl) | (obtain ⟨_, _, _, _, rfl, _⟩ := h; rfl) | (obtain ⟨_, _, _, _, _, rfl, _⟩ := h; rfl) | (obtain ⟨_, _, _, _, _, _, rfl, _⟩ := h; rfl) | (obtain ⟨_, _, _, _, _, _, _, rfl, _⟩ := h; rfl) | (obtain ⟨_, _, _, _, _, _, _, _, rfl, _⟩ := h; rfl)) (lg (fun _ _ _ h => h) (fun as Q' h => q_unit as Q' h)))
  obtain ⟨fd_check_singles, F_check_singles⟩ := c.s.d.def_ 12 (d := d_check_singles) rfl
  have K_check_singles : FnX P w K mg base 2 "check_singles" sp_check_singles := fnX_mk (ps := ["offers", "many_kinds"]) X G (c.s.d.fact 38 (f := .glo "check_singles") rfl) F_check_singles (fun _ _ _ _ _ _ us hl => match us, hl with | [_, _], _ => rfl) (w_check_singles (k := 1) (dsp := sp_check_singles) T F_check_singles K_unit (by decide) (fun as Q' Ē h => by first | (obtain ⟨_, rfl, _⟩ := h; rfl) | (obtain ⟨_, _, rfl, _⟩ := h; rfl) | (obtain ⟨_, _, _, rfl, _⟩ := h; rfl) | (obtain ⟨_, _, _, _, rfl, _⟩ := h; rfl) | (obtain ⟨_, _, _, _, _, rfl, _⟩ := h; rfl) | (obtain ⟨_, _, _, _, _, _, rfl, _⟩ := h; rfl) | (obtain ⟨_, _, _, _, _, _, _, rfl, _⟩ := h; rfl) | (obtain ⟨_, _, _, _, _, _, _, _, rfl, _⟩ := h; rfl)) (lg (fun _ _ _ h => h) (fun as Q' h => q_check_singles as Q' h)))
  obtain ⟨fd_Book_init, F_Book_init⟩ := c.s.d.def_ 13 (d := d_Book_init) rfl
  have K_Book_init : FnXM P w K mg base 5 "Book" "__init__" sp_Book_init := fnXM_mk (ps := ["self", "kinds", "offers"]) X G (c.s.d.fact 39 (f := .glo "Book") rfl) (c.s.d.fact 131 (f := .cls "Book") rfl) (c.s.d.fact 137 (f := .meth "Book" "__init__") rfl) (c.s.d.fact 136 (f := .mkr "Book") rfl) (exX_e c.s.e) (by decide) F_Book_init (fun _ _ _ _ _ _ us hl => match us, hl with | [_, _, _], _ => rfl) (w_Book_init (k := 4) (dsp := sp_Book_init) T F_Book_init K_check_words (by decide) K_check_offers (by decide) K_check_singles (by decide) (fun as Q' Ē h => by first | (obtain ⟨_, rfl, _⟩ := h; rfl) | (obtain ⟨_, _, rfl, _⟩ := h; rfl) | (obtain ⟨_, _, _, rfl, _⟩ := h; rfl) | (obtain ⟨_, _, _, _, rfl, _⟩ := h; rfl) | (obtain ⟨_, _, _, _, _, rfl, _⟩ := h; rfl) | (obtain ⟨_, _, _, _, _, _, rfl, _⟩ := h; rfl) | (obtain ⟨_, _, _, _, _, _, _, rfl, _⟩ := h; rfl) | (obtain ⟨_, _, _, _, _, _, _, _, rfl, _⟩ := h; rfl)) (lg (fun _ _ _ h => h) (fun as Q' h => q_Book_init as Q' h)))
  obtain ⟨fd__law_made, F__law_made⟩ := c.s.d.def_ 49 (d := d__law_made) rfl
  have K__law_made : FnX P w K mg base 7 "_law_made" sp__law_made := fnX_mk (ps := ["words", "offers"]) X G (c.s.d.fact 65 (f := .glo "_law_made") rfl) F__law_made (fun _ _ _ _ _ _ us hl => match us, hl with | [_, _], _ => rfl) (w__law_made (k := 6) (dsp := sp__law_made) T F__law_made K_Book_init (by decide) (fun as Q' Ē h => by first | (obtain ⟨_, rfl, _⟩ := h; rfl) | (obtain ⟨_, _, rfl, _⟩ := h; rfl) | (obtain ⟨_, _, _, rfl, _⟩ := h; rfl) | (obtain ⟨_, _, _, _, rfl, _⟩ := h; rfl) | (obtain ⟨_, _, _, _, _, rfl, _⟩ := h; rfl) | (obtain ⟨_, _, _, _, _, _, rfl, _⟩ := h; rfl) | (obtain ⟨_, _, _, _, _, _, _, rfl, _⟩ := h; rfl) | (obtain ⟨_, _, _, _, _, _, _, _, rfl, _⟩ := h; rfl)) (lg (fun _ _ _ h => h) (fun as Q' h => q__law_made as Q' h)))
  obtain ⟨fd__law_alike, F__law_alike⟩ := c.s.d.def_ 52 (d := d__law_alike) rfl
  have Z__law_alike : FnX P w K mg base 0 "_law_alike" (fun _ _ _ => False) := fnX_mk (ps := ["answer", "due"]) X G (c.s.d.fact 68 (f := .glo "_law_alike") rfl) F__law_alike (fun _ _ _ _ _ _ us hl => match us, hl with | [_, _], _ => rfl) fn_no
  have K0__law_alike : FnX P w K mg base 1 "_law_alike" (sp__law_alike 0) := fnX_mk (ps := ["answer", "due"]) X G (c.s.d.fact 68 (f := .glo "_law_alike") rfl) F__law_alike (fun _ _ _ _ _ _ us hl => match us, hl with | [_, _], _ => rfl) (w__law_alike (k := 0) (dsp := (sp__law_alike 0)) T F__law_alike Z__law_alike (by decide) (fun as Q' Ē h => by first | (obtain ⟨_, rfl, _⟩ := h; rfl) | (obtain ⟨_, _, rfl, _⟩ := h; rfl) | (obtain ⟨_, _, _, rfl, _⟩ := h; rfl) | (obtain ⟨_, _, _, _, rfl, _⟩ := h; rfl) | (obtain ⟨_, _, _, _, _, rfl, _⟩ := h; rfl) | (obtain ⟨_, _, _, _, _, _, rfl, _⟩ := h; rfl) | (obtain ⟨_, _, _, _, _, _, _, rfl, _⟩ := h; rfl) | (obtain ⟨_, _, _, _, _, _, _, _, rfl, _⟩ := h; rfl)) (lg (fun _ _ _ h => h) (fun as Q' h => q__law_alike0 _ as Q' h)))
  have K1__law_alike : FnX P w K mg base 2 "_law_alike" (sp__law_alike 1) := fnX_mk (ps := ["answer", "due"]) X G (c.s.d.fact 68 (f := .glo "_law_alike") rfl) F__law_alike (fun _ _ _ _ _ _ us hl => match us, hl with | [_, _], _ => rfl) (w__law_alike (k := 1) (dsp := (sp__law_alike 1)) T F__law_alike K0__law_alike (by decide) (fun as Q' Ē h => by first | (obtain ⟨_, rfl, _⟩ := h; rfl) | (obtain ⟨_, _, rfl, _⟩ := h; rfl) | (obtain ⟨_, _, _, rfl, _⟩ := h; rfl) | (obtain ⟨_, _, _, _, rfl, _⟩ := h; rfl) | (obtain ⟨_, _, _, _, _, rfl, _⟩ := h; rfl) | (obtain ⟨_, _, _, _, _, _, rfl, _⟩ := h; rfl) | (obtain ⟨_, _, _, _, _, _, _, rfl, _⟩ := h; rfl) | (obtain ⟨_, _, _, _, _, _, _, _, rfl, _⟩ := h; rfl)) (lg (fun _ _ _ h => h) (fun as Q' h => q__law_alike 0 as Q' h)))
  have K2__law_alike : FnX P w K mg base 3 "_law_alike" (sp__law_alike 2) := fnX_mk (ps := ["answer", "due"]) X G (c.s.d.fact 68 (f := .glo "_law_alike") rfl) F__law_alike (fun _ _ _ _ _ _ us hl => match us, hl with | [_, _], _ => rfl) (w__law_alike (k := 2) (dsp := (sp__law_alike 2)) T F__law_alike K1__law_alike (by decide) (fun as Q' Ē h => by first | (obtain ⟨_, rfl, _⟩ := h; rfl) | (obtain ⟨_, _, rfl, _⟩ := h; rfl) | (obtain ⟨_, _, _, rfl, _⟩ := h; rfl) | (obtain ⟨_, _, _, _, rfl, _⟩ := h; rfl) | (obtain ⟨_, _, _, _, _, rfl, _⟩ := h; rfl) | (obtain ⟨_, _, _, _, _, _, rfl, _⟩ := h; rfl) | (obtain ⟨_, _, _, _, _, _, _, rfl, _⟩ := h; rfl) | (obtain ⟨_, _, _, _, _, _, _, _, rfl, _⟩ := h; rfl)) (lg (fun _ _ _ h => h) (fun as Q' h => q__law_alike 1 as Q' h)))
  have K__law_alike : FnX P w K mg base 4 "_law_alike" (sp__law_alike 3) := fnX_mk (ps := ["answer", "due"]) X G (c.s.d.fact 68 (f := .glo "_law_alike") rfl) F__law_alike (fun _ _ _ _ _ _ us hl => match us, hl with | [_, _], _ => rfl) (w__law_alike (k := 3) (dsp := (sp__law_alike 3)) T F__law_alike K2__law_alike (by decide) (fun as Q' Ē h => by first | (obtain ⟨_, rfl, _⟩ := h; rfl) | (obtain ⟨_, _, rfl, _⟩ := h; rfl) | (obtain ⟨_, _, _, rfl, _⟩ := h; rfl) | (obtain ⟨_, _, _, _, rfl, _⟩ := h; rfl) | (obtain ⟨_, _, _, _, _, rfl, _⟩ := h; rfl) | (obtain ⟨_, _, _, _, _, _, rfl, _⟩ := h; rfl) | (obtain ⟨_, _, _, _, _, _, _, rfl, _⟩ := h; rfl) | (obtain ⟨_, _, _, _, _, _, _, _, rfl, _⟩ := h; rfl)) (lg (fun _ _ _ h => h) (fun as Q' h => q__law_alike 2 as Q' h)))
  obtain ⟨fd_check_basket, F_check_basket⟩ := c.s.d.def_ 19 (d := d_check_basket) rfl
  have K_check_basket : FnX P w K mg base 2 "check_basket" sp_check_basket := fnX_mk (ps := ["book", "x"]) X G (c.s.d.fact 40 (f := .glo "check_basket") rfl) F_check_basket (fun _ _ _ _ _ _ us hl => match us, hl with | [_, _], _ => rfl) (w_check_basket (k := 1) (dsp := sp_check_basket) T F_check_basket K_is_whole_row (by decide) (fun as Q' Ē h => by first | (obtain ⟨_, rfl, _⟩ := h; rfl) | (obtain ⟨_, _, rfl, _⟩ := h; rfl) | (obtain ⟨_, _, _, rfl, _⟩ := h; rfl) | (obtain ⟨_, _, _, _, rfl, _⟩ := h; rfl) | (obtain ⟨_, _, _, _, _, rfl, _⟩ := h; rfl) | (obtain ⟨_, _, _, _, _, _, rfl, _⟩ := h; rfl) | (obtain ⟨_, _, _, _, _, _, _, rfl, _⟩ := h; rfl) | (obtain ⟨_, _, _, _, _, _, _, _, rfl, _⟩ := h; rfl)) (lg (fun _ _ _ h => h) (fun as Q' h => q_check_basket as Q' h)))
  obtain ⟨fd_is_basket, F_is_basket⟩ := c.s.d.def_ 3 (d := d_is_basket) rfl
  have K_is_basket : FnX P w K mg base 2 "is_basket" sp_is_basket := fnX_mk (ps := ["value"]) X G (c.s.d.fact 27 (f := .glo "is_basket") rfl) F_is_basket (fun _ _ _ _ _ _ us hl => match us, hl with | [_], _ => rfl) (w_is_basket (k := 1) (dsp := sp_is_basket) T F_is_basket K_is_whole_row (by decide) (fun as Q' Ē h => by first | (obtain ⟨_, rfl, _⟩ := h; rfl) | (obtain ⟨_, _, rfl, _⟩ := h; rfl) | (obtain ⟨_, _, _, rfl, _⟩ := h; rfl) | (obtain ⟨_, _, _, _, rfl, _⟩ := h; rfl) | (obtain ⟨_, _, _, _, _, rfl, _⟩ := h; rfl) | (obtain ⟨_, _, _, _, _, _, rfl, _⟩ := h; rfl) | (obtain ⟨_, _, _, _, _, _, _, rfl, _⟩ := h; rfl) | (obtain ⟨_, _, _, _, _, _, _, _, rfl, _⟩ := h; rfl)) (lg (fun _ _ _ h => h) (fun as Q' h => q_is_basket as Q' h)))
  obtain ⟨fd_check_one, F_check_one⟩ := c.s.d.def_ 4 (d := d_check_one) rfl
  have K_check_one : FnX P w K mg base 3 "check_one" sp_check_one := fnX_mk (ps := ["x"]) X G (c.s.d.fact 28 (f := .glo "check_one") rfl) F_check_one (fun _ _ _ _ _ _ us hl => match us, hl with | [_], _ => rfl) (w_check_one (k := 2) (dsp := sp_check_one) T F_check_one K_is_basket (by decide) (fun as Q' Ē h => by first | (obtain ⟨_, rfl, _⟩ := h; rfl) | (obtain ⟨_, _, rfl, _⟩ := h; rfl) | (obtain ⟨_, _, _, rfl, _⟩ := h; rfl) | (obtain ⟨_, _, _, _, rfl, _⟩ := h; rfl) | (obtain ⟨_, _, _, _, _, rfl, _⟩ := h; rfl) | (obtain ⟨_, _, _, _, _, _, rfl, _⟩ := h; rfl) | (obtain ⟨_, _, _, _, _, _, _, rfl, _⟩ := h; rfl) | (obtain ⟨_, _, _, _, _, _, _, _, rfl, _⟩ := h; rfl)) (lg (fun _ _ _ h => h) (fun as Q' h => q_check_one as Q' h)))
  obtain ⟨fd_cells, F_cells⟩ := c.s.d.def_ 5 (d := d_cells) rfl
  have K_cells : FnX P w K mg base 4 "cells" sp_cells := fnX_mk (ps := ["x"]) X G (c.s.d.fact 29 (f := .glo "cells") rfl) F_cells (fun _ _ _ _ _ _ us hl => match us, hl with | [_], _ => rfl) (w_cells (k := 3) (dsp := sp_cells) T F_cells K_check_one (by decide) (fun as Q' Ē h => by first | (obtain ⟨_, rfl, _⟩ := h; rfl) | (obtain ⟨_, _, rfl, _⟩ := h; rfl) | (obtain ⟨_, _, _, rfl, _⟩ := h; rfl) | (obtain ⟨_, _, _, _, rfl, _⟩ := h; rfl) | (obtain ⟨_, _, _, _, _, rfl, _⟩ := h; rfl) | (obtain ⟨_, _, _, _, _, _, rfl, _⟩ := h; rfl) | (obtain ⟨_, _, _, _, _, _, _, rfl, _⟩ := h; rfl) | (obtain ⟨_, _, _, _, _, _, _, _, rfl, _⟩ := h; rfl)) (lg (fun _ _ _ h => h) (fun as Q' h => q_cells as Q' h)))
  obtain ⟨fd_strides, F_strides⟩ := c.s.d.def_ 23 (d := d_strides) rfl
  have K_strides : FnX P w K mg base 1 "strides" sp_strides := fnX_mk (ps := ["top"]) X G (c.s.d.fact 44 (f := .glo "strides") rfl) F_strides (fun _ _ _ _ _ _ us hl => match us, hl with | [_], _ => rfl) (w_strides (k := 0) (dsp := sp_strides) T F_strides  (fun as Q' Ē h => by first | (obtain ⟨_, rfl, _⟩ := h; rfl) | (obtain ⟨_, _, rfl, _⟩ := h; rfl) | (obtain ⟨_, _, _, rfl, _⟩ := h; rfl) | (obtain ⟨_, _, _, _, rfl, _⟩ := h; rfl) | (obtain ⟨_, _, _, _, _, rfl, _⟩ := h; rfl) | (obtain ⟨_, _, _, _, _, _, rfl, _⟩ := h; rfl) | (obtain ⟨_, _, _, _, _, _, _, rfl, _⟩ := h; rfl) | (obtain ⟨_, _, _, _, _, _, _, _, rfl, _⟩ := h; rfl)) (lg (fun _ _ _ h => h) (fun as Q' h => q_strides as Q' h)))
  obtain ⟨fd_spot, F_spot⟩ := c.s.d.def_ 24 (d := d_spot) rfl
  have K_spot : FnX P w K mg base 1 "spot" sp_spot := fnX_mk (ps := ["basket", "row"]) X G (c.s.d.fact 45 (f := .glo "spot") rfl) F_spot (fun _ _ _ _ _ _ us hl => match us, hl with | [_, _], _ => rfl) (w_spot (k := 0) (dsp := sp_spot) T F_spot  (fun as Q' Ē h => by first | (obtain ⟨_, rfl, _⟩ := h; rfl) | (obtain ⟨_, _, rfl, _⟩ := h; rfl) | (obtain ⟨_, _, _, rfl, _⟩ := h; rfl) | (obtain ⟨_, _, _, _, rfl, _⟩ := h; rfl) | (obtain ⟨_, _, _, _, _, rfl, _⟩ := h; rfl) | (obtain ⟨_, _, _, _, _, _, rfl, _⟩ := h; rfl) | (obtain ⟨_, _, _, _, _, _, _, rfl, _⟩ := h; rfl) | (obtain ⟨_, _, _, _, _, _, _, _, rfl, _⟩ := h; rfl)) (lg (fun _ _ _ h => h) (fun as Q' h => q_spot as Q' h)))
  obtain ⟨fd_lies_in, F_lies_in⟩ := c.s.d.def_ 21 (d := d_lies_in) rfl
  have K_lies_in : FnX P w K mg base 1 "lies_in" sp_lies_in := fnX_mk (ps := ["bundle", "basket"]) X G (c.s.d.fact 42 (f := .glo "lies_in") rfl) F_lies_in (fun _ _ _ _ _ _ us hl => match us, hl with | [_, _], _ => rfl) (w_lies_in (k := 0) (dsp := sp_lies_in) T F_lies_in  (fun as Q' Ē h => by first | (obtain ⟨_, rfl, _⟩ := h; rfl) | (obtain ⟨_, _, rfl, _⟩ := h; rfl) | (obtain ⟨_, _, _, rfl, _⟩ := h; rfl) | (obtain ⟨_, _, _, _, rfl, _⟩ := h; rfl) | (obtain ⟨_, _, _, _, _, rfl, _⟩ := h; rfl) | (obtain ⟨_, _, _, _, _, _, rfl, _⟩ := h; rfl) | (obtain ⟨_, _, _, _, _, _, _, rfl, _⟩ := h; rfl) | (obtain ⟨_, _, _, _, _, _, _, _, rfl, _⟩ := h; rfl)) (lg (fun _ _ _ h => h) (fun as Q' h => q_lies_in as Q' h)))
  obtain ⟨fd_least_worths, F_least_worths⟩ := c.s.d.def_ 25 (d := d_least_worths) rfl
  have K_least_worths : FnX P w K mg base 2 "least_worths" sp_least_worths := fnX_mk (ps := ["deals", "baskets"]) X G (c.s.d.fact 46 (f := .glo "least_worths") rfl) F_least_worths (fun _ _ _ _ _ _ us hl => match us, hl with | [_, _], _ => rfl) (w_least_worths (k := 1) (dsp := sp_least_worths) T F_least_worths K_lies_in (by decide) (fun as Q' Ē h => by first | (obtain ⟨_, rfl, _⟩ := h; rfl) | (obtain ⟨_, _, rfl, _⟩ := h; rfl) | (obtain ⟨_, _, _, rfl, _⟩ := h; rfl) | (obtain ⟨_, _, _, _, rfl, _⟩ := h; rfl) | (obtain ⟨_, _, _, _, _, rfl, _⟩ := h; rfl) | (obtain ⟨_, _, _, _, _, _, rfl, _⟩ := h; rfl) | (obtain ⟨_, _, _, _, _, _, _, rfl, _⟩ := h; rfl) | (obtain ⟨_, _, _, _, _, _, _, _, rfl, _⟩ := h; rfl)) (lg (fun _ _ _ h => h) (fun as Q' h => q_least_worths as Q' h)))
  obtain ⟨fd_box, F_box⟩ := c.s.d.def_ 6 (d := d_box) rfl
  have K_box : FnX P w K mg base 5 "box" sp_box := fnX_mk (ps := ["x"]) X G (c.s.d.fact 30 (f := .glo "box") rfl) F_box (fun _ _ _ _ _ _ us hl => match us, hl with | [_], _ => rfl) (w_box (k := 4) (dsp := sp_box) T F_box K_cells (by decide) (fun as Q' Ē h => by first | (obtain ⟨_, rfl, _⟩ := h; rfl) | (obtain ⟨_, _, rfl, _⟩ := h; rfl) | (obtain ⟨_, _, _, rfl, _⟩ := h; rfl) | (obtain ⟨_, _, _, _, rfl, _⟩ := h; rfl) | (obtain ⟨_, _, _, _, _, rfl, _⟩ := h; rfl) | (obtain ⟨_, _, _, _, _, _, rfl, _⟩ := h; rfl) | (obtain ⟨_, _, _, _, _, _, _, rfl, _⟩ := h; rfl) | (obtain ⟨_, _, _, _, _, _, _, _, rfl, _⟩ := h; rfl)) (lg (fun _ _ _ h => h) (fun as Q' h => q_box as Q' h)))
  obtain ⟨fd_Table_init, F_Table_init⟩ := c.s.d.def_ 26 (d := d_Table_init) rfl
  have K_Table_init : FnXM P w K mg base 6 "Table" "__init__" sp_Table_init := fnXM_mk (ps := ["self", "book", "top"]) X G (c.s.d.fact 47 (f := .glo "Table") rfl) (c.s.d.fact 143 (f := .cls "Table") rfl) (c.s.d.fact 149 (f := .meth "Table" "__init__") rfl) (c.s.d.fact 148 (f := .mkr "Table") rfl) (exX_e c.s.e) (by decide) F_Table_init (fun _ _ _ _ _ _ us hl => match us, hl with | [_, _, _], _ => rfl) (w_Table_init (k := 5) (dsp := sp_Table_init) T F_Table_init K_check_basket (by decide) K_cells (by decide) K_strides (by decide) K_spot (by decide) K_least_worths (by decide) K_box (by decide) (fun as Q' Ē h => by first | (obtain ⟨_, rfl, _⟩ := h; rfl) | (obtain ⟨_, _, rfl, _⟩ := h; rfl) | (obtain ⟨_, _, _, rfl, _⟩ := h; rfl) | (obtain ⟨_, _, _, _, rfl, _⟩ := h; rfl) | (obtain ⟨_, _, _, _, _, rfl, _⟩ := h; rfl) | (obtain ⟨_, _, _, _, _, _, rfl, _⟩ := h; rfl) | (obtain ⟨_, _, _, _, _, _, _, rfl, _⟩ := h; rfl) | (obtain ⟨_, _, _, _, _, _, _, _, rfl, _⟩ := h; rfl)) (lg (fun _ _ _ h => h) (fun as Q' h => q_Table_init as Q' h)))
  obtain ⟨fd_box_prices, F_box_prices⟩ := c.s.d.def_ 32 (d := d_box_prices) rfl
  have K_box_prices : FnX P w K mg base 8 "box_prices" sp_box_prices := fnX_mk (ps := ["book", "top"]) X G (c.s.d.fact 48 (f := .glo "box_prices") rfl) F_box_prices (fun _ _ _ _ _ _ us hl => match us, hl with | [_, _], _ => rfl) (w_box_prices (k := 7) (dsp := sp_box_prices) T F_box_prices K_Table_init (by decide) (fun as Q' Ē h => by first | (obtain ⟨_, rfl, _⟩ := h; rfl) | (obtain ⟨_, _, rfl, _⟩ := h; rfl) | (obtain ⟨_, _, _, rfl, _⟩ := h; rfl) | (obtain ⟨_, _, _, _, rfl, _⟩ := h; rfl) | (obtain ⟨_, _, _, _, _, rfl, _⟩ := h; rfl) | (obtain ⟨_, _, _, _, _, _, rfl, _⟩ := h; rfl) | (obtain ⟨_, _, _, _, _, _, _, rfl, _⟩ := h; rfl) | (obtain ⟨_, _, _, _, _, _, _, _, rfl, _⟩ := h; rfl)) (lg (fun _ _ _ h => h) (fun as Q' h => q_box_prices as Q' h)))
  obtain ⟨fd_last_needed, F_last_needed⟩ := c.s.d.def_ 38 (d := d_last_needed) rfl
  have K_last_needed : FnX P w K mg base 1 "last_needed" sp_last_needed := fnX_mk (ps := ["numbers"]) X G (c.s.d.fact 54 (f := .glo "last_needed") rfl) F_last_needed (fun _ _ _ _ _ _ us hl => match us, hl with | [_], _ => rfl) (w_last_needed (k := 0) (dsp := sp_last_needed) T F_last_needed  (fun as Q' Ē h => by first | (obtain ⟨_, rfl, _⟩ := h; rfl) | (obtain ⟨_, _, rfl, _⟩ := h; rfl) | (obtain ⟨_, _, _, rfl, _⟩ := h; rfl) | (obtain ⟨_, _, _, _, rfl, _⟩ := h; rfl) | (obtain ⟨_, _, _, _, _, rfl, _⟩ := h; rfl) | (obtain ⟨_, _, _, _, _, _, rfl, _⟩ := h; rfl) | (obtain ⟨_, _, _, _, _, _, _, rfl, _⟩ := h; rfl) | (obtain ⟨_, _, _, _, _, _, _, _, rfl, _⟩ := h; rfl)) (lg (fun _ _ _ h => h) (fun as Q' h => q_last_needed as Q' h)))
  obtain ⟨PR_Book_bundles, fd_Book_bundles, F_Book_bundles⟩ := c.prop 0 (d := p_Book_bundles) rfl
  have K_Book_bundles : FnXP P w K mg base 1 "Book" "bundles" sp_Book_bundles := fnXP_mk (d := p_Book_bundles) (ps := ["self"]) X G (c.s.d.fact 39 (f := .glo "Book") rfl) (c.s.d.fact 131 (f := .cls "Book") rfl) PR_Book_bundles F_Book_bundles (fun _ _ _ _ _ _ us hl => match us, hl with | [_], _ => rfl) (w_Book_bundles (k := 0) (dsp := sp_Book_bundles) T F_Book_bundles  (fun as Q' Ē h => by first | (obtain ⟨_, rfl, _⟩ := h; rfl) | (obtain ⟨_, _, rfl, _⟩ := h; rfl) | (obtain ⟨_, _, _, rfl, _⟩ := h; rfl) | (obtain ⟨_, _, _, _, rfl, _⟩ := h; rfl) | (obtain ⟨_, _, _, _, _, rfl, _⟩ := h; rfl) | (obtain ⟨_, _, _, _, _, _, rfl, _⟩ := h; rfl) | (obtain ⟨_, _, _, _, _, _, _, rfl, _⟩ := h; rfl) | (obtain ⟨_, _, _, _, _, _, _, _, rfl, _⟩ := h; rfl)) (lg (fun _ _ _ h => h) (fun as Q' h => q_Book_bundles as Q' h)))
  obtain ⟨fd_least_offers, F_least_offers⟩ := c.s.d.def_ 39 (d := d_least_offers) rfl
  have K_least_offers : FnX P w K mg base 9 "least_offers" sp_least_offers := fnX_mk (ps := ["book"]) X G (c.s.d.fact 55 (f := .glo "least_offers") rfl) F_least_offers (fun _ _ _ _ _ _ us hl => match us, hl with | [_], _ => rfl) (w_least_offers (k := 8) (dsp := sp_least_offers) T F_least_offers K_Book_bundles (by decide) K_box_prices (by decide) K_last_needed (by decide) (fun as Q' Ē h => by first | (obtain ⟨_, rfl, _⟩ := h; rfl) | (obtain ⟨_, _, rfl, _⟩ := h; rfl) | (obtain ⟨_, _, _, rfl, _⟩ := h; rfl) | (obtain ⟨_, _, _, _, rfl, _⟩ := h; rfl) | (obtain ⟨_, _, _, _, _, rfl, _⟩ := h; rfl) | (obtain ⟨_, _, _, _, _, _, rfl, _⟩ := h; rfl) | (obtain ⟨_, _, _, _, _, _, _, rfl, _⟩ := h; rfl) | (obtain ⟨_, _, _, _, _, _, _, _, rfl, _⟩ := h; rfl)) (lg (fun _ _ _ h => h) (fun as Q' h => q_least_offers as Q' h)))
  obtain ⟨fd_same_prices, F_same_prices⟩ := c.s.d.def_ 41 (d := d_same_prices) rfl
  have K_same_prices : FnX P w K mg base 10 "same_prices" sp_same_prices := fnX_mk (ps := ["one", "other"]) X G (c.s.d.fact 57 (f := .glo "same_prices") rfl) F_same_prices (fun _ _ _ _ _ _ us hl => match us, hl with | [_, _], _ => rfl) (w_same_prices (k := 9) (dsp := sp_same_prices) T F_same_prices K_least_offers (by decide) (fun as Q' Ē h => by first | (obtain ⟨_, rfl, _⟩ := h; rfl) | (obtain ⟨_, _, rfl, _⟩ := h; rfl) | (obtain ⟨_, _, _, rfl, _⟩ := h; rfl) | (obtain ⟨_, _, _, _, rfl, _⟩ := h; rfl) | (obtain ⟨_, _, _, _, _, rfl, _⟩ := h; rfl) | (obtain ⟨_, _, _, _, _, _, rfl, _⟩ := h; rfl) | (obtain ⟨_, _, _, _, _, _, _, rfl, _⟩ := h; rfl) | (obtain ⟨_, _, _, _, _, _, _, _, rfl, _⟩ := h; rfl)) (lx (fun as Q' Ē h => q_same_prices as Q' Ē h)))
  obtain ⟨fd__law_named, F__law_named⟩ := c.s.d.def_ 51 (d := d__law_named) rfl
  have K__law_named : FnHot P w K mg base 1 "_law_named" sp__law_named := fnHot_mk (n := "e") X G (c.s.d.fact 67 (f := .glo "_law_named") rfl) F__law_named (fun _ _ _ _ _ _ us hl => match us, hl with | [_], _ => rfl) (fun a cc C dd hm => w__law_named (k := 0) (hsp := sp__law_named) T F__law_named  hcs__law_named (fun a cc dd fs Q' h => q__law_named a cc dd fs Q' h) a cc C dd hm)
  obtain ⟨fd_check_alike, F_check_alike⟩ := c.s.d.def_ 34 (d := d_check_alike) rfl
  have K_check_alike : FnX P w K mg base 1 "check_alike" sp_check_alike := fnX_mk (ps := ["one", "other"]) X G (c.s.d.fact 50 (f := .glo "check_alike") rfl) F_check_alike (fun _ _ _ _ _ _ us hl => match us, hl with | [_, _], _ => rfl) (w_check_alike (k := 0) (dsp := sp_check_alike) T F_check_alike  (fun as Q' Ē h => by first | (obtain ⟨_, rfl, _⟩ := h; rfl) | (obtain ⟨_, _, rfl, _⟩ := h; rfl) | (obtain ⟨_, _, _, rfl, _⟩ := h; rfl) | (obtain ⟨_, _, _, _, rfl, _⟩ := h; rfl) | (obtain ⟨_, _, _, _, _, rfl, _⟩ := h; rfl) | (obtain ⟨_, _, _, _, _, _, rfl, _⟩ := h; rfl) | (obtain ⟨_, _, _, _, _, _, _, rfl, _⟩ := h; rfl) | (obtain ⟨_, _, _, _, _, _, _, _, rfl, _⟩ := h; rfl)) (lx (fun as Q' Ē h => q_check_alike as Q' Ē h)))
  obtain ⟨fd_lies_below, F_lies_below⟩ := c.s.d.def_ 20 (d := d_lies_below) rfl
  have K_lies_below : FnX P w K mg base 1 "lies_below" sp_lies_below := fnX_mk (ps := ["value", "top"]) X G (c.s.d.fact 41 (f := .glo "lies_below") rfl) F_lies_below (fun _ _ _ _ _ _ us hl => match us, hl with | [_, _], _ => rfl) (w_lies_below (k := 0) (dsp := sp_lies_below) T F_lies_below  (fun as Q' Ē h => by first | (obtain ⟨_, rfl, _⟩ := h; rfl) | (obtain ⟨_, _, rfl, _⟩ := h; rfl) | (obtain ⟨_, _, _, rfl, _⟩ := h; rfl) | (obtain ⟨_, _, _, _, rfl, _⟩ := h; rfl) | (obtain ⟨_, _, _, _, _, rfl, _⟩ := h; rfl) | (obtain ⟨_, _, _, _, _, _, rfl, _⟩ := h; rfl) | (obtain ⟨_, _, _, _, _, _, _, rfl, _⟩ := h; rfl) | (obtain ⟨_, _, _, _, _, _, _, _, rfl, _⟩ := h; rfl)) (lg (fun _ _ _ h => h) (fun as Q' h => q_lies_below as Q' h)))
  obtain ⟨fd_Table_call, F_Table_call⟩ := c.s.d.def_ 27 (d := d_Table_call) rfl
  have K_Table_call : FnXM P w K mg base 2 "Table" "__call__" sp_Table_call := fnXM_mk (ps := ["self", "x"]) X G (c.s.d.fact 47 (f := .glo "Table") rfl) (c.s.d.fact 143 (f := .cls "Table") rfl) (c.s.d.fact 150 (f := .meth "Table" "__call__") rfl) (c.s.d.fact 148 (f := .mkr "Table") rfl) (exX_e c.s.e) (by decide) F_Table_call (fun _ _ _ _ _ _ us hl => match us, hl with | [_, _], _ => rfl) (w_Table_call (k := 1) (dsp := sp_Table_call) T F_Table_call K_lies_below (by decide) K_spot (by decide) (fun as Q' Ē h => by first | (obtain ⟨_, rfl, _⟩ := h; rfl) | (obtain ⟨_, _, rfl, _⟩ := h; rfl) | (obtain ⟨_, _, _, rfl, _⟩ := h; rfl) | (obtain ⟨_, _, _, _, rfl, _⟩ := h; rfl) | (obtain ⟨_, _, _, _, _, rfl, _⟩ := h; rfl) | (obtain ⟨_, _, _, _, _, _, rfl, _⟩ := h; rfl) | (obtain ⟨_, _, _, _, _, _, _, rfl, _⟩ := h; rfl) | (obtain ⟨_, _, _, _, _, _, _, _, rfl, _⟩ := h; rfl)) (lg (fun _ _ _ h => h) (fun as Q' h => q_Table_call as Q' h)))
  obtain ⟨fd_cheapest_price, F_cheapest_price⟩ := c.s.d.def_ 33 (d := d_cheapest_price) rfl
  have K_cheapest_price : FnX P w K mg base 8 "cheapest_price" sp_cheapest_price := fnX_mk (ps := ["book", "x"]) X G (c.s.d.fact 49 (f := .glo "cheapest_price") rfl) F_cheapest_price (fun _ _ _ _ _ _ us hl => match us, hl with | [_, _], _ => rfl) (w_cheapest_price (k := 7) (dsp := sp_cheapest_price) T F_cheapest_price K_Table_init (by decide) K_Table_call (by decide) (fun as Q' Ē h => by first | (obtain ⟨_, rfl, _⟩ := h; rfl) | (obtain ⟨_, _, rfl, _⟩ := h; rfl) | (obtain ⟨_, _, _, rfl, _⟩ := h; rfl) | (obtain ⟨_, _, _, _, rfl, _⟩ := h; rfl) | (obtain ⟨_, _, _, _, _, rfl, _⟩ := h; rfl) | (obtain ⟨_, _, _, _, _, _, rfl, _⟩ := h; rfl) | (obtain ⟨_, _, _, _, _, _, _, rfl, _⟩ := h; rfl) | (obtain ⟨_, _, _, _, _, _, _, _, rfl, _⟩ := h; rfl)) (lg (fun _ _ _ h => h) (fun as Q' h => q_cheapest_price as Q' h)))
  obtain ⟨fd_dearer_place, F_dearer_place⟩ := c.s.d.def_ 35 (d := d_dearer_place) rfl
  have K_dearer_place : FnX P w K mg base 9 "dearer_place" sp_dearer_place := fnX_mk (ps := ["one", "other"]) X G (c.s.d.fact 51 (f := .glo "dearer_place") rfl) F_dearer_place (fun _ _ _ _ _ _ us hl => match us, hl with | [_, _], _ => rfl) (w_dearer_place (k := 8) (dsp := sp_dearer_place) T F_dearer_place K_check_alike (by decide) K_cheapest_price (by decide) (fun as Q' Ē h => by first | (obtain ⟨_, rfl, _⟩ := h; rfl) | (obtain ⟨_, _, rfl, _⟩ := h; rfl) | (obtain ⟨_, _, _, rfl, _⟩ := h; rfl) | (obtain ⟨_, _, _, _, rfl, _⟩ := h; rfl) | (obtain ⟨_, _, _, _, _, rfl, _⟩ := h; rfl) | (obtain ⟨_, _, _, _, _, _, rfl, _⟩ := h; rfl) | (obtain ⟨_, _, _, _, _, _, _, rfl, _⟩ := h; rfl) | (obtain ⟨_, _, _, _, _, _, _, _, rfl, _⟩ := h; rfl)) (lx (fun as Q' Ē h => q_dearer_place as Q' Ē h)))
  obtain ⟨fd_is_never_dearer, F_is_never_dearer⟩ := c.s.d.def_ 36 (d := d_is_never_dearer) rfl
  have K_is_never_dearer : FnX P w K mg base 10 "is_never_dearer" sp_is_never_dearer := fnX_mk (ps := ["one", "other"]) X G (c.s.d.fact 52 (f := .glo "is_never_dearer") rfl) F_is_never_dearer (fun _ _ _ _ _ _ us hl => match us, hl with | [_, _], _ => rfl) (w_is_never_dearer (k := 9) (dsp := sp_is_never_dearer) T F_is_never_dearer K_dearer_place (by decide) (fun as Q' Ē h => by first | (obtain ⟨_, rfl, _⟩ := h; rfl) | (obtain ⟨_, _, rfl, _⟩ := h; rfl) | (obtain ⟨_, _, _, rfl, _⟩ := h; rfl) | (obtain ⟨_, _, _, _, rfl, _⟩ := h; rfl) | (obtain ⟨_, _, _, _, _, rfl, _⟩ := h; rfl) | (obtain ⟨_, _, _, _, _, _, rfl, _⟩ := h; rfl) | (obtain ⟨_, _, _, _, _, _, _, rfl, _⟩ := h; rfl) | (obtain ⟨_, _, _, _, _, _, _, _, rfl, _⟩ := h; rfl)) (lx (fun as Q' Ē h => q_is_never_dearer as Q' Ē h)))
  obtain ⟨fd_compare_word, F_compare_word⟩ := c.s.d.def_ 37 (d := d_compare_word) rfl
  have K_compare_word : FnX P w K mg base 11 "compare_word" sp_compare_word := fnX_mk (ps := ["one", "other"]) X G (c.s.d.fact 53 (f := .glo "compare_word") rfl) F_compare_word (fun _ _ _ _ _ _ us hl => match us, hl with | [_, _], _ => rfl) (w_compare_word (k := 10) (dsp := sp_compare_word) T F_compare_word K_is_never_dearer (by decide) (fun as Q' Ē h => by first | (obtain ⟨_, rfl, _⟩ := h; rfl) | (obtain ⟨_, _, rfl, _⟩ := h; rfl) | (obtain ⟨_, _, _, rfl, _⟩ := h; rfl) | (obtain ⟨_, _, _, _, rfl, _⟩ := h; rfl) | (obtain ⟨_, _, _, _, _, rfl, _⟩ := h; rfl) | (obtain ⟨_, _, _, _, _, _, rfl, _⟩ := h; rfl) | (obtain ⟨_, _, _, _, _, _, _, rfl, _⟩ := h; rfl) | (obtain ⟨_, _, _, _, _, _, _, _, rfl, _⟩ := h; rfl)) (lx (fun as Q' Ē h => q_compare_word as Q' Ē h)))
  obtain ⟨fd__law_told, F__law_told⟩ := c.s.d.def_ 59 (d := d__law_told) rfl
  have K__law_told : FnX P w K mg base 12 "_law_told" sp__law_told := fnX_mk (ps := ["way", "one", "other"]) X G (c.s.d.fact 75 (f := .glo "_law_told") rfl) F__law_told (fun _ _ _ _ _ _ us hl => match us, hl with | [_, _, _], _ => rfl) (w__law_told (k := 11) (dsp := sp__law_told) T F__law_told K_dearer_place (by decide) K_is_never_dearer (by decide) K_compare_word (by decide) K_same_prices (by decide) K__law_named (by decide) (fun as Q' Ē h => by first | (obtain ⟨_, rfl, _⟩ := h; rfl) | (obtain ⟨_, _, rfl, _⟩ := h; rfl) | (obtain ⟨_, _, _, rfl, _⟩ := h; rfl) | (obtain ⟨_, _, _, _, rfl, _⟩ := h; rfl) | (obtain ⟨_, _, _, _, _, rfl, _⟩ := h; rfl) | (obtain ⟨_, _, _, _, _, _, rfl, _⟩ := h; rfl) | (obtain ⟨_, _, _, _, _, _, _, rfl, _⟩ := h; rfl) | (obtain ⟨_, _, _, _, _, _, _, _, rfl, _⟩ := h; rfl)) (lg (fun _ _ _ h => h) (fun as Q' h => q__law_told as Q' h)))
  obtain ⟨fd__law_dues, F__law_dues⟩ := c.s.d.def_ 60 (d := d__law_dues) rfl
  have K__law_dues : FnX P w K mg base 1 "_law_dues" sp__law_dues := fnX_mk (ps := ["there", "back"]) X G (c.s.d.fact 76 (f := .glo "_law_dues") rfl) F__law_dues (fun _ _ _ _ _ _ us hl => match us, hl with | [_, _], _ => rfl) (w__law_dues (k := 0) (dsp := sp__law_dues) T F__law_dues  (fun as Q' Ē h => by first | (obtain ⟨_, rfl, _⟩ := h; rfl) | (obtain ⟨_, _, rfl, _⟩ := h; rfl) | (obtain ⟨_, _, _, rfl, _⟩ := h; rfl) | (obtain ⟨_, _, _, _, rfl, _⟩ := h; rfl) | (obtain ⟨_, _, _, _, _, rfl, _⟩ := h; rfl) | (obtain ⟨_, _, _, _, _, _, rfl, _⟩ := h; rfl) | (obtain ⟨_, _, _, _, _, _, _, rfl, _⟩ := h; rfl) | (obtain ⟨_, _, _, _, _, _, _, _, rfl, _⟩ := h; rfl)) (lg (fun _ _ _ h => h) (fun as Q' h => q__law_dues as Q' h)))
  obtain ⟨fd_least_list, F_least_list⟩ := c.s.d.def_ 40 (d := d_least_list) rfl
  have K_least_list : FnX P w K mg base 10 "least_list" sp_least_list := fnX_mk (ps := ["book"]) X G (c.s.d.fact 56 (f := .glo "least_list") rfl) F_least_list (fun _ _ _ _ _ _ us hl => match us, hl with | [_], _ => rfl) (w_least_list (k := 9) (dsp := sp_least_list) T F_least_list K_Book_init (by decide) K_least_offers (by decide) (fun as Q' Ē h => by first | (obtain ⟨_, rfl, _⟩ := h; rfl) | (obtain ⟨_, _, rfl, _⟩ := h; rfl) | (obtain ⟨_, _, _, rfl, _⟩ := h; rfl) | (obtain ⟨_, _, _, _, rfl, _⟩ := h; rfl) | (obtain ⟨_, _, _, _, _, rfl, _⟩ := h; rfl) | (obtain ⟨_, _, _, _, _, _, rfl, _⟩ := h; rfl) | (obtain ⟨_, _, _, _, _, _, _, rfl, _⟩ := h; rfl) | (obtain ⟨_, _, _, _, _, _, _, _, rfl, _⟩ := h; rfl)) (lg (fun _ _ _ h => h) (fun as Q' h => q_least_list as Q' h)))
  obtain ⟨fd__law_parts, F__law_parts⟩ := c.s.d.def_ 50 (d := d__law_parts) rfl
  have K__law_parts : FnX P w K mg base 1 "_law_parts" sp__law_parts := fnX_mk (ps := ["value"]) X G (c.s.d.fact 66 (f := .glo "_law_parts") rfl) F__law_parts (fun _ _ _ _ _ _ us hl => match us, hl with | [_], _ => rfl) (w__law_parts (k := 0) (dsp := sp__law_parts) T F__law_parts  (fun as Q' Ē h => by first | (obtain ⟨_, rfl, _⟩ := h; rfl) | (obtain ⟨_, _, rfl, _⟩ := h; rfl) | (obtain ⟨_, _, _, rfl, _⟩ := h; rfl) | (obtain ⟨_, _, _, _, rfl, _⟩ := h; rfl) | (obtain ⟨_, _, _, _, _, rfl, _⟩ := h; rfl) | (obtain ⟨_, _, _, _, _, _, rfl, _⟩ := h; rfl) | (obtain ⟨_, _, _, _, _, _, _, rfl, _⟩ := h; rfl) | (obtain ⟨_, _, _, _, _, _, _, _, rfl, _⟩ := h; rfl)) (lg (fun _ _ _ h => h) (fun as Q' h => q__law_parts as Q' h)))
  obtain ⟨fd_Book_eq, F_Book_eq⟩ := c.s.d.def_ 17 (d := d_Book_eq) rfl
  have K_Book_eq : FnXM P w K mg base 1 "Book" "__eq__" sp_Book_eq := fnXM_mk (ps := ["self", "other"]) X G (c.s.d.fact 39 (f := .glo "Book") rfl) (c.s.d.fact 131 (f := .cls "Book") rfl) (c.s.d.fact 141 (f := .meth "Book" "__eq__") rfl) (c.s.d.fact 136 (f := .mkr "Book") rfl) (exX_e c.s.e) (by decide) F_Book_eq (fun _ _ _ _ _ _ us hl => match us, hl with | [_, _], _ => rfl) (w_Book_eq (k := 0) (dsp := sp_Book_eq) T F_Book_eq  (fun as Q' Ē h => by first | (obtain ⟨_, rfl, _⟩ := h; rfl) | (obtain ⟨_, _, rfl, _⟩ := h; rfl) | (obtain ⟨_, _, _, rfl, _⟩ := h; rfl) | (obtain ⟨_, _, _, _, rfl, _⟩ := h; rfl) | (obtain ⟨_, _, _, _, _, rfl, _⟩ := h; rfl) | (obtain ⟨_, _, _, _, _, _, rfl, _⟩ := h; rfl) | (obtain ⟨_, _, _, _, _, _, _, rfl, _⟩ := h; rfl) | (obtain ⟨_, _, _, _, _, _, _, _, rfl, _⟩ := h; rfl)) (lg (fun _ _ _ h => h) (fun as Q' h => q_Book_eq as Q' h)))
  exact fn_0 (w_law (k := 12) (dsp := sp_law) T F_law K__law_store (by decide) K__law_take (by decide) K__law_pair_of_books (by decide) K__law_stranger (by decide) K__law_dearer (by decide) K__law_made (by decide) K__law_alike (by decide) K__law_dues (by decide) K__law_told (by decide) K_least_list (by decide) K_Book_eq (by decide) K__law_parts (by decide) (fun as Q' Ē h => by first | (obtain ⟨_, rfl, _⟩ := h; rfl) | (obtain ⟨_, _, rfl, _⟩ := h; rfl) | (obtain ⟨_, _, _, rfl, _⟩ := h; rfl) | (obtain ⟨_, _, _, _, rfl, _⟩ := h; rfl) | (obtain ⟨_, _, _, _, _, rfl, _⟩ := h; rfl) | (obtain ⟨_, _, _, _, _, _, rfl, _⟩ := h; rfl) | (obtain ⟨_, _, _, _, _, _, _, rfl, _⟩ := h; rfl) | (obtain ⟨_, _, _, _, _, _, _, _, rfl, _⟩ := h; rfl)) (lg (fun _ _ _ h => h) (fun as Q' h => q_law as Q' h)))
end K77
open PySem PySem.W PySem.Calls PyProof.Rows
theorem PySem.Challenge.cw_tillsorder_k77_never_dearer_both_ways_holds : PySem.Challenge.rw_tillsorder_k77_never_dearer_both_ways.Holds := by
  w_on; o_law
  refine HandSHeadRun.head_any (r := OpenLaw.row PySem.Challenge.rw_tillsorder_k77_never_dearer_both_ways) (q := view (OpenLaw.row PySem.Challenge.rw_tillsorder_k77_never_dearer_both_ways).prog [86]) (H := K77.hk) (ob := K77.ob) (M := 30000) (loose := K77.loose) (d := HandSHeadRun.topDef (OpenLaw.row PySem.Challenge.rw_tillsorder_k77_never_dearer_both_ways).prog 86) (kwd := []) K77.ob_eq
    (by kernel_rfl) (fun s => by kernel_rfl) K77.run (by kernel_rfl) (by kernel_rfl) (by kernel_rfl) (by rfl) (by first | assumption | decide +kernel) (by decide +kernel) ⟨rfl, rfl, rfl, rfl, rfl, by decide +kernel⟩ ?hw ?hc
  case hw => w_witness2
  case hc =>
    refine L2.walk_ofE (l := PySem.Challenge.rw_tillsorder_k77_never_dearer_both_ways) (n := 63) (k := 13) (x := "script") (CX := L2.CX0) rfl (by decide) (by kernel_rfl) ⟨rfl, by decide, by decide⟩ ?F (fun _ _ _ _ z => z)
    intro w mg fa h Y G hmg0
    obtain ⟨K, KX, c⟩ := Y
    have hmg : mg ("law" : PySem.Str) = some (.ref fa) := by
      have e : (HandSHeadRun.topDef (OpenLaw.row PySem.Challenge.rw_tillsorder_k77_never_dearer_both_ways).prog 86).name = ("law" : PySem.Str) := by kernel_rfl
      rw [← e]
      exact hmg0
    obtain ⟨fd, hb, hF⟩ := K77.facts (P := (PySem.Challenge.rw_tillsorder_k77_never_dearer_both_ways).prog) (w := w) KX G hmg c
    exact ⟨K, fd, DL.spOf K mg K77.sp_law, KX, hb, fun H a ns hl _ hS => K77.sp_start hl hS, fun base _ _ => hF base⟩

