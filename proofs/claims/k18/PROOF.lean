import PyProof.Rows.All
import Wide.All
import OpenK.AllK
import Wide.FinOn
import KE.KStateDown
import Lean
import HandS.ForMost
import HandS.ForExc
import HandS.IsInst
import HandS.CallSlots
import HandS.Style
import HandS.TupAny
import HandS.Zip
import HandS.RevRange
import HandS.Defaults
import HandS.Replace
import HandS.Head0
import HandS.Head1
import HandS.Head2
import HandS.HeadEnd
import HandS.HeadHook1
import HandS.HeadHook2
import HandS.Deep
import KE.KBits
import HandS.SortRule
import HandS.RaiseMore
import HandS.Dict
import HandS.More
import KE.GoesMore
import HandS.SetKeys
import PyProof.ReprRoads
import HandS.DictComp
import PySem.Challenge.RW_wireyard_k18_rings_among_names
import HandS.WideBits
import HandS.Codes
set_option Elab.async false
set_option linter.all false
set_option maxRecDepth 100000
set_option maxHeartbeats 0
namespace Cl
open PySem L2

/-! ## 1. The data of the clean machine -/
/-- a value: a tree of data; a shared cell by its place; the thing that the frame's own slot holds -/
inductive D where
  | t (d : PyData) | r (n : Nat) | b (i : Nat)
/-- what a slot holds: a value; a list, a dict of the frame's own -/
inductive En where
  | d (x : D) | ol (xs : List D) | od (kvs : List (Key × D))
def En.own : En → Bool
  | .d _ => false
  | _ => true
abbrev Nv := List (Option En)
/-- what a shared cell holds -/
inductive Ce where
  | lst (xs : List D) | frl (xs : List D) | tup (xs : List D) | dic (kvs : List (Key × D)) | obj (c : Nat) (fs : List (Str × D))
  /-- a dict while it is walked; a dict by tuples -/
  | frd (kvs : List (Key × D)) | dtp (kvs : List (List Key × D))
abbrev So := List Ce
/-- an exception -/
structure Xn where
  cls : Nat
  fs : List (Str × D)
inductive Rs (α : Type) where
  | ok (a : α) | ex (x : Xn)
abbrev Om (α : Type) := Option (Rs α × Nv × So)
abbrev Mm (α : Type) := Nv → So → Om α
abbrev EM := Mm D
def bnd {α β : Type} (m : Om α) (k : α → Nv → So → Om β) : Om β := match m with
  | none => none
  | some (.ex x, e, s) => some (.ex x, e, s)
  | some (.ok a, e, s) => k a e s
@[simp] theorem bnd_ok {α β : Type} (a : α) (e : Nv) (s : So) (k : α → Nv → So → Om β) : bnd (some (.ok a, e, s)) k = k a e s := rfl
@[simp] theorem bnd_ex {α β : Type} (x : Xn) (e : Nv) (s : So) (k : α → Nv → So → Om β) : bnd (some (.ex x, e, s)) k = some (.ex x, e, s) := rfl
@[simp] theorem bnd_none {α β : Type} (k : α → Nv → So → Om β) : bnd none k = none := rfl
/-- a value into the answer -/
def ans {α : Type} (o : Option α) (e : Nv) (s : So) : Om α := o.map fun a => (.ok a, e, s)
@[simp] theorem ans_some {α : Type} (a : α) (e : Nv) (s : So) : ans (some a) e s = some (.ok a, e, s) := rfl
@[simp] theorem ans_none {α : Type} (e : Nv) (s : So) : ans (none : Option α) e s = none := rfl

/-! ## 2. How the abstract heap bears them -/
/-- a key as data -/
def keyD : Key → PyData
  | .inl i => .int i
  | .inr x => .str x
mutual
inductive TR (K : PySem.W.Frag) (F : Hp) : V → PyData → Prop
  | non : TR K F .non .none
  | bl (b : Bool) : TR K F (.bl b) (.bool b)
  | int (i : Int) : TR K F (.int i) (.int i)
  | str (x : Str) : TR K F (.str x) (.str x)
  | lst {a : Addr} {vs : List V} {ds : List PyData} : F a = some (.lst vs) → TRs K F vs ds → TR K F (.ref a) (.list ds)
  | tup {a : Addr} {vs : List V} {ds : List PyData} : SqT K F a vs → TRs K F vs ds → TR K F (.ref a) (.tuple ds)
  | dic {a : Addr} {ks : List (Key × V)} {kvs : List (PyData × PyData)} : F a = some (.dK ks) → TRk K F ks kvs → TR K F (.ref a) (.dict kvs)
inductive TRs (K : PySem.W.Frag) (F : Hp) : List V → List PyData → Prop
  | nil : TRs K F [] []
  | cons {v : V} {vs : List V} {d : PyData} {ds : List PyData} : TR K F v d → TRs K F vs ds → TRs K F (v :: vs) (d :: ds)
inductive TRk (K : PySem.W.Frag) (F : Hp) : List (Key × V) → List (PyData × PyData) → Prop
  | nil : TRk K F [] []
  | cons {k : Key} {v : V} {ks : List (Key × V)} {p d : PyData} {kvs : List (PyData × PyData)} : keyD k = p → TR K F v d → TRk K F ks kvs → TRk K F ((k, v) :: ks) ((p, d) :: kvs)
end
theorem Same.rd {F H : Hp} (e : Same F H) {a : Addr} {u : HO} (h : Rd F a u) : Rd H a u := by
  rcases h with h | ⟨o, h⟩
  · exact .inl (e _ _ h)
  · exact .inr ⟨o, e _ _ h⟩
theorem Same.sqT {K : PySem.W.Frag} {F H : Hp} (e : Same F H) {a : Addr} {vs : List V} (h : SqT K F a vs) : SqT K H a vs := by
  rcases h with h | h
  · exact .inl (Same.rd e h)
  · exact .inr h
mutual
theorem TR.mono' {K : PySem.W.Frag} {F F' : Hp} (e : Same F F') : ∀ {v : V} {d : PyData}, TR K F v d → TR K F' v d
  | _, _, .non => .non
  | _, _, .bl b => .bl b
  | _, _, .int i => .int i
  | _, _, .str x => .str x
  | _, _, .lst h1 h2 => .lst (e _ _ h1) (TRs.mono' e h2)
  | _, _, .tup h1 h2 => .tup (Same.sqT e h1) (TRs.mono' e h2)
  | _, _, .dic h1 h2 => .dic (e _ _ h1) (TRk.mono' e h2)
theorem TRs.mono' {K : PySem.W.Frag} {F F' : Hp} (e : Same F F') : ∀ {vs : List V} {ds : List PyData}, TRs K F vs ds → TRs K F' vs ds
  | _, _, .nil => .nil
  | _, _, .cons h1 h2 => .cons (TR.mono' e h1) (TRs.mono' e h2)
theorem TRk.mono' {K : PySem.W.Frag} {F F' : Hp} (e : Same F F') : ∀ {ks : List (Key × V)} {kvs : List (PyData × PyData)}, TRk K F ks kvs → TRk K F' ks kvs
  | _, _, .nil => .nil
  | _, _, .cons h0 h1 h2 => .cons h0 (TR.mono' e h1) (TRk.mono' e h2)
end
theorem TR.mono {K : PySem.W.Frag} {F F' : Hp} (e : Same F F') (d : PyData) (v : V) (h : TR K F v d) : TR K F' v d := TR.mono' e h
theorem TRs.mono {K : PySem.W.Frag} {F F' : Hp} (e : Same F F') (ds : List PyData) (vs : List V) (h : TRs K F vs ds) : TRs K F' vs ds := TRs.mono' e h
mutual
theorem TR.dp' {K : PySem.W.Frag} {F H : Hp} (e : Same F H) : ∀ {v : V} {d : PyData}, TR K F v d → d.canLay0 = true → Dp K H v d
  | _, _, .non, _ => .non
  | _, _, .bl b, _ => .bl b
  | _, _, .int i, _ => .int i
  | _, _, .str x, _ => .str x
  | _, _, .lst h1 h2, c => .lst (SqL.of (e _ _ h1)) (TRs.dp' e h2 (by simpa [PyData.canLay0] using c))
  | _, _, .tup h1 h2, c => .tup (Same.sqT e h1) (TRs.dp' e h2 (by simpa [PyData.canLay0] using c))
  | _, _, .dic h1 h2, c => by simp [PyData.canLay0] at c
theorem TRs.dp' {K : PySem.W.Frag} {F H : Hp} (e : Same F H) : ∀ {vs : List V} {ds : List PyData}, TRs K F vs ds → PyData.canLayAll0 ds = true → DpAll K H vs ds
  | _, _, .nil, _ => .nil
  | _, _, .cons h1 h2, c => by
    simp only [PyData.canLayAll0, Bool.and_eq_true] at c
    exact .cons (TR.dp' e h1 c.1) (TRs.dp' e h2 c.2)
end
theorem TR.dp {K : PySem.W.Frag} {F H : Hp} (e : Same F H) (d : PyData) (v : V) (h : TR K F v d) (c : d.canLay0 = true) : Dp K H v d := TR.dp' e h c
theorem TRs.dp {K : PySem.W.Frag} {F H : Hp} (e : Same F H) (ds : List PyData) (vs : List V) (h : TRs K F vs ds) (c : PyData.canLayAll0 ds = true) : DpAll K H vs ds := TRs.dp' e h c
/-- a value of the machine, as a value of the heap -/
def DR (K : PySem.W.Frag) (F : Hp) (il : List Addr) (σ : L2.St) : V → D → Prop
  | v, .t d => TR K F v d
  | v, .r n => ∃ a, v = .ref a ∧ il[n]? = some a
  | v, .b i => σ[i]? = some (some v)
abbrev DRs (K : PySem.W.Frag) (F : Hp) (il : List Addr) (σ : L2.St) : List V → List D → Prop := Paired (DR K F il σ)
theorem pref_get {α : Type} {l l' : List α} (h : l <+: l') {n : Nat} {a : α} (e : l[n]? = some a) : l'[n]? = some a := by
  obtain ⟨r, rfl⟩ := h
  obtain ⟨hn, ea⟩ := List.getElem?_eq_some_iff.mp e
  rw [List.getElem?_append_left hn]
  exact e
theorem DR.mono {K : PySem.W.Frag} {F F' : Hp} {il il' : List Addr} {σ : L2.St} (e : Same F F') (p : il <+: il') : ∀ {v : V} {d : D}, DR K F il σ v d → DR K F' il' σ v d
  | _, .t _, h => TR.mono e _ _ h
  | _, .r _, h => let ⟨a, h1, h2⟩ := h; ⟨a, h1, pref_get p h2⟩
  | _, .b _, h => h
theorem DRs.mono {K : PySem.W.Frag} {F F' : Hp} {il il' : List Addr} {σ : L2.St} (e : Same F F') (p : il <+: il') {vs : List V} {ds : List D} (h : DRs K F il σ vs ds) : DRs K F' il' σ vs ds :=
  L2.Paired.mapP h fun _ _ q => DR.mono e p q
/-- items hold no slot's own things -/
theorem DR.up {K : PySem.W.Frag} {F : Hp} {il : List Addr} {σ : L2.St} : ∀ {v : V} {d : D}, DR K F il [] v d → DR K F il σ v d
  | _, .t _, h => h
  | _, .r _, h => h
  | _, .b _, h => by cases h
theorem DRs.up {K : PySem.W.Frag} {F : Hp} {il : List Addr} {σ : L2.St} {vs : List V} {ds : List D} (h : DRs K F il [] vs ds) : DRs K F il σ vs ds := L2.Paired.mapP h fun _ _ q => DR.up q
theorem TRs.drs {K : PySem.W.Frag} {F : Hp} {il : List Addr} {σ : L2.St} : ∀ {vs : List V} {ts : List PyData}, TRs K F vs ts → DRs K F il σ vs (ts.map .t)
  | _, _, .nil => .nil
  | _, _, .cons h1 h2 => .cons h1 (TRs.drs h2)
def allT : List D → Option (List PyData)
  | [] => some []
  | .t d :: r => (allT r).map (d :: ·)
  | _ :: _ => none
@[simp] theorem allT_map (ts : List PyData) : allT (ts.map .t) = some ts := by
  induction ts with
  | nil => rfl
  | cons d r ih => simp [allT, ih]
theorem allT_eq : ∀ {ds : List D} {ts : List PyData}, allT ds = some ts → ds = ts.map .t
  | [], ts, h => by simp [allT] at h; subst h; rfl
  | .t d :: r, ts, h => by
    simp only [allT, Option.map_eq_some_iff] at h
    obtain ⟨a, h1, rfl⟩ := h
    rw [allT_eq h1]; rfl
  | .r n :: r, ts, h => by simp [allT] at h
  | .b n :: r, ts, h => by simp [allT] at h
theorem DRs.trs {K : PySem.W.Frag} {F : Hp} {il : List Addr} {σ : L2.St} : ∀ {ts : List PyData} {vs : List V}, DRs K F il σ vs (ts.map .t) → TRs K F vs ts
  | [], _, h => by cases h; exact .nil
  | d :: r, _, h => by
    cases h with
    | cons h1 h2 => exact .cons h1 (DRs.trs h2)

/-- the pairs of a dict, the fields of an instance -/
abbrev KR {κ : Type} (K : PySem.W.Frag) (F : Hp) (il : List Addr) : List (κ × V) → List (κ × D) → Prop := Paired fun p q => p.1 = q.1 ∧ DR K F il [] p.2 q.2
theorem KR.mono {κ : Type} {K : PySem.W.Frag} {F F' : Hp} {il il' : List Addr} (e : Same F F') (p : il <+: il') {vs : List (κ × V)} {ds : List (κ × D)} (h : KR K F il vs ds) : KR K F' il' vs ds :=
  L2.Paired.mapP h fun _ _ q => ⟨q.1, DR.mono e p q.2⟩

/-- the cell at a -/
def CP (K : PySem.W.Frag) (γ : Nat → Addr) (F H : Hp) (il : List Addr) (a : Addr) : Ce → Prop
  | .lst ds => F a = none ∧ ∃ vs, H a = some (.lst vs) ∧ DRs K F il [] vs ds
  | .frl ds => ∃ vs, SqL K F a vs ∧ DRs K F il [] vs ds
  | .tup ds => ∃ vs, F a = some (.tup vs) ∧ DRs K F il [] vs ds
  | .dic kvs => F a = none ∧ ∃ ks, H a = some (.dK ks) ∧ KR K F il ks kvs
  | .obj c fs => F a = none ∧ ∃ dx gs, H a = some (.ins (γ c) dx gs) ∧ KR K F il gs fs
  | .frd kvs => ∃ o ks, F a = some (.frz o (.dK ks)) ∧ KR K F il ks kvs
  | .dtp kvs => F a = none ∧ ∃ ks, H a = some (.dT ks) ∧ KR K F il ks kvs
def Ce.mut : Ce → Bool
  | .lst _ | .dic _ | .obj _ _ | .dtp _ => true
  | _ => false
/-- a cell that stands alone at its place -/
def Ce.lone : Ce → Bool
  | .lst _ | .dic _ | .obj _ _ | .dtp _ | .frd _ => true
  | _ => false
theorem Ce.lone_or {c : Ce} (h : c.lone = true) : c.mut = true ∨ ∃ kvs, c = .frd kvs := by cases c <;> first | exact .inl rfl | exact .inr ⟨_, rfl⟩ | cases h
theorem Ce.mut_lone {c : Ce} (h : c.mut = true) : c.lone = true := by cases c <;> first | rfl | cases h
/-- a cell that may change stands at a -/
def MutAt (il : List Addr) (S : So) (a : Addr) : Prop := ∃ (n : Nat) (c : Ce), il[n]? = some a ∧ S[n]? = some c ∧ c.mut = true
/-- what a slot holds -/
def NP (K : PySem.W.Frag) (F O : Hp) (il : List Addr) (v : V) : En → Prop
  | .d x => DR K F il [] v x
  | .ol ds => ∃ a vs, v = .ref a ∧ O a = some (.lst vs) ∧ DRs K F il [] vs ds
  | .od kvs => ∃ a ks, v = .ref a ∧ O a = some (.dK ks) ∧ KR K F il ks kvs
/-- THE RELATION: P what others hold, O what the slots own, F what never changes, H all; il where the cells stand -/
structure RE (K : PySem.W.Frag) (γ : Nat → Addr) (P O F H : Hp) (il : List Addr) (S : So) (ev : Nv) (σ : L2.St) : Prop where
  fh : Same F H
  ph : ∀ a o, P a = some o → H a = some o ∧ F a = none ∧ ¬ MutAt il S a ∧ O a = none
  oh : ∀ a o, O a = some o → H a = some o ∧ F a = none ∧ ¬ MutAt il S a
  nd : ∀ (i j : Nat) (a : Addr) (c c' : Ce), il[i]? = some a → il[j]? = some a → S[i]? = some c → S[j]? = some c' → c.lone = true → c'.lone = true → i = j
  ln : il.length = S.length
  cl : ∀ (n : Nat) (a : Addr) (c : Ce), il[n]? = some a → S[n]? = some c → CP K γ F H il a c
  el : ev.length = σ.length
  en : ∀ (i : Nat) (e : En), ev[i]? = some (some e) → ∃ v, σ[i]? = some (some v) ∧ NP K F O il v e
  ow : ∀ (i j : Nat) (e e' : En) (v v' : V), i ≠ j → ev[i]? = some (some e) → ev[j]? = some (some e') → e.own = true → e'.own = true → σ[i]? = some (some v) → σ[j]? = some (some v') → v ≠ v'
/-- an exception in the air -/
def XP (K : PySem.W.Frag) (γ : Nat → Addr) (F H : Hp) (il : List Addr) (x : Xn) (cls : Value) (dx : Option Addr) : Prop :=
  cls = .ref (γ x.cls) ∧ ((x.fs = [] ∧ dx = none) ∨ ∃ d gs, dx = some d ∧ H d = some (.xd gs) ∧ KR K F il gs x.fs)

/-! ## 3. What it is that a reading does what the machine does -/
section
variable (K : PySem.W.Frag) (γ : Nat → Addr)
def OutE (W : WX) (F H : Hp) (il : List Addr) (σ : L2.St) (Q : VK) : Rs D → Prop
  | .ok d => ∀ v, DR K F il σ v d → Q v H
  | .ex x => ∀ cls dx, XP K γ F H il x cls dx → W cls dx σ H
def SE (W : WX) (t : TE) (m : EM) : Prop := ∀ P O F H il S ev σ, RE K γ P O F H il S ev σ → ∀ r ev' S', m ev S = some (r, ev', S') → ∀ Q : VK,
  (∀ O' F' H' il', Same F F' → il <+: il' → RE K γ P O' F' H' il' S' ev' σ → OutE K γ W F' H' il' σ Q r) → t σ H Q
def OutT (W : WX) (F H : Hp) (il : List Addr) (σ : L2.St) (Q : Bool → Hp → Prop) : Rs Bool → Prop
  | .ok b => Q b H
  | .ex x => ∀ cls dx, XP K γ F H il x cls dx → W cls dx σ H
def ST (W : WX) (t : TT) (m : Mm Bool) : Prop := ∀ P O F H il S ev σ, RE K γ P O F H il S ev σ → ∀ r ev' S', m ev S = some (r, ev', S') → ∀ Q : Bool → Hp → Prop,
  (∀ O' F' H' il', Same F F' → il <+: il' → RE K γ P O' F' H' il' S' ev' σ → OutT K γ W F' H' il' σ Q r) → t σ H Q
def OutA (W : WX) (F H : Hp) (il : List Addr) (σ : L2.St) (Q : List V → Hp → Prop) : Rs (List D) → Prop
  | .ok ds => ∀ vs, DRs K F il σ vs ds → Q vs H
  | .ex x => ∀ cls dx, XP K γ F H il x cls dx → W cls dx σ H
def SA (W : WX) (t : TA) (m : Mm (List D)) : Prop := ∀ P O F H il S ev σ, RE K γ P O F H il S ev σ → ∀ r ev' S', m ev S = some (r, ev', S') → ∀ Q : List V → Hp → Prop,
  (∀ O' F' H' il', Same F F' → il <+: il' → RE K γ P O' F' H' il' S' ev' σ → OutA K γ W F' H' il' σ Q r) → t σ H Q
/-- a new list: its items are told, the place is any free one -/
def OutL (W : WX) (F H : Hp) (il : List Addr) (σ : L2.St) (Q : VK) : Rs (List D) → Prop
  | .ok ds => ∀ vs p, DRs K F il [] vs ds → vs.length ≤ sizeLine → H p = none → Q (.ref p) (upd H p (.lst vs))
  | .ex x => ∀ cls dx, XP K γ F H il x cls dx → W cls dx σ H
def SL (W : WX) (t : TE) (m : Mm (List D)) : Prop := ∀ P O F H il S ev σ, RE K γ P O F H il S ev σ → ∀ r ev' S', m ev S = some (r, ev', S') → ∀ Q : VK,
  (∀ O' F' H' il', Same F F' → il <+: il' → RE K γ P O' F' H' il' S' ev' σ → OutL K γ W F' H' il' σ Q r) → t σ H Q
/-- statements -/
inductive Fl where
  | nx | rt (d : D) | bk | ct | ex (x : Xn)
abbrev Os := Option (Fl × Nv × So)
abbrev SM := Nv → So → Os
def OutS (W : WX) (F H : Hp) (il : List Addr) (σ : L2.St) (E : Ends) : Fl → Prop
  | .nx => E.nx σ H
  | .rt d => ∀ v, DR K F il [] v d → E.rt v H
  | .bk => E.bk σ H
  | .ct => E.ct σ H
  | .ex x => ∀ cls dx, XP K γ F H il x cls dx → W cls dx σ H
def SS (W : WX) (t : TS) (m : SM) : Prop := ∀ P O F H il S ev σ, RE K γ P O F H il S ev σ → ∀ f ev' S', m ev S = some (f, ev', S') → ∀ E : Ends,
  (∀ O' F' H' il' σ', Same F F' → il <+: il' → RE K γ P O' F' H' il' S' ev' σ' → OutS K γ W F' H' il' σ' E f) → t E σ H
end
end Cl

namespace Cl
open PySem L2
section
variable {K : PySem.W.Frag} {γ : Nat → Addr} {P O F H F' H' O' : Hp} {il il' : List Addr} {S : So} {ev : Nv} {σ : L2.St}
theorem Same.upd {H : Hp} {p : Addr} {o : HO} (h : H p = none) : Same H (upd H p o) := fun a u e => by
  rw [upd_ne (ne_of_none e h)]
  exact e
theorem Same.upd2 {F H : Hp} {p : Addr} {o : HO} (e : Same F H) : Same (L2.upd F p o) (L2.upd H p o) := fun a u h => by
  by_cases hp : a = p
  · subst hp; rw [upd_same] at h ⊢; exact h
  · rw [upd_ne hp] at h ⊢; exact e a u h
theorem Same.upd1 {F H : Hp} {p : Addr} {o : HO} (e : Same F H) (h : F p = none) : Same F (L2.upd H p o) := fun a u q => by
  rw [upd_ne (ne_of_none q h)]
  exact e a u q
theorem sqL_mono {a : Addr} {vs : List V} (e : Same F F') (h : SqL K F a vs) : SqL K F' a vs := e.seq h
/-- cells stand where nothing of theirs changes -/
theorem CP.mono {a : Addr} {c : Ce} (h : CP K γ F H il a c) (e : Same F F') (p : il <+: il') (hf : c.mut = true → F a = none → H a ≠ none → F' a = none) (hh : c.mut = true → F a = none → ∀ o, H a = some o → H' a = some o) : CP K γ F' H' il' a c := by
  cases c with
  | lst ds => obtain ⟨h0, vs, h1, h2⟩ := h; exact ⟨hf rfl h0 (by rw [h1]; simp), vs, hh rfl h0 _ h1, DRs.mono e p h2⟩
  | frl ds => obtain ⟨vs, h1, h2⟩ := h; exact ⟨vs, sqL_mono e h1, DRs.mono e p h2⟩
  | tup ds => obtain ⟨vs, h1, h2⟩ := h; exact ⟨vs, e _ _ h1, DRs.mono e p h2⟩
  | dic kvs => obtain ⟨h0, vs, h1, h2⟩ := h; exact ⟨hf rfl h0 (by rw [h1]; simp), vs, hh rfl h0 _ h1, KR.mono e p h2⟩
  | obj c fs => obtain ⟨h0, dx, vs, h1, h2⟩ := h; exact ⟨hf rfl h0 (by rw [h1]; simp), dx, vs, hh rfl h0 _ h1, KR.mono e p h2⟩
  | frd kvs => obtain ⟨o, vs, h1, h2⟩ := h; exact ⟨o, vs, e _ _ h1, KR.mono e p h2⟩
  | dtp kvs => obtain ⟨h0, vs, h1, h2⟩ := h; exact ⟨hf rfl h0 (by rw [h1]; simp), vs, hh rfl h0 _ h1, KR.mono e p h2⟩
theorem CP.there {a : Addr} {c : Ce} (h : CP K γ F H il a c) (m : c.mut = true) : F a = none ∧ ∃ o, H a = some o := by
  cases c with
  | lst ds => obtain ⟨h0, vs, h1, h2⟩ := h; exact ⟨h0, _, h1⟩
  | frl ds => cases m
  | tup ds => cases m
  | dic kvs => obtain ⟨h0, vs, h1, h2⟩ := h; exact ⟨h0, _, h1⟩
  | obj c fs => obtain ⟨h0, dx, vs, h1, h2⟩ := h; exact ⟨h0, _, h1⟩
  | frd kvs => cases m
  | dtp kvs => obtain ⟨h0, vs, h1, h2⟩ := h; exact ⟨h0, _, h1⟩
theorem NP.mono {v : V} {e : En} (h : NP K F O il v e) (s : Same F F') (p : il <+: il') (ho : e.own = true → ∀ a o, O a = some o → v = .ref a → O' a = some o) : NP K F' O' il' v e := by
  cases e with
  | d x => exact DR.mono s p h
  | ol ds => obtain ⟨a, vs, h1, h2, h3⟩ := h; exact ⟨a, vs, h1, ho rfl _ _ h2 h1, DRs.mono s p h3⟩
  | od ds => obtain ⟨a, vs, h1, h2, h3⟩ := h; exact ⟨a, vs, h1, ho rfl _ _ h2 h1, KR.mono s p h3⟩
theorem pref_rfl {α : Type} (l : List α) : l <+: l := List.prefix_refl l
/-- more stands in the heap; what is new in F was free -/
theorem RE.ext (R : RE K γ P O F H il S ev σ) (sf : Same F F') (sh : Same H H') (fh : Same F' H') (hn : ∀ a, F a = none → H a ≠ none → F' a = none) : RE K γ P O F' H' il S ev σ where
  fh := fh
  ph := fun a o h => by
    obtain ⟨h1, h2, h3, h4⟩ := R.ph a o h
    exact ⟨sh _ _ h1, hn a h2 (by rw [h1]; simp), h3, h4⟩
  oh := fun a o h => by
    obtain ⟨h1, h2, h3⟩ := R.oh a o h
    exact ⟨sh _ _ h1, hn a h2 (by rw [h1]; simp), h3⟩
  nd := R.nd
  ln := R.ln
  cl := fun n a c h1 h2 => (R.cl n a c h1 h2).mono sf (pref_rfl _) (fun _ h => hn a h) fun _ _ o h => sh _ _ h
  el := R.el
  en := fun i e h => by
    obtain ⟨v, h1, h2⟩ := R.en i e h
    exact ⟨v, h1, h2.mono sf (pref_rfl _) fun _ _ _ q _ => q⟩
  ow := R.ow
theorem RE.fp (R : RE K γ P O F H il S ev σ) {p : Addr} (hp : H p = none) : F p = none ∧ P p = none ∧ O p = none ∧ ¬ MutAt il S p := by
  refine ⟨?_, ?_, ?_, ?_⟩
  · cases q : F p with
    | none => rfl
    | some u => rw [R.fh _ _ q] at hp; cases hp
  · cases q : P p with
    | none => rfl
    | some u => rw [(R.ph _ _ q).1] at hp; cases hp
  · cases q : O p with
    | none => rfl
    | some u => rw [(R.oh _ _ q).1] at hp; cases hp
  · rintro ⟨n, c, h1, h2, h3⟩
    obtain ⟨_, o, e⟩ := (R.cl n p c h1 h2).there h3
    rw [e] at hp; cases hp
/-- a new thing that never changes -/
theorem RE.newF (R : RE K γ P O F H il S ev σ) {p : Addr} {o : HO} (hp : H p = none) : RE K γ P O (upd F p o) (upd H p o) il S ev σ := by
  refine R.ext (Same.upd (R.fp hp).1) (Same.upd hp) (Same.upd2 R.fh) fun a h1 h2 => ?_
  rw [upd_ne fun z => h2 (by rw [z]; exact hp)]
  exact h1
theorem RE.same (R : RE K γ P O F H il S ev σ) {p : Addr} {o : HO} (hp : H p = none) : Same F (upd F p o) := Same.upd (R.fp hp).1
theorem RE.at (R : RE K γ P O F H il S ev σ) {n : Nat} {c : Ce} (h : S[n]? = some c) : ∃ a, il[n]? = some a ∧ CP K γ F H il a c := by
  have hn : n < S.length := (List.getElem?_eq_some_iff.mp h).1
  have hn' : n < il.length := by rw [R.ln]; exact hn
  exact ⟨il[n], List.getElem?_eq_getElem hn', R.cl n _ c (List.getElem?_eq_getElem hn') h⟩
theorem pref_app {α : Type} (l r : List α) : l <+: l ++ r := List.prefix_append l r
theorem app_cases {l r : List Addr} {S : So} {p : Addr} {c : Ce} (ln : l.length = S.length) {n : Nat} {a : Addr} {c' : Ce} (h1 : (l ++ [p])[n]? = some a) (h2 : (S ++ [c])[n]? = some c') :
    (l[n]? = some a ∧ S[n]? = some c') ∨ (n = l.length ∧ a = p ∧ c' = c) := by
  by_cases hn : n < l.length
  · rw [List.getElem?_append_left hn] at h1
    rw [List.getElem?_append_left (by rw [← ln]; exact hn)] at h2
    exact .inl ⟨h1, h2⟩
  · have hn' : l.length ≤ n := Nat.le_of_not_lt hn
    rw [List.getElem?_append_right hn'] at h1
    rw [List.getElem?_append_right (by rw [← ln]; exact hn'), ← ln] at h2
    have hz : n - l.length = 0 := by
      obtain ⟨z, _⟩ := List.getElem?_eq_some_iff.mp h1
      simp at z
      omega
    rw [hz] at h1 h2
    cases h1; cases h2
    exact .inr ⟨by omega, rfl, rfl⟩
theorem MutAt.app {l : List Addr} {p a : Addr} {c : Ce} (ln : l.length = S.length) (h : MutAt (l ++ [p]) (S ++ [c]) a) : MutAt l S a ∨ (a = p ∧ c.mut = true) := by
  obtain ⟨n, c', h1, h2, h3⟩ := h
  rcases app_cases (r := []) ln h1 h2 with ⟨q1, q2⟩ | ⟨_, q1, q2⟩
  · exact .inl ⟨n, c', q1, q2, h3⟩
  · subst q2; exact .inr ⟨q1, h3⟩
/-- a new cell: a free place, or one that never changes -/
theorem RE.newC (R : RE K γ P O F H il S ev σ) {p : Addr} {c : Ce} (hp : c.mut = true → ¬ MutAt il S p ∧ P p = none ∧ O p = none) (h : CP K γ F H (il ++ [p]) p c) (hl : c.lone = true → c.mut = true := by intro h; first | rfl | cases h) : RE K γ P O F H (il ++ [p]) (S ++ [c]) ev σ where
  fh := R.fh
  ph := fun a o hP => by
    obtain ⟨h1, h2, h3, h4⟩ := R.ph a o hP
    refine ⟨h1, h2, fun m => ?_, h4⟩
    rcases m.app R.ln with m1 | ⟨m0, m1⟩
    · exact h3 m1
    · rw [m0, (hp m1).2.1] at hP; cases hP
  oh := fun a o hO => by
    obtain ⟨h1, h2, h3⟩ := R.oh a o hO
    refine ⟨h1, h2, fun m => ?_⟩
    rcases m.app R.ln with m1 | ⟨m0, m1⟩
    · exact h3 m1
    · rw [m0, (hp m1).2.2] at hO; cases hO
  nd := fun i j a c1 c2 h1 h2 h3 h4 m1 m2 => by
    rcases app_cases (r := []) R.ln h1 h3 with ⟨q1, q2⟩ | ⟨q0, q1, q2⟩ <;> rcases app_cases (r := []) R.ln h2 h4 with ⟨r1, r2⟩ | ⟨r0, r1, r2⟩
    · exact R.nd i j a c1 c2 q1 r1 q2 r2 m1 m2
    · subst r1; subst r2
      rcases Ce.lone_or m1 with m1 | ⟨kvs, rfl⟩
      · exact absurd ⟨i, c1, q1, q2, m1⟩ (hp (hl m2)).1
      · obtain ⟨_, _, z, _⟩ := R.cl i _ _ q1 q2
        rw [(h.there (hl m2)).1] at z; cases z
    · subst q1; subst q2
      rcases Ce.lone_or m2 with m2 | ⟨kvs, rfl⟩
      · exact absurd ⟨j, c2, r1, r2, m2⟩ (hp (hl m1)).1
      · obtain ⟨_, _, z, _⟩ := R.cl j _ _ r1 r2
        rw [(h.there (hl m1)).1] at z; cases z
    · omega
  ln := by simp [R.ln]
  cl := fun n a c' h1 h2 => by
    rcases app_cases (r := []) R.ln h1 h2 with ⟨q1, q2⟩ | ⟨q0, q1, q2⟩
    · exact (R.cl n a c' q1 q2).mono (Same.refl F) (pref_app _ _) (fun _ h _ => h) fun _ _ _ h => h
    · subst q1; subst q2; exact h
  el := R.el
  en := fun i e h => by
    obtain ⟨v, h1, h2⟩ := R.en i e h
    exact ⟨v, h1, h2.mono (Same.refl F) (pref_app _ _) fun _ _ _ q _ => q⟩
  ow := R.ow
/-- a new shared thing at a free place -/
theorem RE.newM (R : RE K γ P O F H il S ev σ) {p : Addr} {o : HO} {c : Ce} (hp : H p = none) (h : CP K γ F (upd H p o) (il ++ [p]) p c) (hl : c.lone = true → c.mut = true := by intro h; first | rfl | cases h) : RE K γ P O F (upd H p o) (il ++ [p]) (S ++ [c]) ev σ := by
  have f := R.fp hp
  have R1 : RE K γ P O F (upd H p o) il S ev σ := R.ext (Same.refl F) (Same.upd hp) (Same.upd1 R.fh f.1) fun a h _ => h
  exact R1.newC (fun _ => ⟨f.2.2.2, f.2.1, f.2.2.1⟩) h hl
theorem RE.newL (R : RE K γ P O F H il S ev σ) {p : Addr} {vs : List V} {ds : List D} (hp : H p = none) (h : DRs K F il [] vs ds) : RE K γ P O F (upd H p (.lst vs)) (il ++ [p]) (S ++ [.lst ds]) ev σ :=
  R.newM hp ⟨(R.fp hp).1, vs, upd_same, DRs.mono (Same.refl F) (pref_app _ _) h⟩
/-- a shared cell changes -/
theorem RE.setC (R : RE K γ P O F H il S ev σ) {n : Nat} {a : Addr} {c c' : Ce} {o : HO} (h1 : il[n]? = some a) (h2 : S[n]? = some c) (m : c.mut = true) (m' : c'.mut = true) (h : CP K γ F (upd H a o) il a c') : RE K γ P O F (upd H a o) il (S.set n c') ev σ := by
  obtain ⟨fa, oa, ha⟩ := (R.cl n a c h1 h2).there m
  have ma : MutAt il S a := ⟨n, c, h1, h2, m⟩
  have hlt : n < S.length := (List.getElem?_eq_some_iff.mp h2).1
  have back : ∀ b, MutAt il (S.set n c') b → MutAt il S b := fun b ⟨k, d, k1, k2, k3⟩ => by
    by_cases e : n = k
    · subst e; rw [h1] at k1; cases k1; exact ma
    · rw [List.getElem?_set_ne e] at k2; exact ⟨k, d, k1, k2, k3⟩
  have get : ∀ (k : Nat) (d : Ce), (S.set n c')[k]? = some d → d.lone = true → ∃ d', S[k]? = some d' ∧ d'.lone = true := fun k d k2 k3 => by
    by_cases e : n = k
    · subst e; exact ⟨c, h2, Ce.mut_lone m⟩
    · rw [List.getElem?_set_ne e] at k2; exact ⟨d, k2, k3⟩
  refine ⟨Same.upd1 R.fh fa, fun b o' hb => ?_, fun b o' hb => ?_, fun i j b d d' k1 k2 k3 k4 m1 m2 => ?_, by simp [R.ln], fun k b d k1 k2 => ?_, R.el, R.en, R.ow⟩
  · obtain ⟨q1, q2, q3, q4⟩ := R.ph b o' hb
    refine ⟨?_, q2, fun z => q3 (back b z), q4⟩
    rw [upd_ne fun z => q3 (by rw [z]; exact ma)]
    exact q1
  · obtain ⟨q1, q2, q3⟩ := R.oh b o' hb
    refine ⟨?_, q2, fun z => q3 (back b z)⟩
    rw [upd_ne fun z => q3 (by rw [z]; exact ma)]
    exact q1
  · obtain ⟨e1, r1, r2⟩ := get i d k3 m1
    obtain ⟨e2, r3, r4⟩ := get j d' k4 m2
    exact R.nd i j b e1 e2 k1 k2 r1 r3 r2 r4
  · by_cases e : n = k
    · subst e
      rw [List.getElem?_set_self hlt] at k2
      cases k2
      rw [h1] at k1; cases k1
      exact h
    · rw [List.getElem?_set_ne e] at k2
      refine (R.cl k b d k1 k2).mono (Same.refl F) (pref_rfl _) (fun _ h _ => h) fun md fb o' ho => ?_
      rw [upd_ne fun z => ?_]
      · exact ho
      · subst z
        exact e (R.nd n k b c d h1 k1 h2 k2 (Ce.mut_lone m) (Ce.mut_lone md))
theorem get_set {α : Type} {l : List α} {i j : Nat} {x y : α} (h : (l.set i x)[j]? = some y) : (i = j ∧ y = x) ∨ (i ≠ j ∧ l[j]? = some y) := by
  by_cases e : i = j
  · subst e
    have hl : i < l.length := by
      have := (List.getElem?_eq_some_iff.mp h).1
      simpa using this
    rw [List.getElem?_set_self hl] at h
    cases h
    exact .inl ⟨rfl, rfl⟩
  · rw [List.getElem?_set_ne e] at h
    exact .inr ⟨e, h⟩
theorem set_get {α : Type} {l l' : List α} {i j : Nat} {x y : α} (h : i ≠ j) (e : l[j]? = some y) : (l.set i x)[j]? = some y := by
  rw [List.getElem?_set_ne h]; exact e
theorem set_at {α : Type} {l : List α} {i : Nat} {x : α} (h : i < l.length) : (l.set i x)[i]? = some x := List.getElem?_set_self h
/-- a slot gets a value -/
theorem RE.setD (R : RE K γ P O F H il S ev σ) {i : Nat} {v : V} {x : D} (h : DR K F il [] v x) : RE K γ P O F H il S (ev.set i (some (.d x))) (σ.set i (some v)) where
  fh := R.fh
  ph := R.ph
  oh := R.oh
  nd := R.nd
  ln := R.ln
  cl := R.cl
  el := by simp [R.el]
  en := fun j e he => by
    rcases get_set he with ⟨rfl, q⟩ | ⟨ne, q⟩
    · cases q
      refine ⟨v, set_at ?_, h⟩
      have := (List.getElem?_eq_some_iff.mp he).1
      simp [R.el] at this
      exact this
    · obtain ⟨u, h1, h2⟩ := R.en j e q
      exact ⟨u, set_get (l' := σ) ne h1, h2⟩
  ow := fun j k e e' u u' ne h1 h2 m1 m2 h3 h4 => by
    rcases get_set h1 with ⟨rfl, q⟩ | ⟨n1, q⟩
    · cases q; cases m1
    · rcases get_set h2 with ⟨rfl, q'⟩ | ⟨n2, q'⟩
      · cases q'; cases m2
      · rw [List.getElem?_set_ne n1] at h3
        rw [List.getElem?_set_ne n2] at h4
        exact R.ow j k e e' u u' ne q q' m1 m2 h3 h4
/-- a slot is emptied -/
theorem RE.setN (R : RE K γ P O F H il S ev σ) {i : Nat} {w : Option V} : RE K γ P O F H il S (ev.set i none) (σ.set i w) where
  fh := R.fh
  ph := R.ph
  oh := R.oh
  nd := R.nd
  ln := R.ln
  cl := R.cl
  el := by simp [R.el]
  en := fun j e he => by
    rcases get_set he with ⟨rfl, q⟩ | ⟨ne, q⟩
    · cases q
    · obtain ⟨u, h1, h2⟩ := R.en j e q
      exact ⟨u, set_get (l' := σ) ne h1, h2⟩
  ow := fun j k e e' u u' ne h1 h2 m1 m2 h3 h4 => by
    rcases get_set h1 with ⟨rfl, q⟩ | ⟨n1, q⟩
    · cases q
    · rcases get_set h2 with ⟨rfl, q'⟩ | ⟨n2, q'⟩
      · cases q'
      · rw [List.getElem?_set_ne n1] at h3
        rw [List.getElem?_set_ne n2] at h4
        exact R.ow j k e e' u u' ne q q' m1 m2 h3 h4
theorem NP.ownO {v : V} {e : En} (h : NP K F O il v e) (m : e.own = true) : ∃ a o, v = .ref a ∧ O a = some o := by
  cases e with
  | d x => cases m
  | ol ds => obtain ⟨a, vs, h1, h2, h3⟩ := h; exact ⟨a, _, h1, h2⟩
  | od ds => obtain ⟨a, vs, h1, h2, h3⟩ := h; exact ⟨a, _, h1, h2⟩
/-- a slot gets a new thing of its own -/
theorem RE.newO (R : RE K γ P O F H il S ev σ) {i : Nat} {p : Addr} {o : HO} {e : En} (hp : H p = none) (h : NP K F (upd O p o) il (.ref p) e) : RE K γ P (upd O p o) F (upd H p o) il S (ev.set i (some e)) (σ.set i (some (.ref p))) := by
  have f := R.fp hp
  have R1 : RE K γ P O F (upd H p o) il S ev σ := R.ext (Same.refl F) (Same.upd hp) (Same.upd1 R.fh f.1) fun a h _ => h
  refine ⟨R1.fh, fun a u ha => ?_, fun a u ha => ?_, R1.nd, R1.ln, R1.cl, by simp [R1.el], fun j e' he => ?_, fun j k e1 e2 u u' ne h1 h2 m1 m2 h3 h4 => ?_⟩
  · obtain ⟨q1, q2, q3, q4⟩ := R1.ph a u ha
    refine ⟨q1, q2, q3, ?_⟩
    rw [upd_ne (ne_of_none ha f.2.1)]
    exact q4
  · by_cases e' : a = p
    · subst e'
      rw [upd_same] at ha; cases ha
      exact ⟨upd_same, f.1, f.2.2.2⟩
    · rw [upd_ne e'] at ha
      exact R1.oh a u ha
  · rcases get_set he with ⟨rfl, q⟩ | ⟨ne, q⟩
    · cases q
      refine ⟨.ref p, set_at ?_, h⟩
      have := (List.getElem?_eq_some_iff.mp he).1
      simp [R1.el] at this
      exact this
    · obtain ⟨u, h1, h2⟩ := R1.en j e' q
      exact ⟨u, set_get (l' := σ) ne h1, h2.mono (Same.refl F) (pref_rfl _) fun _ a o' ho _ => by rw [upd_ne (ne_of_none ho f.2.2.1)]; exact ho⟩
  · have key : ∀ (k : Nat) (e2 : En) (u' : V), ev[k]? = some (some e2) → e2.own = true → σ[k]? = some (some u') → u' ≠ .ref p := fun k e2 u' q m q' z => by
      obtain ⟨w, w1, w2⟩ := R.en k e2 q
      rw [q'] at w1; cases w1
      obtain ⟨a, o', rfl, z2⟩ := w2.ownO m
      cases z
      rw [f.2.2.1] at z2; cases z2
    rcases get_set h1 with ⟨rfl, q⟩ | ⟨n1, q⟩
    · cases q
      rcases get_set h2 with ⟨rfl, q'⟩ | ⟨n2, q'⟩
      · exact absurd rfl ne
      · rw [List.getElem?_set_ne n2] at h4
        have hl : i < σ.length := by
          have := (List.getElem?_eq_some_iff.mp h3).1
          simpa using this
        rw [set_at hl] at h3; cases h3
        exact fun z => key k e2 u' q' m2 h4 z.symm
    · rw [List.getElem?_set_ne n1] at h3
      rcases get_set h2 with ⟨rfl, q'⟩ | ⟨n2, q'⟩
      · cases q'
        have hl : i < σ.length := by
          have := (List.getElem?_eq_some_iff.mp h4).1
          simpa using this
        rw [set_at hl] at h4; cases h4
        exact fun z => key j e1 u q m1 h3 z
      · rw [List.getElem?_set_ne n2] at h4
        exact R.ow j k e1 e2 u u' ne q q' m1 m2 h3 h4
/-- a slot's own thing changes -/
theorem RE.setO (R : RE K γ P O F H il S ev σ) {i : Nat} {a : Addr} {o : HO} {e e' : En} (h1 : ev[i]? = some (some e)) (m : e.own = true) (h2 : σ[i]? = some (some (.ref a))) (h : NP K F (upd O a o) il (.ref a) e') :
    RE K γ P (upd O a o) F (upd H a o) il S (ev.set i (some e')) σ := by
  obtain ⟨v, q1, q2⟩ := R.en i e h1
  rw [h2] at q1; cases q1
  obtain ⟨b, ob, z, q3⟩ := q2.ownO m
  cases z
  obtain ⟨ha, fa, na⟩ := R.oh a ob q3
  refine ⟨Same.upd1 R.fh fa, fun b u hb => ?_, fun b u hb => ?_, R.nd, R.ln, fun n b c k1 k2 => ?_, by simp [R.el], fun j e2 he => ?_, fun j k e1 e2 u u' ne r1 r2 m1 m2 r3 r4 => ?_⟩
  · obtain ⟨r1, r2, r3, r4⟩ := R.ph b u hb
    have ne : b ≠ a := fun z => by subst z; rw [r4] at q3; cases q3
    exact ⟨by rw [upd_ne ne]; exact r1, r2, r3, by rw [upd_ne ne]; exact r4⟩
  · by_cases ne : b = a
    · subst ne; rw [upd_same] at hb; cases hb
      exact ⟨upd_same, fa, na⟩
    · rw [upd_ne ne] at hb
      obtain ⟨r1, r2, r3⟩ := R.oh b u hb
      exact ⟨by rw [upd_ne ne]; exact r1, r2, r3⟩
  · refine (R.cl n b c k1 k2).mono (Same.refl F) (pref_rfl _) (fun _ h _ => h) fun md fb o' ho => ?_
    rw [upd_ne fun z => na ⟨n, c, by rw [← z]; exact k1, k2, md⟩]
    exact ho
  · rcases get_set he with ⟨rfl, q⟩ | ⟨ne, q⟩
    · cases q
      exact ⟨_, h2, h⟩
    · obtain ⟨u, r1, r2⟩ := R.en j e2 q
      refine ⟨u, r1, r2.mono (Same.refl F) (pref_rfl _) fun hm c oc hc hu => ?_⟩
      rw [upd_ne fun z => R.ow i j e e2 (.ref a) u ne h1 q m hm h2 r1 (by rw [hu, z])]
      exact hc
  · rcases get_set r1 with ⟨rfl, q⟩ | ⟨n1, q⟩
    · rcases get_set r2 with ⟨rfl, q'⟩ | ⟨n2, q'⟩
      · exact absurd rfl ne
      · exact R.ow i k e e2 u u' ne h1 q' m m2 r3 r4
    · rcases get_set r2 with ⟨rfl, q'⟩ | ⟨n2, q'⟩
      · exact R.ow j i e1 e u u' ne q h1 m1 m r3 r4
      · exact R.ow j k e1 e2 u u' ne q q' m1 m2 r3 r4
end
end Cl

namespace Cl
open PySem L2
section
variable {K : PySem.W.Frag} {γ : Nat → Addr} {P O F H F' H' O' : Hp} {il il' : List Addr} {S : So} {ev : Nv} {σ : L2.St}
def del (O : Hp) (a : Addr) : Hp := fun b => if b = a then none else O b
theorem del_same {O : Hp} {a : Addr} : del O a a = none := by unfold del; rw [if_pos rfl]
theorem del_ne {O : Hp} {a b : Addr} (h : b ≠ a) : del O a b = O b := by unfold del; rw [if_neg h]
theorem of_del {O : Hp} {a b : Addr} {o : HO} (h : del O a b = some o) : b ≠ a ∧ O b = some o := by
  by_cases e : b = a
  · subst e; rw [del_same] at h; cases h
  · rw [del_ne e] at h; exact ⟨e, h⟩
/-- the slot lets its own thing go -/
theorem RE.letgo (R : RE K γ P O F H il S ev σ) {i : Nat} {a : Addr} {e : En} (h1 : ev[i]? = some (some e)) (m : e.own = true) (h2 : σ[i]? = some (some (.ref a))) :
    RE K γ P (del O a) F H il S (ev.set i none) σ ∧ ∃ o, O a = some o ∧ H a = some o ∧ F a = none ∧ P a = none ∧ ¬ MutAt il S a := by
  obtain ⟨v, q1, q2⟩ := R.en i e h1
  rw [h2] at q1; cases q1
  obtain ⟨b, ob, z, q3⟩ := q2.ownO m
  cases z
  obtain ⟨ha, fa, na⟩ := R.oh a ob q3
  refine ⟨⟨R.fh, fun b u hb => ?_, fun b u hb => R.oh b u (of_del hb).2, R.nd, R.ln, R.cl, by simp [R.el], fun j e2 he => ?_, fun j k e1 e2 u u' ne r1 r2 m1 m2 r3 r4 => ?_⟩, ob, q3, ha, fa, ?_, na⟩
  · obtain ⟨r1, r2, r3, r4⟩ := R.ph b u hb
    refine ⟨r1, r2, r3, ?_⟩
    by_cases e : b = a
    · subst e; exact del_same
    · rw [del_ne e]; exact r4
  · rcases get_set he with ⟨rfl, q⟩ | ⟨ne, q⟩
    · cases q
    · obtain ⟨u, r1, r2⟩ := R.en j e2 q
      refine ⟨u, r1, r2.mono (Same.refl F) (pref_rfl _) fun hm c oc hc hu => ?_⟩
      rw [del_ne fun z => R.ow i j e e2 (.ref a) u ne h1 q m hm h2 r1 (by rw [hu, z])]
      exact hc
  · rcases get_set r1 with ⟨rfl, q⟩ | ⟨n1, q⟩
    · cases q
    · rcases get_set r2 with ⟨rfl, q'⟩ | ⟨n2, q'⟩
      · cases q'
      · exact R.ow j k e1 e2 u u' ne q q' m1 m2 r3 r4
  · cases hp : P a with
    | none => rfl
    | some u => rw [(R.ph a u hp).2.2.2] at q3; cases q3
/-- a thing that nobody may change any more -/
theorem RE.froz (R : RE K γ P O F H il S ev σ) {a : Addr} {o : HO} (ha : H a = some o) (hf : F a = none) (hp : P a = none) (hO : O a = none) (hm : ¬ MutAt il S a) : RE K γ P O (upd F a o) H il S ev σ := by
  have sf : Same F (upd F a o) := Same.upd hf
  refine ⟨fun b u hb => ?_, fun b u hb => ?_, fun b u hb => ?_, R.nd, R.ln, fun n b c k1 k2 => (R.cl n b c k1 k2).mono sf (pref_rfl _) (fun md fb _ => ?_) fun _ _ _ h => h, R.el, fun i e h => ?_, R.ow⟩
  · by_cases e : b = a
    · subst e; rw [upd_same] at hb; cases hb; exact ha
    · rw [upd_ne e] at hb; exact R.fh b u hb
  · obtain ⟨r1, r2, r3, r4⟩ := R.ph b u hb
    exact ⟨r1, by rw [upd_ne (ne_of_none hb hp)]; exact r2, r3, r4⟩
  · obtain ⟨r1, r2, r3⟩ := R.oh b u hb
    exact ⟨r1, by rw [upd_ne (ne_of_none hb hO)]; exact r2, r3⟩
  · rw [upd_ne fun z => hm ⟨n, c, by rw [← z]; exact k1, k2, md⟩]
    exact fb
  · obtain ⟨v, h1, h2⟩ := R.en i e h
    exact ⟨v, h1, h2.mono sf (pref_rfl _) fun _ _ _ q _ => q⟩
theorem set_id {α : Type} {l : List α} {i : Nat} {x : α} (h : l[i]? = some x) : l.set i x = l := by
  apply List.ext_getElem?
  intro j
  by_cases e : i = j
  · subst e
    rw [set_at (List.getElem?_eq_some_iff.mp h).1, h]
  · rw [List.getElem?_set_ne e]
theorem set_set {α : Type} (l : List α) (i : Nat) (x y : α) : (l.set i x).set i y = l.set i y := by simp
/-- the slot's value is told anew -/
theorem RE.setD' (R : RE K γ P O F H il S (ev.set i none) σ) {v : V} {x : D} (hs : σ[i]? = some (some v)) (h : DR K F il [] v x) : RE K γ P O F H il S (ev.set i (some (.d x))) σ := by
  have q := R.setD (i := i) h
  rw [set_set, set_id hs] at q
  exact q
/-- what a value is when it goes out of the frame's hand: the slot's own list becomes a tree, or a cell -/
def esc (d : D) : Mm D := fun ev S => match d with
  | .b i => match ev[i]? with
    | some (some (.ol ds)) => match allT ds with
      | some ts => some (.ok (.t (.list ts)), ev.set i (some (.d (.t (.list ts)))), S)
      | none => some (.ok (.r S.length), ev.set i (some (.d (.r S.length))), S ++ [.lst ds])
    | some (some (.od kvs)) => some (.ok (.r S.length), ev.set i (some (.d (.r S.length))), S ++ [.dic kvs])
    | some (some (.d x)) => some (.ok x, ev, S)
    | _ => none
  | x => some (.ok x, ev, S)
@[simp] theorem esc_t (d : PyData) (ev : Nv) (S : So) : esc (.t d) ev S = some (.ok (.t d), ev, S) := rfl
@[simp] theorem esc_r (n : Nat) (ev : Nv) (S : So) : esc (.r n) ev S = some (.ok (.r n), ev, S) := rfl
theorem esc_ok (R : RE K γ P O F H il S ev σ) {d : D} {v : V} (h : DR K F il σ v d) {r : Rs D} {ev' : Nv} {S' : So} (he : esc d ev S = some (r, ev', S')) :
    ∃ d' O' F' il', r = .ok d' ∧ Same F F' ∧ il <+: il' ∧ RE K γ P O' F' H il' S' ev' σ ∧ DR K F' il' [] v d' := by
  cases d with
  | t d => cases he; exact ⟨_, O, F, il, rfl, Same.refl F, pref_rfl _, R, h⟩
  | r n => cases he; exact ⟨_, O, F, il, rfl, Same.refl F, pref_rfl _, R, h⟩
  | b i =>
    have hs : σ[i]? = some (some v) := h
    unfold esc at he
    dsimp only at he
    split at he
    · rename_i ds h1
      obtain ⟨u, q1, q2⟩ := R.en i _ h1
      rw [hs] at q1; cases q1
      obtain ⟨a, vs, rfl, q3, q4⟩ := q2
      obtain ⟨R1, o, z1, z2, z3, z4, z5⟩ := R.letgo h1 rfl hs
      rw [q3] at z1; cases z1
      split at he
      · rename_i ts hts
        cases he
        have hd := allT_eq hts
        subst hd
        have R2 := R1.froz z2 z3 z4 del_same z5
        have tr : TR K (upd F a (.lst vs)) (.ref a) (.list ts) := .lst upd_same (TRs.mono (Same.upd z3) _ _ (DRs.trs q4))
        exact ⟨_, _, _, il, rfl, Same.upd z3, pref_rfl _, R2.setD' hs tr, tr⟩
      · cases he
        have R2 := R1.newC (p := a) (c := .lst ds) (fun _ => ⟨z5, z4, del_same⟩) ⟨z3, vs, z2, DRs.mono (Same.refl F) (pref_app _ _) q4⟩
        have hr : DR K F (il ++ [a]) [] (.ref a) (.r S.length) := ⟨a, rfl, by rw [← R.ln]; simp⟩
        exact ⟨_, _, F, _, rfl, Same.refl F, pref_app _ _, R2.setD' hs hr, hr⟩
    · rename_i kvs h1
      obtain ⟨u, q1, q2⟩ := R.en i _ h1
      rw [hs] at q1; cases q1
      obtain ⟨a, vs, rfl, q3, q4⟩ := q2
      obtain ⟨R1, o, z1, z2, z3, z4, z5⟩ := R.letgo h1 rfl hs
      rw [q3] at z1; cases z1
      cases he
      have R2 := R1.newC (p := a) (c := .dic kvs) (fun _ => ⟨z5, z4, del_same⟩) ⟨z3, vs, z2, KR.mono (Same.refl F) (pref_app _ _) q4⟩
      have hr : DR K F (il ++ [a]) [] (.ref a) (.r S.length) := ⟨a, rfl, by rw [← R.ln]; simp⟩
      exact ⟨_, _, F, _, rfl, Same.refl F, pref_app _ _, R2.setD' hs hr, hr⟩
    · rename_i x h1
      cases he
      obtain ⟨u, q1, q2⟩ := R.en i _ h1
      rw [hs] at q1; cases q1
      exact ⟨_, O, F, il, rfl, Same.refl F, pref_rfl _, R, q2⟩
    · cases he
/-- all of a list -/
def escs : List D → Mm (List D)
  | [], ev, S => some (.ok [], ev, S)
  | d :: r, ev, S => bnd (esc d ev S) fun x ev S => bnd (escs r ev S) fun xs ev S => some (.ok (x :: xs), ev, S)
@[simp] theorem escs_nil (ev : Nv) (S : So) : escs [] ev S = some (.ok [], ev, S) := rfl
@[simp] theorem escs_cons (d : D) (r : List D) (ev : Nv) (S : So) : escs (d :: r) ev S = bnd (esc d ev S) fun x ev S => bnd (escs r ev S) fun xs ev S => some (.ok (x :: xs), ev, S) := rfl
theorem bnd_eq {α β : Type} {m : Om α} {k : α → Nv → So → Om β} {r : Rs β} {e : Nv} {s : So} (h : bnd m k = some (r, e, s)) :
    (∃ x, m = some (.ex x, e, s) ∧ r = .ex x) ∨ ∃ a e1 s1, m = some (.ok a, e1, s1) ∧ k a e1 s1 = some (r, e, s) := by
  cases m with
  | none => cases h
  | some q =>
    obtain ⟨q, e1, s1⟩ := q
    cases q with
    | ok a => exact .inr ⟨a, e1, s1, rfl, h⟩
    | ex x => cases h; exact .inl ⟨x, rfl, rfl⟩
theorem escs_ok : ∀ {ds : List D} {vs : List V} {O F : Hp} {il : List Addr} {S : So} {ev : Nv}, RE K γ P O F H il S ev σ → DRs K F il σ vs ds → ∀ {r : Rs (List D)} {ev' : Nv} {S' : So}, escs ds ev S = some (r, ev', S') →
    ∃ ds' O' F' il', r = .ok ds' ∧ Same F F' ∧ il <+: il' ∧ RE K γ P O' F' H il' S' ev' σ ∧ DRs K F' il' [] vs ds' := by
  intro ds
  induction ds with
  | nil =>
    intro vs O F il S ev R h r ev' S' he
    cases h
    cases he
    exact ⟨[], O, F, il, rfl, Same.refl F, pref_rfl _, R, .nil⟩
  | cons d ds ih =>
    intro vs O F il S ev R h r ev' S' he
    cases h with
    | cons h1 h2 =>
      rcases bnd_eq he with ⟨x, q, rfl⟩ | ⟨x, e1, s1, q, he⟩
      · obtain ⟨_, _, _, _, z, _⟩ := esc_ok R h1 q
        cases z
      · obtain ⟨d', O1, F1, il1, z, sf, pf, R1, k1⟩ := esc_ok R h1 q
        cases z
        rcases bnd_eq he with ⟨x, q', rfl⟩ | ⟨xs, e2, s2, q', he⟩
        · obtain ⟨_, _, _, _, z, _⟩ := ih R1 (DRs.mono sf pf h2) q'
          cases z
        · obtain ⟨ds', O2, F2, il2, z, sf2, pf2, R2, k2⟩ := ih R1 (DRs.mono sf pf h2) q'
          cases z
          cases he
          exact ⟨_, O2, F2, il2, rfl, sf.trans sf2, pf.trans pf2, R2, .cons (DR.mono sf2 pf2 k1) k2⟩
end
end Cl

namespace Cl
open PySem L2

/-! ## expressions of the machine -/
def mVar (i : Nat) : EM := fun ev S => match ev[i]? with
  | some (some (.d x)) => some (.ok x, ev, S)
  | some (some _) => some (.ok (.b i), ev, S)
  | _ => none
def mC (d : PyData) : EM := fun ev S => some (.ok (.t d), ev, S)
abbrev F2 := Nv → So → D → D → Option D
abbrev F1 := Nv → So → D → Option D
def mOp (f : F2) (a b : EM) : EM := fun ev S => bnd (a ev S) fun x ev S => bnd (b ev S) fun y ev S => ans (f ev S x y) ev S
def mUn (f : F1) (a : EM) : EM := fun ev S => bnd (a ev S) fun x ev S => ans (f ev S x) ev S
/-- a test: a value that is True or False -/
def mTest (a : EM) : Mm Bool := fun ev S => bnd (a ev S) fun x ev S => match x with
  | .t (.bool k) => some (.ok k, ev, S)
  | _ => none
def mTru (f : Nv → So → D → Option Bool) (a : EM) : Mm Bool := fun ev S => bnd (a ev S) fun x ev S => ans (f ev S x) ev S
def mAnd (a b : Mm Bool) : Mm Bool := fun ev S => bnd (a ev S) fun x ev S => if x = true then b ev S else some (.ok false, ev, S)
def mOr (a b : Mm Bool) : Mm Bool := fun ev S => bnd (a ev S) fun x ev S => if x = true then some (.ok true, ev, S) else b ev S
def mNot (a : Mm Bool) : Mm Bool := fun ev S => bnd (a ev S) fun x ev S => some (.ok (!x), ev, S)
def mAndV (a b : EM) : EM := fun ev S => bnd (a ev S) fun x ev S => match x with
  | .t (.bool k) => if k = true then b ev S else some (.ok (.t (.bool false)), ev, S)
  | _ => none
def mOrV (a b : EM) : EM := fun ev S => bnd (a ev S) fun x ev S => match x with
  | .t (.bool k) => if k = true then some (.ok (.t (.bool true)), ev, S) else b ev S
  | _ => none
def mNotV (a : EM) : EM := fun ev S => bnd (a ev S) fun x ev S => match x with
  | .t (.bool k) => some (.ok (.t (.bool (!k))), ev, S)
  | _ => none
def mIf (c : Mm Bool) (a b : EM) : EM := fun ev S => bnd (c ev S) fun x ev S => if x = true then a ev S else b ev S
def mNil : Mm (List D) := fun ev S => some (.ok [], ev, S)
def mCons (a : EM) (r : Mm (List D)) : Mm (List D) := fun ev S => bnd (a ev S) fun x ev S => bnd (r ev S) fun xs ev S => some (.ok (x :: xs), ev, S)
/-- items that go out of hand -/
def mEsc (a : Mm (List D)) : Mm (List D) := fun ev S => bnd (a ev S) fun xs ev S => escs xs ev S
/-- a display (x, y): a tree, or a cell where it holds cells -/
def mTup (a : Mm (List D)) : EM := fun ev S => bnd (mEsc a ev S) fun xs ev S => if xs.length ≤ sizeLine then match allT xs with
  | some ts => some (.ok (.t (.tuple ts)), ev, S)
  | none => some (.ok (.r S.length), ev, S ++ [.tup xs]) else none
/-- the items of a display [x, y] -/
def lDisp (a : Mm (List D)) : Mm (List D) := fun ev S => bnd (mEsc a ev S) fun xs ev S => if xs.length ≤ sizeLine then some (.ok xs, ev, S) else none
/-- a new list as a tree; as a cell -/
def mTree (m : Mm (List D)) : EM := fun ev S => bnd (m ev S) fun xs ev S => match allT xs with
  | some ts => some (.ok (.t (.list ts)), ev, S)
  | none => none
def mCell (m : Mm (List D)) : EM := fun ev S => bnd (m ev S) fun xs ev S => some (.ok (.r S.length), ev, S ++ [.lst xs])
/-- a call of a def -/
abbrev Fn := List D → So → Option (Rs D × So)
def mCall (c : Fn) (a : Mm (List D)) : EM := fun ev S => bnd (mEsc a ev S) fun xs ev S => match c xs S with
  | some (r, S') => some (r, ev, S')
  | none => none
/-- a built-in by values -/
def mB (f : Nv → So → List D → Option D) (a : Mm (List D)) : EM := fun ev S => bnd (a ev S) fun xs ev S => ans (f ev S xs) ev S

/-! ## views -/
def viewL (ev : Nv) (S : So) : D → Option (List D)
  | .t (.list ts) => some (ts.map .t)
  | .r n => match S[n]? with
    | some (.lst ds) => some ds
    | some (.frl ds) => some ds
    | _ => none
  | .b i => match ev[i]? with
    | some (some (.ol ds)) => some ds
    | _ => none
  | _ => none
def viewT (S : So) : D → Option (List D)
  | .t (.tuple ts) => some (ts.map .t)
  | .r n => match S[n]? with
    | some (.tup ds) => some ds
    | _ => none
  | _ => none
def dataOf (ev : Nv) (S : So) : D → Option PyData
  | .t d => some d
  | x => (viewL ev S x).bind fun ds => (allT ds).map .list
@[simp] theorem viewL_t (ev : Nv) (S : So) (ts : List PyData) : viewL ev S (.t (.list ts)) = some (ts.map .t) := rfl
@[simp] theorem viewT_t (S : So) (ts : List PyData) : viewT S (.t (.tuple ts)) = some (ts.map .t) := rfl
@[simp] theorem dataOf_t (ev : Nv) (S : So) (d : PyData) : dataOf ev S (.t d) = some d := rfl

section
variable {K : PySem.W.Frag} {γ : Nat → Addr} {P O F H : Hp} {il : List Addr} {S : So} {ev : Nv} {σ : L2.St}
theorem viewL_ok (R : RE K γ P O F H il S ev σ) {d : D} {v : V} {ds : List D} (h : DR K F il σ v d) (q : viewL ev S d = some ds) : ∃ a vs, v = .ref a ∧ SqL K H a vs ∧ DRs K F il [] vs ds := by
  cases d with
  | t d =>
    cases d with
    | list ts =>
      cases q
      cases h with
      | lst h1 h2 => exact ⟨_, _, rfl, SqL.of (R.fh _ _ h1), TRs.drs h2⟩
    | _ => cases q
  | r n =>
    obtain ⟨a, rfl, h2⟩ := h
    unfold viewL at q
    dsimp only at q
    split at q
    · rename_i ds' hc
      cases q
      obtain ⟨_, vs, h3, h4⟩ := R.cl n a _ h2 hc
      exact ⟨a, vs, rfl, SqL.of h3, h4⟩
    · rename_i ds' hc
      cases q
      obtain ⟨vs, h3, h4⟩ := R.cl n a _ h2 hc
      exact ⟨a, vs, rfl, sqL_mono R.fh h3, h4⟩
    · cases q
  | b i =>
    have hs : σ[i]? = some (some v) := h
    unfold viewL at q
    dsimp only at q
    split at q
    · rename_i ds' hc
      cases q
      obtain ⟨u, q1, q2⟩ := R.en i _ hc
      rw [hs] at q1; cases q1
      obtain ⟨a, vs, rfl, q3, q4⟩ := q2
      exact ⟨a, vs, rfl, SqL.of (R.oh _ _ q3).1, q4⟩
    · cases q
theorem viewT_ok (R : RE K γ P O F H il S ev σ) {d : D} {v : V} {ds : List D} (h : DR K F il σ v d) (q : viewT S d = some ds) : ∃ a vs, v = .ref a ∧ SqT K F a vs ∧ DRs K F il [] vs ds := by
  cases d with
  | t d =>
    cases d with
    | tuple ts =>
      cases q
      cases h with
      | tup h1 h2 => exact ⟨_, _, rfl, h1, TRs.drs h2⟩
    | _ => cases q
  | r n =>
    obtain ⟨a, rfl, h2⟩ := h
    unfold viewT at q
    dsimp only at q
    split at q
    · rename_i ds' hc
      cases q
      obtain ⟨vs, h3, h4⟩ := R.cl n a _ h2 hc
      exact ⟨a, vs, rfl, SqT.of h3, h4⟩
    · cases q
  | b i => cases q
theorem DRs.dpAll (fh : Same F H) : ∀ {vs : List V} {ts : List PyData}, DRs K F il [] vs (ts.map .t) → PyData.canLayAll0 ts = true → DpAll K H vs ts := fun h => TRs.dp fh _ _ (DRs.trs h)
theorem dataOf_ok (R : RE K γ P O F H il S ev σ) {d : D} {v : V} {p : PyData} (h : DR K F il σ v d) (q : dataOf ev S d = some p) (c : p.canLay0 = true ∨ ∃ z, p = .str z) : Dp K H v p := by
  have gen : ∀ d : D, DR K F il σ v d → (viewL ev S d).bind (fun ds => (allT ds).map .list) = some p → Dp K H v p := fun d h q => by
    obtain ⟨ds, q1, q2⟩ := Option.bind_eq_some_iff.mp q
    obtain ⟨ts, q3, rfl⟩ := Option.map_eq_some_iff.mp q2
    obtain ⟨a, vs, rfl, h1, h2⟩ := viewL_ok R h q1
    rw [allT_eq q3] at h2
    rcases c with c | ⟨z, c⟩
    · exact .lst h1 (DRs.dpAll R.fh h2 (by simpa [PyData.canLay0] using c))
    · cases c
  cases d with
  | t d =>
    cases q
    rcases c with c | ⟨z, rfl⟩
    · exact TR.dp R.fh _ _ h c
    · cases h; exact .str _
  | r n => exact gen _ h q
  | b i => exact gen _ h q
end

/-! ## each reading does what the machine does -/
section
variable {K : PySem.W.Frag} {γ : Nat → Addr} {W : WX}
theorem se_var (i : Nat) : SE K γ W (tVar i) (mVar i) := by
  intro P O F H il S ev σ R r ev' S' hm Q k
  unfold mVar at hm
  split at hm
  · rename_i x h1
    cases hm
    obtain ⟨v, q1, q2⟩ := R.en i _ h1
    exact ⟨v, q1, k O F H il (Same.refl F) (pref_rfl _) R v (DR.up q2)⟩
  · rename_i e _ h1
    cases hm
    obtain ⟨v, q1, q2⟩ := R.en i _ h1
    exact ⟨v, q1, k O F H il (Same.refl F) (pref_rfl _) R v q1⟩
  · cases hm
theorem se_c {v : V} {d : PyData} (h : ∀ F, TR K F v d) : SE K γ W (tC v) (mC d) := by
  intro P O F H il S ev σ R r ev' S' hm Q k
  cases hm
  exact k O F H il (Same.refl F) (pref_rfl _) R v (h F)
/-- a rule by values -/
def RV2 (K : PySem.W.Frag) (γ : Nat → Addr) (r : R2) (f : F2) : Prop := ∀ P O F H il S ev σ x y dx dy d, RE K γ P O F H il S ev σ → DR K F il σ x dx → DR K F il σ y dy → f ev S dx dy = some d → ∀ Q : VK,
  (∀ v F' H', Same F F' → RE K γ P O F' H' il S ev σ → DR K F' il σ v d → Q v H') → r x y H Q
def RV1 (K : PySem.W.Frag) (γ : Nat → Addr) (r : V → Hp → VK → Prop) (f : F1) : Prop := ∀ P O F H il S ev σ x dx d, RE K γ P O F H il S ev σ → DR K F il σ x dx → f ev S dx = some d → ∀ Q : VK,
  (∀ v F' H', Same F F' → RE K γ P O F' H' il S ev σ → DR K F' il σ v d → Q v H') → r x H Q
def RVs (K : PySem.W.Frag) (γ : Nat → Addr) (r : List V → Hp → VK → Prop) (f : Nv → So → List D → Option D) : Prop := ∀ P O F H il S ev σ xs dxs d, RE K γ P O F H il S ev σ → DRs K F il σ xs dxs → f ev S dxs = some d → ∀ Q : VK,
  (∀ v F' H', Same F F' → RE K γ P O F' H' il S ev σ → DR K F' il σ v d → Q v H') → r xs H Q
theorem ans_eq {α : Type} {o : Option α} {e e' : Nv} {s s' : So} {r : Rs α} (h : ans o e s = some (r, e', s')) : ∃ a, o = some a ∧ r = .ok a ∧ e' = e ∧ s' = s := by
  cases o with
  | none => cases h
  | some a => cases h; exact ⟨a, rfl, rfl, rfl, rfl⟩
theorem se_op {ta tb : TE} {ma mb : EM} {r : R2} {f : F2} (ha : SE K γ W ta ma) (hb : SE K γ W tb mb) (hr : RV2 K γ r f) : SE K γ W (tOp r ta tb) (mOp f ma mb) := by
  intro P O F H il S ev σ R r ev' S' hm Q k
  rcases bnd_eq hm with ⟨x, q, rfl⟩ | ⟨dx, e1, s1, q, hm⟩
  · exact ha P O F H il S ev σ R _ _ _ q _ fun O1 F1 H1 il1 sf pf R1 => k O1 F1 H1 il1 sf pf R1
  · refine ha P O F H il S ev σ R _ _ _ q _ fun O1 F1 H1 il1 sf pf R1 x hx => ?_
    rcases bnd_eq hm with ⟨z, q', rfl⟩ | ⟨dy, e2, s2, q', hm⟩
    · exact hb P O1 F1 H1 il1 s1 e1 σ R1 _ _ _ q' _ fun O2 F2 H2 il2 sf2 pf2 R2 => k O2 F2 H2 il2 (sf.trans sf2) (pf.trans pf2) R2
    · refine hb P O1 F1 H1 il1 s1 e1 σ R1 _ _ _ q' _ fun O2 F2 H2 il2 sf2 pf2 R2 y hy => ?_
      obtain ⟨d, q3, rfl, rfl, rfl⟩ := ans_eq hm
      exact hr P O2 F2 H2 il2 _ _ σ x y dx dy d R2 (DR.mono sf2 pf2 hx) hy q3 Q fun v F3 H3 sf3 R3 hv => k O2 F3 H3 il2 ((sf.trans sf2).trans sf3) (pf.trans pf2) R3 v hv
theorem se_un {ta : TE} {ma : EM} {r : V → Hp → VK → Prop} {f : F1} (ha : SE K γ W ta ma) (hr : RV1 K γ r f) : SE K γ W (tUn r ta) (mUn f ma) := by
  intro P O F H il S ev σ R r ev' S' hm Q k
  rcases bnd_eq hm with ⟨x, q, rfl⟩ | ⟨dx, e1, s1, q, hm⟩
  · exact ha P O F H il S ev σ R _ _ _ q _ fun O1 F1 H1 il1 sf pf R1 => k O1 F1 H1 il1 sf pf R1
  · refine ha P O F H il S ev σ R _ _ _ q _ fun O1 F1 H1 il1 sf pf R1 x hx => ?_
    obtain ⟨d, q3, rfl, rfl, rfl⟩ := ans_eq hm
    exact hr P O1 F1 H1 il1 _ _ σ x dx d R1 hx q3 Q fun v F3 H3 sf3 R3 hv => k O1 F3 H3 il1 (sf.trans sf3) pf R3 v hv
theorem DR.bool {F : Hp} {il : List Addr} {σ : L2.St} {v : V} {k : Bool} (h : DR K F il σ v (.t (.bool k))) : v = .bl k := by cases h; rfl
theorem DR.int {F : Hp} {il : List Addr} {σ : L2.St} {v : V} {k : Int} (h : DR K F il σ v (.t (.int k))) : v = .int k := by cases h; rfl
theorem DR.str {F : Hp} {il : List Addr} {σ : L2.St} {v : V} {k : Str} (h : DR K F il σ v (.t (.str k))) : v = .str k := by cases h; rfl
theorem st_test {ta : TE} {ma : EM} (ha : SE K γ W ta ma) : ST K γ W (tTest ta) (mTest ma) := by
  intro P O F H il S ev σ R r ev' S' hm Q k
  rcases bnd_eq hm with ⟨x, q, rfl⟩ | ⟨dx, e1, s1, q, hm⟩
  · exact ha P O F H il S ev σ R _ _ _ q _ fun O1 F1 H1 il1 sf pf R1 => k O1 F1 H1 il1 sf pf R1
  · refine ha P O F H il S ev σ R _ _ _ q _ fun O1 F1 H1 il1 sf pf R1 x hx => ?_
    split at hm
    · rename_i b
      cases hm
      rw [hx.bool]
      exact ⟨b, rfl, k O1 F1 H1 il1 sf pf R1⟩
    · cases hm
theorem st_B {ta : TE} {ma : EM} (ha : SE K γ W ta ma) : ST K γ W (tB ta) (mTest ma) := st_test ha
theorem st_and {ta tb : TT} {ma mb : Mm Bool} (ha : ST K γ W ta ma) (hb : ST K γ W tb mb) : ST K γ W (tAnd ta tb) (mAnd ma mb) := by
  intro P O F H il S ev σ R r ev' S' hm Q k
  rcases bnd_eq hm with ⟨x, q, rfl⟩ | ⟨b, e1, s1, q, hm⟩
  · exact ha P O F H il S ev σ R _ _ _ q _ fun O1 F1 H1 il1 sf pf R1 => k O1 F1 H1 il1 sf pf R1
  · refine ha P O F H il S ev σ R _ _ _ q _ fun O1 F1 H1 il1 sf pf R1 => ?_
    cases b with
    | true =>
      refine iteT (A := tb σ H1 Q) (B := Q false H1) ?_
      exact hb P O1 F1 H1 il1 s1 e1 σ R1 _ _ _ hm _ fun O2 F2 H2 il2 sf2 pf2 R2 => k O2 F2 H2 il2 (sf.trans sf2) (pf.trans pf2) R2
    | false =>
      cases hm
      exact iteF (A := tb σ H1 Q) (B := Q false H1) (k O1 F1 H1 il1 sf pf R1)
theorem st_or {ta tb : TT} {ma mb : Mm Bool} (ha : ST K γ W ta ma) (hb : ST K γ W tb mb) : ST K γ W (tOr ta tb) (mOr ma mb) := by
  intro P O F H il S ev σ R r ev' S' hm Q k
  rcases bnd_eq hm with ⟨x, q, rfl⟩ | ⟨b, e1, s1, q, hm⟩
  · exact ha P O F H il S ev σ R _ _ _ q _ fun O1 F1 H1 il1 sf pf R1 => k O1 F1 H1 il1 sf pf R1
  · refine ha P O F H il S ev σ R _ _ _ q _ fun O1 F1 H1 il1 sf pf R1 => ?_
    cases b with
    | false =>
      refine iteF (A := Q true H1) (B := tb σ H1 Q) ?_
      exact hb P O1 F1 H1 il1 s1 e1 σ R1 _ _ _ hm _ fun O2 F2 H2 il2 sf2 pf2 R2 => k O2 F2 H2 il2 (sf.trans sf2) (pf.trans pf2) R2
    | true =>
      cases hm
      exact iteT (A := Q true H1) (B := tb σ H1 Q) (k O1 F1 H1 il1 sf pf R1)
theorem st_not {ta : TT} {ma : Mm Bool} (ha : ST K γ W ta ma) : ST K γ W (tNot ta) (mNot ma) := by
  intro P O F H il S ev σ R r ev' S' hm Q k
  rcases bnd_eq hm with ⟨x, q, rfl⟩ | ⟨b, e1, s1, q, hm⟩
  · exact ha P O F H il S ev σ R _ _ _ q _ fun O1 F1 H1 il1 sf pf R1 => k O1 F1 H1 il1 sf pf R1
  · refine ha P O F H il S ev σ R _ _ _ q _ fun O1 F1 H1 il1 sf pf R1 => ?_
    cases hm
    exact k O1 F1 H1 il1 sf pf R1
theorem se_andV {ta tb : TE} {ma mb : EM} (ha : SE K γ W ta ma) (hb : SE K γ W tb mb) : SE K γ W (tAndV ta tb) (mAndV ma mb) := by
  intro P O F H il S ev σ R r ev' S' hm Q k
  rcases bnd_eq hm with ⟨x, q, rfl⟩ | ⟨dx, e1, s1, q, hm⟩
  · exact ha P O F H il S ev σ R _ _ _ q _ fun O1 F1 H1 il1 sf pf R1 => k O1 F1 H1 il1 sf pf R1
  · refine ha P O F H il S ev σ R _ _ _ q _ fun O1 F1 H1 il1 sf pf R1 x hx => ?_
    split at hm
    · rename_i b
      rw [hx.bool]
      refine ⟨b, rfl, ?_⟩
      cases b with
      | true =>
        refine iteT ?_
        exact hb P O1 F1 H1 il1 s1 e1 σ R1 _ _ _ hm _ fun O2 F2 H2 il2 sf2 pf2 R2 => k O2 F2 H2 il2 (sf.trans sf2) (pf.trans pf2) R2
      | false =>
        cases hm
        exact iteF (k O1 F1 H1 il1 sf pf R1 _ (TR.bl false))
    · cases hm
theorem se_orV {ta tb : TE} {ma mb : EM} (ha : SE K γ W ta ma) (hb : SE K γ W tb mb) : SE K γ W (tOrV ta tb) (mOrV ma mb) := by
  intro P O F H il S ev σ R r ev' S' hm Q k
  rcases bnd_eq hm with ⟨x, q, rfl⟩ | ⟨dx, e1, s1, q, hm⟩
  · exact ha P O F H il S ev σ R _ _ _ q _ fun O1 F1 H1 il1 sf pf R1 => k O1 F1 H1 il1 sf pf R1
  · refine ha P O F H il S ev σ R _ _ _ q _ fun O1 F1 H1 il1 sf pf R1 x hx => ?_
    split at hm
    · rename_i b
      rw [hx.bool]
      refine ⟨b, rfl, ?_⟩
      cases b with
      | false =>
        refine iteF ?_
        exact hb P O1 F1 H1 il1 s1 e1 σ R1 _ _ _ hm _ fun O2 F2 H2 il2 sf2 pf2 R2 => k O2 F2 H2 il2 (sf.trans sf2) (pf.trans pf2) R2
      | true =>
        cases hm
        exact iteT (k O1 F1 H1 il1 sf pf R1 _ (TR.bl true))
    · cases hm
theorem se_notV {ta : TE} {ma : EM} (ha : SE K γ W ta ma) : SE K γ W (tNotV ta) (mNotV ma) := by
  intro P O F H il S ev σ R r ev' S' hm Q k
  rcases bnd_eq hm with ⟨x, q, rfl⟩ | ⟨dx, e1, s1, q, hm⟩
  · exact ha P O F H il S ev σ R _ _ _ q _ fun O1 F1 H1 il1 sf pf R1 => k O1 F1 H1 il1 sf pf R1
  · refine ha P O F H il S ev σ R _ _ _ q _ fun O1 F1 H1 il1 sf pf R1 x hx => ?_
    split at hm
    · rename_i b
      cases hm
      rw [hx.bool]
      exact ⟨b, rfl, k O1 F1 H1 il1 sf pf R1 _ (TR.bl _)⟩
    · cases hm
theorem se_if {tc : TT} {ta tb : TE} {mc : Mm Bool} {ma mb : EM} (hc : ST K γ W tc mc) (ha : SE K γ W ta ma) (hb : SE K γ W tb mb) : SE K γ W (tIf tc ta tb) (mIf mc ma mb) := by
  intro P O F H il S ev σ R r ev' S' hm Q k
  rcases bnd_eq hm with ⟨x, q, rfl⟩ | ⟨b, e1, s1, q, hm⟩
  · exact hc P O F H il S ev σ R _ _ _ q _ fun O1 F1 H1 il1 sf pf R1 => k O1 F1 H1 il1 sf pf R1
  · refine hc P O F H il S ev σ R _ _ _ q _ fun O1 F1 H1 il1 sf pf R1 => ?_
    cases b with
    | true => exact iteT (A := ta σ H1 Q) (B := tb σ H1 Q) (ha P O1 F1 H1 il1 s1 e1 σ R1 _ _ _ hm _ fun O2 F2 H2 il2 sf2 pf2 R2 => k O2 F2 H2 il2 (sf.trans sf2) (pf.trans pf2) R2)
    | false => exact iteF (A := ta σ H1 Q) (B := tb σ H1 Q) (hb P O1 F1 H1 il1 s1 e1 σ R1 _ _ _ hm _ fun O2 F2 H2 il2 sf2 pf2 R2 => k O2 F2 H2 il2 (sf.trans sf2) (pf.trans pf2) R2)
theorem sa_nil : SA K γ W tNil mNil := by
  intro P O F H il S ev σ R r ev' S' hm Q k
  cases hm
  exact k O F H il (Same.refl F) (pref_rfl _) R [] .nil
theorem sa_cons {ta : TE} {tr : TA} {ma : EM} {mr : Mm (List D)} (ha : SE K γ W ta ma) (hr : SA K γ W tr mr) : SA K γ W (tCons ta tr) (mCons ma mr) := by
  intro P O F H il S ev σ R r ev' S' hm Q k
  rcases bnd_eq hm with ⟨x, q, rfl⟩ | ⟨dx, e1, s1, q, hm⟩
  · exact ha P O F H il S ev σ R _ _ _ q _ fun O1 F1 H1 il1 sf pf R1 => k O1 F1 H1 il1 sf pf R1
  · refine ha P O F H il S ev σ R _ _ _ q _ fun O1 F1 H1 il1 sf pf R1 x hx => ?_
    rcases bnd_eq hm with ⟨z, q', rfl⟩ | ⟨dy, e2, s2, q', hm⟩
    · exact hr P O1 F1 H1 il1 s1 e1 σ R1 _ _ _ q' _ fun O2 F2 H2 il2 sf2 pf2 R2 => k O2 F2 H2 il2 (sf.trans sf2) (pf.trans pf2) R2
    · refine hr P O1 F1 H1 il1 s1 e1 σ R1 _ _ _ q' _ fun O2 F2 H2 il2 sf2 pf2 R2 ys hy => ?_
      cases hm
      exact k O2 F2 H2 il2 (sf.trans sf2) (pf.trans pf2) R2 _ (.cons (DR.mono sf2 pf2 hx) hy)
/-- arguments that go out of hand -/
theorem sa_esc {ta : TA} {ma : Mm (List D)} (ha : SA K γ W ta ma) {P O F H : Hp} {il : List Addr} {S : So} {ev : Nv} {σ : L2.St} (R : RE K γ P O F H il S ev σ) {r : Rs (List D)} {ev' : Nv} {S' : So} (hm : mEsc ma ev S = some (r, ev', S')) (Q : List V → Hp → Prop)
    (k : ∀ O' F' H' il', Same F F' → il <+: il' → RE K γ P O' F' H' il' S' ev' σ → match r with
      | .ok ds => ∀ vs, DRs K F' il' [] vs ds → Q vs H'
      | .ex x => ∀ cls dx, XP K γ F' H' il' x cls dx → W cls dx σ H') : ta σ H Q := by
  rcases bnd_eq hm with ⟨x, q, rfl⟩ | ⟨dx, e1, s1, q, hm⟩
  · exact ha P O F H il S ev σ R _ _ _ q _ fun O1 F1 H1 il1 sf pf R1 => k O1 F1 H1 il1 sf pf R1
  · refine ha P O F H il S ev σ R _ _ _ q _ fun O1 F1 H1 il1 sf pf R1 xs hx => ?_
    obtain ⟨ds', O2, F2, il2, rfl, sf2, pf2, R2, k2⟩ := escs_ok R1 hx hm
    exact k O2 F2 H1 il2 (sf.trans sf2) (pf.trans pf2) R2 xs k2
theorem Paired.len {α β : Type} {G : α → β → Prop} {l : List α} {l' : List β} (h : Paired G l l') : l.length = l'.length := PySem.Paired.length h
theorem se_tup {ta : TA} {ma : Mm (List D)} (ha : SA K γ W ta ma) : SE K γ W (tTup ta) (mTup ma) := by
  intro P O F H il S ev σ R r ev' S' hm Q k
  rcases bnd_eq hm with ⟨x, q, rfl⟩ | ⟨ds, e1, s1, q, hm⟩
  · exact sa_esc ha R q _ fun O1 F1 H1 il1 sf pf R1 => k O1 F1 H1 il1 sf pf R1
  · refine sa_esc ha R q _ fun O1 F1 H1 il1 sf pf R1 vs hv => ?_
    split at hm
    · rename_i hz
      have hl : vs.length = ds.length := PySem.Paired.length hv
      refine ⟨by rw [hl]; exact hz, fun p hp => ?_⟩
      have R2 := R1.newF (o := .tup vs) hp
      have sf2 := R1.same (o := .tup vs) hp
      split at hm
      · rename_i ts hts
        cases hm
        have e := allT_eq hts
        subst e
        exact k O1 _ _ il1 (sf.trans sf2) pf R2 _ (TR.tup (SqT.of upd_same) (TRs.mono sf2 _ _ (DRs.trs hv)))
      · cases hm
        have R3 := R2.newC (p := p) (c := .tup ds) (fun z => by cases z) ⟨vs, upd_same, DRs.mono sf2 (pref_app _ _) hv⟩
        exact k O1 _ _ _ (sf.trans sf2) (pf.trans (pref_app _ _)) R3 _ ⟨p, rfl, by rw [← R1.ln]; simp⟩
    · cases hm
theorem sl_disp {ta : TA} {ma : Mm (List D)} (ha : SA K γ W ta ma) : SL K γ W (tLst ta) (lDisp ma) := by
  intro P O F H il S ev σ R r ev' S' hm Q k
  rcases bnd_eq hm with ⟨x, q, rfl⟩ | ⟨ds, e1, s1, q, hm⟩
  · exact sa_esc ha R q _ fun O1 F1 H1 il1 sf pf R1 => k O1 F1 H1 il1 sf pf R1
  · refine sa_esc ha R q _ fun O1 F1 H1 il1 sf pf R1 vs hv => ?_
    split at hm
    · rename_i hz
      cases hm
      have hl : vs.length = ds.length := PySem.Paired.length hv
      exact ⟨by rw [hl]; exact hz, fun p hp => k O1 F1 H1 il1 sf pf R1 vs p hv (by rw [hl]; exact hz) hp⟩
    · cases hm
theorem se_tree {t : TE} {m : Mm (List D)} (h : SL K γ W t m) : SE K γ W t (mTree m) := by
  intro P O F H il S ev σ R r ev' S' hm Q k
  rcases bnd_eq hm with ⟨x, q, rfl⟩ | ⟨ds, e1, s1, q, hm⟩
  · exact h P O F H il S ev σ R _ _ _ q _ fun O1 F1 H1 il1 sf pf R1 => k O1 F1 H1 il1 sf pf R1
  · refine h P O F H il S ev σ R _ _ _ q _ fun O1 F1 H1 il1 sf pf R1 vs p hv hz hp => ?_
    split at hm
    · rename_i ts hts
      cases hm
      have e := allT_eq hts
      subst e
      have sf2 := R1.same (o := .lst vs) hp
      exact k O1 _ _ il1 (sf.trans sf2) pf (R1.newF hp) _ (TR.lst upd_same (TRs.mono sf2 _ _ (DRs.trs hv)))
    · cases hm
theorem se_cell {t : TE} {m : Mm (List D)} (h : SL K γ W t m) : SE K γ W t (mCell m) := by
  intro P O F H il S ev σ R r ev' S' hm Q k
  rcases bnd_eq hm with ⟨x, q, rfl⟩ | ⟨ds, e1, s1, q, hm⟩
  · exact h P O F H il S ev σ R _ _ _ q _ fun O1 F1 H1 il1 sf pf R1 => k O1 F1 H1 il1 sf pf R1
  · refine h P O F H il S ev σ R _ _ _ q _ fun O1 F1 H1 il1 sf pf R1 vs p hv hz hp => ?_
    cases hm
    exact k O1 _ _ _ sf (pf.trans (pref_app _ _)) (R1.newL hp hv) _ ⟨p, rfl, by rw [← R1.ln]; simp⟩
theorem se_B {ta : TA} {ma : Mm (List D)} {r : List V → Hp → VK → Prop} {f : Nv → So → List D → Option D} (ha : SA K γ W ta ma) (hr : RVs K γ r f) : SE K γ W (tCB r ta) (mB f ma) := by
  intro P O F H il S ev σ R r ev' S' hm Q k
  rcases bnd_eq hm with ⟨x, q, rfl⟩ | ⟨ds, e1, s1, q, hm⟩
  · exact ha P O F H il S ev σ R _ _ _ q _ fun O1 F1 H1 il1 sf pf R1 => k O1 F1 H1 il1 sf pf R1
  · refine ha P O F H il S ev σ R _ _ _ q _ fun O1 F1 H1 il1 sf pf R1 vs hv => ?_
    obtain ⟨d, q3, rfl, rfl, rfl⟩ := ans_eq hm
    exact hr P O1 F1 H1 il1 _ _ σ vs ds d R1 hv q3 Q fun v F3 H3 sf3 R3 hv => k O1 F3 H3 il1 (sf.trans sf3) pf R3 v hv

/-! ## calls -/
/-- what the slots own is held for the caller -/
def pun (P O : Hp) : Hp := fun a => (P a).or (O a)
abbrev H0 : Hp := fun _ => none
theorem RE.enter {P O F H : Hp} {il : List Addr} {S : So} {ev : Nv} {σ : L2.St} (R : RE K γ P O F H il S ev σ) : RE K γ (pun P O) H0 F H il S [] [] where
  fh := R.fh
  ph := fun a o h => by
    unfold pun at h
    cases hp : P a with
    | some u =>
      rw [hp] at h
      cases h
      obtain ⟨h1, h2, h3, _⟩ := R.ph a _ hp
      exact ⟨h1, h2, h3, rfl⟩
    | none =>
      rw [hp] at h
      obtain ⟨h1, h2, h3⟩ := R.oh a o h
      exact ⟨h1, h2, h3, rfl⟩
  oh := fun a o h => by cases h
  nd := R.nd
  ln := R.ln
  cl := R.cl
  el := rfl
  en := fun i e h => by cases h
  ow := fun i j e e' v v' _ h => by cases h
theorem RE.leave {P O F H F' H' : Hp} {il il' : List Addr} {S S' : So} {ev : Nv} {σ : L2.St} (R : RE K γ P O F H il S ev σ) (sf : Same F F') (pf : il <+: il') (R' : RE K γ (pun P O) H0 F' H' il' S' [] []) : RE K γ P O F' H' il' S' ev σ where
  fh := R'.fh
  ph := fun a o h => by
    obtain ⟨h1, h2, h3, _⟩ := R'.ph a o (by unfold pun; rw [h]; rfl)
    exact ⟨h1, h2, h3, (R.ph a o h).2.2.2⟩
  oh := fun a o h => by
    have hp : P a = none := by
      cases hp : P a with
      | none => rfl
      | some u => rw [(R.ph a u hp).2.2.2] at h; cases h
    obtain ⟨h1, h2, h3, _⟩ := R'.ph a o (by unfold pun; rw [hp]; exact h)
    exact ⟨h1, h2, h3⟩
  nd := R'.nd
  ln := R'.ln
  cl := R'.cl
  el := R.el
  en := fun i e h => by
    obtain ⟨v, h1, h2⟩ := R.en i e h
    exact ⟨v, h1, h2.mono sf pf fun _ _ _ q _ => q⟩
  ow := R.ow
/-- a def's promise by the machine -/
def spc (K : PySem.W.Frag) (γ : Nat → Addr) (n : Nat) (c : Fn) : Sp := fun vs H Q E => vs.length = n ∧ ∃ P F il S ds r S', RE K γ P H0 F H il S [] [] ∧ DRs K F il [] vs ds ∧ c ds S = some (r, S') ∧
  ∀ F' H' il', Same F F' → il <+: il' → RE K γ P H0 F' H' il' S' [] [] → match r with
    | .ok d => ∀ v, DR K F' il' [] v d → Q v H'
    | .ex x => ∀ cls dx, XP K γ F' H' il' x cls dx → E cls dx H'
theorem se_call {ta : TA} {ma : Mm (List D)} {n : Nat} {c : Fn} (ha : SA K γ W ta ma) (hn : ∀ ev S ds e s, ma ev S = some (.ok ds, e, s) → ds.length = n) : SE K γ W (tCallSD (spc K γ n c) [] (fun σ cls d H => W cls d σ H) ta) (mCall c ma) := by
  intro P O F H il S ev σ R r ev' S' hm Q k
  rcases bnd_eq hm with ⟨x, q, rfl⟩ | ⟨ds, e1, s1, q, hm⟩
  · exact sa_esc ha R q _ fun O1 F1 H1 il1 sf pf R1 => k O1 F1 H1 il1 sf pf R1
  · refine sa_esc ha R q _ fun O1 F1 H1 il1 sf pf R1 vs hv => ?_
    split at hm
    · rename_i r' S2 hc
      cases hm
      have hl : vs.length = n := by
        rcases bnd_eq q with ⟨x, q0, z⟩ | ⟨ds0, e0, s0, q0, q1⟩
        · cases z
        · have z := hn _ _ _ _ _ q0
          have : ∀ {ds ds' : List D} {e e' : Nv} {s s' : So}, escs ds e s = some (.ok ds', e', s') → ds'.length = ds.length := by
            intro ds
            induction ds with
            | nil => intro ds' e e' s s' h; cases h; rfl
            | cons d ds ih =>
              intro ds' e e' s s' h
              rcases bnd_eq h with ⟨x, _, z⟩ | ⟨x, e1, s1, _, h⟩
              · cases z
              · rcases bnd_eq h with ⟨x, _, z⟩ | ⟨xs, e2, s2, q, h⟩
                · cases z
                · cases h; simp [ih q]
          rw [PySem.Paired.length hv, this q1, z]
      show spc K γ n c (vs ++ []) H1 Q _
      rw [List.append_nil]
      refine ⟨hl, pun P O1, F1, il1, s1, ds, r, S', R1.enter, hv, hc, fun F2 H2 il2 sf2 pf2 R2 => ?_⟩
      have R3 := R1.leave sf2 pf2 R2
      cases r with
      | ok d => exact fun v hv => k O1 F2 H2 il2 (sf.trans sf2) (pf.trans pf2) R3 v (DR.up hv)
      | ex x => exact fun cls dx hx => k O1 F2 H2 il2 (sf.trans sf2) (pf.trans pf2) R3 cls dx hx
    · cases hm
end
end Cl

namespace Cl
open PySem L2
/-! ## statements of the machine -/
def bndS {α : Type} (m : Om α) (k : α → Nv → So → Os) : Os := match m with
  | none => none
  | some (.ex x, e, s) => some (.ex x, e, s)
  | some (.ok a, e, s) => k a e s
@[simp] theorem bndS_ok {α : Type} (a : α) (e : Nv) (s : So) (k : α → Nv → So → Os) : bndS (some (.ok a, e, s)) k = k a e s := rfl
@[simp] theorem bndS_ex {α : Type} (x : Xn) (e : Nv) (s : So) (k : α → Nv → So → Os) : bndS (some (.ex x, e, s)) k = some (.ex x, e, s) := rfl
@[simp] theorem bndS_none {α : Type} (k : α → Nv → So → Os) : bndS none k = none := rfl
theorem bndS_eq {α : Type} {m : Om α} {k : α → Nv → So → Os} {f : Fl} {e : Nv} {s : So} (h : bndS m k = some (f, e, s)) :
    (∃ x, m = some (.ex x, e, s) ∧ f = .ex x) ∨ ∃ a e1 s1, m = some (.ok a, e1, s1) ∧ k a e1 s1 = some (f, e, s) := by
  cases m with
  | none => cases h
  | some q =>
    obtain ⟨q, e1, s1⟩ := q
    cases q with
    | ok a => exact .inr ⟨a, e1, s1, rfl, h⟩
    | ex x => cases h; exact .inl ⟨x, rfl, rfl⟩
def sNext : SM := fun ev S => some (.nx, ev, S)
def sBrk : SM := fun ev S => some (.bk, ev, S)
def sCnt : SM := fun ev S => some (.ct, ev, S)
def thenS (o : Os) (b : SM) : Os := match o with
  | some (.nx, e, s) => b e s
  | o => o
@[simp] theorem thenS_nx (e : Nv) (s : So) (b : SM) : thenS (some (.nx, e, s)) b = b e s := rfl
@[simp] theorem thenS_rt (d : D) (e : Nv) (s : So) (b : SM) : thenS (some (.rt d, e, s)) b = some (.rt d, e, s) := rfl
@[simp] theorem thenS_bk (e : Nv) (s : So) (b : SM) : thenS (some (.bk, e, s)) b = some (.bk, e, s) := rfl
@[simp] theorem thenS_ct (e : Nv) (s : So) (b : SM) : thenS (some (.ct, e, s)) b = some (.ct, e, s) := rfl
@[simp] theorem thenS_ex (x : Xn) (e : Nv) (s : So) (b : SM) : thenS (some (.ex x, e, s)) b = some (.ex x, e, s) := rfl
@[simp] theorem thenS_none (b : SM) : thenS none b = none := rfl
def sSeq (a b : SM) : SM := fun ev S => thenS (a ev S) b
def sRet (e : EM) : SM := fun ev S => bndS (e ev S) fun x ev S => bndS (esc x ev S) fun d ev S => some (.rt d, ev, S)
def sRetN : SM := fun ev S => some (.rt (.t .none), ev, S)
def sExpr (e : EM) : SM := fun ev S => bndS (e ev S) fun _ ev S => some (.nx, ev, S)
def sIf (c : Mm Bool) (a b : SM) : SM := fun ev S => bndS (c ev S) fun x ev S => if x = true then a ev S else b ev S
/-- what is laid to a target: a value, or the items of a tuple that is new -/
inductive Im where
  | one (d : D) | tup (ds : List D)
abbrev Tg := Im → Nv → So → Option Nv
def gN (i : Nat) : Tg
  | .one (.b _), _, _ => none
  | .one d, ev, _ => some (ev.set i (some (.d d)))
  | .tup ds, ev, _ => (allT ds).map fun ts => ev.set i (some (.d (.t (.tuple ts))))
def gTs : List Tg → List D → Nv → So → Option Nv
  | [], [], ev, _ => some ev
  | g :: gs, d :: ds, ev, S => (g (.one d) ev S).bind fun ev => gTs gs ds ev S
  | _, _, _, _ => none
def gT (gs : List Tg) : Tg
  | .one d, ev, S => (viewT S d).bind fun ds => gTs gs ds ev S
  | .tup ds, ev, S => gTs gs ds ev S
def sAsg (g : Tg) (e : EM) : SM := fun ev S => bndS (e ev S) fun x ev S => bndS (esc x ev S) fun d ev S => (g (.one d) ev S).map fun ev => (.nx, ev, S)
/-- x = a new list, x's own -/
def sOwn (i : Nat) (m : Mm (List D)) : SM := fun ev S => bndS (m ev S) fun ds ev S => some (.nx, ev.set i (some (.ol ds)), S)
/-- what is walked -/
structure Itr where
  its : List Im
  chk : So → Prop
open Classical in
noncomputable def forL (g : Tg) (b : SM) (chk : So → Prop) : List Im → SM
  | [], ev, S => if chk S then some (.nx, ev, S) else none
  | x :: r, ev, S => if chk S then match g x ev S with
    | none => none
    | some ev => match b ev S with
      | some (.nx, e, s) => forL g b chk r e s
      | some (.ct, e, s) => forL g b chk r e s
      | some (.bk, e, s) => some (.nx, e, s)
      | o => o
    else none
noncomputable def sFor (it : Mm Itr) (g : Tg) (b : SM) : SM := fun ev S => bndS (it ev S) fun I ev S => forL g b I.chk I.its ev S
def whl (c : Mm Bool) (b : SM) : Nat → SM
  | 0, _, _ => none
  | n + 1, ev, S => bndS (c ev S) fun x ev S => if x = true then match b ev S with
      | some (.nx, e, s) => whl c b n e s
      | some (.ct, e, s) => whl c b n e s
      | some (.bk, e, s) => some (.nx, e, s)
      | o => o
    else some (.nx, ev, S)
theorem whl_mono {c : Mm Bool} {b : SM} : ∀ {n : Nat} {ev : Nv} {S : So} {r : Fl × Nv × So}, whl c b n ev S = some r → whl c b (n + 1) ev S = some r := by
  intro n
  induction n with
  | zero => intro ev S r h; cases h
  | succ n ih =>
    intro ev S r h
    unfold whl at h ⊢
    cases hc : c ev S with
    | none => rw [hc] at h; cases h
    | some q =>
      obtain ⟨q, e1, s1⟩ := q
      rw [hc] at h
      cases q with
      | ex x => exact h
      | ok k =>
        rw [bndS_ok] at h ⊢
        cases k with
        | false => exact h
        | true =>
          rw [if_pos rfl] at h ⊢
          cases hb : b e1 s1 with
          | none => rw [hb] at h; cases h
          | some q =>
            obtain ⟨f, e2, s2⟩ := q
            rw [hb] at h
            cases f with
            | nx => exact ih h
            | ct => exact ih h
            | bk => exact h
            | rt d => exact h
            | ex x => exact h
theorem whl_le {c : Mm Bool} {b : SM} {n m : Nat} {ev : Nv} {S : So} {r : Fl × Nv × So} (hl : n ≤ m) (h : whl c b n ev S = some r) : whl c b m ev S = some r := by
  induction hl with
  | refl => exact h
  | step _ ih => exact whl_mono ih
open Classical in
noncomputable def sWhile (c : Mm Bool) (b : SM) : SM := fun ev S => if h : ∃ r n, whl c b n ev S = some r then some h.choose else none
theorem sWhile_of {c : Mm Bool} {b : SM} {n : Nat} {ev : Nv} {S : So} {r : Fl × Nv × So} (h : whl c b n ev S = some r) : sWhile c b ev S = some r := by
  have hx : ∃ r n, whl c b n ev S = some r := ⟨r, n, h⟩
  unfold sWhile
  rw [dif_pos hx]
  obtain ⟨m, hm⟩ := hx.choose_spec
  have h1 := whl_le (Nat.le_max_left n m) h
  have h2 := whl_le (Nat.le_max_right n m) hm
  rw [h1] at h2
  exact h2.symm
theorem of_sWhile {c : Mm Bool} {b : SM} {ev : Nv} {S : So} {r : Fl × Nv × So} (h : sWhile c b ev S = some r) : ∃ n, whl c b n ev S = some r := by
  unfold sWhile at h
  split at h
  · rename_i hx
    cases h
    exact hx.choose_spec
  · cases h

section
variable {K : PySem.W.Frag} {γ : Nat → Addr} {W : WX}
theorem ss_next : SS K γ W tNext sNext := by
  intro P O F H il S ev σ R f ev' S' hm E k
  cases hm
  exact k O F H il σ (Same.refl F) (pref_rfl _) R
theorem ss_brk : SS K γ W tBreak sBrk := by
  intro P O F H il S ev σ R f ev' S' hm E k
  cases hm
  exact k O F H il σ (Same.refl F) (pref_rfl _) R
theorem ss_cnt : SS K γ W tCont sCnt := by
  intro P O F H il S ev σ R f ev' S' hm E k
  cases hm
  exact k O F H il σ (Same.refl F) (pref_rfl _) R
theorem ss_seq {t u : TS} {m n : SM} (ha : SS K γ W t m) (hb : SS K γ W u n) : SS K γ W (tSeq t u) (sSeq m n) := by
  intro P O F H il S ev σ R f ev' S' hm E k
  unfold sSeq at hm
  cases h1 : m ev S with
  | none => rw [h1] at hm; cases hm
  | some q =>
    obtain ⟨f1, e1, s1⟩ := q
    rw [h1] at hm
    refine ha P O F H il S ev σ R _ _ _ h1 { E with nx := u E } fun O1 F1 H1 il1 σ1 sf pf R1 => ?_
    cases f1 with
    | nx => exact hb P O1 F1 H1 il1 s1 e1 σ1 R1 _ _ _ hm E fun O2 F2 H2 il2 σ2 sf2 pf2 R2 => k O2 F2 H2 il2 σ2 (sf.trans sf2) (pf.trans pf2) R2
    | rt d => cases hm; exact k O1 F1 H1 il1 σ1 sf pf R1
    | bk => cases hm; exact k O1 F1 H1 il1 σ1 sf pf R1
    | ct => cases hm; exact k O1 F1 H1 il1 σ1 sf pf R1
    | ex x => cases hm; exact k O1 F1 H1 il1 σ1 sf pf R1
theorem ss_ret {t : TE} {m : EM} (h : SE K γ W t m) : SS K γ W (tRet t) (sRet m) := by
  intro P O F H il S ev σ R f ev' S' hm E k
  rcases bndS_eq hm with ⟨x, q, rfl⟩ | ⟨d, e1, s1, q, hm⟩
  · exact h P O F H il S ev σ R _ _ _ q _ fun O1 F1 H1 il1 sf pf R1 => k O1 F1 H1 il1 σ sf pf R1
  · refine h P O F H il S ev σ R _ _ _ q _ fun O1 F1 H1 il1 sf pf R1 v hv => ?_
    rcases bndS_eq hm with ⟨x, q', rfl⟩ | ⟨d', e2, s2, q', hm⟩
    · obtain ⟨_, _, _, _, z, _⟩ := esc_ok R1 hv q'
      cases z
    · obtain ⟨d2, O2, F2, il2, z, sf2, pf2, R2, hv2⟩ := esc_ok R1 hv q'
      cases z; cases hm
      exact k O2 F2 H1 il2 σ (sf.trans sf2) (pf.trans pf2) R2 v hv2
theorem ss_retN : SS K γ W tRetN sRetN := by
  intro P O F H il S ev σ R f ev' S' hm E k
  cases hm
  exact k O F H il σ (Same.refl F) (pref_rfl _) R .non .non
theorem ss_expr {t : TE} {m : EM} (h : SE K γ W t m) : SS K γ W (tDrop t) (sExpr m) := by
  intro P O F H il S ev σ R f ev' S' hm E k
  rcases bndS_eq hm with ⟨x, q, rfl⟩ | ⟨d, e1, s1, q, hm⟩
  · exact h P O F H il S ev σ R _ _ _ q _ fun O1 F1 H1 il1 sf pf R1 => k O1 F1 H1 il1 σ sf pf R1
  · refine h P O F H il S ev σ R _ _ _ q _ fun O1 F1 H1 il1 sf pf R1 v hv => ?_
    cases hm
    exact k O1 F1 H1 il1 σ sf pf R1
theorem ss_if {c : TT} {t u : TS} {mc : Mm Bool} {m n : SM} (hc : ST K γ W c mc) (ha : SS K γ W t m) (hb : SS K γ W u n) : SS K γ W (tIfS c t u) (sIf mc m n) := by
  intro P O F H il S ev σ R f ev' S' hm E k
  rcases bndS_eq hm with ⟨x, q, rfl⟩ | ⟨b, e1, s1, q, hm⟩
  · exact hc P O F H il S ev σ R _ _ _ q _ fun O1 F1 H1 il1 sf pf R1 => k O1 F1 H1 il1 σ sf pf R1
  · refine hc P O F H il S ev σ R _ _ _ q _ fun O1 F1 H1 il1 sf pf R1 => ?_
    cases b with
    | true => exact iteT (A := t E σ H1) (B := u E σ H1) (ha P O1 F1 H1 il1 s1 e1 σ R1 _ _ _ hm _ fun O2 F2 H2 il2 σ2 sf2 pf2 R2 => k O2 F2 H2 il2 σ2 (sf.trans sf2) (pf.trans pf2) R2)
    | false => exact iteF (A := t E σ H1) (B := u E σ H1) (hb P O1 F1 H1 il1 s1 e1 σ R1 _ _ _ hm _ fun O2 F2 H2 il2 σ2 sf2 pf2 R2 => k O2 F2 H2 il2 σ2 (sf.trans sf2) (pf.trans pf2) R2)

/-! ### targets -/
/-- an item: a value, or a tuple that is new -/
def IR (K : PySem.W.Frag) (F : Hp) (il : List Addr) (v : V) : Im → Prop
  | .one d => DR K F il [] v d
  | .tup ds => ∃ a vs, v = .ref a ∧ SqT K F a vs ∧ DRs K F il [] vs ds
def SG (K : PySem.W.Frag) (γ : Nat → Addr) (t : TG) (g : Tg) : Prop := ∀ P O F H il S ev σ, RE K γ P O F H il S ev σ → ∀ v x ev', IR K F il v x → g x ev S = some ev' → ∀ Q : L2.St → Hp → Prop,
  (∀ σ', RE K γ P O F H il S ev' σ' → Q σ' H) → t v σ H Q
theorem sg_name (i : Nat) : SG K γ (gName i) (gN i) := by
  intro P O F H il S ev σ R v x ev' hx hg Q k
  cases x with
  | one d =>
    cases d with
    | b j => cases hg
    | t d => cases hg; exact k _ (R.setD hx)
    | r n => cases hg; exact k _ (R.setD hx)
  | tup ds =>
    obtain ⟨ts, h1, rfl⟩ := Option.map_eq_some_iff.mp hg
    obtain ⟨a, vs, rfl, h2, h3⟩ := hx
    rw [allT_eq h1] at h3
    exact k _ (R.setD (x := .t (.tuple ts)) (TR.tup h2 (DRs.trs h3)))
def SGs (K : PySem.W.Frag) (γ : Nat → Addr) (t : TGs) (gs : List Tg) : Prop := ∀ P O F H il S ev σ, RE K γ P O F H il S ev σ → ∀ vs ds ev', DRs K F il [] vs ds → gTs gs ds ev S = some ev' → ∀ Q : L2.St → Hp → Prop,
  (∀ σ', RE K γ P O F H il S ev' σ' → Q σ' H) → t vs σ H Q
theorem sgs_nil : SGs K γ gNil [] := by
  intro P O F H il S ev σ R vs ds ev' hx hg Q k
  cases ds with
  | nil => cases hx; cases hg; exact ⟨rfl, k σ R⟩
  | cons d ds => cases hg
theorem sgs_cons {t : TG} {u : TGs} {g : Tg} {gs : List Tg} (h1 : SG K γ t g) (h2 : SGs K γ u gs) : SGs K γ (gCons t u) (g :: gs) := by
  intro P O F H il S ev σ R vs ds ev' hx hg Q k
  cases ds with
  | nil => cases hg
  | cons d ds =>
    cases hx with
    | cons a b =>
      obtain ⟨e1, q1, q2⟩ := Option.bind_eq_some_iff.mp hg
      exact ⟨_, _, rfl, h1 P O F H il S ev σ R _ (.one d) e1 a q1 _ fun σ1 R1 => h2 P O F H il S e1 σ1 R1 _ ds ev' b q2 Q k⟩
theorem gTs_len : ∀ {gs : List Tg} {ds : List D} {ev ev' : Nv} {S : So}, gTs gs ds ev S = some ev' → gs.length = ds.length
  | [], [], _, _, _, _ => rfl
  | [], _ :: _, _, _, _, h => by cases h
  | _ :: _, [], _, _, _, h => by cases h
  | g :: gs, d :: ds, ev, ev', S, h => by
    obtain ⟨e1, _, q2⟩ := Option.bind_eq_some_iff.mp h
    simp [gTs_len q2]
theorem sg_tup {n : Nat} {u : TGs} {gs : List Tg} (h : SGs K γ u gs) (hn : gs.length = n := by rfl) : SG K γ (gTup K n u) (gT gs) := by
  intro P O F H il S ev σ R v x ev' hx hg Q k
  cases x with
  | one d =>
    obtain ⟨ds, q1, q2⟩ := Option.bind_eq_some_iff.mp hg
    obtain ⟨a, vs, rfl, h1, h2⟩ := viewT_ok R (DR.up (σ := σ) hx) q1
    exact ⟨a, vs, rfl, Same.sqT R.fh h1, by rw [PySem.Paired.length h2, ← gTs_len q2]; exact hn, h P O F H il S ev σ R vs ds ev' h2 q2 Q k⟩
  | tup ds =>
    obtain ⟨a, vs, rfl, h1, h2⟩ := hx
    exact ⟨a, vs, rfl, Same.sqT R.fh h1, by rw [PySem.Paired.length h2, ← gTs_len hg]; exact hn, h P O F H il S ev σ R vs ds ev' h2 hg Q k⟩
theorem ss_asg {t : TE} {m : EM} {g : TG} {tg : Tg} (h : SE K γ W t m) (hg : SG K γ g tg) : SS K γ W (tAsg t g) (sAsg tg m) := by
  intro P O F H il S ev σ R f ev' S' hm E k
  rcases bndS_eq hm with ⟨x, q, rfl⟩ | ⟨d, e1, s1, q, hm⟩
  · exact h P O F H il S ev σ R _ _ _ q _ fun O1 F1 H1 il1 sf pf R1 => k O1 F1 H1 il1 σ sf pf R1
  · refine h P O F H il S ev σ R _ _ _ q _ fun O1 F1 H1 il1 sf pf R1 v hv => ?_
    rcases bndS_eq hm with ⟨x, q', rfl⟩ | ⟨d', e2, s2, q', hm⟩
    · obtain ⟨_, _, _, _, z, _⟩ := esc_ok R1 hv q'
      cases z
    · obtain ⟨d2, O2, F2, il2, z, sf2, pf2, R2, hv2⟩ := esc_ok R1 hv q'
      cases z
      obtain ⟨e3, q3, z⟩ := Option.map_eq_some_iff.mp hm
      cases z
      exact hg P O2 F2 H1 il2 _ _ σ R2 v (.one d') _ hv2 q3 _ fun σ3 R3 => k O2 F2 H1 il2 σ3 (sf.trans sf2) (pf.trans pf2) R3
theorem ss_own {i : Nat} {t : TE} {m : Mm (List D)} (h : SL K γ W t m) : SS K γ W (tAsg t (gName i)) (sOwn i m) := by
  intro P O F H il S ev σ R f ev' S' hm E k
  rcases bndS_eq hm with ⟨x, q, rfl⟩ | ⟨ds, e1, s1, q, hm⟩
  · exact h P O F H il S ev σ R _ _ _ q _ fun O1 F1 H1 il1 sf pf R1 => k O1 F1 H1 il1 σ sf pf R1
  · refine h P O F H il S ev σ R _ _ _ q _ fun O1 F1 H1 il1 sf pf R1 vs p hv hz hp => ?_
    cases hm
    exact k _ F1 _ il1 _ sf pf (R1.newO (i := i) (e := .ol ds) hp ⟨p, vs, rfl, upd_same, hv⟩)

/-! ### walks -/
/-- the iterator yields the items, as long as what is walked stands -/
def JOk (K : PySem.W.Frag) (γ : Nat → Addr) (F₀ : Hp) (il₀ : List Addr) (J : It) (I : Itr) : Prop := ∀ (i : Nat) P O F H il S ev σ, Same F₀ F → il₀ <+: il → RE K γ P O F H il S ev σ → I.chk S →
  (i = I.its.length → J.stop i H) ∧ ∀ x, I.its[i]? = some x → J.go i H ∧ ∀ v H', J.yld i H v H' → ∃ F', Same F F' ∧ RE K γ P O F' H' il S ev σ ∧ IR K F' il v x
def SI (K : PySem.W.Frag) (γ : Nat → Addr) (W : WX) (w : TI) (m : Mm Itr) : Prop := ∀ P O F H il S ev σ, RE K γ P O F H il S ev σ → ∀ r ev' S', m ev S = some (r, ev', S') → ∀ R : It → Hp → Prop,
  (∀ O' F' H' il', Same F F' → il <+: il' → RE K γ P O' F' H' il' S' ev' σ → match r with
    | .ok I => ∀ J, JOk K γ F' il' J I → R J H'
    | .ex x => ∀ cls dx, XP K γ F' H' il' x cls dx → W cls dx σ H') → w σ H R
theorem ss_for {w : TI} {it : Mm Itr} {g : TG} {tg : Tg} {tb : TS} {b : SM} (hi : SI K γ W w it) (hg : SG K γ g tg) (hb : SS K γ W tb b) : SS K γ W (tFor w g tb) (sFor it tg b) := by
  intro P O F H il S ev σ R f ev' S' hm E k
  rcases bndS_eq hm with ⟨x, q, rfl⟩ | ⟨I, e1, s1, q, hm⟩
  · exact hi P O F H il S ev σ R _ _ _ q _ fun O1 F1 H1 il1 sf pf R1 => k O1 F1 H1 il1 σ sf pf R1
  · refine hi P O F H il S ev σ R _ _ _ q _ fun O1 F1 H1 il1 sf pf R1 J hJ => ?_
    refine ⟨fun i m σ' H' => m = I.its.length - i ∧ i ≤ I.its.length ∧ ∃ O2 F2 il2 S2 ev2, Same F1 F2 ∧ il1 <+: il2 ∧ RE K γ P O2 F2 H' il2 S2 ev2 σ' ∧ forL tg b I.chk (I.its.drop i) ev2 S2 = some (f, ev', S'),
      ⟨I.its.length, by simp, Nat.zero_le _, O1, F1, il1, s1, e1, Same.refl F1, pref_rfl _, R1, hm⟩, ?_⟩
    rintro i m σ2 H2 ⟨rfl, hi, O2, F2, il2, S2, ev2, sf2, pf2, R2, hf⟩
    by_cases hlt : i < I.its.length
    · have hx : I.its[i]? = some I.its[i] := List.getElem?_eq_getElem hlt
      rw [List.drop_eq_getElem_cons hlt] at hf
      unfold forL at hf
      split at hf
      · rename_i hc
        obtain ⟨go, yl⟩ := (hJ i P O2 F2 H2 il2 S2 ev2 σ2 sf2 pf2 R2 hc).2 _ hx
        refine .inr ⟨go, fun σ' H' => ∃ O3 F3 il3 S3 ev3, Same F1 F3 ∧ il1 <+: il3 ∧ RE K γ P O3 F3 H' il3 S3 ev3 σ' ∧ forL tg b I.chk (I.its.drop (i + 1)) ev3 S3 = some (f, ev', S'),
          fun σ' H' q => ⟨_, Nat.sub_lt_sub_left hlt (Nat.lt_succ_self i), rfl, hlt, q⟩, fun v H' hy => ?_⟩
        obtain ⟨F3, sf3, R3, hv⟩ := yl v H' hy
        split at hf
        · cases hf
        · rename_i ev3 hg3
          refine hg P O2 F3 H' il2 S2 ev2 σ2 R3 v _ ev3 hv hg3 _ fun σ4 R4 => ?_
          cases hbb : b ev3 S2 with
          | none => rw [hbb] at hf; cases hf
          | some q =>
            obtain ⟨f5, e5, s5⟩ := q
            rw [hbb] at hf
            refine hb P O2 F3 H' il2 S2 ev3 σ4 R4 _ _ _ hbb _ fun O5 F5 H5 il5 σ5 sf5 pf5 R5 => ?_
            have sfA := (sf2.trans sf3).trans sf5
            cases f5 with
            | nx => exact ⟨O5, F5, il5, s5, e5, sfA, pf2.trans pf5, R5, hf⟩
            | ct => exact ⟨O5, F5, il5, s5, e5, sfA, pf2.trans pf5, R5, hf⟩
            | bk => cases hf; exact k O5 F5 H5 il5 σ5 (sf.trans sfA) (pf.trans (pf2.trans pf5)) R5
            | rt d => cases hf; exact k O5 F5 H5 il5 σ5 (sf.trans sfA) (pf.trans (pf2.trans pf5)) R5
            | ex x => cases hf; exact k O5 F5 H5 il5 σ5 (sf.trans sfA) (pf.trans (pf2.trans pf5)) R5
      · cases hf
    · have e : i = I.its.length := by omega
      subst e
      rw [List.drop_length] at hf
      unfold forL at hf
      split at hf
      · rename_i hc
        cases hf
        exact .inl ⟨(hJ _ P O2 F2 H2 il2 _ _ σ2 sf2 pf2 R2 hc).1 rfl, k O2 F2 H2 il2 σ2 (sf.trans sf2) (pf.trans pf2) R2⟩
      · cases hf
theorem ss_while {c : TT} {tb : TS} {mc : Mm Bool} {b : SM} (hc : ST K γ W c mc) (hb : SS K γ W tb b) : SS K γ W (tWhile c tb) (sWhile mc b) := by
  intro P O F H il S ev σ R f ev' S' hm E k
  obtain ⟨n, hn⟩ := of_sWhile hm
  refine ⟨fun m σ' H' => ∃ O2 F2 il2 S2 ev2, Same F F2 ∧ il <+: il2 ∧ RE K γ P O2 F2 H' il2 S2 ev2 σ' ∧ whl mc b m ev2 S2 = some (f, ev', S'), ⟨n, O, F, il, S, ev, Same.refl F, pref_rfl _, R, hn⟩, ?_⟩
  rintro m σ2 H2 ⟨O2, F2, il2, S2, ev2, sf2, pf2, R2, hf⟩
  cases m with
  | zero => cases hf
  | succ m =>
    unfold whl at hf
    rcases bndS_eq hf with ⟨x, q, rfl⟩ | ⟨x, e3, s3, q, hf⟩
    · exact hc P O2 F2 H2 il2 S2 ev2 σ2 R2 _ _ _ q _ fun O1 F1 H1 il1 sf pf R1 => k O1 F1 H1 il1 σ2 (sf2.trans sf) (pf2.trans pf) R1
    · refine hc P O2 F2 H2 il2 S2 ev2 σ2 R2 _ _ _ q _ fun O3 F3 H3 il3 sf3 pf3 R3 => ?_
      cases x with
      | false =>
        rw [if_neg Bool.false_ne_true] at hf
        cases hf
        have z := k O3 F3 H3 il3 σ2 (sf2.trans sf3) (pf2.trans pf3) R3
        dsimp only [OutT]
        rw [if_neg Bool.false_ne_true]
        exact z
      | true =>
        rw [if_pos rfl] at hf
        dsimp only [OutT]
        rw [if_pos rfl]
        refine ⟨fun σ' H' => ∃ O2 F2 il2 S2 ev2, Same F F2 ∧ il <+: il2 ∧ RE K γ P O2 F2 H' il2 S2 ev2 σ' ∧ whl mc b m ev2 S2 = some (f, ev', S'), fun σ' H' q => ⟨m, Nat.lt_succ_self m, q⟩, ?_⟩
        cases hbb : b e3 s3 with
        | none => rw [hbb] at hf; cases hf
        | some q =>
          obtain ⟨f5, e5, s5⟩ := q
          rw [hbb] at hf
          refine hb P O3 F3 H3 il3 s3 e3 σ2 R3 _ _ _ hbb _ fun O5 F5 H5 il5 σ5 sf5 pf5 R5 => ?_
          have sfA := (sf2.trans sf3).trans sf5
          have pfA := (pf2.trans pf3).trans pf5
          cases f5 with
          | nx => exact ⟨O5, F5, il5, s5, e5, sfA, pfA, R5, hf⟩
          | ct => exact ⟨O5, F5, il5, s5, e5, sfA, pfA, R5, hf⟩
          | bk => cases hf; exact k O5 F5 H5 il5 σ5 sfA pfA R5
          | rt d => cases hf; exact k O5 F5 H5 il5 σ5 sfA pfA R5
          | ex x => cases hf; exact k O5 F5 H5 il5 σ5 sfA pfA R5
end
end Cl

namespace Cl
open PySem L2

/-! ## operators by values -/
abbrev D.int (i : Int) : D := .t (.int i)
abbrev D.bool (b : Bool) : D := .t (.bool b)
abbrev D.str (x : Str) : D := .t (.str x)
abbrev D.non : D := .t .none
/-- a list that is a tree, a cell, a slot's own (not the script) -/
def viewM (ev : Nv) (S : So) : D → Option (List D)
  | .t (.list ts) => some (ts.map .t)
  | .r n => match S[n]? with
    | some (.lst ds) => some ds
    | _ => none
  | .b i => match ev[i]? with
    | some (some (.ol ds)) => some ds
    | _ => none
  | _ => none
@[simp] theorem viewM_t (ev : Nv) (S : So) (ts : List PyData) : viewM ev S (.t (.list ts)) = some (ts.map .t) := rfl
theorem viewM_ok {K : PySem.W.Frag} {γ : Nat → Addr} {P O F H : Hp} {il : List Addr} {S : So} {ev : Nv} {σ : L2.St} (R : RE K γ P O F H il S ev σ) {d : D} {v : V} {ds : List D} (h : DR K F il σ v d) (q : viewM ev S d = some ds) :
    ∃ a vs, v = .ref a ∧ H a = some (.lst vs) ∧ DRs K F il [] vs ds := by
  cases d with
  | t d =>
    cases d with
    | list ts =>
      cases q
      cases h with
      | lst h1 h2 => exact ⟨_, _, rfl, R.fh _ _ h1, TRs.drs h2⟩
    | _ => cases q
  | r n =>
    obtain ⟨a, rfl, h2⟩ := h
    unfold viewM at q
    dsimp only at q
    split at q
    · rename_i ds' hc
      cases q
      obtain ⟨_, vs, h3, h4⟩ := R.cl n a _ h2 hc
      exact ⟨a, vs, rfl, h3, h4⟩
    · cases q
  | b i =>
    have hs : σ[i]? = some (some v) := h
    unfold viewM at q
    dsimp only at q
    split at q
    · rename_i ds' hc
      cases q
      obtain ⟨u, q1, q2⟩ := R.en i _ hc
      rw [hs] at q1; cases q1
      obtain ⟨a, vs, rfl, q3, q4⟩ := q2
      exact ⟨a, vs, rfl, (R.oh _ _ q3).1, q4⟩
    · cases q
theorem DRs.app {K : PySem.W.Frag} {F : Hp} {il : List Addr} {σ : L2.St} : ∀ {u1 u2 : List V} {t1 t2 : List D}, DRs K F il σ u1 t1 → DRs K F il σ u2 t2 → DRs K F il σ (u1 ++ u2) (t1 ++ t2)
  | _, _, _, _, .nil, h => h
  | _, _, _, _, .cons a b, h => .cons a (DRs.app b h)
theorem TRs.app {K : PySem.W.Frag} {F : Hp} : ∀ {u1 u2 : List V} {t1 t2 : List PyData}, TRs K F u1 t1 → TRs K F u2 t2 → TRs K F (u1 ++ u2) (t1 ++ t2)
  | _, _, _, _, .nil, h => h
  | _, _, _, _, .cons a b, h => .cons a (TRs.app b h)
theorem TRs.len {K : PySem.W.Frag} {F : Hp} : ∀ {u : List V} {t : List PyData}, TRs K F u t → u.length = t.length
  | _, _, .nil => rfl
  | _, _, .cons _ b => by simp [TRs.len b]
/-- a list is made of its items: as a tree -/
def treeL (ds : List D) : Option D := (allT ds).map fun ts => .t (.list ts)
@[simp] theorem treeL_map (ts : List PyData) : treeL (ts.map .t) = some (.t (.list ts)) := by simp [treeL]
theorem treeL_ok {K : PySem.W.Frag} {γ : Nat → Addr} {P O F H : Hp} {il : List Addr} {S : So} {ev : Nv} {σ : L2.St} (R : RE K γ P O F H il S ev σ) {ds : List D} {vs : List V} {d : D} (h : DRs K F il [] vs ds) (q : treeL ds = some d) {p : Addr} (hp : H p = none) :
    Same F (upd F p (.lst vs)) ∧ RE K γ P O (upd F p (.lst vs)) (upd H p (.lst vs)) il S ev σ ∧ DR K (upd F p (.lst vs)) il σ (.ref p) d := by
  obtain ⟨ts, q1, rfl⟩ := Option.map_eq_some_iff.mp q
  rw [allT_eq q1] at h
  have sf := R.same (o := .lst vs) hp
  exact ⟨sf, R.newF hp, TR.lst upd_same (TRs.mono sf _ _ (DRs.trs h))⟩

def catS (a b : Str) : Option D := if a.length + b.length ≤ sizeLine then some (.t (.str (a ++ b))) else none
def dAdd : F2 := fun ev S x y => match x, y with
  | .t (.int a), .t (.int b) => some (.int (a + b))
  | .t (.str a), .t (.str b) => catS a b
  | .t (.tuple a), .t (.tuple b) => if a ≠ [] ∧ a.length + b.length ≤ sizeLine then some (.t (.tuple (a ++ b))) else none
  | x, y => (viewM ev S x).bind fun xs => (viewM ev S y).bind fun ys => if xs.length + ys.length ≤ sizeLine then treeL (xs ++ ys) else none
def dSub : F2 := fun _ _ x y => match x, y with
  | .t (.int a), .t (.int b) => some (.int (a - b))
  | _, _ => none
instance (i j : Int) : Decidable (CMul i j) := by unfold CMul; infer_instance
instance (i j : Int) : Decidable (CDiv i j) := by unfold CDiv; infer_instance
instance (i j : Int) : Decidable (CPow i j) := by unfold CPow; infer_instance
def dMul : F2 := fun ev S x y => match x, y with
  | .t (.int a), .t (.int b) => if CMul a b then some (.int (a * b)) else none
  | .t (.str z), .t (.int k) => if -(2 ^ 63) ≤ k ∧ k < 2 ^ 63 ∧ z.length * k.toNat ≤ sizeLine then some (.str (Txt.mul z k)) else none
  | x, .t (.int k) => (viewM ev S x).bind fun xs => if -(2 ^ 63) ≤ k ∧ k < 2 ^ 63 ∧ xs.length * k.toNat ≤ sizeLine then treeL (List.replicate k.toNat xs).flatten else none
  | _, _ => none
def dDiv : F2 := fun _ _ x y => match x, y with
  | .t (.int a), .t (.int b) => if CDiv a b then some (.int (a / b)) else none
  | _, _ => none
def dMod : F2 := fun _ _ x y => match x, y with
  | .t (.int a), .t (.int b) => if 0 < b then some (.int (a % b)) else none
  | _, _ => none
def dPow : F2 := fun _ _ x y => match x, y with
  | .t (.int a), .t (.int b) => if CPow a b then some (.int (a ^ b.toNat)) else none
  | _, _ => none
def dShl : F2 := fun _ _ x y => match x, y with
  | .t (.int a), .t (.int b) => if CPow a b then some (.int (a * 2 ^ b.toNat)) else none
  | _, _ => none
def dShr : F2 := fun _ _ x y => match x, y with
  | .t (.int a), .t (.int b) => if 0 ≤ b then some (.int (a / 2 ^ b.toNat)) else none
  | _, _ => none
def dAndB : F2 := fun _ _ x y => match x, y with
  | .t (.int a), .t (.int b) => some (.int (Builtin.bitAnd a b))
  | _, _ => none
def dOrB : F2 := fun _ _ x y => match x, y with
  | .t (.int a), .t (.int b) => some (.int (Builtin.bitOr a b))
  | _, _ => none
def dXorB : F2 := fun _ _ x y => match x, y with
  | .t (.int a), .t (.int b) => some (.int (Builtin.bitXor a b))
  | _, _ => none
def dNeg : F1 := fun _ _ x => match x with
  | .t (.int a) => some (.int (-a))
  | _ => none
def lexInts : List PyData → Option (List Int)
  | [] => some []
  | .int i :: r => (lexInts r).map (i :: ·)
  | _ :: _ => none
def dLt : F2 := fun _ _ x y => match x, y with
  | .t (.int a), .t (.int b) => some (.bool (decide (a < b)))
  | .t (.str a), .t (.str b) => some (.bool (decide (a.cps.toList < b.cps.toList)))
  | .t (.tuple a), .t (.tuple b) => (lexInts a).bind fun ns => (lexInts b).bind fun ms => some (.bool (HT.lexLt ns ms))
  | _, _ => none
def dLe : F2 := fun _ _ x y => match x, y with
  | .t (.int a), .t (.int b) => some (.bool (decide (a ≤ b)))
  | _, _ => none
def dGt : F2 := fun _ _ x y => match x, y with
  | .t (.int a), .t (.int b) => some (.bool (decide (b < a)))
  | _, _ => none
def dGe : F2 := fun _ _ x y => match x, y with
  | .t (.int a), .t (.int b) => some (.bool (decide (b ≤ a)))
  | _, _ => none
/-- == of data -/
def eqP (p q : PyData) : Option Bool := match p, q with
  | .str a, .str b => some (a == b)
  | p, q => if SeqAt.shaped p = true ∧ SeqAt.shaped q = true then some (PyData.eqv p q) else none
theorem eqP_cases {p q : PyData} {b : Bool} (h : eqP p q = some b) : (∃ x y, p = .str x ∧ q = .str y ∧ b = (x == y)) ∨ (SeqAt.shaped p = true ∧ SeqAt.shaped q = true ∧ b = PyData.eqv p q) := by
  unfold eqP at h
  split at h
  · cases h; exact .inl ⟨_, _, rfl, rfl, rfl⟩
  · split at h
    · rename_i hs
      cases h; exact .inr ⟨hs.1, hs.2, rfl⟩
    · cases h
def rEqX (K : PySem.W.Frag) : R2 := fun x y H Q => rEq x y H Q ∨ rEqD K x y H Q
def rNeX (K : PySem.W.Frag) : R2 := fun x y H Q => rNe x y H Q ∨ rNeD K x y H Q
def dEq : F2 := fun ev S x y => (dataOf ev S x).bind fun p => (dataOf ev S y).bind fun q => (eqP p q).map .bool
def dNe : F2 := fun ev S x y => (dataOf ev S x).bind fun p => (dataOf ev S y).bind fun q => (eqP p q).map fun b => .bool (!b)
def dIsN : F2 := fun _ _ x y => match x, y with
  | .t .none, .t .none => some (.bool true)
  | .b _, _ => none
  | _, .t .none => some (.bool false)
  | _, _ => none
def dNotN : F2 := fun _ _ x y => match x, y with
  | .t .none, .t .none => some (.bool false)
  | .b _, _ => none
  | _, .t .none => some (.bool true)
  | _, _ => none
/-- x[i] -/
def dIx : F2 := fun ev S x y => match x, y with
  | .t (.str z), .t (.int i) => if z.length ≤ sizeLine then (atI z.cps.toList i).map fun c => .str ⟨#[c]⟩ else none
  | x, .t (.int i) => match viewL ev S x with
    | some ds => atI ds i
    | none => (viewT S x).bind fun ds => atI ds i
  | _, _ => none
section
variable {K : PySem.W.Frag} {γ : Nat → Addr}
theorem rv_int {f : F2} {r : R2} {g : Int → Int → V} {gd : Int → Int → PyData} {C : Int → Int → Prop} (hr : ∀ i j H (Q : VK), C i j → Q (g i j) H → r (.int i) (.int j) H Q) (hg : ∀ F i j, TR K F (g i j) (gd i j))
    (hf : ∀ ev S x y d, f ev S x y = some d → ∃ i j, x = .int i ∧ y = .int j ∧ C i j ∧ d = .t (gd i j)) : RV2 K γ r f := by
  intro P O F H il S ev σ x y dx dy d R hx hy h Q k
  obtain ⟨i, j, rfl, rfl, c, rfl⟩ := hf _ _ _ _ _ h
  rw [hx.int, hy.int]
  exact hr i j H Q c (k _ F H (Same.refl F) R (hg F i j))
theorem rv_sub : RV2 K γ (rI0 fun i j => .int (i - j)) dSub := rv_int (C := fun _ _ => True) (fun i j H Q _ q => ⟨i, j, rfl, rfl, q⟩) (gd := fun i j => .int (i - j)) (fun F i j => .int _) fun ev S x y d h => by
  unfold dSub at h; split at h
  · cases h; exact ⟨_, _, rfl, rfl, trivial, rfl⟩
  · cases h
theorem rv_div : RV2 K γ (rI CDiv fun i j => .int (i / j)) dDiv := rv_int (fun i j H Q c q => ⟨i, j, rfl, rfl, c, q⟩) (gd := fun i j => .int (i / j)) (fun F i j => .int _) fun ev S x y d h => by
  unfold dDiv at h; split at h
  · split at h
    · rename_i c; cases h; exact ⟨_, _, rfl, rfl, c, rfl⟩
    · cases h
  · cases h
theorem rv_mod : RV2 K γ (rI (fun _ j => 0 < j) fun i j => .int (i % j)) dMod := rv_int (fun i j H Q c q => ⟨i, j, rfl, rfl, c, q⟩) (gd := fun i j => .int (i % j)) (fun F i j => .int _) fun ev S x y d h => by
  unfold dMod at h; split at h
  · split at h
    · rename_i c; cases h; exact ⟨_, _, rfl, rfl, c, rfl⟩
    · cases h
  · cases h
theorem rv_pow : RV2 K γ (rI CPow fun i j => .int (i ^ j.toNat)) dPow := rv_int (fun i j H Q c q => ⟨i, j, rfl, rfl, c, q⟩) (gd := fun i j => .int (i ^ j.toNat)) (fun F i j => .int _) fun ev S x y d h => by
  unfold dPow at h; split at h
  · split at h
    · rename_i c; cases h; exact ⟨_, _, rfl, rfl, c, rfl⟩
    · cases h
  · cases h
theorem rv_shl : RV2 K γ (rI CPow fun i j => .int (i * 2 ^ j.toNat)) dShl := rv_int (fun i j H Q c q => ⟨i, j, rfl, rfl, c, q⟩) (gd := fun i j => .int (i * 2 ^ j.toNat)) (fun F i j => .int _) fun ev S x y d h => by
  unfold dShl at h; split at h
  · split at h
    · rename_i c; cases h; exact ⟨_, _, rfl, rfl, c, rfl⟩
    · cases h
  · cases h
theorem rv_shr : RV2 K γ (rI (fun _ j => 0 ≤ j) fun i j => .int (i / 2 ^ j.toNat)) dShr := rv_int (fun i j H Q c q => ⟨i, j, rfl, rfl, c, q⟩) (gd := fun i j => .int (i / 2 ^ j.toNat)) (fun F i j => .int _) fun ev S x y d h => by
  unfold dShr at h; split at h
  · split at h
    · rename_i c; cases h; exact ⟨_, _, rfl, rfl, c, rfl⟩
    · cases h
  · cases h
theorem rv_andB : RV2 K γ (rI0 fun i j => .int (Builtin.bitAnd i j)) dAndB := rv_int (C := fun _ _ => True) (fun i j H Q _ q => ⟨i, j, rfl, rfl, q⟩) (gd := fun i j => .int (Builtin.bitAnd i j)) (fun F i j => .int _) fun ev S x y d h => by
  unfold dAndB at h; split at h
  · cases h; exact ⟨_, _, rfl, rfl, trivial, rfl⟩
  · cases h
theorem rv_orB : RV2 K γ (rI0 fun i j => .int (Builtin.bitOr i j)) dOrB := rv_int (C := fun _ _ => True) (fun i j H Q _ q => ⟨i, j, rfl, rfl, q⟩) (gd := fun i j => .int (Builtin.bitOr i j)) (fun F i j => .int _) fun ev S x y d h => by
  unfold dOrB at h; split at h
  · cases h; exact ⟨_, _, rfl, rfl, trivial, rfl⟩
  · cases h
theorem rv_xorB : RV2 K γ (rI0 fun i j => .int (Builtin.bitXor i j)) dXorB := rv_int (C := fun _ _ => True) (fun i j H Q _ q => ⟨i, j, rfl, rfl, q⟩) (gd := fun i j => .int (Builtin.bitXor i j)) (fun F i j => .int _) fun ev S x y d h => by
  unfold dXorB at h; split at h
  · cases h; exact ⟨_, _, rfl, rfl, trivial, rfl⟩
  · cases h
theorem rv_le : RV2 K γ (rI0 fun i j => .bl (decide (i ≤ j))) dLe := rv_int (C := fun _ _ => True) (fun i j H Q _ q => ⟨i, j, rfl, rfl, q⟩) (gd := fun i j => .bool (decide (i ≤ j))) (fun F i j => .bl _) fun ev S x y d h => by
  unfold dLe at h; split at h
  · cases h; exact ⟨_, _, rfl, rfl, trivial, rfl⟩
  · cases h
theorem rv_gt : RV2 K γ (rI0 fun i j => .bl (decide (j < i))) dGt := rv_int (C := fun _ _ => True) (fun i j H Q _ q => ⟨i, j, rfl, rfl, q⟩) (gd := fun i j => .bool (decide (j < i))) (fun F i j => .bl _) fun ev S x y d h => by
  unfold dGt at h; split at h
  · cases h; exact ⟨_, _, rfl, rfl, trivial, rfl⟩
  · cases h
theorem rv_ge : RV2 K γ (rI0 fun i j => .bl (decide (j ≤ i))) dGe := rv_int (C := fun _ _ => True) (fun i j H Q _ q => ⟨i, j, rfl, rfl, q⟩) (gd := fun i j => .bool (decide (j ≤ i))) (fun F i j => .bl _) fun ev S x y d h => by
  unfold dGe at h; split at h
  · cases h; exact ⟨_, _, rfl, rfl, trivial, rfl⟩
  · cases h
theorem rv_neg : RV1 K γ (rU fun i => .int (-i)) dNeg := by
  intro P O F H il S ev σ x dx d R hx h Q k
  unfold dNeg at h; split at h
  · cases h
    rw [hx.int]
    exact ⟨_, rfl, k _ F H (Same.refl F) R (TR.int _)⟩
  · cases h
theorem lexInts_ok {F : Hp} : ∀ {ds : List PyData} {ns : List Int} {vs : List V}, lexInts ds = some ns → TRs K F vs ds → vs = ns.map V.int
  | [], ns, vs, h, r => by cases h; cases r; rfl
  | d :: ds, ns, vs, h, r => by
    cases r with
    | cons r1 r2 =>
      cases d with
      | int i =>
        obtain ⟨m, q1, rfl⟩ := Option.map_eq_some_iff.mp h
        cases r1
        rw [lexInts_ok q1 r2]
        rfl
      | _ => cases h
abbrev rLtStr : R2 := fun x y H Q => ∃ i j, x = .str i ∧ y = .str j ∧ Q (.bl (decide (i.cps.toList < j.cps.toList))) H
def rLtX (K : PySem.W.Frag) : R2 := fun x y H Q => (rI0 (fun i j => .bl (decide (i < j)))) x y H Q ∨ (rLtStr x y H Q ∨ rLtT K x y H Q)
theorem rv_lt : RV2 K γ (rLtX K) dLt := by
  intro P O F H il S ev σ x y dx dy d R hx hy h Q k
  unfold dLt at h; split at h
  · cases h
    rw [hx.int, hy.int]
    exact .inl ⟨_, _, rfl, rfl, k _ F H (Same.refl F) R (TR.bl _)⟩
  · cases h
    rw [hx.str, hy.str]
    exact .inr (.inl ⟨_, _, rfl, rfl, k _ F H (Same.refl F) R (TR.bl _)⟩)
  · obtain ⟨ns, q1, h⟩ := Option.bind_eq_some_iff.mp h
    obtain ⟨ms, q2, h⟩ := Option.bind_eq_some_iff.mp h
    cases h
    cases hx with
    | tup a1 a2 =>
      cases hy with
      | tup b1 b2 =>
        have e1 := lexInts_ok q1 a2
        have e2 := lexInts_ok q2 b2
        subst e1 e2
        exact .inr (.inr ⟨_, _, _, _, rfl, rfl, Same.sqT R.fh a1, Same.sqT R.fh b1, k _ F H (Same.refl F) R (TR.bl _)⟩)
  · cases h
theorem lay_sh {p : PyData} (h : SeqAt.shaped p = true) : p.canLay0 = true := by
  unfold SeqAt.shaped at h
  exact (Bool.and_eq_true_iff.mp h).1
theorem rv_eq : RV2 K γ (rEqX K) dEq := by
  intro P O F H il S ev σ x y dx dy d R hx hy h Q k
  obtain ⟨p, q1, h⟩ := Option.bind_eq_some_iff.mp h
  obtain ⟨q, q2, h⟩ := Option.bind_eq_some_iff.mp h
  obtain ⟨b, q3, rfl⟩ := Option.map_eq_some_iff.mp h
  rcases eqP_cases q3 with ⟨a, b', rfl, rfl, rfl⟩ | ⟨s1, s2, rfl⟩
  · have d1 := dataOf_ok R hx q1 (.inr ⟨_, rfl⟩)
    have d2 := dataOf_ok R hy q2 (.inr ⟨_, rfl⟩)
    cases d1; cases d2
    refine .inl ⟨rfl, ?_⟩
    rw [dec_str]
    exact k _ F H (Same.refl F) R (TR.bl _)
  · exact .inr ⟨p, q, dataOf_ok R hx q1 (.inl (lay_sh s1)), dataOf_ok R hy q2 (.inl (lay_sh s2)), s1, s2, k _ F H (Same.refl F) R (TR.bl _)⟩
theorem rv_ne : RV2 K γ (rNeX K) dNe := by
  intro P O F H il S ev σ x y dx dy d R hx hy h Q k
  obtain ⟨p, q1, h⟩ := Option.bind_eq_some_iff.mp h
  obtain ⟨q, q2, h⟩ := Option.bind_eq_some_iff.mp h
  obtain ⟨b, q3, rfl⟩ := Option.map_eq_some_iff.mp h
  rcases eqP_cases q3 with ⟨a, b', rfl, rfl, rfl⟩ | ⟨s1, s2, rfl⟩
  · have d1 := dataOf_ok R hx q1 (.inr ⟨_, rfl⟩)
    have d2 := dataOf_ok R hy q2 (.inr ⟨_, rfl⟩)
    cases d1; cases d2
    refine .inl ⟨rfl, ?_⟩
    rw [dec_str]
    exact k _ F H (Same.refl F) R (TR.bl _)
  · exact .inr ⟨p, q, dataOf_ok R hx q1 (.inl (lay_sh s1)), dataOf_ok R hy q2 (.inl (lay_sh s2)), s1, s2, k _ F H (Same.refl F) R (TR.bl _)⟩
theorem DR.nonIff {F : Hp} {il : List Addr} {σ : L2.St} {v : V} {d : D} (h : DR K F il σ v d) (hb : ∀ i, d ≠ .b i) (hd : d ≠ .t .none) : v ≠ .non := by
  intro e
  subst e
  cases d with
  | t d => cases h; exact hd rfl
  | r n => obtain ⟨a, z, _⟩ := h; cases z
  | b i => exact hb i rfl
abbrev rIsNone : R2 := fun x y H Q => y = .non ∧ Q (.bl (decide (x = .non))) H
abbrev rNotNone : R2 := fun x y H Q => y = .non ∧ Q (.bl (!decide (x = .non))) H
theorem rv_isN : RV2 K γ rIsNone dIsN := by
  intro P O F H il S ev σ x y dx dy d R hx hy h Q k
  unfold dIsN at h; split at h
  · cases h
    cases hx; cases hy
    exact ⟨rfl, k _ F H (Same.refl F) R (TR.bl _)⟩
  · cases h
  · rename_i h1 h2
    cases h
    cases hy
    have e : x ≠ .non := DR.nonIff hx (fun i z => h2 i z) fun z => h1 z
    refine ⟨rfl, ?_⟩
    rw [decide_eq_false e]
    exact k _ F H (Same.refl F) R (TR.bl _)
  · cases h
theorem rv_notN : RV2 K γ rNotNone dNotN := by
  intro P O F H il S ev σ x y dx dy d R hx hy h Q k
  unfold dNotN at h; split at h
  · cases h
    cases hx; cases hy
    exact ⟨rfl, k _ F H (Same.refl F) R (TR.bl _)⟩
  · cases h
  · rename_i h1 h2
    cases h
    cases hy
    have e : x ≠ .non := DR.nonIff hx (fun i z => h2 i z) fun z => h1 z
    refine ⟨rfl, ?_⟩
    rw [decide_eq_false e]
    exact k _ F H (Same.refl F) R (TR.bl _)
  · cases h
def rAddStr : R2 := fun x y H Q => ∃ i j, x = .str i ∧ y = .str j ∧ i.length + j.length ≤ sizeLine ∧ Q (.str (i ++ j)) H
def rAddX (K : PySem.W.Frag) : R2 := fun x y H Q => rI0 (fun i j => .int (i + j)) x y H Q ∨ (rAddStr x y H Q ∨ (rCatT K x y H Q ∨ rCat x y H Q))
theorem rv_add : RV2 K γ (rAddX K) dAdd := by
  intro P O F H il S ev σ x y dx dy d R hx hy h Q k
  unfold dAdd at h; split at h
  · cases h
    rw [hx.int, hy.int]
    exact .inl ⟨_, _, rfl, rfl, k _ F H (Same.refl F) R (TR.int _)⟩
  · unfold catS at h
    split at h
    · rename_i hz
      cases h
      rw [hx.str, hy.str]
      exact .inr (.inl ⟨_, _, rfl, rfl, hz, k _ F H (Same.refl F) R (TR.str _)⟩)
    · cases h
  · rename_i a b
    split at h
    · rename_i hz
      cases h
      cases hx with
      | @tup pa va _ a1 a2 =>
        cases hy with
        | @tup pb vb _ b1 b2 =>
          have l1 : va.length = a.length := a2.len
          have l2 : vb.length = b.length := b2.len
          refine .inr (.inr (.inl ⟨_, _, _, _, rfl, rfl, Same.sqT R.fh a1, Same.sqT R.fh b1, fun z => hz.1 ?_, by omega, fun z => ?_, fun z p hp => ?_⟩))
          · rw [z] at l1; exact List.eq_nil_of_length_eq_zero l1.symm
          · have : b = [] := by rw [z] at l2; exact List.eq_nil_of_length_eq_zero l2.symm
            subst this
            rw [List.append_nil] at k
            exact k _ F H (Same.refl F) R (TR.tup a1 a2)
          · have sf := R.same (o := .tup (va ++ vb)) hp
            refine k _ _ _ sf (R.newF hp) (TR.tup (SqT.of upd_same) ?_)
            exact TRs.mono sf _ _ (a2.app b2)
    · cases h
  · obtain ⟨xs, q1, h⟩ := Option.bind_eq_some_iff.mp h
    obtain ⟨ys, q2, h⟩ := Option.bind_eq_some_iff.mp h
    split at h
    · rename_i hz
      obtain ⟨a, va, rfl, a1, a2⟩ := viewM_ok R hx q1
      obtain ⟨b, vb, rfl, b1, b2⟩ := viewM_ok R hy q2
      refine .inr (.inr (.inr ⟨_, _, _, _, rfl, rfl, a1, b1, by rw [PySem.Paired.length a2, PySem.Paired.length b2]; exact hz, fun p hp => ?_⟩))
      obtain ⟨sf, R2, hd⟩ := treeL_ok R (DRs.app a2 b2) h hp
      exact k _ _ _ sf R2 hd
    · cases h
def rRepS : R2 := fun x y H Q => ∃ z k, x = .str z ∧ y = .int k ∧ -(2 ^ 63) ≤ k ∧ k < 2 ^ 63 ∧ z.length * k.toNat ≤ sizeLine ∧ Q (.str (Txt.mul z k)) H
theorem op_repS {X : Cx} : OpR X (binaryOp .Mult) rRepS := by
  intro pins s σ H x y v u Q I rx ry h
  obtain ⟨z, k, rfl, rfl, h1, h2, hz, q⟩ := h
  obtain ⟨t, rfl⟩ := rx
  obtain ⟨t', rfl⟩ := ry
  have hb : ¬ k < 1 → (z.length : Int) * k ≤ 16777216 := by
    intro hk
    have e : (k.toNat : Int) = k := by omega
    rw [← e]
    have h3 : z.length * k.toNat ≤ 16777216 := hz
    have h4 : ((z.length * k.toNat : Nat) : Int) ≤ 16777216 := by omega
    rw [Int.natCast_mul] at h4
    exact h4
  refine SB.mul ⟨by rw [decide_eq_false (by omega), decide_eq_false (by omega)]; rfl, fun hk _ hc => ?_, fun hk _ => ?_⟩ fun t' tk => ⟨.str (Txt.mul z k), H, I.tok _, ⟨_, rfl⟩, q⟩
  · have h4 := hb hk
    have h5 : (2 ^ 63 - 1) / k < (z.length : Int) := hc
    have h6 := Int.lt_mul_of_ediv_lt (by omega) h5
    omega
  · unfold Builtin.Str.tooLong
    exact decide_eq_false (by omega)
def rMulX : R2 := fun x y H Q => rI CMul (fun i j => .int (i * j)) x y H Q ∨ (rRepS x y H Q ∨ rRep x y H Q)
theorem DRs.rep {F : Hp} {il : List Addr} {vs : List V} {ds : List D} (h : DRs K F il [] vs ds) : ∀ n : Nat, DRs K F il [] (List.replicate n vs).flatten (List.replicate n ds).flatten
  | 0 => .nil
  | n + 1 => by
    rw [List.replicate_succ, List.replicate_succ, List.flatten_cons, List.flatten_cons]
    exact DRs.app h (DRs.rep h n)
theorem rv_mul : RV2 K γ rMulX dMul := by
  intro P O F H il S ev σ x y dx dy d R hx hy h Q k
  unfold dMul at h; split at h
  · split at h
    · rename_i c
      cases h
      rw [hx.int, hy.int]
      exact .inl ⟨_, _, rfl, rfl, c, k _ F H (Same.refl F) R (TR.int _)⟩
    · cases h
  · split at h
    · rename_i hz
      cases h
      rw [hx.str, hy.int]
      exact .inr (.inl ⟨_, _, rfl, rfl, hz.1, hz.2.1, hz.2.2, k _ F H (Same.refl F) R (TR.str _)⟩)
    · cases h
  · obtain ⟨xs, q1, h⟩ := Option.bind_eq_some_iff.mp h
    split at h
    · rename_i hz
      obtain ⟨a, va, rfl, a1, a2⟩ := viewM_ok R hx q1
      rw [hy.int]
      refine .inr <| .inr ⟨_, _, _, rfl, rfl, a1, hz.1, hz.2.1, by rw [PySem.Paired.length a2]; exact hz.2.2, fun p hp => ?_⟩
      obtain ⟨sf, R2, hd⟩ := treeL_ok R (DRs.rep a2 _) h hp
      exact k _ _ _ sf R2 hd
    · cases h
  · cases h
theorem atI_rel {α β : Type} {G : α → β → Prop} {xs : List α} {ys : List β} (h : Paired G xs ys) {i : Int} {y : β} (q : atI ys i = some y) : ∃ x, atI xs i = some x ∧ G x y := by
  unfold atI at q ⊢
  rw [PySem.Paired.length h]
  obtain ⟨j, q1, q2⟩ := Option.bind_eq_some_iff.mp q
  rw [q1]
  have get : ∀ {l₁ : List α} {l₂ : List β}, Paired G l₁ l₂ → ∀ {j : Nat} {y : β}, l₂[j]? = some y → ∃ x, l₁[j]? = some x ∧ G x y := by
    intro l₁ l₂ hp
    induction hp with
    | nil => intro j y h; simp at h
    | cons r t ih =>
      intro j y h
      cases j with
      | zero => simp at h; subst h; exact ⟨_, rfl, r⟩
      | succ j => simpa using ih (by simpa using h)
  exact get h q2
theorem rv_ix : RV2 K γ (rIx K) dIx := by
  intro P O F H il S ev σ x y dx dy d R hx hy h Q k
  unfold dIx at h; split at h
  · split at h
    · rename_i hz
      obtain ⟨c, q1, rfl⟩ := Option.map_eq_some_iff.mp h
      rw [hx.str, hy.int]
      exact .inr (.inr ⟨_, _, c, rfl, rfl, hz, q1, k _ F H (Same.refl F) R (TR.str _)⟩)
    · cases h
  · rw [hy.int]
    split at h
    · rename_i ds hv
      obtain ⟨a, vs, rfl, a1, a2⟩ := viewL_ok R hx hv
      obtain ⟨v, q1, q2⟩ := atI_rel a2 h
      exact .inl ⟨_, _, _, v, rfl, rfl, a1, q1, k _ F H (Same.refl F) R (DR.up q2)⟩
    · obtain ⟨ds, q0, h⟩ := Option.bind_eq_some_iff.mp h
      obtain ⟨a, vs, rfl, a1, a2⟩ := viewT_ok R hx q0
      obtain ⟨v, q1, q2⟩ := atI_rel a2 h
      exact .inr (.inl ⟨_, _, _, v, rfl, rfl, Same.sqT R.fh a1, q1, k _ F H (Same.refl F) R (DR.up q2)⟩)
  · cases h
end
end Cl

namespace Cl
open PySem L2

/-! ## walks -/
def ones (ds : List D) : List Im := ds.map .one
@[simp] theorem ones_len (ds : List D) : (ones ds).length = ds.length := by simp [ones]
theorem ones_get {ds : List D} {i : Nat} {x : Im} (h : (ones ds)[i]? = some x) : ∃ d, ds[i]? = some d ∧ x = .one d := by
  unfold ones at h
  rw [List.getElem?_map] at h
  obtain ⟨d, h1, h2⟩ := Option.map_eq_some_iff.mp h
  exact ⟨d, h1, h2.symm⟩
theorem paired_at {α β : Type} {G : α → β → Prop} : ∀ {l₁ : List α} {l₂ : List β}, Paired G l₁ l₂ → ∀ {j : Nat} {y : β}, l₂[j]? = some y → ∃ x, l₁[j]? = some x ∧ G x y
  | _, _, .nil, j, y, h => by simp at h
  | _, _, .cons r t, j, y, h => by
    cases j with
    | zero => simp at h; subst h; exact ⟨_, rfl, r⟩
    | succ j => simpa using paired_at t (by simpa using h)
def itOf (S : So) (d : D) : Option Itr := match viewL [] S d with
  | some ds => some ⟨ones ds, fun S => viewL [] S d = some ds⟩
  | none => match viewT S d with
    | some ds => some ⟨ones ds, fun _ => True⟩
    | none => match d with
      | .t (.str z) => some ⟨ones (z.cps.toList.map fun c => .str ⟨#[c]⟩), fun _ => True⟩
      | _ => none
def mIter (e : EM) : Mm Itr := fun ev S => bnd (e ev S) fun x ev S => bnd (esc x ev S) fun d ev S => ans (itOf S d) ev S
def iAny (K : PySem.W.Frag) (te : TE) : TI := fun σ H R => iList K te σ H R ∨ (iTup K te σ H R ∨ iStr te σ H R)
section
variable {K : PySem.W.Frag} {γ : Nat → Addr} {W : WX}
theorem viewL_up {S : So} {d : D} {ds : List D} (h : viewL [] S d = some ds) (ev : Nv) : viewL ev S d = some ds := by
  cases d with
  | t d => cases d <;> first | exact h | cases h
  | r n => exact h
  | b i => cases h
theorem DR.nob {F : Hp} {il : List Addr} {v : V} {d : D} {σ : L2.St} (h : DR K F il [] v d) : DR K F il σ v d := DR.up h
theorem jok_list {F : Hp} {il : List Addr} {a : Addr} {d : D} {ds : List D} (hd : DR K F il [] (.ref a) d) : JOk K γ F il (Itl K a) ⟨ones ds, fun S => viewL [] S d = some ds⟩ := by
  intro i P O F' H il' S ev σ sf pf R hc
  obtain ⟨b, vs, e, h1, h2⟩ := viewL_ok R (DR.up (σ := σ) (DR.mono sf pf hd)) (viewL_up hc ev)
  cases e
  refine ⟨fun e => ⟨vs, h1, ?_⟩, fun x hx => ?_⟩
  · rw [e, ones_len, PySem.Paired.length h2]; exact Nat.le_refl _
  · obtain ⟨d', q1, rfl⟩ := ones_get hx
    obtain ⟨v, q2, q3⟩ := paired_at h2 q1
    refine ⟨⟨vs, v, h1, q2⟩, fun v' H' hy => ?_⟩
    obtain ⟨rfl, hy⟩ := hy
    have := hy vs h1
    rw [q2] at this; cases this
    exact ⟨F', Same.refl F', R, q3⟩
theorem viewT_stay {F F' : Hp} {il il' : List Addr} {a : Addr} {vs : List V} {ds : List D} (sf : Same F F') (pf : il <+: il') (h1 : SqT K F a vs) (h2 : DRs K F il [] vs ds) : SqT K F' a vs ∧ DRs K F' il' [] vs ds := ⟨Same.sqT sf h1, DRs.mono sf pf h2⟩
theorem jok_tup {F : Hp} {il : List Addr} {a : Addr} {vs : List V} {ds : List D} (h1 : SqT K F a vs) (h2 : DRs K F il [] vs ds) : JOk K γ F il (Itt K a) ⟨ones ds, fun _ => True⟩ := by
  intro i P O F' H il' S ev σ sf pf R hc
  have h1' := Same.sqT R.fh (Same.sqT sf h1)
  have h2' := DRs.mono sf pf h2
  refine ⟨fun e => ⟨vs, h1', ?_⟩, fun x hx => ?_⟩
  · rw [e, ones_len, PySem.Paired.length h2]; exact Nat.le_refl _
  · obtain ⟨d', q1, rfl⟩ := ones_get hx
    obtain ⟨v, q2, q3⟩ := paired_at h2' q1
    refine ⟨⟨vs, v, h1', q2⟩, fun v' H' hy => ?_⟩
    obtain ⟨rfl, hy⟩ := hy
    have := hy vs h1'
    rw [q2] at this; cases this
    exact ⟨F', Same.refl F', R, q3⟩
theorem jok_str {F : Hp} {il : List Addr} {z : Str} : JOk K γ F il (Its z) ⟨ones (z.cps.toList.map fun c => .str ⟨#[c]⟩), fun _ => True⟩ := by
  intro i P O F' H il' S ev σ sf pf R hc
  refine ⟨fun e => ?_, fun x hx => ?_⟩
  · show z.cps.size ≤ i
    rw [e]
    simp [ones]
  · obtain ⟨d', q1, rfl⟩ := ones_get hx
    rw [List.getElem?_map] at q1
    obtain ⟨c, q2, rfl⟩ := Option.map_eq_some_iff.mp q1
    have hlt : i < z.cps.size := by
      have := (List.getElem?_eq_some_iff.mp q2).1
      simpa using this
    refine ⟨hlt, fun v' H' hy => ?_⟩
    obtain ⟨rfl, c', h1, rfl⟩ := hy
    have : c' = c := by
      rw [Array.getElem?_toList] at q2
      rw [h1] at q2; cases q2; rfl
    subst this
    exact ⟨F', Same.refl F', R, TR.str _⟩
theorem si_iter {t : TE} {m : EM} (h : SE K γ W t m) : SI K γ W (iAny K t) (mIter m) := by
  intro P O F H il S ev σ R r ev' S' hm Rr k
  rcases bnd_eq hm with ⟨x, q, rfl⟩ | ⟨dx, e1, s1, q, hm⟩
  · exact .inl (h P O F H il S ev σ R _ _ _ q _ fun O1 F1 H1 il1 sf pf R1 => k O1 F1 H1 il1 sf pf R1)
  · rcases bnd_eq hm with ⟨x, q', rfl⟩ | ⟨d, e2, s2, q', hm⟩
    · refine .inl (h P O F H il S ev σ R _ _ _ q _ fun O1 F1 H1 il1 sf pf R1 v hv => ?_)
      obtain ⟨_, _, _, _, z, _⟩ := esc_ok R1 hv q'
      cases z
    · obtain ⟨I, hI, rfl, rfl, rfl⟩ := ans_eq hm
      unfold itOf at hI
      split at hI
      · rename_i ds hv
        cases hI
        refine .inl (h P O F H il S ev σ R _ _ _ q _ fun O1 F1 H1 il1 sf pf R1 v hx => ?_)
        obtain ⟨d2, O2, F2, il2, z, sf2, pf2, R2, hx2⟩ := esc_ok R1 hx q'
        cases z
        obtain ⟨a, vs, rfl, h1, h2⟩ := viewL_ok R2 (DR.up (σ := σ) hx2) (viewL_up hv _)
        exact ⟨a, rfl, ⟨vs, h1⟩, k O2 F2 H1 il2 (sf.trans sf2) (pf.trans pf2) R2 _ (jok_list hx2)⟩
      · split at hI
        · rename_i ds hv
          cases hI
          refine .inr (.inl (h P O F H il S ev σ R _ _ _ q _ fun O1 F1 H1 il1 sf pf R1 v hx => ?_))
          obtain ⟨d2, O2, F2, il2, z, sf2, pf2, R2, hx2⟩ := esc_ok R1 hx q'
          cases z
          obtain ⟨a, vs, rfl, h1, h2⟩ := viewT_ok R2 (DR.up (σ := σ) hx2) hv
          exact ⟨a, rfl, ⟨vs, Same.sqT R2.fh h1⟩, k O2 F2 H1 il2 (sf.trans sf2) (pf.trans pf2) R2 _ (jok_tup h1 h2)⟩
        · split at hI
          · cases hI
            refine .inr (.inr (h P O F H il S ev σ R _ _ _ q _ fun O1 F1 H1 il1 sf pf R1 v hx => ?_))
            obtain ⟨d2, O2, F2, il2, z, sf2, pf2, R2, hx2⟩ := esc_ok R1 hx q'
            cases z
            rw [DR.str hx2]
            exact ⟨_, rfl, k O2 F2 H1 il2 (sf.trans sf2) (pf.trans pf2) R2 _ jok_str⟩
          · cases hI
/-- range(n), range(a, b) -/
def rngIts (lo : Int) (n : Nat) : List Im := (List.range n).map fun (i : Nat) => .one (.int (lo + (i : Int)))
def mRng (a : Mm (List D)) : Mm Itr := fun ev S => bnd (a ev S) fun xs ev S => match xs with
  | [.t (.int j)] => if -(2 ^ 62) ≤ j ∧ j < 2 ^ 62 then some (.ok ⟨rngIts 0 j.toNat, fun _ => True⟩, ev, S) else none
  | [.t (.int i), .t (.int j)] => if -(2 ^ 62) ≤ i ∧ i < 2 ^ 62 ∧ -(2 ^ 62) ≤ j ∧ j < 2 ^ 62 then some (.ok ⟨rngIts i (j - i).toNat, fun _ => True⟩, ev, S) else none
  | _ => none
theorem jok_rng {F : Hp} {il : List Addr} {lo : Int} {n : Nat} : JOk K γ F il (L2.Itr lo n) ⟨rngIts lo n, fun _ => True⟩ := by
  intro i P O F' H il' S ev σ sf pf R hc
  refine ⟨fun e => ?_, fun x hx => ?_⟩
  · show n ≤ i
    rw [e]; simp [rngIts]
  · unfold rngIts at hx
    rw [List.getElem?_map] at hx
    obtain ⟨j, q1, rfl⟩ := Option.map_eq_some_iff.mp hx
    have hlt : i < n := by
      have := (List.getElem?_eq_some_iff.mp q1).1
      simpa using this
    rw [List.getElem?_range hlt] at q1
    cases q1
    refine ⟨hlt, fun v' H' hy => ?_⟩
    obtain ⟨rfl, rfl⟩ := hy
    exact ⟨F', Same.refl F', R, TR.int _⟩
theorem si_rng1 {t : TA} {m : Mm (List D)} (h : SA K γ W t m) (h1 : ∀ ev S ds e s, m ev S = some (.ok ds, e, s) → ds.length = 1) : SI K γ W (iRng1 t) (mRng m) := by
  intro P O F H il S ev σ R r ev' S' hm Rr k
  rcases bnd_eq hm with ⟨x, q, rfl⟩ | ⟨ds, e1, s1, q, hm⟩
  · exact h P O F H il S ev σ R _ _ _ q _ fun O1 F1 H1 il1 sf pf R1 => k O1 F1 H1 il1 sf pf R1
  · refine h P O F H il S ev σ R _ _ _ q _ fun O1 F1 H1 il1 sf pf R1 vs hv => ?_
    split at hm
    · split at hm
      · rename_i hz
        cases hm
        cases hv with
        | cons a b =>
          cases b
          rw [DR.int a]
          exact ⟨_, rfl, hz.1, hz.2, k O1 F1 H1 il1 sf pf R1 _ jok_rng⟩
      · cases hm
    · have := h1 _ _ _ _ _ q
      simp at this
    · cases hm
theorem si_rng2 {t : TA} {m : Mm (List D)} (h : SA K γ W t m) (h1 : ∀ ev S ds e s, m ev S = some (.ok ds, e, s) → ds.length = 2) : SI K γ W (iRng2 t) (mRng m) := by
  intro P O F H il S ev σ R r ev' S' hm Rr k
  rcases bnd_eq hm with ⟨x, q, rfl⟩ | ⟨ds, e1, s1, q, hm⟩
  · exact h P O F H il S ev σ R _ _ _ q _ fun O1 F1 H1 il1 sf pf R1 => k O1 F1 H1 il1 sf pf R1
  · refine h P O F H il S ev σ R _ _ _ q _ fun O1 F1 H1 il1 sf pf R1 vs hv => ?_
    split at hm
    · have := h1 _ _ _ _ _ q
      simp at this
    · split at hm
      · rename_i hz
        cases hm
        cases hv with
        | cons a b =>
          cases b with
          | cons b c =>
            cases c
            rw [DR.int a, DR.int b]
            exact ⟨_, _, rfl, hz, k O1 F1 H1 il1 sf pf R1 _ jok_rng⟩
      · cases hm
    · cases hm
theorem mCons_len {a : EM} {r : Mm (List D)} {n : Nat} (h : ∀ ev S ds e s, r ev S = some (.ok ds, e, s) → ds.length = n) : ∀ ev S ds e s, mCons a r ev S = some (.ok ds, e, s) → ds.length = n + 1 := by
  intro ev S ds e s hm
  rcases bnd_eq hm with ⟨x, _, z⟩ | ⟨x, e1, s1, q, hm⟩
  · cases z
  · rcases bnd_eq hm with ⟨x, _, z⟩ | ⟨xs, e2, s2, q', hm⟩
    · cases z
    · cases hm
      simp [h _ _ _ _ _ q']
theorem mNil_len : ∀ ev S ds e s, mNil ev S = some (.ok ds, e, s) → ds.length = 0 := by
  intro ev S ds e s h
  cases h; rfl
end
end Cl

namespace Cl
open PySem L2 RZ
/-- the pairs of two rows of items -/
def zipIts (xs ys : List D) : List Im := (xs.zip ys).map fun p => .tup [p.1, p.2]
def zipOf (S : So) (d e : D) : Option Itr := match viewL [] S d, viewL [] S e with
  | some xs, some ys => some ⟨zipIts xs ys, fun S => viewL [] S d = some xs ∧ viewL [] S e = some ys⟩
  | _, _ => match viewT S d, viewT S e with
    | some xs, some ys => some ⟨zipIts xs ys, fun _ => True⟩
    | _, _ => none
def mZip (a : Mm (List D)) : Mm Itr := fun ev S => bnd (mEsc a ev S) fun xs ev S => match xs with
  | [d, e] => ans (zipOf S d e) ev S
  | _ => none
def enumIts (n : Nat) : List D → List Im
  | [] => []
  | d :: r => .tup [.int (n : Int), d] :: enumIts (n + 1) r
def mEnum (a : Mm (List D)) : Mm Itr := fun ev S => bnd (mEsc a ev S) fun xs ev S => match xs with
  | [d] => match viewL [] S d with
    | some ds => some (.ok ⟨enumIts 0 ds, fun S => viewL [] S d = some ds⟩, ev, S)
    | none => none
  | _ => none
theorem enumIts_len : ∀ (ds : List D) (n : Nat), (enumIts n ds).length = ds.length
  | [], _ => rfl
  | _ :: r, n => by simp [enumIts, enumIts_len r]
theorem enumIts_get : ∀ {ds : List D} {n i : Nat} {x : Im}, (enumIts n ds)[i]? = some x → ∃ d, ds[i]? = some d ∧ x = .tup [.int ((n + i : Nat) : Int), d]
  | [], _, _, _, h => by simp [enumIts] at h
  | d :: r, n, 0, x, h => by simp [enumIts] at h; exact ⟨d, rfl, h.symm⟩
  | d :: r, n, i + 1, x, h => by
    obtain ⟨e, h1, h2⟩ := enumIts_get (ds := r) (n := n + 1) (i := i) (x := x) (by simpa [enumIts] using h)
    exact ⟨e, by simpa using h1, by rw [h2, show n + 1 + i = n + (i + 1) by omega]⟩
theorem zipIts_get {xs ys : List D} {i : Nat} {x : Im} (h : (zipIts xs ys)[i]? = some x) : ∃ a b, xs[i]? = some a ∧ ys[i]? = some b ∧ x = .tup [a, b] := by
  unfold zipIts at h
  rw [List.getElem?_map] at h
  obtain ⟨p, h1, rfl⟩ := Option.map_eq_some_iff.mp h
  rw [List.getElem?_zip_eq_some] at h1
  exact ⟨p.1, p.2, h1.1, h1.2, rfl⟩
theorem zipIts_len (xs ys : List D) : (zipIts xs ys).length = min xs.length ys.length := by simp [zipIts]
section
variable {K : PySem.W.Frag} {γ : Nat → Addr} {W : WX}
/-- a new pair -/
theorem RE.pair {P O F H : Hp} {il : List Addr} {S : So} {ev : Nv} {σ : L2.St} (R : RE K γ P O F H il S ev σ) {T : Addr} {vs : List V} {ds : List D} (hT : H T = none) (h : DRs K F il [] vs ds) :
    ∃ F', Same F F' ∧ RE K γ P O F' (upd H T (.tup vs)) il S ev σ ∧ IR K F' il (.ref T) (.tup ds) := by
  have sf := R.same (o := .tup vs) hT
  exact ⟨_, sf, R.newF hT, T, vs, rfl, SqT.of upd_same, DRs.mono sf (pref_rfl _) h⟩
theorem jok_zip {F : Hp} {il : List Addr} {a b : Addr} {d e : D} {xs ys : List D} (hd : DR K F il [] (.ref a) d) (he : DR K F il [] (.ref b) e) :
    JOk K γ F il (Itz K a b) ⟨zipIts xs ys, fun S => viewL [] S d = some xs ∧ viewL [] S e = some ys⟩ := by
  intro i P O F' H il' S ev σ sf pf R hc
  obtain ⟨_, vs, z, h1, h2⟩ := viewL_ok R (DR.up (σ := σ) (DR.mono sf pf hd)) (viewL_up hc.1 ev)
  cases z
  obtain ⟨_, us, z, k1, k2⟩ := viewL_ok R (DR.up (σ := σ) (DR.mono sf pf he)) (viewL_up hc.2 ev)
  cases z
  have l1 := PySem.Paired.length h2
  have l2 := PySem.Paired.length k2
  refine ⟨fun e => ⟨vs, us, h1, k1, ?_⟩, fun x hx => ?_⟩
  · have e' : i = min xs.length ys.length := by rw [e]; exact zipIts_len xs ys
    omega
  · obtain ⟨p, q, q1, q2, rfl⟩ := zipIts_get hx
    obtain ⟨v, r1, r2⟩ := paired_at h2 q1
    obtain ⟨u, r3, r4⟩ := paired_at k2 q2
    refine ⟨⟨vs, us, v, u, h1, k1, r1, r3⟩, fun v' H' hy => ?_⟩
    obtain ⟨T, x, y, rfl, hT, rfl, y1, y2⟩ := hy
    have e1 := y1 vs h1
    have e2 := y2 us k1
    rw [r1] at e1; cases e1
    rw [r3] at e2; cases e2
    exact R.pair hT (.cons r2 (.cons r4 .nil))
theorem jok_zipT {F : Hp} {il : List Addr} {a b : Addr} {vs us : List V} {xs ys : List D} (h1 : SqT K F a vs) (h2 : DRs K F il [] vs xs) (k1 : SqT K F b us) (k2 : DRs K F il [] us ys) :
    JOk K γ F il (ItzT K a b) ⟨zipIts xs ys, fun _ => True⟩ := by
  intro i P O F' H il' S ev σ sf pf R hc
  have h1 := Same.sqT R.fh (Same.sqT sf h1)
  have k1 := Same.sqT R.fh (Same.sqT sf k1)
  have h2 := DRs.mono sf pf h2
  have k2 := DRs.mono sf pf k2
  have l1 := PySem.Paired.length h2
  have l2 := PySem.Paired.length k2
  refine ⟨fun e => ⟨vs, us, h1, k1, ?_⟩, fun x hx => ?_⟩
  · have e' : i = min xs.length ys.length := by rw [e]; exact zipIts_len xs ys
    omega
  · obtain ⟨p, q, q1, q2, rfl⟩ := zipIts_get hx
    obtain ⟨v, r1, r2⟩ := paired_at h2 q1
    obtain ⟨u, r3, r4⟩ := paired_at k2 q2
    refine ⟨⟨vs, us, v, u, h1, k1, r1, r3⟩, fun v' H' hy => ?_⟩
    obtain ⟨T, x, y, rfl, hT, rfl, y1, y2⟩ := hy
    have e1 := y1 vs h1
    have e2 := y2 us k1
    rw [r1] at e1; cases e1
    rw [r3] at e2; cases e2
    exact R.pair hT (.cons r2 (.cons r4 .nil))
theorem si_zip {t : TA} {m : Mm (List D)} (h : SA K γ W t m) : SI K γ W (iZipA K t) (mZip m) := by
  intro P O F H il S ev σ R r ev' S' hm Rr k
  rcases bnd_eq hm with ⟨x, q, rfl⟩ | ⟨ds, e1, s1, q, hm⟩
  · exact sa_esc h R q _ fun O1 F1 H1 il1 sf pf R1 => k O1 F1 H1 il1 sf pf R1
  · refine sa_esc h R q _ fun O1 F1 H1 il1 sf pf R1 vs hv => ?_
    split at hm
    · rename_i d e
      cases hv with
      | cons a1 b1 =>
        cases b1 with
        | cons b1 c1 =>
          cases c1
          obtain ⟨I, hI, rfl, rfl, rfl⟩ := ans_eq hm
          unfold zipOf at hI
          split at hI
          · rename_i xs ys hx hy
            cases hI
            obtain ⟨a, va, rfl, h1, h2⟩ := viewL_ok R1 (DR.up (σ := σ) a1) (viewL_up hx _)
            obtain ⟨b, vb, rfl, k1, k2⟩ := viewL_ok R1 (DR.up (σ := σ) b1) (viewL_up hy _)
            exact ⟨a, b, va, vb, rfl, .inl ⟨h1, k1, k O1 F1 H1 il1 sf pf R1 _ (jok_zip a1 b1)⟩⟩
          · split at hI
            · rename_i xs ys hx hy
              cases hI
              obtain ⟨a, va, rfl, h1, h2⟩ := viewT_ok R1 (DR.up (σ := σ) a1) hx
              obtain ⟨b, vb, rfl, k1, k2⟩ := viewT_ok R1 (DR.up (σ := σ) b1) hy
              exact ⟨a, b, va, vb, rfl, .inr ⟨Same.sqT R1.fh h1, Same.sqT R1.fh k1, k O1 F1 H1 il1 sf pf R1 _ (jok_zipT h1 h2 k1 k2)⟩⟩
            · cases hI
    · cases hm
theorem jok_enum {F : Hp} {il : List Addr} {a : Addr} {d : D} {ds : List D} (hd : DR K F il [] (.ref a) d) : JOk K γ F il (Ite K a) ⟨enumIts 0 ds, fun S => viewL [] S d = some ds⟩ := by
  intro i P O F' H il' S ev σ sf pf R hc
  obtain ⟨_, vs, z, h1, h2⟩ := viewL_ok R (DR.up (σ := σ) (DR.mono sf pf hd)) (viewL_up hc ev)
  cases z
  have l1 := PySem.Paired.length h2
  refine ⟨fun e => ⟨vs, h1, ?_⟩, fun x hx => ?_⟩
  · have e' : i = ds.length := by rw [e]; exact enumIts_len ds 0
    omega
  · obtain ⟨d', q1, rfl⟩ := enumIts_get hx
    obtain ⟨v, r1, r2⟩ := paired_at h2 q1
    refine ⟨⟨vs, v, h1, r1⟩, fun v' H' hy => ?_⟩
    obtain ⟨T, x, rfl, hT, rfl, y1⟩ := hy
    have e1 := y1 vs h1
    rw [r1] at e1; cases e1
    refine R.pair hT (.cons ?_ (.cons r2 .nil))
    rw [Nat.zero_add]
    exact TR.int _
theorem si_enum {t : TA} {m : Mm (List D)} (h : SA K γ W t m) : SI K γ W (iEnum K t) (mEnum m) := by
  intro P O F H il S ev σ R r ev' S' hm Rr k
  rcases bnd_eq hm with ⟨x, q, rfl⟩ | ⟨ds, e1, s1, q, hm⟩
  · exact sa_esc h R q _ fun O1 F1 H1 il1 sf pf R1 => k O1 F1 H1 il1 sf pf R1
  · refine sa_esc h R q _ fun O1 F1 H1 il1 sf pf R1 vs hv => ?_
    split at hm
    · rename_i d
      cases hv with
      | cons a1 b1 =>
        cases b1
        split at hm
        · rename_i xs hx
          cases hm
          obtain ⟨a, va, rfl, h1, h2⟩ := viewL_ok R1 (DR.up (σ := σ) a1) (viewL_up hx _)
          exact ⟨a, va, rfl, h1, k O1 F1 H1 il1 sf pf R1 _ (jok_enum a1)⟩
        · cases hm
    · cases hm

/-! ## slices -/
def cut {α : Type} (xs : List α) (lo hi : Option Int) : List α := (xs.drop (HT.sIx xs.length 0 lo)).take (HT.sIx xs.length xs.length hi - HT.sIx xs.length 0 lo)
def mNoP : Mm (Option Int) := fun ev S => some (.ok none, ev, S)
def mPart (e : EM) : Mm (Option Int) := fun ev S => bnd (e ev S) fun x ev S => match x with
  | .t (.int i) => some (.ok (some i), ev, S)
  | _ => none
def OutO (K : PySem.W.Frag) (γ : Nat → Addr) (W : WX) (F H : Hp) (il : List Addr) (σ : L2.St) (Q : Option Int → Hp → Prop) : Rs (Option Int) → Prop
  | .ok b => Q b H
  | .ex x => ∀ cls dx, XP K γ F H il x cls dx → W cls dx σ H
def SOp (K : PySem.W.Frag) (γ : Nat → Addr) (W : WX) (t : TO) (m : Mm (Option Int)) : Prop := ∀ P O F H il S ev σ, RE K γ P O F H il S ev σ → ∀ r ev' S', m ev S = some (r, ev', S') → ∀ Q : Option Int → Hp → Prop,
  (∀ O' F' H' il', Same F F' → il <+: il' → RE K γ P O' F' H' il' S' ev' σ → OutO K γ W F' H' il' σ Q r) → t σ H Q
theorem so_no : SOp K γ W tNoPart mNoP := by
  intro P O F H il S ev σ R r ev' S' hm Q k
  cases hm
  exact k O F H il (Same.refl F) (pref_rfl _) R
theorem so_part {t : TE} {m : EM} (h : SE K γ W t m) : SOp K γ W (tPart t) (mPart m) := by
  intro P O F H il S ev σ R r ev' S' hm Q k
  rcases bnd_eq hm with ⟨x, q, rfl⟩ | ⟨dx, e1, s1, q, hm⟩
  · exact h P O F H il S ev σ R _ _ _ q _ fun O1 F1 H1 il1 sf pf R1 => k O1 F1 H1 il1 sf pf R1
  · refine h P O F H il S ev σ R _ _ _ q _ fun O1 F1 H1 il1 sf pf R1 v hv => ?_
    split at hm
    · cases hm
      rw [DR.int hv]
      exact ⟨_, rfl, k O1 F1 H1 il1 sf pf R1⟩
    · cases hm
/-- x[lo:hi]: a text, a tuple, a list as a tree -/
def dSl (ev : Nv) (S : So) (x : D) (lo hi : Option Int) : Option D := match x with
  | .t (.str z) => if z.length ≤ sizeLine then some (.t (.str (cutS z lo hi))) else none
  | .t (.tuple ts) => some (.t (.tuple (cut ts lo hi)))
  | x => (viewL ev S x).bind fun ds => treeL (cut ds lo hi)
def mSl (e : EM) (lo hi : Mm (Option Int)) : EM := fun ev S => bnd (e ev S) fun x ev S => bnd (lo ev S) fun l ev S => bnd (hi ev S) fun h ev S => ans (dSl ev S x l h) ev S
def rSlX3 (K : PySem.W.Frag) : V → Option Int → Option Int → Hp → VK → Prop := fun x lo hi H Q => rSlS x lo hi H Q ∨ (rSlA K x lo hi H Q ∨ rSlL K x lo hi H Q)
theorem drs_cut {F : Hp} {il : List Addr} {σ : L2.St} {vs : List V} {ds : List D} (h : DRs K F il σ vs ds) (lo hi : Option Int) : DRs K F il σ (cutV vs lo hi) (cut ds lo hi) := by
  have dr : ∀ {vs : List V} {ds : List D} (n : Nat), DRs K F il σ vs ds → DRs K F il σ (vs.drop n) (ds.drop n) := by
    intro vs ds n h
    induction h generalizing n with
    | nil => simp; exact .nil
    | cons a b ih => cases n with
      | zero => exact .cons a b
      | succ n => simpa using ih n
  have tk : ∀ {vs : List V} {ds : List D} (n : Nat), DRs K F il σ vs ds → DRs K F il σ (vs.take n) (ds.take n) := by
    intro vs ds n h
    induction h generalizing n with
    | nil => simp; exact .nil
    | cons a b ih => cases n with
      | zero => exact .nil
      | succ n => exact .cons a (ih n)
  unfold cutV cut
  rw [PySem.Paired.length h]
  exact tk _ (dr _ h)
theorem cut_map {α β : Type} (f : α → β) (xs : List α) (lo hi : Option Int) : cut (xs.map f) lo hi = (cut xs lo hi).map f := by
  unfold cut
  simp [List.map_drop, List.map_take]
theorem trs_cut {F : Hp} {vs : List V} {ts : List PyData} (h : TRs K F vs ts) (lo hi : Option Int) : TRs K F (cutV vs lo hi) (cut ts lo hi) := by
  have := drs_cut (TRs.drs (il := []) (σ := []) h) lo hi
  rw [cut_map] at this
  exact DRs.trs this
theorem cut_whole {α : Type} {xs : List α} {lo hi : Option Int} (h : HT.sIx xs.length 0 lo = 0 ∧ HT.sIx xs.length xs.length hi = xs.length) : cut xs lo hi = xs := by
  unfold cut
  rw [h.1, h.2]
  simp
theorem rv_sl {P O F H : Hp} {il : List Addr} {S : So} {ev : Nv} {σ : L2.St} (R : RE K γ P O F H il S ev σ) {x : V} {dx d : D} (hx : DR K F il σ x dx) {lo hi : Option Int} (h : dSl ev S dx lo hi = some d) {Q : VK}
    (k : ∀ v F' H', Same F F' → RE K γ P O F' H' il S ev σ → DR K F' il σ v d → Q v H') : rSlX3 K x lo hi H Q := by
  unfold dSl at h; split at h
  · split at h
    · rename_i hz
      cases h
      rw [hx.str]
      exact .inl ⟨_, rfl, hz, k _ F H (Same.refl F) R (TR.str _)⟩
    · cases h
  · rename_i ts
    cases h
    cases hx with
    | @tup a vs _ h1 h2 =>
      have hl := h2.len
      refine .inr (.inl ⟨a, vs, rfl, Same.sqT R.fh h1, fun w => ?_, fun w p hp => ?_⟩)
      · rw [hl] at w
        rw [cut_whole w] at k
        exact k _ F H (Same.refl F) R (TR.tup h1 h2)
      · have sf := R.same (o := .tup (cutV vs lo hi)) hp
        exact k _ _ _ sf (R.newF hp) (TR.tup (SqT.of upd_same) (TRs.mono sf _ _ (trs_cut h2 lo hi)))
  · obtain ⟨ds, q1, h⟩ := Option.bind_eq_some_iff.mp h
    obtain ⟨a, vs, rfl, h1, h2⟩ := viewL_ok R hx q1
    refine .inr (.inr ⟨a, vs, rfl, h1, fun p hp => ?_⟩)
    obtain ⟨sf, R2, hd⟩ := treeL_ok R (drs_cut h2 lo hi) h hp
    exact k _ _ _ sf R2 hd
theorem se_sl {te : TE} {tl th : TO} {me : EM} {ml mh : Mm (Option Int)} (he : SE K γ W te me) (hl : SOp K γ W tl ml) (hh : SOp K γ W th mh) : SE K γ W (tSl (rSlX3 K) te tl th) (mSl me ml mh) := by
  intro P O F H il S ev σ R r ev' S' hm Q k
  rcases bnd_eq hm with ⟨x, q, rfl⟩ | ⟨dx, e1, s1, q, hm⟩
  · exact he P O F H il S ev σ R _ _ _ q _ fun O1 F1 H1 il1 sf pf R1 => k O1 F1 H1 il1 sf pf R1
  · refine he P O F H il S ev σ R _ _ _ q _ fun O1 F1 H1 il1 sf pf R1 v hv => ?_
    rcases bnd_eq hm with ⟨z, q', rfl⟩ | ⟨l, e2, s2, q', hm⟩
    · exact hl P O1 F1 H1 il1 s1 e1 σ R1 _ _ _ q' _ fun O2 F2 H2 il2 sf2 pf2 R2 => k O2 F2 H2 il2 (sf.trans sf2) (pf.trans pf2) R2
    · refine hl P O1 F1 H1 il1 s1 e1 σ R1 _ _ _ q' _ fun O2 F2 H2 il2 sf2 pf2 R2 => ?_
      rcases bnd_eq hm with ⟨z, q2, rfl⟩ | ⟨h, e3, s3, q2, hm⟩
      · exact hh P O2 F2 H2 il2 s2 e2 σ R2 _ _ _ q2 _ fun O3 F3 H3 il3 sf3 pf3 R3 => k O3 F3 H3 il3 ((sf.trans sf2).trans sf3) ((pf.trans pf2).trans pf3) R3
      · refine hh P O2 F2 H2 il2 s2 e2 σ R2 _ _ _ q2 _ fun O3 F3 H3 il3 sf3 pf3 R3 => ?_
        obtain ⟨d, q3, rfl, rfl, rfl⟩ := ans_eq hm
        exact rv_sl R3 (DR.mono (sf2.trans sf3) (pf2.trans pf3) hv) q3 fun v F4 H4 sf4 R4 hd => k O3 F4 H4 il3 (((sf.trans sf2).trans sf3).trans sf4) ((pf.trans pf2).trans pf3) R4 v hd
/-- xs[::-1] -/
def dRev : F1 := fun ev S x => (viewL ev S x).bind fun ds => treeL ds.reverse
theorem drs_rev {F : Hp} {il : List Addr} {σ : L2.St} {vs : List V} {ds : List D} (h : DRs K F il σ vs ds) : DRs K F il σ vs.reverse ds.reverse := by
  induction h with
  | nil => exact .nil
  | cons a b ih =>
    rw [List.reverse_cons, List.reverse_cons]
    exact DRs.app ih (.cons a .nil)
theorem se_rev {t : TE} {m : EM} (h : SE K γ W t m) : SE K γ W (tRevL K t) (mUn dRev m) := by
  intro P O F H il S ev σ R r ev' S' hm Q k
  rcases bnd_eq hm with ⟨x, q, rfl⟩ | ⟨dx, e1, s1, q, hm⟩
  · exact h P O F H il S ev σ R _ _ _ q _ fun O1 F1 H1 il1 sf pf R1 => k O1 F1 H1 il1 sf pf R1
  · refine h P O F H il S ev σ R _ _ _ q _ fun O1 F1 H1 il1 sf pf R1 v hv => ?_
    obtain ⟨d, q3, rfl, rfl, rfl⟩ := ans_eq hm
    obtain ⟨ds, q1, q4⟩ := Option.bind_eq_some_iff.mp q3
    obtain ⟨a, vs, rfl, h1, h2⟩ := viewL_ok R1 hv q1
    refine ⟨a, vs, rfl, h1, fun p hp => ?_⟩
    obtain ⟨sf2, R2, hd⟩ := treeL_ok R1 (drs_rev h2) q4 hp
    exact k O1 _ _ il1 (sf.trans sf2) pf R2 _ hd
end
end Cl

namespace Cl
open PySem L2 RZ
/-! ## comprehensions -/
def wipeN (ev : Nv) : List Nat → Nv
  | [] => ev
  | v :: vs => (wipeN ev vs).set v none
/-- the slots that the block had hidden -/
def restN (ev0 ev : Nv) : List Nat → Nv
  | [] => ev
  | v :: vs => (restN ev0 ev vs).set v (match ev0[v]? with
    | some (some (.d x)) => some (.d x)
    | _ => none)
open Classical in
noncomputable def compL (g : Tg) (c : Mm Bool) (e : EM) (vs : List Nat) (chk : So → Prop) : List Im → List D → Mm (List D)
  | [], acc, ev, S => if chk S then some (.ok acc, ev, S) else none
  | x :: r, acc, ev, S => if chk S then match g x ev S with
    | none => none
    | some ev1 => match c ev1 S with
      | some (.ok true, ev2, S2) => match e ev2 S2 with
        | some (.ok y, ev3, S3) => match esc y ev3 S3 with
          | some (.ok d, ev4, S4) => if acc.length < sizeLine then compL g c e vs chk r (acc ++ [d]) (wipeN ev4 vs) S4 else none
          | _ => none
        | _ => none
      | some (.ok false, ev2, S2) => compL g c e vs chk r acc (wipeN ev2 vs) S2
      | _ => none
    else none
noncomputable def lComp (it : Mm Itr) (g : Tg) (c : Mm Bool) (e : EM) (vs : List Nat) : Mm (List D) := fun ev S => bnd (it ev S) fun I ev S => match compL g c e vs I.chk I.its [] (wipeN ev vs) S with
  | some (.ok acc, ev', S') => some (.ok acc, restN ev ev' vs, S')
  | _ => none
def mYes : Mm Bool := fun ev S => some (.ok true, ev, S)
section
variable {K : PySem.W.Frag} {γ : Nat → Addr} {W : WX}
theorem st_yes : ST K γ W tYes mYes := by
  intro P O F H il S ev σ R r ev' S' hm Q k
  cases hm
  exact k O F H il (Same.refl F) (pref_rfl _) R
variable {P O F H : Hp} {il : List Addr} {S : So} {ev : Nv} {σ : L2.St}
/-- a new thing that another holds -/
theorem RE.newP (R : RE K γ P O F H il S ev σ) {p : Addr} {o : HO} (hp : H p = none) : RE K γ (upd P p o) O F (upd H p o) il S ev σ := by
  have f := R.fp hp
  have R1 : RE K γ P O F (upd H p o) il S ev σ := R.ext (Same.refl F) (Same.upd hp) (Same.upd1 R.fh f.1) fun a h _ => h
  refine ⟨R1.fh, fun a u h => ?_, R1.oh, R1.nd, R1.ln, R1.cl, R1.el, R1.en, R1.ow⟩
  by_cases e : a = p
  · subst e
    rw [upd_same] at h; cases h
    exact ⟨upd_same, f.1, f.2.2.2, f.2.2.1⟩
  · rw [upd_ne e] at h
    exact R1.ph a u h
/-- what another holds is changed by him -/
theorem RE.setP {p : Addr} {o o' : HO} (R : RE K γ (upd P p o) O F H il S ev σ) : RE K γ (upd P p o') O F (upd H p o') il S ev σ := by
  obtain ⟨h1, h2, h3, h4⟩ := R.ph p o upd_same
  refine ⟨Same.upd1 R.fh h2, fun a u h => ?_, fun a u h => ?_, R.nd, R.ln, fun n a c k1 k2 => ?_, R.el, R.en, R.ow⟩
  · by_cases e : a = p
    · subst e
      rw [upd_same] at h; cases h
      exact ⟨upd_same, h2, h3, h4⟩
    · rw [upd_ne e] at h
      obtain ⟨q1, q2, q3, q4⟩ := R.ph a u (by rw [upd_ne e]; exact h)
      exact ⟨by rw [upd_ne e]; exact q1, q2, q3, q4⟩
  · obtain ⟨q1, q2, q3⟩ := R.oh a u h
    exact ⟨by rw [upd_ne (ne_of_none h h4)]; exact q1, q2, q3⟩
  · refine (R.cl n a c k1 k2).mono (Same.refl F) (pref_rfl _) (fun _ h _ => h) fun md fa o'' ho => ?_
    rw [upd_ne fun z => h3 ⟨n, c, by rw [← z]; exact k1, k2, md⟩]
    exact ho
/-- he takes it away -/
theorem RE.unP {p : Addr} {o : HO} (R : RE K γ (upd P p o) O F H il S ev σ) (hp : P p = none) : RE K γ P O F (del H p) il S ev σ ∧ upd (del H p) p o = H ∧ del H p p = none := by
  obtain ⟨h1, h2, h3, h4⟩ := R.ph p o upd_same
  refine ⟨⟨fun a u h => ?_, fun a u h => ?_, fun a u h => ?_, R.nd, R.ln, fun n a c k1 k2 => ?_, R.el, R.en, R.ow⟩, ?_, del_same⟩
  · rw [del_ne (ne_of_none h h2)]
    exact R.fh a u h
  · have e := ne_of_none h hp
    obtain ⟨q1, q2, q3, q4⟩ := R.ph a u (by rw [upd_ne e]; exact h)
    exact ⟨by rw [del_ne e]; exact q1, q2, q3, q4⟩
  · obtain ⟨q1, q2, q3⟩ := R.oh a u h
    exact ⟨by rw [del_ne (ne_of_none h h4)]; exact q1, q2, q3⟩
  · refine (R.cl n a c k1 k2).mono (Same.refl F) (pref_rfl _) (fun _ h _ => h) fun md fa o'' ho => ?_
    rw [del_ne fun z => h3 ⟨n, c, by rw [← z]; exact k1, k2, md⟩]
    exact ho
  · funext b
    by_cases e : b = p
    · subst e; rw [upd_same, h1]
    · rw [upd_ne e, del_ne e]
theorem RE.wipe (R : RE K γ P O F H il S ev σ) : ∀ vs : List Nat, RE K γ P O F H il S (wipeN ev vs) (L2.wipe σ vs)
  | [] => R
  | v :: vs => (R.wipe vs).setN
theorem wipeN_some {i : Nat} {e : En} : ∀ {vs : List Nat}, (wipeN ev vs)[i]? = some (some e) → ev[i]? = some (some e) ∧ i ∉ vs
  | [], h => ⟨h, by simp⟩
  | v :: vs, h => by
    rcases get_set h with ⟨rfl, q⟩ | ⟨ne, q⟩
    · cases q
    · obtain ⟨h1, h2⟩ := wipeN_some q
      exact ⟨h1, by simp only [List.mem_cons, not_or]; exact ⟨fun e => ne e.symm, h2⟩⟩
theorem restN_len (ev0 ev : Nv) : ∀ vs : List Nat, (restN ev0 ev vs).length = ev.length
  | [] => rfl
  | v :: vs => by simp [restN, restN_len ev0 ev vs]
theorem restN_some {ev0 ev : Nv} {i : Nat} {e : En} : ∀ {vs : List Nat}, (restN ev0 ev vs)[i]? = some (some e) → (i ∉ vs ∧ ev[i]? = some (some e)) ∨ (i ∈ vs ∧ ∃ x, e = .d x ∧ ev0[i]? = some (some (.d x)))
  | [], h => .inl ⟨by simp, h⟩
  | v :: vs, h => by
    rcases get_set h with ⟨rfl, q⟩ | ⟨ne, q⟩
    · right
      refine ⟨by simp, ?_⟩
      split at q
      · rename_i x hx
        cases q
        exact ⟨x, rfl, hx⟩
      · cases q
    · rcases restN_some q with ⟨h1, h2⟩ | ⟨h1, h2⟩
      · exact .inl ⟨by simp only [List.mem_cons, not_or]; exact ⟨fun e => ne e.symm, h1⟩, h2⟩
      · exact .inr ⟨by simp [h1], h2⟩
/-- behind a block: the slots as they were -/
theorem RE.rest {O' F' H' : Hp} {il' : List Addr} {S' : So} {ev' : Nv} {vs : List Nat} (R : RE K γ P O F H il S ev σ) (sf : Same F F') (pf : il <+: il') (R' : RE K γ P O' F' H' il' S' ev' (L2.wipe σ vs)) : RE K γ P O' F' H' il' S' (restN ev ev' vs) σ where
  fh := R'.fh
  ph := R'.ph
  oh := R'.oh
  nd := R'.nd
  ln := R'.ln
  cl := R'.cl
  el := by rw [restN_len, R'.el, wipe_length]
  en := fun i e h => by
    rcases restN_some h with ⟨h1, h2⟩ | ⟨h1, x, rfl, h2⟩
    · obtain ⟨v, q1, q2⟩ := R'.en i e h2
      exact ⟨v, (wipe_some q1).1, q2⟩
    · obtain ⟨v, q1, q2⟩ := R.en i _ h2
      exact ⟨v, q1, DR.mono sf pf q2⟩
  ow := fun i j e e' v v' ne h1 h2 m1 m2 s1 s2 => by
    rcases restN_some h1 with ⟨a1, a2⟩ | ⟨a1, x, rfl, a2⟩
    · rcases restN_some h2 with ⟨b1, b2⟩ | ⟨b1, x, rfl, b2⟩
      · refine R'.ow i j e e' v v' ne a2 b2 m1 m2 ?_ ?_
        · rw [wipe_out a1]; exact s1
        · rw [wipe_out b1]; exact s2
      · cases m2
    · cases m1
theorem wipe_wipe (σ : L2.St) (vs : List Nat) : L2.wipe (L2.wipe σ vs) vs = L2.wipe σ vs := by
  apply List.ext_getElem?
  intro i
  by_cases hi : i ∈ vs
  · have key : ∀ (σ : L2.St), i < σ.length → (L2.wipe σ vs)[i]? = some none := by
      intro σ hl
      cases hx : (L2.wipe σ vs)[i]? with
      | none => rw [List.getElem?_eq_none_iff, wipe_length] at hx; omega
      | some y =>
        cases y with
        | none => rfl
        | some y => exact absurd hi (wipe_some hx).2
    by_cases hl : i < σ.length
    · rw [key _ hl, key _ (by rw [wipe_length]; exact hl)]
    · rw [List.getElem?_eq_none (by rw [wipe_length, wipe_length]; omega), List.getElem?_eq_none (by rw [wipe_length]; omega)]
  · rw [wipe_out hi]
def W0 : WX := fun _ _ _ _ => False
theorem sl_comp {w : TI} {it : Mm Itr} {g : TG} {tg : Tg} {tt : TT} {c : Mm Bool} {te : TE} {e : EM} {vs : List Nat} (hi : SI K γ W w it) (hg : SG K γ g tg) (hc : ST K γ W0 tt c) (he : SE K γ W0 te e)
    (hw : ∀ x ev S ev', tg x ev S = some ev' → ∀ v F il P O H σ, RE K γ P O F H il S ev σ → IR K F il v x → ∀ Q : L2.St → Hp → Prop, (∀ σ', RE K γ P O F H il S ev' σ' → L2.wipe σ' vs = L2.wipe σ vs → Q σ' H) → g v σ H Q) :
    SL K γ W (tLc w g tt te vs) (lComp it tg c e vs) := by
  intro P O F H il S ev σ R r ev' S' hm Q k
  rcases bnd_eq hm with ⟨x, q, rfl⟩ | ⟨I, e1, s1, q, hm⟩
  · exact hi P O F H il S ev σ R _ _ _ q _ fun O1 F1 H1 il1 sf pf R1 => k O1 F1 H1 il1 sf pf R1
  · refine hi P O F H il S ev σ R _ _ _ q _ fun O1 F1 H1 il1 sf pf R1 J hJ Dl hD => ?_
    split at hm
    · rename_i accF evF SF hcl
      cases hm
      have pD : P Dl = none := (R1.fp hD).2.1
      have RW := R1.wipe vs
      have ww := wipe_wipe σ vs
      refine ⟨fun i m H' => m = I.its.length - i ∧ i ≤ I.its.length ∧ ∃ O2 F2 il2 S2 ev2 av ad, Same F1 F2 ∧ il1 <+: il2 ∧ RE K γ (upd P Dl (.lst av)) O2 F2 H' il2 S2 ev2 (L2.wipe σ vs) ∧ DRs K F2 il2 [] av ad ∧
          compL tg c e vs I.chk (I.its.drop i) ad ev2 S2 = some (.ok accF, evF, S') ∧ ad.length ≤ sizeLine,
        ⟨I.its.length, by simp, Nat.zero_le _, O1, F1, il1, s1, wipeN e1 vs, [], [], Same.refl F1, pref_rfl _, RW.newP hD, .nil, hcl, Nat.zero_le _⟩, ?_⟩
      rintro i m H2 ⟨rfl, hi, O2, F2, il2, S2, ev2, av, ad, sf2, pf2, R2, hacc, hf, hz⟩
      by_cases hlt : i < I.its.length
      · have hx : I.its[i]? = some I.its[i] := List.getElem?_eq_getElem hlt
        rw [List.drop_eq_getElem_cons hlt] at hf
        unfold compL at hf
        split at hf
        · rename_i hck
          obtain ⟨go, yl⟩ := (hJ i _ O2 F2 H2 il2 S2 ev2 _ sf2 pf2 R2 hck).2 _ hx
          refine .inr ⟨go, fun H' => ∃ O2 F2 il2 S2 ev2 av ad, Same F1 F2 ∧ il1 <+: il2 ∧ RE K γ (upd P Dl (.lst av)) O2 F2 H' il2 S2 ev2 (L2.wipe σ vs) ∧ DRs K F2 il2 [] av ad ∧
              compL tg c e vs I.chk (I.its.drop (i + 1)) ad ev2 S2 = some (.ok accF, evF, S') ∧ ad.length ≤ sizeLine,
            fun H' q => ⟨_, Nat.sub_lt_sub_left hlt (Nat.lt_succ_self i), rfl, hlt, q⟩, fun v H' hy => ?_⟩
          obtain ⟨F3, sf3, R3, hv⟩ := yl v H' hy
          split at hf
          · cases hf
          · rename_i ev3 hg3
            refine hw _ _ _ _ hg3 v F3 il2 _ O2 H' _ R3 hv _ fun σ4 R4 hw4 => ⟨by rw [hw4, ww], ?_⟩
            split at hf
            · rename_i ev5 S5 hcc
              refine hc _ O2 F3 H' il2 S2 ev3 σ4 R4 _ _ _ hcc _ fun O5 F5 H5 il5 sf5 pf5 R5 => ?_
              dsimp only [OutT]
              rw [if_pos rfl]
              split at hf
              · rename_i y ev6 S6 hee
                refine he _ O5 F5 H5 il5 S5 ev5 σ4 R5 _ _ _ hee _ fun O6 F6 H6 il6 sf6 pf6 R6 vy hvy => ?_
                split at hf
                · rename_i d ev7 S7 hes
                  obtain ⟨d', O7, F7, il7, z, sf7, pf7, R7, hvy7⟩ := esc_ok R6 hvy hes
                  cases z
                  split at hf
                  · rename_i hlen
                    have hDl := (R7.ph Dl _ upd_same).1
                    have al : av.length = ad.length := PySem.Paired.length hacc
                    refine ⟨av, hDl, by rw [al]; exact hlen, ?_⟩
                    have sfA := (((sf2.trans sf3).trans sf5).trans sf6).trans sf7
                    have pfA := ((pf2.trans pf5).trans pf6).trans pf7
                    have sfB := ((sf3.trans sf5).trans sf6).trans sf7
                    have pfB := (pf5.trans pf6).trans pf7
                    have R8 := (R7.setP (o' := .lst (av ++ [vy]))).wipe vs
                    rw [hw4, ww] at R8
                    exact ⟨O7, F7, il7, S7, _, av ++ [vy], ad ++ [d], sfA, pfA, R8, DRs.app (DRs.mono sfB pfB hacc) (.cons hvy7 .nil), hf, by rw [List.length_append]; simp; omega⟩
                  · cases hf
                · cases hf
              · cases hf
            · rename_i ev5 S5 hcc
              refine hc _ O2 F3 H' il2 S2 ev3 σ4 R4 _ _ _ hcc _ fun O5 F5 H5 il5 sf5 pf5 R5 => ?_
              dsimp only [OutT]
              rw [if_neg Bool.false_ne_true]
              have R8 := R5.wipe vs
              rw [hw4, ww] at R8
              exact ⟨O5, F5, il5, S5, _, av, ad, (sf2.trans sf3).trans sf5, pf2.trans pf5, R8, DRs.mono (sf3.trans sf5) pf5 hacc, hf, hz⟩
            · cases hf
        · cases hf
      · have e' : i = I.its.length := by omega
        subst e'
        rw [List.drop_length] at hf
        unfold compL at hf
        split at hf
        · rename_i hck
          cases hf
          refine .inl ⟨(hJ _ _ O2 F2 H2 il2 _ _ _ sf2 pf2 R2 hck).1 rfl, ?_⟩
          obtain ⟨R9, hu, hn⟩ := R2.unP pD
          have R10 := R1.rest sf2 pf2 R9
          have z := k O2 F2 _ il2 (sf.trans sf2) (pf.trans pf2) R10 av Dl hacc (by rw [PySem.Paired.length hacc]; exact hz) hn
          rw [hu] at z
          exact z
        · cases hf
    · cases hm
end
end Cl

namespace Cl
open PySem L2 RZ
section
variable {K : PySem.W.Frag} {γ : Nat → Addr} {W : WX}
/-! ## targets of a block -/
def SGw (K : PySem.W.Frag) (γ : Nat → Addr) (vs : List Nat) (g : TG) (tg : Tg) : Prop := ∀ x ev S ev', tg x ev S = some ev' → ∀ v F il P O H σ, RE K γ P O F H il S ev σ → IR K F il v x → ∀ Q : L2.St → Hp → Prop,
  (∀ σ', RE K γ P O F H il S ev' σ' → L2.wipe σ' vs = L2.wipe σ vs → Q σ' H) → g v σ H Q
theorem wipe_set {σ : L2.St} {j : Nat} {v : Option V} {vs : List Nat} (h : j ∈ vs) : L2.wipe (σ.set j v) vs = L2.wipe σ vs := by
  apply List.ext_getElem?
  intro i
  by_cases hi : i ∈ vs
  · have key : ∀ (σ : L2.St), i < σ.length → (L2.wipe σ vs)[i]? = some none := by
      intro σ hl
      cases hx : (L2.wipe σ vs)[i]? with
      | none => rw [List.getElem?_eq_none_iff, wipe_length] at hx; omega
      | some y =>
        cases y with
        | none => rfl
        | some y => exact absurd hi (wipe_some hx).2
    by_cases hl : i < σ.length
    · rw [key _ hl, key _ (by simpa using hl)]
    · rw [List.getElem?_eq_none (by rw [wipe_length]; simpa using hl), List.getElem?_eq_none (by rw [wipe_length]; omega)]
  · rw [wipe_out hi, wipe_out hi, List.getElem?_set_ne (fun (e : j = i) => hi (by rw [← e]; exact h))]
theorem sgw_name {vs : List Nat} (i : Nat) (h : i ∈ vs := by decide) : SGw K γ vs (gName i) (gN i) := by
  intro x ev S ev' hg v F il P O H σ R hx Q k
  cases x with
  | one d =>
    cases d with
    | b j => cases hg
    | t d => cases hg; exact k _ (R.setD hx) (wipe_set h)
    | r n => cases hg; exact k _ (R.setD hx) (wipe_set h)
  | tup ds =>
    obtain ⟨ts, h1, rfl⟩ := Option.map_eq_some_iff.mp hg
    obtain ⟨a, us, rfl, h2, h3⟩ := hx
    rw [allT_eq h1] at h3
    exact k _ (R.setD (x := .t (.tuple ts)) (TR.tup h2 (DRs.trs h3))) (wipe_set h)
def SGsw (K : PySem.W.Frag) (γ : Nat → Addr) (vs : List Nat) (t : TGs) (gs : List Tg) : Prop := ∀ ds ev S ev', gTs gs ds ev S = some ev' → ∀ us F il P O H σ, RE K γ P O F H il S ev σ → DRs K F il [] us ds → ∀ Q : L2.St → Hp → Prop,
  (∀ σ', RE K γ P O F H il S ev' σ' → L2.wipe σ' vs = L2.wipe σ vs → Q σ' H) → t us σ H Q
theorem sgsw_nil {vs : List Nat} : SGsw K γ vs gNil [] := by
  intro ds ev S ev' hg us F il P O H σ R hx Q k
  cases ds with
  | nil => cases hx; cases hg; exact ⟨rfl, k σ R rfl⟩
  | cons d ds => cases hg
theorem sgsw_cons {vs : List Nat} {t : TG} {u : TGs} {g : Tg} {gs : List Tg} (h1 : SGw K γ vs t g) (h2 : SGsw K γ vs u gs) : SGsw K γ vs (gCons t u) (g :: gs) := by
  intro ds ev S ev' hg us F il P O H σ R hx Q k
  cases ds with
  | nil => cases hg
  | cons d ds =>
    cases hx with
    | cons a b =>
      obtain ⟨e1, q1, q2⟩ := Option.bind_eq_some_iff.mp hg
      exact ⟨_, _, rfl, h1 (.one d) ev S e1 q1 _ F il P O H σ R a _ fun σ1 R1 w1 => h2 ds e1 S ev' q2 _ F il P O H σ1 R1 b Q fun σ2 R2 w2 => k σ2 R2 (w2.trans w1)⟩
theorem sgw_tup {vs : List Nat} {n : Nat} {u : TGs} {gs : List Tg} (h : SGsw K γ vs u gs) (hn : gs.length = n := by rfl) : SGw K γ vs (gTup K n u) (gT gs) := by
  intro x ev S ev' hg v F il P O H σ R hx Q k
  cases x with
  | one d =>
    obtain ⟨ds, q1, q2⟩ := Option.bind_eq_some_iff.mp hg
    obtain ⟨a, us, rfl, h1, h2⟩ := viewT_ok R (DR.up (σ := σ) hx) q1
    exact ⟨a, us, rfl, Same.sqT R.fh h1, by rw [PySem.Paired.length h2, ← gTs_len q2]; exact hn, h ds ev S ev' q2 us F il P O H σ R h2 Q k⟩
  | tup ds =>
    obtain ⟨a, us, rfl, h1, h2⟩ := hx
    exact ⟨a, us, rfl, Same.sqT R.fh h1, by rw [PySem.Paired.length h2, ← gTs_len hg]; exact hn, h ds ev S ev' hg us F il P O H σ R h2 Q k⟩

/-! ## a list's methods that change it -/
abbrev Mu := List D → List D → Option (D × List D)
def putL (d : D) (ds : List D) : Nv → So → Option (Nv × So) := fun ev S => match d with
  | .r n => match S[n]? with
    | some (.lst _) => some (ev, S.set n (.lst ds))
    | _ => none
  | .b i => match ev[i]? with
    | some (some (.ol _)) => some (ev.set i (some (.ol ds)), S)
    | _ => none
  | _ => none
/-- the list, when it may be changed -/
def ownL (ev : Nv) (S : So) : D → Option (List D)
  | .r n => match S[n]? with
    | some (.lst ds) => some ds
    | _ => none
  | .b i => match ev[i]? with
    | some (some (.ol ds)) => some ds
    | _ => none
  | _ => none
def mMut (f : Mu) (o : EM) (a : Mm (List D)) : EM := fun ev S => bnd (o ev S) fun x ev S => match ownL ev S x with
  | none => none
  | some _ => bnd (mEsc a ev S) fun ys ev S => match ownL ev S x with
    | none => none
    | some xs => match f xs ys with
      | none => none
      | some (r, zs) => match putL x zs ev S with
        | none => none
        | some (ev, S) => some (.ok r, ev, S)
/-- the rule of such a method -/
def RM (K : PySem.W.Frag) (r : V → List V → Hp → VK → Prop) (f : Mu) : Prop := ∀ (F : Hp) (il : List Addr) (l : Addr) (vs us : List V) (ds es zs : List D) (d : D) (H : Hp) (Q : VK), DRs K F il [] vs ds → DRs K F il [] us es → f ds es = some (d, zs) → H l = some (.lst vs) →
  (∀ ws v, DRs K F il [] ws zs → DR K F il [] v d → Q v (upd H l (.lst ws))) → r (.ref l) us H Q
theorem ownL_ok {P O F H : Hp} {il : List Addr} {S : So} {ev : Nv} {σ : L2.St} (R : RE K γ P O F H il S ev σ) {d : D} {v : V} {ds : List D} (h : DR K F il σ v d) (q : ownL ev S d = some ds) :
    ∃ a vs, v = .ref a ∧ H a = some (.lst vs) ∧ DRs K F il [] vs ds ∧ ∀ ws zs ev' S', DRs K F il [] ws zs → putL d zs ev S = some (ev', S') → ∃ O', RE K γ P O' F (upd H a (.lst ws)) il S' ev' σ := by
  cases d with
  | t d => cases q
  | r n =>
    obtain ⟨a, rfl, h2⟩ := h
    unfold ownL at q
    dsimp only at q
    split at q
    · rename_i ds' hc
      cases q
      obtain ⟨fa, vs, h3, h4⟩ := R.cl n a _ h2 hc
      refine ⟨a, vs, rfl, h3, h4, fun ws zs ev' S' hw hp => ?_⟩
      unfold putL at hp
      dsimp only at hp
      rw [hc] at hp
      cases hp
      exact ⟨O, R.setC h2 hc rfl rfl ⟨fa, ws, upd_same, hw⟩⟩
    · cases q
  | b i =>
    have hs : σ[i]? = some (some v) := h
    unfold ownL at q
    dsimp only at q
    split at q
    · rename_i ds' hc
      cases q
      obtain ⟨u, q1, q2⟩ := R.en i _ hc
      rw [hs] at q1; cases q1
      obtain ⟨a, vs, rfl, q3, q4⟩ := q2
      refine ⟨a, vs, rfl, (R.oh _ _ q3).1, q4, fun ws zs ev' S' hw hp => ?_⟩
      unfold putL at hp
      dsimp only at hp
      rw [hc] at hp
      cases hp
      exact ⟨_, R.setO (o := .lst ws) (e' := .ol zs) hc rfl hs ⟨a, ws, rfl, upd_same, hw⟩⟩
    · cases q
theorem mut_step {r : V → List V → Hp → VK → Prop} {f : Mu} {t : TA} {m : Mm (List D)} (hr : RM K r f) {P O F H : Hp} {il : List Addr} {S : So} {ev : Nv} {σ : L2.St} (R : RE K γ P O F H il S ev σ) {x : D} {v : V} (hx : DR K F il σ v x) {us : List V} {ys : List D} (hy : DRs K F il [] us ys)
    {rr : Rs D} {ev' : Nv} {S' : So} (hm : (match ownL ev S x with
    | none => none
    | some xs => match f xs ys with
      | none => none
      | some (r, zs) => match putL x zs ev S with
        | none => none
        | some (ev, S) => some (Rs.ok r, ev, S)) = some (rr, ev', S')) {Q : VK} (k : ∀ O' F' H' il', Same F F' → il <+: il' → RE K γ P O' F' H' il' S' ev' σ → OutE K γ W F' H' il' σ Q rr) : r v us H Q := by
  split at hm
  · cases hm
  · rename_i xs ho
    split at hm
    · cases hm
    · rename_i d zs hf
      split at hm
      · cases hm
      · rename_i ev2 S2 hp
        cases hm
        obtain ⟨a, vs, rfl, h1, h2, h3⟩ := ownL_ok R hx ho
        refine hr F il a vs us xs ys zs d H Q h2 hy hf h1 fun ws v hw hv => ?_
        obtain ⟨O', R'⟩ := h3 ws zs _ _ hw hp
        exact k O' F _ il (Same.refl F) (pref_rfl _) R' v (DR.up hv)
theorem se_mut {r : V → List V → Hp → VK → Prop} {f : Mu} {to : TE} {t : TA} {mo : EM} {m : Mm (List D)} (ho : SE K γ W to mo) (ha : SA K γ W t m) (hr : RM K r f) : SE K γ W (tBM K "list" r to t) (mMut f mo m) := by
  intro P O F H il S ev σ R rr ev' S' hm Q k
  rcases bnd_eq hm with ⟨x, q, rfl⟩ | ⟨dx, e1, s1, q, hm⟩
  · exact ho P O F H il S ev σ R _ _ _ q _ fun O1 F1 H1 il1 sf pf R1 => k O1 F1 H1 il1 sf pf R1
  · refine ho P O F H il S ev σ R _ _ _ q _ fun O1 F1 H1 il1 sf pf R1 v hv => ?_
    split at hm
    · cases hm
    · rename_i xs0 h0
      obtain ⟨a, vs, rfl, h1, _⟩ := ownL_ok R1 hv h0
      refine ⟨.inl ⟨rfl, vs, SqL.of h1⟩, ?_⟩
      rcases bnd_eq hm with ⟨x, q2, rfl⟩ | ⟨ys, e2, s2, q2, hm⟩
      · exact sa_esc ha R1 q2 _ fun O2 F2 H2 il2 sf2 pf2 R2 => k O2 F2 H2 il2 (sf.trans sf2) (pf.trans pf2) R2
      · refine sa_esc ha R1 q2 _ fun O2 F2 H2 il2 sf2 pf2 R2 us hu => ?_
        exact mut_step (t := t) (m := m) hr R2 (DR.mono sf2 pf2 hv) hu hm fun O3 F3 H3 il3 sf3 pf3 R3 => k O3 F3 H3 il3 ((sf.trans sf2).trans sf3) ((pf.trans pf2).trans pf3) R3
theorem se_mut0 {r : V → List V → Hp → VK → Prop} {f : Mu} {to : TE} {mo : EM} (ho : SE K γ W to mo) (hr : RM K r f) : SE K γ W (tBM0 K "list" r to) (mMut f mo mNil) := by
  intro P O F H il S ev σ R rr ev' S' hm Q k
  rcases bnd_eq hm with ⟨x, q, rfl⟩ | ⟨dx, e1, s1, q, hm⟩
  · exact ho P O F H il S ev σ R _ _ _ q _ fun O1 F1 H1 il1 sf pf R1 => k O1 F1 H1 il1 sf pf R1
  · refine ho P O F H il S ev σ R _ _ _ q _ fun O1 F1 H1 il1 sf pf R1 v hv => ?_
    split at hm
    · cases hm
    · rename_i xs0 h0
      obtain ⟨a, vs, rfl, h1, _⟩ := ownL_ok R1 hv h0
      refine ⟨.inl ⟨rfl, vs, SqL.of h1⟩, ?_⟩
      exact mut_step (t := tNil) (m := mNil) hr R1 hv .nil hm fun O3 F3 H3 il3 sf3 pf3 R3 => k O3 F3 H3 il3 (sf.trans sf3) (pf.trans pf3) R3
def muApp : Mu := fun xs ys => match ys with
  | [y] => if xs.length < sizeLine then some (.non, xs ++ [y]) else none
  | _ => none
theorem rm_app : RM K rAppend muApp := by
  intro F il l vs us ds es zs d H Q h1 h2 hf hl k
  unfold muApp at hf
  split at hf
  · split at hf
    · rename_i hz
      cases hf
      cases h2 with
      | cons a b =>
        cases b
        exact ⟨l, vs, _, rfl, rfl, hl, by rw [PySem.Paired.length h1]; exact hz, k _ _ (DRs.app h1 (.cons a .nil)) TR.non⟩
    · cases hf
  · cases hf
def muPop : Mu := fun xs ys => match ys with
  | [] => xs.getLast?.map fun y => (y, xs.dropLast)
  | [.t (.int i)] => if -(2 ^ 63) ≤ i ∧ i < 2 ^ 63 then (seqIndex? i xs.length).bind fun k => xs[k]?.map fun y => (y, xs.eraseIdx k) else none
  | _ => none
theorem drs_dropLast {F : Hp} {il : List Addr} {vs : List V} {ds : List D} (h : DRs K F il [] vs ds) : DRs K F il [] vs.dropLast ds.dropLast := by
  induction h with
  | nil => exact .nil
  | cons a b ih =>
    cases b with
    | nil => exact .nil
    | cons c d => exact .cons a ih
theorem drs_erase {F : Hp} {il : List Addr} {vs : List V} {ds : List D} (h : DRs K F il [] vs ds) : ∀ n : Nat, DRs K F il [] (vs.eraseIdx n) (ds.eraseIdx n) := by
  induction h with
  | nil => intro n; exact .nil
  | cons a b ih =>
    intro n
    cases n with
    | zero => exact b
    | succ n => exact .cons a (ih n)
theorem rm_pop0 : RM K rPop (fun xs ys => match ys with | [] => muPop xs [] | _ => none) := by
  intro F il l vs us ds es zs d H Q h1 h2 hf hl k
  dsimp only at hf
  split at hf
  · cases h2
    obtain ⟨y, q1, z⟩ := Option.map_eq_some_iff.mp hf
    cases z
    rw [List.getLast?_eq_getElem?] at q1
    obtain ⟨x, q2, q3⟩ := paired_at h1 q1
    exact ⟨l, vs, x, rfl, rfl, hl, by rw [PySem.Paired.length h1]; exact q2, k _ _ (drs_dropLast h1) q3⟩
  · cases hf
theorem rm_popAt : RM K rPopAt (fun xs ys => match ys with | [y] => muPop xs [y] | _ => none) := by
  intro F il l vs us ds es zs d H Q h1 h2 hf hl k
  dsimp only at hf
  split at hf
  · rename_i y
    unfold muPop at hf
    split at hf
    · rename_i hy; cases hy
    · rename_i i hy
      cases hy
      split at hf
      · rename_i hz
        obtain ⟨n, q1, hf⟩ := Option.bind_eq_some_iff.mp hf
        obtain ⟨x, q2, z⟩ := Option.map_eq_some_iff.mp hf
        cases z
        obtain ⟨v, q3, q4⟩ := paired_at h1 q2
        cases h2 with
        | cons a b =>
          cases b
          rw [DR.int a]
          exact ⟨l, vs, i, n, v, rfl, rfl, hl, hz.1, hz.2, by rw [PySem.Paired.length h1]; exact q1, q3, k _ _ (drs_erase h1 n) q4⟩
      · cases hf
    · cases hf
  · cases hf
def muRev : Mu := fun xs ys => match ys with
  | [] => some (.non, xs.reverse)
  | _ => none
theorem rm_rev : RM K rReverse muRev := by
  intro F il l vs us ds es zs d H Q h1 h2 hf hl k
  unfold muRev at hf
  split at hf
  · cases hf; cases h2
    exact ⟨l, vs, rfl, rfl, hl, k _ _ (drs_rev h1) TR.non⟩
  · cases hf
def muClear : Mu := fun xs ys => match ys with
  | [] => some (.non, [])
  | _ => none
theorem rm_clear : RM K rClear muClear := by
  intro F il l vs us ds es zs d H Q h1 h2 hf hl k
  unfold muClear at hf
  split at hf
  · cases hf; cases h2
    exact ⟨l, vs, rfl, rfl, hl, k [] _ .nil TR.non⟩
  · cases hf
/-! ## o[i] = e, o a list -/
def sSetL (e o i : EM) : SM := fun ev S => bndS (e ev S) fun x ev S => bndS (esc x ev S) fun d ev S => bndS (o ev S) fun l ev S => bndS (i ev S) fun j ev S => match j with
  | .t (.int j) => match ownL ev S l with
    | none => none
    | some xs => match ixN xs.length j with
      | none => none
      | some n => match putL l (xs.set n d) ev S with
        | none => none
        | some (ev, S) => some (.nx, ev, S)
  | _ => none
theorem drs_set {F : Hp} {il : List Addr} {vs : List V} {ds : List D} {v : V} {d : D} (h : DRs K F il [] vs ds) (hv : DR K F il [] v d) : ∀ n : Nat, DRs K F il [] (vs.set n v) (ds.set n d) := by
  induction h with
  | nil => intro n; exact .nil
  | cons a b ih =>
    intro n
    cases n with
    | zero => exact .cons hv b
    | succ n => exact .cons a (ih n)
theorem ss_setL {te to ti : TE} {me mo mi : EM} (he : SE K γ W te me) (ho : SE K γ W to mo) (hi : SE K γ W ti mi) : SS K γ W (tAsg te (gSub to ti rSetL)) (sSetL me mo mi) := by
  intro P O F H il S ev σ R f ev' S' hm E k
  rcases bndS_eq hm with ⟨x, q, rfl⟩ | ⟨d, e1, s1, q, hm⟩
  · exact he P O F H il S ev σ R _ _ _ q _ fun O1 F1 H1 il1 sf pf R1 => k O1 F1 H1 il1 σ sf pf R1
  · refine he P O F H il S ev σ R _ _ _ q _ fun O1 F1 H1 il1 sf pf R1 v hv => ?_
    rcases bndS_eq hm with ⟨x, q', rfl⟩ | ⟨d', e2, s2, q', hm⟩
    · obtain ⟨_, _, _, _, z, _⟩ := esc_ok R1 hv q'
      cases z
    · obtain ⟨d2, O2, F2, il2, z, sf2, pf2, R2, hv2⟩ := esc_ok R1 hv q'
      cases z
      rcases bndS_eq hm with ⟨x, q3, rfl⟩ | ⟨l, e3, s3, q3, hm⟩
      · exact ho P O2 F2 H1 il2 _ _ σ R2 _ _ _ q3 _ fun O3 F3 H3 il3 sf3 pf3 R3 => k O3 F3 H3 il3 σ ((sf.trans sf2).trans sf3) ((pf.trans pf2).trans pf3) R3
      · refine ho P O2 F2 H1 il2 _ _ σ R2 _ _ _ q3 _ fun O3 F3 H3 il3 sf3 pf3 R3 vl hl => ?_
        rcases bndS_eq hm with ⟨x, q4, rfl⟩ | ⟨j, e4, s4, q4, hm⟩
        · exact hi P O3 F3 H3 il3 _ _ σ R3 _ _ _ q4 _ fun O4 F4 H4 il4 sf4 pf4 R4 => k O4 F4 H4 il4 σ (((sf.trans sf2).trans sf3).trans sf4) (((pf.trans pf2).trans pf3).trans pf4) R4
        · refine hi P O3 F3 H3 il3 _ _ σ R3 _ _ _ q4 _ fun O4 F4 H4 il4 sf4 pf4 R4 vj hj => ?_
          split at hm
          · split at hm
            · cases hm
            · rename_i xs hx
              split at hm
              · cases hm
              · rename_i n hn
                split at hm
                · cases hm
                · rename_i ev5 S5 hp
                  cases hm
                  obtain ⟨a, vs, rfl, h1, h2, h3⟩ := ownL_ok R4 (DR.mono sf4 pf4 hl) hx
                  rw [DR.int hj]
                  have hd := DR.mono (sf3.trans sf4) (pf3.trans pf4) hv2
                  obtain ⟨O', R'⟩ := h3 _ _ _ _ (drs_set h2 hd n) hp
                  exact ⟨a, vs, _, n, rfl, rfl, h1, by rw [PySem.Paired.length h2]; exact hn, k O' F4 _ il4 σ (((sf.trans sf2).trans sf3).trans sf4) (((pf.trans pf2).trans pf3).trans pf4) R'⟩
          · cases hm
end
end Cl

namespace Cl
open PySem L2 RZ
/-! ## a def -/
def runF (n N : Nat) (b : SM) : Fn := fun ds S => if ds.length = n then match b (ds.map (fun d => some (En.d d)) ++ List.replicate (N - n) none) S with
  | some (.rt d, _, S') => some (.ok d, S')
  | some (.nx, _, S') => some (.ok .non, S')
  | some (.ex x, _, S') => some (.ex x, S')
  | _ => none else none
section
variable {K : PySem.W.Frag} {γ : Nat → Addr} {P O F H : Hp} {il : List Addr} {S : So}
theorem RE.begin (R : RE K γ P H0 F H il S [] []) {vs : List V} {ds : List D} (h : DRs K F il [] vs ds) (n : Nat) : RE K γ P H0 F H il S (ds.map (fun d => some (En.d d)) ++ List.replicate n none) (vs.map some ++ List.replicate n none) where
  fh := R.fh
  ph := R.ph
  oh := R.oh
  nd := R.nd
  ln := R.ln
  cl := R.cl
  el := by simp [PySem.Paired.length h]
  en := fun i e he => by
    have hl := PySem.Paired.length h
    by_cases hi : i < ds.length
    · rw [List.getElem?_append_left (by simpa using hi), List.getElem?_map] at he
      obtain ⟨d, q1, q2⟩ := Option.map_eq_some_iff.mp he
      cases q2
      obtain ⟨v, q3, q4⟩ := paired_at h q1
      refine ⟨v, ?_, q4⟩
      rw [List.getElem?_append_left (by simp [hl]; exact hi), List.getElem?_map, q3]
      rfl
    · rw [List.getElem?_append_right (by simp; omega), List.getElem?_replicate] at he
      split at he <;> cases he
  ow := fun i j e e' v v' ne he he' m m' => by
    by_cases hi : i < ds.length
    · rw [List.getElem?_append_left (by simpa using hi), List.getElem?_map] at he
      obtain ⟨d, q1, q2⟩ := Option.map_eq_some_iff.mp he
      cases q2; cases m
    · rw [List.getElem?_append_right (by simp; omega), List.getElem?_replicate] at he
      split at he <;> cases he
/-- the slots are gone -/
theorem RE.fin {ev : Nv} {σ : L2.St} (R : RE K γ P O F H il S ev σ) : RE K γ P H0 F H il S [] [] where
  fh := R.fh
  ph := fun a o h => by
    obtain ⟨h1, h2, h3, _⟩ := R.ph a o h
    exact ⟨h1, h2, h3, rfl⟩
  oh := fun a o h => by cases h
  nd := R.nd
  ln := R.ln
  cl := R.cl
  el := rfl
  en := fun i e h => by cases h
  ow := fun i j e e' v v' _ h => by cases h
theorem body_ok {N ps : List Str} {t : TS} {b : SM} {E : XK} {Q : VK} {vs : List V} (hb : SS K γ (fun cls d _ H => E cls d H) t b) (hn : N.length = N.length) (h : spc K γ ps.length (runF ps.length N.length b) vs H Q E) :
    t { nx := fun _ H' => Q .non H', rt := Q } (L2.start N vs) H := by
  obtain ⟨hl, P, F, il, S, ds, r, S', R, hv, hc, k⟩ := h
  have hdl : ds.length = ps.length := by rw [← hl]; exact (PySem.Paired.length hv).symm
  unfold runF at hc
  rw [if_pos hdl] at hc
  have R0 := R.begin hv (N.length - ps.length)
  unfold L2.start
  rw [hl]
  split at hc
  · rename_i d ev' S2 hb2
    cases hc
    exact hb P H0 F H il S _ _ R0 _ _ _ hb2 _ fun O' F' H' il' σ' sf pf R' v hv => k F' H' il' sf pf R'.fin v hv
  · rename_i ev' S2 hb2
    cases hc
    exact hb P H0 F H il S _ _ R0 _ _ _ hb2 _ fun O' F' H' il' σ' sf pf R' => k F' H' il' sf pf R'.fin _ TR.non
  · rename_i x ev' S2 hb2
    cases hc
    exact hb P H0 F H il S _ _ R0 _ _ _ hb2 _ fun O' F' H' il' σ' sf pf R' cls dx hx => k F' H' il' sf pf R'.fin cls dx hx
  · cases hc
end

/-! ## the judgements: a piece of text and its machine -/
/-! ## a def's promise, where no repr is under way -/
structure FnG (P : Program) (w : World) (K : PySem.W.Frag) (mg : Str → Option Value) (base : Heap) (CX : CXT) (k : Nat) (f : Addr) (fd : FuncData) (ps : List Str) (sp : Sp) : Prop where
  len : ∀ vs H Q E, sp vs H Q E → vs.length = ps.length
  run : ∀ (A : Around) (fr : List Env) (s : Shared) (H : Hp) (ar : Args) (us : List Value) (vs : List V) (Q : VK) (E : XK), A.guards = some [] → Room k A → Env0 P w K mg base A fr s H → BindsTo s fd ar (ps.zip us) → Vals vs us → sp vs H Q E → codeAny (model P w) A (.call (.ref f) ar) (CR CX fr P w H s Q E) s
theorem FnG.mono {P : Program} {w : World} {K : PySem.W.Frag} {mg : Str → Option Value} {base : Heap} {CX : CXT} {i j : Nat} {f : Addr} {fd : FuncData} {ps : List Str} {sp : Sp} (G : FnG P w K mg base CX i f fd ps sp) (h : i ≤ j) : FnG P w K mg base CX j f fd ps sp where
  len := G.len
  run := fun A fr s H ar us vs Q E g r => G.run A fr s H ar us vs Q E g (r.mono h)
/-- the body's ends are the call's -/
theorem ce_of {CX : CXT} {P : Program} {w : World} {K : PySem.W.Frag} {mg : Str → Option Value} {base : Heap} {N : List Str} {qual : Str} {sc : Scope} {f : Addr} {cdv : Value} {A : Around} {fr : List Env} {s s' : Shared} {H H' : Hp} {E : XK} {σ' : L2.St} {v : V} {u : Value} {Q : VK}
    (J : Inv (cxOf CX P w K mg base N qual sc f cdv A fr s H E) [] σ' H' s') (r : RelV v u) (q : Q v H') : CE fr P w H s Q u s' := ⟨v, H', J.os, J.bare, J.base, J.hok, r, q⟩
theorem fng_of {CX : CXT} {P : Program} {w : World} {K : PySem.W.Frag} {mg : Str → Option Value} {base : Heap} {k : Nat} {f : Addr} {x qual : Str} {params : Arguments} {body : List Stmt} {sc : Scope} {dvs : List V} {kws : List (Str × V)} {fd : FuncData} {N ps : List Str} {sp : Sp}
    (F : FunD K x qual params body sc dvs kws f fd) (Sc : FnScope N ps sc) (len : ∀ vs H Q E, sp vs H Q E → vs.length = ps.length)
    (hb : ∀ (cdv : Value) (A : Around) (fr : List Env) (s : Shared) (H : Hp) (vs : List V) (Q : VK) (E : XK), A.guards = some [] → Room k (A.deeper (PyProof.Rows.envOfC qual sc s.heap.objs.size f cdv)) → sp vs H Q E →
      ∃ t, PSs (cxOf CX P w K mg base N qual sc f cdv A fr s H E) body t ∧ t { nx := fun _ H' => Q .non H', rt := Q } (start N vs) H) : FnG P w K mg base CX (k + 1) f fd ps sp where
  len := len
  run := fun A fr s H ar us vs Q E g room e0 bnds rv hsp => by
    obtain ⟨oc, od, dV, kV, doc, pm, an, cdv, ct, osl, rfl, lk, hcd, _, _⟩ := F.ex
    have kin : K.In s.heap := e0.mod.kin.keeps fun c o z => (e0.bs c o z).1
    obtain ⟨t, ht, hq⟩ := hb cdv A fr s H vs Q E g (room.deeper _) hsp
    refine codeAny_call_function room.depth (kin _ _ lk) rfl Sc.co Sc.gen rfl
      (PySem.W.codeRec_of kin hcd) (bnds _ _ _ _ ?_)
    refine wpAny_newFunctionEnv_cells Sc.kind (fun y hy => ?_) fun env he s1 nx => ?_
    · rcases Sc.par y.1 (List.of_mem_zip (a := y.1) (b := y.2) hy).1 with z | z
      · exact .inl z
      · exact .inr ⟨z, PySem.W.cellsFrom_some _ _ _ (.inl z)⟩
    · subst he
      have lim : s.heap.NoLimit := e0.mod.nolimit.keeps fun c o z => (e0.bs c o z).1
      have J0 := inv_start (CX := CX) (E := E) Sc room.hd e0 (len _ _ _ _ hsp) rv nx
      refine ⟨lim.keeps nx.toInCall.keep, codeAny_func (wpAny_mono (ht.run [] s1 _ H _ J0 hq) (fun fl s' hs => ?_) fun _ _ z => z)⟩
      cases fl with
      | next => obtain ⟨σ', H', J, q⟩ := hs; exact ce_of (v := V.non) (u := Value.none) J rfl q
      | ret u => obtain ⟨v, σ', H', J, r, q⟩ := hs; exact ce_of J r q
      | brk => obtain ⟨_, _, _, q⟩ := hs; exact q.elim
      | cont => obtain ⟨_, _, _, q⟩ := hs; exact q.elim
section
variable {X : Cx} {CX : CXT} {k : Nat} {f : Addr} {fd : FuncData} {ps : List Str} {sp : Sp} {dvs : List V} {ds : List Value} {E : L2.St → XK} {x : Str} {p pos : Pos} {e : Expr} {es : List Expr} {t : TA}
theorem run_fnG {pins : List (Addr × Obj)} {σ : L2.St} {H : Hp} {s : Shared} {Q : VK} {us : List Value} {vs : List V} (G : FnG X.prog X.w X.K X.mg X.base CX k f fd ps sp) (gd : X.A.guards = some []) (room : Room k X.A) (hb : Binds X.K fd ps ds) (hd : Vals dvs ds) (hx : PassesAt CX X σ (E σ))
    (I : Inv X pins σ H s) (r : Vals vs us) (h : sp (vs ++ dvs) H Q (E σ)) : wpAny (model X.prog X.w) X.A (call (.ref f) us) (EP X pins σ Q) X.xe s := by
  have rA : Vals (vs ++ dvs) (us ++ ds) := r.append hd
  have lA : (us ++ ds).length = ps.length := by rw [← rA.length, G.len _ _ _ _ h]
  refine wpAny_call (codeAny_mono (G.run _ X.stack _ _ ⟨us, []⟩ _ _ _ _ gd room I.env0 (hb s us I.kIn lA) rA h) fun z s' hz => ?_)
  rcases z with er | fl
  · exact hx pins H s er s' I hz
  · cases fl <;> first | exact I.after hz | exact (hz : False).elim
theorem pe_callG (G : FnG X.prog X.w X.K X.mg X.base CX k f fd ps sp) (gd : X.A.guards = some []) (room : Room k X.A) (hg : Gl X x) (hm : X.mg x = some (.ref f)) (hk : PySem.W.keepIn X.K (.ref f) = true) (hb : Binds X.K fd ps ds) (hd : Vals dvs ds) (hx : ∀ σ, PassesAt CX X σ (E σ))
    (ha : PA X (e :: es) t) (hdb : (x == ("__debug__" : Str)) = false := by decide) (he : starEach (e :: es) X.env = (false, eval e X.env) :: starEach es X.env := by rfl) (hpl : (backTo pos (starEach es X.env)).any (·.1) = false := by rfl) :
    PE X (.Call (.Name x p) (e :: es) [] pos) (tCallSD sp dvs E t) := ⟨fun pins s σ H Q I h => wpAny_Call_Name_kw (ld_glob I hg hm
      (PySem.W.callWith_K (h₀ := X.base) I.ok.mod.kin hk (thn (ha.run pos pins s σ H _ I h) fun us s1 ⟨vs, Ha, Ia, r, q⟩ => ⟨Ia.kIn, run_fnG G gd room hb hd (hx σ) Ia r q⟩) he hpl) hdb)⟩
end
structure CxK (X : Cx) (W : WX) (k : Nat) : Prop where
  tk : Takes X W
  po : PassesOwn (model X.prog X.w) X.A X.env X.xe
  cm : X.calm = true
  hr : Room k X.A
  gd : X.A.guards = some []
def ME (X : Cx) (γ : Nat → Addr) (W : WX) (e : Expr) (m : EM) : Prop := ∃ t, PE X e t ∧ SE X.K γ W t m
def MT (X : Cx) (γ : Nat → Addr) (W : WX) (e : Expr) (m : Mm Bool) : Prop := ∃ t, PT X e t ∧ ST X.K γ W t m
def MW (X : Cx) (γ : Nat → Addr) (W : WX) (e : Expr) (m : Mm Bool) : Prop := ∃ t, PW X e t ∧ ST X.K γ W t m
def MA (X : Cx) (γ : Nat → Addr) (W : WX) (es : List Expr) (m : Mm (List D)) : Prop := ∃ t, PA X es t ∧ SA X.K γ W t m ∧ ∀ ev S ds e s, m ev S = some (.ok ds, e, s) → ds.length = es.length
def ML (X : Cx) (γ : Nat → Addr) (W : WX) (e : Expr) (m : Mm (List D)) : Prop := ∃ t, PE X e t ∧ SL X.K γ W t m
def MO (X : Cx) (γ : Nat → Addr) (W : WX) (e : Option Expr) (m : Mm (Option Int)) : Prop := ∃ t, PO X e t ∧ SOp X.K γ W t m
def MS (X : Cx) (γ : Nat → Addr) (W : WX) (s : Stmt) (m : SM) : Prop := ∃ t, PS X s t ∧ SS X.K γ W t m
def MB (X : Cx) (γ : Nat → Addr) (W : WX) (s : List Stmt) (m : SM) : Prop := ∃ t, PSs X s t ∧ SS X.K γ W t m
def MG (X : Cx) (γ : Nat → Addr) (e : Expr) (g : Tg) : Prop := ∃ t, PG X e t ∧ SG X.K γ t g
def MGs (X : Cx) (γ : Nat → Addr) (es : List Expr) (gs : List Tg) : Prop := ∃ t, PGs X es t ∧ SGs X.K γ t gs
def MI (X : Cx) (γ : Nat → Addr) (W : WX) (tg it : Expr) (m : Mm Itr) : Prop := ∃ t, PI X tg it t ∧ SI X.K γ W t m
section
variable {X : Cx} {γ : Nat → Addr} {W : WX} {k : Nat}
theorem me_var (i : Nat) {x : Str} {pos : Pos} (hN : X.N[i]? = some x := by rfl) (hv : Vis X.env.scope x := by first | exact Or.inl rfl | exact Or.inr (Or.inl rfl) | exact Or.inr (Or.inr rfl)) (hd : (x == ("__debug__" : Str)) = false := by decide)
    (hcd : (x == ("__classdict__" : Str)) = false := by decide) : ME X γ W (.Name x pos) (mVar i) := ⟨_, pe_var hN hv hd hcd, se_var i⟩
theorem me_int {i : Int} {j pos} : ME X γ W (.Constant (.int i) j pos) (mC (.int i)) := ⟨_, pe_int, se_c fun _ => .int i⟩
theorem me_bl {b : Bool} {j pos} : ME X γ W (.Constant (.bool b) j pos) (mC (.bool b)) := ⟨_, pe_bl, se_c fun _ => .bl b⟩
theorem me_non {j pos} : ME X γ W (.Constant .none j pos) (mC .none) := ⟨_, pe_non, se_c fun _ => .non⟩
theorem me_str {x : Str} {j pos} : ME X γ W (.Constant (.str x) j pos) (mC (.str x)) := ⟨_, pe_str, se_c fun _ => .str x⟩
/-- a constant of the module -/
theorem me_glob {x : Str} {v : V} {u : Value} {d : PyData} {pos : Pos} (hm : X.mg x = some u) (r : RelV v u) (h : ∀ F, TR X.K F v d) (hg : Gl X x := by rfl) (hd : (x == ("__debug__" : Str)) = false := by decide) : ME X γ W (.Name x pos) (mC d) := ⟨_, pe_glob hg hm r hd, se_c h⟩
variable {a b c : Expr} {ma mb mc : EM} {pos : Pos}
theorem me_op {op : Operator} {r : R2} {f : F2} (ho : OpR X (binaryOp op) r) (hr : RV2 X.K γ r f) (ha : ME X γ W a ma) (hb : ME X γ W b mb) : ME X γ W (.BinOp a op b pos) (mOp f ma mb) := by
  obtain ⟨ta, a1, a2⟩ := ha; obtain ⟨tb, b1, b2⟩ := hb
  exact ⟨_, pe_op ho a1 b1, se_op a2 b2 hr⟩
theorem me_cmp {op : CmpOp} {r : R2} {f : F2} (ho : OpR X (compareOp op) r) (hr : RV2 X.K γ r f) (ha : ME X γ W a ma) (hb : ME X γ W b mb) (hm : behindInMarks op b = false) : ME X γ W (.Compare a [op] [b] pos) (mOp f ma mb) := by
  obtain ⟨ta, a1, a2⟩ := ha; obtain ⟨tb, b1, b2⟩ := hb
  exact ⟨_, pe_cmpR ho a1 b1 hm, se_op a2 b2 hr⟩
theorem mt_cmp {op : CmpOp} {r : R2} {f : F2} (ho : OpR X (compareOp op) r) (hr : RV2 X.K γ r f) (ha : ME X γ W a ma) (hb : ME X γ W b mb) (hm : behindInMarks op b = false) : MT X γ W (.Compare a [op] [b] pos) (mTest (mOp f ma mb)) := by
  obtain ⟨ta, a1, a2⟩ := ha; obtain ⟨tb, b1, b2⟩ := hb
  exact ⟨_, pt_cmpR ho a1 b1 hm, st_test (se_op a2 b2 hr)⟩
theorem or_add : OpR X (binaryOp .Add) (rAddX X.K) := op_add.or (op_add_str.or (op_catT.or op_cat))
theorem me_add (ha : ME X γ W a ma) (hb : ME X γ W b mb) : ME X γ W (.BinOp a .Add b pos) (mOp dAdd ma mb) := me_op or_add rv_add ha hb
theorem me_sub (ha : ME X γ W a ma) (hb : ME X γ W b mb) : ME X γ W (.BinOp a .Sub b pos) (mOp dSub ma mb) := me_op op_sub rv_sub ha hb
theorem or_mul : OpR X (binaryOp .Mult) rMulX := op_mul.or (op_repS.or op_rep)
theorem me_mul (ha : ME X γ W a ma) (hb : ME X γ W b mb) : ME X γ W (.BinOp a .Mult b pos) (mOp dMul ma mb) := me_op or_mul rv_mul ha hb
theorem me_div (ha : ME X γ W a ma) (hb : ME X γ W b mb) : ME X γ W (.BinOp a .FloorDiv b pos) (mOp dDiv ma mb) := me_op op_fdiv rv_div ha hb
theorem me_mod (ha : ME X γ W a ma) (hb : ME X γ W b mb) : ME X γ W (.BinOp a .Mod b pos) (mOp dMod ma mb) := me_op op_mod rv_mod ha hb
theorem me_pow (ha : ME X γ W a ma) (hb : ME X γ W b mb) : ME X γ W (.BinOp a .Pow b pos) (mOp dPow ma mb) := me_op op_pow rv_pow ha hb
theorem me_shl (ha : ME X γ W a ma) (hb : ME X γ W b mb) : ME X γ W (.BinOp a .LShift b pos) (mOp dShl ma mb) := me_op op_shl rv_shl ha hb
theorem me_shr (ha : ME X γ W a ma) (hb : ME X γ W b mb) : ME X γ W (.BinOp a .RShift b pos) (mOp dShr ma mb) := me_op op_shr rv_shr ha hb
theorem me_andB (ha : ME X γ W a ma) (hb : ME X γ W b mb) : ME X γ W (.BinOp a .BitAnd b pos) (mOp dAndB ma mb) := me_op op_and rv_andB ha hb
theorem me_orB (ha : ME X γ W a ma) (hb : ME X γ W b mb) : ME X γ W (.BinOp a .BitOr b pos) (mOp dOrB ma mb) := me_op op_or rv_orB ha hb
theorem me_xorB (ha : ME X γ W a ma) (hb : ME X γ W b mb) : ME X γ W (.BinOp a .BitXor b pos) (mOp dXorB ma mb) := me_op op_xor rv_xorB ha hb
theorem me_neg (ha : ME X γ W a ma) : ME X γ W (.UnaryOp .USub a pos) (mUn dNeg ma) := by
  obtain ⟨ta, a1, a2⟩ := ha
  exact ⟨_, pe_un un_neg a1, se_un a2 rv_neg⟩
/-- comparisons: the operator's rule, by the room -/
theorem or_lt (c : CxK X W k) : OpR X (compareOp .Lt) (rLtX X.K) := op_lt.or (op_lt_str.or (op_ltT c.hr.units0))
theorem me_lt (c : CxK X W k) (ha : ME X γ W a ma) (hb : ME X γ W b mb) : ME X γ W (.Compare a [.Lt] [b] pos) (mOp dLt ma mb) := me_cmp (or_lt c) rv_lt ha hb (nomark _)
theorem mt_lt (c : CxK X W k) (ha : ME X γ W a ma) (hb : ME X γ W b mb) : MT X γ W (.Compare a [.Lt] [b] pos) (mTest (mOp dLt ma mb)) := mt_cmp (or_lt c) rv_lt ha hb (nomark _)
theorem me_le (c : CxK X W k) (ha : ME X γ W a ma) (hb : ME X γ W b mb) : ME X γ W (.Compare a [.LtE] [b] pos) (mOp dLe ma mb) := me_cmp op_le rv_le ha hb (nomark _)
theorem mt_le (c : CxK X W k) (ha : ME X γ W a ma) (hb : ME X γ W b mb) : MT X γ W (.Compare a [.LtE] [b] pos) (mTest (mOp dLe ma mb)) := mt_cmp op_le rv_le ha hb (nomark _)
theorem me_gt (c : CxK X W k) (ha : ME X γ W a ma) (hb : ME X γ W b mb) : ME X γ W (.Compare a [.Gt] [b] pos) (mOp dGt ma mb) := me_cmp op_gt rv_gt ha hb (nomark _)
theorem mt_gt (c : CxK X W k) (ha : ME X γ W a ma) (hb : ME X γ W b mb) : MT X γ W (.Compare a [.Gt] [b] pos) (mTest (mOp dGt ma mb)) := mt_cmp op_gt rv_gt ha hb (nomark _)
theorem me_ge (c : CxK X W k) (ha : ME X γ W a ma) (hb : ME X γ W b mb) : ME X γ W (.Compare a [.GtE] [b] pos) (mOp dGe ma mb) := me_cmp op_ge rv_ge ha hb (nomark _)
theorem mt_ge (c : CxK X W k) (ha : ME X γ W a ma) (hb : ME X γ W b mb) : MT X γ W (.Compare a [.GtE] [b] pos) (mTest (mOp dGe ma mb)) := mt_cmp op_ge rv_ge ha hb (nomark _)
theorem me_eq (c : CxK X W k) (ha : ME X γ W a ma) (hb : ME X γ W b mb) : ME X γ W (.Compare a [.Eq] [b] pos) (mOp dEq ma mb) := me_cmp (op_eq.or (op_eqD c.hr.units)) rv_eq ha hb (nomark _)
theorem mt_eq (c : CxK X W k) (ha : ME X γ W a ma) (hb : ME X γ W b mb) : MT X γ W (.Compare a [.Eq] [b] pos) (mTest (mOp dEq ma mb)) := mt_cmp (op_eq.or (op_eqD c.hr.units)) rv_eq ha hb (nomark _)
theorem me_ne (c : CxK X W k) (ha : ME X γ W a ma) (hb : ME X γ W b mb) : ME X γ W (.Compare a [.NotEq] [b] pos) (mOp dNe ma mb) := me_cmp (op_ne.or (op_neD c.hr.units)) rv_ne ha hb (nomark _)
theorem mt_ne (c : CxK X W k) (ha : ME X γ W a ma) (hb : ME X γ W b mb) : MT X γ W (.Compare a [.NotEq] [b] pos) (mTest (mOp dNe ma mb)) := mt_cmp (op_ne.or (op_neD c.hr.units)) rv_ne ha hb (nomark _)
theorem me_isN (ha : ME X γ W a ma) (hb : ME X γ W b mb) : ME X γ W (.Compare a [.Is] [b] pos) (mOp dIsN ma mb) := me_cmp op_isN rv_isN ha hb (nomark _)
theorem mt_isN (ha : ME X γ W a ma) (hb : ME X γ W b mb) : MT X γ W (.Compare a [.Is] [b] pos) (mTest (mOp dIsN ma mb)) := mt_cmp op_isN rv_isN ha hb (nomark _)
theorem me_notN (ha : ME X γ W a ma) (hb : ME X γ W b mb) : ME X γ W (.Compare a [.IsNot] [b] pos) (mOp dNotN ma mb) := me_cmp op_notN rv_notN ha hb (nomark _)
theorem mt_notN (ha : ME X γ W a ma) (hb : ME X γ W b mb) : MT X γ W (.Compare a [.IsNot] [b] pos) (mTest (mOp dNotN ma mb)) := mt_cmp op_notN rv_notN ha hb (nomark _)
/-- any value that is True or False, as a test -/
theorem mt_val (ha : ME X γ W a ma) (he : ∀ whole, isTrue a X.env whole = (do let v ← whole; standAt a.pos; holding [v] (truthy v)) := by intro _; rfl) : MT X γ W a (mTest ma) := by
  obtain ⟨ta, a1, a2⟩ := ha
  exact ⟨_, pt_val a1 he, st_B a2⟩
theorem mw_and1 {a : Expr} {m : Mm Bool} (h : MT X γ W a m) : MW X γ W (.BoolOp .And [a] pos) m := by
  obtain ⟨t, h1, h2⟩ := h
  exact ⟨t, pw_and1 h1, h2⟩
theorem mw_or1 {a : Expr} {m : Mm Bool} (h : MT X γ W a m) : MW X γ W (.BoolOp .Or [a] pos) m := by
  obtain ⟨t, h1, h2⟩ := h
  exact ⟨t, pw_or1 h1, h2⟩
theorem mw_and {a b : Expr} {rest : List Expr} {m n : Mm Bool} (h : MT X γ W a m) (hb : MW X γ W (.BoolOp .And (b :: rest) pos) n) : MW X γ W (.BoolOp .And (a :: b :: rest) pos) (mAnd m n) := by
  obtain ⟨t, h1, h2⟩ := h; obtain ⟨u, h3, h4⟩ := hb
  exact ⟨_, pw_and h1 h3, st_and h2 h4⟩
theorem mw_or {a b : Expr} {rest : List Expr} {m n : Mm Bool} (h : MT X γ W a m) (hb : MW X γ W (.BoolOp .Or (b :: rest) pos) n) : MW X γ W (.BoolOp .Or (a :: b :: rest) pos) (mOr m n) := by
  obtain ⟨t, h1, h2⟩ := h; obtain ⟨u, h3, h4⟩ := hb
  exact ⟨_, pw_or h1 h3, st_or h2 h4⟩
theorem MW.mt {e : Expr} {m : Mm Bool} (h : MW X γ W e m) : MT X γ W e m := by
  obtain ⟨t, h1, h2⟩ := h
  exact ⟨t, h1.pt, h2⟩
theorem mt_not {a : Expr} {m : Mm Bool} (h : MT X γ W a m) : MT X γ W (.UnaryOp .Not a pos) (mNot m) := by
  obtain ⟨t, h1, h2⟩ := h
  exact ⟨_, pt_not h1, st_not h2⟩
theorem me_one {op} (h : ME X γ W a ma) : ME X γ W (.BoolOp op [a] pos) ma := by
  obtain ⟨t, h1, h2⟩ := h
  exact ⟨t, pe_one h1, h2⟩
theorem me_and {rest : List Expr} (h : ME X γ W a ma) (hb : ME X γ W (.BoolOp .And (b :: rest) pos) mb) : ME X γ W (.BoolOp .And (a :: b :: rest) pos) (mAndV ma mb) := by
  obtain ⟨t, h1, h2⟩ := h; obtain ⟨u, h3, h4⟩ := hb
  exact ⟨_, pe_and h1 h3, se_andV h2 h4⟩
theorem me_or {rest : List Expr} (h : ME X γ W a ma) (hb : ME X γ W (.BoolOp .Or (b :: rest) pos) mb) : ME X γ W (.BoolOp .Or (a :: b :: rest) pos) (mOrV ma mb) := by
  obtain ⟨t, h1, h2⟩ := h; obtain ⟨u, h3, h4⟩ := hb
  exact ⟨_, pe_or h1 h3, se_orV h2 h4⟩
theorem me_not (h : ME X γ W a ma) : ME X γ W (.UnaryOp .Not a pos) (mNotV ma) := by
  obtain ⟨t, h1, h2⟩ := h
  exact ⟨_, pe_not h1, se_notV h2⟩
theorem me_if {t : Expr} {mt : Mm Bool} (h : MT X γ W t mt) (ha : ME X γ W a ma) (hb : ME X γ W b mb) : ME X γ W (.IfExp t a b pos) (mIf mt ma mb) := by
  obtain ⟨t, h1, h2⟩ := h; obtain ⟨ta, a1, a2⟩ := ha; obtain ⟨tb, b1, b2⟩ := hb
  exact ⟨_, pe_ifExp h1 a1 b1, se_if h2 a2 b2⟩
theorem ma_nil : MA X γ W [] mNil := ⟨_, pa_nil, sa_nil, mNil_len⟩
theorem ma_cons {es : List Expr} {ms : Mm (List D)} (ha : ME X γ W a ma) (hr : MA X γ W es ms) (hs : starEach (a :: es) X.env = (false, eval a X.env) :: starEach es X.env := by rfl) : MA X γ W (a :: es) (mCons ma ms) := by
  obtain ⟨ta, a1, a2⟩ := ha; obtain ⟨tr, r1, r2, r3⟩ := hr
  exact ⟨_, pa_cons a1 r1 hs, sa_cons a2 r2, mCons_len r3⟩
theorem me_tup {es : List Expr} {ms : Mm (List D)} {x1} (h : MA X γ W es ms) : ME X γ W (.Tuple es x1 pos) (mTup ms) := by
  obtain ⟨tr, r1, r2, r3⟩ := h
  exact ⟨_, pe_tup r1, se_tup r2⟩
theorem ml_disp {es : List Expr} {ms : Mm (List D)} (h : MA X γ W es ms) : ML X γ W (.List es pos) (lDisp ms) := by
  obtain ⟨tr, r1, r2, r3⟩ := h
  exact ⟨_, pe_lst r1, sl_disp r2⟩
theorem me_tree {e : Expr} {m : Mm (List D)} (h : ML X γ W e m) : ME X γ W e (mTree m) := by
  obtain ⟨t, h1, h2⟩ := h
  exact ⟨t, h1, se_tree h2⟩
theorem me_cell {e : Expr} {m : Mm (List D)} (h : ML X γ W e m) : ME X γ W e (mCell m) := by
  obtain ⟨t, h1, h2⟩ := h
  exact ⟨t, h1, se_cell h2⟩
theorem me_lst {es : List Expr} {ms : Mm (List D)} (h : MA X γ W es ms) : ME X γ W (.List es pos) (mTree (lDisp ms)) := me_tree (ml_disp h)
theorem me_ix (ha : ME X γ W a ma) (hb : ME X γ W b mb) (hs : PlainIx b := by exact fun _ _ => rfl) : ME X γ W (.Subscript a b pos) (mOp dIx ma mb) := by
  obtain ⟨ta, a1, a2⟩ := ha; obtain ⟨tb, b1, b2⟩ := hb
  exact ⟨_, pe_ix ix_seq a1 b1 hs, se_op a2 b2 rv_ix⟩
theorem mo_no : MO X γ W none mNoP := ⟨_, po_none, so_no⟩
theorem mo_some (ha : ME X γ W a ma) : MO X γ W (some a) (mPart ma) := by
  obtain ⟨ta, a1, a2⟩ := ha
  exact ⟨_, po_some a1, so_part a2⟩
theorem sl_x3 : SlR X (rSlX3 X.K) := sl_str.or (sl_tupA.or sl_list)
theorem me_sl {lo hi : Option Expr} {ml mh : Mm (Option Int)} {p2 : Pos} (ha : ME X γ W a ma) (hl : MO X γ W lo ml) (hh : MO X γ W hi mh) : ME X γ W (.Subscript a (.Slice lo hi none p2) pos) (mSl ma ml mh) := by
  obtain ⟨ta, a1, a2⟩ := ha; obtain ⟨tl, l1, l2⟩ := hl; obtain ⟨th, h1, h2⟩ := hh
  exact ⟨_, pe_slice sl_x3 a1 l1 h1, se_sl a2 l2 h2⟩
theorem me_rev {j : Nat} {p1 p2 p3 : Pos} (ha : ME X γ W a ma) : ME X γ W (.Subscript a (.Slice none none (some (.UnaryOp .USub (.Constant (.int 1) j p1) p2)) p3) pos) (mUn dRev ma) := by
  obtain ⟨ta, a1, a2⟩ := ha
  exact ⟨_, pe_revL a1, se_rev a2⟩
/-! ### statements -/
variable {st : Stmt} {rest : List Stmt}
theorem mb_nil : MB X γ W [] sNext := ⟨_, pss_nil, ss_next⟩
theorem mb_cons {m n : SM} (h : MS X γ W st m) (hr : MB X γ W rest n) : MB X γ W (st :: rest) (sSeq m n) := by
  obtain ⟨t, h1, h2⟩ := h; obtain ⟨u, h3, h4⟩ := hr
  exact ⟨_, pss_cons h1 h3, ss_seq h2 h4⟩
theorem mb_one {m : SM} (h : MS X γ W st m) : MB X γ W [st] m := by
  obtain ⟨t, h1, h2⟩ := h
  exact ⟨_, pss_one h1, h2⟩
theorem ms_pass : MS X γ W (.Pass pos) sNext := ⟨_, ps_pass, ss_next⟩
theorem ms_brk : MS X γ W (.Break pos) sBrk := ⟨_, ps_break, ss_brk⟩
theorem ms_cnt : MS X γ W (.Continue pos) sCnt := ⟨_, ps_continue, ss_cnt⟩
theorem ms_ret (h : ME X γ W a ma) : MS X γ W (.Return (some a) pos) (sRet ma) := by
  obtain ⟨t, h1, h2⟩ := h
  exact ⟨_, ps_ret h1, ss_ret h2⟩
theorem ms_retN : MS X γ W (.Return none pos) sRetN := ⟨_, ps_retN, ss_retN⟩
theorem ms_expr (h : ME X γ W a ma) (hs : swapsWith a none pos.line X.env = pure false := by rfl) : MS X γ W (.Expr a pos) (sExpr ma) := by
  obtain ⟨t, h1, h2⟩ := h
  exact ⟨_, ps_expr h1 hs, ss_expr h2⟩
theorem ms_if {t : Expr} {mt : Mm Bool} {p q : List Stmt} {m n : SM} (h : MT X γ W t mt) (hp : MB X γ W p m) (hq : MB X γ W q n) : MS X γ W (.If t p q pos) (sIf mt m n) := by
  obtain ⟨t, h1, h2⟩ := h; obtain ⟨ta, a1, a2⟩ := hp; obtain ⟨tb, b1, b2⟩ := hq
  exact ⟨_, ps_if h1 a1 b1, ss_if h2 a2 b2⟩
theorem mg_name (i : Nat) {x : Str} (hN : X.N.Nodup) (hi : X.N[i]? = some x := by rfl) (hx : Loc X.env.scope x := by first | exact Or.inl rfl | exact Or.inr rfl) (hf : X.fn x = true ∨ X.env.scope.names.lookup x = some .local := by first | exact .inl rfl | exact .inr rfl) :
    MG X γ (.Name x pos) (gN i) := ⟨_, pg_name hN hi hx hf, sg_name i⟩
theorem mgs_nil : MGs X γ [] [] := ⟨_, pgs_nil, sgs_nil⟩
theorem mgs_cons {es : List Expr} {g : Tg} {gs : List Tg} (h : MG X γ a g) (hr : MGs X γ es gs) (hs : (assignEach (a :: es) X.env).map (·.2) = assign a X.env :: (assignEach es X.env).map (·.2) := by rfl) : MGs X γ (a :: es) (g :: gs) := by
  obtain ⟨t, h1, h2⟩ := h; obtain ⟨u, h3, h4⟩ := hr
  exact ⟨_, pgs_cons h1 h3 hs, sgs_cons h2 h4⟩
theorem mg_tup {es : List Expr} {j : Nat} {gs : List Tg} (c : CxK X W k) (h : MGs X γ es gs) (hn : (assignEach es X.env).length = gs.length := by rfl) (hst : (assignEach es X.env).findIdx? (·.1) = none := by rfl) : MG X γ (.Tuple es j pos) (gT gs) := by
  obtain ⟨t, h1, h2⟩ := h
  exact ⟨_, pg_tup c.cm h1 hn hst, sg_tup h2 rfl⟩
theorem ms_asg {tg : Expr} {g : Tg} (h : ME X γ W a ma) (hg : MG X γ tg g) (hs : swapsWithSole [tg] a pos.line X.env = pure false := by rfl) (hw : swappedStores [tg] a X.env = pure none := by rfl) (h1 : (assignEach [tg] X.env).map (·.2) = [assign tg X.env] := by rfl) :
    MS X γ W (.Assign [tg] a pos) (sAsg g ma) := by
  obtain ⟨t, a1, a2⟩ := h; obtain ⟨u, g1, g2⟩ := hg
  exact ⟨_, ps_asg a1 g1 hs hw h1, ss_asg a2 g2⟩
/-- x = a new list of its own -/
theorem ms_own {m : Mm (List D)} (i : Nat) {x : Str} {pos' : Pos} (h : ML X γ W a m) (hN : X.N.Nodup) (hi : X.N[i]? = some x := by rfl) (hx : Loc X.env.scope x := by first | exact Or.inl rfl | exact Or.inr rfl) (hs : swapsWith a (some (.Name x pos')) pos.line X.env = pure false := by rfl)
    (hf : X.fn x = true ∨ X.env.scope.names.lookup x = some .local := by first | exact .inl rfl | exact .inr rfl) : MS X γ W (.Assign [.Name x pos'] a pos) (sOwn i m) := by
  obtain ⟨t, a1, a2⟩ := h
  exact ⟨_, ps_set hN hi hx a1 hs hf, ss_own a2⟩
theorem ms_for {tg it : Expr} {mi : Mm Itr} {g : Tg} {body : List Stmt} {m : SM} (c : CxK X W k) (hi : MI X γ W tg it mi) (hg : MG X γ tg g) (hb : MB X γ W body m) (hs : ∀ x, foldedSetIterable it X.env x = pure x := by intro _; rfl) :
    MS X γ W (.For tg it body [] pos) (sFor mi g m) := by
  obtain ⟨t, i1, i2⟩ := hi; obtain ⟨u, g1, g2⟩ := hg; obtain ⟨tb, b1, b2⟩ := hb
  exact ⟨_, ps_for c.po c.cm i1 g1 b1 hs, ss_for i2 g2 b2⟩
theorem ms_while {t : Expr} {mt : Mm Bool} {body : List Stmt} {m : SM} (c : CxK X W k) (h : MT X γ W t mt) (hb : MB X γ W body m) : MS X γ W (.While t body [] pos) (sWhile mt m) := by
  obtain ⟨t, h1, h2⟩ := h; obtain ⟨tb, b1, b2⟩ := hb
  exact ⟨_, ps_while c.po h1 b1, ss_while h2 b2⟩
theorem ms_setL {o i : Expr} {mo mi : EM} {p1 : Pos} (he : ME X γ W a ma) (ho : ME X γ W o mo) (hi : ME X γ W i mi) (hs : swapsWithSole [.Subscript o i p1] a pos.line X.env = pure false := by rfl) (hw : swappedStores [.Subscript o i p1] a X.env = pure none := by rfl)
    (h1 : (assignEach [.Subscript o i p1] X.env).map (·.2) = [assign (.Subscript o i p1) X.env] := by rfl)
    (ha : ∀ v, assign (.Subscript o i p1) X.env v = (do
      let ov ← holding [v] (eval o X.env)
      let iv ← holding [v, ov] (eval i X.env)
      standAt p1
      holding [v, ov, iv] (setItem ov iv v)
      release [v, ov, iv] []) := by intro _; rfl) : MS X γ W (.Assign [.Subscript o i p1] a pos) (sSetL ma mo mi) := by
  obtain ⟨ta, a1, a2⟩ := he; obtain ⟨to, o1, o2⟩ := ho; obtain ⟨ti, i1, i2⟩ := hi
  exact ⟨_, ps_asg a1 (pg_sub o1 i1 set_list ha) hs hw h1, ss_setL a2 o2 i2⟩
/-! ### what is walked -/
theorem PI.or {tg it : Expr} {w w' : TI} (h : PI X tg it w) (h' : PI X tg it w') : PI X tg it (fun σ H R => w σ H R ∨ w' σ H R) := ⟨fun pins s σ H R I q => by
  rcases q with q | q
  · exact h.run pins s σ H R I q
  · exact h'.run pins s σ H R I q⟩
theorem mi_any {tg : Expr} (h : ME X γ W a ma) : MI X γ W tg a (mIter ma) := by
  obtain ⟨t, a1, a2⟩ := h
  exact ⟨_, PI.or (pi_list a1) (PI.or (pi_tup a1) (pi_str a1)), si_iter a2⟩
theorem mi_rng1 {tg : Expr} {ms : Mm (List D)} {p : Pos} (hm : X.mg "range" = none) (h : MA X γ W [a] ms) (hg : Gl X "range" := by rfl) (hs : starEach [a] X.env = [(false, eval a X.env)] := by rfl) : MI X γ W tg (.Call (.Name "range" p) [a] [] pos) (mRng ms) := by
  obtain ⟨t, a1, a2, a3⟩ := h
  exact ⟨_, pi_range1 hg hm a1 hs, si_rng1 a2 a3⟩
theorem mi_rng2 {tg : Expr} {ms : Mm (List D)} {p : Pos} (hm : X.mg "range" = none) (h : MA X γ W [a, b] ms) (hg : Gl X "range" := by rfl) (hs : starEach [a, b] X.env = [(false, eval a X.env), (false, eval b X.env)] := by rfl) (hs2 : starEach [b] X.env = [(false, eval b X.env)] := by rfl) :
    MI X γ W tg (.Call (.Name "range" p) [a, b] [] pos) (mRng ms) := by
  obtain ⟨t, a1, a2, a3⟩ := h
  exact ⟨_, pi_range2 hg hm a1 hs hs2, si_rng2 a2 a3⟩
theorem mi_zip {ms : Mm (List D)} {p tpos : Pos} {elts : List Expr} {kk : Nat} (hm : X.mg "zip" = none) (h : MA X γ W [a, b] ms) (hg : Gl X "zip" := by rfl) (hs : starEach [a, b] X.env = (false, eval a X.env) :: starEach [b] X.env := by rfl)
    (hpl : (backTo pos (starEach [b] X.env)).any (·.1) = false := by rfl) : MI X γ W (.Tuple elts kk tpos) (.Call (.Name "zip" p) [a, b] [] pos) (mZip ms) := by
  obtain ⟨t, a1, a2, a3⟩ := h
  exact ⟨_, pi_zipA hg hm a1 hs hpl, si_zip a2⟩
theorem mi_enum {ms : Mm (List D)} {p tpos : Pos} {elts : List Expr} {kk : Nat} (hm : X.mg "enumerate" = none) (h : MA X γ W [a] ms) (hg : Gl X "enumerate" := by rfl) (hs : starEach [a] X.env = [(false, eval a X.env)] := by rfl) :
    MI X γ W (.Tuple elts kk tpos) (.Call (.Name "enumerate" p) [a] [] pos) (mEnum ms) := by
  obtain ⟨t, a1, a2, a3⟩ := h
  exact ⟨_, pi_enum hg hm a1 hs, si_enum a2⟩
/-! ### calls -/
theorem me_call {f : Addr} {fd : FuncData} {ps : List Str} {g : Fn} {x : Str} {es : List Expr} {ms : Mm (List D)} {p : Pos} (c : CxK X W k) (G : FnG X.prog X.w X.K X.mg X.base (L2.CX X.prog X.w) k f fd ps (spc X.K γ ps.length g)) (hm : X.mg x = some (.ref f)) (hk : PySem.W.keepIn X.K (.ref f) = true)
    (hb : Binds X.K fd ps []) (h : MA X γ W (a :: es) ms) (hl : (a :: es).length = ps.length := by rfl) (hg : Gl X x := by rfl) (hdb : (x == ("__debug__" : Str)) = false := by decide) (he : starEach (a :: es) X.env = (false, eval a X.env) :: starEach es X.env := by rfl)
    (hpl : (backTo pos (starEach es X.env)).any (·.1) = false := by rfl) : ME X γ W (.Call (.Name x p) (a :: es) [] pos) (mCall g ms) := by
  obtain ⟨t, a1, a2, a3⟩ := h
  exact ⟨_, pe_callG G c.gd c.hr hg hm hk hb .nil (fun σ => passAt c.tk σ) a1 hdb he hpl, se_call a2 (fun ev S ds e s q => by rw [a3 ev S ds e s q]; exact hl)⟩
theorem me_B {id : String} {r : List V → Hp → VK → Prop} {f : Nv → So → List D → Option D} {x : Str} {es : List Expr} {ms : Mm (List D)} {p : Pos} (hc : CallR X (.builtin id) r) (hr : RVs X.K γ r f) (hm : X.mg x = none) (hv : bootBuiltins x = some (.builtin id)) (h : MA X γ W (a :: es) ms)
    (hg : Gl X x := by rfl) (hn : x ≠ "__name__" := by decide) (hdb : (x == ("__debug__" : Str)) = false := by decide) (he : starEach (a :: es) X.env = (false, eval a X.env) :: starEach es X.env := by rfl)
    (hpl : (backTo pos (starEach es X.env)).any (·.1) = false := by rfl) : ME X γ W (.Call (.Name x p) (a :: es) [] pos) (mB f ms) := by
  obtain ⟨t, a1, a2, a3⟩ := h
  exact ⟨_, pe_callB hc hg hm hv a1 hn hdb he hpl, se_B a2 hr⟩
theorem me_Ty {T : String} {r : List V → Hp → VK → Prop} {f : Nv → So → List D → Option D} {x : Str} {es : List Expr} {ms : Mm (List D)} {p : Pos} (hc : CallR X (.type T) r) (hr : RVs X.K γ r f) (hm : X.mg x = none) (hv : bootBuiltins x = some (.type T)) (h : MA X γ W (a :: es) ms)
    (hg : Gl X x := by rfl) (hn : x ≠ "__name__" := by decide) (hdb : (x == ("__debug__" : Str)) = false := by decide) (he : starEach (a :: es) X.env = (false, eval a X.env) :: starEach es X.env := by rfl)
    (hpl : (backTo pos (starEach es X.env)).any (·.1) = false := by rfl) : ME X γ W (.Call (.Name x p) (a :: es) [] pos) (mB f ms) := by
  obtain ⟨t, a1, a2, a3⟩ := h
  exact ⟨_, pe_callTy hc hg hm hv a1 hn hdb he hpl, se_B a2 hr⟩
end
/-! ## a def keeps its promise -/
section
variable {P : Program} {w : World} {K : PySem.W.Frag} {mg : Str → Option Value} {base : Heap} {γ : Nat → Addr}
/-- nothing is promised at no level -/
theorem fn_zero {f : Addr} {fd : FuncData} {ps : List Str} {k : Nat} : FnG P w K mg base (L2.CX P w) k f fd ps (spc K γ ps.length (fun _ _ => none)) :=
  ⟨fun vs H Q E q => q.1, fun A outer s H args us vs Q E _ hr he hb hv q => by
    obtain ⟨_, _, _, _, _, _, _, _, _, _, z, _⟩ := q
    cases z⟩
end
end Cl

namespace Cl
open PySem L2 RZ
/-! ## built-in defs by values -/
def lenOf (ev : Nv) (S : So) : D → Option Nat
  | .t (.str z) => if z.length ≤ sizeLine then some z.length else none
  | x => match viewL ev S x with
    | some ds => some ds.length
    | none => match viewT S x with
      | some ds => some ds.length
      | none => match x with
        | .t (.dict kvs) => some kvs.length
        | .r n => match S[n]? with
          | some (.dic kvs) => some kvs.length
          | _ => none
        | .b i => match ev[i]? with
          | some (some (.od kvs)) => some kvs.length
          | _ => none
        | _ => none
abbrev Bf := Nv → So → List D → Option D
def bLen : Bf := fun ev S xs => match xs with
  | [x] => (lenOf ev S x).map fun n => .int (n : Int)
  | _ => none
section
variable {K : PySem.W.Frag} {γ : Nat → Addr}
abbrev rLen1 (K : PySem.W.Frag) : List V → Hp → VK → Prop := fun xs H Q => ∃ x n, xs = [x] ∧ LenV K x H n ∧ Q (.int (n : Nat)) H
abbrev rLenDk : List V → Hp → VK → Prop := fun xs H Q => ∃ a kvs, xs = [V.ref a] ∧ H a = some (.dK kvs) ∧ Q (.int (kvs.length : Nat)) H
theorem TRk.len {F : Hp} : ∀ {ks : List (Key × V)} {kvs : List (PyData × PyData)}, TRk K F ks kvs → ks.length = kvs.length
  | _, _, .nil => rfl
  | _, _, .cons _ _ b => by simp [TRk.len b]
theorem rv_len : RVs K γ (fun xs H Q => rLen1 K xs H Q ∨ rLenDk xs H Q) bLen := by
  intro P O F H il S ev σ xs dxs d R hx h Q k
  unfold bLen at h; split at h
  · rename_i dx
    cases hx with
    | cons a b =>
      cases b
      obtain ⟨n, h, rfl⟩ := Option.map_eq_some_iff.mp h
      have fin := fun v => k v F H (Same.refl F) R
      unfold lenOf at h; split at h
      · split at h
        · rename_i hz
          cases h
          rw [DR.str a]
          exact .inl ⟨_, _, rfl, ⟨hz, rfl⟩, fin _ (TR.int _)⟩
        · cases h
      · split at h
        · rename_i ds hv
          cases h
          obtain ⟨p, vs, rfl, h1, h2⟩ := viewL_ok R a hv
          exact .inl ⟨_, _, rfl, .inl ⟨vs, h1, (PySem.Paired.length h2).symm⟩, fin _ (TR.int _)⟩
        · split at h
          · rename_i ds hv
            cases h
            obtain ⟨p, vs, rfl, h1, h2⟩ := viewT_ok R a hv
            exact .inl ⟨_, _, rfl, .inr ⟨vs, Same.sqT R.fh h1, (PySem.Paired.length h2).symm⟩, fin _ (TR.int _)⟩
          · split at h
            · cases h
              cases a with
              | dic h1 h2 =>
                refine .inr ⟨_, _, rfl, R.fh _ _ h1, ?_⟩
                rw [TRk.len h2]
                exact fin _ (TR.int _)
            · rename_i n' _ _ _
              split at h
              · rename_i kvs hc
                cases h
                obtain ⟨p, rfl, h2⟩ := a
                obtain ⟨_, ks, h3, h4⟩ := R.cl _ p _ h2 hc
                refine .inr ⟨p, ks, rfl, h3, ?_⟩
                rw [PySem.Paired.length h4]
                exact fin _ (TR.int _)
              · cases h
            · split at h
              · rename_i kvs hc
                cases h
                obtain ⟨u, q1, q2⟩ := R.en _ _ hc
                simp only [DR] at a
                rw [a] at q1; cases q1
                obtain ⟨p, ks, rfl, h3, h4⟩ := q2
                refine .inr ⟨p, ks, rfl, (R.oh _ _ h3).1, ?_⟩
                rw [PySem.Paired.length h4]
                exact fin _ (TR.int _)
              · cases h
            · cases h
  · cases h
def bInt : Bf := fun _ _ xs => match xs with
  | [.t (.int i)] => some (.int i)
  | [.t (.bool b)] => some (.int (if b then 1 else 0))
  | [.t (.str z)] => if z.length ≤ 640 then (PySem.intText? z).map .int else none
  | _ => none
abbrev rInt1 : List V → Hp → VK → Prop := fun xs H Q => (∃ i, xs = [.int i] ∧ Q (.int i) H) ∨ ∃ k, xs = [.bl k] ∧ Q (.int (if k then 1 else 0)) H
abbrev rIntS : List V → Hp → VK → Prop := fun xs H Q => ∃ a n, xs = [V.str a] ∧ PySem.intText? a = some n ∧ a.length ≤ 640 ∧ Q (.int n) H
theorem rv_int1 : RVs K γ (fun xs H Q => rInt1 xs H Q ∨ rIntS xs H Q) bInt := by
  intro P O F H il S ev σ xs dxs d R hx h Q k
  have fin := fun v => k v F H (Same.refl F) R
  unfold bInt at h; split at h
  · cases h
    cases hx with
    | cons a b => cases b; rw [DR.int a]; exact .inl (.inl ⟨_, rfl, fin _ (TR.int _)⟩)
  · cases h
    cases hx with
    | cons a b => cases b; rw [DR.bool a]; exact .inl (.inr ⟨_, rfl, fin _ (TR.int _)⟩)
  · split at h
    · rename_i hz
      obtain ⟨n, h5, rfl⟩ := Option.map_eq_some_iff.mp h
      cases hx with
      | cons a b => cases b; rw [DR.str a]; exact .inr ⟨_, _, rfl, h5, hz, fin _ (TR.int _)⟩
    · cases h
  · cases h
def bMax2 : Bf := fun _ _ xs => match xs with
  | [.t (.int i), .t (.int j)] => some (.int (if j > i then j else i))
  | _ => none
def bMin2 : Bf := fun _ _ xs => match xs with
  | [.t (.int i), .t (.int j)] => some (.int (if j < i then j else i))
  | _ => none
theorem rv_max2 : RVs K γ (fun xs H Q => ∃ i j, xs = [.int i, .int j] ∧ Q (.int (if j > i then j else i)) H) bMax2 := by
  intro P O F H il S ev σ xs dxs d R hx h Q k
  unfold bMax2 at h; split at h
  · cases h
    cases hx with
    | cons a b => cases b with
      | cons b c => cases c; rw [DR.int a, DR.int b]; exact ⟨_, _, rfl, k _ F H (Same.refl F) R (TR.int _)⟩
  · cases h
theorem rv_min2 : RVs K γ (fun xs H Q => ∃ i j, xs = [.int i, .int j] ∧ Q (.int (if j < i then j else i)) H) bMin2 := by
  intro P O F H il S ev σ xs dxs d R hx h Q k
  unfold bMin2 at h; split at h
  · cases h
    cases hx with
    | cons a b => cases b with
      | cons b c => cases c; rw [DR.int a, DR.int b]; exact ⟨_, _, rfl, k _ F H (Same.refl F) R (TR.int _)⟩
  · cases h
end
/-! ## isinstance of built-in classes -/
inductive Ty where
  | non | bl | int | str | lst | tup | dic
  deriving DecidableEq
def Ty.name : Ty → String
  | .non => "NoneType" | .bl => "bool" | .int => "int" | .str => "str" | .lst => "list" | .tup => "tuple" | .dic => "dict"
def Ty.sub : Ty → Ty → Bool
  | .non, .non | .bl, .bl | .bl, .int | .int, .int | .str, .str | .lst, .lst | .tup, .tup | .dic, .dic => true
  | _, _ => false
theorem Ty.kit (a b : Ty) (h : b ≠ .non) : kitB a.name b.name = some (a.sub b) := by
  cases b <;> first | exact absurd rfl h | (cases a <;> decide +kernel)
def tyOf (ev : Nv) (S : So) : D → Option Ty
  | .t .none => some .non
  | .t (.bool _) => some .bl
  | .t (.int _) => some .int
  | .t (.str _) => some .str
  | .t (.list _) => some .lst
  | .t (.tuple _) => some .tup
  | .t (.dict _) => some .dic
  | .r n => match S[n]? with
    | some (.lst _) => some .lst
    | some (.frl _) => some .lst
    | some (.tup _) => some .tup
    | some (.dic _) => some .dic
    | _ => none
  | .b i => match ev[i]? with
    | some (some (.ol _)) => some .lst
    | some (some (.od _)) => some .dic
    | _ => none
def dIsi (c : Ty) : F1 := fun ev S x => (tyOf ev S x).map fun t => .bool (t.sub c)
section
variable {K : PySem.W.Frag} {γ : Nat → Addr} {W : WX}
theorem sqL_ty {H : Hp} {a : Addr} {vs : List V} (h : SqL K H a vs) : TyX K H (.ref a) (.type "list") := by
  rcases h with (h | ⟨o, h⟩) | ⟨o, its, n, h1, h2, _⟩
  · exact .base (.lst h)
  · exact .base (.frz h)
  · exact .kList h1 h2
theorem sqT_ty {H : Hp} {a : Addr} {vs : List V} (h : SqT K H a vs) : TyX K H (.ref a) (.type "tuple") := by
  rcases h with (h | ⟨o, h⟩) | ⟨o, its, n, h1, h2, _⟩
  · exact .base (.tup h)
  · exact .fTuple h
  · exact .kTuple h1 h2
theorem tyOf_ok {P O F H : Hp} {il : List Addr} {S : So} {ev : Nv} {σ : L2.St} (R : RE K γ P O F H il S ev σ) {d : D} {v : V} (h : DR K F il σ v d) {t : Ty} (q : tyOf ev S d = some t) : TyX K H v (.type t.name) := by
  cases d with
  | t d =>
    cases d with
    | none => cases q; cases h; exact .base .non
    | bool b => cases q; cases h; exact .base (.bl b)
    | int i => cases q; cases h; exact .base (.int i)
    | str x => cases q; cases h; exact .base (.str x)
    | list ds => cases q; cases h with | lst h1 h2 => exact .base (.lst (R.fh _ _ h1))
    | tuple ds => cases q; cases h with | tup h1 h2 => exact sqT_ty (Same.sqT R.fh h1)
    | dict _ => cases q; cases h with | dic h1 h2 => exact .base (.dK (R.fh _ _ h1))
  | r n =>
    obtain ⟨a, rfl, h2⟩ := h
    unfold tyOf at q
    dsimp only at q
    split at q
    · rename_i hc; cases q
      obtain ⟨_, vs, h3, h4⟩ := R.cl n a _ h2 hc
      exact .base (.lst h3)
    · rename_i hc; cases q
      obtain ⟨vs, h3, h4⟩ := R.cl n a _ h2 hc
      exact sqL_ty (sqL_mono R.fh h3)
    · rename_i hc; cases q
      obtain ⟨vs, h3, h4⟩ := R.cl n a _ h2 hc
      exact .base (.tup (R.fh _ _ h3))
    · rename_i hc; cases q
      obtain ⟨_, vs, h3, h4⟩ := R.cl n a _ h2 hc
      exact .base (.dK h3)
    · cases q
  | b i =>
    have hs : σ[i]? = some (some v) := h
    unfold tyOf at q
    dsimp only at q
    split at q
    · rename_i hc; cases q
      obtain ⟨u, q1, q2⟩ := R.en i _ hc
      rw [hs] at q1; cases q1
      obtain ⟨a, vs, rfl, q3, q4⟩ := q2
      exact .base (.lst (R.oh _ _ q3).1)
    · rename_i hc; cases q
      obtain ⟨u, q1, q2⟩ := R.en i _ hc
      rw [hs] at q1; cases q1
      obtain ⟨a, vs, rfl, q3, q4⟩ := q2
      exact .base (.dK (R.oh _ _ q3).1)
    · cases q
theorem se_isi {c : Ty} (hc : c ≠ .non) {t : TE} {m : EM} (h : SE K γ W t m) : SE K γ W (tCB (rIsi K) (tCons t (tCons (tC (.ty c.name)) tNil))) (mUn (dIsi c) m) := by
  intro P O F H il S ev σ R r ev' S' hm Q k
  rcases bnd_eq hm with ⟨x, q, rfl⟩ | ⟨dx, e1, s1, q, hm⟩
  · exact h P O F H il S ev σ R _ _ _ q _ fun O1 F1 H1 il1 sf pf R1 => k O1 F1 H1 il1 sf pf R1
  · refine h P O F H il S ev σ R _ _ _ q _ fun O1 F1 H1 il1 sf pf R1 v hv => ?_
    obtain ⟨d, q3, rfl, rfl, rfl⟩ := ans_eq hm
    obtain ⟨ty, q4, rfl⟩ := Option.map_eq_some_iff.mp q3
    exact ⟨v, .ty c.name, .type ty.name, .type c.name, ty.sub c, rfl, .ty _, tyOf_ok R1 hv q4, kit_ty (Ty.kit ty c hc), k O1 F1 H1 il1 sf pf R1 _ (TR.bl _)⟩
end
section
variable {X : Cx} {γ : Nat → Addr} {W : WX} {k : Nat} {a b : Expr} {ma mb : EM} {pos : Pos}
theorem me_isi (c : Ty) (hcn : c ≠ .non) {x : Str} {p p2 : Pos} (ha : ME X γ W a ma) (hm : X.mg "isinstance" = none) (hm2 : X.mg x = none) (hv : bootBuiltins x = some (.type c.name)) (hg : Gl X "isinstance" := by rfl) (hg2 : Gl X x := by rfl) (hn2 : x ≠ "__name__" := by decide) (hdb2 : (x == ("__debug__" : Str)) = false := by decide)
    (he : starEach [a, .Name x p2] X.env = (false, eval a X.env) :: starEach [.Name x p2] X.env := by rfl) (he2 : starEach [.Name x p2] X.env = [(false, eval (.Name x p2) X.env)] := by rfl)
    (hpl : (backTo pos (starEach [.Name x p2] X.env)).any (·.1) = false := by rfl) : ME X γ W (.Call (.Name "isinstance" p) [a, .Name x p2] [] pos) (mUn (dIsi c) ma) := by
  obtain ⟨ta, a1, a2⟩ := ha
  exact ⟨_, pe_callB call_isi hg hm PyProof.Rows.boot_isinstance (pa_cons a1 (pa_cons (pe_bltn (v := .ty c.name) hg2 hm2 hv rfl hn2 hdb2) pa_nil he2) he) (by decide) (by decide) he hpl, se_isi hcn a2⟩
theorem me_len {p : Pos} {ms : Mm (List D)} (hm : X.mg "len" = none) (h : MA X γ W [a] ms) (hg : Gl X "len" := by rfl) (he : starEach [a] X.env = (false, eval a X.env) :: starEach [] X.env := by rfl) (hpl : (backTo pos (starEach [] X.env)).any (·.1) = false := by rfl) :
    ME X γ W (.Call (.Name "len" p) [a] [] pos) (mB bLen ms) := me_B (call_len.or call_lenD) rv_len hm PySem.boot_len h hg (by decide) (by decide) he hpl
theorem me_intC {p : Pos} {ms : Mm (List D)} (hm : X.mg "int" = none) (h : MA X γ W [a] ms) (hg : Gl X "int" := by rfl) (he : starEach [a] X.env = (false, eval a X.env) :: starEach [] X.env := by rfl) (hpl : (backTo pos (starEach [] X.env)).any (·.1) = false := by rfl) :
    ME X γ W (.Call (.Name "int" p) [a] [] pos) (mB bInt ms) := me_Ty (call_int1.or call_int_str) rv_int1 hm (by decide +kernel) h hg (by decide) (by decide) he hpl
theorem me_max2 {p : Pos} {ms : Mm (List D)} (c : CxK X W k) (hm : X.mg "max" = none) (h : MA X γ W [a, b] ms) (hg : Gl X "max" := by rfl) (he : starEach [a, b] X.env = (false, eval a X.env) :: starEach [b] X.env := by rfl) (hpl : (backTo pos (starEach [b] X.env)).any (·.1) = false := by rfl) :
    ME X γ W (.Call (.Name "max" p) [a, b] [] pos) (mB bMax2 ms) := me_B (call_max2 c.cm) rv_max2 hm (by decide +kernel) h hg (by decide) (by decide) he hpl
theorem me_min2 {p : Pos} {ms : Mm (List D)} (c : CxK X W k) (hm : X.mg "min" = none) (h : MA X γ W [a, b] ms) (hg : Gl X "min" := by rfl) (he : starEach [a, b] X.env = (false, eval a X.env) :: starEach [b] X.env := by rfl) (hpl : (backTo pos (starEach [b] X.env)).any (·.1) = false := by rfl) :
    ME X γ W (.Call (.Name "min" p) [a, b] [] pos) (mB bMin2 ms) := me_B (call_min2 c.cm) rv_min2 hm (by decide +kernel) h hg (by decide) (by decide) he hpl
end
/-! ## methods of built-in classes that change nothing -/
abbrev Mf := Nv → So → D → List D → Option D
def mMb (ty : Nv → So → D → Bool) (f : Mf) (o : EM) (a : Mm (List D)) : EM := fun ev S => bnd (o ev S) fun x ev S => if ty ev S x = true then bnd (a ev S) fun ys ev S => ans (f ev S x ys) ev S else none
def RVm (K : PySem.W.Frag) (γ : Nat → Addr) (r : V → List V → Hp → VK → Prop) (f : Mf) : Prop := ∀ P O F H il S ev σ x xs dx dxs d, RE K γ P O F H il S ev σ → DR K F il σ x dx → DRs K F il σ xs dxs → f ev S dx dxs = some d → ∀ Q : VK,
  (∀ v F' H', Same F F' → RE K γ P O F' H' il S ev σ → DR K F' il σ v d → Q v H') → r x xs H Q
def TyOk (K : PySem.W.Frag) (γ : Nat → Addr) (T : String) (ty : Nv → So → D → Bool) : Prop := ∀ P O F H il S ev σ x dx, RE K γ P O F H il S ev σ → DR K F il σ x dx → ty ev S dx = true → tyV K T x H
def isStr : Nv → So → D → Bool := fun _ _ x => match x with
  | .t (.str _) => true
  | _ => false
def isLst : Nv → So → D → Bool := fun ev S x => (viewL ev S x).isSome
section
variable {K : PySem.W.Frag} {γ : Nat → Addr} {W : WX}
theorem ty_str : TyOk K γ "str" isStr := by
  intro P O F H il S ev σ x dx R hx h
  unfold isStr at h
  split at h
  · rw [DR.str hx]; exact rfl
  · cases h
theorem ty_lst : TyOk K γ "list" isLst := by
  intro P O F H il S ev σ x dx R hx h
  unfold isLst at h
  obtain ⟨ds, q⟩ := Option.isSome_iff_exists.mp h
  obtain ⟨a, vs, rfl, h1, h2⟩ := viewL_ok R hx q
  exact .inl ⟨rfl, vs, h1⟩
theorem se_bm {T : String} {ty : Nv → So → D → Bool} {r : V → List V → Hp → VK → Prop} {f : Mf} {to : TE} {t : TA} {mo : EM} {m : Mm (List D)} (hty : TyOk K γ T ty) (hr : RVm K γ r f) (ho : SE K γ W to mo) (ha : SA K γ W t m) : SE K γ W (tBM K T r to t) (mMb ty f mo m) := by
  intro P O F H il S ev σ R rr ev' S' hm Q k
  rcases bnd_eq hm with ⟨x, q, rfl⟩ | ⟨dx, e1, s1, q, hm⟩
  · exact ho P O F H il S ev σ R _ _ _ q _ fun O1 F1 H1 il1 sf pf R1 => k O1 F1 H1 il1 sf pf R1
  · refine ho P O F H il S ev σ R _ _ _ q _ fun O1 F1 H1 il1 sf pf R1 v hv => ?_
    split at hm
    · rename_i ht
      refine ⟨hty P O1 F1 H1 il1 s1 e1 σ v dx R1 hv ht, ?_⟩
      rcases bnd_eq hm with ⟨x, q2, rfl⟩ | ⟨ys, e2, s2, q2, hm⟩
      · exact ha P O1 F1 H1 il1 s1 e1 σ R1 _ _ _ q2 _ fun O2 F2 H2 il2 sf2 pf2 R2 => k O2 F2 H2 il2 (sf.trans sf2) (pf.trans pf2) R2
      · refine ha P O1 F1 H1 il1 s1 e1 σ R1 _ _ _ q2 _ fun O2 F2 H2 il2 sf2 pf2 R2 us hu => ?_
        obtain ⟨d, q3, rfl, rfl, rfl⟩ := ans_eq hm
        exact hr P O2 F2 H2 il2 _ _ σ v us dx ys d R2 (DR.mono sf2 pf2 hv) hu q3 Q fun v F3 H3 sf3 R3 hv => k O2 F3 H3 il2 ((sf.trans sf2).trans sf3) (pf.trans pf2) R3 v hv
    · cases hm
theorem se_bm0 {T : String} {ty : Nv → So → D → Bool} {r : V → List V → Hp → VK → Prop} {f : Mf} {to : TE} {mo : EM} (hty : TyOk K γ T ty) (hr : RVm K γ r f) (ho : SE K γ W to mo) : SE K γ W (tBM0 K T r to) (mMb ty f mo mNil) := by
  intro P O F H il S ev σ R rr ev' S' hm Q k
  rcases bnd_eq hm with ⟨x, q, rfl⟩ | ⟨dx, e1, s1, q, hm⟩
  · exact ho P O F H il S ev σ R _ _ _ q _ fun O1 F1 H1 il1 sf pf R1 => k O1 F1 H1 il1 sf pf R1
  · refine ho P O F H il S ev σ R _ _ _ q _ fun O1 F1 H1 il1 sf pf R1 v hv => ?_
    split at hm
    · rename_i ht
      refine ⟨hty P O1 F1 H1 il1 s1 e1 σ v dx R1 hv ht, ?_⟩
      rcases bnd_eq hm with ⟨x, q2, rfl⟩ | ⟨ys, e2, s2, q2, hm⟩
      · cases q2
      · cases q2
        obtain ⟨d, q3, rfl, rfl, rfl⟩ := ans_eq hm
        exact hr P O1 F1 H1 il1 _ _ σ v [] dx [] d R1 hv .nil q3 Q fun v F3 H3 sf3 R3 hv => k O1 F3 H3 il1 (sf.trans sf3) pf R3 v hv
    · cases hm
/-- s.index(t) -/
def fSIndex : Mf := fun _ _ x ys => match x, ys with
  | .t (.str a), [.t (.str b)] => match Builtin.Str.occurrences a b 0 a.length 1 with
    | i :: _ => some (.int ((i : Nat) : Int))
    | [] => none
  | _, _ => none
theorem rv_sindex : RVm K γ (fun x xs H Q => ∃ a b i rest, x = .str a ∧ xs = [.str b] ∧ Builtin.Str.occurrences a b 0 a.length 1 = i :: rest ∧ Q (.int (i : Nat)) H) fSIndex := by
  intro P O F H il S ev σ x xs dx dxs d R hx hxs h Q k
  unfold fSIndex at h
  split at h
  · split at h
    · rename_i i rest ho
      cases h
      cases hxs with
      | cons a b =>
        cases b
        rw [DR.str hx, DR.str a]
        exact ⟨_, _, i, rest, rfl, rfl, ho, k _ F H (Same.refl F) R (TR.int _)⟩
    · cases h
  · cases h
end
section
variable {X : Cx} {γ : Nat → Addr} {W : WX} {k : Nat} {o a b : Expr} {mo ma mb : EM} {pos apos : Pos}
theorem me_bm {T : String} {name : Str} {id : String} {r : V → List V → Hp → VK → Prop} {ty : Nv → So → D → Bool} {f : Mf} {es : List Expr} {ms : Mm (List D)} (pa : PlainAttrs T) (slot : Slot T name id) (hty : typeOf (.builtin id) = pure (.type "method_descriptor")) (hm : MtR X id r)
    (ht : TyOk X.K γ T ty) (hr : RVm X.K γ r f) (ho : ME X γ W o mo) (h : MA X γ W (a :: es) ms) (hbase : attributeBase o name X.env (eval o X.env) = eval o X.env := by rfl) (hline : (apos.endLine == pos.line) = true := by rfl)
    (hfew : ((backTo pos (starEach (a :: es) X.env)).all (fun x => !x.1) && (backToKw pos (keywordEach [] X.env)).all (fun x => x.1.isSome) && decide ((a :: es).length + ([] : List Keyword).length + (if ([] : List Keyword).isEmpty then 0 else 1) < 30)) = true := by rfl)
    (he : starEach (a :: es) X.env = (false, eval a X.env) :: starEach es X.env := by rfl) (hpl : (backTo pos (starEach es X.env)).any (·.1) = false := by rfl) : ME X γ W (.Call (.Attribute o name apos) (a :: es) [] pos) (mMb ty f mo ms) := by
  obtain ⟨to, o1, o2⟩ := ho; obtain ⟨t, a1, a2, a3⟩ := h
  exact ⟨_, pe_bm pa slot hty hm o1 a1 hbase hfew hline he hpl, se_bm ht hr o2 a2⟩
theorem me_bm0 {T : String} {name : Str} {id : String} {r : V → List V → Hp → VK → Prop} {ty : Nv → So → D → Bool} {f : Mf} (pa : PlainAttrs T) (slot : Slot T name id) (hty : typeOf (.builtin id) = pure (.type "method_descriptor")) (hm : MtR X id r)
    (ht : TyOk X.K γ T ty) (hr : RVm X.K γ r f) (ho : ME X γ W o mo) (hbase : attributeBase o name X.env (eval o X.env) = eval o X.env := by rfl) (hline : (apos.endLine == pos.line) = true := by rfl) : ME X γ W (.Call (.Attribute o name apos) [] [] pos) (mMb ty f mo mNil) := by
  obtain ⟨to, o1, o2⟩ := ho
  exact ⟨_, pe_bm0 pa slot hty hm o1 hbase hline, se_bm0 ht hr o2⟩
/-- a list's method that changes it -/
theorem me_mut {name : Str} {id : String} {r : V → List V → Hp → VK → Prop} {f : Mu} {es : List Expr} {ms : Mm (List D)} (slot : Slot "list" name id) (hty : typeOf (.builtin id) = pure (.type "method_descriptor")) (hm : MtR X id r)
    (hr : RM X.K r f) (ho : ME X γ W o mo) (h : MA X γ W (a :: es) ms) (hbase : attributeBase o name X.env (eval o X.env) = eval o X.env := by rfl) (hline : (apos.endLine == pos.line) = true := by rfl)
    (hfew : ((backTo pos (starEach (a :: es) X.env)).all (fun x => !x.1) && (backToKw pos (keywordEach [] X.env)).all (fun x => x.1.isSome) && decide ((a :: es).length + ([] : List Keyword).length + (if ([] : List Keyword).isEmpty then 0 else 1) < 30)) = true := by rfl)
    (he : starEach (a :: es) X.env = (false, eval a X.env) :: starEach es X.env := by rfl) (hpl : (backTo pos (starEach es X.env)).any (·.1) = false := by rfl) : ME X γ W (.Call (.Attribute o name apos) (a :: es) [] pos) (mMut f mo ms) := by
  obtain ⟨to, o1, o2⟩ := ho; obtain ⟨t, a1, a2, a3⟩ := h
  exact ⟨_, pe_bm PySem.F.plainAttrs_list slot hty hm o1 a1 hbase hfew hline he hpl, se_mut o2 a2 hr⟩
theorem me_mut0 {name : Str} {id : String} {r : V → List V → Hp → VK → Prop} {f : Mu} (slot : Slot "list" name id) (hty : typeOf (.builtin id) = pure (.type "method_descriptor")) (hm : MtR X id r)
    (hr : RM X.K r f) (ho : ME X γ W o mo) (hbase : attributeBase o name X.env (eval o X.env) = eval o X.env := by rfl) (hline : (apos.endLine == pos.line) = true := by rfl) : ME X γ W (.Call (.Attribute o name apos) [] [] pos) (mMut f mo mNil) := by
  obtain ⟨to, o1, o2⟩ := ho
  exact ⟨_, pe_bm0 PySem.F.plainAttrs_list slot hty hm o1 hbase hline, se_mut0 o2 hr⟩
end
end Cl

namespace Cl
open PySem L2 RZ
/-! ## the one reading that the machine itself gives -/
def tcan (K : PySem.W.Frag) (γ : Nat → Addr) (W : WX) (m : EM) : TE := fun σ H Q => ∃ P O F il S ev r ev' S', RE K γ P O F H il S ev σ ∧ m ev S = some (r, ev', S') ∧
  ∀ O' F' H' il', Same F F' → il <+: il' → RE K γ P O' F' H' il' S' ev' σ → OutE K γ W F' H' il' σ Q r
def ttcan (K : PySem.W.Frag) (γ : Nat → Addr) (W : WX) (m : Mm Bool) : TT := fun σ H Q => ∃ P O F il S ev r ev' S', RE K γ P O F H il S ev σ ∧ m ev S = some (r, ev', S') ∧
  ∀ O' F' H' il', Same F F' → il <+: il' → RE K γ P O' F' H' il' S' ev' σ → OutT K γ W F' H' il' σ Q r
def gcan (K : PySem.W.Frag) (γ : Nat → Addr) (vs : List Nat) (g : Tg) : TG := fun v σ H Q => ∃ x ev S ev' F il P O, g x ev S = some ev' ∧ RE K γ P O F H il S ev σ ∧ IR K F il v x ∧
  ∀ σ', RE K γ P O F H il S ev' σ' → L2.wipe σ' vs = L2.wipe σ vs → Q σ' H
section
variable {K : PySem.W.Frag} {γ : Nat → Addr} {W : WX} {X : Cx}
theorem se_can {m : EM} : SE K γ W (tcan K γ W m) m := fun P O F H il S ev σ R r ev' S' hm Q k => ⟨P, O, F, il, S, ev, r, ev', S', R, hm, k⟩
theorem st_can {m : Mm Bool} : ST K γ W (ttcan K γ W m) m := fun P O F H il S ev σ R r ev' S' hm Q k => ⟨P, O, F, il, S, ev, r, ev', S', R, hm, k⟩
theorem ME.can {e : Expr} {m : EM} (h : ME X γ W e m) : PE X e (tcan X.K γ W m) := by
  obtain ⟨t, h1, h2⟩ := h
  refine ⟨fun pins s σ H Q I q => h1.run pins s σ H Q I ?_⟩
  obtain ⟨P, O, F, il, S, ev, r, ev', S', R, hm, k⟩ := q
  exact h2 P O F H il S ev σ R r ev' S' hm Q k
theorem MT.can {e : Expr} {m : Mm Bool} (h : MT X γ W e m) : PT X e (ttcan X.K γ W m) := by
  obtain ⟨t, h1, h2⟩ := h
  refine ⟨fun pins s σ H Q I q => h1.run pins s σ H Q I ?_⟩
  obtain ⟨P, O, F, il, S, ev, r, ev', S', R, hm, k⟩ := q
  exact h2 P O F H il S ev σ R r ev' S' hm Q k
/-- a target of a block, the block's own slots vs -/
def MGb (X : Cx) (γ : Nat → Addr) (vs : List Nat) (e : Expr) (g : Tg) : Prop := ∃ t, PG X e t ∧ SGw X.K γ vs t g
def MGbs (X : Cx) (γ : Nat → Addr) (vs : List Nat) (es : List Expr) (gs : List Tg) : Prop := ∃ t, PGs X es t ∧ SGsw X.K γ vs t gs
theorem MGb.can {vs : List Nat} {e : Expr} {g : Tg} (h : MGb X γ vs e g) : PG X e (gcan X.K γ vs g) := by
  obtain ⟨t, h1, h2⟩ := h
  refine ⟨fun pins s σ H v u Q I r q => h1.run pins s σ H v u Q I r ?_⟩
  obtain ⟨x, ev, S, ev', F, il, P, O, hg, R, hv, k⟩ := q
  exact h2 x ev S ev' hg v F il P O H σ R hv Q k
theorem sgw_can {vs : List Nat} {g : Tg} : SGw K γ vs (gcan K γ vs g) g := fun x ev S ev' hg v F il P O H σ R hv Q k => ⟨x, ev, S, ev', F, il, P, O, hg, R, hv, k⟩
theorem sg_can {vs : List Nat} {g : Tg} (hw : SGw K γ vs (gcan K γ vs g) g) : SG K γ (gcan K γ vs g) g := fun P O F H il S ev σ R v x ev' hv hg Q k => hw x ev S ev' hg v F il P O H σ R hv Q fun σ' R' _ => k σ' R'
def MTs (X : Cx) (γ : Nat → Addr) (W : WX) (es : List Expr) (m : Mm Bool) : Prop := PTs X es (ttcan X.K γ W m)
theorem mts_nil : MTs X γ W [] mYes := ⟨fun pins s σ H Q I q => by
  obtain ⟨P, O, F, il, S, ev, r, ev', S', R, hm, k⟩ := q
  cases hm
  exact pts_nil.run pins s σ H Q I (k O F H il (Same.refl F) (pref_rfl _) R)⟩
theorem mts_one {e : Expr} {m : Mm Bool} (h : MT X γ W e m) : MTs X γ W [e] m := pts_one h.can
variable {pos : Pos}
theorem mgb_name {vs : List Nat} (i : Nat) {x : Str} (hN : X.N.Nodup) (hi : X.N[i]? = some x := by rfl) (hx : Loc X.env.scope x := by first | exact Or.inl rfl | exact Or.inr rfl) (hf : X.fn x = true ∨ X.env.scope.names.lookup x = some .local := by first | exact .inl rfl | exact .inr rfl) (hv : i ∈ vs := by decide) :
    MGb X γ vs (.Name x pos) (gN i) := ⟨_, pg_name hN hi hx hf, sgw_name i hv⟩
theorem mgbs_nil {vs : List Nat} : MGbs X γ vs [] [] := ⟨_, pgs_nil, sgsw_nil⟩
theorem mgbs_cons {vs : List Nat} {a : Expr} {es : List Expr} {g : Tg} {gs : List Tg} (h : MGb X γ vs a g) (hr : MGbs X γ vs es gs) (hs : (assignEach (a :: es) X.env).map (·.2) = assign a X.env :: (assignEach es X.env).map (·.2) := by rfl) : MGbs X γ vs (a :: es) (g :: gs) := by
  obtain ⟨t, h1, h2⟩ := h; obtain ⟨u, h3, h4⟩ := hr
  exact ⟨_, pgs_cons h1 h3 hs, sgsw_cons h2 h4⟩
theorem mgb_tup {vs : List Nat} {es : List Expr} {j : Nat} {gs : List Tg} (hc : X.calm = true) (h : MGbs X γ vs es gs) (hn : (assignEach es X.env).length = gs.length := by rfl) (hst : (assignEach es X.env).findIdx? (·.1) = none := by rfl) : MGb X γ vs (.Tuple es j pos) (gT gs) := by
  obtain ⟨t, h1, h2⟩ := h
  exact ⟨_, pg_tup hc h1 hn hst, sgw_tup h2 rfl⟩
variable {k : Nat}
theorem CxK.blk (c : CxK X W k) {s : Shared} {H : Hp} {scope : Scope} {cenv : Env} {fp : List Addr} : CxK (X.blk s H scope cenv fp) W0 k := ⟨takes0, PassesOwn.never, c.cm, c.hr, c.gd⟩
section
variable {elt tg iter : Expr} {ifs : List Expr} {scope : Scope} {own : List (Str × Nat)} {mi : Mm Itr} {g : Tg} {mc : Mm Bool} {me : EM}
theorem ml_comp (c : CxK X W k) (own : List (Str × Nat)) (hN : X.N.Nodup) (hi : MI X γ W tg iter mi) (ok : BlkOk X.N X.env.scope scope own)
    (hg : ∀ (s : Shared) (H : Hp) (C : Addr) (cl : List (Str × Addr)) (fp : List Addr), MGb (X.blk s H scope (compEnvC scope cl C X.env) fp) γ (own.map (·.2)) tg g)
    (ht : ∀ (s : Shared) (H : Hp) (C : Addr) (cl : List (Str × Addr)) (fp : List Addr), CxK (X.blk s H scope (compEnvC scope cl C X.env) fp) W0 k → MTs (X.blk s H scope (compEnvC scope cl C X.env) fp) γ W0 ifs mc)
    (he : ∀ (s : Shared) (H : Hp) (C : Addr) (cl : List (Str × Addr)) (fp : List Addr), CxK (X.blk s H scope (compEnvC scope cl C X.env) fp) W0 k → ME (X.blk s H scope (compEnvC scope cl C X.env) fp) γ W0 elt me)
    (hs : ∀ x, foldedSetIterable iter X.env x = pure x := by intro _; rfl) : ML X γ W (.ListComp elt [⟨tg, iter, ifs, 0⟩] scope pos) (lComp mi g mc me (own.map (·.2))) := by
  obtain ⟨wi, i1, i2⟩ := hi
  exact ⟨_, pe_lc (tt := ttcan X.K γ W0 mc) c.cm hN i1 ok (fun s H C cl fp => (hg s H C cl fp).can) (fun s H C cl fp => ht s H C cl fp c.blk) (fun s H C cl fp => (he s H C cl fp c.blk).can) hs, sl_comp i2 (sg_can sgw_can) st_can se_can sgw_can⟩
/-- y = [..], y a local, in one row: the form that stores within the block -/
theorem ms_setLc {sm : SM} {i : Nat} {y : Str} {py spos : Pos} (c : CxK X W k) (own : List (Str × Nat)) (hN : X.N.Nodup) (hy : X.N[i]? = some y) (hyl : X.env.scope.names.lookup y = some .local)
    (hsw : swapsWith (.ListComp elt [⟨tg, iter, ifs, 0⟩] scope pos) (some (.Name y py)) spos.line X.env = pure true) (hi : MI X γ W tg iter mi) (ok : BlkOk X.N X.env.scope scope own)
    (hg : ∀ (s : Shared) (H : Hp) (C : Addr) (cl : List (Str × Addr)) (fp : List Addr), MGb (X.blk s H scope (compEnvC scope cl C X.env) fp) γ (own.map (·.2)) tg g)
    (ht : ∀ (s : Shared) (H : Hp) (C : Addr) (cl : List (Str × Addr)) (fp : List Addr), CxK (X.blk s H scope (compEnvC scope cl C X.env) fp) W0 k → MTs (X.blk s H scope (compEnvC scope cl C X.env) fp) γ W0 ifs mc)
    (he : ∀ (s : Shared) (H : Hp) (C : Addr) (cl : List (Str × Addr)) (fp : List Addr), CxK (X.blk s H scope (compEnvC scope cl C X.env) fp) W0 k → ME (X.blk s H scope (compEnvC scope cl C X.env) fp) γ W0 elt me)
    (hq : ∀ t, SL X.K γ W t (lComp mi g mc me (own.map (·.2))) → SS X.K γ W (tAsg t (gName i)) sm)
    (hs : ∀ x, foldedSetIterable iter X.env x = pure x := by intro _; rfl) : MS X γ W (.Assign [.Name y py] (.ListComp elt [⟨tg, iter, ifs, 0⟩] scope pos) spos) sm := by
  obtain ⟨wi, i1, i2⟩ := hi
  exact ⟨_, ps_setLc (tt := ttcan X.K γ W0 mc) c.cm hN hy hyl hsw i1 ok (fun s H C cl fp => (hg s H C cl fp).can) (fun s H C cl fp => ht s H C cl fp c.blk) (fun s H C cl fp => (he s H C cl fp c.blk).can) hs, hq _ (sl_comp i2 (sg_can sgw_can) st_can se_can sgw_can)⟩
/-- the two things that may become of it: a tree, the slot's own -/
theorem as_tree {i : Nat} {m : Mm (List D)} (t : TE) (h : SL K γ W t m) : SS K γ W (tAsg t (gName i)) (sAsg (gN i) (mTree m)) := ss_asg (se_tree h) (sg_name i)
theorem as_own {i : Nat} {m : Mm (List D)} (t : TE) (h : SL K γ W t m) : SS K γ W (tAsg t (gName i)) (sOwn i m) := ss_own h
theorem as_cell {i : Nat} {m : Mm (List D)} (t : TE) (h : SL K γ W t m) : SS K γ W (tAsg t (gName i)) (sAsg (gN i) (mCell m)) := ss_asg (se_cell h) (sg_name i)
end
end
end Cl

namespace Cl
open PySem L2 RZ
section
variable {P : Program} {w : World} {K : PySem.W.Frag} {mg : Str → Option Value} {base : Heap} {γ : Nat → Addr}
theorem fnD_ok {x qual : Str} {params : Arguments} {body : List Stmt} {scope : Scope} {dvs : List V} {kws : List (Str × V)} {f : Addr} {fd : FuncData} {N ps : List Str} {k : Nat} {b : SM} (F : FunD K x qual params body scope dvs kws f fd) (Sc : FnScope N ps scope)
    (h : ∀ (cdv : Value) (A : Around) (outer : List Env) (s : Shared) (H : Hp) (E : XK), CxK (cxOf (L2.CX P w) P w K mg base N qual scope f cdv A outer s H E) (fun cls d _ H => E cls d H) k →
      MB (cxOf (L2.CX P w) P w K mg base N qual scope f cdv A outer s H E) γ (fun cls d _ H => E cls d H) body b) :
    FnG P w K mg base (L2.CX P w) (k + 1) f fd ps (spc K γ ps.length (runF ps.length N.length b)) := by
  refine fng_of F Sc (fun vs H Q E q => q.1) (fun cdv A outer s H vs Q E gd hr q => ?_)
  obtain ⟨t, h1, h2⟩ := h cdv A outer s H E ⟨takes_of rfl rfl rfl rfl, passes_of rfl, rfl, hr, gd⟩
  exact ⟨t, h1, body_ok (ps := ps) h2 rfl q⟩
/-- what stands behind the top -/
structure Tp (fa : List He.Fa) (fn : List He.DefD) (xl : PySem.W.Frag → List Bool) (K : PySem.W.Frag) (mg : Str → Option Value) : Prop where
  c : He.SaysD fa fn K
  x : (xl K).all (fun b => b) = true
  ex : ∃ h : Heap, K.In h ∧ h.Ns mainGlobals mg
/-- a hook with more facts -/
def saysM (fa : List He.Fa) (fn : List He.DefD) (xl : PySem.W.Frag → List Bool) (K : PySem.W.Frag) : Prop := (He.obsD fa fn K, (xl K).all fun b => b) = (He.valD fn, true)
def obsM (n : Nat) (fa : List He.Fa) (fn : List He.DefD) (xl : PySem.W.Frag → List Bool) (g : Addr → Option Obj) : He.AlD × Bool := (He.obsD fa fn (He.frG g (He.asD g n)), (xl (He.frG g (He.asD g n))).all fun b => b)
def hookM (n : Nat) (fa : List He.Fa) (fn : List He.DefD) (xl : PySem.W.Frag → List Bool) : PySem.W.Hook where
  α := He.AlD × Bool
  obs := fun s => obsM n fa fn xl s.heap.get?
  val := fun _ => (He.valD fn, true)
  says := fun _ h => ∃ K : PySem.W.Frag, K.In h ∧ saysM fa fn xl K
  of := fun _ _ e => ⟨_, He.frG_in, e⟩
  keeps := fun _ _ _ ⟨K, hK, c⟩ k => ⟨K, PySem.W.Frag.In.keeps hK k, c⟩
theorem obsM_eq {n : Nat} {fa : List He.Fa} {fn : List He.DefD} {xl : PySem.W.Frag → List Bool} {g : Addr → Option Obj} {s : Shared} (h : ∀ a, g a = s.heap.get? a) : obsM n fa fn xl g = (hookM n fa fn xl).obs s := by
  have e : g = s.heap.get? := funext h
  rw [e] <;> rfl
variable {fa : List He.Fa} {fn : List He.DefD} {xl : PySem.W.Frag → List Bool}
theorem Tp.xt (T : Tp fa fn xl K mg) (i : Nat) {b : Bool} (h : (xl K)[i]? = some b := by rfl) : b = true := List.all_eq_true.mp T.x b (List.mem_of_getElem? h)
theorem Tp.glo (T : Tp fa fn xl K mg) (i : Nat) {x : Str} (h : fa[i]? = some (.glo x) := by rfl) : mg x = some (.ref (He.ga K x)) := let ⟨_, X, G⟩ := T.ex; He.glo_ok X G (T.c.fact i h)
theorem Tp.free (T : Tp fa fn xl K mg) (i : Nat) {x : Str} (h : fa[i]? = some (.free x) := by rfl) : mg x = none := let ⟨_, X, G⟩ := T.ex; He.free_ok X G (T.c.fact i h)
theorem Tp.int (T : Tp fa fn xl K mg) (i : Nat) {x : Str} {z : Int} (h : fa[i]? = some (.int x z) := by rfl) : ∃ t, mg x = some (.int z t) := let ⟨_, X, G⟩ := T.ex; He.int_ok X G (T.c.fact i h)
theorem Tp.str (T : Tp fa fn xl K mg) (i : Nat) {x z : Str} (h : fa[i]? = some (.str x z) := by rfl) : ∃ t, mg x = some (.str z t) := let ⟨_, X, G⟩ := T.ex; He.str_ok X G (T.c.fact i h)
noncomputable def Tp.fd (T : Tp fa fn xl K mg) (i : Nat) {d : He.DefD} (h : fn[i]? = some d) : FuncData := (T.c.def_ i h).choose
theorem Tp.fun (T : Tp fa fn xl K mg) (i : Nat) {d : He.DefD} (h : fn[i]? = some d) : FunD K d.name d.qual d.params d.body d.scope (d.dvs K) (d.kws K) (He.fAd K d.at_) (T.fd i h) := (T.c.def_ i h).choose_spec
end
section
variable {X : Cx} {γ : Nat → Addr} {W : WX} {pos : Pos}
theorem me_gint {x : Str} {i : Int} (h : ∃ t, X.mg x = some (.int i t)) (hg : Gl X x := by rfl) (hd : (x == ("__debug__" : Str)) = false := by decide) : ME X γ W (.Name x pos) (mC (.int i)) := by
  obtain ⟨t, h⟩ := h
  exact me_glob (v := .int i) h ⟨t, rfl⟩ (fun _ => .int i) hg hd
theorem me_gstr {x z : Str} (h : ∃ t, X.mg x = some (.str z t)) (hg : Gl X x := by rfl) (hd : (x == ("__debug__" : Str)) = false := by decide) : ME X γ W (.Name x pos) (mC (.str z)) := by
  obtain ⟨t, h⟩ := h
  exact me_glob (v := .str z) h ⟨t, rfl⟩ (fun _ => .str z) hg hd
end
/-! ## the end: the law's own promise -/
theorem law_sp {K : PySem.W.Frag} {γ : Nat → Addr} {c : Fn} {n : Nat} (h : ∀ ns : List Int, ns.length ≤ n → ∃ S', c [.r 0] [.frl (ns.map D.int)] = some (.ok (.bool true), S')) :
    ∀ (H : Hp) (a : Addr) (ns : List Int), ns.length ≤ n → Only H → SqL K H a (ns.map V.int) → spc K γ 1 c [.ref a] H (fun v _ => v = .bl true) fun _ _ _ => False := by
  intro H a ns hl hO hS
  obtain ⟨S', hc⟩ := h ns hl
  have hi : DRs K H [a] [] (ns.map V.int) (ns.map D.int) := by
    clear hS hc hl
    induction ns with
    | nil => exact .nil
    | cons i r ih => exact .cons (TR.int i) ih
  have R : RE K γ H0 H0 H H [a] [.frl (ns.map D.int)] [] [] := by
    refine ⟨Same.refl H, fun b o z => (by cases z), fun b o z => (by cases z), fun i j b c1 c2 h1 h2 h3 h4 m1 m2 => ?_, rfl, fun m b c1 h1 h2 => ?_, rfl, fun i e z => (by cases z), fun i j e e' v v' _ z => (by cases z)⟩
    · cases i with
      | zero => simp at h3; subst h3; cases m1
      | succ i => simp at h3
    · cases m with
      | zero => simp at h1 h2; subst h1 h2; exact ⟨_, hS, hi⟩
      | succ m => simp at h1
  exact ⟨rfl, H0, H, [a], _, [.r 0], _, S', R, .cons ⟨a, rfl, rfl⟩ .nil, hc, fun F' H' il' sf pf R' v hv => DR.bool hv⟩
theorem cx_no {P : Program} {w : World} (H : Hp) (s : Shared) (e : Value) (s' : Shared) (h : L2.CX P w [] H s (fun _ _ _ => False) e s') : False := by
  obtain ⟨_, _, _, _, _, _, _, _, _, _, _, _, z⟩ := h
  exact z
theorem fn_quiet {P : Program} {w : World} {K : PySem.W.Frag} {mg : Str → Option Value} {base : Heap} {γ : Nat → Addr} {k n : Nat} {f : Addr} {fd : FuncData} {ps : List Str} {c : Fn} (F : FnG P w K mg base (L2.CX P w) k f fd ps (spc K γ n c)) :
    FnG P w K mg base CX0 k f fd ps (fun vs H Q _ => spc K γ n c vs H Q fun _ _ _ => False) :=
  ⟨fun vs H Q _ q => F.len vs H Q _ q, fun A outer s H args us vs Q E gd hr he hb hv q => codeAny_mono (F.run A outer s H args us vs Q (fun _ _ _ => False) gd hr he hb hv q) fun r s' hq => by
    cases r with
    | error e =>
      obtain ⟨_, _, _, _, _, _, _, _, _, _, _, _, z⟩ := hq
      exact z.elim
    | ok fl => cases fl <;> exact hq⟩
/-! ## the end, by such a promise -/
section
open PySem.Spec PyProof.Rows
variable {P : Program} {w : World} {K : PySem.W.Frag} {mg mb : Str → Option Value} {CX : CXT} {k : Nat} {fa a : Addr} {fd : FuncData} {x : Str} {sp : Sp} {s₁ : Shared} {vs : List Value} {ns : List Int}
/-- the script alone may be tracked -/
theorem law_coreG (KX : K.In s₁.heap) (hns : s₁.heap.Ns mainGlobals mg) (hb : s₁.heap.Ns builtinsNs mb) (hbb : ∀ x : Str, x ≠ "__name__" → mb x = bootBuiltins x) (hlim : s₁.heap.NoLimit) (hg : s₁.gens = #[])
    (ha : s₁.heap.get? a = some { cls := .type "list", data := .seq vs.toArray }) (room : Room k callerA) (G : ∀ base : Heap, K.In base → base.Ns mainGlobals mg → FnG P w K mg base CX k fa fd [x] sp) (hbind : ∀ (s : Shared) (u : Value), BindsTo s fd ⟨[u], []⟩ [(x, u)])
    (hCX : ∀ H e s', CX [] H s₁ (fun _ _ _ => False) e s' → False) (H : Hp) (hO : Only H) (hsp : sp [.ref a] H (fun v _ => v = .bl true) fun _ _ _ => False) (hok : HOk P w H s₁.heap) (only : ∀ b, H b ≠ none → b = a) (hK : H a ≠ none → K.lookup a = none) :
    codeAny (model P w) callerA (.call (.ref fa) ⟨[.ref a], []⟩) (fun r s' => r = .ok (.ret (.bool true)) ∧ OldK s₁.heap s'.heap ∧ s'.os = s₁.os ∧ AllBare s'.gens) s₁ := by
  -- a dict isn't tracked, nor is what K has
  have free : ∀ (b : Addr) (o : Obj) (es : Array DictEntry) (ep : Nat), s₁.heap.get? b = some o → o.data = .dict es ep → H b = none := by
    intro b o es ep ho hd
    apply Classical.byContradiction
    intro hne
    have hba := only b hne
    rw [hba, ha] at ho
    cases ho
    exact nomatch (hd : Data.seq vs.toArray _ = Data.dict es ep)
  have space : ∀ (b : Addr) (m : Str → Option Value), s₁.heap.Ns b m → (hidT s₁.heap H).Ns b m := by
    rintro b m ⟨o, es, ep, z1, z2, z3⟩
    exact ⟨o, es, ep, hidT_get z1 (free b o es ep z1 z2), z2, z3⟩
  have kb : K.In (hidT s₁.heap H) := by
    intro b o hbo
    refine hidT_get (KX b o hbo) (Classical.byContradiction fun hne => ?_)
    have hba := only b hne
    subst hba
    rw [hK hne] at hbo
    cases hbo
  have md : Mod K mg (hidT s₁.heap H) := by
    obtain ⟨mc, z1, z2⟩ := hlim
    exact ⟨kb, space _ _ hns, ⟨mb, space _ _ hb, hbb⟩, ⟨mc, space _ _ z1, z2⟩⟩
  have env : Env0 P w K mg (hidT s₁.heap H) callerA [] s₁ H := ⟨rfl, md, fun _ _ z => of_hidT z, Nat.le_of_eq (hidT_size _ _), trivial, fun b z => (List.not_mem_nil (show b ∈ ([] : List Addr) from z)).elim, hok, .of_eq hg⟩
  have go := (G _ kb (space _ _ hns)).run callerA [] s₁ H ⟨[.ref a], []⟩ [.ref a] [.ref a] _ _ rfl room env (hbind s₁ (.ref a)) (.cons rfl .nil) hsp
  refine codeAny_mono go fun res s' post => ?_
  rcases res with er | fl
  · exact (hCX H er s' post).elim
  · cases fl with
    | ret u =>
      obtain ⟨v, H', h1, h2, h3, h4, h5, h6⟩ := post
      cases (h6 : v = .bl true)
      cases (h5 : u = Value.bool true)
      refine ⟨rfl, OldK.of_keep fun b o hbo => ?_, h1, h2⟩
      rcases hO b with z | ⟨ob, ys, z⟩
      · exact h3.keep b o hbo z (fun y => (List.not_mem_nil (show b ∈ ([] : List Addr) from y)).elim) (by simp)
      · obtain ⟨z1, _⟩ := hok b _ z
        obtain ⟨z2, _⟩ := h4 b _ (h3.frzs b ob _ z)
        rw [hbo] at z1
        cases z1
        exact z2
    | next => exact (post : False).elim
    | brk => exact (post : False).elim
    | cont => exact (post : False).elim
theorem law_callG (KX : K.In s₁.heap) (hns : s₁.heap.Ns mainGlobals mg) (hb : s₁.heap.Ns builtinsNs mb) (hbb : ∀ x : Str, x ≠ "__name__" → mb x = bootBuiltins x) (hlim : s₁.heap.NoLimit) (hg : s₁.gens = #[])
    (ha : s₁.heap.get? a = some { cls := .type "list", data := .seq vs.toArray }) (hi : IntsAre vs ns) (hl : ns.length ≤ sizeLine) (room : Room k callerA) (G : ∀ base : Heap, K.In base → base.Ns mainGlobals mg → FnG P w K mg base CX k fa fd [x] sp) (hbind : ∀ (s : Shared) (u : Value), BindsTo s fd ⟨[u], []⟩ [(x, u)])
    (hsp : ∀ H : Hp, Only H → SqL K H a (ns.map V.int) → sp [.ref a] H (fun v _ => v = .bl true) fun _ _ _ => False) (hCX : ∀ H e s', CX [] H s₁ (fun _ _ _ => False) e s' → False) :
    codeAny (model P w) callerA (.call (.ref fa) ⟨[.ref a], []⟩) (fun r s' => r = .ok (.ret (.bool true)) ∧ OldK s₁.heap s'.heap ∧ s'.os = s₁.os ∧ AllBare s'.gens) s₁ := by
  have core := law_coreG (P := P) (w := w) (sp := sp) KX hns hb hbb hlim hg ha room G hbind hCX
  have rel := vals_ints hi
  rcases hk : K.lookup a with _ | o
  · -- a list of its own
    let ob : Obj := { cls := .type "list", data := .seq vs.toArray }
    let T : Hp := fun b => if b = a then some (.frz ob (.lst (ns.map V.int))) else none
    have Ta : T a = some (.frz ob (.lst (ns.map V.int))) := if_pos rfl
    have Tn : ∀ b, b ≠ a → T b = none := fun b hb => if_neg hb
    have hO : Only T := fun b => by
      by_cases e : b = a
      · subst e; exact .inr ⟨_, _, Ta⟩
      · exact .inl (Tn b e)
    refine core T hO (hsp T hO (.inl (.inr ⟨ob, Ta⟩))) (fun b u z => ?_) (fun b z => Classical.byContradiction fun e => z (Tn b e)) fun _ => hk
    by_cases e : b = a
    · subst e
      rw [Ta] at z
      cases z
      exact ⟨ha, by rw [List.length_map]; exact hl, vs, _, rel, ha⟩
    · rw [Tn b e] at z; cases z
  · -- one of the text's own
    have z := KX a o hk
    rw [ha] at z
    cases z
    have hO : Only (fun _ => none) := fun _ => .inl rfl
    refine core (fun _ => none) hO (hsp _ hO (.inr ⟨_, vs.toArray, _, hk, rfl, rfl, rfl, ?_, by simpa using rel⟩)) (fun b u z => nomatch (show (none : Option HO) = some u from z)) (fun b z => absurd rfl z) fun z => absurd rfl z
    rw [List.size_toArray, hi.length]; exact hl
end
open PySem.Spec PyProof.Rows in
theorem walk_ofG {l : PySem.W.OpenLaw} {n k : Nat} {q : Program} {loose : List Str} {XP : (Str → Option Value) → Heap → Prop} {YP : World → Heap → Prop} {d : DefRec} {CX : CXT} {x : Str} (hn : l.most = some n) (hn2 : n ≤ sizeLine) (hdf : d.params.defaults = []) (room : Room k callerA)
    (F : ∀ (w : World) (mg : Str → Option Value) (fa : Addr) (h : Heap), YP w h → h.Ns mainGlobals mg → mg d.name = some (.ref fa) → ∃ (K : PySem.W.Frag) (fd : FuncData) (sp : Sp), K.In h ∧ (∀ (s : Shared) (u : Value), BindsTo s fd ⟨[u], []⟩ [(x, u)]) ∧
      (∀ (H : Hp) (a : Addr) (ns : List Int), ns.length ≤ n → Only H → SqL K H a (ns.map V.int) → sp [.ref a] H (fun v _ => v = .bl true) fun _ _ _ => False) ∧ ∀ base : Heap, K.In base → base.Ns mainGlobals mg → FnG l.prog w K mg base CX k fa fd [x] sp)
    (hCX : ∀ (H : Hp) (s : Shared) (e : Value) (s' : Shared), CX [] H s (fun _ _ _ => False) e s' → False) : PySem.W.WalkO q loose XP YP l.row.toRowW d [] (fun f vs => PySem.call f vs) :=
  Att.attach_call hn hdf fun w s₀ s₁ mg mb fa o pm cd doc a vs ns Gd Y ho hd hcd hmg hobj hints hlen hgen => by
    obtain ⟨K, fd, sp, KX, z1, z2, z3⟩ := F w mg fa _ Y Gd.T.g hmg
    exact law_callG KX Gd.T.g Gd.T.b Gd.T.builtins Gd.T.nolimit hgen hobj hints (Nat.le_trans hlen hn2) room z3 z1 (fun H hO hS => z2 H a ns hlen hO hS) fun H e s' => hCX H s₁ e s'
end Cl

namespace Cl
open PySem L2 RZ
/-! ## how the machine is run by hand: one rule a form -/
section
variable {ev e1 e2 e3 : Nv} {S s1 s2 s3 : So} {a b : EM} {x y d : D}
theorem x_c {d : PyData} : mC d ev S = some (.ok (.t d), ev, S) := rfl
theorem x_var {i : Nat} (h : ev[i]? = some (some (.d x))) : mVar i ev S = some (.ok x, ev, S) := by unfold mVar; rw [h]
theorem x_varL {i : Nat} {ds : List D} (h : ev[i]? = some (some (.ol ds))) : mVar i ev S = some (.ok (.b i), ev, S) := by unfold mVar; rw [h]
theorem x_varD {i : Nat} {ds : List (Key × D)} (h : ev[i]? = some (some (.od ds))) : mVar i ev S = some (.ok (.b i), ev, S) := by unfold mVar; rw [h]
theorem x_op {f : F2} (ha : a ev S = some (.ok x, e1, s1)) (hb : b e1 s1 = some (.ok y, e2, s2)) (hf : f e2 s2 x y = some d) : mOp f a b ev S = some (.ok d, e2, s2) := by unfold mOp; rw [ha, bnd_ok, hb, bnd_ok, hf]; rfl
theorem x_un {f : F1} (ha : a ev S = some (.ok x, e1, s1)) (hf : f e1 s1 x = some d) : mUn f a ev S = some (.ok d, e1, s1) := by unfold mUn; rw [ha, bnd_ok, hf]; rfl
theorem x_test {k : Bool} (ha : a ev S = some (.ok (.bool k), e1, s1)) : mTest a ev S = some (.ok k, e1, s1) := by unfold mTest; rw [ha]; rfl
theorem x_tru {f : Nv → So → D → Option Bool} {k : Bool} (ha : a ev S = some (.ok x, e1, s1)) (hf : f e1 s1 x = some k) : mTru f a ev S = some (.ok k, e1, s1) := by unfold mTru; rw [ha, bnd_ok, hf]; rfl
theorem x_not {m : Mm Bool} {k : Bool} (h : m ev S = some (.ok k, e1, s1)) : mNot m ev S = some (.ok (!k), e1, s1) := by unfold mNot; rw [h]; rfl
theorem x_andT {m n : Mm Bool} {k : Bool} (h : m ev S = some (.ok true, e1, s1)) (h2 : n e1 s1 = some (.ok k, e2, s2)) : mAnd m n ev S = some (.ok k, e2, s2) := by unfold mAnd; rw [h, bnd_ok, if_pos rfl, h2]
theorem x_andF {m n : Mm Bool} (h : m ev S = some (.ok false, e1, s1)) : mAnd m n ev S = some (.ok false, e1, s1) := by unfold mAnd; rw [h, bnd_ok, if_neg Bool.false_ne_true]
theorem x_orF {m n : Mm Bool} {k : Bool} (h : m ev S = some (.ok false, e1, s1)) (h2 : n e1 s1 = some (.ok k, e2, s2)) : mOr m n ev S = some (.ok k, e2, s2) := by unfold mOr; rw [h, bnd_ok, if_neg Bool.false_ne_true, h2]
theorem x_orT {m n : Mm Bool} (h : m ev S = some (.ok true, e1, s1)) : mOr m n ev S = some (.ok true, e1, s1) := by unfold mOr; rw [h, bnd_ok, if_pos rfl]
/-- and, or where both sides leave all as it is: the answer by both -/
theorem x_and2 {m n : Mm Bool} {k l : Bool} (h : m ev S = some (.ok k, ev, S)) (h2 : k = true → n ev S = some (.ok l, ev, S)) : mAnd m n ev S = some (.ok (k && l), ev, S) := by
  cases k
  · exact x_andF h
  · exact x_andT h (h2 rfl)
theorem x_or2 {m n : Mm Bool} {k l : Bool} (h : m ev S = some (.ok k, ev, S)) (h2 : k = false → n ev S = some (.ok l, ev, S)) : mOr m n ev S = some (.ok (k || l), ev, S) := by
  cases k
  · exact x_orF h (h2 rfl)
  · exact x_orT h
theorem x_andVT (h : a ev S = some (.ok (.bool true), e1, s1)) (h2 : b e1 s1 = some (.ok x, e2, s2)) : mAndV a b ev S = some (.ok x, e2, s2) := by unfold mAndV; rw [h, bnd_ok]; exact h2
theorem x_andVF (h : a ev S = some (.ok (.bool false), e1, s1)) : mAndV a b ev S = some (.ok (.bool false), e1, s1) := by unfold mAndV; rw [h, bnd_ok]; rfl
theorem x_andV2 {k l : Bool} (h : a ev S = some (.ok (.bool k), ev, S)) (h2 : k = true → b ev S = some (.ok (.bool l), ev, S)) : mAndV a b ev S = some (.ok (.bool (k && l)), ev, S) := by
  cases k
  · exact x_andVF h
  · exact x_andVT h (h2 rfl)
theorem x_orVT (h : a ev S = some (.ok (.bool true), e1, s1)) : mOrV a b ev S = some (.ok (.bool true), e1, s1) := by unfold mOrV; rw [h, bnd_ok]; rfl
theorem x_orVF (h : a ev S = some (.ok (.bool false), e1, s1)) (h2 : b e1 s1 = some (.ok x, e2, s2)) : mOrV a b ev S = some (.ok x, e2, s2) := by unfold mOrV; rw [h, bnd_ok]; exact h2
theorem x_orV2 {k l : Bool} (h : a ev S = some (.ok (.bool k), ev, S)) (h2 : k = false → b ev S = some (.ok (.bool l), ev, S)) : mOrV a b ev S = some (.ok (.bool (k || l)), ev, S) := by
  cases k
  · exact x_orVF h (h2 rfl)
  · exact x_orVT h
theorem x_notV {k : Bool} (h : a ev S = some (.ok (.bool k), e1, s1)) : mNotV a ev S = some (.ok (.bool (!k)), e1, s1) := by unfold mNotV; rw [h, bnd_ok]
theorem x_ifT {c : Mm Bool} (h : c ev S = some (.ok true, e1, s1)) (h2 : a e1 s1 = some (.ok x, e2, s2)) : mIf c a b ev S = some (.ok x, e2, s2) := by unfold mIf; rw [h, bnd_ok, if_pos rfl, h2]
theorem x_ifF {c : Mm Bool} (h : c ev S = some (.ok false, e1, s1)) (h2 : b e1 s1 = some (.ok x, e2, s2)) : mIf c a b ev S = some (.ok x, e2, s2) := by unfold mIf; rw [h, bnd_ok, if_neg Bool.false_ne_true, h2]
theorem x_if2 {c : Mm Bool} {k : Bool} (h : c ev S = some (.ok k, ev, S)) (h1 : a ev S = some (.ok x, ev, S)) (h2 : b ev S = some (.ok y, ev, S)) : mIf c a b ev S = some (.ok (if k then x else y), ev, S) := by
  cases k
  · exact x_ifF h h2
  · exact x_ifT h h1
theorem x_nil : mNil ev S = some (.ok [], ev, S) := rfl
theorem x_cons {r : Mm (List D)} {xs : List D} (ha : a ev S = some (.ok x, e1, s1)) (hr : r e1 s1 = some (.ok xs, e2, s2)) : mCons a r ev S = some (.ok (x :: xs), e2, s2) := by unfold mCons; rw [ha, bnd_ok, hr, bnd_ok]
theorem escs_t (ts : List PyData) : escs (ts.map .t) ev S = some (.ok (ts.map .t), ev, S) := by
  induction ts with
  | nil => rfl
  | cons t ts ih => rw [List.map_cons, escs_cons, esc_t, bnd_ok, ih, bnd_ok]
/-- arguments go out: hb by rfl where they are told one by one -/
theorem x_esc {m : Mm (List D)} {xs ys : List D} (ha : m ev S = some (.ok xs, e1, s1)) (hb : escs xs e1 s1 = some (.ok ys, e2, s2)) : mEsc m ev S = some (.ok ys, e2, s2) := by unfold mEsc; rw [ha, bnd_ok, hb]
theorem x_tup {m : Mm (List D)} {xs : List D} {ts : List PyData} (ha : mEsc m ev S = some (.ok xs, e1, s1)) (hz : xs.length ≤ sizeLine) (ht : allT xs = some ts) : mTup m ev S = some (.ok (.t (.tuple ts)), e1, s1) := by unfold mTup; rw [ha, bnd_ok, if_pos hz, ht]
theorem x_tupR {m : Mm (List D)} {xs : List D} (ha : mEsc m ev S = some (.ok xs, e1, s1)) (hz : xs.length ≤ sizeLine) (ht : allT xs = none) : mTup m ev S = some (.ok (.r s1.length), e1, s1 ++ [.tup xs]) := by unfold mTup; rw [ha, bnd_ok, if_pos hz, ht]
theorem x_disp {m : Mm (List D)} {xs : List D} (ha : mEsc m ev S = some (.ok xs, e1, s1)) (hz : xs.length ≤ sizeLine) : lDisp m ev S = some (.ok xs, e1, s1) := by unfold lDisp; rw [ha, bnd_ok, if_pos hz]
theorem x_tree {m : Mm (List D)} {xs : List D} {ts : List PyData} (ha : m ev S = some (.ok xs, e1, s1)) (ht : allT xs = some ts) : mTree m ev S = some (.ok (.t (.list ts)), e1, s1) := by unfold mTree; rw [ha, bnd_ok, ht]
theorem x_cell {m : Mm (List D)} {xs : List D} (ha : m ev S = some (.ok xs, e1, s1)) : mCell m ev S = some (.ok (.r s1.length), e1, s1 ++ [.lst xs]) := by unfold mCell; rw [ha, bnd_ok]
theorem x_call {g : Fn} {m : Mm (List D)} {xs : List D} {r : Rs D} (ha : mEsc m ev S = some (.ok xs, e1, s1)) (hg : g xs s1 = some (r, s2)) : mCall g m ev S = some (r, e1, s2) := by unfold mCall; rw [ha, bnd_ok, hg]
theorem x_B {f : Bf} {m : Mm (List D)} {xs : List D} (ha : m ev S = some (.ok xs, e1, s1)) (hf : f e1 s1 xs = some d) : mB f m ev S = some (.ok d, e1, s1) := by unfold mB; rw [ha, bnd_ok, hf]; rfl
theorem x_mut {f : Mu} {o : EM} {m : Mm (List D)} {l : D} {xs0 xs ys zs : List D} (ho : o ev S = some (.ok l, e1, s1)) (h0 : ownL e1 s1 l = some xs0) (ha : mEsc m e1 s1 = some (.ok ys, e2, s2)) (h1 : ownL e2 s2 l = some xs) (hf : f xs ys = some (d, zs)) (hp : putL l zs e2 s2 = some (e3, s3)) :
    mMut f o m ev S = some (.ok d, e3, s3) := by
  unfold mMut
  simp only [ho, bnd_ok, h0, ha, h1, hf, hp]
theorem x_mb {ty : Nv → So → D → Bool} {f : Mf} {o : EM} {m : Mm (List D)} {ys : List D} (ho : o ev S = some (.ok x, e1, s1)) (ht : ty e1 s1 x = true) (ha : m e1 s1 = some (.ok ys, e2, s2)) (hf : f e2 s2 x ys = some d) : mMb ty f o m ev S = some (.ok d, e2, s2) := by
  unfold mMb
  rw [ho, bnd_ok, if_pos ht, ha, bnd_ok, hf]
  rfl
theorem x_noP : mNoP ev S = some (.ok none, ev, S) := rfl
theorem x_part {i : Int} (h : a ev S = some (.ok (.int i), e1, s1)) : mPart a ev S = some (.ok (some i), e1, s1) := by unfold mPart; rw [h, bnd_ok]
theorem x_sl {lo hi : Mm (Option Int)} {l h : Option Int} (ha : a ev S = some (.ok x, e1, s1)) (hl : lo e1 s1 = some (.ok l, e2, s2)) (hh : hi e2 s2 = some (.ok h, e3, s3)) (hf : dSl e3 s3 x l h = some d) : mSl a lo hi ev S = some (.ok d, e3, s3) := by
  unfold mSl
  rw [ha, bnd_ok, hl, bnd_ok, hh, bnd_ok, hf]
  rfl
theorem v_app {xs : List D} {y : D} (h : xs.length < sizeLine) : muApp xs [y] = some (.non, xs ++ [y]) := if_pos h
theorem rng_get {lo : Int} {n i : Nat} {z : Im} (h : (rngIts lo n)[i]? = some z) : i < n ∧ z = .one (.int (lo + (i : Int))) := by
  unfold rngIts at h
  rw [List.getElem?_map] at h
  obtain ⟨j, q1, rfl⟩ := Option.map_eq_some_iff.mp h
  have hlt : i < n := by
    have := (List.getElem?_eq_some_iff.mp q1).1
    simpa using this
  rw [List.getElem?_range hlt] at q1
  cases q1
  exact ⟨hlt, rfl⟩
@[simp] theorem rngIts_len (lo : Int) (n : Nat) : (rngIts lo n).length = n := by simp [rngIts]
/-! operators that want a bound -/
theorem v_mul {i j : Int} (h : CMul i j) : dMul ev S (.int i) (.int j) = some (.int (i * j)) := if_pos h
theorem v_div {i j : Int} (h : CDiv i j) : dDiv ev S (.int i) (.int j) = some (.int (i / j)) := if_pos h
theorem v_mod {i j : Int} (h : 0 < j) : dMod ev S (.int i) (.int j) = some (.int (i % j)) := if_pos h
theorem v_pow {i j : Int} (h : CPow i j) : dPow ev S (.int i) (.int j) = some (.int (i ^ j.toNat)) := if_pos h
theorem v_shl {i j : Int} (h : CPow i j) : dShl ev S (.int i) (.int j) = some (.int (i * 2 ^ j.toNat)) := if_pos h
theorem v_shr {i j : Int} (h : 0 ≤ j) : dShr ev S (.int i) (.int j) = some (.int (i / 2 ^ j.toNat)) := if_pos h
theorem eqP_of {p q : PyData} (h1 : SeqAt.shaped p = true) (h2 : SeqAt.shaped q = true) : eqP p q = some (PyData.eqv p q) := by
  unfold eqP
  split
  · simp [PyData.eqv]
  · rw [if_pos ⟨h1, h2⟩]
theorem sh_int (i : Int) : SeqAt.shaped (.int i) = true := rfl
theorem sh_bool (x : Bool) : SeqAt.shaped (.bool x) = true := rfl
theorem sh_non : SeqAt.shaped .none = true := rfl
theorem v_eqI {i j : Int} : dEq ev S (.int i) (.int j) = some (.bool (i == j)) := rfl
theorem v_neI {i j : Int} : dNe ev S (.int i) (.int j) = some (.bool (!(i == j))) := rfl
theorem v_eqS {i j : Str} : dEq ev S (.str i) (.str j) = some (.bool (i == j)) := rfl
theorem v_neS {i j : Str} : dNe ev S (.str i) (.str j) = some (.bool (!(i == j))) := rfl
theorem v_eq {p q : PyData} (h1 : SeqAt.shaped p = true) (h2 : SeqAt.shaped q = true) : dEq ev S (.t p) (.t q) = some (.bool (PyData.eqv p q)) := by
  show ((eqP p q).map D.bool) = _
  rw [eqP_of h1 h2]
  rfl
theorem v_ne {p q : PyData} (h1 : SeqAt.shaped p = true) (h2 : SeqAt.shaped q = true) : dNe ev S (.t p) (.t q) = some (.bool (!PyData.eqv p q)) := by
  show ((eqP p q).map fun b => D.bool (!b)) = _
  rw [eqP_of h1 h2]
  rfl
end
/-! statements -/
section
variable {ev e1 e2 e3 : Nv} {S s1 s2 s3 : So} {a b : EM} {x y d : D} {m n : SM} {f : Fl}
theorem y_seq {r : Fl × Nv × So} (h : m ev S = some (.nx, e1, s1)) (h2 : n e1 s1 = some r) : sSeq m n ev S = some r := by unfold sSeq; rw [h, thenS_nx, h2]
theorem y_seqR (h : m ev S = some (.rt d, e1, s1)) : sSeq m n ev S = some (.rt d, e1, s1) := by unfold sSeq; rw [h, thenS_rt]
theorem y_seqB (h : m ev S = some (.bk, e1, s1)) : sSeq m n ev S = some (.bk, e1, s1) := by unfold sSeq; rw [h, thenS_bk]
theorem y_seqC (h : m ev S = some (.ct, e1, s1)) : sSeq m n ev S = some (.ct, e1, s1) := by unfold sSeq; rw [h, thenS_ct]
theorem y_seqX {x : Xn} (h : m ev S = some (.ex x, e1, s1)) : sSeq m n ev S = some (.ex x, e1, s1) := by unfold sSeq; rw [h, thenS_ex]
theorem y_next : sNext ev S = some (.nx, ev, S) := rfl
theorem y_ret (h : a ev S = some (.ok x, e1, s1)) (h2 : esc x e1 s1 = some (.ok d, e2, s2)) : sRet a ev S = some (.rt d, e2, s2) := by unfold sRet; rw [h, bndS_ok, h2, bndS_ok]
theorem y_expr (h : a ev S = some (.ok x, e1, s1)) : sExpr a ev S = some (.nx, e1, s1) := by unfold sExpr; rw [h, bndS_ok]
theorem y_asg {g : Tg} (h : a ev S = some (.ok x, e1, s1)) (h2 : esc x e1 s1 = some (.ok d, e2, s2)) (h3 : g (.one d) e2 s2 = some e3) : sAsg g a ev S = some (.nx, e3, s2) := by unfold sAsg; rw [h, bndS_ok, h2, bndS_ok, h3]; rfl
theorem y_own {i : Nat} {l : Mm (List D)} {ds : List D} (h : l ev S = some (.ok ds, e1, s1)) : sOwn i l ev S = some (.nx, e1.set i (some (.ol ds)), s1) := by unfold sOwn; rw [h, bndS_ok]
theorem y_ifT {c : Mm Bool} {r : Fl × Nv × So} (h : c ev S = some (.ok true, e1, s1)) (h2 : m e1 s1 = some r) : sIf c m n ev S = some r := by unfold sIf; rw [h, bndS_ok, if_pos rfl, h2]
theorem y_ifF {c : Mm Bool} {r : Fl × Nv × So} (h : c ev S = some (.ok false, e1, s1)) (h2 : n e1 s1 = some r) : sIf c m n ev S = some r := by unfold sIf; rw [h, bndS_ok, if_neg Bool.false_ne_true, h2]
/-- a test that is open: both ways -/
theorem y_if2 {c : Mm Bool} {k : Bool} {r : Fl × Nv × So} (h : c ev S = some (.ok k, e1, s1)) (h2 : k = true → m e1 s1 = some r) (h3 : k = false → n e1 s1 = some r) : sIf c m n ev S = some r := by
  cases k
  · exact y_ifF h (h3 rfl)
  · exact y_ifT h (h2 rfl)
theorem y_for {it : Mm Itr} {g : Tg} {I : Itr} {r : Fl × Nv × So} (h : it ev S = some (.ok I, e1, s1)) (h2 : forL g m I.chk I.its e1 s1 = some r) : sFor it g m ev S = some r := by unfold sFor; rw [h, bndS_ok, h2]
theorem y_setL {e o i : EM} {l : D} {j : Int} {xs : List D} {p : Nat} {e4 e5 : Nv} {s4 s5 : So} (h : e ev S = some (.ok x, e1, s1)) (h2 : esc x e1 s1 = some (.ok d, e2, s2)) (ho : o e2 s2 = some (.ok l, e3, s3)) (hi : i e3 s3 = some (.ok (.int j), e4, s4)) (hl : ownL e4 s4 l = some xs) (hn : ixN xs.length j = some p)
    (hp : putL l (xs.set p d) e4 s4 = some (e5, s5)) : sSetL e o i ev S = some (.nx, e5, s5) := by
  unfold sSetL
  simp only [h, bndS_ok, h2, ho, hi, hl, hn, hp]
/-- a def -/
theorem y_run {n N : Nat} {b : SM} {ds : List D} (hl : ds.length = n) (h : b (ds.map (fun d => some (En.d d)) ++ List.replicate (N - n) none) S = some (.rt d, e1, s1)) : runF n N b ds S = some (.ok d, s1) := by unfold runF; rw [if_pos hl, h]
theorem y_runN {n N : Nat} {b : SM} {ds : List D} (hl : ds.length = n) (h : b (ds.map (fun d => some (En.d d)) ++ List.replicate (N - n) none) S = some (.nx, e1, s1)) : runF n N b ds S = some (.ok .non, s1) := by unfold runF; rw [if_pos hl, h]
theorem y_runX {n N : Nat} {b : SM} {ds : List D} {x : Xn} (hl : ds.length = n) (h : b (ds.map (fun d => some (En.d d)) ++ List.replicate (N - n) none) S = some (.ex x, e1, s1)) : runF n N b ds S = some (.ex x, s1) := by unfold runF; rw [if_pos hl, h]
/-! ### loops -/
/-- every turn goes on: the state by the turn -/
theorem loop_all {g : Tg} {b : SM} {chk : So → Prop} : ∀ (its : List Im) (E : Nat → Nv) (T : Nat → So) (hc : ∀ i, i ≤ its.length → chk (T i))
    (hs : ∀ i x, its[i]? = some x → ∃ e1, g x (E i) (T i) = some e1 ∧ (b e1 (T i) = some (.nx, E (i + 1), T (i + 1)) ∨ b e1 (T i) = some (.ct, E (i + 1), T (i + 1)))), forL g b chk its (E 0) (T 0) = some (.nx, E its.length, T its.length)
  | [], E, T, hc, hs => by unfold forL; rw [if_pos (hc 0 (Nat.zero_le _))]; rfl
  | x :: r, E, T, hc, hs => by
    unfold forL
    rw [if_pos (hc 0 (Nat.zero_le _))]
    obtain ⟨e1, h1, h2⟩ := hs 0 x rfl
    rw [h1]
    have ih := loop_all r (fun i => E (i + 1)) (fun i => T (i + 1)) (fun i hi => hc (i + 1) (Nat.succ_le_succ hi)) fun i y hy => hs (i + 1) y (by simpa using hy)
    dsimp only
    rcases h2 with h2 | h2 <;> (rw [h2]; exact ih)
/-- every turn goes on: the state by what was taken -/
theorem loop_pre {α : Type} {g : Tg} {b : SM} {chk : So → Prop} (f : α → Im) (E : List α → Nv) (T : List α → So) (xs : List α) (hc : ∀ pre post, xs = pre ++ post → chk (T pre))
    (hs : ∀ pre x post, xs = pre ++ x :: post → ∃ e1, g (f x) (E pre) (T pre) = some e1 ∧ (b e1 (T pre) = some (.nx, E (pre ++ [x]), T (pre ++ [x])) ∨ b e1 (T pre) = some (.ct, E (pre ++ [x]), T (pre ++ [x])))) :
    forL g b chk (xs.map f) (E []) (T []) = some (.nx, E xs, T xs) := by
  have key : ∀ (post pre : List α), xs = pre ++ post → forL g b chk (post.map f) (E pre) (T pre) = some (.nx, E xs, T xs) := by
    intro post
    induction post with
    | nil =>
      intro pre h
      rw [List.append_nil] at h
      subst h
      rw [List.map_nil]
      unfold forL
      rw [if_pos (hc _ [] (by simp))]
    | cons x post ih =>
      intro pre h
      rw [List.map_cons]
      unfold forL
      rw [if_pos (hc pre _ h)]
      obtain ⟨e1, h1, h2⟩ := hs pre x post h
      rw [h1]
      have ih := ih (pre ++ [x]) (by rw [h]; simp)
      dsimp only
      rcases h2 with h2 | h2 <;> (rw [h2]; exact ih)
  exact key xs [] rfl
theorem v_rev {ev : Nv} {S : So} {ts : List PyData} : dRev ev S (.t (.list ts)) = some (.t (.list ts.reverse)) := by
  show treeL (ts.map D.t).reverse = _
  rw [← List.map_reverse, treeL_map]
theorem zip_map (ts us : List PyData) : zipIts (ts.map .t) (us.map .t) = (ts.zip us).map fun p => .tup [.t p.1, .t p.2] := by
  unfold zipIts
  rw [List.zip_map, List.map_map]
  rfl
theorem ones_map (ts : List PyData) : ones (ts.map .t) = ts.map fun t => .one (.t t) := by
  unfold ones
  rw [List.map_map]
  rfl
/-- the last thing taken, as a slot has it -/
def lastS {α : Type} (f : α → D) (pre : List α) : Option En := pre.getLast?.map fun x => .d (f x)
@[simp] theorem lastS_nil {α : Type} (f : α → D) : lastS f [] = none := rfl
@[simp] theorem lastS_snoc {α : Type} (f : α → D) (pre : List α) (x : α) : lastS f (pre ++ [x]) = some (.d (f x)) := by simp [lastS]
/-- a loop by an invariant of the state that is reached: it either goes through, or leaves by return -/
theorem loop_inv {g : Tg} {b : SM} {chk : So → Prop} (Pv : List Im → Nv → So → Prop) (R : Fl × Nv × So → Prop) (h0 : ∀ ev S, Pv [] ev S → R (.nx, ev, S)) (hc : ∀ its ev S, Pv its ev S → chk S)
    (hs : ∀ x its ev S, Pv (x :: its) ev S → ∃ e1 f e2 s2, g x ev S = some e1 ∧ b e1 S = some (f, e2, s2) ∧ match f with
      | .nx => Pv its e2 s2
      | .ct => Pv its e2 s2
      | .bk => R (.nx, e2, s2)
      | .rt d => R (.rt d, e2, s2)
      | .ex x => R (.ex x, e2, s2)) : ∀ (its : List Im) (ev : Nv) (S : So), Pv its ev S → ∃ r, forL g b chk its ev S = some r ∧ R r
  | [], ev, S, hp => ⟨_, by unfold forL; rw [if_pos (hc _ _ _ hp)], h0 ev S hp⟩
  | x :: its, ev, S, hp => by
    obtain ⟨e1, f, e2, s2, h1, h2, h3⟩ := hs x its ev S hp
    unfold forL
    rw [if_pos (hc _ _ _ hp), h1]
    dsimp only
    rw [h2]
    cases f with
    | nx => exact loop_inv Pv R h0 hc hs its e2 s2 h3
    | ct => exact loop_inv Pv R h0 hc hs its e2 s2 h3
    | bk => exact ⟨_, rfl, h3⟩
    | rt d => exact ⟨_, rfl, h3⟩
    | ex x => exact ⟨_, rfl, h3⟩
/-- a while by an invariant and a measure -/
theorem while_inv {c : Mm Bool} {b : SM} (Pv : Nat → Nv → So → Prop) (R : Fl × Nv × So → Prop)
    (hs : ∀ m ev S, Pv m ev S → ∃ k e1 s1, c ev S = some (.ok k, e1, s1) ∧ (k = false → R (.nx, e1, s1)) ∧ (k = true → ∃ f e2 s2, b e1 s1 = some (f, e2, s2) ∧ match f with
      | .nx => ∃ m', m' < m ∧ Pv m' e2 s2
      | .ct => ∃ m', m' < m ∧ Pv m' e2 s2
      | .bk => R (.nx, e2, s2)
      | .rt d => R (.rt d, e2, s2)
      | .ex x => R (.ex x, e2, s2))) : ∀ (m : Nat) (ev : Nv) (S : So), Pv m ev S → ∃ r, sWhile c b ev S = some r ∧ R r := by
  have key : ∀ (m : Nat) (ev : Nv) (S : So), Pv m ev S → ∃ n r, whl c b n ev S = some r ∧ R r := by
    intro m
    induction m using Nat.strongRecOn with
    | _ m ih =>
      intro ev S hp
      obtain ⟨k, e1, s1, hc, h0, h1⟩ := hs m ev S hp
      cases k with
      | false =>
        refine ⟨1, _, ?_, h0 rfl⟩
        unfold whl
        rw [hc, bndS_ok, if_neg Bool.false_ne_true]
      | true =>
        obtain ⟨f, e2, s2, hb, h2⟩ := h1 rfl
        have un : ∀ n, whl c b (n + 1) ev S = match b e1 s1 with
            | some (.nx, e, s) => whl c b n e s
            | some (.ct, e, s) => whl c b n e s
            | some (.bk, e, s) => some (.nx, e, s)
            | o => o := fun n => by
          show bndS (c ev S) _ = _
          rw [hc, bndS_ok, if_pos rfl]
          try rfl
        cases f with
        | nx =>
          obtain ⟨m', hm, hp'⟩ := h2
          obtain ⟨n, r, hw, hr⟩ := ih m' hm e2 s2 hp'
          exact ⟨n + 1, r, by rw [un, hb]; exact hw, hr⟩
        | ct =>
          obtain ⟨m', hm, hp'⟩ := h2
          obtain ⟨n, r, hw, hr⟩ := ih m' hm e2 s2 hp'
          exact ⟨n + 1, r, by rw [un, hb]; exact hw, hr⟩
        | bk => exact ⟨1, _, by rw [un, hb], h2⟩
        | rt d => exact ⟨1, _, by rw [un, hb], h2⟩
        | ex x => exact ⟨1, _, by rw [un, hb], h2⟩
  intro m ev S hp
  obtain ⟨n, r, hw, hr⟩ := key m ev S hp
  exact ⟨r, sWhile_of hw, hr⟩
/-- walks -/
theorem x_rng {ms : Mm (List D)} {j : Int} (h : ms ev S = some (.ok [.int j], e1, s1)) (hj : -(2 ^ 62) ≤ j ∧ j < 2 ^ 62) : mRng ms ev S = some (.ok ⟨rngIts 0 j.toNat, fun _ => True⟩, e1, s1) := by
  unfold mRng
  rw [h, bnd_ok]
  exact if_pos hj
theorem x_rng2 {ms : Mm (List D)} {i j : Int} (h : ms ev S = some (.ok [.int i, .int j], e1, s1)) (hj : -(2 ^ 62) ≤ i ∧ i < 2 ^ 62 ∧ -(2 ^ 62) ≤ j ∧ j < 2 ^ 62) : mRng ms ev S = some (.ok ⟨rngIts i (j - i).toNat, fun _ => True⟩, e1, s1) := by
  unfold mRng
  rw [h, bnd_ok]
  exact if_pos hj
theorem x_iterL {ts : List PyData} (h : a ev S = some (.ok (.t (.list ts)), e1, s1)) : mIter a ev S = some (.ok ⟨ones (ts.map .t), fun S => viewL [] S (.t (.list ts)) = some (ts.map .t)⟩, e1, s1) := by
  unfold mIter
  rw [h, bnd_ok]
  rfl
theorem x_iterT {ts : List PyData} (h : a ev S = some (.ok (.t (.tuple ts)), e1, s1)) : mIter a ev S = some (.ok ⟨ones (ts.map .t), fun _ => True⟩, e1, s1) := by
  unfold mIter
  rw [h, bnd_ok]
  rfl
theorem x_iterS {z : Str} (h : a ev S = some (.ok (.str z), e1, s1)) : mIter a ev S = some (.ok ⟨ones (z.cps.toList.map fun c => .str ⟨#[c]⟩), fun _ => True⟩, e1, s1) := by
  unfold mIter
  rw [h, bnd_ok]
  rfl
theorem x_zipL {ms : Mm (List D)} {ts us : List PyData} (h : mEsc ms ev S = some (.ok [.t (.list ts), .t (.list us)], e1, s1)) :
    mZip ms ev S = some (.ok ⟨zipIts (ts.map .t) (us.map .t), fun S => viewL [] S (.t (.list ts)) = some (ts.map .t) ∧ viewL [] S (.t (.list us)) = some (us.map .t)⟩, e1, s1) := by
  unfold mZip
  rw [h, bnd_ok]
  rfl
theorem x_enumL {ms : Mm (List D)} {ts : List PyData} (h : mEsc ms ev S = some (.ok [.t (.list ts)], e1, s1)) : mEnum ms ev S = some (.ok ⟨enumIts 0 (ts.map .t), fun S => viewL [] S (.t (.list ts)) = some (ts.map .t)⟩, e1, s1) := by
  unfold mEnum
  rw [h, bnd_ok]
  rfl
end
end Cl

namespace Cl
open PySem L2
/-! ## comprehensions by hand -/
theorem comp_run {α : Type} {g : Tg} {c : Mm Bool} {e : EM} {vs : List Nat} {chk : So → Prop} (f : α → Im) (p : α → Bool) (h : α → D) (ev : Nv) (S : So) (hc : chk S) : ∀ (xs : List α)
    (step : ∀ x ∈ xs, ∃ e1 e2, g (f x) ev S = some e1 ∧ c e1 S = some (.ok (p x), e2, S) ∧ (p x = true → ∃ y e3 e4, e e2 S = some (.ok y, e3, S) ∧ esc y e3 S = some (.ok (h x), e4, S) ∧ wipeN e4 vs = ev) ∧ (p x = false → wipeN e2 vs = ev))
    (acc : List D) (hl : acc.length + xs.length ≤ sizeLine), compL g c e vs chk (xs.map f) acc ev S = some (.ok (acc ++ (xs.filter p).map h), ev, S)
  | [], _, acc, _ => by
    simp only [List.map_nil, compL, List.filter_nil, List.append_nil]
    rw [if_pos hc]
  | x :: xs, step, acc, hl => by
    have hl2 : acc.length + xs.length + 1 ≤ sizeLine := by simp only [List.length_cons] at hl; omega
    obtain ⟨e1, e2, h1, h2, h3, h4⟩ := step x (by simp)
    have again := fun acc hl => comp_run f p h ev S hc xs (fun y hy => step y (by simp [hy])) acc hl
    rw [List.map_cons, compL, if_pos hc, h1]
    dsimp only
    rw [h2]
    cases hp : p x with
    | false =>
      dsimp only
      rw [h4 hp, again acc (by omega), List.filter_cons_of_neg (by simp [hp])]
    | true =>
      obtain ⟨y, e3, e4, q1, q2, q3⟩ := h3 hp
      dsimp only
      rw [q1]
      dsimp only
      rw [q2]
      dsimp only
      rw [if_pos (by omega), q3, again (acc ++ [h x]) (by simp; omega), List.filter_cons_of_pos hp]
      simp
section
variable {ev e1 e2 : Nv} {S s1 s2 : So}
theorem x_comp {it : Mm Itr} {g : Tg} {c : Mm Bool} {e : EM} {vs : List Nat} {I : Itr} {acc : List D} (hi : it ev S = some (.ok I, e1, s1)) (hc : compL g c e vs I.chk I.its [] (wipeN e1 vs) s1 = some (.ok acc, e2, s2)) :
    lComp it g c e vs ev S = some (.ok acc, restN e1 e2 vs, s2) := by
  unfold lComp
  rw [hi, bnd_ok, hc]
end
/-! ## a block that gives a value, whatever it leaves in its slots -/
def Rt (m : SM) (ev : Nv) (S : So) (d : D) (s : So) : Prop := ∃ e, m ev S = some (.rt d, e, s)
section
variable {ev e1 e2 : Nv} {S s1 s2 : So} {m n : SM} {d x : D} {c : Mm Bool} {a : EM}
theorem t_run {n N : Nat} {b : SM} {ds : List D} (hl : ds.length = n) (h : Rt b (ds.map (fun d => some (En.d d)) ++ List.replicate (N - n) none) S d s1) : runF n N b ds S = some (.ok d, s1) := by
  obtain ⟨e, h⟩ := h
  exact y_run hl h
theorem t_seq (h : m ev S = some (.nx, e1, s1)) (h2 : Rt n e1 s1 d s2) : Rt (sSeq m n) ev S d s2 := by
  obtain ⟨e, h2⟩ := h2
  exact ⟨e, y_seq h h2⟩
theorem t_seqR (h : Rt m ev S d s1) : Rt (sSeq m n) ev S d s1 := by
  obtain ⟨e, h⟩ := h
  exact ⟨e, y_seqR h⟩
theorem t_ifT (h : c ev S = some (.ok true, e1, s1)) (h2 : Rt m e1 s1 d s2) : Rt (sIf c m n) ev S d s2 := by
  obtain ⟨e, h2⟩ := h2
  exact ⟨e, y_ifT h h2⟩
theorem t_ifF (h : c ev S = some (.ok false, e1, s1)) (h2 : Rt n e1 s1 d s2) : Rt (sIf c m n) ev S d s2 := by
  obtain ⟨e, h2⟩ := h2
  exact ⟨e, y_ifF h h2⟩
theorem t_of (h : m ev S = some (.rt d, e1, s1)) : Rt m ev S d s1 := ⟨e1, h⟩
theorem v_mulL {ts : List PyData} {k : Int} (h0 : 0 ≤ k) (h1 : k < 2 ^ 63) (h2 : ts.length * k.toNat ≤ sizeLine) : dMul ev S (.t (.list ts)) (.int k) = some (.t (.list (List.replicate k.toNat ts).flatten)) := by
  have e : (List.replicate k.toNat (ts.map D.t)).flatten = ((List.replicate k.toNat ts).flatten).map D.t := by rw [List.map_flatten, List.map_replicate]
  have q : dMul ev S (.t (.list ts)) (.int k) = if -(2 ^ 63) ≤ k ∧ k < 2 ^ 63 ∧ (ts.map D.t).length * k.toNat ≤ sizeLine then treeL (List.replicate k.toNat (ts.map D.t)).flatten else none := rfl
  rw [q, if_pos ⟨by omega, h1, by rw [List.length_map]; exact h2⟩, e, treeL_map]
theorem v_catL {ts us : List PyData} (h : ts.length + us.length ≤ sizeLine) : dAdd ev S (.t (.list ts)) (.t (.list us)) = some (.t (.list (ts ++ us))) := by
  have q : dAdd ev S (.t (.list ts)) (.t (.list us)) = if (ts.map D.t).length + (us.map D.t).length ≤ sizeLine then treeL (ts.map D.t ++ us.map D.t) else none := rfl
  rw [q, if_pos (by simp only [List.length_map]; exact h), ← List.map_append, treeL_map]
theorem v_slL {ts : List PyData} {lo hi : Option Int} : dSl ev S (.t (.list ts)) lo hi = some (.t (.list (cut ts lo hi))) := by
  have q : dSl ev S (.t (.list ts)) lo hi = treeL (cut (ts.map D.t) lo hi) := rfl
  rw [q, cut_map, treeL_map]
theorem eqF {i j : Int} (h : i ≠ j) : dEq ev S (.int i) (.int j) = some (.bool false) := by rw [v_eqI]; simp [h]
theorem eqT {i j : Int} (h : i = j) : dEq ev S (.int i) (.int j) = some (.bool true) := by rw [v_eqI]; simp [h]
theorem neF {i j : Int} (h : i = j) : dNe ev S (.int i) (.int j) = some (.bool false) := by rw [v_neI]; simp [h]
theorem neT {i j : Int} (h : i ≠ j) : dNe ev S (.int i) (.int j) = some (.bool true) := by rw [v_neI]; simp [h]
theorem ltT {i j : Int} (h : i < j) : dLt ev S (.int i) (.int j) = some (.bool true) := by
  show some (D.bool (decide (i < j))) = _
  simp [h]
theorem ltF {i j : Int} (h : ¬ i < j) : dLt ev S (.int i) (.int j) = some (.bool false) := by
  show some (D.bool (decide (i < j))) = _
  simp [h]
theorem x_notF {m : Mm Bool} (h : m ev S = some (.ok true, e1, s1)) : mNot m ev S = some (.ok false, e1, s1) := x_not h
theorem x_notT {m : Mm Bool} (h : m ev S = some (.ok false, e1, s1)) : mNot m ev S = some (.ok true, e1, s1) := x_not h
theorem ones_ints (ns : List Int) : ones ((ns.map PyData.int).map D.t) = ns.map fun z => Im.one (.int z) := by
  rw [ones_map, List.map_map]
  rfl
/-- the script, cut -/
theorem cut_all {ns : List Int} {k : Nat} (h : ns.length ≤ k) : cut (ns.map D.int) none (some (k : Int)) = (ns.map PyData.int).map D.t := by
  unfold cut
  rw [HT.sIx_nat, HT.sIx_none, List.length_map, Nat.min_eq_right h, List.drop_zero, Nat.sub_zero, List.take_of_length_le (by simp), List.map_map]
  rfl
theorem v_script {ns : List Int} {k : Nat} (h : ns.length ≤ k) : dSl ev [.frl (ns.map D.int)] (.r 0) none (some (k : Int)) = some (.t (.list (ns.map PyData.int))) := by
  have q : dSl ev [.frl (ns.map D.int)] (.r 0) none (some (k : Int)) = treeL (cut (ns.map D.int) none (some (k : Int))) := rfl
  rw [q, cut_all h, treeL_map]
end
end Cl

namespace Cl
open PySem L2
/-! ## the machine by what it ends with -/
/-- a mark that keeps simp out of what it marks -/
def Tag {α : Sort _} (_ : α) : Type := Unit
def tg {α : Sort _} {a : α} : Tag a := ()
/-- it ends, with what Q says -/
def Wp {ρ : Type} (o : Option (ρ × Nv × So)) (Q : ρ → Nv → So → Prop) (_ : Tag Q := tg) : Prop := ∃ r e s, o = some (r, e, s) ∧ Q r e s
def bK {α β : Type} (m : Om α) (k : α → Nv → So → Om β) (_ : Tag k := tg) : Om β := bnd m k
def bS {α : Type} (m : Om α) (k : α → Nv → So → Os) (_ : Tag k := tg) : Os := bndS m k
def tS (m : Os) (k : SM) (_ : Tag k := tg) : Os := thenS m k
section
variable {ρ : Type} {Q : ρ → Nv → So → Prop}
theorem wp_some (r : ρ) (e : Nv) (s : So) : Wp (some (r, e, s)) Q ↔ Q r e s := ⟨fun ⟨_, _, _, h, q⟩ => by cases h; exact q, fun q => ⟨r, e, s, rfl, q⟩⟩
theorem wp_none : Wp (none : Option (ρ × Nv × So)) Q ↔ False := ⟨fun ⟨_, _, _, h, _⟩ => (by cases h), fun h => h.elim⟩
theorem wp_ite {c : Prop} [Decidable c] {a b : Option (ρ × Nv × So)} : Wp (if c then a else b) Q ↔ if c then Wp a Q else Wp b Q := by split <;> rfl
theorem wp_mono {o : Option (ρ × Nv × So)} {Q' : ρ → Nv → So → Prop} (h : Wp o Q) (k : ∀ r e s, Q r e s → Q' r e s) : Wp o Q' := let ⟨r, e, s, h1, h2⟩ := h; ⟨r, e, s, h1, k r e s h2⟩
theorem wp_of {o : Option (ρ × Nv × So)} {r : ρ} {e : Nv} {s : So} (h : o = some (r, e, s)) (q : Q r e s) : Wp o Q := ⟨r, e, s, h, q⟩
end
section
variable {α β : Type}
theorem bnd_ite {c : Prop} [Decidable c] {a b : Om α} {k : α → Nv → So → Om β} : bK (if c then a else b) k = if c then bK a k else bK b k := by split <;> rfl
theorem bndS_ite {c : Prop} [Decidable c] {a b : Om α} {k : α → Nv → So → Os} : bS (if c then a else b) k = if c then bS a k else bS b k := by split <;> rfl
theorem thenS_ite {c : Prop} [Decidable c] {a b : Os} {k : SM} : tS (if c then a else b) k = if c then tS a k else tS b k := by split <;> rfl
theorem ans_ite {c : Prop} [Decidable c] {a b : Option α} {e : Nv} {s : So} : ans (if c then a else b) e s = if c then ans a e s else ans b e s := by split <;> rfl
/-- one thing behind the other -/
theorem wp_bnd {m : Om α} {k : α → Nv → So → Om β} {Q : Rs β → Nv → So → Prop} : Wp (bK m k) Q ↔ Wp m fun r e s => match r with
    | .ok a => Wp (k a e s) Q
    | .ex x => Q (.ex x) e s := by
  constructor
  · rintro ⟨r, e, s, h, q⟩
    rcases bnd_eq h with ⟨x, h1, rfl⟩ | ⟨a, e1, s1, h1, h2⟩
    · exact ⟨_, _, _, h1, q⟩
    · exact ⟨_, _, _, h1, _, _, _, h2, q⟩
  · rintro ⟨r, e, s, h, q⟩
    cases r with
    | ok a =>
      obtain ⟨r2, e2, s2, h2, q2⟩ := q
      exact ⟨r2, e2, s2, by unfold bK; rw [h]; exact h2, q2⟩
    | ex x => exact ⟨_, _, _, by unfold bK; rw [h]; rfl, q⟩
theorem wp_bndS {m : Om α} {k : α → Nv → So → Os} {Q : Fl → Nv → So → Prop} : Wp (bS m k) Q ↔ Wp m fun r e s => match r with
    | .ok a => Wp (k a e s) Q
    | .ex x => Q (.ex x) e s := by
  constructor
  · rintro ⟨r, e, s, h, q⟩
    rcases bndS_eq h with ⟨x, h1, rfl⟩ | ⟨a, e1, s1, h1, h2⟩
    · exact ⟨_, _, _, h1, q⟩
    · exact ⟨_, _, _, h1, _, _, _, h2, q⟩
  · rintro ⟨r, e, s, h, q⟩
    cases r with
    | ok a =>
      obtain ⟨r2, e2, s2, h2, q2⟩ := q
      exact ⟨r2, e2, s2, by unfold bS; rw [h]; exact h2, q2⟩
    | ex x => exact ⟨_, _, _, by unfold bS; rw [h]; rfl, q⟩
theorem wp_thenS {m : Os} {k : SM} {Q : Fl → Nv → So → Prop} : Wp (tS m k) Q ↔ Wp m fun f e s => match f with
    | .nx => Wp (k e s) Q
    | f => Q f e s := by
  unfold tS
  constructor
  · rintro ⟨r, e, s, h, q⟩
    cases m with
    | none => cases h
    | some o =>
      obtain ⟨f, e1, s1⟩ := o
      refine ⟨f, e1, s1, rfl, ?_⟩
      cases f <;> first | (cases h; exact q) | exact ⟨r, e, s, h, q⟩
  · rintro ⟨f, e, s, rfl, q⟩
    cases f with
    | nx => exact q
    | _ => exact ⟨_, _, _, rfl, q⟩
end
/-- a call's answer -/
def callR (o : Option (Rs D × So)) (e : Nv) : Om D := match o with
  | some (r, S') => some (r, e, S')
  | none => none
theorem callR_some (r : Rs D) (s : So) (e : Nv) : callR (some (r, s)) e = some (r, e, s) := rfl
theorem mCall_eq (c : Fn) (a : Mm (List D)) (ev : Nv) (S : So) : mCall c a ev S = bnd (mEsc a ev S) fun xs ev S => callR (c xs S) ev := rfl
/-- a call ends, with what Q says -/
def Wc (o : Option (Rs D × So)) (Q : Rs D → So → Prop) (_ : Tag Q := tg) : Prop := ∃ r s, o = some (r, s) ∧ Q r s
theorem wc_run {n N : Nat} {b : SM} {ds : List D} {S : So} {Q : Rs D → So → Prop} (hl : ds.length = n) (h : Wp (b (ds.map (fun d => some (En.d d)) ++ List.replicate (N - n) none) S) fun f _ s => match f with
    | .rt d => Q (.ok d) s
    | .nx => Q (.ok .non) s
    | .ex x => Q (.ex x) s
    | _ => False) : Wc (runF n N b ds S) Q := by
  obtain ⟨f, e, s, h1, h2⟩ := h
  unfold runF
  rw [if_pos hl, h1]
  cases f with
  | rt d => exact ⟨_, _, rfl, h2⟩
  | nx => exact ⟨_, _, rfl, h2⟩
  | ex x => exact ⟨_, _, rfl, h2⟩
  | bk => exact h2.elim
  | ct => exact h2.elim
/-- a def that gives one value and leaves the cells -/
theorem run_eq {n N : Nat} {b : SM} {ds : List D} {S S' : So} {r : Rs D} (hl : ds.length = n) (h : Wp (b (ds.map (fun d => some (En.d d)) ++ List.replicate (N - n) none) S) fun f _ s => match f with
    | .rt d => r = .ok d ∧ s = S'
    | .nx => r = .ok .non ∧ s = S'
    | .ex x => r = .ex x ∧ s = S'
    | _ => False) : runF n N b ds S = some (r, S') := by
  obtain ⟨r', s', h1, h2, h3⟩ := wc_run (Q := fun r' s => r' = r ∧ s = S') hl (wp_mono h fun f e s q => by cases f <;> first | exact ⟨q.1.symm, q.2⟩ | exact q)
  rw [h1, h2, h3]
theorem wc_eq {o : Option (Rs D × So)} {Q : Rs D → So → Prop} (h : Wc o Q) : ∃ r s, o = some (r, s) ∧ Q r s := h
theorem wp_callR {o : Option (Rs D × So)} {e : Nv} {Q : Rs D → Nv → So → Prop} : Wp (callR o e) Q ↔ Wc o fun r s => Q r e s := by
  constructor
  · rintro ⟨r, e', s, h, q⟩
    cases o with
    | none => cases h
    | some p => obtain ⟨r', s'⟩ := p; cases h; exact ⟨_, _, rfl, q⟩
  · rintro ⟨r, s, rfl, q⟩
    exact ⟨_, _, _, rfl, q⟩
/-! ### loops -/
/-- a for by an invariant: of what was taken and what is left -/
theorem wp_for {α : Type} {g : Tg} {b : SM} {chk : So → Prop} {Q : Fl → Nv → So → Prop} (f : α → Im) (xs : List α) (Pv : List α → List α → Nv → So → Prop) {ev : Nv} {S : So} (h0 : Pv [] xs ev S) (hend : ∀ ev S, Pv xs [] ev S → Q .nx ev S)
    (hc : ∀ pre post ev S, xs = pre ++ post → Pv pre post ev S → chk S)
    (hs : ∀ pre x post ev S, xs = pre ++ x :: post → Pv pre (x :: post) ev S → ∃ e1, g (f x) ev S = some e1 ∧ Wp (b e1 S) fun fl e s => match fl with
      | .nx => Pv (pre ++ [x]) post e s
      | .ct => Pv (pre ++ [x]) post e s
      | .bk => Q .nx e s
      | .rt d => Q (.rt d) e s
      | .ex x => Q (.ex x) e s) : Wp (forL g b chk (xs.map f) ev S) Q := by
  have key : ∀ (post pre : List α) (ev : Nv) (S : So), xs = pre ++ post → Pv pre post ev S → Wp (forL g b chk (post.map f) ev S) Q := by
    intro post
    induction post with
    | nil =>
      intro pre ev S e h
      rw [List.append_nil] at e
      subst e
      rw [List.map_nil]
      unfold forL
      rw [if_pos (hc xs [] ev S (by simp) h)]
      exact (wp_some _ _ _).mpr (hend ev S h)
    | cons x post ih =>
      intro pre ev S e h
      rw [List.map_cons]
      unfold forL
      rw [if_pos (hc pre _ ev S e h)]
      obtain ⟨e1, h1, fl, e2, s2, h2, h3⟩ := hs pre x post ev S e h
      rw [h1]
      dsimp only
      rw [h2]
      cases fl with
      | nx => exact ih (pre ++ [x]) e2 s2 (by rw [e]; simp) h3
      | ct => exact ih (pre ++ [x]) e2 s2 (by rw [e]; simp) h3
      | bk => exact ⟨_, _, _, rfl, h3⟩
      | rt d => exact ⟨_, _, _, rfl, h3⟩
      | ex x => exact ⟨_, _, _, rfl, h3⟩
  exact key xs [] ev S rfl h0
theorem wp_while {c : Mm Bool} {b : SM} {Q : Fl → Nv → So → Prop} (Pv : Nat → Nv → So → Prop) {ev : Nv} {S : So} {m : Nat} (h0 : Pv m ev S)
    (hs : ∀ m ev S, Pv m ev S → Wp (c ev S) fun r e1 s1 => match r with
      | .ok false => Q .nx e1 s1
      | .ok true => Wp (b e1 s1) fun fl e s => match fl with
        | .nx => ∃ m', m' < m ∧ Pv m' e s
        | .ct => ∃ m', m' < m ∧ Pv m' e s
        | .bk => Q .nx e s
        | .rt d => Q (.rt d) e s
        | .ex x => Q (.ex x) e s
      | .ex x => False) : Wp (sWhile c b ev S) Q := by
  obtain ⟨⟨f, e, s⟩, h1, h2⟩ := while_inv (c := c) (b := b) Pv (fun r => Q r.1 r.2.1 r.2.2) (by
    intro m ev S hp
    obtain ⟨r, e1, s1, h1, h2⟩ := hs m ev S hp
    cases r with
    | ex x => exact h2.elim
    | ok k =>
      refine ⟨k, e1, s1, h1, fun z => ?_, fun z => ?_⟩
      · subst z; exact h2
      · subst z
        obtain ⟨fl, e, s, h3, h4⟩ := h2
        exact ⟨fl, e, s, h3, by cases fl <;> exact h4⟩) m ev S h0
  exact ⟨f, e, s, h1, h2⟩
end Cl

namespace Cl
open PySem L2 RZ
/-! ## chains -/
def mChain (f g : F2) (a b c : EM) : EM := fun ev S => bnd (a ev S) fun x ev S => bnd (b ev S) fun y ev S => match f ev S x y with
  | some (.t (.bool k)) => if k = true then bnd (c ev S) fun z ev S => ans (g ev S y z) ev S else some (.ok (.t (.bool false)), ev, S)
  | _ => none
section
variable {K : PySem.W.Frag} {γ : Nat → Addr} {W : WX}
theorem se_chain {ta tb tc : TE} {ma mb mc : EM} {r r' : R2} {f g : F2} (ha : SE K γ W ta ma) (hb : SE K γ W tb mb) (hc : SE K γ W tc mc) (hr : RV2 K γ r f) (hr' : RV2 K γ r' g) : SE K γ W (tChain r r' ta tb tc) (mChain f g ma mb mc) := by
  intro P O F H il S ev σ R rr ev' S' hm Q k
  rcases bnd_eq hm with ⟨x, q, rfl⟩ | ⟨dx, e1, s1, q, hm⟩
  · exact ha P O F H il S ev σ R _ _ _ q _ fun O1 F1 H1 il1 sf pf R1 => k O1 F1 H1 il1 sf pf R1
  · refine ha P O F H il S ev σ R _ _ _ q _ fun O1 F1 H1 il1 sf pf R1 x hx => ?_
    rcases bnd_eq hm with ⟨z, q', rfl⟩ | ⟨dy, e2, s2, q', hm⟩
    · exact hb P O1 F1 H1 il1 s1 e1 σ R1 _ _ _ q' _ fun O2 F2 H2 il2 sf2 pf2 R2 => k O2 F2 H2 il2 (sf.trans sf2) (pf.trans pf2) R2
    · refine hb P O1 F1 H1 il1 s1 e1 σ R1 _ _ _ q' _ fun O2 F2 H2 il2 sf2 pf2 R2 y hy => ?_
      split at hm
      · rename_i kk hf
        refine hr P O2 F2 H2 il2 _ _ σ x y dx dy _ R2 (DR.mono sf2 pf2 hx) hy hf _ fun v F3 H3 sf3 R3 hv => ?_
        refine ⟨kk, DR.bool hv, ?_⟩
        split at hm
        · rename_i hk
          rw [if_pos hk]
          rcases bnd_eq hm with ⟨z, q3, rfl⟩ | ⟨dz, e3, s3, q3, hm⟩
          · exact hc P O2 F3 H3 il2 s2 e2 σ R3 _ _ _ q3 _ fun O4 F4 H4 il4 sf4 pf4 R4 => k O4 F4 H4 il4 (((sf.trans sf2).trans sf3).trans sf4) ((pf.trans pf2).trans pf4) R4
          · refine hc P O2 F3 H3 il2 s2 e2 σ R3 _ _ _ q3 _ fun O4 F4 H4 il4 sf4 pf4 R4 z hz => ?_
            obtain ⟨d, q4, rfl, rfl, rfl⟩ := ans_eq hm
            exact hr' P O4 F4 H4 il4 _ _ σ y z dy dz d R4 (DR.mono sf4 pf4 (DR.mono sf3 (pref_rfl _) hy)) hz q4 Q fun v F5 H5 sf5 R5 hv => k O4 F5 H5 il4 ((((sf.trans sf2).trans sf3).trans sf4).trans sf5) ((pf.trans pf2).trans pf4) R5 v hv
        · rename_i hk
          rw [if_neg hk]
          cases hm
          exact k O2 F3 H3 il2 ((sf.trans sf2).trans sf3) (pf.trans pf2) R3 _ (TR.bl false)
      · cases hm
/-! ## is, of truths -/
def dIsB : F2 := fun _ _ x y => match x, y with
  | .t (.bool a), .t (.bool b) => some (.bool (decide (a = b)))
  | _, _ => none
def dNotB : F2 := fun _ _ x y => match x, y with
  | .t (.bool a), .t (.bool b) => some (.bool (!decide (a = b)))
  | _, _ => none
theorem rv_isB : RV2 K γ rIsB dIsB := by
  intro P O F H il S ev σ x y dx dy d R hx hy h Q k
  unfold dIsB at h
  split at h
  · cases h
    rw [DR.bool hx, DR.bool hy]
    exact ⟨_, _, rfl, rfl, k _ F H (Same.refl F) R (TR.bl _)⟩
  · cases h
theorem rv_notB : RV2 K γ rNotB dNotB := by
  intro P O F H il S ev σ x y dx dy d R hx hy h Q k
  unfold dNotB at h
  split at h
  · cases h
    rw [DR.bool hx, DR.bool hy]
    exact ⟨_, _, rfl, rfl, k _ F H (Same.refl F) R (TR.bl _)⟩
  · cases h
/-! ## in -/
def flatP : PyData → Bool
  | .none | .bool _ | .int _ | .str _ => true
  | _ => false
def eqFl : PyData → PyData → Bool
  | .none, .none => true
  | .bool a, .bool b => a == b
  | .bool a, .int b => (if a then 1 else 0) == b
  | .int a, .bool b => a == (if b then 1 else 0)
  | .int a, .int b => a == b
  | .str a, .str b => a == b
  | _, _ => false
def inFl (x : PyData) (xs : List PyData) : Bool := xs.any fun y => eqFl y x
/-- the items of a list or a tuple -/
def viewQ (ev : Nv) (S : So) (d : D) : Option (List D) := match viewL ev S d with
  | some ds => some ds
  | none => viewT S d
def inOf (ev : Nv) (S : So) (x y : D) : Option Bool := match x, y with
  | .t (.str a), .t (.str b) => match a.cps.toList with
    | [c] => some (decide (c ∈ b.cps.toList))
    | _ => some (!(Builtin.Str.occurrences b a 0 b.length 1).isEmpty)
  | .t d, y => (viewQ ev S y).bind fun ds => (allT ds).bind fun ts => if flatP d = true ∧ ts.all flatP = true then some (inFl d ts)
      else if (viewL ev S y).isSome = true ∧ SeqAt.shaped d = true ∧ SeqAt.shaped (.list ts) = true then some (ts.any fun z => PyData.eqv z d) else none
  | _, _ => none
def dIn : F2 := fun ev S x y => (inOf ev S x y).map .bool
def dNotIn : F2 := fun ev S x y => (inOf ev S x y).map fun b => .bool (!b)
theorem tr_flat {F : Hp} {v : V} {d : PyData} (h : TR K F v d) : flatP d = true → flatV v = true := by
  intro q
  cases h <;> first | rfl | cases q
theorem trs_flat {F : Hp} : ∀ {vs : List V} {ds : List PyData}, TRs K F vs ds → ds.all flatP = true → vs.all flatV = true
  | _, _, .nil, _ => rfl
  | _, _, .cons h1 h2, q => by
    simp only [List.all_cons, Bool.and_eq_true] at q ⊢
    exact ⟨tr_flat h1 q.1, trs_flat h2 q.2⟩
theorem tr_eqv {F : Hp} {v u : V} {d e : PyData} (h : TR K F v d) (h' : TR K F u e) (hd : flatP d = true) (he : flatP e = true) : eqV v u = eqFl d e := by
  cases h <;> cases h' <;> first | rfl | (simp [flatP] at hd; done) | (simp [flatP] at he; done)
theorem trs_in {F : Hp} {u : V} {e : PyData} (h' : TR K F u e) (he : flatP e = true) : ∀ {vs : List V} {ds : List PyData}, TRs K F vs ds → ds.all flatP = true → inV u vs = inFl e ds
  | _, _, .nil, _ => rfl
  | _, _, .cons h1 h2, q => by
    simp only [List.all_cons, Bool.and_eq_true] at q
    have ih := trs_in h' he h2 q.2
    unfold inV inFl at ih ⊢
    rw [List.any_cons, List.any_cons, ih, tr_eqv h1 h' q.1 he]
abbrev rInSg (g : Bool → Bool) : R2 := fun x y H Q => ∃ (c : Nat) (z : Str), x = .str ⟨#[c]⟩ ∧ y = .str z ∧ Q (.bl (g (decide (c ∈ z.cps.toList)))) H
abbrev rInSt (g : Bool → Bool) : R2 := fun x y H Q => ∃ i j, x = .str i ∧ y = .str j ∧ Q (.bl (g (!(Builtin.Str.occurrences j i 0 j.length 1).isEmpty))) H
def rInX (K : PySem.W.Frag) : R2 := fun x y H Q => rInSg (fun b => b) x y H Q ∨ (rInSt (fun b => b) x y H Q ∨ (rIn K false x y H Q ∨ rInD K x y H Q))
def rNotInX (K : PySem.W.Frag) : R2 := fun x y H Q => rInSg (fun b => !b) x y H Q ∨ (rInSt (fun b => !b) x y H Q ∨ (rIn K true x y H Q ∨ rNotInD K x y H Q))
theorem viewQ_ok {P O F H : Hp} {il : List Addr} {S : So} {ev : Nv} {σ : L2.St} (R : RE K γ P O F H il S ev σ) {d : D} {v : V} {ds : List D} (h : DR K F il σ v d) (q : viewQ ev S d = some ds) : ∃ a vs, v = .ref a ∧ (SqL K H a vs ∨ SqT K H a vs) ∧ DRs K F il [] vs ds := by
  unfold viewQ at q
  split at q
  · rename_i ds' hl
    cases q
    obtain ⟨a, vs, rfl, h1, h2⟩ := viewL_ok R h hl
    exact ⟨a, vs, rfl, .inl h1, h2⟩
  · obtain ⟨a, vs, rfl, h1, h2⟩ := viewT_ok R h q
    exact ⟨a, vs, rfl, .inr (Same.sqT R.fh h1), h2⟩
/-- what `in` tells, by one of the four rules -/
theorem in_gen {P O F H : Hp} {il : List Addr} {S : So} {ev : Nv} {σ : L2.St} {x y : V} {dx dy : D} {b : Bool} (R : RE K γ P O F H il S ev σ) (hx : DR K F il σ x dx) (hy : DR K F il σ y dy) (h : inOf ev S dx dy = some b) :
    (∃ c z, x = .str ⟨#[c]⟩ ∧ y = .str z ∧ b = decide (c ∈ z.cps.toList)) ∨ (∃ i j, x = .str i ∧ y = .str j ∧ b = !(Builtin.Str.occurrences j i 0 j.length 1).isEmpty) ∨
    (∃ p xs, y = .ref p ∧ (SqL K H p xs ∨ SqT K H p xs) ∧ flatV x = true ∧ xs.all flatV = true ∧ b = inV x xs) ∨
    (∃ d ds, Dp K H x d ∧ Dp K H y (.list ds) ∧ SeqAt.shaped d = true ∧ SeqAt.shaped (.list ds) = true ∧ b = ds.any fun z => PyData.eqv z d) := by
  unfold inOf at h
  split at h
  · rw [DR.str hx, DR.str hy]
    split at h
    · rename_i a z _ c hc
      cases h
      refine .inl ⟨c, z, ?_, rfl, rfl⟩
      congr 1
      obtain ⟨a⟩ := a
      simp only at hc
      congr 1
      exact Array.ext' (by simpa using hc)
    · cases h
      exact .inr (.inl ⟨_, _, rfl, rfl, rfl⟩)
  · rename_i d _
    obtain ⟨ds, q1, h⟩ := Option.bind_eq_some_iff.mp h
    obtain ⟨ts, q2, h⟩ := Option.bind_eq_some_iff.mp h
    obtain ⟨p, xs, rfl, h1, h2⟩ := viewQ_ok R hy q1
    rw [allT_eq q2] at h2
    have h3 := DRs.trs h2
    split at h
    · rename_i hf
      cases h
      exact .inr (.inr (.inl ⟨p, xs, rfl, h1, tr_flat hx hf.1, trs_flat h3 hf.2, (trs_in hx hf.1 h3 hf.2).symm⟩))
    · split at h
      · rename_i _ hs
        cases h
        obtain ⟨ds', q3⟩ := Option.isSome_iff_exists.mp hs.1
        have : ds' = ds := by
          unfold viewQ at q1
          rw [q3] at q1
          exact Option.some.inj q1
        subst this
        obtain ⟨a, vs, e, g1, g2⟩ := viewL_ok R hy q3
        cases e
        rw [allT_eq q2] at g2
        have c1 := lay_sh hs.2.2
        exact .inr (.inr (.inr ⟨d, ts, TR.dp R.fh _ _ hx (lay_sh hs.2.1), .lst g1 (DRs.dpAll R.fh g2 (by simpa [PyData.canLay0] using c1)), hs.2.1, hs.2.2, rfl⟩))
      · cases h
  · cases h
theorem rv_in : RV2 K γ (rInX K) dIn := by
  intro P O F H il S ev σ x y dx dy d R hx hy h Q k
  obtain ⟨b, h0, rfl⟩ := Option.map_eq_some_iff.mp h
  have kk := k (.bl b) F H (Same.refl F) R (TR.bl _)
  rcases in_gen R hx hy h0 with ⟨c, z, rfl, rfl, rfl⟩ | ⟨i, j, rfl, rfl, rfl⟩ | ⟨p, xs, rfl, h1, h2, h3, rfl⟩ | ⟨d, ds, h1, h2, h3, h4, rfl⟩
  · exact .inl ⟨c, z, rfl, rfl, kk⟩
  · exact .inr (.inl ⟨i, j, rfl, rfl, kk⟩)
  · exact .inr (.inr (.inl ⟨p, xs, rfl, h1, h2, h3, kk⟩))
  · exact .inr (.inr (.inr ⟨d, ds, h1, h2, h3, h4, kk⟩))
theorem rv_notIn : RV2 K γ (rNotInX K) dNotIn := by
  intro P O F H il S ev σ x y dx dy d R hx hy h Q k
  obtain ⟨b, h0, rfl⟩ := Option.map_eq_some_iff.mp h
  have kk := k (.bl (!b)) F H (Same.refl F) R (TR.bl _)
  rcases in_gen R hx hy h0 with ⟨c, z, rfl, rfl, rfl⟩ | ⟨i, j, rfl, rfl, rfl⟩ | ⟨p, xs, rfl, h1, h2, h3, rfl⟩ | ⟨d, ds, h1, h2, h3, h4, rfl⟩
  · exact .inl ⟨c, z, rfl, rfl, kk⟩
  · exact .inr (.inl ⟨i, j, rfl, rfl, kk⟩)
  · exact .inr (.inr (.inl ⟨p, xs, rfl, h1, h2, h3, kk⟩))
  · exact .inr (.inr (.inr ⟨d, ds, h1, h2, h3, h4, kk⟩))
/-! ## join -/
def allS : List D → Option (List Str)
  | [] => some []
  | .t (.str x) :: r => (allS r).map (x :: ·)
  | _ :: _ => none
@[simp] theorem allS_map (xs : List Str) : allS (xs.map fun x => .t (.str x)) = some xs := by
  induction xs with
  | nil => rfl
  | cons x r ih => simp [allS, ih]
theorem allS_ok {F : Hp} {il : List Addr} {σ : L2.St} : ∀ {ds : List D} {xs : List Str} {vs : List V}, allS ds = some xs → DRs K F il σ vs ds → vs = xs.map V.str
  | [], xs, vs, h, r => by cases h; cases r; rfl
  | .t (.str x) :: r, xs, vs, h, hr => by
    simp only [allS, Option.map_eq_some_iff] at h
    obtain ⟨a, h1, rfl⟩ := h
    cases hr with
    | cons h2 h3 =>
      rw [DR.str h2, allS_ok h1 h3]
      rfl
  | .t .none :: r, xs, vs, h, hr => by simp [allS] at h
  | .t (.bool _) :: r, xs, vs, h, hr => by simp [allS] at h
  | .t (.int _) :: r, xs, vs, h, hr => by simp [allS] at h
  | .t (.list _) :: r, xs, vs, h, hr => by simp [allS] at h
  | .t (.tuple _) :: r, xs, vs, h, hr => by simp [allS] at h
  | .t (.dict _) :: r, xs, vs, h, hr => by simp [allS] at h
  | .r n :: r, xs, vs, h, hr => by simp [allS] at h
  | .b n :: r, xs, vs, h, hr => by simp [allS] at h
def fJoin : Mf := fun ev S x ys => match x, ys with
  | .t (.str a), [y] => (viewQ ev S y).bind fun ds => (allS ds).bind fun xs => if (xs.map (·.length)).sum + xs.length * a.length ≤ 16777216 then some (.str (Txt.join a xs)) else none
  | _, _ => none
theorem rv_join : RVm K γ (fun x xs H Q => ∃ a p, ∃ ys : List Str, x = .str a ∧ xs = [.ref p] ∧ (SqL K H p (ys.map V.str) ∨ SqT K H p (ys.map V.str)) ∧ (ys.map (·.length)).sum + ys.length * a.length ≤ 16777216 ∧ Q (.str (Txt.join a ys)) H) fJoin := by
  intro P O F H il S ev σ x xs dx dxs d R hx hxs h Q k
  unfold fJoin at h
  split at h
  · obtain ⟨ds, q1, h⟩ := Option.bind_eq_some_iff.mp h
    obtain ⟨ys, q2, h⟩ := Option.bind_eq_some_iff.mp h
    split at h
    · rename_i hl
      cases h
      cases hxs with
      | cons a b =>
        cases b
        rw [DR.str hx]
        obtain ⟨p, vs, rfl, h1, h2⟩ := viewQ_ok R a q1
        rw [allS_ok q2 h2] at h1
        exact ⟨_, p, ys, rfl, rfl, h1, hl, k _ F H (Same.refl F) R (TR.str _)⟩
    · cases h
  · cases h
/-! ## reversed(range(..)) -/
def revIts (a : Int) (n : Nat) : List Im := (List.range n).map fun (i : Nat) => .one (.int (a - (i : Int)))
def mRevRng (a : Mm (List D)) : Mm Itr := fun ev S => bnd (a ev S) fun xs ev S => match xs with
  | [.t (.int j)] => if -(2 ^ 62) ≤ j ∧ j < 2 ^ 62 then some (.ok ⟨revIts (((j.toNat : Nat) : Int) - 1) j.toNat, fun _ => True⟩, ev, S) else none
  | _ => none
theorem jok_rev {F : Hp} {il : List Addr} {a : Int} {n : Nat} : JOk K γ F il (Itc a (-1) n) ⟨revIts a n, fun _ => True⟩ := by
  intro i P O F' H il' S ev σ sf pf R hc
  refine ⟨fun e => ?_, fun x hx => ?_⟩
  · show n ≤ i
    rw [e]; simp [revIts]
  · unfold revIts at hx
    rw [List.getElem?_map] at hx
    obtain ⟨j, q1, rfl⟩ := Option.map_eq_some_iff.mp hx
    have hlt : i < n := by
      have := (List.getElem?_eq_some_iff.mp q1).1
      simpa using this
    rw [List.getElem?_range hlt] at q1
    cases q1
    refine ⟨hlt, fun v' H' hy => ?_⟩
    obtain ⟨rfl, rfl⟩ := hy
    refine ⟨F', Same.refl F', R, ?_⟩
    show TR K F' _ _
    have e : a + (i : Int) * (-1) = a - (i : Int) := by omega
    rw [e]
    exact TR.int _
theorem si_rev1 {t : TE} {m : EM} (h : SE K γ W t m) : SI K γ W (iRevR (tRg1 t)) (mRevRng (mCons m mNil)) := by
  intro P O F H il S ev σ R r ev' S' hm Rr k
  rcases bnd_eq hm with ⟨x, q, rfl⟩ | ⟨ds, e1, s1, q, hm⟩
  · rcases bnd_eq q with ⟨x, q2, z⟩ | ⟨d, e2, s2, q2, q3⟩
    · cases z
      exact h P O F H il S ev σ R _ _ _ q2 _ fun O1 F1 H1 il1 sf pf R1 => k O1 F1 H1 il1 sf pf R1
    · cases q3
  · rcases bnd_eq q with ⟨x, q2, z⟩ | ⟨d, e2, s2, q2, q3⟩
    · cases z
    · have q4 : some (Rs.ok [d], e2, s2) = some (Rs.ok ds, e1, s1) := q3
      cases q4
      refine h P O F H il S ev σ R _ _ _ q2 _ fun O1 F1 H1 il1 sf pf R1 v hv => ?_
      split at hm
      · rename_i j hd
        cases hd
        split at hm
        · rename_i hz
          cases hm
          rw [DR.int hv]
          refine ⟨j, rfl, by decide, by decide, hz.1, hz.2, ?_⟩
          have e : (0 : Int) + (((j - 0).toNat : Nat) : Int) - 1 = ((j.toNat : Nat) : Int) - 1 := by omega
          have e2 : (j - 0).toNat = j.toNat := by omega
          rw [e, e2]
          exact k O1 F1 H1 il1 sf pf R1 _ jok_rev
        · cases hm
      · cases hm
/-! ## {} as a tree -/
def mDict0 : EM := fun ev S => some (.ok (.t (.dict [])), ev, S)
theorem se_dict0 : SE K γ W tDNewK mDict0 := by
  intro P O F H il S ev σ R r ev' S' hm Q k
  cases hm
  intro p hp
  exact k O (upd F p (.dK [])) _ il (R.same hp) (pref_rfl _) (R.newF hp) _ (TR.dic upd_same .nil)
end
section
variable {X : Cx} {γ : Nat → Addr} {W : WX} {k : Nat} {a b c : Expr} {ma mb mc : EM} {pos : Pos}
theorem me_chain {op op' : CmpOp} {r r' : R2} {f g : F2} (ho : OpR X (compareOp op) r) (hr : RV2 X.K γ r f) (ho' : OpR X (compareOp op') r') (hr' : RV2 X.K γ r' g) (ha : ME X γ W a ma) (hb : ME X γ W b mb) (hc : ME X γ W c mc)
    (hm : lastMarks [op, op'] [b, c] = false := by with_unfolding_all rfl) : ME X γ W (.Compare a [op, op'] [b, c] pos) (mChain f g ma mb mc) := by
  obtain ⟨ta, a1, a2⟩ := ha; obtain ⟨tb, b1, b2⟩ := hb; obtain ⟨tc, c1, c2⟩ := hc
  exact ⟨_, pe_chain ho ho' a1 b1 c1 hm, se_chain a2 b2 c2 hr hr'⟩
theorem mt_chain {op op' : CmpOp} {r r' : R2} {f g : F2} (ho : OpR X (compareOp op) r) (hr : RV2 X.K γ r f) (ho' : OpR X (compareOp op') r') (hr' : RV2 X.K γ r' g) (ha : ME X γ W a ma) (hb : ME X γ W b mb) (hc : ME X γ W c mc)
    (hm : lastMarks [op, op'] [b, c] = false := by with_unfolding_all rfl) : MT X γ W (.Compare a [op, op'] [b, c] pos) (mTest (mChain f g ma mb mc)) := by
  obtain ⟨ta, a1, a2⟩ := ha; obtain ⟨tb, b1, b2⟩ := hb; obtain ⟨tc, c1, c2⟩ := hc
  exact ⟨_, pt_chain ho ho' a1 b1 c1 hm, st_test (se_chain a2 b2 c2 hr hr')⟩
theorem or_le (c : CxK X W k) : OpR X (compareOp .LtE) (rI0 fun i j => .bl (decide (i ≤ j))) := op_le
theorem or_gt (c : CxK X W k) : OpR X (compareOp .Gt) (rI0 fun i j => .bl (decide (j < i))) := op_gt
theorem or_ge (c : CxK X W k) : OpR X (compareOp .GtE) (rI0 fun i j => .bl (decide (j ≤ i))) := op_ge
theorem me_isB (ha : ME X γ W a ma) (hb : ME X γ W b mb) : ME X γ W (.Compare a [.Is] [b] pos) (mOp dIsB ma mb) := me_cmp op_isBl rv_isB ha hb (nomark _)
theorem mt_isB (ha : ME X γ W a ma) (hb : ME X γ W b mb) : MT X γ W (.Compare a [.Is] [b] pos) (mTest (mOp dIsB ma mb)) := mt_cmp op_isBl rv_isB ha hb (nomark _)
theorem me_notB (ha : ME X γ W a ma) (hb : ME X γ W b mb) : ME X γ W (.Compare a [.IsNot] [b] pos) (mOp dNotB ma mb) := me_cmp op_notBl rv_notB ha hb (nomark _)
theorem mt_notB (ha : ME X γ W a ma) (hb : ME X γ W b mb) : MT X γ W (.Compare a [.IsNot] [b] pos) (mTest (mOp dNotB ma mb)) := mt_cmp op_notBl rv_notB ha hb (nomark _)
theorem or_in (c : CxK X W k) : OpR X (compareOp .In) (rInX X.K) := op_in_sign.or (op_in_str.or (op_in_seq.or (op_inD (by have := c.hr.un; omega))))
theorem or_notIn (c : CxK X W k) : OpR X (compareOp .NotIn) (rNotInX X.K) := op_notIn_sign.or (op_notIn_str.or (op_notIn_seq.or (op_notInD (by have := c.hr.un; omega))))
theorem me_in (c : CxK X W k) (ha : ME X γ W a ma) (hb : ME X γ W b mb) (hm : behindInMarks .In b = false := by rfl) : ME X γ W (.Compare a [.In] [b] pos) (mOp dIn ma mb) := me_cmp (or_in c) rv_in ha hb hm
theorem mt_in (c : CxK X W k) (ha : ME X γ W a ma) (hb : ME X γ W b mb) (hm : behindInMarks .In b = false := by rfl) : MT X γ W (.Compare a [.In] [b] pos) (mTest (mOp dIn ma mb)) := mt_cmp (or_in c) rv_in ha hb hm
theorem me_notIn (c : CxK X W k) (ha : ME X γ W a ma) (hb : ME X γ W b mb) (hm : behindInMarks .NotIn b = false := by rfl) : ME X γ W (.Compare a [.NotIn] [b] pos) (mOp dNotIn ma mb) := me_cmp (or_notIn c) rv_notIn ha hb hm
theorem mt_notIn (c : CxK X W k) (ha : ME X γ W a ma) (hb : ME X γ W b mb) (hm : behindInMarks .NotIn b = false := by rfl) : MT X γ W (.Compare a [.NotIn] [b] pos) (mTest (mOp dNotIn ma mb)) := mt_cmp (or_notIn c) rv_notIn ha hb hm
theorem mi_rev1 {tg : Expr} {p q p2 : Pos} (hm : X.mg "reversed" = none) (hm2 : X.mg "range" = none) (h : ME X γ W a ma) (hg : Gl X "reversed" := by rfl) (hg2 : Gl X "range" := by rfl) (hs : starEach [.Call (.Name "range" q) [a] [] p2] X.env = (false, eval (.Call (.Name "range" q) [a] [] p2) X.env) :: starEach [] X.env := by rfl)
    (hs2 : starEach [a] X.env = (false, eval a X.env) :: starEach [] X.env := by rfl) : MI X γ W tg (.Call (.Name "reversed" p) [.Call (.Name "range" q) [a] [] p2] [] pos) (mRevRng (mCons ma mNil)) := by
  obtain ⟨t, a1, a2⟩ := h
  exact ⟨_, pi_revR hg hm (prg_1 hg2 hm2 a1 hs2) hs, si_rev1 a2⟩
theorem me_dict0 : ME X γ W (.Dict [] [] pos) mDict0 := ⟨_, pe_dnewK, se_dict0⟩
end
end Cl

namespace Cl
open PySem L2
/-! ## the machine, form by form, as equations -/
/-- an equation that is no rfl for simp -/
theorem nr {α : Sort _} {a b : α} (h : a = b) : a = b := by cases h; rfl
section
variable {α β : Type}
theorem r_bnd (a : α) (e : Nv) (s : So) (k : α → Nv → So → Om β) : bK (some (.ok a, e, s)) k = k a e s := nr rfl
theorem r_bndX (x : Xn) (e : Nv) (s : So) (k : α → Nv → So → Om β) : bK (some (.ex x, e, s)) k = some (.ex x, e, s) := nr rfl
theorem r_bnd0 (k : α → Nv → So → Om β) : bK none k = none := nr rfl
theorem r_bndS (a : α) (e : Nv) (s : So) (k : α → Nv → So → Os) : bS (some (.ok a, e, s)) k = k a e s := nr rfl
theorem r_bndSX (x : Xn) (e : Nv) (s : So) (k : α → Nv → So → Os) : bS (some (.ex x, e, s)) k = some (.ex x, e, s) := nr rfl
theorem r_bndS0 (k : α → Nv → So → Os) : bS none k = none := nr rfl
theorem r_nx (e : Nv) (s : So) (b : SM) : tS (some (.nx, e, s)) b = b e s := nr rfl
theorem r_rt (d : D) (e : Nv) (s : So) (b : SM) : tS (some (.rt d, e, s)) b = some (.rt d, e, s) := nr rfl
theorem r_bk (e : Nv) (s : So) (b : SM) : tS (some (.bk, e, s)) b = some (.bk, e, s) := nr rfl
theorem r_ct (e : Nv) (s : So) (b : SM) : tS (some (.ct, e, s)) b = some (.ct, e, s) := nr rfl
theorem r_ex (x : Xn) (e : Nv) (s : So) (b : SM) : tS (some (.ex x, e, s)) b = some (.ex x, e, s) := nr rfl
theorem r_0 (b : SM) : tS none b = none := nr rfl
theorem r_ans (a : α) (e : Nv) (s : So) : ans (some a) e s = some (.ok a, e, s) := nr rfl
theorem r_ans0 (e : Nv) (s : So) : ans (none : Option α) e s = none := nr rfl
theorem r_call (c : Fn) (a : Mm (List D)) (ev : Nv) (S : So) : mCall c a ev S = bK (mEsc a ev S) fun xs ev S => callR (c xs S) ev := nr rfl
theorem r_callR (r : Rs D) (s : So) (e : Nv) : callR (some (r, s)) e = some (r, e, s) := nr rfl
theorem r_escs0 (ev : Nv) (S : So) : escs [] ev S = some (.ok [], ev, S) := nr rfl
theorem r_escs (d : D) (r : List D) (ev : Nv) (S : So) : escs (d :: r) ev S = bK (esc d ev S) fun x ev S => bK (escs r ev S) fun xs ev S => some (.ok (x :: xs), ev, S) := nr rfl
theorem r_escT (d : PyData) (ev : Nv) (S : So) : esc (.t d) ev S = some (.ok (.t d), ev, S) := nr rfl
theorem r_escR (n : Nat) (ev : Nv) (S : So) : esc (.r n) ev S = some (.ok (.r n), ev, S) := nr rfl
end
section
variable {ev : Nv} {S : So} {a b c : EM} {t u : Mm Bool} {m n : SM} {ms : Mm (List D)}
theorem q_var (i : Nat) : mVar i ev S = match ev[i]? with
  | some (some (.d x)) => some (.ok x, ev, S)
  | some (some _) => some (.ok (.b i), ev, S)
  | _ => none := nr rfl
theorem q_c (d : PyData) : mC d ev S = some (.ok (.t d), ev, S) := nr rfl
theorem q_cI (i : Int) : mC (.int i) ev S = some (.ok (.t (.int i)), ev, S) := nr rfl
theorem q_cB (b : Bool) : mC (.bool b) ev S = some (.ok (.t (.bool b)), ev, S) := nr rfl
theorem q_cN : mC .none ev S = some (.ok (.t .none), ev, S) := nr rfl
theorem q_op (f : F2) : mOp f a b ev S = bK (a ev S) fun x ev S => bK (b ev S) fun y ev S => ans (f ev S x y) ev S := nr rfl
theorem q_un (f : F1) : mUn f a ev S = bK (a ev S) fun x ev S => ans (f ev S x) ev S := nr rfl
def tst (x : D) (ev : Nv) (S : So) : Om Bool := match x with
  | .t (.bool k) => some (.ok k, ev, S)
  | _ => none
theorem q_test : mTest a ev S = bK (a ev S) tst := nr rfl
theorem q_tst (k : Bool) : tst (.t (.bool k)) ev S = some (.ok k, ev, S) := nr rfl
theorem q_tru (f : Nv → So → D → Option Bool) : mTru f a ev S = bK (a ev S) fun x ev S => ans (f ev S x) ev S := nr rfl
theorem q_and : mAnd t u ev S = bK (t ev S) fun x ev S => if x = true then u ev S else some (.ok false, ev, S) := nr rfl
theorem q_or : mOr t u ev S = bK (t ev S) fun x ev S => if x = true then some (.ok true, ev, S) else u ev S := nr rfl
theorem q_not : mNot t ev S = bK (t ev S) fun x ev S => some (.ok (!x), ev, S) := nr rfl
theorem q_andV : mAndV a b ev S = bK (mTest a ev S) fun x ev S => if x = true then b ev S else some (.ok (.t (.bool false)), ev, S) := by
  unfold mAndV mTest
  cases a ev S with
  | none => rfl
  | some p => obtain ⟨r, e, s⟩ := p; cases r with
    | ex x => rfl
    | ok x => cases x with
      | t d => cases d <;> rfl
      | _ => rfl
theorem q_orV : mOrV a b ev S = bK (mTest a ev S) fun x ev S => if x = true then some (.ok (.t (.bool true)), ev, S) else b ev S := by
  unfold mOrV mTest
  cases a ev S with
  | none => rfl
  | some p => obtain ⟨r, e, s⟩ := p; cases r with
    | ex x => rfl
    | ok x => cases x with
      | t d => cases d <;> rfl
      | _ => rfl
theorem q_notV : mNotV a ev S = bK (mTest a ev S) fun x ev S => some (.ok (.t (.bool (!x))), ev, S) := by
  unfold mNotV mTest
  cases a ev S with
  | none => rfl
  | some p => obtain ⟨r, e, s⟩ := p; cases r with
    | ex x => rfl
    | ok x => cases x with
      | t d => cases d <;> rfl
      | _ => rfl
theorem q_if : mIf t a b ev S = bK (t ev S) fun x ev S => if x = true then a ev S else b ev S := nr rfl
theorem q_nil : mNil ev S = some (.ok [], ev, S) := nr rfl
theorem q_cons : mCons a ms ev S = bK (a ev S) fun x ev S => bK (ms ev S) fun xs ev S => some (.ok (x :: xs), ev, S) := nr rfl
theorem q_esc : mEsc ms ev S = bK (ms ev S) fun xs ev S => escs xs ev S := nr rfl
def tupR (xs : List D) (ev : Nv) (S : So) : Om D := if xs.length ≤ sizeLine then match allT xs with
  | some ts => some (.ok (.t (.tuple ts)), ev, S)
  | none => some (.ok (.r S.length), ev, S ++ [.tup xs]) else none
theorem q_tup : mTup ms ev S = bK (mEsc ms ev S) tupR := nr rfl
theorem q_tupR {xs : List D} (h : xs.length ≤ sizeLine) : tupR xs ev S = match allT xs with
  | some ts => some (.ok (.t (.tuple ts)), ev, S)
  | none => some (.ok (.r S.length), ev, S ++ [.tup xs]) := if_pos h
def dispR (xs : List D) (ev : Nv) (S : So) : Om (List D) := if xs.length ≤ sizeLine then some (.ok xs, ev, S) else none
theorem q_disp : lDisp ms ev S = bK (mEsc ms ev S) dispR := nr rfl
theorem q_dispR {xs : List D} (h : xs.length ≤ sizeLine) : dispR xs ev S = some (.ok xs, ev, S) := if_pos h
theorem q_tree (m : Mm (List D)) : mTree m ev S = bK (m ev S) fun xs ev S => match allT xs with
  | some ts => some (.ok (.t (.list ts)), ev, S)
  | none => none := nr rfl
theorem q_cell (m : Mm (List D)) : mCell m ev S = bK (m ev S) fun xs ev S => some (.ok (.r S.length), ev, S ++ [.lst xs]) := nr rfl
theorem q_B (f : Bf) : mB f ms ev S = bK (ms ev S) fun xs ev S => ans (f ev S xs) ev S := nr rfl
theorem q_mb (ty : Nv → So → D → Bool) (f : Mf) : mMb ty f a ms ev S = bK (a ev S) fun x ev S => if ty ev S x = true then bK (ms ev S) fun ys ev S => ans (f ev S x ys) ev S else none := nr rfl
theorem q_noP : mNoP ev S = some (.ok none, ev, S) := nr rfl
def prt (x : D) (ev : Nv) (S : So) : Om (Option Int) := match x with
  | .t (.int i) => some (.ok (some i), ev, S)
  | _ => none
theorem q_part : mPart a ev S = bK (a ev S) prt := nr rfl
theorem q_prt (i : Int) : prt (.t (.int i)) ev S = some (.ok (some i), ev, S) := nr rfl
theorem q_sl {lo hi : Mm (Option Int)} : mSl a lo hi ev S = bK (a ev S) fun x ev S => bK (lo ev S) fun l ev S => bK (hi ev S) fun h ev S => ans (dSl ev S x l h) ev S := nr rfl
theorem q_chain (f g : F2) : mChain f g a b c ev S = bK (a ev S) fun x ev S => bK (b ev S) fun y ev S => bK (bK (ans (f ev S x y) ev S) tst) fun k ev S => if k = true then bK (c ev S) fun z ev S => ans (g ev S y z) ev S else some (.ok (.t (.bool false)), ev, S) := by
  unfold mChain
  congr 1; funext x ev S; congr 1; funext y ev S
  cases f ev S x y with
  | none => rfl
  | some d => cases d with
    | t d => cases d <;> rfl
    | _ => rfl
theorem q_dict0 : mDict0 ev S = some (.ok (.t (.dict [])), ev, S) := nr rfl
theorem q_next : sNext ev S = some (.nx, ev, S) := nr rfl
theorem q_brk : sBrk ev S = some (.bk, ev, S) := nr rfl
theorem q_cnt : sCnt ev S = some (.ct, ev, S) := nr rfl
theorem q_seq : sSeq m n ev S = tS (m ev S) n := nr rfl
theorem q_ret : sRet a ev S = bS (a ev S) fun x ev S => bS (esc x ev S) fun d ev S => some (.rt d, ev, S) := nr rfl
theorem q_retN : sRetN ev S = some (.rt (.t .none), ev, S) := nr rfl
theorem q_expr : sExpr a ev S = bS (a ev S) fun _ ev S => some (.nx, ev, S) := nr rfl
theorem q_ifS : sIf t m n ev S = bS (t ev S) fun x ev S => if x = true then m ev S else n ev S := nr rfl
/-- a target's answer -/
def laid (o : Option Nv) (S : So) : Os := o.map fun ev => (.nx, ev, S)
theorem q_asg (g : Tg) : sAsg g a ev S = bS (a ev S) fun x ev S => bS (esc x ev S) fun d ev S => laid (g (.one d) ev S) S := nr rfl
theorem q_laid : laid (some ev) S = some (.nx, ev, S) := nr rfl
theorem q_gT1 (i : Nat) (d : PyData) : gN i (.one (.t d)) ev S = some (ev.set i (some (.d (.t d)))) := nr rfl
theorem q_gR1 (i n : Nat) : gN i (.one (.r n)) ev S = some (ev.set i (some (.d (.r n)))) := nr rfl
theorem q_gTup (i : Nat) (ds : List D) : gN i (.tup ds) ev S = (allT ds).map fun ts => ev.set i (some (.d (.t (.tuple ts)))) := nr rfl
theorem q_gTs0 : gTs [] [] ev S = some ev := nr rfl
theorem q_gTs1 (g : Tg) (gs : List Tg) (d : D) (ds : List D) : gTs (g :: gs) (d :: ds) ev S = (g (.one d) ev S).bind fun ev => gTs gs ds ev S := nr rfl
theorem q_gTt (gs : List Tg) (ds : List D) : gT gs (.tup ds) ev S = gTs gs ds ev S := nr rfl
theorem q_gT1' (gs : List Tg) (d : D) : gT gs (.one d) ev S = (viewT S d).bind fun ds => gTs gs ds ev S := nr rfl
theorem q_own (i : Nat) (m : Mm (List D)) : sOwn i m ev S = bS (m ev S) fun ds ev S => some (.nx, ev.set i (some (.ol ds)), S) := nr rfl
theorem q_for {it : Mm Itr} {g : Tg} {b : SM} : sFor it g b ev S = bS (it ev S) fun I ev S => forL g b I.chk I.its ev S := nr rfl
/-- a range's answer -/
def rngR (xs : List D) (ev : Nv) (S : So) : Om Itr := match xs with
  | [.t (.int j)] => if -(2 ^ 62) ≤ j ∧ j < 2 ^ 62 then some (.ok ⟨rngIts 0 j.toNat, fun _ => True⟩, ev, S) else none
  | [.t (.int i), .t (.int j)] => if -(2 ^ 62) ≤ i ∧ i < 2 ^ 62 ∧ -(2 ^ 62) ≤ j ∧ j < 2 ^ 62 then some (.ok ⟨rngIts i (j - i).toNat, fun _ => True⟩, ev, S) else none
  | _ => none
theorem q_rng : mRng ms ev S = bK (ms ev S) rngR := nr rfl
theorem q_rng1 {j : Int} (h1 : -(2 ^ 62) ≤ j) (h2 : j < 2 ^ 62) : rngR [.t (.int j)] ev S = some (.ok ⟨rngIts 0 j.toNat, fun _ => True⟩, ev, S) := if_pos ⟨h1, h2⟩
theorem q_rng2 {i j : Int} (h1 : -(2 ^ 62) ≤ i) (h2 : i < 2 ^ 62) (h3 : -(2 ^ 62) ≤ j) (h4 : j < 2 ^ 62) : rngR [.t (.int i), .t (.int j)] ev S = some (.ok ⟨rngIts i (j - i).toNat, fun _ => True⟩, ev, S) := if_pos ⟨h1, h2, h3, h4⟩
def revR (xs : List D) (ev : Nv) (S : So) : Om Itr := match xs with
  | [.t (.int j)] => if -(2 ^ 62) ≤ j ∧ j < 2 ^ 62 then some (.ok ⟨revIts (((j.toNat : Nat) : Int) - 1) j.toNat, fun _ => True⟩, ev, S) else none
  | _ => none
theorem q_rev : mRevRng ms ev S = bK (ms ev S) revR := nr rfl
theorem q_rev1 {j : Int} (h1 : -(2 ^ 62) ≤ j) (h2 : j < 2 ^ 62) : revR [.t (.int j)] ev S = some (.ok ⟨revIts (((j.toNat : Nat) : Int) - 1) j.toNat, fun _ => True⟩, ev, S) := if_pos ⟨h1, h2⟩
theorem q_iter : mIter a ev S = bK (a ev S) fun x ev S => bK (esc x ev S) fun d ev S => ans (itOf S d) ev S := nr rfl
theorem q_itL (ts : List PyData) : itOf S (.t (.list ts)) = some ⟨ones (ts.map .t), fun S => viewL [] S (.t (.list ts)) = some (ts.map .t)⟩ := nr rfl
theorem q_itT (ts : List PyData) : itOf S (.t (.tuple ts)) = some ⟨ones (ts.map .t), fun _ => True⟩ := nr rfl
theorem q_itS (z : Str) : itOf S (.t (.str z)) = some ⟨ones (z.cps.toList.map fun c => .str ⟨#[c]⟩), fun _ => True⟩ := nr rfl
/-! values -/
theorem q_add (i j : Int) : dAdd ev S (.t (.int i)) (.t (.int j)) = some (.t (.int (i + j))) := nr rfl
theorem q_sub (i j : Int) : dSub ev S (.t (.int i)) (.t (.int j)) = some (.t (.int (i - j))) := nr rfl
theorem q_neg (i : Int) : dNeg ev S (.t (.int i)) = some (.t (.int (-i))) := nr rfl
theorem q_mul1 {i j : Int} (h1 : -(2 ^ 64) < i) (h2 : i < 2 ^ 64) : dMul ev S (.t (.int i)) (.t (.int j)) = some (.t (.int (i * j))) := if_pos (.inl ⟨h1, h2⟩)
theorem q_mul2 {i j : Int} (h1 : -(2 ^ 64) < j) (h2 : j < 2 ^ 64) : dMul ev S (.t (.int i)) (.t (.int j)) = some (.t (.int (i * j))) := if_pos (.inr ⟨h1, h2⟩)
theorem q_div {i j : Int} (h1 : 0 < j) (h2 : j < 1073741824) : dDiv ev S (.t (.int i)) (.t (.int j)) = some (.t (.int (i / j))) := if_pos ⟨h1, h2⟩
theorem q_mod {i j : Int} (h : 0 < j) : dMod ev S (.t (.int i)) (.t (.int j)) = some (.t (.int (i % j))) := if_pos h
theorem q_pow {i j : Int} (h0 : 0 ≤ j) (h1 : j ≤ 1000000) (h2 : -(2 ^ 64) < i) (h3 : i < 2 ^ 64) : dPow ev S (.t (.int i)) (.t (.int j)) = some (.t (.int (i ^ j.toNat))) := if_pos ⟨h0, h1, by omega⟩
theorem q_shl {i j : Int} (h0 : 0 ≤ j) (h1 : j ≤ 1000000) (h2 : -(2 ^ 64) < i) (h3 : i < 2 ^ 64) : dShl ev S (.t (.int i)) (.t (.int j)) = some (.t (.int (i * 2 ^ j.toNat))) := if_pos ⟨h0, h1, by omega⟩
theorem q_shr {i j : Int} (h0 : 0 ≤ j) : dShr ev S (.t (.int i)) (.t (.int j)) = some (.t (.int (i / 2 ^ j.toNat))) := if_pos h0
theorem q_andB (i j : Int) : dAndB ev S (.t (.int i)) (.t (.int j)) = some (.t (.int (Builtin.bitAnd i j))) := nr rfl
theorem q_orB (i j : Int) : dOrB ev S (.t (.int i)) (.t (.int j)) = some (.t (.int (Builtin.bitOr i j))) := nr rfl
theorem q_xorB (i j : Int) : dXorB ev S (.t (.int i)) (.t (.int j)) = some (.t (.int (Builtin.bitXor i j))) := nr rfl
theorem q_lt (i j : Int) : dLt ev S (.t (.int i)) (.t (.int j)) = some (.t (.bool (decide (i < j)))) := nr rfl
theorem q_le (i j : Int) : dLe ev S (.t (.int i)) (.t (.int j)) = some (.t (.bool (decide (i ≤ j)))) := nr rfl
theorem q_gt (i j : Int) : dGt ev S (.t (.int i)) (.t (.int j)) = some (.t (.bool (decide (j < i)))) := nr rfl
theorem q_ge (i j : Int) : dGe ev S (.t (.int i)) (.t (.int j)) = some (.t (.bool (decide (j ≤ i)))) := nr rfl
theorem q_eqI (i j : Int) : dEq ev S (.t (.int i)) (.t (.int j)) = some (.t (.bool (decide (i = j)))) := nr rfl
theorem q_neI (i j : Int) : dNe ev S (.t (.int i)) (.t (.int j)) = some (.t (.bool (!decide (i = j)))) := nr rfl
theorem q_eqS (i j : Str) : dEq ev S (.t (.str i)) (.t (.str j)) = some (.t (.bool (decide (i = j)))) := nr rfl
theorem q_neS (i j : Str) : dNe ev S (.t (.str i)) (.t (.str j)) = some (.t (.bool (!decide (i = j)))) := nr rfl
theorem q_eqB (i j : Bool) : dEq ev S (.t (.bool i)) (.t (.bool j)) = some (.t (.bool (decide (i = j)))) := by cases i <;> cases j <;> rfl
theorem q_isB (i j : Bool) : dIsB ev S (.t (.bool i)) (.t (.bool j)) = some (.t (.bool (decide (i = j)))) := nr rfl
theorem q_notB (i j : Bool) : dNotB ev S (.t (.bool i)) (.t (.bool j)) = some (.t (.bool (!decide (i = j)))) := nr rfl
theorem q_isN : dIsN ev S (.t .none) (.t .none) = some (.t (.bool true)) := nr rfl
theorem q_isNI (i : Int) : dIsN ev S (.t (.int i)) (.t .none) = some (.t (.bool false)) := nr rfl
theorem q_isNT (ts : List PyData) : dIsN ev S (.t (.tuple ts)) (.t .none) = some (.t (.bool false)) := nr rfl
theorem q_isNL (ts : List PyData) : dIsN ev S (.t (.list ts)) (.t .none) = some (.t (.bool false)) := nr rfl
theorem q_isNS (z : Str) : dIsN ev S (.t (.str z)) (.t .none) = some (.t (.bool false)) := nr rfl
theorem q_isNr (n : Nat) : dIsN ev S (.r n) (.t .none) = some (.t (.bool false)) := nr rfl
theorem q_notN : dNotN ev S (.t .none) (.t .none) = some (.t (.bool false)) := nr rfl
theorem q_notNI (i : Int) : dNotN ev S (.t (.int i)) (.t .none) = some (.t (.bool true)) := nr rfl
theorem q_notNT (ts : List PyData) : dNotN ev S (.t (.tuple ts)) (.t .none) = some (.t (.bool true)) := nr rfl
theorem q_notNL (ts : List PyData) : dNotN ev S (.t (.list ts)) (.t .none) = some (.t (.bool true)) := nr rfl
theorem q_notNS (z : Str) : dNotN ev S (.t (.str z)) (.t .none) = some (.t (.bool true)) := nr rfl
theorem q_notNr (n : Nat) : dNotN ev S (.r n) (.t .none) = some (.t (.bool true)) := nr rfl
theorem q_isi (c : Ty) (d : D) : dIsi c ev S d = (tyOf ev S d).map fun t => .bool (t.sub c) := nr rfl
theorem q_ixL (ts : List PyData) (i : Int) : dIx ev S (.t (.list ts)) (.t (.int i)) = (atI ts i).map .t := by
  show atI (ts.map D.t) i = _
  unfold atI
  rw [List.length_map]
  cases ixN ts.length i with
  | none => rfl
  | some j => simp
theorem q_ixT (ts : List PyData) (i : Int) : dIx ev S (.t (.tuple ts)) (.t (.int i)) = (atI ts i).map .t := by
  show (viewT S (.t (.tuple ts))).bind (fun ds => atI ds i) = _
  show atI (ts.map D.t) i = _
  unfold atI
  rw [List.length_map]
  cases ixN ts.length i with
  | none => rfl
  | some j => simp
theorem q_ixS {z : Str} {i : Int} (h : z.length ≤ sizeLine) : dIx ev S (.t (.str z)) (.t (.int i)) = (atI z.cps.toList i).map fun c => .t (.str ⟨#[c]⟩) := if_pos h
theorem q_lenS {z : Str} (h : z.length ≤ sizeLine) : bLen ev S [.t (.str z)] = some (.t (.int (z.length : Int))) := by
  simp [bLen, lenOf, h]
theorem q_lenL (ts : List PyData) : bLen ev S [.t (.list ts)] = some (.t (.int (ts.length : Int))) := by simp [bLen, lenOf]
theorem q_lenT (ts : List PyData) : bLen ev S [.t (.tuple ts)] = some (.t (.int (ts.length : Int))) := by simp [bLen, lenOf, viewL]
theorem q_int (i : Int) : bInt ev S [.t (.int i)] = some (.t (.int i)) := nr rfl
theorem q_intB (b : Bool) : bInt ev S [.t (.bool b)] = some (.t (.int (if b then 1 else 0))) := nr rfl
theorem q_catS {x y : Str} (h : x.length + y.length ≤ sizeLine) : dAdd ev S (.t (.str x)) (.t (.str y)) = some (.t (.str (x ++ y))) := if_pos h
theorem q_mulS {x : Str} {k : Int} (h1 : -(2 ^ 63) ≤ k) (h2 : k < 2 ^ 63) (h : x.length * k.toNat ≤ sizeLine) : dMul ev S (.t (.str x)) (.t (.int k)) = some (.t (.str (Txt.mul x k))) := if_pos ⟨h1, h2, h⟩
theorem q_slS {z : Str} {lo hi : Option Int} (h : z.length ≤ sizeLine) : dSl ev S (.t (.str z)) lo hi = some (.t (.str (cutS z lo hi))) := if_pos h
theorem q_slL (ts : List PyData) (lo hi : Option Int) : dSl ev S (.t (.list ts)) lo hi = some (.t (.list (cut ts lo hi))) := v_slL
theorem q_slT (ts : List PyData) (lo hi : Option Int) : dSl ev S (.t (.tuple ts)) lo hi = some (.t (.tuple (cut ts lo hi))) := nr rfl
theorem q_catL {ts us : List PyData} (h : ts.length + us.length ≤ sizeLine) : dAdd ev S (.t (.list ts)) (.t (.list us)) = some (.t (.list (ts ++ us))) := v_catL h
theorem m_D {p : Prop} [Decidable p] (a b : Bool) (e : Nv) (s : So) : (if p then some (Rs.ok (D.t (.bool a)), e, s) else some (Rs.ok (D.t (.bool b)), e, s)) = some (Rs.ok (D.t (.bool (if p then a else b))), e, s) := by split <;> rfl
theorem m_B {p : Prop} [Decidable p] (a b : Bool) (e : Nv) (s : So) : (if p then some (Rs.ok a, e, s) else some (Rs.ok b, e, s)) = some (Rs.ok (if p then a else b), e, s) := by split <;> rfl
theorem m_1 {p q : Prop} [Decidable p] [Decidable q] : (if p then decide q else false) = decide (p ∧ q) := by by_cases h : p <;> simp [h]
theorem m_2 {p q : Prop} [Decidable p] [Decidable q] : (if p then true else decide q) = decide (p ∨ q) := by by_cases h : p <;> simp [h]
theorem m_3 {p q : Prop} [Decidable p] [Decidable q] : (if p then false else decide q) = decide (¬ p ∧ q) := by by_cases h : p <;> simp [h]
theorem m_5 {p : Prop} [Decidable p] : (if p then true else false) = decide p := by by_cases h : p <;> simp [h]
theorem m_6 {p : Prop} [Decidable p] : (if p then false else true) = decide (¬ p) := by by_cases h : p <;> simp [h]
theorem m_7 {p : Prop} [Decidable p] : (!decide p) = decide (¬ p) := by by_cases h : p <;> simp [h]
theorem allT_nil : allT [] = some [] := nr rfl
theorem allT_cons (d : PyData) (r : List D) : allT (.t d :: r) = (allT r).map (d :: ·) := nr rfl
theorem map_some {α β : Type} (f : α → β) (a : α) : Option.map f (some a) = some (f a) := nr rfl
theorem bind_some {α β : Type} (f : α → Option β) (a : α) : Option.bind (some a) f = f a := nr rfl
end
end Cl

namespace Cl
open PySem L2 TL
/-! ## texts as lists of signs -/
def mkS (l : List Nat) : Str := ⟨l.toArray⟩
@[simp] theorem tl_mkS (l : List Nat) : tl (mkS l) = l := rfl
theorem mkS_tl (z : Str) : mkS (tl z) = z := mk_tl z
@[simp] theorem cps_mkS (l : List Nat) : (mkS l).cps.toList = l := rfl
@[simp] theorem len_mkS (l : List Nat) : (mkS l).length = l.length := by rw [len_tl]; rfl
theorem mkS_app (l r : List Nat) : mkS l ++ mkS r = mkS (l ++ r) := ext_tl (by rw [tl_append]; rfl)
theorem mkS_inj {l r : List Nat} : mkS l = mkS r ↔ l = r := ⟨fun h => by have := congrArg tl h; exact this, fun h => by rw [h]⟩
theorem mkS_nil : ("" : Str) = mkS [] := by decide +kernel
theorem cutS_mk (l : List Nat) (lo hi : Option Int) : cutS (mkS l) lo hi = mkS (cut l lo hi) := by
  unfold cutS cut
  rw [len_mkS]
  rfl
theorem joinL_nil : ∀ ps : List (List Nat), joinL [] ps = ps.flatten
  | [] => rfl
  | [p] => by simp [joinL]
  | p :: q :: r => by rw [joinL, joinL_nil (q :: r)]; simp
theorem join_nil (ps : List (List Nat)) : Txt.join "" (ps.map mkS) = mkS ps.flatten := by
  apply ext_tl
  rw [join_eq, tl_join, List.map_map]
  have e : tl ("" : Str) = [] := by decide +kernel
  rw [e, joinL_nil, show (tl ∘ mkS) = id from rfl, List.map_id]
  rfl
theorem fold_app : ∀ (n : Nat) (l : List Nat) (acc : Array Nat), (List.replicate n l.toArray).foldl (· ++ ·) acc = acc ++ (List.replicate n l).flatten.toArray
  | 0, l, acc => by simp
  | n + 1, l, acc => by rw [List.replicate_succ, List.foldl_cons, fold_app n l, List.replicate_succ, List.flatten_cons]; simp
theorem mul_mk (l : List Nat) (k : Nat) : Txt.mul (mkS l) (k : Int) = mkS (List.replicate k l).flatten := by
  unfold Txt.mul
  split
  · rename_i h
    have : k = 0 := by omega
    subst this
    rfl
  · split
    · rename_i h0 h
      simp only [Bool.or_eq_true, beq_iff_eq, len_mkS] at h
      rcases h with h | h
      · have : k = 1 := by omega
        subst this
        simp
      · have : l = [] := List.length_eq_zero_iff.mp h
        subst this
        have : ∀ n : Nat, (List.replicate n ([] : List Nat)).flatten = [] := by
          intro n; induction n with
          | zero => rfl
          | succ n ih => rw [List.replicate_succ, List.flatten_cons, ih]; rfl
        rw [this]
    · apply ext_tl
      show ((List.replicate ((k : Int)).toNat (mkS l).cps).foldl (· ++ ·) #[]).toList = _
      rw [show ((k : Int)).toNat = k by omega, show (mkS l).cps = l.toArray from rfl, fold_app]
      simp
theorem q_allT {α : Type} (f : α → PyData) (xs : List α) : allT (xs.map fun x => D.t (f x)) = some (xs.map f) := by
  induction xs with
  | nil => rfl
  | cons x r ih => rw [List.map_cons, allT_cons, ih]; rfl
theorem len_flat (ps : List (List Nat)) : ((ps.map mkS).map (·.length)).sum = ps.flatten.length := by
  induction ps with
  | nil => rfl
  | cons p r ih => simp only [List.map_cons, List.sum_cons, ih, List.flatten_cons, List.length_append, len_mkS]
/-- sep.join of texts -/
theorem q_joinM {ev : Nv} {S : So} (sep : List Nat) (ps : List (List Nat)) (h : ps.flatten.length + ps.length * sep.length ≤ 16777216) : fJoin ev S (.t (.str (mkS sep))) [.t (.list (ps.map fun l => .str (mkS l)))] = some (.t (.str (mkS (joinL sep ps)))) := by
  have e : (ps.map fun l => PyData.str (mkS l)).map D.t = (ps.map mkS).map fun x => D.t (.str x) := by rw [List.map_map, List.map_map]; rfl
  unfold fJoin
  show (viewQ ev S (.t (.list _))).bind _ = _
  unfold viewQ
  rw [viewL_t, e]
  show (allS _).bind _ = _
  rw [allS_map]
  show (if _ then _ else _) = _
  rw [len_mkS, len_flat, List.length_map, if_pos h]
  congr 3
  apply ext_tl
  rw [join_eq, tl_join, List.map_map, show (tl ∘ mkS) = id from rfl, List.map_id]
  rfl
theorem q_join0 {ev : Nv} {S : So} (ps : List (List Nat)) (h : ps.flatten.length ≤ 16777216) : fJoin ev S (.t (.str (mkS []))) [.t (.list (ps.map fun l => .str (mkS l)))] = some (.t (.str (mkS ps.flatten))) := by
  rw [q_joinM [] ps (by simpa using h), joinL_nil]
theorem ones_mapF {α : Type} (f : α → D) (xs : List α) : ones (xs.map f) = xs.map fun x => .one (f x) := by
  unfold ones
  rw [List.map_map]
  rfl
theorem atI_nat {α : Type} {xs : List α} {i : Int} (h0 : 0 ≤ i) (h1 : i < xs.length) : atI xs i = xs[i.toNat]? := by
  unfold atI ixN
  rw [if_pos h0, if_pos h1]
  rfl
theorem ite_of {c a b : Prop} [Decidable c] (h1 : c → a) (h2 : ¬ c → b) : if c then a else b := by
  by_cases h : c
  · rw [if_pos h]; exact h1 h
  · rw [if_neg h]; exact h2 h
section
variable {ev : Nv} {S : So}
theorem q_catM {l r : List Nat} (h : l.length + r.length ≤ sizeLine) : dAdd ev S (.t (.str (mkS l))) (.t (.str (mkS r))) = some (.t (.str (mkS (l ++ r)))) := by
  rw [q_catS (by rw [len_mkS, len_mkS]; exact h), mkS_app]
theorem q_lenM {l : List Nat} (h : l.length ≤ sizeLine) : bLen ev S [.t (.str (mkS l))] = some (.t (.int (l.length : Int))) := by
  rw [q_lenS (by rw [len_mkS]; exact h), len_mkS]
theorem q_ixM {l : List Nat} {i : Int} (h : l.length ≤ sizeLine) : dIx ev S (.t (.str (mkS l))) (.t (.int i)) = (atI l i).map fun c => .t (.str (mkS [c])) := by
  rw [q_ixS (by rw [len_mkS]; exact h), cps_mkS]; rfl
theorem q_slM {l : List Nat} {lo hi : Option Int} (h : l.length ≤ sizeLine) : dSl ev S (.t (.str (mkS l))) lo hi = some (.t (.str (mkS (cut l lo hi)))) := by
  rw [q_slS (by rw [len_mkS]; exact h), cutS_mk]
theorem q_mulM {l : List Nat} {k : Int} (h0 : 0 ≤ k) (h2 : k < 2 ^ 63) (h : l.length * k.toNat ≤ sizeLine) : dMul ev S (.t (.str (mkS l))) (.t (.int k)) = some (.t (.str (mkS (List.replicate k.toNat l).flatten))) := by
  rw [q_mulS (by omega) h2 (by rw [len_mkS]; exact h)]
  have e : k = ((k.toNat : Nat) : Int) := by omega
  rw [e, mul_mk, Int.toNat_natCast]
theorem q_eqM (l r : List Nat) : dEq ev S (.t (.str (mkS l))) (.t (.str (mkS r))) = some (.t (.bool (decide (l = r)))) := by
  rw [q_eqS]; simp only [mkS_inj]
theorem q_neM (l r : List Nat) : dNe ev S (.t (.str (mkS l))) (.t (.str (mkS r))) = some (.t (.bool (!decide (l = r)))) := by
  rw [q_neS]; simp only [mkS_inj]
theorem q_inM (c : Nat) (r : List Nat) : dIn ev S (.t (.str (mkS [c]))) (.t (.str (mkS r))) = some (.t (.bool (decide (c ∈ r)))) := rfl
theorem q_notInM (c : Nat) (r : List Nat) : dNotIn ev S (.t (.str (mkS [c]))) (.t (.str (mkS r))) = some (.t (.bool (!decide (c ∈ r)))) := rfl
theorem q_itM (l : List Nat) : itOf S (.t (.str (mkS l))) = some ⟨l.map fun c => .one (.t (.str (mkS [c]))), fun _ => True⟩ := by
  rw [q_itS, cps_mkS, ones_mapF]; rfl
theorem cut_to {α : Type} {l : List α} {i : Int} (h : 0 ≤ i) : cut l none (some i) = l.take i.toNat := by
  have e : i = ((i.toNat : Nat) : Int) := by omega
  unfold cut
  rw [e, HT.sIx_nat, HT.sIx_none, List.drop_zero, Nat.sub_zero, Int.toNat_natCast]
  by_cases h2 : i.toNat ≤ l.length
  · rw [Nat.min_eq_left h2]
  · rw [Nat.min_eq_right (by omega), List.take_of_length_le (by omega), List.take_of_length_le (by omega)]
theorem cut_from {α : Type} {l : List α} {i : Int} (h : 0 ≤ i) : cut l (some i) none = l.drop i.toNat := by
  have e : i = ((i.toNat : Nat) : Int) := by omega
  unfold cut
  rw [e, HT.sIx_nat, HT.sIx_none, Int.toNat_natCast]
  by_cases h2 : i.toNat ≤ l.length
  · rw [Nat.min_eq_left h2, List.take_of_length_le (by simp)]
  · rw [Nat.min_eq_right (by omega), List.drop_of_length_le (by omega), List.drop_of_length_le (by omega)]; simp
theorem cut_mid {α : Type} {l : List α} {i j : Int} (h : 0 ≤ i) (h2 : 0 ≤ j) : cut l (some i) (some j) = (l.drop i.toNat).take (j.toNat - i.toNat) := by
  have e : i = ((i.toNat : Nat) : Int) := by omega
  have e2 : j = ((j.toNat : Nat) : Int) := by omega
  unfold cut
  rw [e, e2, HT.sIx_nat, HT.sIx_nat, Int.toNat_natCast, Int.toNat_natCast]
  by_cases h3 : i.toNat ≤ l.length
  · rw [Nat.min_eq_left h3]
    by_cases h4 : j.toNat ≤ l.length
    · rw [Nat.min_eq_left h4]
    · rw [Nat.min_eq_right (by omega), List.take_of_length_le (by simp), List.take_of_length_le (by simp; omega)]
  · rw [Nat.min_eq_right (a := i.toNat) (b := l.length) (by omega), List.drop_of_length_le (by omega), List.drop_of_length_le (by omega)]; simp
theorem cut_all' {α : Type} {l : List α} : cut l none none = l := by
  unfold cut; rw [HT.sIx_none, HT.sIx_none]; simp
theorem sl_eq : sizeLine = 16777216 := rfl
theorem atI_lt {α : Type} {l : List α} {i : Int} (h0 : 0 ≤ i) (h1 : i < l.length) : ∃ c, c ∈ l ∧ atI l i = some c := by
  have h2 : i.toNat < l.length := by omega
  exact ⟨l[i.toNat], List.getElem_mem h2, by rw [atI_nat h0 h1, List.getElem?_eq_getElem h2]⟩
end
theorem comp_run' {α : Type} {g : Tg} {c : Mm Bool} {e : EM} {vs : List Nat} {chk : So → Prop} (f : α → Im) (p : α → Bool) (h : α → D) (ev : Nv) (S : So) (hc : chk S) : ∀ (xs : List α)
    (step : ∀ x ∈ xs, ∃ e1 e2, g (f x) ev S = some e1 ∧ c e1 S = some (.ok (p x), e2, S) ∧ (p x = true → ∃ e4, bnd (e e2 S) esc = some (.ok (h x), e4, S) ∧ wipeN e4 vs = ev) ∧ (p x = false → wipeN e2 vs = ev))
    (acc : List D) (hl : acc.length + xs.length ≤ sizeLine), compL g c e vs chk (xs.map f) acc ev S = some (.ok (acc ++ (xs.filter p).map h), ev, S)
  | [], _, acc, _ => by
    simp only [List.map_nil, compL, List.filter_nil, List.append_nil]
    rw [if_pos hc]
  | x :: xs, step, acc, hl => by
    have hl2 : acc.length + xs.length + 1 ≤ sizeLine := by simp only [List.length_cons] at hl; omega
    obtain ⟨e1, e2, h1, h2, h3, h4⟩ := step x (by simp)
    have again := fun acc hl => comp_run' f p h ev S hc xs (fun y hy => step y (by simp [hy])) acc hl
    rw [List.map_cons, compL, if_pos hc, h1]
    dsimp only
    rw [h2]
    cases hp : p x with
    | false =>
      dsimp only
      rw [h4 hp, again acc (by omega), List.filter_cons_of_neg (by simp [hp])]
    | true =>
      obtain ⟨e4, q1, q3⟩ := h3 hp
      rcases bnd_eq q1 with ⟨_, _, z⟩ | ⟨y, e3, s3, q4, q5⟩
      · cases z
      dsimp only
      rw [q4]
      dsimp only
      rw [q5]
      dsimp only
      rw [if_pos (by omega), q3, again (acc ++ [h x]) (by simp; omega), List.filter_cons_of_pos hp]
      simp
theorem at0 {α : Type} (a : α) (l : List α) : atI (a :: l) 0 = some a := by rw [atI_nat (by decide) (by simp only [List.length_cons]; omega)]; rfl
theorem at1 {α : Type} (a b : α) (l : List α) : atI (a :: b :: l) 1 = some b := by rw [atI_nat (by decide) (by simp only [List.length_cons]; omega)]; rfl
theorem at2 {α : Type} (a b c : α) (l : List α) : atI (a :: b :: c :: l) 2 = some c := by rw [atI_nat (by decide) (by simp only [List.length_cons]; omega)]; rfl
theorem at3 {α : Type} (a b c d : α) (l : List α) : atI (a :: b :: c :: d :: l) 3 = some d := by rw [atI_nat (by decide) (by simp only [List.length_cons]; omega)]; rfl
theorem at4 {α : Type} (a b c d e : α) (l : List α) : atI (a :: b :: c :: d :: e :: l) 4 = some e := by rw [atI_nat (by decide) (by simp only [List.length_cons]; omega)]; rfl
theorem at5 {α : Type} (a b c d e f : α) (l : List α) : atI (a :: b :: c :: d :: e :: f :: l) 5 = some f := by rw [atI_nat (by decide) (by simp only [List.length_cons]; omega)]; rfl
theorem at6 {α : Type} (a b c d e f g : α) (l : List α) : atI (a :: b :: c :: d :: e :: f :: g :: l) 6 = some g := by rw [atI_nat (by decide) (by simp only [List.length_cons]; omega)]; rfl
theorem at7 {α : Type} (a b c d e f g h : α) (l : List α) : atI (a :: b :: c :: d :: e :: f :: g :: h :: l) 7 = some h := by rw [atI_nat (by decide) (by simp only [List.length_cons]; omega)]; rfl
theorem at8 {α : Type} (a b c d e f g h i : α) (l : List α) : atI (a :: b :: c :: d :: e :: f :: g :: h :: i :: l) 8 = some i := by rw [atI_nat (by decide) (by simp only [List.length_cons]; omega)]; rfl
theorem at9 {α : Type} (a b c d e f g h i j : α) (l : List α) : atI (a :: b :: c :: d :: e :: f :: g :: h :: i :: j :: l) 9 = some j := by rw [atI_nat (by decide) (by simp only [List.length_cons]; omega)]; rfl
theorem at10 {α : Type} (a b c d e f g h i j k : α) (l : List α) : atI (a :: b :: c :: d :: e :: f :: g :: h :: i :: j :: k :: l) 10 = some k := by rw [atI_nat (by decide) (by simp only [List.length_cons]; omega)]; rfl
theorem at11 {α : Type} (a b c d e f g h i j k m : α) (l : List α) : atI (a :: b :: c :: d :: e :: f :: g :: h :: i :: j :: k :: m :: l) 11 = some m := by rw [atI_nat (by decide) (by simp only [List.length_cons]; omega)]; rfl
theorem at12 {α : Type} (a b c d e f g h i j k m n : α) (l : List α) : atI (a :: b :: c :: d :: e :: f :: g :: h :: i :: j :: k :: m :: n :: l) 12 = some n := by rw [atI_nat (by decide) (by simp only [List.length_cons]; omega)]; rfl
theorem at13 {α : Type} (a b c d e f g h i j k m n o : α) (l : List α) : atI (a :: b :: c :: d :: e :: f :: g :: h :: i :: j :: k :: m :: n :: o :: l) 13 = some o := by rw [atI_nat (by decide) (by simp only [List.length_cons]; omega)]; rfl
theorem at14 {α : Type} (a b c d e f g h i j k m n o p : α) (l : List α) : atI (a :: b :: c :: d :: e :: f :: g :: h :: i :: j :: k :: m :: n :: o :: p :: l) 14 = some p := by rw [atI_nat (by decide) (by simp only [List.length_cons]; omega)]; rfl
theorem at15 {α : Type} (a b c d e f g h i j k m n o p q : α) (l : List α) : atI (a :: b :: c :: d :: e :: f :: g :: h :: i :: j :: k :: m :: n :: o :: p :: q :: l) 15 = some q := by rw [atI_nat (by decide) (by simp only [List.length_cons]; omega)]; rfl
theorem at16 {α : Type} (a b c d e f g h i j k m n o p q r : α) (l : List α) : atI (a :: b :: c :: d :: e :: f :: g :: h :: i :: j :: k :: m :: n :: o :: p :: q :: r :: l) 16 = some r := by rw [atI_nat (by decide) (by simp only [List.length_cons]; omega)]; rfl
theorem at17 {α : Type} (a b c d e f g h i j k m n o p q r s : α) (l : List α) : atI (a :: b :: c :: d :: e :: f :: g :: h :: i :: j :: k :: m :: n :: o :: p :: q :: r :: s :: l) 17 = some s := by rw [atI_nat (by decide) (by simp only [List.length_cons]; omega)]; rfl
theorem at18 {α : Type} (a b c d e f g h i j k m n o p q r s t : α) (l : List α) : atI (a :: b :: c :: d :: e :: f :: g :: h :: i :: j :: k :: m :: n :: o :: p :: q :: r :: s :: t :: l) 18 = some t := by rw [atI_nat (by decide) (by simp only [List.length_cons]; omega)]; rfl
theorem at19 {α : Type} (a b c d e f g h i j k m n o p q r s t u : α) (l : List α) : atI (a :: b :: c :: d :: e :: f :: g :: h :: i :: j :: k :: m :: n :: o :: p :: q :: r :: s :: t :: u :: l) 19 = some u := by rw [atI_nat (by decide) (by simp only [List.length_cons]; omega)]; rfl
/-- a comprehension that leaves the cells: each item by itself -/
theorem wp_comp {it : Mm Itr} {g : Tg} {c : Mm Bool} {e : EM} {vs : List Nat} {ev e1 : Nv} {S s1 : So} {I : Itr} {α : Type} (f : α → Im) (p : α → Bool) (h : α → D) (xs : List α) (hi : it ev S = some (.ok I, e1, s1)) (hx : I.its = xs.map f) (hl : xs.length ≤ sizeLine) (hc : I.chk s1)
    (step : ∀ x ∈ xs, ∃ e2, g (f x) (wipeN e1 vs) s1 = some e2 ∧ Wp (c e2 s1) fun r e3 s3 => r = .ok (p x) ∧ s3 = s1 ∧ if p x = true then Wp (bK (e e3 s1) esc) fun r e5 s => r = .ok (h x) ∧ s = s1 ∧ wipeN e5 vs = wipeN e1 vs else wipeN e3 vs = wipeN e1 vs) :
    lComp it g c e vs ev S = some (.ok ((xs.filter p).map h), restN e1 (wipeN e1 vs) vs, s1) := by
  have q := comp_run' (c := c) (e := e) (vs := vs) (chk := I.chk) f p h (wipeN e1 vs) s1 hc xs (fun x hx => by
    obtain ⟨e2, h1, r, e3, s3, h2, rfl, rfl, h3⟩ := step x hx
    refine ⟨e2, e3, h1, h2, fun hp => ?_, fun hp => ?_⟩
    · rw [if_pos hp] at h3
      obtain ⟨r, e5, s, h4, rfl, rfl, h6⟩ := h3
      exact ⟨e5, h4, h6⟩
    · rw [if_neg (by rw [hp]; decide)] at h3
      exact h3) [] (by simpa using hl)
  rw [List.nil_append, ← hx] at q
  exact x_comp hi q
/-- without an if -/
theorem wp_compA {it : Mm Itr} {g : Tg} {e : EM} {vs : List Nat} {ev e1 : Nv} {S s1 : So} {I : Itr} {α : Type} (f : α → Im) (h : α → D) (xs : List α) (hi : it ev S = some (.ok I, e1, s1)) (hx : I.its = xs.map f) (hl : xs.length ≤ sizeLine) (hc : I.chk s1)
    (step : ∀ x ∈ xs, ∃ e2, g (f x) (wipeN e1 vs) s1 = some e2 ∧ Wp (bK (e e2 s1) esc) fun r e5 s => r = .ok (h x) ∧ s = s1 ∧ wipeN e5 vs = wipeN e1 vs) :
    lComp it g mYes e vs ev S = some (.ok (xs.map h), restN e1 (wipeN e1 vs) vs, s1) := by
  have q := wp_comp (c := mYes) (e := e) f (fun _ => true) h xs hi hx hl hc fun x hx => by
    obtain ⟨e2, h1, h2⟩ := step x hx
    exact ⟨e2, h1, .ok true, e2, s1, rfl, rfl, rfl, by rw [if_pos rfl]; exact h2⟩
  rw [List.filter_eq_self.mpr (fun _ _ => rfl)] at q
  exact q
end Cl

namespace Cl
open PySem L2 RZ
/-! ## objects: rules whose raised things are wished for at the caller's slots -/
section
variable {X : Cx} {CX : CXT} {k : Nat} {f C : Addr} {fd : FuncData} {ps : List Str} {sp : Sp} {E : L2.St → XK} {x m : Str} {p pos apos : Pos} {e o : Expr} {es : List Expr} {ta : TE} {t : TA}
def tMethS (C : Addr) (m : Str) (sp : Sp) (E : L2.St → XK) (ta : TE) (t : TA) : TE := fun σ H Q => ta σ H fun x H1 => ∃ a dx fs, x = .ref a ∧ H1 a = some (.ins C dx fs) ∧ fs.lookup m = none ∧ t σ H1 fun vs H2 => sp (x :: vs) H2 Q (E σ)
def tMakeS (C : Addr) (sp : Sp) (E : L2.St → XK) (t : TA) : TE := fun σ H Q => t σ H fun vs H1 => ∀ x dx, H1 x = none → H1 dx = none → dx ≠ x →
  sp (.ref x :: vs) (upd (upd H1 dx (.own x)) x (.ins C dx [])) (fun v H2 => v = .non ∧ Q (.ref x) H2) (E σ)
theorem pe_methS {pl : Sem Bool} (he : PE X o ta) (c : Cls X.K C) (hm : Meth X.K C m f) (F : FnG X.prog X.w X.K X.mg X.base CX k f fd ps sp) (gd : X.A.guards = some []) (hr : Room k X.A) (hb : Binds X.K fd ps []) (hx : ∀ σ, PassesAt CX X σ (E σ)) (ha : PA X (e :: es) t)
    (hst : starEach (e :: es) X.env = (false, eval e X.env) :: starEach es X.env := by rfl) (hpl : (backTo pos (starEach es X.env)).any (·.1) = false := by rfl)
    (ht : eval (.Call (.Attribute o m apos) (e :: es) [] pos) X.env = (do
      let ov ← eval o X.env; standAt apos.atName
      let (f, first) ← holding [ov] (getMethod ov m pl); callWith pos f first (backTo pos (starEach (e :: es) X.env)) (backToKw pos (keywordEach [] X.env))) := by rfl) :
    PE X (.Call (.Attribute o m apos) (e :: es) [] pos) (tMethS C m sp E ta t) := by
  refine ⟨fun pins s σ H Q I h => ?_⟩
  refine PySem.W.methodCall_KW (pl := pl) (thn (he.run pins s σ H _ I h) fun ov s1 ⟨y, Ha, Ia, ry, a, dx, fs, ey, ea, l, q⟩ => ?_) ht
  subst ey
  obtain rfl : ov = Value.ref a := ry
  refine getmeth_ok Ia ea c hm l ?_
  refine PySem.W.callWith_K (first := [.ref a]) (h₀ := X.base) I.ok.mod.kin hm.kp (thn (ha.run pos pins s1 σ Ha _ Ia q) fun us s2 ⟨vs, Hb, Ib, r, q2⟩ => ⟨Ib.kIn, ?_⟩) hst hpl
  exact run_fnG (dvs := []) (us := .ref a :: us) (vs := .ref a :: vs) F gd hr hb .nil (hx σ) Ib (.cons rfl r) (by rw [List.append_nil]; exact q2)
theorem pe_meth0S {pl : Sem Bool} (he : PE X o ta) (c : Cls X.K C) (hm : Meth X.K C m f) (F : FnG X.prog X.w X.K X.mg X.base CX k f fd ps sp) (gd : X.A.guards = some []) (hr : Room k X.A) (hb : Binds X.K fd ps []) (hx : ∀ σ, PassesAt CX X σ (E σ))
    (ht : eval (.Call (.Attribute o m apos) [] [] pos) X.env = (do
      let ov ← eval o X.env; standAt apos.atName
      let (f, first) ← holding [ov] (getMethod ov m pl); callWith pos f first (backTo pos (starEach [] X.env)) (backToKw pos (keywordEach [] X.env))) := by rfl) :
    PE X (.Call (.Attribute o m apos) [] [] pos) (tMethS C m sp E ta tNil) := by
  refine ⟨fun pins s σ H Q I h => ?_⟩
  refine PySem.W.methodCall_KW (pl := pl) (thn (he.run pins s σ H _ I h) fun ov s1 ⟨y, Ha, Ia, ry, a, dx, fs, ey, ea, l, q⟩ => ?_) ht
  subst ey
  obtain rfl : ov = Value.ref a := ry
  refine getmeth_ok Ia ea c hm l ?_
  exact PySem.W.callWith_K0 (first := [.ref a]) Ia.kIn hm.kp (run_fnG (dvs := []) (us := [.ref a]) (vs := [.ref a]) F gd hr hb .nil (hx σ) Ia (.cons rfl .nil) q)
theorem guards_make {A : Around} (gd : A.guards = some []) (C : Addr) (us : List Value) : (A.under (.builtin "type.__call__" ⟨.ref C :: us, []⟩)).guards = some [] := by
  have z : guardIds.contains "type.__call__" = false := by decide +kernel
  have e : (Code.builtin "type.__call__" ⟨.ref C :: us, []⟩).guards = [] := by
    show (if guardIds.contains "type.__call__" = true then _ else _) = _
    rw [z]; rfl
  show pushGuards (Code.builtin "type.__call__" ⟨.ref C :: us, []⟩).guards A.guards = some []
  rw [e]; exact gd
theorem run_makeS {pins : List (Addr × Obj)} {σ : L2.St} {H : Hp} {s : Shared} {Q : VK} {us : List Value} {vs : List V} (M : Mk X.K C f) (F : FnG X.prog X.w X.K X.mg X.base CX k f fd ps sp) (gd : X.A.guards = some []) (hr : Room (k + 1) X.A) (hb : Binds X.K fd ps [])
    (hx : PassesAt CX X σ (E σ)) (I : Inv X pins σ H s) (r : Vals vs us)
    (h : ∀ x dx, H x = none → H dx = none → dx ≠ x → sp (.ref x :: vs) (upd (upd H dx (.own x)) x (.ins C dx [])) (fun v H2 => v = .non ∧ Q (.ref x) H2) (E σ)) :
    wpAny (model X.prog X.w) X.A (call (.ref C) us) (EP X pins σ Q) X.xe s := by
  have g := h (s.heap.objs.size + 1) s.heap.objs.size (I.hok.fresh (Nat.le_succ _)) (I.hok.fresh (Nat.le_refl _)) (Nat.ne_of_lt (Nat.lt_succ_self _))
  have J := Inv.made (C := C) I
  have rr : Vals (V.ref (s.heap.objs.size + 1) :: vs) (Value.ref (s.heap.objs.size + 1) :: us) := .cons rfl r
  have hl : (Value.ref (s.heap.objs.size + 1) :: us ++ []).length = ps.length := by
    have e := rr.length
    rw [F.len _ _ _ _ g] at e
    rw [List.append_nil]; exact e.symm
  have hbb := hb _ (Value.ref (s.heap.objs.size + 1) :: us) J.kIn hl
  rw [List.append_nil] at hbb
  refine wpAny_call (make_map (f := f) I.kIn M.makes M.init (beq_iff_eq.mp M.fn) (codeAny_mono (F.run _ X.stack _ _ ⟨Value.ref (s.heap.objs.size + 1) :: us, []⟩ (Value.ref (s.heap.objs.size + 1) :: us) _ _ (E σ) (guards_make gd C us) (hr.make C us []) (J.env0.make C us []) hbb rr g) fun z s' hq => ?_))
  cases z with
  | error e => exact hx pins _ _ e s' J hq
  | ok fl =>
    cases fl with
    | ret u =>
      obtain ⟨v, H', I3, rv, ev, q3⟩ := J.after hq
      subst ev
      exact ⟨rv, ⟨V.ref (s.heap.objs.size + 1), H', I3, rfl, q3⟩⟩
    | next => exact hq.elim
    | brk => exact hq.elim
    | cont => exact hq.elim
theorem pe_makeS (M : Mk X.K C f) (F : FnG X.prog X.w X.K X.mg X.base CX k f fd ps sp) (gd : X.A.guards = some []) (hr : Room (k + 1) X.A) (hg : Gl X x) (hm : X.mg x = some (.ref C)) (hb : Binds X.K fd ps []) (hx : ∀ σ, PassesAt CX X σ (E σ))
    (ha : PA X (e :: es) t) (hdb : (x == ("__debug__" : Str)) = false := by decide) (he : starEach (e :: es) X.env = (false, eval e X.env) :: starEach es X.env := by rfl) (hpl : (backTo pos (starEach es X.env)).any (·.1) = false := by rfl) :
    PE X (.Call (.Name x p) (e :: es) [] pos) (tMakeS C sp E t) := by
  refine ⟨fun pins s σ H Q I h => ?_⟩
  refine wpAny_Call_Name_kw (ld_glob I hg hm ?_ hdb)
  refine PySem.W.callWith_K (h₀ := X.base) I.ok.mod.kin M.kp (thn (ha.run pos pins s σ H _ I h) fun us s1 ⟨vs, Ha, Ia, r, q⟩ => ⟨Ia.kIn, ?_⟩) he hpl
  exact run_makeS M F gd hr hb (hx σ) Ia r q
theorem pe_make0S (M : Mk X.K C f) (F : FnG X.prog X.w X.K X.mg X.base CX k f fd ps sp) (gd : X.A.guards = some []) (hr : Room (k + 1) X.A) (hg : Gl X x) (hm : X.mg x = some (.ref C)) (hb : Binds X.K fd ps []) (hx : ∀ σ, PassesAt CX X σ (E σ))
    (hdb : (x == ("__debug__" : Str)) = false := by decide) : PE X (.Call (.Name x p) [] [] pos) (tMakeS C sp E tNil) := by
  refine ⟨fun pins s σ H Q I h => ?_⟩
  refine wpAny_Call_Name_kw (ld_glob I hg hm ?_ hdb)
  exact PySem.W.callWith_K0 I.kIn M.kp (run_makeS (us := []) M F gd hr hb (hx σ) I .nil h)
end
/-! ## the machine of objects -/
def putFD (f : Str) (v : D) : List (Str × D) → List (Str × D)
  | [] => [(f, v)]
  | (g, x) :: r => if g = f then (g, v) :: r else (g, x) :: putFD f v r
def objAt (S : So) : D → Option (Nat × Nat × List (Str × D))
  | .r n => match S[n]? with
    | some (.obj c fs) => some (n, c, fs)
    | _ => none
  | _ => none
/-- e.f, of an object of one of these classes -/
def dFld (cs : List Nat) (f : Str) : F1 := fun _ S x => match objAt S x with
  | some (_, c, fs) => if c ∈ cs then fs.lookup f else none
  | none => none
/-- o.f = e -/
def sFldM (cs : List Nat) (f : Str) (o e : EM) : SM := fun ev S => bndS (e ev S) fun x ev S => bndS (esc x ev S) fun d ev S => bndS (o ev S) fun y ev S => match objAt S y with
  | some (n, c, fs) => if c ∈ cs ∧ fs.length < 1000 then some (.nx, ev, S.set n (.obj c (putFD f d fs))) else none
  | none => none
/-- o.m(..), by the class of o -/
def mMeth (m : Str) (tb : List (Nat × Fn)) (o : EM) (a : Mm (List D)) : EM := fun ev S => bnd (o ev S) fun x ev S => match objAt S x with
  | some (_, c, fs) => match tb.lookup c, fs.lookup m with
    | some g, none => bnd (mEsc a ev S) fun xs ev S => match g (x :: xs) S with
      | some (r, S') => some (r, ev, S')
      | none => none
    | _, _ => none
  | none => none
/-- C(..) -/
def mMake (c : Nat) (g : Fn) (a : Mm (List D)) : EM := fun ev S => bnd (mEsc a ev S) fun xs ev S => match g (.r S.length :: xs) (S ++ [.obj c []]) with
  | some (.ok (.t .none), S') => some (.ok (.r S.length), ev, S')
  | some (.ex x, S') => some (.ex x, ev, S')
  | _ => none
section
variable {K : PySem.W.Frag} {γ : Nat → Addr} {W : WX}
theorem kr_lookup {F : Hp} {il : List Addr} {f : Str} : ∀ {gs : List (Str × V)} {fs : List (Str × D)}, KR K F il gs fs → ∀ {d : D}, fs.lookup f = some d → ∃ v, gs.lookup f = some v ∧ DR K F il [] v d
  | _, _, .nil, d, h => by cases h
  | (g, v) :: gs, (g', d') :: fs, .cons a b, d, h => by
    obtain ⟨e, h2⟩ := a
    dsimp only at e h2
    subst e
    by_cases q : f == g
    · simp only [List.lookup, q] at h ⊢
      cases h
      exact ⟨v, rfl, h2⟩
    · have q' : (f == g) = false := by simpa using q
      simp only [List.lookup, q'] at h ⊢
      exact kr_lookup b h
theorem kr_lookup0 {F : Hp} {il : List Addr} {f : Str} : ∀ {gs : List (Str × V)} {fs : List (Str × D)}, KR K F il gs fs → fs.lookup f = none → gs.lookup f = none
  | _, _, .nil, h => rfl
  | (g, v) :: gs, (g', d') :: fs, .cons a b, h => by
    obtain ⟨e, h2⟩ := a
    dsimp only at e h2
    subst e
    by_cases q : f == g
    · simp only [List.lookup, q] at h
      cases h
    · have q' : (f == g) = false := by simpa using q
      simp only [List.lookup, q'] at h ⊢
      exact kr_lookup0 b h
theorem kr_put {F : Hp} {il : List Addr} {f : Str} {v : V} {d : D} (hv : DR K F il [] v d) : ∀ {gs : List (Str × V)} {fs : List (Str × D)}, KR K F il gs fs → KR K F il (putF f v gs) (putFD f d fs)
  | _, _, .nil => .cons ⟨rfl, hv⟩ .nil
  | (g, w) :: gs, (g', d') :: fs, .cons a b => by
    obtain ⟨e, h2⟩ := a
    dsimp only at e h2
    subst e
    unfold putF putFD
    split
    · exact .cons ⟨rfl, hv⟩ b
    · exact .cons ⟨rfl, h2⟩ (kr_put hv b)
theorem objAt_ok {P O F H : Hp} {il : List Addr} {S : So} {ev : Nv} {σ : L2.St} (R : RE K γ P O F H il S ev σ) {d : D} {v : V} (h : DR K F il σ v d) {n c : Nat} {fs : List (Str × D)} (q : objAt S d = some (n, c, fs)) :
    ∃ a dx gs, d = .r n ∧ v = .ref a ∧ il[n]? = some a ∧ S[n]? = some (.obj c fs) ∧ F a = none ∧ H a = some (.ins (γ c) dx gs) ∧ KR K F il gs fs := by
  cases d with
  | t d => cases q
  | b i => cases q
  | r m =>
    unfold objAt at q
    dsimp only at q
    split at q
    · rename_i hc
      cases q
      obtain ⟨a, rfl, h2⟩ := h
      obtain ⟨hf, dx, gs, h3, h4⟩ := R.cl _ a _ h2 hc
      exact ⟨a, dx, gs, rfl, rfl, h2, hc, hf, h3, h4⟩
    · cases q
theorem se_fld {cs : List Nat} {f : Str} {t : TE} {m : EM} (hc : ∀ c ∈ cs, Cls K (γ c) ∧ NoAttr K (γ c) f) (h : SE K γ W t m) : SE K γ W (tFld K t f) (mUn (dFld cs f) m) := by
  intro P O F H il S ev σ R r ev' S' hm Q k
  rcases bnd_eq hm with ⟨x, q, rfl⟩ | ⟨dx, e1, s1, q, hm⟩
  · exact h P O F H il S ev σ R _ _ _ q _ fun O1 F1 H1 il1 sf pf R1 => k O1 F1 H1 il1 sf pf R1
  · refine h P O F H il S ev σ R _ _ _ q _ fun O1 F1 H1 il1 sf pf R1 v hv => ?_
    obtain ⟨d, q3, rfl, rfl, rfl⟩ := ans_eq hm
    unfold dFld at q3
    split at q3
    · rename_i n c fs ho
      split at q3
      · rename_i hcs
        obtain ⟨a, dx, gs, rfl, rfl, h1, h2, h3, h4, h5⟩ := objAt_ok R1 hv ho
        obtain ⟨u, g1, g2⟩ := kr_lookup h5 q3
        exact ⟨a, γ c, dx, gs, u, rfl, h4, (hc c hcs).1, (hc c hcs).2, g1, k O1 F1 H1 il1 sf pf R1 u (DR.up g2)⟩
      · cases q3
    · cases q3
theorem ss_fldM {cs : List Nat} {f : Str} {to te : TE} {mo me : EM} (hc : ∀ c ∈ cs, Cls K (γ c) ∧ NoAttr K (γ c) f) (ho : SE K γ W to mo) (he : SE K γ W te me) : SS K γ W (sFld K to te f) (sFldM cs f mo me) := by
  intro P O F H il S ev σ R fl ev' S' hm E k
  rcases bndS_eq hm with ⟨x, q, rfl⟩ | ⟨dx, e1, s1, q, hm⟩
  · exact he P O F H il S ev σ R _ _ _ q _ fun O1 F1 H1 il1 sf pf R1 => k O1 F1 H1 il1 σ sf pf R1
  · refine he P O F H il S ev σ R _ _ _ q _ fun O1 F1 H1 il1 sf pf R1 v hv => ?_
    rcases bndS_eq hm with ⟨x, q', _⟩ | ⟨d, e2, s2, q', hm⟩
    · obtain ⟨_, _, _, _, z, _⟩ := esc_ok R1 hv q'
      cases z
    · obtain ⟨d', O2, F2, il2, z, sf2, pf2, R2, hd⟩ := esc_ok R1 hv q'
      cases z
      rcases bndS_eq hm with ⟨x, q2, rfl⟩ | ⟨y, e3, s3, q2, hm⟩
      · exact ho P O2 F2 H1 il2 s2 e2 σ R2 _ _ _ q2 _ fun O3 F3 H3 il3 sf3 pf3 R3 => k O3 F3 H3 il3 σ ((sf.trans sf2).trans sf3) ((pf.trans pf2).trans pf3) R3
      · refine ho P O2 F2 H1 il2 s2 e2 σ R2 _ _ _ q2 _ fun O3 F3 H3 il3 sf3 pf3 R3 u hu => ?_
        split at hm
        · rename_i n c fs hoa
          split at hm
          · rename_i hcs
            cases hm
            obtain ⟨a, dx, gs, rfl, rfl, h1, h2, h3, h4, h5⟩ := objAt_ok R3 hu hoa
            have hl : gs.length = fs.length := PySem.Paired.length h5
            refine ⟨a, γ c, dx, gs, rfl, h4, (hc c hcs.1).1, (hc c hcs.1).2, by rw [hl]; exact hcs.2, ?_⟩
            refine k O3 F3 _ il3 σ ((sf.trans sf2).trans sf3) ((pf.trans pf2).trans pf3) (R3.setC h1 h2 rfl rfl ?_)
            exact ⟨h3, dx, _, upd_same, kr_put (DR.mono sf3 pf3 hd) h5⟩
          · cases hm
        · cases hm
theorem escs_len : ∀ {ds ds' : List D} {e e' : Nv} {s s' : So}, escs ds e s = some (.ok ds', e', s') → ds'.length = ds.length := by
  intro ds
  induction ds with
  | nil => intro ds' e e' s s' h; cases h; rfl
  | cons d ds ih =>
    intro ds' e e' s s' h
    rcases bnd_eq h with ⟨x, _, z⟩ | ⟨x, e1, s1, _, h⟩
    · cases z
    · rcases bnd_eq h with ⟨x, _, z⟩ | ⟨xs, e2, s2, q, h⟩
      · cases z
      · cases h; simp [ih q]
theorem mEsc_len {ma : Mm (List D)} {n : Nat} (hn : ∀ ev S ds e s, ma ev S = some (.ok ds, e, s) → ds.length = n) {ev e1 : Nv} {S s1 : So} {ds : List D} (q : mEsc ma ev S = some (.ok ds, e1, s1)) : ds.length = n := by
  rcases bnd_eq q with ⟨x, q0, z⟩ | ⟨ds0, e0, s0, q0, q1⟩
  · cases z
  · rw [escs_len q1, hn _ _ _ _ _ q0]
theorem se_meth {m : Str} {c : Nat} {g : Fn} {n : Nat} {to : TE} {ta : TA} {mo : EM} {ma : Mm (List D)} (ho : SE K γ W to mo) (ha : SA K γ W ta ma) (hn : ∀ ev S ds e s, ma ev S = some (.ok ds, e, s) → ds.length + 1 = n) :
    SE K γ W (tMethS (γ c) m (spc K γ n g) (fun σ cls d H => W cls d σ H) to ta) (mMeth m [(c, g)] mo ma) := by
  intro P O F H il S ev σ R r ev' S' hm Q k
  rcases bnd_eq hm with ⟨x, q, rfl⟩ | ⟨dx, e1, s1, q, hz⟩
  · exact ho P O F H il S ev σ R _ _ _ q _ fun O1 F1 H1 il1 sf pf R1 => k O1 F1 H1 il1 sf pf R1
  · refine ho P O F H il S ev σ R _ _ _ q _ fun O1 F1 H1 il1 sf pf R1 v hv => ?_
    clear hm
    split at hz
    · rename_i nn c' fs hoa
      split at hz
      · rename_i g' hg hf
        obtain ⟨a, dxx, gs, rfl, rfl, h1, h2, h3, h4, h5⟩ := objAt_ok R1 hv hoa
        have hcg : c' = c ∧ g' = g := by
          by_cases e : c' == c
          · simp only [List.lookup, e] at hg
            cases hg
            exact ⟨by simpa using e, rfl⟩
          · have e' : (c' == c) = false := by simpa using e
            simp only [List.lookup, e'] at hg
            cases hg
        obtain ⟨rfl, rfl⟩ := hcg
        refine ⟨a, dxx, gs, rfl, h4, kr_lookup0 h5 hf, ?_⟩
        rcases bnd_eq hz with ⟨x, q2, rfl⟩ | ⟨ys, e2, s2, q2, hz⟩
        · exact sa_esc ha R1 q2 _ fun O2 F2 H2 il2 sf2 pf2 R2 => k O2 F2 H2 il2 (sf.trans sf2) (pf.trans pf2) R2
        · refine sa_esc ha R1 q2 _ fun O2 F2 H2 il2 sf2 pf2 R2 vs hvs => ?_
          split at hz
          · rename_i r' S2 hc2
            cases hz
            refine ⟨?_, pun P O2, F2, il2, s2, .r nn :: ys, r, S', R2.enter, .cons ⟨a, rfl, pref_get pf2 h1⟩ hvs, hc2, fun F3 H3 il3 sf3 pf3 R3 => ?_⟩
            · have := mEsc_len (n := n - 1) (fun ev S ds e s z => by have := hn ev S ds e s z; omega) q2
              have h0 := hn
              rw [List.length_cons, PySem.Paired.length hvs, this]
              rcases bnd_eq q2 with ⟨x, q0, z⟩ | ⟨ds0, e0, s0, q0, q1⟩
              · cases z
              · have := hn _ _ _ _ _ q0
                omega
            · have R4 := R2.leave sf3 pf3 R3
              cases r with
              | ok d => exact fun v hv => k O2 F3 H3 il3 ((sf.trans sf2).trans sf3) ((pf.trans pf2).trans pf3) R4 v (DR.up hv)
              | ex x => exact fun cls dx hx => k O2 F3 H3 il3 ((sf.trans sf2).trans sf3) ((pf.trans pf2).trans pf3) R4 cls dx hx
          · cases hz
      · cases hz
    · cases hz
/-- two readings of one text -/
theorem se_or {t u : TE} {m m1 m2 : EM} (h : ∀ ev S r, m ev S = some r → m1 ev S = some r ∨ m2 ev S = some r) (h1 : SE K γ W t m1) (h2 : SE K γ W u m2) : SE K γ W (fun σ H Q => t σ H Q ∨ u σ H Q) m := by
  intro P O F H il S ev σ R r ev' S' hm Q k
  rcases h _ _ _ hm with q | q
  · exact .inl (h1 P O F H il S ev σ R _ _ _ q Q k)
  · exact .inr (h2 P O F H il S ev σ R _ _ _ q Q k)
theorem mMeth_app {m : Str} {t1 t2 : List (Nat × Fn)} {o : EM} {a : Mm (List D)} : ∀ ev S r, mMeth m (t1 ++ t2) o a ev S = some r → mMeth m t1 o a ev S = some r ∨ mMeth m t2 o a ev S = some r := by
  intro ev S r h
  unfold mMeth at h ⊢
  cases ho : o ev S with
  | none => rw [ho] at h; cases h
  | some p =>
    obtain ⟨q, e1, s1⟩ := p
    rw [ho] at h
    cases q with
    | ex x => exact .inl h
    | ok x =>
      rw [bnd_ok] at h ⊢
      rw [bnd_ok]
      split at h
      · rename_i nn c fs hoa
        cases hl : t1.lookup c with
        | some g =>
          have e : (t1 ++ t2).lookup c = some g := by rw [List.lookup_append, hl]; rfl
          rw [e] at h
          exact .inl h
        | none =>
          have e : (t1 ++ t2).lookup c = t2.lookup c := by rw [List.lookup_append, hl]; rfl
          rw [e] at h
          exact .inr h
      · cases h
theorem se_make {c : Nat} {g : Fn} {n : Nat} {ta : TA} {ma : Mm (List D)} (ha : SA K γ W ta ma) (hn : ∀ ev S ds e s, ma ev S = some (.ok ds, e, s) → ds.length + 1 = n) :
    SE K γ W (tMakeS (γ c) (spc K γ n g) (fun σ cls d H => W cls d σ H) ta) (mMake c g ma) := by
  intro P O F H il S ev σ R r ev' S' hm Q k
  rcases bnd_eq hm with ⟨x, q2, rfl⟩ | ⟨ys, e2, s2, q2, hm⟩
  · exact sa_esc ha R q2 _ fun O1 F1 H1 il1 sf pf R1 => k O1 F1 H1 il1 sf pf R1
  · refine sa_esc ha R q2 _ fun O1 F1 H1 il1 sf pf R1 vs hvs x dx hx hdx ne => ?_
    have hx2 : upd H1 dx (.own x) x = none := by rw [upd_ne (Ne.symm ne)]; exact hx
    have R2 : RE K γ P O1 F1 (upd H1 dx (.own x)) il1 s2 e2 σ := R1.ext (Same.refl F1) (Same.upd hdx) (R1.fh.trans (Same.upd hdx)) fun a h _ => h
    have R3 : RE K γ P O1 F1 (upd (upd H1 dx (.own x)) x (.ins (γ c) dx [])) (il1 ++ [x]) (s2 ++ [.obj c []]) e2 σ := R2.newM hx2 ⟨(R2.fp hx2).1, dx, [], upd_same, .nil⟩
    have hat : (il1 ++ [x])[s2.length]? = some x := by rw [← R1.ln]; simp
    have hlen : (V.ref x :: vs).length = n := by
      rcases bnd_eq q2 with ⟨x, q0, z⟩ | ⟨ds0, e0, s0, q0, q1⟩
      · cases z
      · have z := hn _ _ _ _ _ q0
        rw [List.length_cons, PySem.Paired.length hvs, escs_len q1, z]
    have hds : DRs K F1 (il1 ++ [x]) [] (.ref x :: vs) (.r s2.length :: ys) := .cons ⟨x, rfl, hat⟩ (DRs.mono (Same.refl F1) (pref_app _ _) hvs)
    split at hm
    · rename_i S2 hg
      cases hm
      refine ⟨hlen, pun P O1, F1, il1 ++ [x], s2 ++ [.obj c []], .r s2.length :: ys, .ok (.t .none), S', R3.enter, hds, hg, fun F4 H4 il4 sf4 pf4 R4 v hv => ?_⟩
      have R5 := R3.leave sf4 pf4 R4
      refine ⟨by cases hv; rfl, k O1 F4 H4 il4 (sf.trans sf4) ((pf.trans (pref_app _ _)).trans pf4) R5 _ ⟨x, rfl, pref_get pf4 hat⟩⟩
    · rename_i xx S2 hg
      cases hm
      refine ⟨hlen, pun P O1, F1, il1 ++ [x], s2 ++ [.obj c []], .r s2.length :: ys, .ex xx, S', R3.enter, hds, hg, fun F4 H4 il4 sf4 pf4 R4 cls dx' hx => ?_⟩
      have R5 := R3.leave sf4 pf4 R4
      exact k O1 F4 H4 il4 (sf.trans sf4) ((pf.trans (pref_app _ _)).trans pf4) R5 cls dx' hx
    · cases hm
end
theorem PE.or {X : Cx} {e : Expr} {t u : TE} (h : PE X e t) (h' : PE X e u) : PE X e (fun σ H Q => t σ H Q ∨ u σ H Q) := ⟨fun pins s σ H Q I q => by
  rcases q with q | q
  · exact h.run pins s σ H Q I q
  · exact h'.run pins s σ H Q I q⟩
section
variable {X : Cx} {γ : Nat → Addr} {W : WX} {j k : Nat} {o a b : Expr} {mo ma mb : EM} {pos apos p : Pos} {x m : Str} {es : List Expr} {ms : Mm (List D)}
theorem ME.or {e : Expr} {m m1 m2 : EM} (h : ∀ ev S r, m ev S = some r → m1 ev S = some r ∨ m2 ev S = some r) (h1 : ME X γ W e m1) (h2 : ME X γ W e m2) : ME X γ W e m := by
  obtain ⟨t, a1, a2⟩ := h1; obtain ⟨u, b1, b2⟩ := h2
  exact ⟨_, PE.or a1 b1, se_or h a2 b2⟩
theorem me_fld (cs : List Nat) {f : Str} (hc : ∀ c ∈ cs, Cls X.K (γ c) ∧ NoAttr X.K (γ c) f) (h : ME X γ W o mo) (hb : attributeBase o f X.env (eval o X.env) = eval o X.env := by rfl) : ME X γ W (.Attribute o f pos) (mUn (dFld cs f) mo) := by
  obtain ⟨t, a1, a2⟩ := h
  exact ⟨_, pe_fld a1 hb, se_fld hc a2⟩
theorem ms_fld (cs : List Nat) {f : Str} {pos' : Pos} (hc : ∀ c ∈ cs, Cls X.K (γ c) ∧ NoAttr X.K (γ c) f) (ho : ME X γ W o mo) (he : ME X γ W a ma) (hs : swapsWith a (some (.Attribute o f pos')) pos.line X.env = pure false := by rfl) : MS X γ W (.Assign [.Attribute o f pos'] a pos) (sFldM cs f mo ma) := by
  obtain ⟨t, a1, a2⟩ := ho; obtain ⟨u, b1, b2⟩ := he
  exact ⟨_, ps_fld a1 b1 hs, ss_fldM hc a2 b2⟩
theorem me_meth {c : Nat} {f : Addr} {fd : FuncData} {ps : List Str} {g : Fn} (cx : CxK X W k) (hj : j ≤ k) (hc : Cls X.K (γ c)) (hm : Meth X.K (γ c) m f) (G : FnG X.prog X.w X.K X.mg X.base (L2.CX X.prog X.w) j f fd ps (spc X.K γ ps.length g)) (hb : Binds X.K fd ps [])
    (ho : ME X γ W o mo) (h : MA X γ W (a :: es) ms) (hl : (a :: es).length + 1 = ps.length := by rfl) {pl : Sem Bool} (hst : starEach (a :: es) X.env = (false, eval a X.env) :: starEach es X.env := by rfl) (hpl : (backTo pos (starEach es X.env)).any (·.1) = false := by rfl)
    (ht : eval (.Call (.Attribute o m apos) (a :: es) [] pos) X.env = (do
      let ov ← eval o X.env; standAt apos.atName
      let (f, first) ← holding [ov] (getMethod ov m pl); callWith pos f first (backTo pos (starEach (a :: es) X.env)) (backToKw pos (keywordEach [] X.env))) := by rfl) :
    ME X γ W (.Call (.Attribute o m apos) (a :: es) [] pos) (mMeth m [(c, g)] mo ms) := by
  obtain ⟨t, a1, a2⟩ := ho; obtain ⟨u, b1, b2, b3⟩ := h
  exact ⟨_, pe_methS (pl := pl) a1 hc hm G cx.gd (cx.hr.mono hj) hb (fun σ => passAt cx.tk σ) b1 hst hpl ht, se_meth a2 b2 fun ev S ds e s z => by rw [b3 _ _ _ _ _ z]; exact hl⟩
theorem me_meth0 {c : Nat} {f : Addr} {fd : FuncData} {ps : List Str} {g : Fn} (cx : CxK X W k) (hj : j ≤ k) (hc : Cls X.K (γ c)) (hm : Meth X.K (γ c) m f) (G : FnG X.prog X.w X.K X.mg X.base (L2.CX X.prog X.w) j f fd ps (spc X.K γ ps.length g)) (hb : Binds X.K fd ps [])
    (ho : ME X γ W o mo) (hl : 1 = ps.length := by rfl) {pl : Sem Bool}
    (ht : eval (.Call (.Attribute o m apos) [] [] pos) X.env = (do
      let ov ← eval o X.env; standAt apos.atName
      let (f, first) ← holding [ov] (getMethod ov m pl); callWith pos f first (backTo pos (starEach [] X.env)) (backToKw pos (keywordEach [] X.env))) := by rfl) :
    ME X γ W (.Call (.Attribute o m apos) [] [] pos) (mMeth m [(c, g)] mo mNil) := by
  obtain ⟨t, a1, a2⟩ := ho
  exact ⟨_, pe_meth0S (pl := pl) a1 hc hm G cx.gd (cx.hr.mono hj) hb (fun σ => passAt cx.tk σ) ht, se_meth a2 sa_nil fun ev S ds e s z => by rw [mNil_len _ _ _ _ _ z]; exact hl⟩
theorem me_methOr {e : Expr} {t1 t2 : List (Nat × Fn)} (h1 : ME X γ W e (mMeth m t1 mo ms)) (h2 : ME X γ W e (mMeth m t2 mo ms)) : ME X γ W e (mMeth m (t1 ++ t2) mo ms) := ME.or mMeth_app h1 h2
theorem me_make {c : Nat} {f : Addr} {fd : FuncData} {ps : List Str} {g : Fn} (cx : CxK X W k) (hj : j + 1 ≤ k) (M : Mk X.K (γ c) f) (G : FnG X.prog X.w X.K X.mg X.base (L2.CX X.prog X.w) j f fd ps (spc X.K γ ps.length g)) (hm : X.mg x = some (.ref (γ c))) (hb : Binds X.K fd ps [])
    (h : MA X γ W (a :: es) ms) (hl : (a :: es).length + 1 = ps.length := by rfl) (hg : Gl X x := by rfl) (hdb : (x == ("__debug__" : Str)) = false := by decide) (he : starEach (a :: es) X.env = (false, eval a X.env) :: starEach es X.env := by rfl) (hpl : (backTo pos (starEach es X.env)).any (·.1) = false := by rfl) :
    ME X γ W (.Call (.Name x p) (a :: es) [] pos) (mMake c g ms) := by
  obtain ⟨u, b1, b2, b3⟩ := h
  exact ⟨_, pe_makeS M G cx.gd (cx.hr.mono hj) hg hm hb (fun σ => passAt cx.tk σ) b1 hdb he hpl, se_make b2 fun ev S ds e s z => by rw [b3 _ _ _ _ _ z]; exact hl⟩
theorem me_make0 {c : Nat} {f : Addr} {fd : FuncData} {ps : List Str} {g : Fn} (cx : CxK X W k) (hj : j + 1 ≤ k) (M : Mk X.K (γ c) f) (G : FnG X.prog X.w X.K X.mg X.base (L2.CX X.prog X.w) j f fd ps (spc X.K γ ps.length g)) (hm : X.mg x = some (.ref (γ c))) (hb : Binds X.K fd ps [])
    (hl : 1 = ps.length := by rfl) (hg : Gl X x := by rfl) (hdb : (x == ("__debug__" : Str)) = false := by decide) : ME X γ W (.Call (.Name x p) [] [] pos) (mMake c g mNil) :=
  ⟨_, pe_make0S M G cx.gd (cx.hr.mono hj) hg hm hb (fun σ => passAt cx.tk σ) hdb, se_make sa_nil fun ev S ds e s z => by rw [mNil_len _ _ _ _ _ z]; exact hl⟩
/-- a call of a def, with room to spare -/
theorem me_callJ {f : Addr} {fd : FuncData} {ps : List Str} {g : Fn} (cx : CxK X W k) (hj : j ≤ k) (G : FnG X.prog X.w X.K X.mg X.base (L2.CX X.prog X.w) j f fd ps (spc X.K γ ps.length g)) (hm : X.mg x = some (.ref f)) (hk : PySem.W.keepIn X.K (.ref f) = true)
    (hb : Binds X.K fd ps []) (h : MA X γ W (a :: es) ms) (hl : (a :: es).length = ps.length := by rfl) (hg : Gl X x := by rfl) (hdb : (x == ("__debug__" : Str)) = false := by decide) (he : starEach (a :: es) X.env = (false, eval a X.env) :: starEach es X.env := by rfl)
    (hpl : (backTo pos (starEach es X.env)).any (·.1) = false := by rfl) : ME X γ W (.Call (.Name x p) (a :: es) [] pos) (mCall g ms) := by
  obtain ⟨t, a1, a2, a3⟩ := h
  exact ⟨_, pe_callG G cx.gd (cx.hr.mono hj) hg hm hk hb .nil (fun σ => passAt cx.tk σ) a1 hdb he hpl, se_call a2 (fun ev S ds e s q => by rw [a3 ev S ds e s q]; exact hl)⟩
theorem me_call0J {f : Addr} {fd : FuncData} {ps : List Str} {g : Fn} (cx : CxK X W k) (hj : j ≤ k) (G : FnG X.prog X.w X.K X.mg X.base (L2.CX X.prog X.w) j f fd ps (spc X.K γ ps.length g)) (hm : X.mg x = some (.ref f)) (hk : PySem.W.keepIn X.K (.ref f) = true)
    (hb : Binds X.K fd ps []) (hl : 0 = ps.length := by rfl) (hg : Gl X x := by rfl) (hdb : (x == ("__debug__" : Str)) = false := by decide) : ME X γ W (.Call (.Name x p) [] [] pos) (mCall g mNil) := by
  refine ⟨_, ⟨fun pins s σ H Q I h => ?_⟩, se_call (n := ps.length) sa_nil (fun ev S ds e s q => by rw [mNil_len _ _ _ _ _ q]; exact hl)⟩
  refine wpAny_Call_Name_kw (ld_glob I hg hm ?_ hdb)
  exact PySem.W.callWith_K0 I.kIn hk (run_fnG (E := fun σ cls d H => W cls d σ H) (dvs := []) (us := []) (vs := []) G cx.gd (cx.hr.mono hj) hb .nil (passAt cx.tk σ) I .nil h)
end
end Cl

/-! ## sorted(..) of tuples of whole numbers, of any lengths -/
namespace Cl
open PySem L2 RZ SrtO PyProof.Rows Srt
theorem lexLt_swo : Swo HT.lexLt := by
  have irr : ∀ x : List Int, HT.lexLt x x = false := by
    intro x; induction x with
    | nil => rfl
    | cons a r ih => rw [HT.lexLt_cons, if_pos rfl, ih]
  refine ⟨?_, ?_⟩
  · intro x
    induction x with
    | nil => intro y h; cases y with
      | nil => rfl
      | cons _ _ => rfl
    | cons a r ih => intro y h; cases y with
      | nil => cases h
      | cons b q =>
        rw [HT.lexLt_cons] at h ⊢
        by_cases e : a = b
        · rw [if_pos e] at h; rw [if_pos e.symm]; exact ih q h
        · rw [if_neg e] at h; rw [if_neg (Ne.symm e)]
          have := of_decide_eq_true h
          exact decide_eq_false (by omega)
  · intro x
    induction x with
    | nil => intro y z h1 h2
             cases z with
             | nil => rfl
             | cons _ _ => rfl
    | cons a r ih =>
      intro y z h1 h2
      cases y with
      | nil => cases h1
      | cons b q =>
        cases z with
        | nil => cases h2
        | cons c p =>
          rw [HT.lexLt_cons] at h1 h2 ⊢
          by_cases e1 : b = a
          · rw [if_pos e1] at h1
            by_cases e2 : c = b
            · rw [if_pos e2] at h2
              rw [if_pos (e2.trans e1)]
              exact ih q p h1 h2
            · rw [if_neg e2] at h2
              rw [if_neg (fun z => e2 (z.trans e1.symm))]
              have := of_decide_eq_false h2
              exact decide_eq_false (by omega)
          · rw [if_neg e1] at h1
            have q1 := of_decide_eq_false h1
            by_cases e2 : c = b
            · rw [if_neg (fun z => e1 (e2.symm.trans z))]
              exact decide_eq_false (by omega)
            · rw [if_neg e2] at h2
              have q2 := of_decide_eq_false h2
              rw [if_neg (by omega)]
              exact decide_eq_false (by omega)
theorem swo_by {α β : Type} {lt : β → β → Bool} (O : Swo lt) (f : α → β) : Swo fun x y => lt (f x) (f y) := ⟨fun x y h => O.asym _ _ h, fun x y z h1 h2 => O.tr _ _ _ h1 h2⟩
section
variable {prog : Program} {w : World} {A : Around} {E : Value → Shared → Prop} {s : Shared}
/-- a tuple of these numbers -/
def IsTI (h : Heap) (v : Value) (ns : List Int) : Prop := ∃ a o its n, v = .ref a ∧ h.get? a = some o ∧ o.cls = .type "tuple" ∧ o.data = .seq its n ∧ IntsAre its.toList ns
theorem IsTI.keeps {h h' : Heap} {v : Value} {ns : List Int} (p : IsTI h v ns) (k : ∀ b o, h.get? b = some o → o.cls = .type "tuple" → h'.get? b = some o) : IsTI h' v ns := by
  obtain ⟨a, o, its, n, e, ho, hc, hd, hi⟩ := p
  exact ⟨a, o, its, n, e, k _ _ ho hc, hc, hd, hi⟩
theorem kat_ints {b : Bool} : ∀ {us vs : List Value} {ns ms : List Int}, IntsAre us ns → IntsAre vs ms → ∀ (i : Nat), PySem.W.KatLex prog w A b (decide (us.length < vs.length)) (fun r s' => s' = s ∧ r = HT.lexLt ns ms) (us.zip vs) i s
  | _, _, _, _, .nil, .nil, i => PySem.W.kat_nil ⟨rfl, rfl⟩
  | _, _, _, _, .nil, .cons m u r, i => PySem.W.kat_nil ⟨rfl, rfl⟩
  | _, _, _, _, .cons n t r, .nil, i => PySem.W.kat_nil ⟨rfl, rfl⟩
  | _, _, _, _, .cons (vs := us) (ns := ns) n t r, .cons (vs := vs) (ns := ms) m u q, i => by
    rw [List.zip_cons_cons]
    refine PySem.W.kat_cons (SeqAt.EqAt.int_int n t m u prog w _ _ ?_)
    refine PySem.W.kat_go (fun e1 => ?_) (fun e1 => ?_)
    · have ex : n = m := by simpa using e1
      refine PySem.W.kat_yes ?_
      rw [HT.lexLt_cons, if_pos ex]
      have e : decide ((Value.int n t :: us).length < (Value.int m u :: vs).length) = decide (us.length < vs.length) := by simp
      rw [e]
      exact kat_ints r q (i + 1)
    · have ex : ¬ n = m := by simpa using e1
      refine PySem.W.kat_no ?_
      rw [HT.lexLt_cons, if_neg ex]
      by_cases hb : (b && i == 0) = true
      · rw [hb]; exact oneLt_int ⟨rfl, rfl⟩
      · have hb' : (b && i == 0) = false := by simpa using hb
        rw [hb']
        exact PySem.W.kat_one _ _ (PyProof.Rows.lt_int ⟨rfl, rfl⟩)
theorem ti_cmp {vs : List Value} {k : Value → List Int} (hp : ∀ v ∈ vs, IsTI s.heap v (k v)) : Cmp prog w A s (tuples' true) (fun p => p.1 ∈ vs) (lt2 fun v u => HT.lexLt (k v) (k u)) := by
  intro p q hm hm'
  obtain ⟨a, o, its, n, e, ho, hc, hd, hi⟩ := hp _ hm
  obtain ⟨a', o', its', n', e', ho', hc', hd', hi'⟩ := hp _ hm'
  show wpAny (model prog w) A (keyLt' (tuples' true) p.1 q.1) (fun r s' => s' = s ∧ r = HT.lexLt (k p.1) (k q.1)) (fun _ _ => False) s
  generalize k p.1 = x at hi ⊢
  generalize k q.1 = y at hi' ⊢
  rw [e, e']
  refine PySem.W.kat_lt ho hd ho' hd' ?_
  have h := kat_ints (prog := prog) (w := w) (A := A) (s := s) (b := true) hi hi' 0
  simpa using h
theorem ti_firsts {h : Heap} {k : Value → List Int} : ∀ {vs : List Value}, (∀ v ∈ vs, IsTI h v (k v) ∧ k v ≠ []) → ∃ fs : List Value, PySem.W.KatTups h vs fs ∧ fs.length = vs.length ∧ ∀ f ∈ fs, ∃ x t, f = Value.int x t
  | [], _ => ⟨[], PySem.W.KatTups.nil, rfl, fun _ hm => by simp at hm⟩
  | v :: vs, hp => by
    obtain ⟨fs, h1, h2, h3⟩ := ti_firsts (vs := vs) fun u hm => hp u (List.mem_cons_of_mem _ hm)
    obtain ⟨⟨a, o, its, n, e, ho, hc, hd, hi⟩, hne⟩ := hp v List.mem_cons_self
    generalize k v = ns at hi hne
    subst e
    obtain ⟨l⟩ := its
    cases hi with
    | nil => exact absurd rfl hne
    | cons x t r =>
      refine ⟨.int x t :: fs, PySem.W.KatTups.cons ho hc hd rfl h1, by rw [List.length_cons, List.length_cons, h2], fun f hm => ?_⟩
      rcases List.mem_cons.mp hm with rfl | hm
      · exact ⟨x, t, rfl⟩
      · exact h3 f hm
theorem ti_sortable {a : Addr} {vs : List Value} {k : Value → List Int} (h0 : 0 < vs.length) (hp : ∀ v ∈ vs, IsTI s.heap v (k v) ∧ k v ≠ []) (ha : ∀ o, s.heap.get? a = some o → o.cls ≠ .type "tuple") : SortableO prog w A s a vs fun v u => HT.lexLt (k v) (k u) := by
  intro h' keep
  have hp' : ∀ v ∈ vs, IsTI h' v (k v) ∧ k v ≠ [] := fun v hm => ⟨(hp v hm).1.keeps fun b o e c => keep b o (fun z => by subst z; exact ha o e c) e, (hp v hm).2⟩
  obtain ⟨fs, h1, h2, h3⟩ := ti_firsts hp'
  refine ⟨tuples' true, fun Q E hq => ?_, ti_cmp (s := { s with heap := h' }) fun v hm => (hp' v hm).1⟩
  refine PySem.W.kat_kind (T := .type "int") h1 (by omega) (fun f hm => ?_) (by rfl) ?_
  · obtain ⟨x, t, rfl⟩ := h3 f hm
    exact PySem.W.Looks.now
  · have e : (Value.type "int" != Value.type "tuple") = true := by first | decide +kernel | rfl | decide
    rw [e]
    exact hq
end
theorem intsAre_inj : ∀ {vs : List Value} {ns ms : List Int}, IntsAre vs ns → IntsAre vs ms → ns = ms
  | _, _, _, .nil, .nil => rfl
  | _, _, _, .cons n t r, .cons _ _ q => by rw [intsAre_inj r q]
theorem IsTI.inj {h : Heap} {v : Value} {ns ms : List Int} (p : IsTI h v ns) (q : IsTI h v ms) : ns = ms := by
  obtain ⟨a, o, its, n, rfl, ho, hc, hd, hi⟩ := p
  obtain ⟨a', o', its', n', e, ho', hc', hd', hi'⟩ := q
  cases e
  rw [ho] at ho'; cases ho'
  rw [hd] at hd'; cases hd'
  exact intsAre_inj hi hi'
abbrev lt2nd {α : Type} (p q : α × List Int) : Bool := HT.lexLt p.2 q.2
/-- sorted(xs) of such tuples: zs the things with their numbers -/
def rSortTI (K : PySem.W.Frag) : List V → Hp → VK → Prop := fun vs H Q => ∃ (a : Addr) (zs : List (V × List Int)), vs = [V.ref a] ∧ SqL K H a (zs.map Prod.fst) ∧ (∀ p ∈ zs, p.2 ≠ [] ∧ ∃ t, p.1 = V.ref t ∧ SqT K H t (p.2.map V.int)) ∧
  ∀ ys p, Srtd lt2nd ys → Stb lt2nd ys zs → H p = none → Q (.ref p) (upd H p (.lst (ys.map Prod.fst)))
open Classical in
noncomputable def kOf (h : Heap) (v : Value) : List Int := if e : ∃ ns, IsTI h v ns then e.choose else []
theorem kOf_eq {h : Heap} {v : Value} {ns : List Int} (e : IsTI h v ns) : kOf h v = ns := by
  unfold kOf
  rw [dif_pos ⟨ns, e⟩]
  exact (Classical.choose_spec (⟨ns, e⟩ : ∃ ns, IsTI h v ns)).inj e
theorem vals_zs {X : Cx} {pins : List (Addr × Obj)} {σ : L2.St} {H : Hp} {s : Shared} (I : Inv X pins σ H s) : ∀ {zs : List (V × List Int)} {its : List Value}, Vals (zs.map Prod.fst) its → (∀ p ∈ zs, p.2 ≠ [] ∧ ∃ t, p.1 = V.ref t ∧ SqT X.K H t (p.2.map V.int)) →
    its.map (fun v => (backV v, kOf s.heap v)) = zs ∧ (∀ v ∈ its, (∃ a, v = Value.ref a) ∧ IsTI s.heap v (kOf s.heap v) ∧ kOf s.heap v ≠ [])
  | [], _, r, _ => by
    cases r
    exact ⟨rfl, fun v h => by simp at h⟩
  | (x, ns) :: zs, _, r, h => by
    cases r with
    | cons r1 r2 =>
      obtain ⟨h1, h2⟩ := vals_zs I r2 fun p hp => h p (List.mem_cons_of_mem _ hp)
      obtain ⟨hne, t, e, ht⟩ := h (x, ns) List.mem_cons_self
      dsimp only at e hne ht r1
      subst e
      rename_i u us
      obtain rfl : u = Value.ref t := r1
      obtain ⟨its2, rr, ⟨o, ho, hc, n, hd⟩, _⟩ := I.tuple ht
      have hti : IsTI s.heap (.ref t) ns := ⟨t, o, its2.toArray, n, rfl, ho, hc, hd, by simpa using L2.intsAre_of rr⟩
      refine ⟨by rw [List.map_cons, h1, kOf_eq hti]; rfl, fun v hv => ?_⟩
      rcases List.mem_cons.mp hv with rfl | hv
      · rw [kOf_eq hti]; exact ⟨⟨t, rfl⟩, hti, hne⟩
      · exact h2 v hv
theorem cr_sortTI {X : Cx} : CallR X (.builtin "sorted") (rSortTI X.K) := by
  intro pins s σ H vs us Q I r h
  obtain ⟨a, zs, rfl, hs, hx, q⟩ := h
  obtain ⟨its, rv, hl, hz⟩ := I.list hs
  obtain ⟨u, rfl, ru⟩ := vals1 r
  obtain rfl : u = Value.ref a := ru
  obtain ⟨e1, hp⟩ := vals_zs I rv hx
  refine sorted_ord (ltv := fun v u => HT.lexLt (kOf s.heap v) (kOf s.heap u)) (swo_by lexLt_swo fun v => kOf s.heap v) hl.isList (by rw [← rv.length]; exact hz) (fun h2 h₁ b hb kk => ?_) fun out hs2 hb => ?_
  · refine ti_sortable (s := { s with heap := h₁ }) (k := fun v => kOf s.heap v) (by omega) (fun v hm => ⟨(hp v hm).2.1.keeps fun b o e _ => (kk b o e).2, (hp v hm).2.2⟩) fun o e => ?_
    have e' : some o = some (seqObj "list" its.toArray 0) := e.symm.trans hb
    cases e'
    intro c
    exact absurd (Value.type.inj c) (by decide)
  · have h3 : ∀ u ∈ out, ∃ a, u = Value.ref a := fun u hu => (hp u (hb.perm.mem_iff.mp hu)).1
    obtain ⟨n, hn⟩ := sortedAll_at s.heap its out.toArray
    have hbb : Stb lt2nd (out.map fun v => (backV v, kOf s.heap v)) zs := by
      rw [← e1]
      exact SrtO.Stb.map (swo_by lexLt_swo Prod.snd) (fun v => (backV v, kOf s.heap v)) hb
    have hss : Srtd lt2nd (out.map fun v => (backV v, kOf s.heap v)) := SrtO.srtd_map (lt := lt2nd) (f := fun v => (backV v, kOf s.heap v)) hs2
    have em : (out.map fun v => (backV v, kOf s.heap v)).map Prod.fst = out.map backV := by rw [List.map_map]; rfl
    have qq := q _ (s.heap.objs.size + 1) hss hbb (I.hok.fresh (Nat.le_succ _))
    rw [em] at qq
    refine ⟨.ref (s.heap.objs.size + 1), upd H (s.heap.objs.size + 1) (.lst (out.map backV)), I.laid (t' := s.toks) (fun b o e => sortedAll_old e) (Nat.le_succ _) ⟨?_, out, n, vals_back h3, hn⟩, rfl, qq⟩
    rw [← em, List.length_map, hbb.len]
    simpa using hz
/-! ### one such list, by putting in -/
def insL {α : Type} (lt : α → α → Bool) (x : α) : List α → List α
  | [] => [x]
  | y :: r => if lt y x = true then y :: insL lt x r else x :: y :: r
def sortL {α : Type} (lt : α → α → Bool) : List α → List α
  | [] => []
  | x :: r => insL lt x (sortL lt r)
section
variable {α β : Type} {lt : α → α → Bool}
theorem insL_stb (O : Swo lt) (x : α) : ∀ l : List α, Stb lt (insL lt x l) (x :: l)
  | [] => Stb.refl _
  | y :: r => by
    unfold insL
    split
    · rename_i h
      have ih := insL_stb O x r
      have h1 : Stb lt (y :: insL lt x r) (y :: x :: r) := by
        have := (Stb.refl (lt := lt) [y]).app ih
        simpa using this
      have h2 : Stb lt ([y] ++ [x]) ([x] ++ [y]) := Stb.swap O fun a ha b hb => by rw [List.mem_singleton.mp ha, List.mem_singleton.mp hb]; exact h
      have h3 := h2.app (Stb.refl (lt := lt) r)
      exact h1.trans (by simpa using h3)
    · exact Stb.refl _
theorem sortL_stb (O : Swo lt) : ∀ l : List α, Stb lt (sortL lt l) l
  | [] => Stb.refl _
  | x :: r => by
    have h := (insL_stb O x (sortL lt r)).trans (by simpa using (Stb.refl (lt := lt) [x]).app (sortL_stb O r))
    exact h
theorem insL_srtd (O : Swo lt) (x : α) : ∀ {l : List α}, Srtd lt l → Srtd lt (insL lt x l)
  | [], _ => srtd_one x
  | y :: r, h => by
    unfold insL
    split
    · rename_i hlt
      refine List.pairwise_cons.mpr ⟨fun z hz => ?_, insL_srtd O x (List.pairwise_cons.mp h).2⟩
      rcases List.mem_cons.mp ((insL_stb O x r).perm.mem_iff.mp hz) with rfl | hz
      · exact O.asym _ _ hlt
      · exact srtd_head h z hz
    · rename_i hlt
      have hlt' : lt y x = false := by simpa using hlt
      refine List.pairwise_cons.mpr ⟨fun z hz => ?_, h⟩
      rcases List.mem_cons.mp hz with rfl | hz
      · exact hlt'
      · exact O.tr _ _ _ hlt' (srtd_head h z hz)
theorem sortL_srtd (O : Swo lt) : ∀ l : List α, Srtd lt (sortL lt l)
  | [] => List.Pairwise.nil
  | x :: r => insL_srtd O x (sortL_srtd O r)
theorem insL_map {lt' : β → β → Bool} (f : β → α) (hf : ∀ x y, lt (f x) (f y) = lt' x y) (x : β) : ∀ l : List β, (insL lt' x l).map f = insL lt (f x) (l.map f)
  | [] => rfl
  | y :: r => by
    simp only [insL, List.map_cons, hf]
    split
    · rw [List.map_cons, insL_map f hf x r]
    · rfl
theorem sortL_map {lt' : β → β → Bool} (f : β → α) (hf : ∀ x y, lt (f x) (f y) = lt' x y) : ∀ l : List β, (sortL lt' l).map f = sortL lt (l.map f)
  | [] => rfl
  | x :: r => by rw [sortL, insL_map f hf, sortL_map f hf r]; rfl
end
/-- the numbers of a tuple; of anything else none -/
def keyT : D → List Int
  | .t (.tuple ts) => (lexInts ts).getD []
  | _ => []
def okT : D → Bool
  | .t (.tuple ts) => match lexInts ts with
    | some (_ :: _) => true
    | _ => false
  | _ => false
def lSortT (e : EM) : Mm (List D) := fun ev S => bnd (mEsc (mCons e mNil) ev S) fun xs ev S => match xs with
  | [x] => match viewL ev S x with
    | some ds => if ds.all okT = true ∧ ds.length ≤ sizeLine then some (.ok (sortL (fun x y => HT.lexLt (keyT x) (keyT y)) ds), ev, S) else none
    | none => none
  | _ => none
section
variable {K : PySem.W.Frag} {γ : Nat → Addr} {W : WX}
theorem okT_ok {F : Hp} {il : List Addr} {v : V} {d : D} (h : DR K F il [] v d) (q : okT d = true) : keyT d ≠ [] ∧ ∃ t, v = V.ref t ∧ SqT K F t ((keyT d).map V.int) := by
  cases d with
  | r n => cases q
  | b n => cases q
  | t d =>
    cases d with
    | tuple ts =>
      cases h with
      | tup h1 h2 =>
        unfold okT at q
        dsimp only at q
        split at q
        · rename_i n ns hn
          have e : keyT (.t (.tuple ts)) = n :: ns := by unfold keyT; dsimp only; rw [hn]; rfl
          rw [e]
          refine ⟨by simp, _, rfl, ?_⟩
          rw [← lexInts_ok hn h2]
          exact h1
        · cases q
    | _ => cases q
theorem zip_paired {α β : Type} {G : α → β → Prop} : ∀ {xs : List α} {ys : List β}, Paired G xs ys → (xs.zip ys).map Prod.fst = xs ∧ (xs.zip ys).map Prod.snd = ys ∧ ∀ p ∈ xs.zip ys, G p.1 p.2
  | _, _, .nil => ⟨rfl, rfl, fun p h => by simp at h⟩
  | x :: xs, y :: ys, .cons a b => by
    obtain ⟨h1, h2, h3⟩ := zip_paired b
    refine ⟨by simp [h1], by simp [h2], fun p hp => ?_⟩
    rw [List.zip_cons_cons] at hp
    rcases List.mem_cons.mp hp with rfl | hp
    · exact a
    · exact h3 p hp
theorem paired_of_zip {α β : Type} {G : α → β → Prop} : ∀ {l : List (α × β)}, (∀ p ∈ l, G p.1 p.2) → Paired G (l.map Prod.fst) (l.map Prod.snd)
  | [], _ => .nil
  | p :: l, h => .cons (h p (by simp)) (paired_of_zip fun q hq => h q (by simp [hq]))
theorem sl_sortT {t : TE} {m : EM} (h : SE K γ W t m) : SL K γ W (tCB (rSortTI K) (tCons t tNil)) (lSortT m) := by
  intro P O F H il S ev σ R r ev' S' hm Q k
  have ha := sa_cons h (sa_nil (K := K) (γ := γ) (W := W))
  rcases bnd_eq hm with ⟨x, q, rfl⟩ | ⟨ds, e1, s1, q, hz⟩
  · exact sa_esc ha R q _ fun O1 F1 H1 il1 sf pf R1 => k O1 F1 H1 il1 sf pf R1
  · refine sa_esc ha R q _ fun O1 F1 H1 il1 sf pf R1 vs hv => ?_
    clear hm
    split at hz
    · rename_i d
      split at hz
      · rename_i its hl
        split at hz
        · rename_i hall
          obtain ⟨hall, hsz⟩ := hall
          cases hz
          cases hv with
          | cons a b =>
            cases b
            obtain ⟨p, xs, rfl, h1, h2⟩ := viewL_ok R1 (DR.up (σ := σ) a) hl
            obtain ⟨z1, z2, z3⟩ := zip_paired h2
            have tr : ∀ p ∈ xs.zip its, keyT p.2 ≠ [] ∧ ∃ t, p.1 = V.ref t ∧ SqT K H1 t ((keyT p.2).map V.int) := fun p hp => by
              have hd : p.2 ∈ its := by
                rw [← z2]
                exact List.mem_map.mpr ⟨p, hp, rfl⟩
              obtain ⟨g1, t, g2, g3⟩ := okT_ok (z3 p hp) (List.all_eq_true.mp hall _ hd)
              exact ⟨g1, t, g2, Same.sqT R1.fh g3⟩
            have ef : ((xs.zip its).map fun p => (p.1, keyT p.2)).map Prod.fst = xs := by rw [List.map_map]; exact z1
            refine ⟨p, (xs.zip its).map fun p => (p.1, keyT p.2), rfl, by rw [ef]; exact h1, fun q hq => ?_, fun ys q h3 h4 h5 => ?_⟩
            · obtain ⟨p, hp, rfl⟩ := List.mem_map.mp hq
              exact tr p hp
            · have O : Swo (lt2nd (α := V)) := swo_by lexLt_swo Prod.snd
              have g := sortL_stb O ((xs.zip its).map fun p => (p.1, keyT p.2))
              have eq : ys = sortL lt2nd ((xs.zip its).map fun p => (p.1, keyT p.2)) := stb_uniq O h3 (sortL_srtd O _) (h4.trans ⟨g.perm.symm, fun x => (g.cls x).symm⟩)
              have e2 := sortL_map (lt := lt2nd (α := V)) (lt' := fun p q : V × D => HT.lexLt (keyT p.2) (keyT q.2)) (fun p : V × D => (p.1, keyT p.2)) (fun _ _ => rfl) (xs.zip its)
              have O2 : Swo (fun p q : V × D => HT.lexLt (keyT p.2) (keyT q.2)) := swo_by lexLt_swo fun p : V × D => keyT p.2
              have g2 := sortL_stb O2 (xs.zip its)
              have e3 := sortL_map (lt := fun x y : D => HT.lexLt (keyT x) (keyT y)) (lt' := fun p q : V × D => HT.lexLt (keyT p.2) (keyT q.2)) Prod.snd (fun _ _ => rfl) (xs.zip its)
              rw [z2] at e3
              have e4 : ys.map Prod.fst = (sortL (fun p q : V × D => HT.lexLt (keyT p.2) (keyT q.2)) (xs.zip its)).map Prod.fst := by rw [eq, ← e2, List.map_map]; rfl
              have hpair : DRs K F1 il1 [] (ys.map Prod.fst) (sortL (fun x y => HT.lexLt (keyT x) (keyT y)) its) := by
                rw [e4, ← e3]
                exact paired_of_zip fun p hp => z3 p (g2.perm.mem_iff.mp hp)
              refine k O1 F1 H1 il1 sf pf R1 _ _ hpair ?_ h5
              have hl2 := h4.len
              rw [List.length_map, hl2, List.length_map, List.length_zip, PySem.Paired.length h2, Nat.min_self]
              exact hsz
        · cases hz
      · cases hz
    · cases hz
end
section
variable {X : Cx} {γ : Nat → Addr} {W : WX} {k : Nat} {a : Expr} {ma : EM} {pos p : Pos}
theorem ml_sortT (hm : X.mg "sorted" = none) (h : ME X γ W a ma) (hg : Gl X "sorted" := by rfl) (he : starEach [a] X.env = (false, eval a X.env) :: starEach [] X.env := by rfl) (hpl : (backTo pos (starEach [] X.env)).any (·.1) = false := by rfl) :
    ML X γ W (.Call (.Name "sorted" p) [a] [] pos) (lSortT ma) := by
  obtain ⟨t, a1, a2⟩ := h
  exact ⟨_, pe_callB cr_sortTI hg hm (by decide +kernel) (pa_cons a1 pa_nil he) (by decide) (by decide) he hpl, sl_sortT a2⟩
end
/-! ## tuple(..), pop -/
def dTupOf : F1 := fun ev S x => match x with
  | .t (.tuple ts) => some (.t (.tuple ts))
  | x => (viewL ev S x).bind fun ds => (allT ds).map fun ts => .t (.tuple ts)
theorem rv_tupOf {K : PySem.W.Frag} {γ : Nat → Addr} : RV1 K γ (kTup K) dTupOf := by
  intro P O F H il S ev σ x dx d R hx h Q k
  unfold dTupOf at h
  split at h
  · cases h
    cases hx with
    | tup h1 h2 => exact .inr ⟨_, _, rfl, Same.sqT R.fh h1, k _ F H (Same.refl F) R (TR.tup h1 h2)⟩
  · obtain ⟨ds, q1, h⟩ := Option.bind_eq_some_iff.mp h
    obtain ⟨ts, q2, rfl⟩ := Option.map_eq_some_iff.mp h
    obtain ⟨a, vs, rfl, h1, h2⟩ := viewL_ok R hx q1
    rw [allT_eq q2] at h2
    refine .inl ⟨a, vs, rfl, h1, fun q hq => ?_⟩
    have sf := R.same (o := .tup vs) hq
    exact k _ _ _ sf (R.newF hq) (TR.tup (SqT.of upd_same) (TRs.mono sf _ _ (DRs.trs h2)))
def muPop0 : Mu := fun xs ys => match ys with
  | [] => muPop xs []
  | _ => none
def muPopA : Mu := fun xs ys => match ys with
  | [y] => muPop xs [y]
  | _ => none
section
variable {X : Cx} {γ : Nat → Addr} {W : WX} {k : Nat} {a : Expr} {ma : EM} {pos p : Pos}
theorem me_tupOf (hm : X.mg "tuple" = none) (h : ME X γ W a ma) (hg : Gl X "tuple" := by rfl) (he : starEach [a] X.env = (false, eval a X.env) :: starEach [] X.env := by rfl) :
    ME X γ W (.Call (.Name "tuple" p) [a] [] pos) (mUn dTupOf ma) := by
  obtain ⟨t, a1, a2⟩ := h
  exact ⟨_, pe_tupleOf hg hm a1 he, se_un a2 rv_tupOf⟩
theorem me_pop0 {apos : Pos} (ho : ME X γ W a ma) (hbase : attributeBase a "pop" X.env (eval a X.env) = eval a X.env := by rfl) (hline : (apos.endLine == pos.line) = true := by rfl) : ME X γ W (.Call (.Attribute a "pop" apos) [] [] pos) (mMut muPop0 ma mNil) :=
  me_mut0 PySem.F.slot_list_pop PySem.F.type_list_pop mt_pop rm_pop0 ho hbase hline
end
/-! ## x, y = a, b -/
def sPar (i j : Nat) (m : Mm (List D)) : SM := fun ev S => bndS (mEsc m ev S) fun xs ev S => match xs with
  | [x, y] => some (.nx, (ev.set i (some (.d x))).set j (some (.d y)), S)
  | _ => none
theorem ss_par {K : PySem.W.Frag} {γ : Nat → Addr} {W : WX} {i j : Nat} {t : TA} {m : Mm (List D)} (h : SA K γ W t m) : SS K γ W (tPar i j t) (sPar i j m) := by
  intro P O F H il S ev σ R fl ev' S' hm E k
  rcases bndS_eq hm with ⟨x, q, rfl⟩ | ⟨ds, e1, s1, q, hz⟩
  · exact sa_esc h R q _ fun O1 F1 H1 il1 sf pf R1 => k O1 F1 H1 il1 σ sf pf R1
  · refine sa_esc h R q _ fun O1 F1 H1 il1 sf pf R1 vs hv => ?_
    clear hm
    split at hz
    · cases hz
      cases hv with
      | cons a b => cases b with
        | cons b c =>
          cases c
          exact ⟨_, _, rfl, k O1 F1 H1 il1 _ sf pf ((R1.setD a).setD b)⟩
    · cases hz
theorem ms_par {X : Cx} {γ : Nat → Addr} {W : WX} {k i j : Nat} {x y : Str} {px py pt pt2 pos : Pos} {kt k2 : Nat} {a b : Expr} {ms : Mm (List D)} (c : CxK X W k) (hN : X.N.Nodup) (h : MA X γ W [a, b] ms) (hi : X.N[i]? = some x := by rfl) (hj : X.N[j]? = some y := by rfl) (hij : i ≠ j := by decide)
    (hx : X.env.scope.names.lookup x = some .local := by rfl) (hy : X.env.scope.names.lookup y = some .local := by rfl) (hw : swappedStores [.Tuple [.Name x px, .Name y py] kt pt] (.Tuple [a, b] k2 pt2) X.env = pure (some [x, y]) := by rfl) :
    MS X γ W (.Assign [.Tuple [.Name x px, .Name y py] kt pt] (.Tuple [a, b] k2 pt2) pos) (sPar i j ms) := by
  obtain ⟨t, a1, a2, a3⟩ := h
  exact ⟨_, ps_par c.cm hN hi hj hij hx hy a1 hw, ss_par a2⟩
/-! ## facts of classes -/
theorem all_nil {P : Nat → Prop} : ∀ c ∈ ([] : List Nat), P c := fun c h => by simp at h
theorem all_cons {P : Nat → Prop} {a : Nat} {l : List Nat} (h : P a) (hr : ∀ c ∈ l, P c) : ∀ c ∈ a :: l, P c := fun c hc => by
  rcases List.mem_cons.mp hc with rfl | hc
  · exact h
  · exact hr c hc
section
variable {fa : List He.Fa} {fn : List He.DefD} {xl : PySem.W.Frag → List Bool} {K : PySem.W.Frag} {mg : Str → Option Value}
theorem Tp.cls (T : Tp fa fn xl K mg) (i : Nat) {x : Str} (h : fa[i]? = some (.cls x) := by rfl) : Cls K (He.ga K x) := He.cls_ok (T.c.fact i h)
theorem Tp.noat (T : Tp fa fn xl K mg) (i : Nat) {x f : Str} (h : fa[i]? = some (.noat x f) := by rfl) : NoAttr K (He.ga K x) f := He.noat_ok (T.c.fact i h)
theorem Tp.meth (T : Tp fa fn xl K mg) (i : Nat) {x m : Str} (h : fa[i]? = some (.meth x m) := by rfl) : Meth K (He.ga K x) m (He.fAd K (x, some m)) := He.meth_ok (T.c.fact i h)
theorem Tp.mkr (T : Tp fa fn xl K mg) (i : Nat) {x : Str} (h : fa[i]? = some (.mkr x) := by rfl) : Mk K (He.ga K x) (He.fAd K (x, some "__init__")) := He.mkr_ok (T.c.fact i h)
end
end Cl

namespace Cl
open PySem L2
/-! ## objects and changed lists, as equations -/
section
variable {ev : Nv} {S : So} {a b o : EM} {ms : Mm (List D)}
theorem q_fld (cs : List Nat) (f : Str) (n : Nat) : dFld cs f ev S (.r n) = match S[n]? with
  | some (.obj c fs) => if c ∈ cs then fs.lookup f else none
  | _ => none := by
  unfold dFld objAt
  dsimp only
  cases S[n]? with
  | none => rfl
  | some c => cases c <;> rfl
def fldR (cs : List Nat) (f : Str) (d y : D) (ev : Nv) (S : So) : Os := match objAt S y with
  | some (n, c, fs) => if c ∈ cs ∧ fs.length < 1000 then some (.nx, ev, S.set n (.obj c (putFD f d fs))) else none
  | none => none
theorem q_sfld (cs : List Nat) (f : Str) : sFldM cs f o a ev S = bS (a ev S) fun x ev S => bS (esc x ev S) fun d ev S => bS (o ev S) fun y ev S => fldR cs f d y ev S := nr rfl
theorem q_fldR (cs : List Nat) (f : Str) (d : D) (n : Nat) : fldR cs f d (.r n) ev S = match S[n]? with
  | some (.obj c fs) => if c ∈ cs ∧ fs.length < 1000 then some (.nx, ev, S.set n (.obj c (putFD f d fs))) else none
  | _ => none := by
  unfold fldR objAt
  dsimp only
  cases S[n]? with
  | none => rfl
  | some c => cases c <;> rfl
def methR (m : Str) (tb : List (Nat × Fn)) (x : D) (a : Mm (List D)) (ev : Nv) (S : So) : Om D := match objAt S x with
  | some (_, c, fs) => match tb.lookup c, fs.lookup m with
    | some g, none => bK (mEsc a ev S) fun xs ev S => callR (g (x :: xs) S) ev
    | _, _ => none
  | none => none
theorem q_meth (m : Str) (tb : List (Nat × Fn)) : mMeth m tb o ms ev S = bK (o ev S) fun x ev S => methR m tb x ms ev S := nr rfl
theorem q_methR (m : Str) (tb : List (Nat × Fn)) (n : Nat) : methR m tb (.r n) ms ev S = match S[n]? with
  | some (.obj c fs) => (match tb.lookup c, fs.lookup m with
    | some g, none => bK (mEsc ms ev S) fun xs ev S => callR (g (.r n :: xs) S) ev
    | _, _ => none)
  | _ => none := by
  unfold methR objAt
  dsimp only
  cases S[n]? with
  | none => rfl
  | some c => cases c <;> rfl
def makeR (o : Option (Rs D × So)) (n : Nat) (ev : Nv) : Om D := match o with
  | some (.ok (.t .none), S') => some (.ok (.r n), ev, S')
  | some (.ex x, S') => some (.ex x, ev, S')
  | _ => none
theorem q_make (c : Nat) (g : Fn) : mMake c g ms ev S = bK (mEsc ms ev S) fun xs ev S => makeR (g (.r S.length :: xs) (S ++ [.obj c []])) S.length ev := nr rfl
theorem q_makeR (n : Nat) (s : So) : makeR (some (.ok (.t .none), s)) n ev = some (.ok (.r n), ev, s) := nr rfl
theorem lk_hit {κ β : Type} [BEq κ] [ReflBEq κ] (k : κ) (v : β) (r : List (κ × β)) : List.lookup k ((k, v) :: r) = some v := by simp [List.lookup]
theorem lk_miss {κ β : Type} [BEq κ] {k j : κ} (h : (k == j) = false) (v : β) (r : List (κ × β)) : List.lookup k ((j, v) :: r) = List.lookup k r := by simp [List.lookup, h]
theorem lk_nil {κ β : Type} [BEq κ] (k : κ) : List.lookup k ([] : List (κ × β)) = none := rfl
/-! changed lists -/
def mutR (f : Mu) (x : D) (m : Mm (List D)) (ev : Nv) (S : So) : Om D := match ownL ev S x with
  | none => none
  | some _ => bK (mEsc m ev S) fun ys ev S => match ownL ev S x with
    | none => none
    | some xs => match f xs ys with
      | none => none
      | some (r, zs) => match putL x zs ev S with
        | none => none
        | some (ev, S) => some (.ok r, ev, S)
theorem q_mut (f : Mu) : mMut f o ms ev S = bK (o ev S) fun x ev S => mutR f x ms ev S := nr rfl
def mutA (f : Mu) (x : D) (ys : List D) (ev : Nv) (S : So) : Om D := match ownL ev S x with
  | none => none
  | some xs => match f xs ys with
    | none => none
    | some (r, zs) => match putL x zs ev S with
      | none => none
      | some (ev, S) => some (.ok r, ev, S)
theorem q_mutR (f : Mu) (n : Nat) : mutR f (.r n) ms ev S = match S[n]? with
  | some (.lst _) => bK (mEsc ms ev S) fun ys ev S => mutA f (.r n) ys ev S
  | _ => none := by
  unfold mutR ownL
  dsimp only
  cases S[n]? with
  | none => rfl
  | some c => cases c <;> rfl
theorem q_mutB (f : Mu) (i : Nat) : mutR f (.b i) ms ev S = match ev[i]? with
  | some (some (.ol _)) => bK (mEsc ms ev S) fun ys ev S => mutA f (.b i) ys ev S
  | _ => none := by
  unfold mutR ownL
  dsimp only
  cases ev[i]? with
  | none => rfl
  | some c => cases c with
    | none => rfl
    | some c => cases c <;> rfl
/-- what a change tells and leaves -/
def mutV (o : Option (D × List D)) (k : List D → Nv × So) : Om D := match o with
  | some (r, zs) => some (.ok r, (k zs).1, (k zs).2)
  | none => none
theorem q_mutAR (f : Mu) (n : Nat) (ys : List D) : mutA f (.r n) ys ev S = match S[n]? with
  | some (.lst xs) => mutV (f xs ys) fun zs => (ev, S.set n (.lst zs))
  | _ => none := by
  unfold mutA ownL putL mutV
  dsimp only
  cases h : S[n]? with
  | none => rfl
  | some c => cases c <;> dsimp only
              rename_i xs
              cases f xs ys with
              | none => rfl
              | some p => rfl
theorem q_mutAB (f : Mu) (i : Nat) (ys : List D) : mutA f (.b i) ys ev S = match ev[i]? with
  | some (some (.ol xs)) => mutV (f xs ys) fun zs => (ev.set i (some (.ol zs)), S)
  | _ => none := by
  unfold mutA ownL putL mutV
  dsimp only
  cases h : ev[i]? with
  | none => rfl
  | some c => cases c with
    | none => rfl
    | some c => cases c <;> dsimp only
                rename_i xs
                cases f xs ys with
                | none => rfl
                | some p => rfl
theorem q_mutV (r : D) (zs : List D) (k : List D → Nv × So) : mutV (some (r, zs)) k = some (.ok r, (k zs).1, (k zs).2) := nr rfl
theorem q_app {xs : List D} {y : D} (h : xs.length < sizeLine) : muApp xs [y] = some (.t .none, xs ++ [y]) := if_pos h
theorem q_popA (y : D) (xs : List D) : muPopA (y :: xs) [.t (.int 0)] = some (y, xs) := by
  show muPop (y :: xs) [.t (.int 0)] = _
  unfold muPop
  dsimp only
  rw [if_pos (by decide)]
  have e : seqIndex? 0 (y :: xs).length = some 0 := by
    unfold seqIndex?
    simp
  rw [e]
  rfl
theorem q_pop0 (xs : List D) (y : D) : muPop0 (xs ++ [y]) [] = some (y, xs) := by
  show muPop (xs ++ [y]) [] = _
  unfold muPop
  simp
/-! a[i] = x -/
def setR (d l j : D) (ev : Nv) (S : So) : Os := match j with
  | .t (.int j) => match ownL ev S l with
    | none => none
    | some xs => match ixN xs.length j with
      | none => none
      | some n => match putL l (xs.set n d) ev S with
        | none => none
        | some (ev, S) => some (.nx, ev, S)
  | _ => none
theorem q_setL : sSetL a o b ev S = bS (a ev S) fun x ev S => bS (esc x ev S) fun d ev S => bS (o ev S) fun l ev S => bS (b ev S) fun j ev S => setR d l j ev S := nr rfl
def setV (o : Option Nat) (k : Nat → Nv × So) : Os := match o with
  | some n => some (.nx, (k n).1, (k n).2)
  | none => none
theorem q_setRR (d : D) (n : Nat) (j : Int) : setR d (.r n) (.t (.int j)) ev S = match S[n]? with
  | some (.lst xs) => setV (ixN xs.length j) fun i => (ev, S.set n (.lst (xs.set i d)))
  | _ => none := by
  unfold setR ownL putL setV
  dsimp only
  cases h : S[n]? with
  | none => rfl
  | some c => cases c <;> dsimp only
              rename_i xs
              cases ixN xs.length j <;> rfl
theorem q_setRB (d : D) (i : Nat) (j : Int) : setR d (.b i) (.t (.int j)) ev S = match ev[i]? with
  | some (some (.ol xs)) => setV (ixN xs.length j) fun n => (ev.set i (some (.ol (xs.set n d))), S)
  | _ => none := by
  unfold setR ownL putL setV
  dsimp only
  cases h : ev[i]? with
  | none => rfl
  | some c => cases c with
    | none => rfl
    | some c => cases c <;> dsimp only
                rename_i xs
                cases ixN xs.length j <;> rfl
theorem q_setV (n : Nat) (k : Nat → Nv × So) : setV (some n) k = some (.nx, (k n).1, (k n).2) := nr rfl
theorem q_ixN {n : Nat} {i : Int} (h0 : 0 ≤ i) (h1 : i < n) : ixN n i = some i.toNat := by unfold ixN; rw [if_pos h0, if_pos h1]
def parR (i j : Nat) (xs : List D) (ev : Nv) (S : So) : Os := match xs with
  | [x, y] => some (.nx, (ev.set i (some (.d x))).set j (some (.d y)), S)
  | _ => none
theorem q_par (i j : Nat) : sPar i j ms ev S = bS (mEsc ms ev S) (parR i j) := nr rfl
theorem q_parR (i j : Nat) (x y : D) : parR i j [x, y] ev S = some (.nx, (ev.set i (some (.d x))).set j (some (.d y)), S) := nr rfl
/-! lists that are cells or slots' own, read -/
theorem q_ixR (n : Nat) (i : Int) : dIx ev S (.r n) (.t (.int i)) = match S[n]? with
  | some (.lst ds) => atI ds i
  | some (.frl ds) => atI ds i
  | some (.tup ds) => atI ds i
  | _ => none := by
  show (match viewL ev S (.r n) with
    | some ds => atI ds i
    | none => (viewT S (.r n)).bind fun ds => atI ds i) = _
  unfold viewL viewT
  dsimp only
  cases h : S[n]? with
  | none => rfl
  | some c => cases c <;> rfl
theorem q_ixB (k : Nat) (i : Int) : dIx ev S (.b k) (.t (.int i)) = match ev[k]? with
  | some (some (.ol ds)) => atI ds i
  | _ => none := by
  show (match viewL ev S (.b k) with
    | some ds => atI ds i
    | none => (viewT S (.b k)).bind fun ds => atI ds i) = _
  unfold viewL viewT
  dsimp only
  cases h : ev[k]? with
  | none => rfl
  | some c => cases c with
    | none => rfl
    | some c => cases c <;> rfl
theorem q_lenR (n : Nat) : bLen ev S [.r n] = match S[n]? with
  | some (.lst ds) => some (.t (.int (ds.length : Int)))
  | some (.frl ds) => some (.t (.int (ds.length : Int)))
  | some (.tup ds) => some (.t (.int (ds.length : Int)))
  | some (.dic ds) => some (.t (.int (ds.length : Int)))
  | _ => none := by
  unfold bLen lenOf viewL viewT
  dsimp only
  cases h : S[n]? with
  | none => rfl
  | some c => cases c <;> rfl
theorem q_lenB (k : Nat) : bLen ev S [.b k] = match ev[k]? with
  | some (some (.ol ds)) => some (.t (.int (ds.length : Int)))
  | some (some (.od ds)) => some (.t (.int (ds.length : Int)))
  | _ => none := by
  unfold bLen lenOf viewL viewT
  dsimp only
  cases h : ev[k]? with
  | none => rfl
  | some c => cases c with
    | none => rfl
    | some c => cases c <;> rfl
theorem q_min (i j : Int) : bMin2 ev S [.t (.int i), .t (.int j)] = some (.t (.int (if j < i then j else i))) := rfl
theorem q_max (i j : Int) : bMax2 ev S [.t (.int i), .t (.int j)] = some (.t (.int (if i < j then j else i))) := rfl
theorem q_tupT (ts : List PyData) : dTupOf ev S (.t (.tuple ts)) = some (.t (.tuple ts)) := rfl
theorem q_tupL (ts : List PyData) : dTupOf ev S (.t (.list ts)) = some (.t (.tuple ts)) := by
  show ((allT (ts.map .t)).map fun ts => D.t (.tuple ts)) = _
  rw [allT_map]; rfl
theorem q_tupB (k : Nat) : dTupOf ev S (.b k) = match ev[k]? with
  | some (some (.ol ds)) => (allT ds).map fun ts => .t (.tuple ts)
  | _ => none := by
  unfold dTupOf viewL
  dsimp only
  cases h : ev[k]? with
  | none => rfl
  | some c => cases c with
    | none => rfl
    | some c => cases c <;> rfl
theorem q_catT {ts us : List PyData} (h0 : ts ≠ []) (h : ts.length + us.length ≤ sizeLine) : dAdd ev S (.t (.tuple ts)) (.t (.tuple us)) = some (.t (.tuple (ts ++ us))) := if_pos ⟨h0, h⟩
def sortR (xs : List D) (ev : Nv) (S : So) : Om (List D) := match xs with
  | [x] => match viewL ev S x with
    | some ds => if ds.all okT = true ∧ ds.length ≤ sizeLine then some (.ok (sortL (fun x y => HT.lexLt (keyT x) (keyT y)) ds), ev, S) else none
    | none => none
  | _ => none
theorem q_sortT : lSortT a ev S = bK (mEsc (mCons a mNil) ev S) sortR := nr rfl
def zipR (xs : List D) (ev : Nv) (S : So) : Om Itr := match xs with
  | [d, e] => ans (zipOf S d e) ev S
  | _ => none
theorem q_zip : mZip ms ev S = bK (mEsc ms ev S) zipR := nr rfl
theorem q_zipR (d e : D) : zipR [d, e] ev S = ans (zipOf S d e) ev S := nr rfl
theorem r_escB (i : Nat) : esc (.b i) ev S = match ev[i]? with
    | some (some (.ol ds)) => (match allT ds with
      | some ts => some (.ok (.t (.list ts)), ev.set i (some (.d (.t (.list ts)))), S)
      | none => some (.ok (.r S.length), ev.set i (some (.d (.r S.length))), S ++ [.lst ds]))
    | some (some (.od kvs)) => some (.ok (.r S.length), ev.set i (some (.d (.r S.length))), S ++ [.dic kvs])
    | some (some (.d x)) => some (.ok x, ev, S)
    | _ => none := nr rfl
theorem allT_r (n : Nat) (r : List D) : allT (.r n :: r) = none := rfl
end
end Cl

namespace Cl
open PySem L2 RZ
/-! ## tuples of the module -/
def dvD : He.Dv → PyData
  | .int i => .int i
  | .str x => .str x
  | .bl b => .bool b
  | _ => .none
def dvOk : He.Dv → Bool
  | .int _ | .str _ | .bl _ | .non => true
  | _ => false
theorem dv_trs {K : PySem.W.Frag} {F : Hp} : ∀ {vs : List He.Dv}, vs.all dvOk = true → TRs K F (vs.map (He.Dv.v K)) (vs.map dvD)
  | [], _ => .nil
  | v :: vs, h => by
    simp only [List.all_cons, Bool.and_eq_true] at h
    refine .cons ?_ (dv_trs h.2)
    cases v with
    | int i => exact .int i
    | str x => exact .str x
    | bl b => exact .bl b
    | non => exact .non
    | _ => cases h.1
theorem me_gtup {X : Cx} {γ : Nat → Addr} {W : WX} {pos : Pos} {x : Str} {vs : List He.Dv} {d : PyData} (hm : X.mg x = some (.ref (He.ga X.K x))) (h : He.tupB X.K x vs = true) (ho : vs.all dvOk = true) (hd : d = .tuple (vs.map dvD) := by rfl) (hg : Gl X x := by rfl) (hdb : (x == ("__debug__" : Str)) = false := by decide) :
    ME X γ W (.Name x pos) (mC d) := by
  subst hd
  exact me_glob (v := .ref (He.ga X.K x)) hm rfl (fun F => .tup (He.tupB_ok h F) (dv_trs ho)) hg hdb
/-! ## all, any of truths; split, upper; str of a number -/
def allB : List D → Option (List Bool)
  | [] => some []
  | .t (.bool x) :: r => (allB r).map (x :: ·)
  | _ :: _ => none
theorem allB_map (xs : List Bool) : allB (xs.map fun x => .t (.bool x)) = some xs := by
  induction xs with
  | nil => rfl
  | cons x r ih => simp [allB, ih]
section
variable {K : PySem.W.Frag} {γ : Nat → Addr}
theorem allB_ok {F : Hp} {il : List Addr} {σ : L2.St} : ∀ {ds : List D} {xs : List Bool} {vs : List V}, allB ds = some xs → DRs K F il σ vs ds → vs = xs.map V.bl
  | [], xs, vs, h, r => by cases h; cases r; rfl
  | d :: r, xs, vs, h, hr => by
    unfold allB at h
    split at h
    · rename_i he; cases he
    · rename_i x r' he
      cases he
      obtain ⟨a, h1, rfl⟩ := Option.map_eq_some_iff.mp h
      cases hr with
      | cons h2 h3 => rw [DR.bool h2, allB_ok h1 h3]; rfl
    · cases h
def bAll : Bf := fun ev S xs => match xs with
  | [x] => (viewL ev S x).bind fun ds => (allB ds).map fun bs => .bool (bs.all id)
  | _ => none
def bAny : Bf := fun ev S xs => match xs with
  | [x] => (viewL ev S x).bind fun ds => (allB ds).map fun bs => .bool (bs.any id)
  | _ => none
theorem rv_all : RVs K γ (rAll K) bAll := by
  intro P O F H il S ev σ xs dxs d R hx h Q k
  unfold bAll at h; split at h
  · obtain ⟨ds, q1, h⟩ := Option.bind_eq_some_iff.mp h
    obtain ⟨bs, q2, rfl⟩ := Option.map_eq_some_iff.mp h
    cases hx with
    | cons a b =>
      cases b
      obtain ⟨p, vs, rfl, h1, h2⟩ := viewL_ok R a q1
      rw [allB_ok q2 h2] at h1
      exact ⟨p, bs, rfl, h1, k _ F H (Same.refl F) R (TR.bl _)⟩
  · cases h
theorem rv_any : RVs K γ (rAny K) bAny := by
  intro P O F H il S ev σ xs dxs d R hx h Q k
  unfold bAny at h; split at h
  · obtain ⟨ds, q1, h⟩ := Option.bind_eq_some_iff.mp h
    obtain ⟨bs, q2, rfl⟩ := Option.map_eq_some_iff.mp h
    cases hx with
    | cons a b =>
      cases b
      obtain ⟨p, vs, rfl, h1, h2⟩ := viewL_ok R a q1
      rw [allB_ok q2 h2] at h1
      exact ⟨p, bs, rfl, h1, k _ F H (Same.refl F) R (TR.bl _)⟩
  · cases h
theorem trs_strs {F : Hp} : ∀ ys : List Str, TRs K F (ys.map V.str) (ys.map .str)
  | [] => .nil
  | y :: r => .cons (.str y) (trs_strs r)
def fSplit : Mf := fun _ _ x ys => match x, ys with
  | .t (.str a), [.t (.str b)] => if (b.length == 0) = false ∧ a.length + 2 ≤ sizeLine then some (.t (.list ((Txt.split a b).map .str))) else none
  | _, _ => none
theorem rv_split : RVm K γ (fun x xs H Q => ∃ a b, x = .str a ∧ xs = [.str b] ∧ (b.length == 0) = false ∧ a.length + 2 ≤ sizeLine ∧ rNewStrs (Txt.split a b) H Q) fSplit := by
  intro P O F H il S ev σ x xs dx dxs d R hx hxs h Q k
  unfold fSplit at h
  split at h
  · split at h
    · rename_i hl
      cases h
      cases hxs with
      | cons a b =>
        cases b
        rw [DR.str hx, DR.str a]
        exact ⟨_, _, rfl, rfl, hl.1, hl.2, fun p hp => k _ _ _ (R.same hp) (R.newF hp) (TR.lst upd_same (trs_strs _))⟩
    · cases h
  · cases h
def fUpper : Mf := fun _ _ x ys => match x, ys with
  | .t (.str a), [] => if a.length ≤ 5592405 then some (.str (Txt.upper a)) else none
  | _, _ => none
theorem rv_upper : RVm K γ (fun x xs H Q => ∃ a, x = .str a ∧ xs = [] ∧ a.length ≤ 5592405 ∧ Q (.str (Txt.upper a)) H) fUpper := by
  intro P O F H il S ev σ x xs dx dxs d R hx hxs h Q k
  unfold fUpper at h
  split at h
  · split at h
    · rename_i hl
      cases h
      cases hxs
      rw [DR.str hx]
      exact ⟨_, rfl, rfl, hl, k _ F H (Same.refl F) R (TR.str _)⟩
    · cases h
  · cases h
def bStr : Bf := fun _ _ xs => match xs with
  | [.t (.int i)] => if i.natAbs.log2 < 1920 then some (.str (toString i : String)) else none
  | [.t (.str x)] => some (.str x)
  | _ => none
theorem rv_str : RVs K γ (fun xs H Q => (∃ i, xs = [.int i] ∧ i.natAbs.log2 < 1920 ∧ Q (.str (toString i : String)) H) ∨ ∃ a, xs = [.str a] ∧ Q (.str a) H) bStr := by
  intro P O F H il S ev σ xs dxs d R hx h Q k
  unfold bStr at h; split at h
  · split at h
    · rename_i hl
      cases h
      cases hx with
      | cons a b => cases b; rw [DR.int a]; exact .inl ⟨_, rfl, hl, k _ F H (Same.refl F) R (TR.str _)⟩
    · cases h
  · cases h
    cases hx with
    | cons a b => cases b; rw [DR.str a]; exact .inr ⟨_, rfl, k _ F H (Same.refl F) R (TR.str _)⟩
  · cases h
end
theorem CallR.or' {X : Cx} {f : Value} {r r' : List V → Hp → VK → Prop} (h : CallR X f r) (h' : CallR X f r') : CallR X f (fun xs H Q => r xs H Q ∨ r' xs H Q) := fun pins s σ H vs us Q I rv q => by
  rcases q with q | q
  · exact h pins s σ H vs us Q I rv q
  · exact h' pins s σ H vs us Q I rv q
section
variable {X : Cx} {γ : Nat → Addr} {W : WX} {k : Nat} {a : Expr} {p pos : Pos} {ms : Mm (List D)}
theorem me_all (c : CxK X W k) (hm : X.mg "all" = none) (h : MA X γ W [a] ms) (hg : Gl X "all" := by rfl) (he : starEach [a] X.env = (false, eval a X.env) :: starEach [] X.env := by rfl) (hpl : (backTo pos (starEach [] X.env)).any (·.1) = false := by rfl) :
    ME X γ W (.Call (.Name "all" p) [a] [] pos) (mB bAll ms) := me_B (cr_all c.cm) rv_all hm (by decide +kernel) h hg (by decide) (by decide) he hpl
theorem me_any (c : CxK X W k) (hm : X.mg "any" = none) (h : MA X γ W [a] ms) (hg : Gl X "any" := by rfl) (he : starEach [a] X.env = (false, eval a X.env) :: starEach [] X.env := by rfl) (hpl : (backTo pos (starEach [] X.env)).any (·.1) = false := by rfl) :
    ME X γ W (.Call (.Name "any" p) [a] [] pos) (mB bAny ms) := me_B (cr_any c.cm) rv_any hm (by decide +kernel) h hg (by decide) (by decide) he hpl
theorem me_strC (hm : X.mg "str" = none) (h : MA X γ W [a] ms) (hg : Gl X "str" := by rfl) (he : starEach [a] X.env = (false, eval a X.env) :: starEach [] X.env := by rfl) (hpl : (backTo pos (starEach [] X.env)).any (·.1) = false := by rfl) :
    ME X γ W (.Call (.Name "str" p) [a] [] pos) (mB bStr ms) := me_Ty (CallR.or' call_str_int SkE.call_str_str) rv_str hm (by decide +kernel) h hg (by decide) (by decide) he hpl
end
end Cl

/-! # enumerate, the script's parts -/
namespace Cl
open PySem L2
section
variable {ev e1 e2 : Nv} {S s1 s2 : So} {ms : Mm (List D)}
def enumR : List D → Nv → So → Option (Rs Itr × Nv × So) := fun xs ev S => match xs with
  | [d] => match viewL [] S d with
    | some ds => some (.ok ⟨enumIts 0 ds, fun S => viewL [] S d = some ds⟩, ev, S)
    | none => none
  | _ => none
theorem q_enum : mEnum ms ev S = bK (mEsc ms ev S) enumR := nr rfl
theorem q_enumR (ts : List PyData) : enumR [.t (.list ts)] ev S = some (.ok ⟨enumIts 0 (ts.map .t), fun S => viewL [] S (.t (.list ts)) = some (ts.map .t)⟩, ev, S) := nr rfl
theorem enum_zip : ∀ (n : Nat) (ns : List Int), enumIts n ((ns.map PyData.int).map D.t) = (ns.zipIdx n).map fun p => Im.tup [.int (p.2 : Int), .int p.1]
  | _, [] => rfl
  | n, i :: r => by
    show Im.tup [.int (n : Int), .t (.int i)] :: enumIts (n + 1) ((r.map PyData.int).map D.t) = _
    rw [enum_zip (n + 1) r]; rfl
theorem q_script {ns : List Int} (lo hi : Option Int) (h : S[0]? = some (.frl (ns.map D.int))) : dSl ev S (.r 0) lo hi = some (.t (.list ((cut ns lo hi).map PyData.int))) := by
  have hv : viewL ev S (.r 0) = some (ns.map D.int) := by
    show (match S[0]? with
      | some (.lst xs) => some xs
      | some (.frl xs) => some xs
      | _ => none) = _
    rw [h]
  show (viewL ev S (.r 0)).bind (fun ds => treeL (cut ds lo hi)) = _
  rw [hv]
  show treeL (cut (ns.map D.int) lo hi) = _
  rw [cut_map]
  rw [show (cut ns lo hi).map D.int = ((cut ns lo hi).map PyData.int).map D.t by rw [List.map_map]; rfl]
  exact treeL_map _
end
end Cl

namespace Cl
open PySem L2
/-! ## two readings of one text -/
section
variable {X : Cx} {γ : Nat → Addr} {W : WX} {K : PySem.W.Frag}
theorem pe_two {e : Expr} {t t' : TE} (h : PE X e t) (h' : PE X e t') : PE X e (fun σ H Q => t σ H Q ∨ t' σ H Q) :=
  ⟨fun pins s σ H Q I q => q.elim (h.run pins s σ H Q I) (h'.run pins s σ H Q I)⟩
theorem pt_two {e : Expr} {t t' : TT} (h : PT X e t) (h' : PT X e t') : PT X e (fun σ H Q => t σ H Q ∨ t' σ H Q) :=
  ⟨fun pins s σ H Q I q => q.elim (h.run pins s σ H Q I) (h'.run pins s σ H Q I)⟩
theorem ps_two {e : Stmt} {t t' : TS} (h : PS X e t) (h' : PS X e t') : PS X e (fun D σ H => t D σ H ∨ t' D σ H) :=
  ⟨fun pins s σ H Q I q => q.elim (h.run pins s σ H Q I) (h'.run pins s σ H Q I)⟩
theorem se_two {t t' : TE} {m1 m2 m : EM} (h : SE K γ W t m1) (h' : SE K γ W t' m2) (hm : ∀ ev S, m ev S = m1 ev S ∨ m ev S = m2 ev S) : SE K γ W (fun σ H Q => t σ H Q ∨ t' σ H Q) m :=
  fun P O F H il S ev σ R r ev' S' hr Q k => by
    rcases hm ev S with e | e <;> rw [e] at hr
    · exact .inl (h P O F H il S ev σ R r ev' S' hr Q k)
    · exact .inr (h' P O F H il S ev σ R r ev' S' hr Q k)
theorem st_two {t t' : TT} {m1 m2 m : Mm Bool} (h : ST K γ W t m1) (h' : ST K γ W t' m2) (hm : ∀ ev S, m ev S = m1 ev S ∨ m ev S = m2 ev S) : ST K γ W (fun σ H Q => t σ H Q ∨ t' σ H Q) m :=
  fun P O F H il S ev σ R r ev' S' hr Q k => by
    rcases hm ev S with e | e <;> rw [e] at hr
    · exact .inl (h P O F H il S ev σ R r ev' S' hr Q k)
    · exact .inr (h' P O F H il S ev σ R r ev' S' hr Q k)
theorem ss_two {t t' : TS} {m1 m2 m : SM} (h : SS K γ W t m1) (h' : SS K γ W t' m2) (hm : ∀ ev S, m ev S = m1 ev S ∨ m ev S = m2 ev S) : SS K γ W (fun D σ H => t D σ H ∨ t' D σ H) m :=
  fun P O F H il S ev σ R r ev' S' hr Q k => by
    rcases hm ev S with e | e <;> rw [e] at hr
    · exact .inl (h P O F H il S ev σ R r ev' S' hr Q k)
    · exact .inr (h' P O F H il S ev σ R r ev' S' hr Q k)
theorem me_two {e : Expr} {m1 m2 m : EM} (h : ME X γ W e m1) (h' : ME X γ W e m2) (hm : ∀ ev S, m ev S = m1 ev S ∨ m ev S = m2 ev S) : ME X γ W e m :=
  let ⟨_, a1, a2⟩ := h; let ⟨_, b1, b2⟩ := h'; ⟨_, pe_two a1 b1, se_two a2 b2 hm⟩
theorem mt_two {e : Expr} {m1 m2 m : Mm Bool} (h : MT X γ W e m1) (h' : MT X γ W e m2) (hm : ∀ ev S, m ev S = m1 ev S ∨ m ev S = m2 ev S) : MT X γ W e m :=
  let ⟨_, a1, a2⟩ := h; let ⟨_, b1, b2⟩ := h'; ⟨_, pt_two a1 b1, st_two a2 b2 hm⟩
theorem ms_two {e : Stmt} {m1 m2 m : SM} (h : MS X γ W e m1) (h' : MS X γ W e m2) (hm : ∀ ev S, m ev S = m1 ev S ∨ m ev S = m2 ev S) : MS X γ W e m :=
  let ⟨_, a1, a2⟩ := h; let ⟨_, b1, b2⟩ := h'; ⟨_, ps_two a1 b1, ss_two a2 b2 hm⟩
/-- one operation or the other, by its values -/
theorem op_or {f g h : F2} (ma mb : EM) (hf : ∀ ev S x y, h ev S x y = f ev S x y ∨ h ev S x y = g ev S x y) (ev : Nv) (S : So) : mOp h ma mb ev S = mOp f ma mb ev S ∨ mOp h ma mb ev S = mOp g ma mb ev S := by
  unfold mOp
  cases ha : ma ev S with
  | none => exact .inl rfl
  | some q =>
    obtain ⟨r, e1, s1⟩ := q
    cases r with
    | ex x => exact .inl rfl
    | ok x =>
      rw [bnd_ok, bnd_ok, bnd_ok]
      cases hb : mb e1 s1 with
      | none => exact .inl rfl
      | some q =>
        obtain ⟨r, e2, s2⟩ := q
        cases r with
        | ex x => exact .inl rfl
        | ok y =>
          rw [bnd_ok, bnd_ok, bnd_ok]
          rcases hf e2 s2 x y with e | e <;> rw [e]
          · exact .inl rfl
          · exact .inr rfl
end
/-! ## dicts: what they hold -/
def keyP : PyData → Option Key
  | .int i => some (.inl i)
  | .str x => some (.inr x)
  | _ => none
def treeKs : List (PyData × PyData) → Option (List (Key × D))
  | [] => some []
  | (p, d) :: r => match keyP p, treeKs r with
    | some k, some s => some ((k, .t d) :: s)
    | _, _ => none
def viewD (ev : Nv) (S : So) : D → Option (List (Key × D))
  | .t (.dict kvs) => treeKs kvs
  | .r n => match S[n]? with
    | some (.dic kvs) => some kvs
    | some (.frd kvs) => some kvs
    | _ => none
  | .b i => match ev[i]? with
    | some (some (.od kvs)) => some kvs
    | _ => none
  | _ => none
/-- of those that aren't walked -/
def viewD0 (ev : Nv) (S : So) : D → Option (List (Key × D))
  | .t (.dict kvs) => treeKs kvs
  | .r n => match S[n]? with
    | some (.dic kvs) => some kvs
    | _ => none
  | .b i => match ev[i]? with
    | some (some (.od kvs)) => some kvs
    | _ => none
  | _ => none
def valD (kvs : List (Key × D)) (k : Key) : Option D := (kvs.find? fun kv => decide (kv.1 = k)).map (·.2)
def putD (kvs : List (Key × D)) (k : Key) (v : D) : List (Key × D) :=
  if (kvs.any fun kv => decide (kv.1 = k)) = true then kvs.map (fun kv => if kv.1 = k then (kv.1, v) else kv) else kvs ++ [(k, v)]
def dropD (kvs : List (Key × D)) (k : Key) : List (Key × D) := kvs.filter fun kv => decide (kv.1 ≠ k)
def mergeD (kvs more : List (Key × D)) : List (Key × D) := more.foldl (fun acc kv => putD acc kv.1 kv.2) kvs
/-- a value as a key -/
def keyOf : D → Option Key
  | .t d => keyP d
  | _ => none
section
variable {X : Cx} {γ : Nat → Addr} {W : WX} {K : PySem.W.Frag} {P O F H : Hp} {il : List Addr} {S : So} {ev : Nv} {σ : L2.St}
theorem treeKs_ok : ∀ {kvs : List (PyData × PyData)} {ks : List (Key × V)} {ds : List (Key × D)}, TRk K F ks kvs → treeKs kvs = some ds → KR K F il ks ds
  | _, _, ds, .nil, h => by cases h; exact .nil
  | _, _, ds, .cons (k := k) (p := p) h0 h1 h2, h => by
    unfold treeKs at h
    split at h
    · rename_i k' s hk hs
      cases h
      have : k = k' := by
        subst h0
        cases k <;> (cases hk; rfl)
      exact .cons ⟨this, h1⟩ (treeKs_ok h2 hs)
    · cases h
theorem DGet.kr {H : Hp} {a : Addr} {kvs : List (Key × V)} {k : Key} (e : Rd H a (.dK kvs)) : DGet H a (kV k) (valV kvs k) := .inl ⟨kvs, k, e, rfl, rfl⟩
theorem viewD_ok (R : RE K γ P O F H il S ev σ) {d : D} {v : V} {kvs : List (Key × D)} (h : DR K F il σ v d) (q : viewD ev S d = some kvs) : ∃ a ks, v = .ref a ∧ Rd H a (.dK ks) ∧ KR K F il ks kvs := by
  cases d with
  | t d =>
    cases d with
    | dict kvs =>
      cases h with
      | dic h1 h2 => exact ⟨_, _, rfl, Rd.of (R.fh _ _ h1), treeKs_ok h2 q⟩
    | _ => cases q
  | r n =>
    obtain ⟨a, rfl, h2⟩ := h
    unfold viewD at q
    dsimp only at q
    split at q
    · rename_i kvs' hS
      cases q
      obtain ⟨_, ks, h3, h4⟩ := R.cl n a _ h2 hS
      exact ⟨a, ks, rfl, Rd.of h3, h4⟩
    · rename_i kvs' hS
      cases q
      obtain ⟨o, ks, h3, h4⟩ := R.cl n a _ h2 hS
      exact ⟨a, ks, rfl, .inr ⟨o, R.fh _ _ h3⟩, h4⟩
    · cases q
  | b i =>
    unfold viewD at q
    dsimp only at q
    split at q
    · rename_i kvs' hS
      cases q
      obtain ⟨u, q1, q2⟩ := R.en i _ hS
      rw [show σ[i]? = some (some v) from h] at q1; cases q1
      obtain ⟨a, ks, rfl, h3, h4⟩ := q2
      exact ⟨a, ks, rfl, Rd.of (R.oh a _ h3).1, h4⟩
    · cases q
theorem viewD0_ok (R : RE K γ P O F H il S ev σ) {d : D} {v : V} {kvs : List (Key × D)} (h : DR K F il σ v d) (q : viewD0 ev S d = some kvs) : ∃ a ks, v = .ref a ∧ H a = some (.dK ks) ∧ KR K F il ks kvs := by
  cases d with
  | t d =>
    cases d with
    | dict kvs =>
      cases h with
      | dic h1 h2 => exact ⟨_, _, rfl, R.fh _ _ h1, treeKs_ok h2 q⟩
    | _ => cases q
  | r n =>
    obtain ⟨a, rfl, h2⟩ := h
    unfold viewD0 at q
    dsimp only at q
    split at q
    · rename_i kvs' hS
      cases q
      obtain ⟨_, ks, h3, h4⟩ := R.cl n a _ h2 hS
      exact ⟨a, ks, rfl, h3, h4⟩
    · cases q
  | b i =>
    unfold viewD0 at q
    dsimp only at q
    split at q
    · rename_i kvs' hS
      cases q
      obtain ⟨u, q1, q2⟩ := R.en i _ hS
      rw [show σ[i]? = some (some v) from h] at q1; cases q1
      obtain ⟨a, ks, rfl, h3, h4⟩ := q2
      exact ⟨a, ks, rfl, (R.oh a _ h3).1, h4⟩
    · cases q
theorem KR.val {ks : List (Key × V)} {kvs : List (Key × D)} (h : KR K F il ks kvs) (k : Key) : (valV ks k = none ∧ valD kvs k = none) ∨ ∃ v d, valV ks k = some v ∧ valD kvs k = some d ∧ DR K F il [] v d := by
  induction h with
  | nil => exact .inl ⟨rfl, rfl⟩
  | @cons p q ps qs h t ih =>
    by_cases e : p.1 = k
    · refine .inr ⟨p.2, q.2, valV_pos e, ?_, h.2⟩
      unfold valD
      rw [List.find?_cons, show decide (q.1 = k) = true from decide_eq_true (by rw [← h.1]; exact e)]; rfl
    · have e' : valD (q :: qs) k = valD qs k := by
        unfold valD
        rw [List.find?_cons, show decide (q.1 = k) = false from decide_eq_false (by rw [← h.1]; exact e)]
      rw [valV_neg e, e']
      exact ih
theorem KR.any {ks : List (Key × V)} {kvs : List (Key × D)} (h : KR K F il ks kvs) (k : Key) : (ks.any fun kv => decide (kv.1 = k)) = (kvs.any fun kv => decide (kv.1 = k)) := by
  induction h with
  | nil => rfl
  | @cons p q ps qs h t ih => rw [List.any_cons, List.any_cons, ih, h.1]
theorem KR.app {ks ls : List (Key × V)} {kvs lvs : List (Key × D)} (h : KR K F il ks kvs) (h' : KR K F il ls lvs) : KR K F il (ks ++ ls) (kvs ++ lvs) := by
  induction h with
  | nil => exact h'
  | cons h t ih => exact .cons h ih
theorem KR.put {ks : List (Key × V)} {kvs : List (Key × D)} (h : KR K F il ks kvs) (k : Key) {v : V} {d : D} (hv : DR K F il [] v d) : KR K F il (putK ks k v) (putD kvs k d) := by
  unfold putK putD
  rw [h.any k]
  split
  · rename_i hany
    clear hany
    induction h with
    | nil => exact .nil
    | @cons p q ps qs h t ih =>
      refine .cons ?_ ih
      dsimp only
      by_cases e : p.1 = k
      · rw [if_pos e, if_pos (by rw [← h.1]; exact e)]
        exact ⟨h.1, hv⟩
      · rw [if_neg e, if_neg (by rw [← h.1]; exact e)]
        exact h
  · exact h.app (.cons ⟨rfl, hv⟩ .nil)
theorem KR.drop {ks : List (Key × V)} {kvs : List (Key × D)} (h : KR K F il ks kvs) (k : Key) : KR K F il (dropK ks k) (dropD kvs k) := by
  unfold dropK dropD
  induction h with
  | nil => exact .nil
  | @cons p q ps qs h t ih =>
    rw [List.filter_cons, List.filter_cons, h.1]
    split
    · exact .cons h ih
    · exact ih
theorem KR.merge {more : List (Key × V)} {mvs : List (Key × D)} (h : KR K F il more mvs) : ∀ {ks : List (Key × V)} {kvs : List (Key × D)}, KR K F il ks kvs → KR K F il (mergeK ks more) (mergeD kvs mvs) := by
  induction h with
  | nil => intro ks kvs q; exact q
  | @cons p q ps qs h t ih =>
    intro ks kvs r
    have e := r.put p.1 h.2
    rw [h.1] at e
    have := ih e
    show KR K F il (mergeK (putK ks p.1 p.2) ps) _
    rw [h.1]
    exact this
theorem keyOf_ok {y : V} {d : D} {k : Key} (h : DR K F il σ y d) (q : keyOf d = some k) : y = kV k := by
  cases d with
  | t d =>
    cases d with
    | int i => cases q; cases h; rfl
    | str x => cases q; cases h; rfl
    | _ => cases q
  | _ => cases q
/-! ### d[k] -/
def dDGet : F2 := fun ev S x y => (viewD ev S x).bind fun kvs => (keyOf y).bind fun k => valD kvs k
def rDGet : R2 := fun x y H Q => ∃ a v, x = .ref a ∧ DGet H a y (some v) ∧ Q v H
theorem rv_dget : RV2 K γ rDGet dDGet := by
  intro P O F H il S ev σ x y dx dy d R hx hy h Q k
  unfold dDGet at h
  obtain ⟨kvs, h1, h⟩ := Option.bind_eq_some_iff.mp h
  obtain ⟨ky, h2, h⟩ := Option.bind_eq_some_iff.mp h
  obtain ⟨a, ks, rfl, h3, h4⟩ := viewD_ok R hx h1
  have hk := keyOf_ok hy h2
  subst hk
  rcases h4.val ky with ⟨_, z⟩ | ⟨v, d', z1, z2, z3⟩
  · rw [z] at h; cases h
  · rw [z2] at h; cases h
    refine ⟨a, v, rfl, ?_, k v F H (Same.refl F) R (DR.up z3)⟩
    have := DGet.kr (k := ky) h3
    rw [z1] at this
    exact this
/-- d[k] or l[i] -/
def dIxD : F2 := fun ev S x y => match viewD ev S x with
  | some _ => dDGet ev S x y
  | none => dIx ev S x y
theorem ixD_or (ev : Nv) (S : So) (x y : D) : dIxD ev S x y = dIx ev S x y ∨ dIxD ev S x y = dDGet ev S x y := by
  unfold dIxD
  cases viewD ev S x with
  | some _ => exact .inr rfl
  | none => exact .inl rfl
/-! ### k in d -/
def dDIn : F2 := fun ev S y x => (viewD ev S x).bind fun kvs => (keyOf y).map fun k => .t (.bool (valD kvs k).isSome)
def dDNotIn : F2 := fun ev S y x => (viewD ev S x).bind fun kvs => (keyOf y).map fun k => .t (.bool (!(valD kvs k).isSome))
def rDIn : R2 := fun y x H Q => ∃ a o, x = .ref a ∧ DGet H a y o ∧ Q (.bl o.isSome) H
def rDNotIn : R2 := fun y x H Q => ∃ a o, x = .ref a ∧ DGet H a y o ∧ Q (.bl (!o.isSome)) H
theorem KR.isSome {ks : List (Key × V)} {kvs : List (Key × D)} (h : KR K F il ks kvs) (k : Key) : (valV ks k).isSome = (valD kvs k).isSome := by
  rcases h.val k with ⟨z, z'⟩ | ⟨v, d', z1, z2, z3⟩
  · rw [z, z']; rfl
  · rw [z1, z2]; rfl
theorem rv_din : RV2 K γ rDIn dDIn := by
  intro P O F H il S ev σ y x dy dx d R hy hx h Q k
  unfold dDIn at h
  obtain ⟨kvs, h1, h⟩ := Option.bind_eq_some_iff.mp h
  obtain ⟨ky, h2, rfl⟩ := Option.map_eq_some_iff.mp h
  obtain ⟨a, ks, rfl, h3, h4⟩ := viewD_ok R hx h1
  have hk := keyOf_ok hy h2
  subst hk
  refine ⟨a, _, rfl, DGet.kr h3, k _ F H (Same.refl F) R ?_⟩
  rw [h4.isSome]
  exact .bl _
theorem rv_dnotIn : RV2 K γ rDNotIn dDNotIn := by
  intro P O F H il S ev σ y x dy dx d R hy hx h Q k
  unfold dDNotIn at h
  obtain ⟨kvs, h1, h⟩ := Option.bind_eq_some_iff.mp h
  obtain ⟨ky, h2, rfl⟩ := Option.map_eq_some_iff.mp h
  obtain ⟨a, ks, rfl, h3, h4⟩ := viewD_ok R hx h1
  have hk := keyOf_ok hy h2
  subst hk
  refine ⟨a, _, rfl, DGet.kr h3, k _ F H (Same.refl F) R ?_⟩
  rw [h4.isSome]
  exact .bl _
def dInD : F2 := fun ev S y x => match viewD ev S x with
  | some _ => dDIn ev S y x
  | none => dIn ev S y x
def dNotInD : F2 := fun ev S y x => match viewD ev S x with
  | some _ => dDNotIn ev S y x
  | none => dNotIn ev S y x
theorem inD_or (ev : Nv) (S : So) (x y : D) : dInD ev S x y = dIn ev S x y ∨ dInD ev S x y = dDIn ev S x y := by
  unfold dInD
  cases viewD ev S y with
  | some _ => exact .inr rfl
  | none => exact .inl rfl
theorem notInD_or (ev : Nv) (S : So) (x y : D) : dNotInD ev S x y = dNotIn ev S x y ∨ dNotInD ev S x y = dDNotIn ev S x y := by
  unfold dNotInD
  cases viewD ev S y with
  | some _ => exact .inr rfl
  | none => exact .inl rfl
end
section
variable {X : Cx} {γ : Nat → Addr} {W : WX} {a b : Expr} {ma mb : EM} {pos : Pos} {k : Nat}
theorem me_ixD (c : CxK X W k) (ha : ME X γ W a ma) (hb : ME X γ W b mb) (hs : PlainIx b := by exact fun _ _ => rfl) : ME X γ W (.Subscript a b pos) (mOp dIxD ma mb) := by
  refine me_two (me_ix ha hb hs) ?_ (op_or ma mb ixD_or)
  obtain ⟨ta, a1, a2⟩ := ha; obtain ⟨tb, b1, b2⟩ := hb
  exact ⟨_, pe_dget (by have := c.hr.un; omega) a1 b1 hs, se_op (r := rDGet) a2 b2 rv_dget⟩
theorem me_inD (c : CxK X W k) (ha : ME X γ W a ma) (hb : ME X γ W b mb) (hm : behindInMarks .In b = false := by rfl) : ME X γ W (.Compare a [.In] [b] pos) (mOp dInD ma mb) := by
  refine me_two (me_in c ha hb hm) ?_ (op_or ma mb inD_or)
  obtain ⟨ta, a1, a2⟩ := ha; obtain ⟨tb, b1, b2⟩ := hb
  exact ⟨_, pe_cmp (pc_din (by have := c.hr.un; omega) a1 b1) hm, se_op (r := rDIn) a2 b2 rv_din⟩
end
end Cl

namespace Cl
open PySem L2
/-! ## dicts that change -/
def putDc (d : D) (ds : List (Key × D)) : Nv → So → Option (Nv × So) := fun ev S => match d with
  | .r n => match S[n]? with
    | some (.dic _) => some (ev, S.set n (.dic ds))
    | _ => none
  | .b i => match ev[i]? with
    | some (some (.od _)) => some (ev.set i (some (.od ds)), S)
    | _ => none
  | _ => none
def ownD (ev : Nv) (S : So) : D → Option (List (Key × D))
  | .r n => match S[n]? with
    | some (.dic ds) => some ds
    | _ => none
  | .b i => match ev[i]? with
    | some (some (.od ds)) => some ds
    | _ => none
  | _ => none
section
variable {X : Cx} {γ : Nat → Addr} {W : WX} {K : PySem.W.Frag}
theorem ownD_ok {P O F H : Hp} {il : List Addr} {S : So} {ev : Nv} {σ : L2.St} (R : RE K γ P O F H il S ev σ) {d : D} {v : V} {ds : List (Key × D)} (h : DR K F il σ v d) (q : ownD ev S d = some ds) :
    ∃ a vs, v = .ref a ∧ H a = some (.dK vs) ∧ KR K F il vs ds ∧ ∀ ws zs ev' S', KR K F il ws zs → putDc d zs ev S = some (ev', S') → ∃ O', RE K γ P O' F (upd H a (.dK ws)) il S' ev' σ := by
  cases d with
  | t d => cases q
  | r n =>
    obtain ⟨a, rfl, h2⟩ := h
    unfold ownD at q
    dsimp only at q
    split at q
    · rename_i ds' hc
      cases q
      obtain ⟨fa, vs, h3, h4⟩ := R.cl n a _ h2 hc
      refine ⟨a, vs, rfl, h3, h4, fun ws zs ev' S' hw hp => ?_⟩
      unfold putDc at hp
      dsimp only at hp
      rw [hc] at hp
      cases hp
      exact ⟨O, R.setC h2 hc rfl rfl ⟨fa, ws, upd_same, hw⟩⟩
    · cases q
  | b i =>
    have hs : σ[i]? = some (some v) := h
    unfold ownD at q
    dsimp only at q
    split at q
    · rename_i ds' hc
      cases q
      obtain ⟨u, q1, q2⟩ := R.en i _ hc
      rw [hs] at q1; cases q1
      obtain ⟨a, vs, rfl, q3, q4⟩ := q2
      refine ⟨a, vs, rfl, (R.oh _ _ q3).1, q4, fun ws zs ev' S' hw hp => ?_⟩
      unfold putDc at hp
      dsimp only at hp
      rw [hc] at hp
      cases hp
      exact ⟨_, R.setO hc rfl hs ⟨a, ws, rfl, upd_same, hw⟩⟩
    · cases q
/-! ### d[k] = v -/
def sPutD (e o i : EM) : SM := fun ev S => bndS (e ev S) fun x ev S => bndS (esc x ev S) fun d ev S => bndS (o ev S) fun l ev S => bndS (i ev S) fun j ev S => match keyOf j with
  | none => none
  | some k => match ownD ev S l with
    | none => none
    | some xs => if xs.length < sizeLine then match putDc l (putD xs k d) ev S with
        | none => none
        | some (ev, S) => some (.nx, ev, S)
      else none
theorem ss_putD {te to ti : TE} {me mo mi : EM} (he : SE K γ W te me) (ho : SE K γ W to mo) (hi : SE K γ W ti mi) : SS K γ W (sDPut to ti te) (sPutD me mo mi) := by
  intro P O F H il S ev σ R f ev' S' hm E k
  rcases bndS_eq hm with ⟨x, q, rfl⟩ | ⟨d, e1, s1, q, hm⟩
  · exact he P O F H il S ev σ R _ _ _ q _ fun O1 F1 H1 il1 sf pf R1 => k O1 F1 H1 il1 σ sf pf R1
  · refine he P O F H il S ev σ R _ _ _ q _ fun O1 F1 H1 il1 sf pf R1 v hv => ?_
    rcases bndS_eq hm with ⟨x, q', rfl⟩ | ⟨d', e2, s2, q', hm⟩
    · obtain ⟨_, _, _, _, z, _⟩ := esc_ok R1 hv q'
      cases z
    · obtain ⟨d2, O2, F2, il2, z, sf2, pf2, R2, hv2⟩ := esc_ok R1 hv q'
      cases z
      rcases bndS_eq hm with ⟨x, q3, rfl⟩ | ⟨l, e3, s3, q3, hm⟩
      · exact ho P O2 F2 H1 il2 _ _ σ R2 _ _ _ q3 _ fun O3 F3 H3 il3 sf3 pf3 R3 => k O3 F3 H3 il3 σ ((sf.trans sf2).trans sf3) ((pf.trans pf2).trans pf3) R3
      · refine ho P O2 F2 H1 il2 _ _ σ R2 _ _ _ q3 _ fun O3 F3 H3 il3 sf3 pf3 R3 vl hl => ?_
        rcases bndS_eq hm with ⟨x, q4, rfl⟩ | ⟨j, e4, s4, q4, hm⟩
        · exact hi P O3 F3 H3 il3 _ _ σ R3 _ _ _ q4 _ fun O4 F4 H4 il4 sf4 pf4 R4 => k O4 F4 H4 il4 σ (((sf.trans sf2).trans sf3).trans sf4) (((pf.trans pf2).trans pf3).trans pf4) R4
        · refine hi P O3 F3 H3 il3 _ _ σ R3 _ _ _ q4 _ fun O4 F4 H4 il4 sf4 pf4 R4 vj hj => ?_
          split at hm
          · cases hm
          · rename_i ky hky
            split at hm
            · cases hm
            · rename_i xs hx
              split at hm
              · rename_i hlt
                split at hm
                · cases hm
                · rename_i ev5 S5 hp
                  cases hm
                  obtain ⟨a, vs, rfl, h1, h2, h3⟩ := ownD_ok R4 (DR.mono sf4 pf4 hl) hx
                  have hd := DR.mono (sf3.trans sf4) (pf3.trans pf4) hv2
                  obtain ⟨O', R'⟩ := h3 _ _ _ _ (h2.put ky hd) hp
                  rw [keyOf_ok hj hky]
                  exact ⟨a, _, rfl, DPut.k h1 (by rw [PySem.Paired.length h2]; exact hlt), k O' F4 _ il4 σ (((sf.trans sf2).trans sf3).trans sf4) (((pf.trans pf2).trans pf3).trans pf4) R'⟩
              · cases hm
/-! ### d.get -/
def mGet1 (a b : EM) : EM := fun ev S => bnd (a ev S) fun x ev S => match viewD ev S x with
  | none => none
  | some _ => bnd (b ev S) fun y ev S => ans ((viewD ev S x).bind fun kvs => (keyOf y).map fun k => (valD kvs k).getD (.t .none)) ev S
def mGet2 (a b c : EM) : EM := fun ev S => bnd (a ev S) fun x ev S => match viewD ev S x with
  | none => none
  | some _ => bnd (b ev S) fun y ev S => bnd (c ev S) fun z ev S => ans ((viewD ev S x).bind fun kvs => (keyOf y).map fun k => (valD kvs k).getD z) ev S
theorem isD_of {H : Hp} {a : Addr} {ks : List (Key × V)} (h : Rd H a (.dK ks)) : IsD H a := .inl ⟨ks, h⟩
theorem se_get1 {ta tb : TE} {ma mb : EM} (ha : SE K γ W ta ma) (hb : SE K γ W tb mb) : SE K γ W (tDGet1 ta tb) (mGet1 ma mb) := by
  intro P O F H il S ev σ R r ev' S' hm Q k
  rcases bnd_eq hm with ⟨x, q, rfl⟩ | ⟨dx, e1, s1, q, hm⟩
  · exact ha P O F H il S ev σ R _ _ _ q _ fun O1 F1 H1 il1 sf pf R1 => k O1 F1 H1 il1 sf pf R1
  · refine ha P O F H il S ev σ R _ _ _ q _ fun O1 F1 H1 il1 sf pf R1 x hx => ?_
    split at hm
    · cases hm
    · rename_i kvs0 hv0
      obtain ⟨a, ks0, rfl, h3, h4⟩ := viewD_ok R1 hx hv0
      refine ⟨a, rfl, isD_of h3, ?_⟩
      rcases bnd_eq hm with ⟨z, q', rfl⟩ | ⟨dy, e2, s2, q', hm⟩
      · exact hb P O1 F1 H1 il1 s1 e1 σ R1 _ _ _ q' _ fun O2 F2 H2 il2 sf2 pf2 R2 => k O2 F2 H2 il2 (sf.trans sf2) (pf.trans pf2) R2
      · refine hb P O1 F1 H1 il1 s1 e1 σ R1 _ _ _ q' _ fun O2 F2 H2 il2 sf2 pf2 R2 y hy => ?_
        obtain ⟨d, q3, rfl, rfl, rfl⟩ := ans_eq hm
        obtain ⟨kvs, g1, q3⟩ := Option.bind_eq_some_iff.mp q3
        obtain ⟨ky, g2, rfl⟩ := Option.map_eq_some_iff.mp q3
        obtain ⟨a', ks, e, g3, g4⟩ := viewD_ok R2 (DR.mono sf2 pf2 hx) g1
        cases e
        rw [keyOf_ok hy g2]
        refine ⟨_, DGet.kr g3, ?_⟩
        rcases g4.val ky with ⟨z, z'⟩ | ⟨v, d', z1, z2, z3⟩
        · rw [z]
          refine k O2 F2 H2 il2 (sf.trans sf2) (pf.trans pf2) R2 _ ?_
          rw [z']; exact TR.non
        · rw [z1]
          refine k O2 F2 H2 il2 (sf.trans sf2) (pf.trans pf2) R2 _ ?_
          rw [z2]; exact DR.up z3
theorem se_get2 {ta tb tc : TE} {ma mb mc : EM} (ha : SE K γ W ta ma) (hb : SE K γ W tb mb) (hc : SE K γ W tc mc) : SE K γ W (tDGet2 ta tb tc) (mGet2 ma mb mc) := by
  intro P O F H il S ev σ R r ev' S' hm Q k
  rcases bnd_eq hm with ⟨x, q, rfl⟩ | ⟨dx, e1, s1, q, hm⟩
  · exact ha P O F H il S ev σ R _ _ _ q _ fun O1 F1 H1 il1 sf pf R1 => k O1 F1 H1 il1 sf pf R1
  · refine ha P O F H il S ev σ R _ _ _ q _ fun O1 F1 H1 il1 sf pf R1 x hx => ?_
    split at hm
    · cases hm
    · rename_i kvs0 hv0
      obtain ⟨a, ks0, rfl, h3, h4⟩ := viewD_ok R1 hx hv0
      refine ⟨a, rfl, isD_of h3, ?_⟩
      rcases bnd_eq hm with ⟨z, q', rfl⟩ | ⟨dy, e2, s2, q', hm⟩
      · exact hb P O1 F1 H1 il1 s1 e1 σ R1 _ _ _ q' _ fun O2 F2 H2 il2 sf2 pf2 R2 => k O2 F2 H2 il2 (sf.trans sf2) (pf.trans pf2) R2
      · refine hb P O1 F1 H1 il1 s1 e1 σ R1 _ _ _ q' _ fun O2 F2 H2 il2 sf2 pf2 R2 y hy => ?_
        rcases bnd_eq hm with ⟨z, q'', rfl⟩ | ⟨dz, e3, s3, q'', hm⟩
        · exact hc P O2 F2 H2 il2 s2 e2 σ R2 _ _ _ q'' _ fun O3 F3 H3 il3 sf3 pf3 R3 => k O3 F3 H3 il3 ((sf.trans sf2).trans sf3) ((pf.trans pf2).trans pf3) R3
        · refine hc P O2 F2 H2 il2 s2 e2 σ R2 _ _ _ q'' _ fun O3 F3 H3 il3 sf3 pf3 R3 z hz => ?_
          obtain ⟨d, q3, rfl, rfl, rfl⟩ := ans_eq hm
          obtain ⟨kvs, g1, q3⟩ := Option.bind_eq_some_iff.mp q3
          obtain ⟨ky, g2, rfl⟩ := Option.map_eq_some_iff.mp q3
          obtain ⟨a', ks, e, g3, g4⟩ := viewD_ok R3 (DR.mono (sf2.trans sf3) (pf2.trans pf3) hx) g1
          cases e
          rw [keyOf_ok hy g2]
          refine ⟨_, DGet.kr g3, ?_⟩
          rcases g4.val ky with ⟨w, w'⟩ | ⟨v, d', z1, z2, z3⟩
          · rw [w]
            refine k O3 F3 H3 il3 ((sf.trans sf2).trans sf3) ((pf.trans pf2).trans pf3) R3 _ ?_
            rw [w']; exact hz
          · rw [z1]
            refine k O3 F3 H3 il3 ((sf.trans sf2).trans sf3) ((pf.trans pf2).trans pf3) R3 _ ?_
            rw [z2]; exact DR.up z3
end
section
variable {X : Cx} {γ : Nat → Addr} {W : WX} {a b : Expr} {ma mb : EM} {pos : Pos} {k : Nat}
theorem me_notInD (c : CxK X W k) (ha : ME X γ W a ma) (hb : ME X γ W b mb) (hm : behindInMarks .NotIn b = false := by rfl) : ME X γ W (.Compare a [.NotIn] [b] pos) (mOp dNotInD ma mb) := by
  refine me_two (me_notIn c ha hb hm) ?_ (op_or ma mb notInD_or)
  obtain ⟨ta, a1, a2⟩ := ha; obtain ⟨tb, b1, b2⟩ := hb
  exact ⟨_, pe_cmp (pc_dnotin (by have := c.hr.un; omega) a1 b1) hm, se_op (r := rDNotIn) a2 b2 rv_dnotIn⟩
theorem test_or {m m1 m2 : EM} {ev : Nv} {S : So} (h : m ev S = m1 ev S ∨ m ev S = m2 ev S) : mTest m ev S = mTest m1 ev S ∨ mTest m ev S = mTest m2 ev S := by
  unfold mTest
  rcases h with e | e <;> rw [e]
  · exact .inl rfl
  · exact .inr rfl
theorem mt_inD (c : CxK X W k) (ha : ME X γ W a ma) (hb : ME X γ W b mb) (hm : behindInMarks .In b = false := by rfl) : MT X γ W (.Compare a [.In] [b] pos) (mTest (mOp dInD ma mb)) := by
  refine mt_two (mt_in c ha hb hm) ?_ (fun ev S => test_or (op_or ma mb inD_or ev S))
  obtain ⟨ta, a1, a2⟩ := ha; obtain ⟨tb, b1, b2⟩ := hb
  exact ⟨_, pt_cmp (pc_din (by have := c.hr.un; omega) a1 b1) hm, st_B (se_op (r := rDIn) a2 b2 rv_din)⟩
theorem mt_notInD (c : CxK X W k) (ha : ME X γ W a ma) (hb : ME X γ W b mb) (hm : behindInMarks .NotIn b = false := by rfl) : MT X γ W (.Compare a [.NotIn] [b] pos) (mTest (mOp dNotInD ma mb)) := by
  refine mt_two (mt_notIn c ha hb hm) ?_ (fun ev S => test_or (op_or ma mb notInD_or ev S))
  obtain ⟨ta, a1, a2⟩ := ha; obtain ⟨tb, b1, b2⟩ := hb
  exact ⟨_, pt_cmp (pc_dnotin (by have := c.hr.un; omega) a1 b1) hm, st_B (se_op (r := rDNotIn) a2 b2 rv_dnotIn)⟩
theorem ms_putD {o i : Expr} {mo mi : EM} {p1 : Pos} (c : CxK X W k) (he : ME X γ W a ma) (ho : ME X γ W o mo) (hi : ME X γ W i mi) (hs : swapsWith a (some (.Subscript o i p1)) pos.line X.env = pure false := by rfl) :
    MS X γ W (.Assign [.Subscript o i p1] a pos) (sPutD ma mo mi) := by
  obtain ⟨ta, a1, a2⟩ := he; obtain ⟨to, o1, o2⟩ := ho; obtain ⟨ti, i1, i2⟩ := hi
  exact ⟨_, ps_dput (by have := c.hr.un; omega) o1 i1 a1 hs, ss_putD a2 o2 i2⟩
theorem me_get1 {apos : Pos} (c : CxK X W k) (ha : ME X γ W a ma) (hb : ME X γ W b mb) (m : M1 X a "get" apos b pos := by exact ⟨rfl, rfl, rfl, rfl⟩) : ME X γ W (.Call (.Attribute a "get" apos) [b] [] pos) (mGet1 ma mb) := by
  obtain ⟨ta, a1, a2⟩ := ha; obtain ⟨tb, b1, b2⟩ := hb
  exact ⟨_, pe_dget1 (by have := c.hr.un; omega) a1 b1 m, se_get1 a2 b2⟩
theorem me_get2 {apos : Pos} {e : Expr} {mc : EM} (c : CxK X W k) (ha : ME X γ W a ma) (hb : ME X γ W b mb) (hc : ME X γ W e mc) (m : M2 X a "get" apos b e pos := by exact ⟨rfl, rfl, rfl, rfl⟩) : ME X γ W (.Call (.Attribute a "get" apos) [b, e] [] pos) (mGet2 ma mb mc) := by
  obtain ⟨ta, a1, a2⟩ := ha; obtain ⟨tb, b1, b2⟩ := hb; obtain ⟨tc, c1, c2⟩ := hc
  exact ⟨_, pe_dget2 (by have := c.hr.un; omega) a1 b1 c1 m, se_get2 a2 b2 c2⟩
end
end Cl

namespace Cl
open PySem L2
/-! ## new dicts -/
section
variable {X : Cx} {γ : Nat → Addr} {W : WX} {K : PySem.W.Frag} {P O F H : Hp} {il : List Addr} {S : So} {ev : Nv} {σ : L2.St}
theorem RE.hold (R : RE K γ P O F H il S ev σ) {p : Addr} {o : HO} (hp : H p = none) : RE K γ (upd P p o) O F (upd H p o) il S ev σ := by
  obtain ⟨f1, f2, f3, f4⟩ := R.fp hp
  have R1 : RE K γ P O F (upd H p o) il S ev σ := R.ext (Same.refl F) (Same.upd hp) (Same.upd1 R.fh f1) fun a h _ => h
  exact ⟨R1.fh, fun a u h => by
    by_cases e : a = p
    · subst e
      rw [upd_same] at h; cases h
      exact ⟨upd_same, f1, f4, f3⟩
    · rw [upd_ne e] at h
      exact R1.ph a u h, R1.oh, R1.nd, R1.ln, R1.cl, R1.el, R1.en, R1.ow⟩
theorem RE.forget {p : Addr} {o : HO} (R : RE K γ (upd P p o) O F H il S ev σ) (hp : P p = none) : RE K γ P O F H il S ev σ :=
  ⟨R.fh, fun a u h => R.ph a u (by rw [upd_ne (ne_of_none h hp)]; exact h), R.oh, R.nd, R.ln, R.cl, R.el, R.en, R.ow⟩
theorem RE.unhold {p : Addr} {o : HO} (R : RE K γ (upd P p o) O F H il S ev σ) (hp : P p = none) : RE K γ P O F (del H p) il S ev σ := by
  obtain ⟨g1, g2, g3, g4⟩ := R.ph p o upd_same
  exact ⟨fun a u h => by rw [del_ne (ne_of_none h g2)]; exact R.fh a u h,
    fun a u h => by
      obtain ⟨r1, r2, r3, r4⟩ := R.ph a u (by rw [upd_ne (ne_of_none h hp)]; exact h)
      exact ⟨by rw [del_ne (ne_of_none h hp)]; exact r1, r2, r3, r4⟩,
    fun a u h => by
      obtain ⟨r1, r2, r3⟩ := R.oh a u h
      exact ⟨by rw [del_ne (ne_of_none h g4)]; exact r1, r2, r3⟩,
    R.nd, R.ln, fun n a c h1 h2 => (R.cl n a c h1 h2).mono (Same.refl F) (pref_rfl _) (fun _ h _ => h) (fun m _ u h => by
      rw [del_ne fun z => g3 ⟨n, c, by rw [← z]; exact h1, h2, m⟩]; exact h), R.el, R.en, R.ow⟩
theorem upd_del {H : Hp} {p : Addr} {o : HO} : upd (del H p) p o = upd H p o := by
  funext a
  by_cases e : a = p
  · subst e; rw [upd_same, upd_same]
  · rw [upd_ne e, upd_ne e, del_ne e]
/-- the pairs of a display -/
def mPairs : List (EM × EM) → Mm (List (Key × D))
  | [], ev, S => some (.ok [], ev, S)
  | (a, b) :: r, ev, S => bnd (a ev S) fun x ev S => match keyOf x with
    | none => none
    | some k => bnd (b ev S) fun y ev S => bnd (esc y ev S) fun d ev S => bnd (mPairs r ev S) fun ps ev S => some (.ok ((k, d) :: ps), ev, S)
def OutP (K : PySem.W.Frag) (γ : Nat → Addr) (W : WX) (F H : Hp) (il : List Addr) (σ : L2.St) (Q : List (V × V) → Hp → Prop) : Rs (List (Key × D)) → Prop
  | .ok ds => ∀ ks, KR K F il ks ds → Q (ks.map fun kv => (kV kv.1, kv.2)) H
  | .ex x => ∀ cls dx, XP K γ F H il x cls dx → W cls dx σ H
def SPr (K : PySem.W.Frag) (γ : Nat → Addr) (W : WX) (trs : List (TE × TE)) (m : Mm (List (Key × D))) : Prop := ∀ P O F H il S ev σ, RE K γ P O F H il S ev σ → ∀ r ev' S', m ev S = some (r, ev', S') → ∀ Q,
  (∀ O' F' H' il', Same F F' → il <+: il' → RE K γ P O' F' H' il' S' ev' σ → OutP K γ W F' H' il' σ Q r) → tPairs trs σ H Q
theorem spr_nil : SPr K γ W [] (mPairs []) := by
  intro P O F H il S ev σ R r ev' S' hm Q k
  cases hm
  exact k O F H il (Same.refl F) (pref_rfl _) R [] .nil
theorem spr_cons {ta tb : TE} {trs : List (TE × TE)} {ma mb : EM} {ms : List (EM × EM)} (ha : SE K γ W ta ma) (hb : SE K γ W tb mb) (hr : SPr K γ W trs (mPairs ms)) : SPr K γ W ((ta, tb) :: trs) (mPairs ((ma, mb) :: ms)) := by
  intro P O F H il S ev σ R r ev' S' hm Q k
  unfold mPairs at hm
  rcases bnd_eq hm with ⟨x, q, rfl⟩ | ⟨dx, e1, s1, q, hm⟩
  · exact ha P O F H il S ev σ R _ _ _ q _ fun O1 F1 H1 il1 sf pf R1 => k O1 F1 H1 il1 sf pf R1
  · refine ha P O F H il S ev σ R _ _ _ q _ fun O1 F1 H1 il1 sf pf R1 x hx => ?_
    split at hm
    · cases hm
    · rename_i ky hky
      have hk := keyOf_ok hx hky
      subst hk
      rcases bnd_eq hm with ⟨z, q', rfl⟩ | ⟨dy, e2, s2, q', hm⟩
      · exact hb P O1 F1 H1 il1 s1 e1 σ R1 _ _ _ q' _ fun O2 F2 H2 il2 sf2 pf2 R2 => k O2 F2 H2 il2 (sf.trans sf2) (pf.trans pf2) R2
      · refine hb P O1 F1 H1 il1 s1 e1 σ R1 _ _ _ q' _ fun O2 F2 H2 il2 sf2 pf2 R2 y hy => ?_
        rcases bnd_eq hm with ⟨z, q3, rfl⟩ | ⟨d', e3, s3, q3, hm⟩
        · obtain ⟨_, _, _, _, z, _⟩ := esc_ok R2 hy q3
          cases z
        · obtain ⟨d2, O3, F3, il3, z, sf3, pf3, R3, hv3⟩ := esc_ok R2 hy q3
          cases z
          rcases bnd_eq hm with ⟨z, q4, rfl⟩ | ⟨ps, e4, s4, q4, hm⟩
          · exact hr P O3 F3 H2 il3 _ _ σ R3 _ _ _ q4 _ fun O4 F4 H4 il4 sf4 pf4 R4 => k O4 F4 H4 il4 (((sf.trans sf2).trans sf3).trans sf4) (((pf.trans pf2).trans pf3).trans pf4) R4
          · refine hr P O3 F3 H2 il3 _ _ σ R3 _ _ _ q4 _ fun O4 F4 H4 il4 sf4 pf4 R4 ks hks => ?_
            cases hm
            exact k O4 F4 H4 il4 (((sf.trans sf2).trans sf3).trans sf4) (((pf.trans pf2).trans pf3).trans pf4) R4 ((ky, y) :: ks) (.cons ⟨rfl, DR.mono sf4 pf4 hv3⟩ hks)
/-- a new dict -/
def OutLD (K : PySem.W.Frag) (γ : Nat → Addr) (W : WX) (F H : Hp) (il : List Addr) (σ : L2.St) (Q : VK) : Rs (List (Key × D)) → Prop
  | .ok ds => ∀ vs p, KR K F il vs ds → vs.length ≤ sizeLine → H p = none → Q (.ref p) (upd H p (.dK vs))
  | .ex x => ∀ cls dx, XP K γ F H il x cls dx → W cls dx σ H
def SLD (K : PySem.W.Frag) (γ : Nat → Addr) (W : WX) (t : TE) (m : Mm (List (Key × D))) : Prop := ∀ P O F H il S ev σ, RE K γ P O F H il S ev σ → ∀ r ev' S', m ev S = some (r, ev', S') → ∀ Q : VK,
  (∀ O' F' H' il', Same F F' → il <+: il' → RE K γ P O' F' H' il' S' ev' σ → OutLD K γ W F' H' il' σ Q r) → t σ H Q
def kDisp (ms : List (EM × EM)) : Mm (List (Key × D)) := fun ev S => bnd (mPairs ms ev S) fun ps ev S => if ps.length ≤ 15 then some (.ok (mergeD [] ps), ev, S) else none
def kNew : Mm (List (Key × D)) := fun ev S => some (.ok [], ev, S)
theorem sld_new : SLD K γ W tDNewK kNew := by
  intro P O F H il S ev σ R r ev' S' hm Q k
  cases hm
  intro p hp
  exact k O F H il (Same.refl F) (pref_rfl _) R [] p .nil (Nat.zero_le _) hp
theorem sld_disp {trs : List (TE × TE)} {ms : List (EM × EM)} (h : SPr K γ W trs (mPairs ms)) : SLD K γ W (tDisp trs) (kDisp ms) := by
  intro P O F H il S ev σ R r ev' S' hm Q k p hp
  have hP := (R.fp hp).2.1
  rcases bnd_eq hm with ⟨x, q, rfl⟩ | ⟨ps, e1, s1, q, hm⟩
  · exact h _ O F _ il S ev σ (R.hold hp) _ _ _ q _ fun O1 F1 H1 il1 sf pf R1 => k O1 F1 H1 il1 sf pf (R1.forget hP)
  · refine h _ O F _ il S ev σ (R.hold hp) _ _ _ q _ fun O1 F1 H1 il1 sf pf R1 ks hks => ?_
    split at hm
    · rename_i hl
      cases hm
      refine ⟨(R1.ph p _ upd_same).1, ks, rfl, by rw [PySem.Paired.length hks]; exact hl, ?_⟩
      have := k O1 F1 (del H1 p) il1 sf pf (R1.unhold hP) (mergeK [] ks) p (hks.merge .nil) (by
        have := length_mergeK ks []
        rw [List.length_nil, PySem.Paired.length hks] at this
        rw [sl_eq]; omega) del_same
      rw [upd_del] at this
      exact this
    · cases hm
/-- .. as a cell -/
def mCellD (m : Mm (List (Key × D))) : EM := fun ev S => bnd (m ev S) fun ds ev S => some (.ok (.r S.length), ev, S ++ [.dic ds])
theorem se_cellD {t : TE} {m : Mm (List (Key × D))} (h : SLD K γ W t m) : SE K γ W t (mCellD m) := by
  intro P O F H il S ev σ R r ev' S' hm Q k
  rcases bnd_eq hm with ⟨x, q, rfl⟩ | ⟨ds, e1, s1, q, hm⟩
  · exact h P O F H il S ev σ R _ _ _ q _ fun O1 F1 H1 il1 sf pf R1 => k O1 F1 H1 il1 sf pf R1
  · refine h P O F H il S ev σ R _ _ _ q _ fun O1 F1 H1 il1 sf pf R1 vs p hv hz hp => ?_
    cases hm
    have R2 := R1.newM (p := p) (o := .dK vs) (c := .dic ds) hp ⟨(R1.fp hp).1, vs, upd_same, KR.mono (Same.refl F1) (pref_app _ _) hv⟩
    exact k O1 _ _ _ sf (pf.trans (pref_app _ _)) R2 _ ⟨p, rfl, by rw [← R1.ln]; simp⟩
/-- .. as a tree -/
def allK : List (Key × D) → Option (List (PyData × PyData))
  | [] => some []
  | (k, .t d) :: r => (allK r).map ((keyD k, d) :: ·)
  | _ => none
theorem allK_ok {ks : List (Key × V)} : ∀ {ds : List (Key × D)} {ts : List (PyData × PyData)}, allK ds = some ts → KR K F il ks ds → TRk K F ks ts := by
  induction ks with
  | nil => intro ds ts h r; cases r; cases h; exact .nil
  | cons a ks ih =>
    intro ds ts h r
    cases r with
    | @cons _ b _ bs h1 h2 =>
      obtain ⟨k, d⟩ := b
      obtain ⟨k', v⟩ := a
      obtain ⟨rfl, h1⟩ := h1
      cases d with
      | t d =>
        obtain ⟨ts', q, rfl⟩ := Option.map_eq_some_iff.mp h
        exact .cons rfl h1 (ih q h2)
      | r n => cases h
      | b n => cases h
def mTreeD (m : Mm (List (Key × D))) : EM := fun ev S => bnd (m ev S) fun ds ev S => match allK ds with
  | some ts => some (.ok (.t (.dict ts)), ev, S)
  | none => none
theorem se_treeD {t : TE} {m : Mm (List (Key × D))} (h : SLD K γ W t m) : SE K γ W t (mTreeD m) := by
  intro P O F H il S ev σ R r ev' S' hm Q k
  rcases bnd_eq hm with ⟨x, q, rfl⟩ | ⟨ds, e1, s1, q, hm⟩
  · exact h P O F H il S ev σ R _ _ _ q _ fun O1 F1 H1 il1 sf pf R1 => k O1 F1 H1 il1 sf pf R1
  · refine h P O F H il S ev σ R _ _ _ q _ fun O1 F1 H1 il1 sf pf R1 vs p hv hz hp => ?_
    split at hm
    · rename_i ts hts
      cases hm
      exact k O1 _ _ _ (sf.trans (R1.same hp)) pf (R1.newF hp) _ (TR.dic upd_same (TRk.mono' (R1.same hp) (allK_ok hts hv)))
    · cases hm
/-- .. as a slot's own -/
def sOwnD (i : Nat) (m : Mm (List (Key × D))) : SM := fun ev S => bndS (m ev S) fun ds ev S => some (.nx, ev.set i (some (.od ds)), S)
theorem ss_ownD {i : Nat} {t : TE} {m : Mm (List (Key × D))} (h : SLD K γ W t m) : SS K γ W (tAsg t (gName i)) (sOwnD i m) := by
  intro P O F H il S ev σ R f ev' S' hm E k
  rcases bndS_eq hm with ⟨x, q, rfl⟩ | ⟨ds, e1, s1, q, hm⟩
  · exact h P O F H il S ev σ R _ _ _ q _ fun O1 F1 H1 il1 sf pf R1 => k O1 F1 H1 il1 σ sf pf R1
  · refine h P O F H il S ev σ R _ _ _ q _ fun O1 F1 H1 il1 sf pf R1 vs p hv hz hp => ?_
    cases hm
    exact k _ F1 _ il1 _ sf pf (R1.newO (i := i) (e := .od ds) hp ⟨p, vs, rfl, upd_same, hv⟩)
/-- x[i] = v, a list or a dict -/
def sSetX (e o i : EM) : SM := fun ev S => bndS (e ev S) fun x ev S => bndS (esc x ev S) fun d ev S => bndS (o ev S) fun l ev S => bndS (i ev S) fun j ev S => match ownD ev S l with
  | some xs => (match keyOf j with
    | none => none
    | some k => if xs.length < sizeLine then match putDc l (putD xs k d) ev S with
        | none => none
        | some (ev, S) => some (.nx, ev, S)
      else none)
  | none => (match j with
    | .t (.int j) => match ownL ev S l with
      | none => none
      | some xs => match ixN xs.length j with
        | none => none
        | some n => match putL l (xs.set n d) ev S with
          | none => none
          | some (ev, S) => some (.nx, ev, S)
    | _ => none)
theorem setX_or (me mo mi : EM) (ev : Nv) (S : So) : sSetX me mo mi ev S = sSetL me mo mi ev S ∨ sSetX me mo mi ev S = sPutD me mo mi ev S := by
  unfold sSetX sSetL sPutD
  cases h1 : me ev S with
  | none => exact .inl rfl
  | some q =>
    obtain ⟨r, e1, s1⟩ := q
    cases r with
    | ex x => exact .inl rfl
    | ok x =>
      rw [bndS_ok, bndS_ok, bndS_ok]
      cases h2 : esc x e1 s1 with
      | none => exact .inl rfl
      | some q =>
        obtain ⟨r, e2, s2⟩ := q
        cases r with
        | ex x => exact .inl rfl
        | ok d =>
          rw [bndS_ok, bndS_ok, bndS_ok]
          cases h3 : mo e2 s2 with
          | none => exact .inl rfl
          | some q =>
            obtain ⟨r, e3, s3⟩ := q
            cases r with
            | ex x => exact .inl rfl
            | ok l =>
              rw [bndS_ok, bndS_ok, bndS_ok]
              cases h4 : mi e3 s3 with
              | none => exact .inl rfl
              | some q =>
                obtain ⟨r, e4, s4⟩ := q
                cases r with
                | ex x => exact .inl rfl
                | ok j =>
                  rw [bndS_ok, bndS_ok, bndS_ok]
                  cases ownD e4 s4 l with
                  | none => exact .inl rfl
                  | some xs =>
                    refine .inr ?_
                    cases keyOf j <;> rfl
end
section
variable {X : Cx} {γ : Nat → Addr} {W : WX} {a b : Expr} {ma mb : EM} {pos : Pos} {k : Nat}
theorem ms_setX {o i : Expr} {mo mi : EM} {p1 : Pos} (c : CxK X W k) (he : ME X γ W a ma) (ho : ME X γ W o mo) (hi : ME X γ W i mi) (hs : swapsWithSole [.Subscript o i p1] a pos.line X.env = pure false := by rfl) (hw : swappedStores [.Subscript o i p1] a X.env = pure none := by rfl)
    (h1 : (assignEach [.Subscript o i p1] X.env).map (·.2) = [assign (.Subscript o i p1) X.env] := by rfl)
    (ha : ∀ v, assign (.Subscript o i p1) X.env v = (do
      let ov ← holding [v] (eval o X.env)
      let iv ← holding [v, ov] (eval i X.env)
      standAt p1
      holding [v, ov, iv] (setItem ov iv v)
      release [v, ov, iv] []) := by intro _; rfl) (hs2 : swapsWith a (some (.Subscript o i p1)) pos.line X.env = pure false := by rfl) : MS X γ W (.Assign [.Subscript o i p1] a pos) (sSetX ma mo mi) :=
  ms_two (ms_setL he ho hi hs hw h1 ha) (ms_putD c he ho hi hs2) (setX_or ma mo mi)
/-- a new dict, by the text -/
def MLD (X : Cx) (γ : Nat → Addr) (W : WX) (e : Expr) (m : Mm (List (Key × D))) : Prop := ∃ t, PE X e t ∧ SLD X.K γ W t m
def MPr (X : Cx) (γ : Nat → Addr) (W : WX) (pos : Pos) (keys : List (Option Expr)) (values : List Expr) (ms : List (EM × EM)) : Prop := ∃ trs, PPs X pos keys values trs ∧ SPr X.K γ W trs (mPairs ms)
theorem mp_nil : MPr X γ W pos [] [] [] := ⟨[], pps_nil, spr_nil⟩
theorem mp_cons {ks : List (Option Expr)} {vs : List Expr} {ms : List (EM × EM)} (ha : ME X γ W a ma) (hb : ME X γ W b mb) (hr : MPr X γ W pos ks vs ms) : MPr X γ W pos (some a :: ks) (b :: vs) ((ma, mb) :: ms) := by
  obtain ⟨ta, a1, a2⟩ := ha; obtain ⟨tb, b1, b2⟩ := hb; obtain ⟨trs, r1, r2⟩ := hr
  exact ⟨_, pps_cons a1 b1 r1, spr_cons a2 b2 r2⟩
theorem md_disp {ks : List (Option Expr)} {vs : List Expr} {ms : List (EM × EM)} (h : MPr X γ W pos ks vs ms) (hall : ks.all (·.isSome) = true := by rfl) (hl : ks.length = vs.length := by rfl) (h0 : ks ≠ [] := by exact fun h => nomatch h) (h15 : ks.length ≤ 15 := by decide) : MLD X γ W (.Dict ks vs pos) (kDisp ms) := by
  obtain ⟨trs, r1, r2⟩ := h
  exact ⟨_, pe_disp r1 hall hl h0 h15, sld_disp r2⟩
theorem md_new : MLD X γ W (.Dict [] [] pos) kNew := ⟨_, pe_dnewK, sld_new⟩
theorem me_cellD {m : Mm (List (Key × D))} (h : MLD X γ W a m) : ME X γ W a (mCellD m) := by
  obtain ⟨t, a1, a2⟩ := h
  exact ⟨t, a1, se_cellD a2⟩
theorem me_treeD {m : Mm (List (Key × D))} (h : MLD X γ W a m) : ME X γ W a (mTreeD m) := by
  obtain ⟨t, a1, a2⟩ := h
  exact ⟨t, a1, se_treeD a2⟩
theorem ms_ownD {m : Mm (List (Key × D))} (i : Nat) {x : Str} {pos' : Pos} (h : MLD X γ W a m) (hN : X.N.Nodup) (hi : X.N[i]? = some x := by rfl) (hx : Loc X.env.scope x := by first | exact Or.inl rfl | exact Or.inr rfl) (hs : swapsWith a (some (.Name x pos')) pos.line X.env = pure false := by rfl)
    (hf : X.fn x = true ∨ X.env.scope.names.lookup x = some .local := by first | exact .inl rfl | exact .inr rfl) : MS X γ W (.Assign [.Name x pos'] a pos) (sOwnD i m) := by
  obtain ⟨t, a1, a2⟩ := h
  exact ⟨_, ps_set hN hi hx a1 hs hf, ss_ownD a2⟩
end
end Cl

namespace Cl
open PySem L2 PyProof.Rows
/-! ## d.update(e) -/
def rUpd : V → List V → Hp → VK → Prop := fun x xs H Q => ∃ a b kvs more, x = .ref a ∧ xs = [.ref b] ∧ a ≠ b ∧ H a = some (.dK kvs) ∧ H b = some (.dK more) ∧ kvs.length + more.length ≤ sizeLine ∧ Q .non (upd H a (.dK (mergeK kvs more)))
theorem mt_update {X : Cx} : MtR X "dict.update" rUpd := by
  intro pins s σ H x xs v us Q I rx r q
  obtain ⟨a, b, kvs, more, rfl, rfl, ne, ea, eb, hz, q⟩ := q
  obtain rfl : v = Value.ref a := rx
  cases r with
  | cons h t =>
    cases t
    cases (show _ = Value.ref b from h)
    obtain ⟨z, hd, vs, rel, dd⟩ := dk_of I.hok ea
    obtain ⟨z', hd', vs', rel', dd'⟩ := dk_of I.hok eb
    refine call_meetsIn PySem.F.slot_dict_update dd.typeIs PySem.F.entry_dict_update (PySem.F.args_dict_update_2 _ _) (meets_dict_update (mixKind X.prog X.w) a b ne hd') ⟨vs, vs', dd, dd', by rw [← rel.length, ← rel'.length]; exact hz, fun h' d1 d2 hs => ?_⟩
    have he : ∃ q, h'.get? a = some q := let ⟨q, _, _, hq, _⟩ := d1; ⟨q, hq⟩
    exact ⟨.non, _, d_write (t' := s.toks) I (by rw [ea]; exact True.intro) hs he (dk_new (Nat.le_trans (length_mergeK more kvs) hz) hd (rel'.merge rel) d1), rfl, q⟩
/-- two dicts that are not one -/
def apart : D → D → Bool
  | .r m, .r n => decide (m ≠ n)
  | _, .b _ => false
  | _, _ => true
section
variable {X : Cx} {γ : Nat → Addr} {W : WX} {K : PySem.W.Frag}
theorem apart_ok {P O F H : Hp} {il : List Addr} {S : So} {ev : Nv} {σ : L2.St} (R : RE K γ P O F H il S ev σ) {x y : D} {a b : Addr} {xs ys : List (Key × D)} (hx : DR K F il σ (.ref a) x) (hy : DR K F il [] (.ref b) y)
    (ox : ownD ev S x = some xs) (oy : viewD0 [] S y = some ys) (h : apart x y = true) : a ≠ b := by
  intro e
  subst e
  have fa : F a = none := by
    cases x with
    | t d => cases ox
    | r m =>
      obtain ⟨a', e, h2⟩ := hx
      cases e
      unfold ownD at ox
      dsimp only at ox
      split at ox
      · rename_i ds hc
        exact (R.cl m a _ h2 hc).1
      · cases ox
    | b i =>
      unfold ownD at ox
      dsimp only at ox
      split at ox
      · rename_i ds hc
        obtain ⟨u, q1, q2⟩ := R.en i _ hc
        rw [show σ[i]? = some (some (.ref a)) from hx] at q1; cases q1
        obtain ⟨a', vs, e, q3, q4⟩ := q2
        cases e
        exact (R.oh a _ q3).2.1
      · cases ox
  cases y with
  | b i => cases x <;> cases h
  | t d =>
    cases d with
    | dict kvs =>
      cases hy with
      | dic h1 h2 => rw [fa] at h1; cases h1
    | _ => cases oy
  | r n =>
    obtain ⟨b', e, h2⟩ := hy
    cases e
    unfold viewD0 at oy
    dsimp only at oy
    split at oy
    · rename_i ds hc
      have md : MutAt il S a := ⟨n, _, h2, hc, rfl⟩
      cases x with
      | t d => cases ox
      | r m =>
        obtain ⟨a', e, h3⟩ := hx
        cases e
        unfold ownD at ox
        dsimp only at ox
        split at ox
        · rename_i ds' hc'
          have := R.nd m n a _ _ h3 h2 hc' hc rfl rfl
          exact (of_decide_eq_true h) this
        · cases ox
      | b i =>
        unfold ownD at ox
        dsimp only at ox
        split at ox
        · rename_i ds' hc'
          obtain ⟨u, q1, q2⟩ := R.en i _ hc'
          rw [show σ[i]? = some (some (.ref a)) from hx] at q1; cases q1
          obtain ⟨a', vs, e, q3, q4⟩ := q2
          cases e
          exact (R.oh a _ q3).2.2 md
        · cases ox
    · cases oy
def mUpd (o : EM) (m : Mm (List D)) : EM := fun ev S => bnd (o ev S) fun x ev S => match ownD ev S x with
  | none => none
  | some _ => bnd (mEsc m ev S) fun ys ev S => match ys with
    | [y] => match ownD ev S x, viewD0 [] S y with
      | some xs, some more => if apart x y = true ∧ xs.length + more.length ≤ sizeLine then match putDc x (mergeD xs more) ev S with
          | some (ev, S) => some (.ok (.t .none), ev, S)
          | none => none
        else none
      | _, _ => none
    | _ => none
theorem se_upd {to : TE} {t : TA} {mo : EM} {m : Mm (List D)} (ho : SE K γ W to mo) (ha : SA K γ W t m) : SE K γ W (tBM K "dict" rUpd to t) (mUpd mo m) := by
  intro P O F H il S ev σ R rr ev' S' hm Q k
  rcases bnd_eq hm with ⟨x, q, rfl⟩ | ⟨dx, e1, s1, q, hm⟩
  · exact ho P O F H il S ev σ R _ _ _ q _ fun O1 F1 H1 il1 sf pf R1 => k O1 F1 H1 il1 sf pf R1
  · refine ho P O F H il S ev σ R _ _ _ q _ fun O1 F1 H1 il1 sf pf R1 v hv => ?_
    split at hm
    · cases hm
    · rename_i xs0 h0
      obtain ⟨a, vs, rfl, h1, _⟩ := ownD_ok R1 hv h0
      refine ⟨.inr (.inr (.inl ⟨rfl, .inl ⟨vs, h1⟩⟩)), ?_⟩
      rcases bnd_eq hm with ⟨x, q2, rfl⟩ | ⟨ys, e2, s2, q2, hm⟩
      · exact sa_esc ha R1 q2 _ fun O2 F2 H2 il2 sf2 pf2 R2 => k O2 F2 H2 il2 (sf.trans sf2) (pf.trans pf2) R2
      · refine sa_esc ha R1 q2 _ fun O2 F2 H2 il2 sf2 pf2 R2 us hu => ?_
        split at hm
        · rename_i y
          split at hm
          · rename_i xs more hxs hmore
            split at hm
            · rename_i hap
              split at hm
              · rename_i ev5 S5 hp
                cases hm
                cases hu with
                | cons hu1 hu2 =>
                  cases hu2
                  have hv2 := DR.mono sf2 pf2 hv
                  obtain ⟨a', ks, e, g1, g2, g3⟩ := ownD_ok R2 hv2 hxs
                  cases e
                  obtain ⟨b, ms, rfl, g4, g5⟩ := viewD0_ok R2.enter hu1 hmore
                  obtain ⟨O', R'⟩ := g3 _ _ _ _ (g5.merge g2) hp
                  refine ⟨a, b, ks, ms, rfl, rfl, apart_ok R2 hv2 hu1 hxs hmore hap.1, g1, g4, by rw [PySem.Paired.length g2, PySem.Paired.length g5]; exact hap.2, ?_⟩
                  exact k O' F2 _ il2 (sf.trans sf2) (pf.trans pf2) R' _ TR.non
              · cases hm
            · cases hm
          · cases hm
        · cases hm
/-! ## dict(x) -/
def pairT (S : So) (d : D) : Option (Key × D) := match viewT S d with
  | some [k, v] => (keyOf k).map fun k => (k, v)
  | _ => none
def pairsT (S : So) : List D → Option (List (Key × D))
  | [] => some []
  | d :: r => match pairT S d, pairsT S r with
    | some p, some ps => some (p :: ps)
    | _, _ => none
theorem pairsT_ok {P O F H : Hp} {il : List Addr} {S : So} {ev : Nv} {σ : L2.St} (R : RE K γ P O F H il S ev σ) : ∀ {ds : List D} {vs : List V} {ps : List (Key × D)}, DRs K F il [] vs ds → pairsT S ds = some ps →
    ∃ (as : List Addr) (kvs : List (Key × V)), vs = as.map V.ref ∧ Paired (fun p kv => SqT K H p [kV kv.1, kv.2]) as kvs ∧ KR K F il kvs ps
  | [], _, ps, h, q => by cases h; cases q; exact ⟨[], [], rfl, .nil, .nil⟩
  | d :: r, _, ps, h, q => by
    cases h with
    | @cons v _ vs _ h1 h2 =>
      unfold pairsT at q
      split at q
      · rename_i p ps' q1 q2
        cases q
        obtain ⟨as, kvs, e, g1, g2⟩ := pairsT_ok R h2 q2
        unfold pairT at q1
        split at q1
        · rename_i kd vd hvt
          obtain ⟨ky, hk, rfl⟩ := Option.map_eq_some_iff.mp q1
          obtain ⟨a, ws, rfl, g3, g4⟩ := viewT_ok R (DR.up (σ := σ) h1) hvt
          cases g4 with
          | cons z1 z2 =>
            cases z2 with
            | cons z3 z4 =>
              cases z4
              rw [keyOf_ok z1 hk] at g3
              exact ⟨a :: as, (ky, _) :: kvs, by rw [e]; rfl, .cons (Same.sqT R.fh g3) g1, .cons ⟨rfl, z3⟩ g2⟩
        · cases q1
      · cases q
def rDictOf (K : PySem.W.Frag) : List V → Hp → VK → Prop := fun xs H Q => (∃ (a : Addr) (ps : List Addr) (kvs : List (Key × V)), xs = [.ref a] ∧ SqL K H a (ps.map V.ref) ∧ Paired (fun p kv => SqT K H p [kV kv.1, kv.2]) ps kvs ∧ ∀ p, H p = none → Q (.ref p) (upd H p (.dK (mergeK [] kvs)))) ∨
  (∃ (a : Addr) (kvs : List (Key × V)), xs = [.ref a] ∧ Rd H a (.dK kvs) ∧ ∀ p, H p = none → Q (.ref p) (upd H p (.dK kvs)))
def kDictOf (m : Mm (List D)) : Mm (List (Key × D)) := fun ev S => bnd (mEsc m ev S) fun xs ev S => match xs with
  | [x] => match viewD0 [] S x with
    | some kvs => if kvs.length ≤ sizeLine then some (.ok kvs, ev, S) else none
    | none => match viewL [] S x with
      | some ds => match pairsT S ds with
        | some ps => if ps.length ≤ sizeLine then some (.ok (mergeD [] ps), ev, S) else none
        | none => none
      | none => none
  | _ => none
theorem sld_dictOf {t : TA} {m : Mm (List D)} (ha : SA K γ W t m) : SLD K γ W (tCB (rDictOf K) t) (kDictOf m) := by
  intro P O F H il S ev σ R r ev' S' hm Q k
  rcases bnd_eq hm with ⟨x, q, rfl⟩ | ⟨ds, e1, s1, q, hm⟩
  · exact sa_esc ha R q _ fun O1 F1 H1 il1 sf pf R1 => k O1 F1 H1 il1 sf pf R1
  · refine sa_esc ha R q _ fun O1 F1 H1 il1 sf pf R1 vs hv => ?_
    split at hm
    · rename_i x
      cases hv with
      | cons h1 h2 =>
        cases h2
        split at hm
        · rename_i kvs hk
          split at hm
          · rename_i hl
            cases hm
            obtain ⟨a, ks, rfl, g1, g2⟩ := viewD0_ok R1.enter h1 hk
            exact .inr ⟨a, ks, rfl, .inl g1, fun p hp => k O1 F1 H1 il1 sf pf R1 ks p g2 (by rw [PySem.Paired.length g2]; exact hl) hp⟩
          · cases hm
        · split at hm
          · rename_i its hits
            split at hm
            · rename_i ps hps
              split at hm
              · rename_i hl
                cases hm
                obtain ⟨a, ws, rfl, g1, g2⟩ := viewL_ok R1.enter h1 hits
                obtain ⟨as, kvs, e, g3, g4⟩ := pairsT_ok R1.enter g2 hps
                subst e
                exact .inl ⟨a, as, kvs, rfl, g1, g3, fun p hp => k O1 F1 H1 il1 sf pf R1 _ p (g4.merge .nil) (by
                  have := length_mergeK kvs []
                  rw [List.length_nil, PySem.Paired.length g4] at this
                  omega) hp⟩
              · cases hm
            · cases hm
          · cases hm
    · cases hm
/-! ## list(x) -/
def rListOf (K : PySem.W.Frag) : List V → Hp → VK → Prop := fun xs H Q => (∃ p ys, xs = [.ref p] ∧ (SqL K H p ys ∨ SqT K H p ys) ∧ ∀ l, H l = none → Q (.ref l) (upd H l (.lst ys))) ∨
  (∃ (a : Addr) (kvs : List (Key × V)), xs = [.ref a] ∧ Rd H a (.dK kvs) ∧ ∀ p, H p = none → Q (.ref p) (upd H p (.lst (kvs.map fun kv => kV kv.1))))
def lListOf (m : Mm (List D)) : Mm (List D) := fun ev S => bnd (mEsc m ev S) fun xs ev S => match xs with
  | [x] => match viewD0 [] S x with
    | some kvs => if kvs.length ≤ sizeLine then some (.ok (kvs.map fun kv => .t (keyD kv.1)), ev, S) else none
    | none => match viewQ [] S x with
      | some ds => if ds.length ≤ sizeLine then some (.ok ds, ev, S) else none
      | none => none
  | _ => none
theorem keys_ok {F : Hp} {il : List Addr} {ks : List (Key × V)} {kvs : List (Key × D)} (h : KR K F il ks kvs) : DRs K F il [] (ks.map fun kv => kV kv.1) (kvs.map fun kv => .t (keyD kv.1)) := by
  induction h with
  | nil => exact .nil
  | @cons p q ps qs h t ih =>
    refine .cons ?_ ih
    dsimp only
    rw [h.1]
    cases q.1 with
    | inl i => exact TR.int i
    | inr x => exact TR.str x
theorem sl_listOf {t : TA} {m : Mm (List D)} (ha : SA K γ W t m) : SL K γ W (tCB (rListOf K) t) (lListOf m) := by
  intro P O F H il S ev σ R r ev' S' hm Q k
  rcases bnd_eq hm with ⟨x, q, rfl⟩ | ⟨ds, e1, s1, q, hm⟩
  · exact sa_esc ha R q _ fun O1 F1 H1 il1 sf pf R1 => k O1 F1 H1 il1 sf pf R1
  · refine sa_esc ha R q _ fun O1 F1 H1 il1 sf pf R1 vs hv => ?_
    split at hm
    · rename_i x
      cases hv with
      | cons h1 h2 =>
        cases h2
        split at hm
        · rename_i kvs hk
          split at hm
          · rename_i hl
            cases hm
            obtain ⟨a, ks, rfl, g1, g2⟩ := viewD0_ok R1.enter h1 hk
            exact .inr ⟨a, ks, rfl, .inl g1, fun p hp => k O1 F1 H1 il1 sf pf R1 _ p (keys_ok g2) (by rw [List.length_map, PySem.Paired.length g2]; exact hl) hp⟩
          · cases hm
        · split at hm
          · rename_i its hits
            split at hm
            · rename_i hl
              cases hm
              unfold viewQ at hits
              split at hits
              · rename_i ds hv
                cases hits
                obtain ⟨a, ws, rfl, g1, g2⟩ := viewL_ok R1.enter h1 hv
                exact .inl ⟨a, ws, rfl, .inl g1, fun l hp => k O1 F1 H1 il1 sf pf R1 ws l g2 (by rw [PySem.Paired.length g2]; exact hl) hp⟩
              · obtain ⟨a, ws, rfl, g1, g2⟩ := viewT_ok R1.enter h1 hits
                exact .inl ⟨a, ws, rfl, .inr (Same.sqT R1.fh g1), fun l hp => k O1 F1 H1 il1 sf pf R1 ws l g2 (by rw [PySem.Paired.length g2]; exact hl) hp⟩
            · cases hm
          · cases hm
    · cases hm
end
section
variable {X : Cx} {γ : Nat → Addr} {W : WX} {k : Nat} {a o : Expr} {mo : EM} {ms : Mm (List D)} {p pos apos : Pos}
theorem me_upd (ho : ME X γ W o mo) (h : MA X γ W [a] ms) (hbase : attributeBase o "update" X.env (eval o X.env) = eval o X.env := by rfl) (hline : (apos.endLine == pos.line) = true := by rfl)
    (hfew : ((backTo pos (starEach [a] X.env)).all (fun x => !x.1) && (backToKw pos (keywordEach [] X.env)).all (fun x => x.1.isSome) && decide (([a] : List Expr).length + ([] : List Keyword).length + (if ([] : List Keyword).isEmpty then 0 else 1) < 30)) = true := by rfl)
    (he : starEach [a] X.env = (false, eval a X.env) :: starEach [] X.env := by rfl) (hpl : (backTo pos (starEach [] X.env)).any (·.1) = false := by rfl) : ME X γ W (.Call (.Attribute o "update" apos) [a] [] pos) (mUpd mo ms) := by
  obtain ⟨to, o1, o2⟩ := ho; obtain ⟨t, a1, a2, a3⟩ := h
  exact ⟨_, pe_bm PySem.F.plainAttrs_dict PySem.F.slot_dict_update PySem.F.type_dict_update mt_update o1 a1 hbase hfew hline he hpl, se_upd o2 a2⟩
theorem md_dictOf (c : CxK X W k) (hm : X.mg "dict" = none) (h : MA X γ W [a] ms) (hg : Gl X "dict" := by rfl) (he : starEach [a] X.env = (false, eval a X.env) :: starEach [] X.env := by rfl) (hpl : (backTo pos (starEach [] X.env)).any (·.1) = false := by rfl) :
    MLD X γ W (.Call (.Name "dict" p) [a] [] pos) (kDictOf ms) := by
  obtain ⟨t, a1, a2, a3⟩ := h
  exact ⟨_, pe_callTy (CallR.or' (call_dictP c.cm) call_dictD) hg hm (by decide +kernel) a1 (by decide) (by decide) he hpl, sld_dictOf a2⟩
theorem ml_listOf (c : CxK X W k) (hm : X.mg "list" = none) (h : MA X γ W [a] ms) (hg : Gl X "list" := by rfl) (he : starEach [a] X.env = (false, eval a X.env) :: starEach [] X.env := by rfl) (hpl : (backTo pos (starEach [] X.env)).any (·.1) = false := by rfl) :
    ML X γ W (.Call (.Name "list" p) [a] [] pos) (lListOf ms) := by
  obtain ⟨t, a1, a2, a3⟩ := h
  exact ⟨_, pe_callTy (CallR.or' call_list_of (call_listD c.cm)) hg hm (by decide +kernel) a1 (by decide) (by decide) he hpl, sl_listOf a2⟩
end
end Cl

/-! # equations for dicts -/
namespace Cl
open PySem L2
section
variable {ev e1 e2 : Nv} {S s1 s2 : So} {ms : Mm (List D)} {a b c : EM} {x y : D}
theorem q_ixDL (ts : List PyData) : dIxD ev S (.t (.list ts)) y = dIx ev S (.t (.list ts)) y := nr rfl
theorem q_ixDT (ts : List PyData) : dIxD ev S (.t (.tuple ts)) y = dIx ev S (.t (.tuple ts)) y := nr rfl
theorem q_ixDS (z : Str) : dIxD ev S (.t (.str z)) y = dIx ev S (.t (.str z)) y := nr rfl
theorem q_ixDD (kvs : List (PyData × PyData)) : dIxD ev S (.t (.dict kvs)) y = match treeKs kvs with
  | some ks => (keyOf y).bind fun k => valD ks k
  | none => dIx ev S (.t (.dict kvs)) y := by
  show (match treeKs kvs with
    | some _ => (treeKs kvs).bind fun kvs => (keyOf y).bind fun k => valD kvs k
    | none => dIx ev S (.t (.dict kvs)) y) = _
  cases treeKs kvs <;> rfl
theorem q_ixDR (n : Nat) : dIxD ev S (.r n) y = match S[n]? with
  | some (.dic kvs) => (keyOf y).bind fun k => valD kvs k
  | some (.frd kvs) => (keyOf y).bind fun k => valD kvs k
  | _ => dIx ev S (.r n) y := by
  unfold dIxD dDGet viewD
  dsimp only
  cases S[n]? with
  | none => rfl
  | some c => cases c <;> rfl
theorem q_ixDB (i : Nat) : dIxD ev S (.b i) y = match ev[i]? with
  | some (some (.od kvs)) => (keyOf y).bind fun k => valD kvs k
  | _ => dIx ev S (.b i) y := by
  unfold dIxD dDGet viewD
  dsimp only
  cases ev[i]? with
  | none => rfl
  | some c => cases c with
    | none => rfl
    | some c => cases c <;> rfl
theorem q_keyS (z : Str) : keyOf (.t (.str z)) = some (.inr z) := nr rfl
theorem q_keyI (i : Int) : keyOf (.t (.int i)) = some (.inl i) := nr rfl
theorem q_val0 (k : Key) : valD [] k = none := nr rfl
theorem q_val1 (k k' : Key) (d : D) (r : List (Key × D)) : valD ((k, d) :: r) k' = if k = k' then some d else valD r k' := by
  unfold valD
  rw [List.find?_cons]
  by_cases e : k = k'
  · rw [if_pos e, decide_eq_true e]; rfl
  · rw [if_neg e, decide_eq_false e]
theorem q_kSS (l r : List Nat) : ((Sum.inr (mkS l) : Key) = Sum.inr (mkS r)) = (l = r) := propext ⟨fun h => mkS_inj.mp (Sum.inr.inj h), fun h => by rw [h]⟩
theorem q_kII (i j : Int) : ((Sum.inl i : Key) = Sum.inl j) = (i = j) := propext ⟨fun h => Sum.inl.inj h, fun h => by rw [h]⟩
theorem q_kIS (i : Int) (z : Str) : ((Sum.inl i : Key) = Sum.inr z) = False := eq_false (fun h => by cases h)
theorem q_kSI (i : Int) (z : Str) : ((Sum.inr z : Key) = Sum.inl i) = False := eq_false (fun h => by cases h)
def updD (kvs : List (Key × D)) (k : Key) (v : D) : List (Key × D) := kvs.map fun kv => if kv.1 = k then (kv.1, v) else kv
theorem q_up0 (k : Key) (v : D) : updD [] k v = [] := nr rfl
theorem q_up1 (k' k : Key) (d v : D) (r : List (Key × D)) : updD ((k', d) :: r) k v = (if k' = k then (k', v) else (k', d)) :: updD r k v := nr rfl
theorem q_put0 (k : Key) (v : D) : putD [] k v = [(k, v)] := nr rfl
theorem q_put1 (k' k : Key) (d v : D) (r : List (Key × D)) : putD ((k', d) :: r) k v = if k' = k then (k', v) :: updD r k v else (k', d) :: putD r k v := by
  unfold putD
  by_cases e : k' = k
  · rw [if_pos e, List.any_cons, decide_eq_true e, Bool.true_or, if_pos rfl, List.map_cons, if_pos e]; rfl
  · rw [if_neg e, List.any_cons, decide_eq_false e, Bool.false_or, List.map_cons, if_neg e]
    split <;> rfl
theorem q_mer0 (kvs : List (Key × D)) : mergeD kvs [] = kvs := nr rfl
theorem q_mer1 (kvs r : List (Key × D)) (k : Key) (v : D) : mergeD kvs ((k, v) :: r) = mergeD (putD kvs k v) r := nr rfl
/-- texts that are told and are not one -/
def litNe (l r : List Nat) : Bool := !(l == r)
theorem lit_ne {l r : List Nat} (h : litNe l r = true) : (l = r) = False := eq_false fun e => by
  subst e
  unfold litNe at h
  simp at h
theorem q_small {n : Nat} (h : n ≤ 16777216) : (n ≤ sizeLine) = True := eq_true (by rw [sl_eq]; exact h)
theorem q_gdS {α : Type} (a b : α) : (some a).getD b = a := nr rfl
theorem q_gdN {α : Type} (b : α) : (none : Option α).getD b = b := nr rfl
def kDispR (ps : List (Key × D)) (ev : Nv) (S : So) : Om (List (Key × D)) := if ps.length ≤ 15 then some (.ok (mergeD [] ps), ev, S) else none
theorem q_kDisp (l : List (EM × EM)) : kDisp l ev S = bK (mPairs l ev S) kDispR := nr rfl
theorem q_kDispR (ps : List (Key × D)) : kDispR ps ev S = if ps.length ≤ 15 then some (.ok (mergeD [] ps), ev, S) else none := nr rfl
theorem q_prs0 : mPairs [] ev S = some (.ok [], ev, S) := nr rfl
def prR (b : EM) (r : List (EM × EM)) (x : D) (ev : Nv) (S : So) : Om (List (Key × D)) := match keyOf x with
    | none => none
    | some k => bnd (b ev S) fun y ev S => bnd (esc y ev S) fun d ev S => bnd (mPairs r ev S) fun ps ev S => some (.ok ((k, d) :: ps), ev, S)
theorem q_prs1 (r : List (EM × EM)) : mPairs ((a, b) :: r) ev S = bK (a ev S) (prR b r) := nr rfl
theorem q_prR (r : List (EM × EM)) : prR b r x ev S = match keyOf x with
    | none => none
    | some k => bK (b ev S) fun y ev S => bK (esc y ev S) fun d ev S => bK (mPairs r ev S) fun ps ev S => some (.ok ((k, d) :: ps), ev, S) := nr rfl
theorem q_kNew : kNew ev S = some (.ok [], ev, S) := nr rfl
variable {mk : Mm (List (Key × D))}
theorem q_cellD : mCellD mk ev S = bK (mk ev S) fun ds ev S => some (.ok (.r S.length), ev, S ++ [.dic ds]) := nr rfl
theorem q_treeD : mTreeD mk ev S = bK (mk ev S) fun ds ev S => match allK ds with
  | some ts => some (.ok (.t (.dict ts)), ev, S)
  | none => none := nr rfl
theorem q_allK0 : allK [] = some [] := nr rfl
theorem q_allK1 (k : Key) (d : PyData) (r : List (Key × D)) : allK ((k, .t d) :: r) = (allK r).map ((keyD k, d) :: ·) := nr rfl
theorem q_keyDI (i : Int) : keyD (.inl i) = .int i := nr rfl
theorem q_keyDS (z : Str) : keyD (.inr z) = .str z := nr rfl
theorem q_tks0 : treeKs [] = some [] := nr rfl
theorem q_tksS (z : Str) (d : PyData) (r : List (PyData × PyData)) : treeKs ((.str z, d) :: r) = (treeKs r).map ((.inr z, .t d) :: ·) := by
  show (match some (Sum.inr z : Key), treeKs r with
    | some k, some s => some ((k, D.t d) :: s)
    | _, _ => none) = _
  cases treeKs r <;> rfl
theorem q_tksI (i : Int) (d : PyData) (r : List (PyData × PyData)) : treeKs ((.int i, d) :: r) = (treeKs r).map ((.inl i, .t d) :: ·) := by
  show (match some (Sum.inl i : Key), treeKs r with
    | some k, some s => some ((k, D.t d) :: s)
    | _, _ => none) = _
  cases treeKs r <;> rfl
theorem q_ownD (i : Nat) : sOwnD i mk ev S = bS (mk ev S) fun ds ev S => some (.nx, ev.set i (some (.od ds)), S) := nr rfl
def get2R (b c : EM) (x : D) (ev : Nv) (S : So) : Om D := match viewD ev S x with
  | none => none
  | some _ => bnd (b ev S) fun y ev S => bnd (c ev S) fun z ev S => ans ((viewD ev S x).bind fun kvs => (keyOf y).map fun k => (valD kvs k).getD z) ev S
theorem q_get2 : mGet2 a b c ev S = bK (a ev S) (get2R b c) := nr rfl
theorem q_get2R : get2R b c x ev S = match viewD ev S x with
  | none => none
  | some _ => bK (b ev S) fun y ev S => bK (c ev S) fun z ev S => ans ((viewD ev S x).bind fun kvs => (keyOf y).map fun k => (valD kvs k).getD z) ev S := nr rfl
def get1R (b : EM) (x : D) (ev : Nv) (S : So) : Om D := match viewD ev S x with
  | none => none
  | some _ => bnd (b ev S) fun y ev S => ans ((viewD ev S x).bind fun kvs => (keyOf y).map fun k => (valD kvs k).getD (.t .none)) ev S
theorem q_get1 : mGet1 a b ev S = bK (a ev S) (get1R b) := nr rfl
theorem q_get1R : get1R b x ev S = match viewD ev S x with
  | none => none
  | some _ => bK (b ev S) fun y ev S => ans ((viewD ev S x).bind fun kvs => (keyOf y).map fun k => (valD kvs k).getD (.t .none)) ev S := nr rfl
theorem q_vwD (kvs : List (PyData × PyData)) : viewD ev S (.t (.dict kvs)) = treeKs kvs := nr rfl
theorem q_vwR (n : Nat) : viewD ev S (.r n) = match S[n]? with
    | some (.dic kvs) => some kvs
    | some (.frd kvs) => some kvs
    | _ => none := nr rfl
theorem q_vwB (i : Nat) : viewD ev S (.b i) = match ev[i]? with
    | some (some (.od kvs)) => some kvs
    | _ => none := nr rfl
theorem q_vwL (ts : List PyData) : viewD ev S (.t (.list ts)) = none := nr rfl
theorem q_vwT (ts : List PyData) : viewD ev S (.t (.tuple ts)) = none := nr rfl
theorem q_v0D (kvs : List (PyData × PyData)) : viewD0 ev S (.t (.dict kvs)) = treeKs kvs := nr rfl
theorem q_v0R (n : Nat) : viewD0 ev S (.r n) = match S[n]? with
    | some (.dic kvs) => some kvs
    | _ => none := nr rfl
theorem q_v0B (i : Nat) : viewD0 ev S (.b i) = match ev[i]? with
    | some (some (.od kvs)) => some kvs
    | _ => none := nr rfl
theorem q_v0L (ts : List PyData) : viewD0 ev S (.t (.list ts)) = none := nr rfl
theorem q_v0T (ts : List PyData) : viewD0 ev S (.t (.tuple ts)) = none := nr rfl
theorem q_owDR (n : Nat) : ownD ev S (.r n) = match S[n]? with
    | some (.dic kvs) => some kvs
    | _ => none := nr rfl
theorem q_owDB (i : Nat) : ownD ev S (.b i) = match ev[i]? with
    | some (some (.od kvs)) => some kvs
    | _ => none := nr rfl
def updR (m : Mm (List D)) (x : D) (ev : Nv) (S : So) : Om D := match ownD ev S x with
  | none => none
  | some _ => bnd (mEsc m ev S) fun ys ev S => match ys with
    | [y] => match ownD ev S x, viewD0 [] S y with
      | some xs, some more => if apart x y = true ∧ xs.length + more.length ≤ sizeLine then match putDc x (mergeD xs more) ev S with
          | some (ev, S) => some (.ok (.t .none), ev, S)
          | none => none
        else none
      | _, _ => none
    | _ => none
theorem q_upd : mUpd a ms ev S = bK (a ev S) (updR ms) := nr rfl
def updV (x : D) (ys : List D) (ev : Nv) (S : So) : Om D := match ys with
    | [y] => match ownD ev S x, viewD0 [] S y with
      | some xs, some more => if apart x y = true ∧ xs.length + more.length ≤ sizeLine then match putDc x (mergeD xs more) ev S with
          | some (ev, S) => some (.ok (.t .none), ev, S)
          | none => none
        else none
      | _, _ => none
    | _ => none
theorem q_updR : updR ms x ev S = match ownD ev S x with
  | none => none
  | some _ => bK (mEsc ms ev S) (updV x) := nr rfl
theorem q_updV : updV x [y] ev S = match ownD ev S x, viewD0 [] S y with
      | some xs, some more => if apart x y = true ∧ xs.length + more.length ≤ sizeLine then match putDc x (mergeD xs more) ev S with
          | some (ev, S) => some (.ok (.t .none), ev, S)
          | none => none
        else none
      | _, _ => none := nr rfl
theorem q_apT (x : D) (d : PyData) : apart x (.t d) = true := by cases x <;> rfl
theorem q_apBR (i n : Nat) : apart (.b i) (.r n) = true := nr rfl
theorem q_apRR (m n : Nat) : apart (.r m) (.r n) = decide (m ≠ n) := nr rfl
theorem q_pDR (n : Nat) (ds : List (Key × D)) : putDc (.r n) ds ev S = match S[n]? with
    | some (.dic _) => some (ev, S.set n (.dic ds))
    | _ => none := nr rfl
theorem q_pDB (i : Nat) (ds : List (Key × D)) : putDc (.b i) ds ev S = match ev[i]? with
    | some (some (.od _)) => some (ev.set i (some (.od ds)), S)
    | _ => none := nr rfl
def listR (xs : List D) (ev : Nv) (S : So) : Om (List D) := match xs with
  | [x] => match viewD0 [] S x with
    | some kvs => if kvs.length ≤ sizeLine then some (.ok (kvs.map fun kv => .t (keyD kv.1)), ev, S) else none
    | none => match viewQ [] S x with
      | some ds => if ds.length ≤ sizeLine then some (.ok ds, ev, S) else none
      | none => none
  | _ => none
theorem q_listOf : lListOf ms ev S = bK (mEsc ms ev S) listR := nr rfl
theorem q_listT (ts : List PyData) (h : ts.length ≤ sizeLine) : listR [.t (.tuple ts)] ev S = some (.ok (ts.map .t), ev, S) := by
  show (if (ts.map D.t).length ≤ sizeLine then some (Rs.ok (ts.map D.t), ev, S) else none) = _
  rw [if_pos (by rw [List.length_map]; exact h)]
theorem q_listL (ts : List PyData) (h : ts.length ≤ sizeLine) : listR [.t (.list ts)] ev S = some (.ok (ts.map .t), ev, S) := by
  show (if (ts.map D.t).length ≤ sizeLine then some (Rs.ok (ts.map D.t), ev, S) else none) = _
  rw [if_pos (by rw [List.length_map]; exact h)]
def dictR (xs : List D) (ev : Nv) (S : So) : Om (List (Key × D)) := match xs with
  | [x] => match viewD0 [] S x with
    | some kvs => if kvs.length ≤ sizeLine then some (.ok kvs, ev, S) else none
    | none => match viewL [] S x with
      | some ds => match pairsT S ds with
        | some ps => if ps.length ≤ sizeLine then some (.ok (mergeD [] ps), ev, S) else none
        | none => none
      | none => none
  | _ => none
theorem q_dictOf : kDictOf ms ev S = bK (mEsc ms ev S) dictR := nr rfl
end
end Cl

/-! # enumerate of a tuple -/
namespace RZ
open PySem PySem.Spec PyProof.Rows L2
open Sem (wp)
open AutoSeq1 (wpAny_loadPart')
theorem enum_newT (l : Addr) (items : Array Value) (n : Nat) (dct : Option Addr) (sl : Array (Option Value)) :
    Meets (Builtin.«enumerate.__new__» ⟨[.type "enumerate", .ref l], []⟩) (fun _ R s => s.heap.get? l = some { cls := .type "tuple", dict := dct, data := .seq items n, slots := sl } ∧
      R (.ok (.ret (.ref (s.heap.push { cls := .type "tuple_iterator", data := .fields #[.ref l, .int 0 0] }).objs.size)))
        { s with heap := (s.heap.push { cls := .type "tuple_iterator", data := .fields #[.ref l, .int 0 0] }).push { cls := .type "enumerate", data := .fields #[.none, .bool false, .ref s.heap.objs.size, rawInt 0, .none, .none] } }) :=
  .of_wp fun prog w A R s h => by
    obtain ⟨hp, g, d, tk, os⟩ := s; obtain ⟨hl, h⟩ := h
    have hsub := sub_enumerate
    have hL : Heap.IsTuple (Shared.heap ⟨hp, g, d, tk, os⟩) l items := ⟨_, hl, rfl, n, rfl⟩
    wp_walk using wpAny_loadPart' hl
    refine wpAny_stack_any fun st => wpAny_pure ?_
    split
    · rename_i c _ _ _ _ _
      cases (c == Value.type "enumerate")
      · wp_walk using wpAny_loadPart' hl, wpAny_pyIter_tuple hL
        exact ⟨_, rfl, h⟩
      · wp_walk using wpAny_loadPart' hl, wpAny_pyIter_tuple hL
        exact ⟨_, rfl, h⟩
    · wp_walk using wpAny_loadPart' hl, wpAny_pyIter_tuple hL
      exact ⟨_, rfl, h⟩
theorem call_enumT {prog : Program} {w : World} {A : Around} {E : Value → Shared → Prop} {s : Shared} {l : Addr} {items : Array Value} {Q : Value → Shared → Prop} (hL : s.heap.IsTuple l items)
    (h : ∀ h', IsEnum h' (s.heap.objs.size + 1) s.heap.objs.size 0 .none → h'.IsTupleIter s.heap.objs.size l 0 → h'.objs.size = s.heap.objs.size + 2 →
      (∀ b o, s.heap.get? b = some o → h'.get? b = some o) → Q (.ref (s.heap.objs.size + 1)) { s with heap := h' }) :
    wpAny (model prog w) A (call (.type "enumerate") [.ref l]) Q E s := by
  obtain ⟨⟨c, dct, dt, sl⟩, hl, hc, n, hd⟩ := hL
  replace hc : c = .type "tuple" := hc
  replace hd : dt = .seq items n := hd
  subst hc hd
  refine callType_new F.called_enumerate (by decide) (F.typeCall_enumerate_1 _) (F.newCall_enumerate_1 _) (fun obj => F.args_object_init_2 obj _) F.entry_enumerate_new
    (enum_newT l items n dct sl) ⟨hl, ?_⟩
  have hz : (s.heap.push { cls := .type "tuple_iterator", data := .fields #[.ref l, .int 0 0] }).objs.size = s.heap.objs.size + 1 := Heap.size_push ..
  show _ ∧ _
  rw [hz]
  have he : IsEnum ((s.heap.push { cls := .type "tuple_iterator", data := .fields #[.ref l, .int 0 0] }).push
      { cls := .type "enumerate", data := .fields #[.none, .bool false, .ref s.heap.objs.size, rawInt 0, .none, .none] }) (s.heap.objs.size + 1) s.heap.objs.size 0 .none := by
    have := Heap.get?_push_size (s.heap.push { cls := .type "tuple_iterator", data := .fields #[.ref l, .int 0 0] })
      (o := { cls := .type "enumerate", data := .fields #[.none, .bool false, .ref s.heap.objs.size, rawInt 0, .none, .none] }) rfl
    rw [hz] at this; exact this
  refine ⟨⟨_, he, rfl⟩, h _ he ⟨_, Heap.get?_push_of_some _ (Heap.get?_push_size _ rfl), rfl, rfl⟩ (by rw [Heap.size_push, hz]) fun b o x => Heap.get?_push_of_some _ (Heap.get?_push_of_some _ x)⟩
/-- the tuple at a, each item in a new pair -/
def IteT (K : PySem.W.Frag) (a : Addr) : It :=
  ⟨fun i H => ∃ (xs : List V) (x : V), SqT K H a xs ∧ xs[i]? = some x, fun i H v H' => ∃ T x, v = .ref T ∧ H T = none ∧ H' = upd H T (.tup [.int (i : Nat), x]) ∧ ∀ xs, SqT K H a xs → xs[i]? = some x, fun i H => ∃ xs : List V, SqT K H a xs ∧ xs.length = i⟩
theorem turn_enumT {P : Program} {w : World} {K : PySem.W.Frag} {elts : List Expr} {kk : Nat} {tpos : Pos} (a e it : Addr) (hea : e ≠ a) (hia : a ≠ it) :
    Turn P w K (.Tuple elts kk tpos) (IteT K a) [e, it] e (fun i h => (∃ old, IsEnum h e it ((i : Nat) : Int) old) ∧ h.IsTupleIter it a i ∧ e ≠ it) where
  mem := by simp
  obj := fun i h st b hb => by
    obtain ⟨⟨old, he⟩, ⟨o, ho, hc, hd⟩, _⟩ := st
    have e' : b = e ∨ b = it := by simpa using hb
    rcases e' with z | z
    · rw [z]; exact ⟨_, he, fun v q => nomatch q⟩
    · rw [z]; exact ⟨o, ho, fun v q => by rw [hd] at q; cases q⟩
  keep := fun i h h' st k => let ⟨⟨old, he⟩, hi, hne⟩ := st; ⟨⟨old, k e (by simp) _ he⟩, hi.at fun o q => k it (by simp) o q, hne⟩
  item := by
    intro X hP hw hK hc i pins s σ H E I hf st hg
    subst hP hw hK
    obtain ⟨⟨old, he⟩, hit, hne⟩ := st
    obtain ⟨xs, x, hq, hx⟩ := hg
    obtain ⟨its, rv, p, hz⟩ := I.tuple hq
    obtain ⟨u, hu, ru⟩ := rv.get hx
    have hel : e < s.heap.objs.size := Heap.lt_size he
    have hil : it < s.heap.objs.size := by obtain ⟨_, q, _⟩ := hit; exact Heap.lt_size q
    have hu' : its.toArray[i]? = some u := by simpa using hu
    have hlt : i < its.toArray.size := (Array.getElem?_eq_some_iff.mp hu').1
    refine wpAny_pyNext_enum_itemD (Draws.tuple (prog := X.prog) (w := X.w) (A := X.A.in1) (show X.A.in1.handled = none from I.ok.hd hc) it a hia its.toArray) he ⟨hit, p⟩ hlt hne (by simp [hne, hea]) fun u2 h' tk hP ho hit' hT hsz hk => ?_
    obtain rfl : u = u2 := by rw [hu'] at hP; cases hP; rfl
    refine ⟨_, rfl, wpAny_letOwnedTupleGo_enum (s := { s with heap := h', toks := tk + 1 }) ho fun h'' he' sb => ?_⟩
    have hT2 : h''.get? s.heap.objs.size = some { cls := .type "tuple", data := .seq #[.int i tk, u] } := (sb.2 _ (Nat.ne_of_gt hel)).trans hT
    have new : ObjOk X.prog X.w (upd H s.heap.objs.size (.tup [.int (i : Nat), x])) h'' s.heap.objs.size (.tup [.int (i : Nat), x]) :=
      ⟨by show 2 ≤ sizeLine; decide, [.int i tk, u], .cons ⟨_, rfl⟩ (.cons ru .nil), ⟨_, hT2, rfl, _, rfl⟩⟩
    have I1 : Inv X pins σ (upd H s.heap.objs.size (.tup [.int (i : Nat), x])) { s with heap := h'', toks := tk + 1 } :=
      I.turnedNew (ch := [e, it]) (fun b ob hb q => (sb.2 b (fun z => hb (by simp [z]))).trans (hk b ob (fun z => hb (by simp [z])) (fun z => hb (by simp [z])) q)) hf (Nat.le_refl _) new
    refine ⟨.ref s.heap.objs.size, _, I1, rfl, ⟨_, x, rfl, I.hok.fresh (Nat.le_refl _), rfl, fun ys hy => by rw [I.tuple_inj hy hq]; exact hx⟩, ⟨⟨u, ?_⟩, hit'.1.at fun o q => (sb.2 it (Ne.symm hne)).trans q, hne⟩, fun b hb => ?_⟩
    · have e1 : ((i + 1 : Nat) : Int) = (i : Int) + 1 := by omega
      rw [e1]; exact he'
    · have hb' : b < s.heap.objs.size := by
        have e' : b = e ∨ b = it := by simpa using hb
        rcases e' with z | z
        · rw [z]; exact hel
        · rw [z]; exact hil
      rw [upd_ne (Nat.ne_of_lt hb')]
      exact (hf b hb).1
  done := by
    intro X hP hw hK hc i pins s σ H E I hf st hg
    subst hP hw hK
    obtain ⟨⟨old, he⟩, hit, hne⟩ := st
    obtain ⟨xs, hq, hx⟩ := hg
    obtain ⟨its, rv, p, hz⟩ := I.tuple hq
    obtain ⟨f0, f1, f2, f3, f4, f5⟩ := hf it (by simp)
    have hl := rv.length
    have hi : i = its.toArray.size := by simp; omega
    subst hi
    exact wpAny_pyNext_enum_endD (Draws.tuple (prog := X.prog) (w := X.w) (A := X.A.in1) (show X.A.in1.handled = none from I.ok.hd hc) it a hia its.toArray) he ⟨hit, p⟩ fun h' eb => ⟨rfl, I.turned (t' := s.toks) (fun b o hb q => eb b o hb q) f0 f1 f3 f4 f5⟩
  self := fun A i s Q E st h => let ⟨⟨_, he⟩, _⟩ := st; wpAny_pyIter_enum he h
def iEnumT (K : PySem.W.Frag) (ta : TA) : TI := fun σ H R => ta σ H fun vs H1 => ∃ a xs, vs = [.ref a] ∧ ((SqL K H1 a xs ∧ R (Ite K a) H1) ∨ (SqT K H1 a xs ∧ R (IteT K a) H1))
theorem pi_enumT {X : Cx} {e : Expr} {ta : TA} {p pos tpos : Pos} {elts : List Expr} {kk : Nat} (hg : Gl X "enumerate") (hm : X.mg "enumerate" = none) (ha : PA X [e] ta) (hs : starEach [e] X.env = [(false, eval e X.env)] := by rfl) :
    PI X (.Tuple elts kk tpos) (.Call (.Name "enumerate" p) [e] [] pos) (iEnumT X.K ta) := by
  refine ⟨fun pins s σ H R I h => ?_⟩
  refine Call_ (ld_blt I hg hm boot_enumerate (PyProof.Rows.callWith_type1 (thn (ha.run pos pins s σ H _ I h) fun us s1 ⟨vs, H1, I1, r1, q1⟩ => ?_) hs rfl))
  obtain ⟨a, xs, ex, q⟩ := q1
  subst ex
  cases r1 with
  | cons r rr =>
    cases rr
    cases r
    have fr : ∀ b, b ∈ [s1.heap.objs.size + 1, s1.heap.objs.size] → FpOk X pins H1 b := fun b hb => by
      have e' : b = s1.heap.objs.size + 1 ∨ b = s1.heap.objs.size := by simpa using hb
      have hle : s1.heap.objs.size ≤ b := by
        rcases e' with z | z
        · rw [z]; exact Nat.le_add_right _ _
        · rw [z]; exact Nat.le_refl _
      exact I1.fpOk hle (I1.hok.fresh hle)
    rcases q with ⟨hq, q⟩ | ⟨hq, q⟩
    · obtain ⟨its, rv, p', hz⟩ := I1.list hq
      refine call_enumerate_list p'.isList fun h' he hit hsz hk => wpAny_pyIter_enum he ?_
      have I2 : Inv X pins σ H1 { s1 with heap := h' } := I1.kept (t' := s1.toks) hk
      exact ⟨s1.heap.objs.size + 1, [s1.heap.objs.size + 1, s1.heap.objs.size], _, _, H1, rfl, I2, turn_enum a (s1.heap.objs.size + 1) s1.heap.objs.size, ⟨⟨.none, he⟩, hit, Nat.succ_ne_self _⟩, fr, q⟩
    · obtain ⟨its, rv, p', hz⟩ := I1.tuple hq
      obtain ⟨o1, ho1, _⟩ := id p'
      have hla : a < s1.heap.objs.size := Heap.lt_size ho1
      refine call_enumT (show s1.heap.IsTuple a its.toArray from p') fun h' he hit hsz hk => wpAny_pyIter_enum he ?_
      have I2 : Inv X pins σ H1 { s1 with heap := h' } := I1.kept (t' := s1.toks) hk
      exact ⟨s1.heap.objs.size + 1, [s1.heap.objs.size + 1, s1.heap.objs.size], _, _, H1, rfl, I2, turn_enumT a (s1.heap.objs.size + 1) s1.heap.objs.size (Nat.ne_of_gt (Nat.lt_succ_of_lt hla)) (Nat.ne_of_lt hla), ⟨⟨.none, he⟩, hit, Nat.succ_ne_self _⟩, fr, q⟩
end RZ
namespace Cl
open PySem L2 RZ
def mEnumT (a : Mm (List D)) : Mm Itr := fun ev S => bnd (mEsc a ev S) fun xs ev S => match xs with
  | [d] => match viewL [] S d with
    | some ds => some (.ok ⟨enumIts 0 ds, fun S => viewL [] S d = some ds⟩, ev, S)
    | none => match viewT S d with
      | some ds => some (.ok ⟨enumIts 0 ds, fun _ => True⟩, ev, S)
      | none => none
  | _ => none
section
variable {K : PySem.W.Frag} {γ : Nat → Addr} {W : WX}
theorem jok_enumT {F : Hp} {il : List Addr} {a : Addr} {vs : List V} {ds : List D} (h1 : SqT K F a vs) (h2 : DRs K F il [] vs ds) : JOk K γ F il (IteT K a) ⟨enumIts 0 ds, fun _ => True⟩ := by
  intro i P O F' H il' S ev σ sf pf R hc
  have h1 := Same.sqT R.fh (Same.sqT sf h1)
  have h2 := DRs.mono sf pf h2
  have l1 := PySem.Paired.length h2
  refine ⟨fun e => ⟨vs, h1, ?_⟩, fun x hx => ?_⟩
  · have e' : i = ds.length := by rw [e]; exact enumIts_len ds 0
    omega
  · obtain ⟨d', q1, rfl⟩ := enumIts_get hx
    obtain ⟨v, r1, r2⟩ := paired_at h2 q1
    refine ⟨⟨vs, v, h1, r1⟩, fun v' H' hy => ?_⟩
    obtain ⟨T, x, rfl, hT, rfl, y1⟩ := hy
    have e1 := y1 vs h1
    rw [r1] at e1; cases e1
    refine R.pair hT (.cons ?_ (.cons r2 .nil))
    rw [Nat.zero_add]
    exact TR.int _
theorem si_enumT {t : TA} {m : Mm (List D)} (h : SA K γ W t m) : SI K γ W (iEnumT K t) (mEnumT m) := by
  intro P O F H il S ev σ R r ev' S' hm Rr k
  rcases bnd_eq hm with ⟨x, q, rfl⟩ | ⟨ds, e1, s1, q, hm⟩
  · exact sa_esc h R q _ fun O1 F1 H1 il1 sf pf R1 => k O1 F1 H1 il1 sf pf R1
  · refine sa_esc h R q _ fun O1 F1 H1 il1 sf pf R1 vs hv => ?_
    split at hm
    · rename_i d
      cases hv with
      | cons a1 b1 =>
        cases b1
        split at hm
        · rename_i xs hx
          cases hm
          obtain ⟨a, va, rfl, h1, h2⟩ := viewL_ok R1 (DR.up (σ := σ) a1) (viewL_up hx _)
          exact ⟨a, va, rfl, .inl ⟨h1, k O1 F1 H1 il1 sf pf R1 _ (jok_enum a1)⟩⟩
        · split at hm
          · rename_i xs hx
            cases hm
            obtain ⟨a, va, rfl, h1, h2⟩ := viewT_ok R1 (DR.up (σ := σ) a1) hx
            exact ⟨a, va, rfl, .inr ⟨Same.sqT R1.fh h1, k O1 F1 H1 il1 sf pf R1 _ (jok_enumT h1 h2)⟩⟩
          · cases hm
    · cases hm
end
section
variable {X : Cx} {γ : Nat → Addr} {W : WX} {a : Expr} {pos : Pos}
theorem mi_enumT {ms : Mm (List D)} {p tpos : Pos} {elts : List Expr} {kk : Nat} (hm : X.mg "enumerate" = none) (h : MA X γ W [a] ms) (hg : Gl X "enumerate" := by rfl) (hs : starEach [a] X.env = [(false, eval a X.env)] := by rfl) :
    MI X γ W (.Tuple elts kk tpos) (.Call (.Name "enumerate" p) [a] [] pos) (mEnumT ms) := by
  obtain ⟨t, a1, a2, a3⟩ := h
  exact ⟨_, pi_enumT hg hm a1 hs, si_enumT a2⟩
end
/-! ## equations -/
section
variable {ev e1 e2 : Nv} {S s1 s2 : So} {ms : Mm (List D)}
def enumTR : List D → Nv → So → Option (Rs Itr × Nv × So) := fun xs ev S => match xs with
  | [d] => match viewL [] S d with
    | some ds => some (.ok ⟨enumIts 0 ds, fun S => viewL [] S d = some ds⟩, ev, S)
    | none => match viewT S d with
      | some ds => some (.ok ⟨enumIts 0 ds, fun _ => True⟩, ev, S)
      | none => none
  | _ => none
theorem q_enumT : mEnumT ms ev S = bK (mEsc ms ev S) enumTR := nr rfl
theorem q_enumTL (ts : List PyData) : enumTR [.t (.list ts)] ev S = some (.ok ⟨enumIts 0 (ts.map .t), fun S => viewL [] S (.t (.list ts)) = some (ts.map .t)⟩, ev, S) := nr rfl
theorem q_enumTT (ts : List PyData) : enumTR [.t (.tuple ts)] ev S = some (.ok ⟨enumIts 0 (ts.map .t), fun _ => True⟩, ev, S) := nr rfl
theorem q_enumTR {n : Nat} {ds : List D} (h : S[n]? = some (.lst ds)) : enumTR [.r n] ev S = some (.ok ⟨enumIts 0 ds, fun S => viewL [] S (.r n) = some ds⟩, ev, S) := by
  have e : viewL [] S (.r n) = some ds := by unfold viewL; dsimp only; rw [h]
  show (match viewL [] S (.r n) with
    | some ds => some (Rs.ok (⟨enumIts 0 ds, fun S => viewL [] S (.r n) = some ds⟩ : Itr), ev, S)
    | none => _) = _
  rw [e]
theorem enum_zipF {α : Type} (f : α → D) : ∀ (n : Nat) (xs : List α), enumIts n (xs.map f) = (xs.zipIdx n).map fun p => Im.tup [.int (p.2 : Int), f p.1]
  | _, [] => rfl
  | n, i :: r => by
    show Im.tup [.int (n : Int), f i] :: enumIts (n + 1) (r.map f) = _
    rw [enum_zipF f (n + 1) r]; rfl
/-- a comprehension that changes the cells: by an invariant -/
theorem wp_compS {it : Mm Itr} {g : Tg} {e : EM} {vs : List Nat} {ev e1 : Nv} {S s1 : So} {I : Itr} {α : Type} (f : α → Im) (xs : List α) (Pv : List D → List α → So → Prop) (hi : it ev S = some (.ok I, e1, s1)) (hx : I.its = xs.map f) (hl : xs.length ≤ sizeLine) (h0 : Pv [] [] s1) (hc : ∀ acc pre s, Pv acc pre s → I.chk s)
    (step : ∀ acc pre x post s, xs = pre ++ x :: post → Pv acc pre s → ∃ e2, g (f x) (wipeN e1 vs) s = some e2 ∧ Wp (bK (e e2 s) esc) fun r e5 s' => ∃ d, r = .ok d ∧ wipeN e5 vs = wipeN e1 vs ∧ Pv (acc ++ [d]) (pre ++ [x]) s') :
    ∃ acc s, lComp it g mYes e vs ev S = some (.ok acc, restN e1 (wipeN e1 vs) vs, s) ∧ acc.length = xs.length ∧ Pv acc xs s := by
  have key : ∀ (post pre : List α) (acc : List D) (s : So), xs = pre ++ post → acc.length = pre.length → Pv acc pre s → ∃ acc' s', compL g mYes e vs I.chk (post.map f) acc (wipeN e1 vs) s = some (.ok acc', wipeN e1 vs, s') ∧ acc'.length = xs.length ∧ Pv acc' xs s' := by
    intro post
    induction post with
    | nil =>
      intro pre acc s hp hal hv
      rw [List.append_nil] at hp
      subst hp
      refine ⟨acc, s, ?_, hal, hv⟩
      rw [List.map_nil]
      unfold compL
      rw [if_pos (hc _ _ _ hv)]
    | cons x post ih =>
      intro pre acc s hp hal hv
      obtain ⟨e2, h1, r, e5, s', h2, d, rfl, h3, h4⟩ := step acc pre x post s hp hv
      rcases bnd_eq h2 with ⟨_, _, z⟩ | ⟨y, e3, s3, q4, q5⟩
      · cases z
      obtain ⟨acc', s'', k1, k2, k3⟩ := ih (pre ++ [x]) (acc ++ [d]) s' (by rw [hp]; simp) (by simp [hal]) h4
      refine ⟨acc', s'', ?_, k2, k3⟩
      have hlen := congrArg List.length hp
      rw [List.length_append, List.length_cons] at hlen
      rw [List.map_cons]
      unfold compL
      rw [if_pos (hc _ _ _ hv), h1]
      dsimp only [mYes]
      rw [q4]
      dsimp only
      rw [q5]
      dsimp only
      rw [if_pos (by omega), h3]
      exact k1
  obtain ⟨acc, s, k1, k2, k3⟩ := key xs [] [] s1 rfl rfl h0
  rw [← hx] at k1
  refine ⟨acc, s, ?_, k2, k3⟩
  unfold lComp
  rw [hi]
  show (match compL g mYes e vs I.chk I.its [] (wipeN e1 vs) s1 with
    | some (Rs.ok acc, ev', S') => some (Rs.ok acc, restN e1 ev' vs, S')
    | _ => none) = _
  rw [k1]
end
end Cl

namespace Cl
open PySem L2 TL
/-! ## comprehensions and loops by what they end with -/
section
variable {ev e1 : Nv} {S s1 : So}
theorem q_wipe0 : wipeN ev [] = ev := nr rfl
theorem q_wipe1 (v : Nat) (vs : List Nat) : wipeN ev (v :: vs) = (wipeN ev vs).set v none := nr rfl
def restV : Option (Option En) → Option En
  | some (some (.d x)) => some (.d x)
  | _ => none
theorem q_rest0 : restN ev e1 [] = e1 := nr rfl
theorem q_rest1 (v : Nat) (vs : List Nat) : restN ev e1 (v :: vs) = (restN ev e1 vs).set v (restV ev[v]?) := by
  show (restN ev e1 vs).set v _ = _
  congr 1
theorem q_restD (x : D) : restV (some (some (.d x))) = some (.d x) := nr rfl
theorem q_restN : restV (some none) = none := nr rfl
theorem q_restL (xs : List D) : restV (some (some (.ol xs))) = none := nr rfl
theorem q_restK (xs : List (Key × D)) : restV (some (some (.od xs))) = none := nr rfl
end
section
variable {it : Mm Itr} {g : Tg} {c : Mm Bool} {e : EM} {vs : List Nat} {ev : Nv} {S : So} {α : Type} {Q : Rs (List D) → Nv → So → Prop}
/-- each item by itself, no if -/
def CompA (f : α → Im) (h : α → D) (xs : List α) (g : Tg) (e : EM) (vs : List Nat) (Q : Rs (List D) → Nv → So → Prop) (r : Rs Itr) (e1 : Nv) (s1 : So) : Prop := ∃ I : Itr, r = .ok I ∧ I.its = xs.map f ∧ xs.length ≤ sizeLine ∧ I.chk s1 ∧
  (∀ x ∈ xs, ∃ e2, g (f x) (wipeN e1 vs) s1 = some e2 ∧ Wp (bK (e e2 s1) esc) fun r e5 s => r = .ok (h x) ∧ s = s1 ∧ wipeN e5 vs = wipeN e1 vs) ∧ Q (.ok (xs.map h)) (restN e1 (wipeN e1 vs) vs) s1
theorem wp_cA (f : α → Im) (h : α → D) (xs : List α) (H : Wp (it ev S) (CompA f h xs g e vs Q)) : Wp (lComp it g mYes e vs ev S) Q := by
  obtain ⟨r, e1, s1, h1, I, rfl, h2, h3, h4, h5, h6⟩ := H
  rw [wp_compA f h xs h1 h2 h3 h4 h5]
  exact (wp_some _ _ _).mpr h6
theorem cA_mk {f : α → Im} {h : α → D} {xs : List α} {its : List Im} {chk : So → Prop} {e1 : Nv} {s1 : So} (h2 : its = xs.map f) (h3 : xs.length ≤ sizeLine) (h4 : chk s1)
    (h5 : ∀ x ∈ xs, ∃ e2, g (f x) (wipeN e1 vs) s1 = some e2 ∧ Wp (bK (e e2 s1) esc) fun r e5 s => r = .ok (h x) ∧ s = s1 ∧ wipeN e5 vs = wipeN e1 vs) (h6 : Q (.ok (xs.map h)) (restN e1 (wipeN e1 vs) vs) s1) : CompA f h xs g e vs Q (.ok ⟨its, chk⟩) e1 s1 := ⟨_, rfl, h2, h3, h4, h5, h6⟩
/-- with an if -/
def CompB (f : α → Im) (p : α → Bool) (h : α → D) (xs : List α) (g : Tg) (c : Mm Bool) (e : EM) (vs : List Nat) (Q : Rs (List D) → Nv → So → Prop) (r : Rs Itr) (e1 : Nv) (s1 : So) : Prop := ∃ I : Itr, r = .ok I ∧ I.its = xs.map f ∧ xs.length ≤ sizeLine ∧ I.chk s1 ∧
  (∀ x ∈ xs, ∃ e2, g (f x) (wipeN e1 vs) s1 = some e2 ∧ Wp (c e2 s1) fun r e3 s3 => r = .ok (p x) ∧ s3 = s1 ∧ if p x = true then Wp (bK (e e3 s1) esc) fun r e5 s => r = .ok (h x) ∧ s = s1 ∧ wipeN e5 vs = wipeN e1 vs else wipeN e3 vs = wipeN e1 vs) ∧ Q (.ok ((xs.filter p).map h)) (restN e1 (wipeN e1 vs) vs) s1
theorem wp_cB (f : α → Im) (p : α → Bool) (h : α → D) (xs : List α) (H : Wp (it ev S) (CompB f p h xs g c e vs Q)) : Wp (lComp it g c e vs ev S) Q := by
  obtain ⟨r, e1, s1, h1, I, rfl, h2, h3, h4, h5, h6⟩ := H
  rw [wp_comp f p h xs h1 h2 h3 h4 h5]
  exact (wp_some _ _ _).mpr h6
theorem cB_mk {f : α → Im} {p : α → Bool} {h : α → D} {xs : List α} {its : List Im} {chk : So → Prop} {e1 : Nv} {s1 : So} (h2 : its = xs.map f) (h3 : xs.length ≤ sizeLine) (h4 : chk s1)
    (h5 : ∀ x ∈ xs, ∃ e2, g (f x) (wipeN e1 vs) s1 = some e2 ∧ Wp (c e2 s1) fun r e3 s3 => r = .ok (p x) ∧ s3 = s1 ∧ if p x = true then Wp (bK (e e3 s1) esc) fun r e5 s => r = .ok (h x) ∧ s = s1 ∧ wipeN e5 vs = wipeN e1 vs else wipeN e3 vs = wipeN e1 vs) (h6 : Q (.ok ((xs.filter p).map h)) (restN e1 (wipeN e1 vs) vs) s1) : CompB f p h xs g c e vs Q (.ok ⟨its, chk⟩) e1 s1 := ⟨_, rfl, h2, h3, h4, h5, h6⟩
/-- that changes the cells -/
def CompS (f : α → Im) (xs : List α) (Pv : List D → List α → So → Prop) (g : Tg) (e : EM) (vs : List Nat) (Q : Rs (List D) → Nv → So → Prop) (r : Rs Itr) (e1 : Nv) (s1 : So) : Prop := ∃ I : Itr, r = .ok I ∧ I.its = xs.map f ∧ xs.length ≤ sizeLine ∧ Pv [] [] s1 ∧ (∀ acc pre s, Pv acc pre s → I.chk s) ∧
  (∀ acc pre x post s, xs = pre ++ x :: post → Pv acc pre s → ∃ e2, g (f x) (wipeN e1 vs) s = some e2 ∧ Wp (bK (e e2 s) esc) fun r e5 s' => ∃ d, r = .ok d ∧ wipeN e5 vs = wipeN e1 vs ∧ Pv (acc ++ [d]) (pre ++ [x]) s') ∧
  ∀ acc s, acc.length = xs.length → Pv acc xs s → Q (.ok acc) (restN e1 (wipeN e1 vs) vs) s
theorem wp_cS (f : α → Im) (xs : List α) (Pv : List D → List α → So → Prop) (H : Wp (it ev S) (CompS f xs Pv g e vs Q)) : Wp (lComp it g mYes e vs ev S) Q := by
  obtain ⟨r, e1, s1, h1, I, rfl, h2, h3, h4, h5, h6, h7⟩ := H
  obtain ⟨acc, s, k1, k2, k3⟩ := wp_compS f xs Pv h1 h2 h3 h4 h5 h6
  rw [k1]
  exact (wp_some _ _ _).mpr (h7 acc s k2 k3)
theorem cS_mk {f : α → Im} {xs : List α} {Pv : List D → List α → So → Prop} {its : List Im} {chk : So → Prop} {e1 : Nv} {s1 : So} (h2 : its = xs.map f) (h3 : xs.length ≤ sizeLine) (h4 : Pv [] [] s1) (hc : ∀ acc pre s, Pv acc pre s → chk s)
    (h5 : ∀ acc pre x post s, xs = pre ++ x :: post → Pv acc pre s → ∃ e2, g (f x) (wipeN e1 vs) s = some e2 ∧ Wp (bK (e e2 s) esc) fun r e5 s' => ∃ d, r = .ok d ∧ wipeN e5 vs = wipeN e1 vs ∧ Pv (acc ++ [d]) (pre ++ [x]) s')
    (h6 : ∀ acc s, acc.length = xs.length → Pv acc xs s → Q (.ok acc) (restN e1 (wipeN e1 vs) vs) s) : CompS f xs Pv g e vs Q (.ok ⟨its, chk⟩) e1 s1 := ⟨_, rfl, h2, h3, h4, hc, h5, h6⟩
end
/-- a for by an invariant, the items as they come -/
theorem wp_forE {α : Type} {g : Tg} {b : SM} {chk : So → Prop} {its : List Im} {Q : Fl → Nv → So → Prop} (f : α → Im) (xs : List α) (Pv : List α → List α → Nv → So → Prop) {ev : Nv} {S : So} (hx : its = xs.map f) (h0 : Pv [] xs ev S)
    (hc : ∀ pre post ev S, xs = pre ++ post → Pv pre post ev S → chk S)
    (hs : ∀ pre x post ev S, xs = pre ++ x :: post → Pv pre (x :: post) ev S → ∃ e1, g (f x) ev S = some e1 ∧ Wp (b e1 S) fun fl e s => match fl with
      | .nx => Pv (pre ++ [x]) post e s
      | .ct => Pv (pre ++ [x]) post e s
      | .bk => Q .nx e s
      | .rt d => Q (.rt d) e s
      | .ex x => Q (.ex x) e s) (hend : ∀ ev S, Pv xs [] ev S → Q .nx ev S) : Wp (forL g b chk its ev S) Q := by
  subst hx
  exact wp_for f xs Pv h0 hend hc hs
/-- a cut behind a statement -/
theorem wp_cut {a b : SM} {ev : Nv} {S : So} {Q : Fl → Nv → So → Prop} (Mid : Nv → So → Prop) (h1 : Wp (a ev S) fun f e s => f = .nx ∧ Mid e s) (h2 : ∀ e s, Mid e s → Wp (b e s) Q) : Wp (sSeq a b ev S) Q := by
  obtain ⟨f, e, s, h3, rfl, h4⟩ := h1
  obtain ⟨r, e', s', h5, h6⟩ := h2 e s h4
  exact ⟨r, e', s', by unfold sSeq; rw [h3]; exact h5, h6⟩
theorem wp_ifT {c : Mm Bool} {m n : SM} {ev : Nv} {S : So} {Q : Fl → Nv → So → Prop} (h : Wp (c ev S) fun r e s => r = .ok true ∧ e = ev ∧ s = S) (hm : Wp (m ev S) Q) : Wp (sIf c m n ev S) Q := by
  obtain ⟨_, _, _, h1, rfl, rfl, rfl⟩ := h
  obtain ⟨r, e', s', h5, h6⟩ := hm
  exact ⟨r, e', s', by unfold sIf; rw [h1]; exact h5, h6⟩
theorem wp_ifF {c : Mm Bool} {m n : SM} {ev : Nv} {S : So} {Q : Fl → Nv → So → Prop} (h : Wp (c ev S) fun r e s => r = .ok false ∧ e = ev ∧ s = S) (hm : Wp (n ev S) Q) : Wp (sIf c m n ev S) Q := by
  obtain ⟨_, _, _, h1, rfl, rfl, rfl⟩ := h
  obtain ⟨r, e', s', h5, h6⟩ := hm
  exact ⟨r, e', s', by unfold sIf; rw [h1]; exact h5, h6⟩
/-- what an item of a list is -/
theorem at_some {α : Type} {l : List α} {i : Int} (d : α) (h0 : 0 ≤ i) (h1 : i < l.length) : atI l i = some (l.getD i.toNat d) := by
  rw [atI_nat h0 h1, List.getElem?_eq_getElem (by omega), List.getD_eq_getElem?_getD, List.getElem?_eq_getElem (by omega)]; rfl
theorem join_one {α : Type} {ev : Nv} {S : So} (xs : List α) (f : α → Nat) (h : xs.length ≤ 16777216) : fJoin ev S (.t (.str (mkS []))) [.t (.list (xs.map fun x => .str (mkS [f x])))] = some (.t (.str (mkS (xs.map f)))) := by
  have e : (xs.map fun x => PyData.str (mkS [f x])) = (xs.map fun x => [f x]).map fun l => PyData.str (mkS l) := by rw [List.map_map]; rfl
  have e2 : (xs.map fun x => [f x]).flatten = xs.map f := by
    clear h e
    induction xs with
    | nil => rfl
    | cons a r ih => rw [List.map_cons, List.flatten_cons, ih]; rfl
  rw [e, q_join0 _ (by rw [e2, List.length_map]; exact h), e2]
theorem q_itR {S : So} {n : Nat} {ds : List D} (h : S[n]? = some (.lst ds)) : itOf S (.r n) = some ⟨ones ds, fun S => viewL [] S (.r n) = some ds⟩ := by
  have e : viewL [] S (.r n) = some ds := by unfold viewL; dsimp only; rw [h]
  unfold itOf; rw [e]
theorem q_tuR {ev : Nv} {S : So} {n : Nat} {ts : List PyData} (h : S[n]? = some (.lst (ts.map .t))) : dTupOf ev S (.r n) = some (.t (.tuple ts)) := by
  have e : viewL ev S (.r n) = some (ts.map .t) := by unfold viewL; dsimp only; rw [h]
  show (viewL ev S (.r n)).bind _ = _
  rw [e]
  show (allT (ts.map D.t)).map _ = _
  rw [allT_map]; rfl
theorem q_cast (n : Nat) : ((no_index (OfNat.ofNat n) : Nat) : Int) = OfNat.ofNat n := nr rfl
theorem ex_eq {α : Type} {a : α} {p : α → Prop} : (∃ x, some a = some x ∧ p x) ↔ p a := ⟨fun ⟨x, h, q⟩ => by cases h; exact q, fun q => ⟨a, rfl, q⟩⟩
end Cl

namespace Cl
open PySem L2
/-! ## dicts that are walked: locked meanwhile -/
section
variable {K : PySem.W.Frag} {γ : Nat → Addr} {P O F H : Hp} {il : List Addr} {S : So} {ev : Nv} {σ : L2.St} {d : Addr} {o : Obj} {ks : List (Key × V)}
theorem sqT_del {a : Addr} {vs : List V} (hd : F d = some (.frz o (.dK ks))) (h : SqT K F a vs) : SqT K (del F d) a vs := by
  rcases h with h | h
  · refine .inl ?_
    rcases h with h | ⟨o', h⟩
    · exact .inl (by rw [del_ne fun e => by subst e; rw [hd] at h; cases h]; exact h)
    · exact .inr ⟨o', by rw [del_ne fun e => by subst e; rw [hd] at h; cases h]; exact h⟩
  · exact .inr h
theorem sqL_del {a : Addr} {vs : List V} (hd : F d = some (.frz o (.dK ks))) (h : SqL K F a vs) : SqL K (del F d) a vs := by
  rcases h with h | h
  · refine .inl ?_
    rcases h with h | ⟨o', h⟩
    · exact .inl (by rw [del_ne fun e => by subst e; rw [hd] at h; cases h]; exact h)
    · exact .inr ⟨o', by rw [del_ne fun e => by subst e; rw [hd] at h; cases h]; exact h⟩
  · exact .inr h
mutual
theorem TR.del (hd : F d = some (.frz o (.dK ks))) : ∀ {v : V} {t : PyData}, TR K F v t → TR K (del F d) v t
  | _, _, .non => .non
  | _, _, .bl b => .bl b
  | _, _, .int i => .int i
  | _, _, .str x => .str x
  | _, _, .lst h1 h2 => .lst (by rw [del_ne fun e => by subst e; rw [hd] at h1; cases h1]; exact h1) (TRs.del hd h2)
  | _, _, .tup h1 h2 => .tup (sqT_del hd h1) (TRs.del hd h2)
  | _, _, .dic h1 h2 => .dic (by rw [del_ne fun e => by subst e; rw [hd] at h1; cases h1]; exact h1) (TRk.del hd h2)
theorem TRs.del (hd : F d = some (.frz o (.dK ks))) : ∀ {vs : List V} {ts : List PyData}, TRs K F vs ts → TRs K (del F d) vs ts
  | _, _, .nil => .nil
  | _, _, .cons h1 h2 => .cons (TR.del hd h1) (TRs.del hd h2)
theorem TRk.del (hd : F d = some (.frz o (.dK ks))) : ∀ {vs : List (Key × V)} {ts : List (PyData × PyData)}, TRk K F vs ts → TRk K (del F d) vs ts
  | _, _, .nil => .nil
  | _, _, .cons h0 h1 h2 => .cons h0 (TR.del hd h1) (TRk.del hd h2)
end
theorem DR.del (hd : F d = some (.frz o (.dK ks))) {τ : L2.St} : ∀ {v : V} {x : D}, DR K F il τ v x → DR K (del F d) il τ v x
  | _, .t _, h => TR.del hd h
  | _, .r _, h => h
  | _, .b _, h => h
theorem DRs.del (hd : F d = some (.frz o (.dK ks))) {τ : L2.St} {vs : List V} {xs : List D} (h : DRs K F il τ vs xs) : DRs K (del F d) il τ vs xs := L2.Paired.mapP h fun _ _ q => DR.del hd q
theorem KR.del {κ : Type} (hd : F d = some (.frz o (.dK ks))) {vs : List (κ × V)} {xs : List (κ × D)} (h : KR K F il vs xs) : KR K (del F d) il vs xs := L2.Paired.mapP h fun _ _ q => ⟨q.1, DR.del hd q.2⟩
theorem RE.lock (R : RE K γ P O F H il S ev σ) {n : Nat} {a : Addr} {kvs : List (Key × D)} (od : Obj) (h1 : il[n]? = some a) (h2 : S[n]? = some (.dic kvs)) (ha : H a = some (.dK ks)) (hf : F a = none) (hk : KR K F il ks kvs) :
    RE K γ P O (upd F a (.frz od (.dK ks))) (upd H a (.frz od (.dK ks))) il (S.set n (.frd kvs)) ev σ := by
  have ma : MutAt il S a := ⟨n, _, h1, h2, rfl⟩
  have sf : Same F (upd F a (.frz od (.dK ks))) := Same.upd hf
  have hlt : n < S.length := (List.getElem?_eq_some_iff.mp h2).1
  have back : ∀ b, MutAt il (S.set n (.frd kvs)) b → MutAt il S b := fun b ⟨k, c, k1, k2, k3⟩ => by
    by_cases e : n = k
    · subst e; rw [List.getElem?_set_self hlt] at k2; cases k2; cases k3
    · rw [List.getElem?_set_ne e] at k2; exact ⟨k, c, k1, k2, k3⟩
  have get : ∀ (k : Nat) (c : Ce), (S.set n (.frd kvs))[k]? = some c → c.lone = true → ∃ c', S[k]? = some c' ∧ c'.lone = true := fun k c k2 k3 => by
    by_cases e : n = k
    · subst e; exact ⟨_, h2, rfl⟩
    · rw [List.getElem?_set_ne e] at k2; exact ⟨c, k2, k3⟩
  refine ⟨Same.upd2 R.fh, fun b u hb => ?_, fun b u hb => ?_, fun i j b c c' k1 k2 k3 k4 m1 m2 => ?_, by simp [R.ln], fun k b c k1 k2 => ?_, R.el, fun i e h => ?_, R.ow⟩
  · obtain ⟨q1, q2, q3, q4⟩ := R.ph b u hb
    have ne : b ≠ a := fun z => q3 (by rw [z]; exact ma)
    exact ⟨by rw [upd_ne ne]; exact q1, by rw [upd_ne ne]; exact q2, fun z => q3 (back b z), q4⟩
  · obtain ⟨q1, q2, q3⟩ := R.oh b u hb
    have ne : b ≠ a := fun z => q3 (by rw [z]; exact ma)
    exact ⟨by rw [upd_ne ne]; exact q1, by rw [upd_ne ne]; exact q2, fun z => q3 (back b z)⟩
  · obtain ⟨e1, r1, r2⟩ := get i c k3 m1
    obtain ⟨e2, r3, r4⟩ := get j c' k4 m2
    exact R.nd i j b e1 e2 k1 k2 r1 r3 r2 r4
  · by_cases e : n = k
    · subst e
      rw [List.getElem?_set_self hlt] at k2; cases k2
      rw [h1] at k1; cases k1
      exact ⟨od, ks, upd_same, KR.mono sf (pref_rfl _) hk⟩
    · rw [List.getElem?_set_ne e] at k2
      refine (R.cl k b c k1 k2).mono sf (pref_rfl _) (fun md fb _ => ?_) fun md fb u hu => ?_
      · rw [upd_ne fun z => e (R.nd n k a _ c h1 (by rw [← z]; exact k1) h2 k2 rfl (Ce.mut_lone md))]; exact fb
      · rw [upd_ne fun z => e (R.nd n k a _ c h1 (by rw [← z]; exact k1) h2 k2 rfl (Ce.mut_lone md))]; exact hu
  · obtain ⟨v, q1, q2⟩ := R.en i e h
    exact ⟨v, q1, q2.mono sf (pref_rfl _) fun _ _ _ q _ => q⟩
theorem RE.unlock (R : RE K γ P O F H il S ev σ) {n : Nat} {kvs : List (Key × D)} (h1 : il[n]? = some d) (h2 : S[n]? = some (.frd kvs)) (hd : F d = some (.frz o (.dK ks))) :
    RE K γ P O (del F d) (upd H d (.dK ks)) il (S.set n (.dic kvs)) ev σ := by
  have hlt : n < S.length := (List.getElem?_eq_some_iff.mp h2).1
  obtain ⟨o', ks', z1, z2⟩ := R.cl n d _ h1 h2
  rw [hd] at z1; cases z1
  have mub : ∀ b, b ≠ d → MutAt il (S.set n (.dic kvs)) b → MutAt il S b := fun b ne ⟨k, c, k1, k2, k3⟩ => by
    by_cases e : n = k
    · subst e; rw [h1] at k1; cases k1; exact absurd rfl ne
    · rw [List.getElem?_set_ne e] at k2; exact ⟨k, c, k1, k2, k3⟩
  have get : ∀ (k : Nat) (c : Ce), (S.set n (.dic kvs))[k]? = some c → c.lone = true → ∃ c', S[k]? = some c' ∧ c'.lone = true := fun k c k2 k3 => by
    by_cases e : n = k
    · subst e; exact ⟨_, h2, rfl⟩
    · rw [List.getElem?_set_ne e] at k2; exact ⟨c, k2, k3⟩
  refine ⟨fun b u hb => ?_, fun b u hb => ?_, fun b u hb => ?_, fun i j b c c' k1 k2 k3 k4 m1 m2 => ?_, by simp [R.ln], fun k b c k1 k2 => ?_, R.el, fun i e h => ?_, R.ow⟩
  · obtain ⟨ne, q⟩ := of_del hb
    rw [upd_ne ne]; exact R.fh b u q
  · obtain ⟨q1, q2, q3, q4⟩ := R.ph b u hb
    have ne : b ≠ d := fun z => by rw [z, hd] at q2; cases q2
    exact ⟨by rw [upd_ne ne]; exact q1, by rw [del_ne ne]; exact q2, fun z => q3 (mub b ne z), q4⟩
  · obtain ⟨q1, q2, q3⟩ := R.oh b u hb
    have ne : b ≠ d := fun z => by rw [z, hd] at q2; cases q2
    exact ⟨by rw [upd_ne ne]; exact q1, by rw [del_ne ne]; exact q2, fun z => q3 (mub b ne z)⟩
  · obtain ⟨e1, r1, r2⟩ := get i c k3 m1
    obtain ⟨e2, r3, r4⟩ := get j c' k4 m2
    exact R.nd i j b e1 e2 k1 k2 r1 r3 r2 r4
  · by_cases e : n = k
    · subst e
      rw [List.getElem?_set_self hlt] at k2; cases k2
      rw [h1] at k1; cases k1
      exact ⟨del_same, ks, upd_same, KR.del hd z2⟩
    · rw [List.getElem?_set_ne e] at k2
      have old := R.cl k b c k1 k2
      have hne : c.lone = true → b ≠ d := fun m z => e (R.nd n k d _ c h1 (by rw [← z]; exact k1) h2 k2 rfl m)
      cases c with
      | lst ds =>
        obtain ⟨g0, vs, g1, g2⟩ := old
        exact ⟨by rw [del_ne (hne rfl)]; exact g0, vs, by rw [upd_ne (hne rfl)]; exact g1, DRs.del hd g2⟩
      | frl ds => obtain ⟨vs, g1, g2⟩ := old; exact ⟨vs, sqL_del hd g1, DRs.del hd g2⟩
      | tup ds =>
        obtain ⟨vs, g1, g2⟩ := old
        exact ⟨vs, by rw [del_ne fun z => by rw [z, hd] at g1; cases g1]; exact g1, DRs.del hd g2⟩
      | dic kv =>
        obtain ⟨g0, vs, g1, g2⟩ := old
        exact ⟨by rw [del_ne (hne rfl)]; exact g0, vs, by rw [upd_ne (hne rfl)]; exact g1, KR.del hd g2⟩
      | obj c fs =>
        obtain ⟨g0, dx, vs, g1, g2⟩ := old
        exact ⟨by rw [del_ne (hne rfl)]; exact g0, dx, vs, by rw [upd_ne (hne rfl)]; exact g1, KR.del hd g2⟩
      | frd kv =>
        obtain ⟨o2, vs, g1, g2⟩ := old
        exact ⟨o2, vs, by rw [del_ne (hne rfl)]; exact g1, KR.del hd g2⟩
      | dtp kv =>
        obtain ⟨g0, vs, g1, g2⟩ := old
        exact ⟨by rw [del_ne (hne rfl)]; exact g0, vs, by rw [upd_ne (hne rfl)]; exact g1, KR.del hd g2⟩
  · obtain ⟨v, q1, q2⟩ := R.en i e h
    refine ⟨v, q1, ?_⟩
    cases e with
    | d x => exact DR.del hd q2
    | ol ds => obtain ⟨a, vs, g1, g2, g3⟩ := q2; exact ⟨a, vs, g1, g2, DRs.del hd g3⟩
    | od kv => obtain ⟨a, vs, g1, g2, g3⟩ := q2; exact ⟨a, vs, g1, g2, KR.del hd g3⟩
end
section
variable {K : PySem.W.Frag} {γ : Nat → Addr} {W : WX}
/-- the cell is a dict again -/
def unlk (n : Nat) (o : Os) : Os := match o with
  | some (.ex x, e, s) => some (.ex x, e, s)
  | some (f, e, s) => match s[n]? with
    | some (.frd kvs) => some (f, e, s.set n (.dic kvs))
    | _ => none
  | none => none
/-- a statement while the dict that e tells is walked -/
def sLock (e : EM) (m : SM) : SM := fun ev S => match e ev S with
  | some (.ok (.r n), _, _) => match S[n]? with
    | some (.dic kvs) => unlk n (m ev (S.set n (.frd kvs)))
    | _ => none
  | _ => none
theorem same_del {F F' : Hp} {a : Addr} (hf : F a = none) (s : Same F F') : Same F (del F' a) := fun b u h => by
  rw [del_ne fun z => by rw [z, hf] at h; cases h]; exact s b u h
theorem ss_lock {t : TS} {m : SM} (e : EM) (h : SS K γ W t m) : SS K γ W (tLock t) (sLock e m) := by
  intro P O F H il S ev σ R f ev' S' hm E k
  unfold sLock at hm
  split at hm
  · rename_i n _ _ he
    split at hm
    · rename_i kvs hS
      obtain ⟨a, h1, fa, ks, ha, hk⟩ := R.at hS
      refine ⟨a, .dK ks, ha, trivial, fun od => ?_⟩
      have R1 := R.lock od h1 hS ha fa hk
      cases hr : m ev (S.set n (.frd kvs)) with
      | none => rw [hr] at hm; cases hm
      | some q =>
        obtain ⟨f1, e1, s1⟩ := q
        rw [hr] at hm
        have sf0 : Same F (upd F a (.frz od (.dK ks))) := Same.upd fa
        refine h P O _ _ il _ ev σ R1 _ _ _ hr _ fun O2 F2 H2 il2 σ2 sf pf R2 => ?_
        have hd : F2 a = some (.frz od (.dK ks)) := sf _ _ upd_same
        have hi := pref_get pf h1
        by_cases hx : ∃ x, f1 = .ex x
        · obtain ⟨x, rfl⟩ := hx
          cases hm
          exact k O2 F2 H2 il2 σ2 (sf0.trans sf) pf R2
        · have hu : ∃ kv, s1[n]? = some (.frd kv) ∧ some (f1, e1, s1.set n (.dic kv)) = some (f, ev', S') := by
            unfold unlk at hm
            cases f1 with
            | ex x => exact absurd ⟨x, rfl⟩ hx
            | _ =>
              dsimp only at hm
              split at hm
              · rename_i kv hS1; exact ⟨kv, hS1, hm⟩
              · cases hm
          obtain ⟨kv, hS1, hu⟩ := hu
          injection hu with hu
          injection hu with hu1 hu2
          injection hu2 with hu2 hu3
          subst hu1 hu2 hu3
          have R3 := R2.unlock hi hS1 hd
          have g := k O2 _ _ il2 σ2 (same_del fa (sf0.trans sf)) pf R3
          have hH : H2 a = some (.frz od (.dK ks)) := R2.fh _ _ hd
          cases f1 with
          | nx => exact ⟨hH, g⟩
          | bk => exact ⟨hH, g⟩
          | ct => exact ⟨hH, g⟩
          | rt d => exact fun v hv => ⟨hH, g v (DR.del hd hv)⟩
          | ex x => exact absurd ⟨x, rfl⟩ hx
    · cases hm
  · cases hm
def unlkL (n : Nat) (o : Om (List D)) : Om (List D) := match o with
  | some (.ex x, e, s) => some (.ex x, e, s)
  | some (.ok r, e, s) => match s[n]? with
    | some (.frd kvs) => some (.ok r, e, s.set n (.dic kvs))
    | _ => none
  | none => none
def lLock (e : EM) (m : Mm (List D)) : Mm (List D) := fun ev S => match e ev S with
  | some (.ok (.r n), _, _) => match S[n]? with
    | some (.dic kvs) => unlkL n (m ev (S.set n (.frd kvs)))
    | _ => none
  | _ => none
theorem upd_swap {H : Hp} {a p : Addr} {u w : HO} (h : p ≠ a) : upd (upd H p w) a u = upd (upd H a u) p w := by
  funext b
  by_cases h1 : b = a
  · subst h1; rw [upd_same, upd_ne (Ne.symm h), upd_same]
  · rw [upd_ne h1]
    by_cases h2 : b = p
    · subst h2; rw [upd_same, upd_same]
    · rw [upd_ne h2, upd_ne h2, upd_ne h1]
theorem sl_lock {t : TE} {m : Mm (List D)} (e : EM) (h : SL K γ W t m) : SL K γ W (tLockE t) (lLock e m) := by
  intro P O F H il S ev σ R r ev' S' hm Q k
  unfold lLock at hm
  split at hm
  · rename_i n _ _ he
    split at hm
    · rename_i kvs hS
      obtain ⟨a, h1, fa, ks, ha, hk⟩ := R.at hS
      refine ⟨a, .dK ks, ha, trivial, fun od => ?_⟩
      have R1 := R.lock od h1 hS ha fa hk
      cases hr : m ev (S.set n (.frd kvs)) with
      | none => rw [hr] at hm; cases hm
      | some q =>
        obtain ⟨r1, e1, s1⟩ := q
        rw [hr] at hm
        have sf0 : Same F (upd F a (.frz od (.dK ks))) := Same.upd fa
        refine h P O _ _ il _ ev σ R1 _ _ _ hr _ fun O2 F2 H2 il2 sf pf R2 => ?_
        have hd : F2 a = some (.frz od (.dK ks)) := sf _ _ upd_same
        have hi := pref_get pf h1
        cases r1 with
        | ex x => cases hm; exact k O2 F2 H2 il2 (sf0.trans sf) pf R2
        | ok ds =>
          unfold unlkL at hm
          dsimp only at hm
          split at hm
          · rename_i kv hS1
            cases hm
            have R3 := R2.unlock hi hS1 hd
            have g := k O2 _ _ il2 (same_del fa (sf0.trans sf)) pf R3
            have hH : H2 a = some (.frz od (.dK ks)) := R2.fh _ _ hd
            intro vs p hv hz hp
            have ne : p ≠ a := fun z => by rw [z, hH] at hp; cases hp
            refine ⟨by rw [upd_ne (Ne.symm ne)]; exact hH, ?_⟩
            rw [upd_swap ne]
            exact g vs p (DRs.del hd hv) hz (by rw [upd_ne ne]; exact hp)
          · cases hm
    · cases hm
  · cases hm
/-! ### what is walked -/
def mIterK (m : EM) : Mm Itr := fun ev S => bnd (m ev S) fun x ev S => match x with
  | .r n => match S[n]? with
    | some (.frd kvs) => some (.ok ⟨kvs.map fun kv => .one (.t (keyD kv.1)), fun _ => True⟩, ev, S)
    | _ => none
  | _ => none
def mIterV (m : EM) : Mm Itr := fun ev S => bnd (m ev S) fun x ev S => match x with
  | .r n => match S[n]? with
    | some (.frd kvs) => some (.ok ⟨kvs.map fun kv => .one kv.2, fun _ => True⟩, ev, S)
    | _ => none
  | _ => none
def mIterP (m : EM) : Mm Itr := fun ev S => bnd (m ev S) fun x ev S => match x with
  | .r n => match S[n]? with
    | some (.frd kvs) => some (.ok ⟨kvs.map fun kv => .tup [.t (keyD kv.1), kv.2], fun _ => True⟩, ev, S)
    | _ => none
  | _ => none
theorem tr_key {F : Hp} (k : Key) : TR K F (kV k) (keyD k) := by
  cases k with
  | inl i => exact .int i
  | inr x => exact .str x
theorem jok_keys {F : Hp} {il : List Addr} {a : Addr} {o : Obj} {ks : List (Key × V)} {kvs : List (Key × D)} (hF : F a = some (.frz o (.dK ks))) (hk : KR K F il ks kvs) : JOk K γ F il (Itk a o ks) ⟨kvs.map fun kv => .one (.t (keyD kv.1)), fun _ => True⟩ := by
  intro i P O F' H il' S ev σ sf pf R hc
  have hH := R.fh _ _ (sf _ _ hF)
  have hl := PySem.Paired.length hk
  refine ⟨fun e => ⟨hH, by rw [e, List.length_map, hl]; exact Nat.le_refl _⟩, fun x hx => ?_⟩
  rw [List.getElem?_map] at hx
  obtain ⟨kv, q1, rfl⟩ := Option.map_eq_some_iff.mp hx
  obtain ⟨p, q2, q3, q4⟩ := paired_at hk q1
  refine ⟨⟨hH, (List.getElem?_eq_some_iff.mp q2).1⟩, fun v' H' hy => ?_⟩
  obtain ⟨rfl, k, v, y1, rfl⟩ := hy
  rw [q2] at y1; cases y1
  refine ⟨F', Same.refl F', R, ?_⟩
  show TR K F' (kV k) (keyD kv.1)
  rw [← q3]; exact tr_key k
theorem jok_vals {F : Hp} {il : List Addr} {a : Addr} {o : Obj} {ks : List (Key × V)} {kvs : List (Key × D)} (hF : F a = some (.frz o (.dK ks))) (hk : KR K F il ks kvs) : JOk K γ F il (Itd a o ks) ⟨kvs.map fun kv => .one kv.2, fun _ => True⟩ := by
  intro i P O F' H il' S ev σ sf pf R hc
  have hH := R.fh _ _ (sf _ _ hF)
  have hl := PySem.Paired.length hk
  refine ⟨fun e => ⟨hH, by rw [e, List.length_map, hl]; exact Nat.le_refl _⟩, fun x hx => ?_⟩
  rw [List.getElem?_map] at hx
  obtain ⟨kv, q1, rfl⟩ := Option.map_eq_some_iff.mp hx
  obtain ⟨p, q2, q3, q4⟩ := paired_at hk q1
  refine ⟨⟨hH, (List.getElem?_eq_some_iff.mp q2).1⟩, fun v' H' hy => ?_⟩
  obtain ⟨rfl, k, y1⟩ := hy
  rw [q2] at y1; cases y1
  exact ⟨F', Same.refl F', R, DR.mono sf pf q4⟩
theorem jok_items {F : Hp} {il : List Addr} {a : Addr} {o : Obj} {ks : List (Key × V)} {kvs : List (Key × D)} (hF : F a = some (.frz o (.dK ks))) (hk : KR K F il ks kvs) : JOk K γ F il (Iti a o ks) ⟨kvs.map fun kv => .tup [.t (keyD kv.1), kv.2], fun _ => True⟩ := by
  intro i P O F' H il' S ev σ sf pf R hc
  have hH := R.fh _ _ (sf _ _ hF)
  have hl := PySem.Paired.length hk
  refine ⟨fun e => ⟨hH, by rw [e, List.length_map, hl]; exact Nat.le_refl _⟩, fun x hx => ?_⟩
  rw [List.getElem?_map] at hx
  obtain ⟨kv, q1, rfl⟩ := Option.map_eq_some_iff.mp hx
  obtain ⟨p, q2, q3, q4⟩ := paired_at hk q1
  refine ⟨⟨hH, (List.getElem?_eq_some_iff.mp q2).1⟩, fun v' H' hy => ?_⟩
  obtain ⟨T, k, v, y1, rfl, hT, rfl⟩ := hy
  rw [q2] at y1; cases y1
  refine R.pair hT (.cons ?_ (.cons (DR.mono sf pf q4) .nil))
  show TR K F' (kV k) (keyD kv.1)
  rw [← q3]; exact tr_key k
theorem si_keys {t : TE} {m : EM} (h : SE K γ W t m) : SI K γ W (iKeys t) (mIterK m) := by
  intro P O F H il S ev σ R r ev' S' hm Rr k
  rcases bnd_eq hm with ⟨x, q, rfl⟩ | ⟨dx, e1, s1, q, hm⟩
  · exact h P O F H il S ev σ R _ _ _ q _ fun O1 F1 H1 il1 sf pf R1 => k O1 F1 H1 il1 sf pf R1
  · refine h P O F H il S ev σ R _ _ _ q _ fun O1 F1 H1 il1 sf pf R1 v hv => ?_
    split at hm
    · split at hm
      · rename_i n kvs hS
        cases hm
        obtain ⟨a, rfl, h2⟩ := hv
        obtain ⟨o, ks, g1, g2⟩ := R1.cl _ a _ h2 hS
        exact ⟨a, o, rfl, .inl ⟨ks, R1.fh _ _ g1, k O1 F1 H1 il1 sf pf R1 _ (jok_keys g1 g2)⟩⟩
      · cases hm
    · cases hm
theorem si_vals {t : TE} {m : EM} (h : SE K γ W t m) : SI K γ W (iVals t) (mIterV m) := by
  intro P O F H il S ev σ R r ev' S' hm Rr k
  rcases bnd_eq hm with ⟨x, q, rfl⟩ | ⟨dx, e1, s1, q, hm⟩
  · exact h P O F H il S ev σ R _ _ _ q _ fun O1 F1 H1 il1 sf pf R1 => k O1 F1 H1 il1 sf pf R1
  · refine h P O F H il S ev σ R _ _ _ q _ fun O1 F1 H1 il1 sf pf R1 v hv => ?_
    split at hm
    · split at hm
      · rename_i n kvs hS
        cases hm
        obtain ⟨a, rfl, h2⟩ := hv
        obtain ⟨o, ks, g1, g2⟩ := R1.cl _ a _ h2 hS
        exact ⟨a, o, ks, rfl, R1.fh _ _ g1, k O1 F1 H1 il1 sf pf R1 _ (jok_vals g1 g2)⟩
      · cases hm
    · cases hm
theorem si_items {t : TE} {m : EM} (h : SE K γ W t m) : SI K γ W (iItems t) (mIterP m) := by
  intro P O F H il S ev σ R r ev' S' hm Rr k
  rcases bnd_eq hm with ⟨x, q, rfl⟩ | ⟨dx, e1, s1, q, hm⟩
  · exact h P O F H il S ev σ R _ _ _ q _ fun O1 F1 H1 il1 sf pf R1 => k O1 F1 H1 il1 sf pf R1
  · refine h P O F H il S ev σ R _ _ _ q _ fun O1 F1 H1 il1 sf pf R1 v hv => ?_
    split at hm
    · split at hm
      · rename_i n kvs hS
        cases hm
        obtain ⟨a, rfl, h2⟩ := hv
        obtain ⟨o, ks, g1, g2⟩ := R1.cl _ a _ h2 hS
        exact ⟨a, o, ks, rfl, R1.fh _ _ g1, k O1 F1 H1 il1 sf pf R1 _ (jok_items g1 g2)⟩
      · cases hm
    · cases hm
end
/-- locked here, or locked already -/
def sLk (e : EM) (m : SM) : SM := fun ev S => match e ev S with
  | some (.ok (.r n), _, _) => match S[n]? with
    | some (.frd _) => m ev S
    | _ => sLock e m ev S
  | _ => sLock e m ev S
def lLk (e : EM) (m : Mm (List D)) : Mm (List D) := fun ev S => match e ev S with
  | some (.ok (.r n), _, _) => match S[n]? with
    | some (.frd _) => m ev S
    | _ => lLock e m ev S
  | _ => lLock e m ev S
section
variable {X : Cx} {γ : Nat → Addr} {W : WX} {k : Nat} {a : Expr} {ma : EM} {tg : Expr} {apos cpos pos : Pos}
theorem mi_keys (he : ME X γ W a ma) : MI X γ W tg a (mIterK ma) := by
  obtain ⟨t, a1, a2⟩ := he
  exact ⟨_, pi_keys a1, si_keys a2⟩
theorem mi_vals (he : ME X γ W a ma) (hbase : attributeBase a "values" X.env (eval a X.env) = eval a X.env := by rfl) (hline : (apos.endLine == cpos.line) = true := by rfl) : MI X γ W tg (.Call (.Attribute a "values" apos) [] [] cpos) (mIterV ma) := by
  obtain ⟨t, a1, a2⟩ := he
  exact ⟨_, pi_values a1 hbase hline, si_vals a2⟩
theorem mi_items {elts : List Expr} {kk : Nat} {tpos : Pos} (he : ME X γ W a ma) (hbase : attributeBase a "items" X.env (eval a X.env) = eval a X.env := by rfl) (hline : (apos.endLine == cpos.line) = true := by rfl) : MI X γ W (.Tuple elts kk tpos) (.Call (.Attribute a "items" apos) [] [] cpos) (mIterP ma) := by
  obtain ⟨t, a1, a2⟩ := he
  exact ⟨_, pi_items a1 hbase hline, si_items a2⟩
theorem ms_lk {s : Stmt} {m : SM} (e : EM) (h : MS X γ W s m) : MS X γ W s (sLk e m) := by
  obtain ⟨t, a1, a2⟩ := h
  refine ms_two (m1 := sLock e m) (m2 := m) ⟨_, ps_lock a1, ss_lock e a2⟩ ⟨t, a1, a2⟩ fun ev S => ?_
  unfold sLk
  split
  · split
    · exact .inr rfl
    · exact .inl rfl
  · exact .inl rfl
theorem sl_two {K : PySem.W.Frag} {t t' : TE} {m1 m2 m : Mm (List D)} (h : SL K γ W t m1) (h' : SL K γ W t' m2) (hm : ∀ ev S, m ev S = m1 ev S ∨ m ev S = m2 ev S) : SL K γ W (fun σ H Q => t σ H Q ∨ t' σ H Q) m := by
  intro P O F H il S ev σ R r ev' S' he Q k
  rcases hm ev S with q | q
  · exact .inl (h P O F H il S ev σ R r ev' S' (by rw [← q]; exact he) Q k)
  · exact .inr (h' P O F H il S ev σ R r ev' S' (by rw [← q]; exact he) Q k)
theorem ml_lk {m : Mm (List D)} (e : EM) (h : ML X γ W a m) : ML X γ W a (lLk e m) := by
  obtain ⟨t, a1, a2⟩ := h
  refine ⟨_, pe_two (pe_lock a1) a1, sl_two (sl_lock e a2) a2 fun ev S => ?_⟩
  unfold lLk
  split
  · split
    · exact .inr rfl
    · exact .inl rfl
  · exact .inl rfl
end
/-! ### equations -/
section
variable {ev : Nv} {S : So} {a : EM}
def iterKR (x : D) (ev : Nv) (S : So) : Om Itr := match x with
  | .r n => match S[n]? with
    | some (.frd kvs) => some (.ok ⟨kvs.map fun kv => .one (.t (keyD kv.1)), fun _ => True⟩, ev, S)
    | _ => none
  | _ => none
def iterVR (x : D) (ev : Nv) (S : So) : Om Itr := match x with
  | .r n => match S[n]? with
    | some (.frd kvs) => some (.ok ⟨kvs.map fun kv => .one kv.2, fun _ => True⟩, ev, S)
    | _ => none
  | _ => none
def iterPR (x : D) (ev : Nv) (S : So) : Om Itr := match x with
  | .r n => match S[n]? with
    | some (.frd kvs) => some (.ok ⟨kvs.map fun kv => .tup [.t (keyD kv.1), kv.2], fun _ => True⟩, ev, S)
    | _ => none
  | _ => none
theorem q_iterK : mIterK a ev S = bK (a ev S) iterKR := nr rfl
theorem q_iterV : mIterV a ev S = bK (a ev S) iterVR := nr rfl
theorem q_iterP : mIterP a ev S = bK (a ev S) iterPR := nr rfl
theorem q_iterKR {n : Nat} {kvs : List (Key × D)} (h : S[n]? = some (.frd kvs)) : iterKR (.r n) ev S = some (.ok ⟨kvs.map fun kv => .one (.t (keyD kv.1)), fun _ => True⟩, ev, S) := by unfold iterKR; dsimp only; rw [h]
theorem q_iterVR {n : Nat} {kvs : List (Key × D)} (h : S[n]? = some (.frd kvs)) : iterVR (.r n) ev S = some (.ok ⟨kvs.map fun kv => .one kv.2, fun _ => True⟩, ev, S) := by unfold iterVR; dsimp only; rw [h]
theorem q_iterPR {n : Nat} {kvs : List (Key × D)} (h : S[n]? = some (.frd kvs)) : iterPR (.r n) ev S = some (.ok ⟨kvs.map fun kv => .tup [.t (keyD kv.1), kv.2], fun _ => True⟩, ev, S) := by unfold iterPR; dsimp only; rw [h]
/-- a statement over a dict that is walked -/
theorem wp_lk {m : SM} {Q : Fl → Nv → So → Prop} {n : Nat} {kvs : List (Key × D)} {e1 : Nv} {s1 : So} (he : a ev S = some (.ok (.r n), e1, s1)) (hS : S[n]? = some (.dic kvs)) (h : Wp (m ev (S.set n (.frd kvs))) fun f e s => match f with
    | .ex x => Q (.ex x) e s
    | f => s[n]? = some (.frd kvs) ∧ Q f e (s.set n (.dic kvs))) : Wp (sLk a m ev S) Q := by
  obtain ⟨f, e, s, h1, h2⟩ := h
  have hg : sLk a m ev S = unlk n (some (f, e, s)) := by
    unfold sLk sLock
    rw [he]; dsimp only; rw [hS]; dsimp only; rw [h1]
  rw [hg]
  unfold unlk
  cases f with
  | ex x => exact ⟨_, _, _, rfl, h2⟩
  | nx => dsimp only; rw [h2.1]; exact ⟨_, _, _, rfl, h2.2⟩
  | bk => dsimp only; rw [h2.1]; exact ⟨_, _, _, rfl, h2.2⟩
  | ct => dsimp only; rw [h2.1]; exact ⟨_, _, _, rfl, h2.2⟩
  | rt d => dsimp only; rw [h2.1]; exact ⟨_, _, _, rfl, h2.2⟩
theorem wp_lkL {m : Mm (List D)} {Q : Rs (List D) → Nv → So → Prop} {n : Nat} {kvs : List (Key × D)} {e1 : Nv} {s1 : So} (he : a ev S = some (.ok (.r n), e1, s1)) (hS : S[n]? = some (.dic kvs)) (h : Wp (m ev (S.set n (.frd kvs))) fun f e s => match f with
    | .ex x => Q (.ex x) e s
    | .ok r => s[n]? = some (.frd kvs) ∧ Q (.ok r) e (s.set n (.dic kvs))) : Wp (lLk a m ev S) Q := by
  obtain ⟨f, e, s, h1, h2⟩ := h
  have hg : lLk a m ev S = unlkL n (some (f, e, s)) := by
    unfold lLk lLock
    rw [he]; dsimp only; rw [hS]; dsimp only; rw [h1]
  rw [hg]
  unfold unlkL
  cases f with
  | ex x => exact ⟨_, _, _, rfl, h2⟩
  | ok r => dsimp only; rw [h2.1]; exact ⟨_, _, _, rfl, h2.2⟩
end
end Cl

namespace Cl
open PySem L2
section
variable {K : PySem.W.Frag} {γ : Nat → Addr} {W : WX}
/-! ## d.pop(k) -/
def popR (x y : D) (ev : Nv) (S : So) : Om D := match ownD ev S x, keyOf y with
  | some kvs, some k => match valD kvs k, putDc x (dropD kvs k) ev S with
    | some d, some (ev', S') => some (.ok d, ev', S')
    | _, _ => none
  | _, _ => none
def mDPop (a b : EM) : EM := fun ev S => bnd (a ev S) fun x ev S => match ownD ev S x with
  | none => none
  | some _ => bnd (b ev S) fun y ev S => popR x y ev S
theorem se_dpop {ta tb : TE} {ma mb : EM} (ha : SE K γ W ta ma) (hb : SE K γ W tb mb) : SE K γ W (tDPop1 ta tb) (mDPop ma mb) := by
  intro P O F H il S ev σ R r ev' S' hm Q k
  rcases bnd_eq hm with ⟨x, q, rfl⟩ | ⟨dx, e1, s1, q, hm⟩
  · exact ha P O F H il S ev σ R _ _ _ q _ fun O1 F1 H1 il1 sf pf R1 => k O1 F1 H1 il1 sf pf R1
  · refine ha P O F H il S ev σ R _ _ _ q _ fun O1 F1 H1 il1 sf pf R1 x hx => ?_
    split at hm
    · cases hm
    · rename_i kvs0 hv0
      obtain ⟨a, ks0, rfl, h3, h4, _⟩ := ownD_ok R1 hx hv0
      refine ⟨a, rfl, isD_of (Rd.of h3), ?_⟩
      rcases bnd_eq hm with ⟨z, q', rfl⟩ | ⟨dy, e2, s2, q', hm⟩
      · exact hb P O1 F1 H1 il1 s1 e1 σ R1 _ _ _ q' _ fun O2 F2 H2 il2 sf2 pf2 R2 => k O2 F2 H2 il2 (sf.trans sf2) (pf.trans pf2) R2
      · refine hb P O1 F1 H1 il1 s1 e1 σ R1 _ _ _ q' _ fun O2 F2 H2 il2 sf2 pf2 R2 y hy => ?_
        unfold popR at hm
        split at hm
        · rename_i kvs ky g1 g2
          split at hm
          · rename_i d ev5 S5 g3 g4
            cases hm
            obtain ⟨a', ks, e, g5, g6, g7⟩ := ownD_ok R2 (DR.mono sf2 pf2 hx) g1
            cases e
            obtain ⟨O', R'⟩ := g7 _ _ _ _ (g6.drop ky) g4
            rcases g6.val ky with ⟨_, z⟩ | ⟨v, d', z1, z2, z3⟩
            · rw [z] at g3; cases g3
            · rw [z2] at g3; cases g3
              exact ⟨ks, ky, v, g5, keyOf_ok hy g2, z1, k O' F2 _ il2 (sf.trans sf2) (pf.trans pf2) R' v (DR.up z3)⟩
          · cases hm
        · cases hm
/-! ## d.setdefault(k, e) -/
def setdR (x y z : D) (ev : Nv) (S : So) : Om D := match ownD ev S x, keyOf y with
  | some kvs, some k => if kvs.length < sizeLine then match valD kvs k with
      | some d => some (.ok d, ev, S)
      | none => match putDc x (putD kvs k z) ev S with
        | some (ev', S') => some (.ok z, ev', S')
        | none => none
    else none
  | _, _ => none
def mSetd (a b c : EM) : EM := fun ev S => bnd (a ev S) fun x ev S => match ownD ev S x with
  | none => none
  | some _ => bnd (b ev S) fun y ev S => bnd (c ev S) fun z ev S => bnd (esc z ev S) fun z ev S => setdR x y z ev S
theorem se_setd {ta tb tc : TE} {ma mb mc : EM} (ha : SE K γ W ta ma) (hb : SE K γ W tb mb) (hc : SE K γ W tc mc) : SE K γ W (tDSetd ta tb tc) (mSetd ma mb mc) := by
  intro P O F H il S ev σ R r ev' S' hm Q k
  rcases bnd_eq hm with ⟨x, q, rfl⟩ | ⟨dx, e1, s1, q, hm⟩
  · exact ha P O F H il S ev σ R _ _ _ q _ fun O1 F1 H1 il1 sf pf R1 => k O1 F1 H1 il1 sf pf R1
  · refine ha P O F H il S ev σ R _ _ _ q _ fun O1 F1 H1 il1 sf pf R1 x hx => ?_
    split at hm
    · cases hm
    · rename_i kvs0 hv0
      obtain ⟨a, ks0, rfl, h3, h4, _⟩ := ownD_ok R1 hx hv0
      refine ⟨a, rfl, isD_of (Rd.of h3), ?_⟩
      rcases bnd_eq hm with ⟨z, q', rfl⟩ | ⟨dy, e2, s2, q', hm⟩
      · exact hb P O1 F1 H1 il1 s1 e1 σ R1 _ _ _ q' _ fun O2 F2 H2 il2 sf2 pf2 R2 => k O2 F2 H2 il2 (sf.trans sf2) (pf.trans pf2) R2
      · refine hb P O1 F1 H1 il1 s1 e1 σ R1 _ _ _ q' _ fun O2 F2 H2 il2 sf2 pf2 R2 y hy => ?_
        rcases bnd_eq hm with ⟨z, q'', rfl⟩ | ⟨dz, e3, s3, q'', hm⟩
        · exact hc P O2 F2 H2 il2 s2 e2 σ R2 _ _ _ q'' _ fun O3 F3 H3 il3 sf3 pf3 R3 => k O3 F3 H3 il3 ((sf.trans sf2).trans sf3) ((pf.trans pf2).trans pf3) R3
        · refine hc P O2 F2 H2 il2 s2 e2 σ R2 _ _ _ q'' _ fun O3 F3 H3 il3 sf3 pf3 R3 z hz => ?_
          rcases bnd_eq hm with ⟨w, q4, rfl⟩ | ⟨dw, e4, s4, q4, hm⟩
          · obtain ⟨_, _, _, _, z, _⟩ := esc_ok R3 hz q4
            cases z
          · obtain ⟨dw', O4, F4, il4, e, sf4, pf4, R4, hw⟩ := esc_ok R3 hz q4
            cases e
            unfold setdR at hm
            split at hm
            · rename_i kvs ky g1 g2
              split at hm
              · rename_i hlt
                obtain ⟨a', ks, e, g5, g6, g7⟩ := ownD_ok R4 (DR.mono ((sf2.trans sf3).trans sf4) ((pf2.trans pf3).trans pf4) hx) g1
                cases e
                have sA := ((sf.trans sf2).trans sf3).trans sf4
                have pA := ((pf.trans pf2).trans pf3).trans pf4
                refine ⟨ks, ky, g5, keyOf_ok hy g2, by rw [PySem.Paired.length g6]; exact hlt, fun v hv => ?_, fun hv => ?_⟩
                · rcases g6.val ky with ⟨z', _⟩ | ⟨v', d', z1, z2, z3⟩
                  · rw [z'] at hv; cases hv
                  · rw [z1] at hv; cases hv
                    rw [z2] at hm
                    cases hm
                    exact k O4 F4 H3 il4 sA pA R4 v (DR.up z3)
                · rcases g6.val ky with ⟨_, z'⟩ | ⟨v', d', z1, z2, z3⟩
                  · rw [z'] at hm
                    dsimp only at hm
                    split at hm
                    · rename_i ev5 S5 g8
                      cases hm
                      obtain ⟨O', R'⟩ := g7 _ _ _ _ (g6.put ky hw) g8
                      exact k O' F4 _ il4 sA pA R' z (DR.up hw)
                    · cases hm
                  · rw [z1] at hv; cases hv
              · cases hm
            · cases hm
/-! ## x op= e -/
def augR (i : Nat) (f : Int → Int → Int) (y : D) (ev : Nv) (S : So) : Os := match ev[i]?, y with
  | some (some (.d (.t (.int a)))), .t (.int b) => some (.nx, ev.set i (some (.d (.t (.int (f a b))))), S)
  | _, _ => none
def sAug (i : Nat) (f : Int → Int → Int) (e : EM) : SM := fun ev S => match ev[i]? with
  | some (some (.d (.t (.int a)))) => bndS (e ev S) fun y ev S => match y with
    | .t (.int b) => some (.nx, ev.set i (some (.d (.t (.int (f a b))))), S)
    | _ => none
  | _ => none
theorem ss_aug {i : Nat} {f : Int → Int → Int} {te : TE} {me : EM} (h : SE K γ W te me) : SS K γ W (tAug i te (ipI f)) (sAug i f me) := by
  intro P O F H il S ev σ R fl ev' S' hm E k
  unfold sAug at hm
  split at hm
  · rename_i a hi
    obtain ⟨v, h1, h2⟩ := R.en i _ hi
    have hv : v = .int a := by cases h2; rfl
    subst hv
    refine ⟨_, h1, ?_⟩
    rcases bndS_eq hm with ⟨x, q, rfl⟩ | ⟨dy, e1, s1, q, hm⟩
    · exact h P O F H il S ev σ R _ _ _ q _ fun O1 F1 H1 il1 sf pf R1 => k O1 F1 H1 il1 σ sf pf R1
    · refine h P O F H il S ev σ R _ _ _ q _ fun O1 F1 H1 il1 sf pf R1 y hy => ?_
      split at hm
      · rename_i b
        cases hm
        rw [DR.int hy]
        exact ⟨a, b, rfl, rfl, k O1 F1 H1 il1 _ sf pf (R1.setD (x := .t (.int (f a b))) (TR.int _))⟩
      · cases hm
  · cases hm
/-- d[k] op= e -/
def augDR (f : Int → Int → Int) (x y : D) (k : Key) (a : Int) (z : D) (ev : Nv) (S : So) : Os := match z, ownD ev S x with
  | .t (.int b), some kvs => if kvs.length < sizeLine then match putDc x (putD kvs k (.t (.int (f a b)))) ev S with
      | some (ev', S') => some (.nx, ev', S')
      | none => none
    else none
  | _, _ => none
def sAugD (f : Int → Int → Int) (o i e : EM) : SM := fun ev S => bndS (o ev S) fun x ev S => bndS (i ev S) fun y ev S => match viewD ev S x, keyOf y with
  | some kvs, some k => match valD kvs k with
    | some (.t (.int a)) => bndS (e ev S) fun z ev S => augDR f x y k a z ev S
    | _ => none
  | _, _ => none
theorem ss_augD {f : Int → Int → Int} {to ti te : TE} {mo mi me : EM} (ho : SE K γ W to mo) (hi : SE K γ W ti mi) (he : SE K γ W te me) : SS K γ W (sDAug to ti te (ipI f)) (sAugD f mo mi me) := by
  intro P O F H il S ev σ R fl ev' S' hm E k
  rcases bndS_eq hm with ⟨x, q, rfl⟩ | ⟨dx, e1, s1, q, hm⟩
  · exact ho P O F H il S ev σ R _ _ _ q _ fun O1 F1 H1 il1 sf pf R1 => k O1 F1 H1 il1 σ sf pf R1
  · refine ho P O F H il S ev σ R _ _ _ q _ fun O1 F1 H1 il1 sf pf R1 x hx => ?_
    rcases bndS_eq hm with ⟨z, q', rfl⟩ | ⟨dy, e2, s2, q', hm⟩
    · exact hi P O1 F1 H1 il1 s1 e1 σ R1 _ _ _ q' _ fun O2 F2 H2 il2 sf2 pf2 R2 => k O2 F2 H2 il2 σ (sf.trans sf2) (pf.trans pf2) R2
    · refine hi P O1 F1 H1 il1 s1 e1 σ R1 _ _ _ q' _ fun O2 F2 H2 il2 sf2 pf2 R2 y hy => ?_
      split at hm
      · rename_i kvs ky g1 g2
        split at hm
        · rename_i a g3
          obtain ⟨ad, ks, rfl, g5, g6⟩ := viewD_ok R2 (DR.mono sf2 pf2 hx) g1
          rw [keyOf_ok hy g2]
          rcases g6.val ky with ⟨_, z⟩ | ⟨v, d', z1, z2, z3⟩
          · rw [z] at g3; cases g3
          rw [z2] at g3; cases g3
          have hv := DR.int z3
          subst hv
          refine ⟨ad, .int a, rfl, by rw [← z1]; exact DGet.kr g5, ?_⟩
          rcases bndS_eq hm with ⟨z, q3, rfl⟩ | ⟨dz, e3, s3, q3, hm⟩
          · exact he P O2 F2 H2 il2 s2 e2 σ R2 _ _ _ q3 _ fun O3 F3 H3 il3 sf3 pf3 R3 => k O3 F3 H3 il3 σ ((sf.trans sf2).trans sf3) ((pf.trans pf2).trans pf3) R3
          · refine he P O2 F2 H2 il2 s2 e2 σ R2 _ _ _ q3 _ fun O3 F3 H3 il3 sf3 pf3 R3 z hz => ?_
            unfold augDR at hm
            split at hm
            · rename_i b kvs2 g7
              split at hm
              · rename_i hlt
                split at hm
                · rename_i ev5 S5 g8
                  cases hm
                  obtain ⟨a', ks2, e, w1, w2, w3⟩ := ownD_ok R3 (DR.mono (sf2.trans sf3) (pf2.trans pf3) hx) g7
                  cases e
                  rw [DR.int hz]
                  obtain ⟨O', R'⟩ := w3 _ _ _ _ (w2.put ky (d := .t (.int (f a b))) (v := .int (f a b)) (TR.int _)) g8
                  exact ⟨a, b, rfl, rfl, _, DPut.k w1 (by rw [PySem.Paired.length w2]; exact hlt), k O' F3 _ il3 σ ((sf.trans sf2).trans sf3) ((pf.trans pf2).trans pf3) R'⟩
                · cases hm
              · cases hm
            · cases hm
        · cases hm
      · cases hm
/-- o.f op= e -/
def augFR (g : Int → Int → Int) (cs : List Nat) (f : Str) (x : D) (a : Int) (z : D) (ev : Nv) (S : So) : Os := match z, objAt S x with
  | .t (.int b), some (n, c, fs) => if c ∈ cs ∧ fs.length < 1000 then some (.nx, ev, S.set n (.obj c (putFD f (.t (.int (g a b))) fs))) else none
  | _, _ => none
def sAugF (g : Int → Int → Int) (cs : List Nat) (f : Str) (o e : EM) : SM := fun ev S => bndS (o ev S) fun x ev S => match dFld cs f ev S x with
  | some (.t (.int a)) => bndS (e ev S) fun z ev S => augFR g cs f x a z ev S
  | _ => none
/-! ## l.index(x) -/
def ixFirst (x : PyData) : List PyData → Nat → Option Nat
  | [], _ => none
  | y :: r, n => if PyData.eqv y x = true then some n else ixFirst x r (n + 1)
theorem ixFirst_ok {x : PyData} : ∀ {l : List PyData} {n j : Nat}, ixFirst x l n = some j → ∃ i z, j = n + i ∧ l[i]? = some z ∧ PyData.eqv z x = true ∧ ∀ m z', m < i → l[m]? = some z' → PyData.eqv z' x = false
  | [], n, j, h => by cases h
  | y :: r, n, j, h => by
    unfold ixFirst at h
    split at h
    · rename_i hy
      cases h
      exact ⟨0, y, rfl, rfl, hy, fun m z' hm => absurd hm (Nat.not_lt_zero m)⟩
    · rename_i hy
      obtain ⟨i, z, e, h1, h2, h3⟩ := ixFirst_ok h
      refine ⟨i + 1, z, by omega, by simpa using h1, h2, fun m z' hm hz => ?_⟩
      cases m with
      | zero => simp at hz; subst hz; simpa using hy
      | succ m => exact h3 m z' (by omega) (by simpa using hz)
def fIndex : Mf := fun ev S x ys => match ys with
  | [y] => (dataOf ev S x).bind fun d => match d with
    | .list ds => (dataOf ev S y).bind fun e => if SeqAt.shaped (.list ds) = true ∧ SeqAt.shaped e = true then (ixFirst e ds 0).map fun (j : Nat) => D.t (.int (j : Int)) else none
    | _ => none
  | _ => none
theorem rv_index : RVm K γ (rIndexD K) fIndex := by
  intro P O F H il S ev σ x xs dx dxs d R hx hxs h Q k
  unfold fIndex at h
  split at h
  · rename_i y
    obtain ⟨p, h1, h⟩ := Option.bind_eq_some_iff.mp h
    split at h
    · rename_i ds
      obtain ⟨e, h2, h⟩ := Option.bind_eq_some_iff.mp h
      split at h
      · rename_i hs
        obtain ⟨j, h3, rfl⟩ := Option.map_eq_some_iff.mp h
        obtain ⟨i, z, rfl, q1, q2, q3⟩ := ixFirst_ok h3
        cases hxs with
        | cons a b =>
          cases b
          have d1 := dataOf_ok R hx h1 (.inl (SeqAt.canLay_of_shaped hs.1))
          have d2 := dataOf_ok R a h2 (.inl (SeqAt.canLay_of_shaped hs.2))
          have d1' := d1
          cases d1 with
          | lst w1 w2 =>
            refine ⟨_, _, e, ds, i, z, rfl, rfl, d1', d2, hs.1, hs.2, q1, q2, q3, ?_⟩
            have := k (.int ((i : Nat) : Int)) F H (Same.refl F) R (by rw [Nat.zero_add]; exact TR.int _)
            exact this
      · cases h
    · cases h
  · cases h
end
section
variable {X : Cx} {γ : Nat → Addr} {W : WX} {k : Nat} {o a b e : Expr} {mo ma mb me : EM} {pos apos tpos : Pos}
theorem me_dpop {apos : Pos} (ha : ME X γ W a ma) (hb : ME X γ W b mb) (m : M1 X a "pop" apos b pos := by exact ⟨rfl, rfl, rfl, rfl⟩) : ME X γ W (.Call (.Attribute a "pop" apos) [b] [] pos) (mDPop ma mb) := by
  obtain ⟨t, a1, a2⟩ := ha; obtain ⟨u, b1, b2⟩ := hb
  exact ⟨_, pe_dpop1 a1 b1 m, se_dpop a2 b2⟩
theorem me_setd {apos : Pos} (ha : ME X γ W a ma) (hb : ME X γ W b mb) (he : ME X γ W e me) (m : M2 X a "setdefault" apos b e pos := by exact ⟨rfl, rfl, rfl, rfl⟩) : ME X γ W (.Call (.Attribute a "setdefault" apos) [b, e] [] pos) (mSetd ma mb me) := by
  obtain ⟨t, a1, a2⟩ := ha; obtain ⟨u, b1, b2⟩ := hb; obtain ⟨w, e1, e2⟩ := he
  exact ⟨_, pe_dsetd a1 b1 e1 m, se_setd a2 b2 e2⟩
theorem in_addI : InOp X .Add (ipI fun i j => i + j) := ip_add
theorem in_subI : InOp X .Sub (ipI fun i j => i - j) := ip_sub
theorem ms_aug {i : Nat} {x : Str} {op : Operator} {f : Int → Int → Int} {pos' : Pos} (hop : PIp X op (ipI f)) (he : ME X γ W e me) (hN : X.N.Nodup) (hi : X.N[i]? = some x := by rfl) (hx : Loc X.env.scope x := by first | exact Or.inl rfl | exact Or.inr rfl)
    (hf : X.fn x = true ∨ X.env.scope.names.lookup x = some .local := by first | exact .inl rfl | exact .inr rfl) : MS X γ W (.AugAssign (.Name x pos') op e pos) (sAug i f me) := by
  obtain ⟨t, e1, e2⟩ := he
  exact ⟨_, ps_aug hN hi hx e1 hop hf, ss_aug e2⟩
theorem ms_augD {op : Operator} {f : Int → Int → Int} (c : CxK X W k) (hop : InOp X op (ipI f)) (ho : ME X γ W o mo) (hi : ME X γ W a ma) (he : ME X γ W e me)
    (hs : ∀ ov iv new, augStore a ov iv new = (do holding [new, ov, iv] (setItem ov iv new); release [new, ov, iv] []; pure .next) := by intros; rfl) : MS X γ W (.AugAssign (.Subscript o a tpos) op e pos) (sAugD f mo ma me) := by
  obtain ⟨t, o1, o2⟩ := ho; obtain ⟨u, a1, a2⟩ := hi; obtain ⟨w, e1, e2⟩ := he
  exact ⟨_, ps_daug (by have := c.hr.un; omega) o1 a1 e1 hop hs, ss_augD o2 a2 e2⟩
end
/-! ### equations -/
section
variable {ev : Nv} {S : So} {a b c : EM} {x y z : D}
def dpopB (b : EM) (x : D) (ev : Nv) (S : So) : Om D := match ownD ev S x with
  | none => none
  | some _ => bnd (b ev S) fun y ev S => popR x y ev S
theorem q_dpop : mDPop a b ev S = bK (a ev S) (dpopB b) := nr rfl
theorem q_dpopB {kvs : List (Key × D)} (h : ownD ev S x = some kvs) : dpopB b x ev S = bK (b ev S) (popR x) := by unfold dpopB; rw [h]; rfl
theorem q_popR {kvs : List (Key × D)} {k : Key} {d : D} {e' : Nv} {s' : So} (h : ownD ev S x = some kvs) (hk : keyOf y = some k) (hv : valD kvs k = some d) (hp : putDc x (dropD kvs k) ev S = some (e', s')) : popR x y ev S = some (.ok d, e', s') := by
  unfold popR; rw [h, hk]; dsimp only; rw [hv, hp]
def setdB (b c : EM) (x : D) (ev : Nv) (S : So) : Om D := match ownD ev S x with
  | none => none
  | some _ => bnd (b ev S) fun y ev S => bnd (c ev S) fun z ev S => bnd (esc z ev S) fun z ev S => setdR x y z ev S
theorem q_setd : mSetd a b c ev S = bK (a ev S) (setdB b c) := nr rfl
theorem q_setdB {kvs : List (Key × D)} (h : ownD ev S x = some kvs) : setdB b c x ev S = bK (b ev S) fun y ev S => bK (c ev S) fun z ev S => bK (esc z ev S) fun z ev S => setdR x y z ev S := by unfold setdB; rw [h]; rfl
theorem q_setdR {kvs : List (Key × D)} {k : Key} (h : ownD ev S x = some kvs) (hk : keyOf y = some k) (hl : kvs.length < sizeLine) : setdR x y z ev S = match valD kvs k with
      | some d => some (.ok d, ev, S)
      | none => match putDc x (putD kvs k z) ev S with
        | some (ev', S') => some (.ok z, ev', S')
        | none => none := by
  unfold setdR; rw [h, hk]; dsimp only; rw [if_pos hl]
theorem q_aug (i : Nat) (f : Int → Int → Int) {n : Int} (h : ev[i]? = some (some (.d (.t (.int n))))) : sAug i f a ev S = bS (a ev S) fun y ev S => match y with
    | .t (.int b) => some (.nx, ev.set i (some (.d (.t (.int (f n b))))), S)
    | _ => none := by unfold sAug; rw [h]; rfl
def augDB (f : Int → Int → Int) (e : EM) (x y : D) (ev : Nv) (S : So) : Os := match viewD ev S x, keyOf y with
  | some kvs, some k => match valD kvs k with
    | some (.t (.int a)) => bndS (e ev S) fun z ev S => augDR f x y k a z ev S
    | _ => none
  | _, _ => none
theorem q_augD (f : Int → Int → Int) : sAugD f a b c ev S = bS (a ev S) fun x ev S => bS (b ev S) fun y ev S => augDB f c x y ev S := nr rfl
theorem q_augDB (f : Int → Int → Int) {kvs : List (Key × D)} {k : Key} {n : Int} (h : viewD ev S x = some kvs) (hk : keyOf y = some k) (hv : valD kvs k = some (.t (.int n))) : augDB f c x y ev S = bS (c ev S) fun z ev S => augDR f x y k n z ev S := by
  unfold augDB; rw [h, hk]; dsimp only; rw [hv]; rfl
theorem q_augDR (f : Int → Int → Int) {kvs : List (Key × D)} {k : Key} {n m : Int} {e' : Nv} {s' : So} (h : ownD ev S x = some kvs) (hl : kvs.length < sizeLine) (hp : putDc x (putD kvs k (.t (.int (f n m)))) ev S = some (e', s')) : augDR f x y k n (.t (.int m)) ev S = some (.nx, e', s') := by
  unfold augDR; rw [h]; dsimp only; rw [if_pos hl, hp]
end
end Cl

namespace Cl
open PySem L2 PySem.Spec PyProof.Rows
/-! ## repr of data -/
/-- what may be shown -/
def showOk (d : PyData) : Prop := d.showable = true ∧ d.depth ≤ 64 ∧ d.shown.length ≤ sizeLine
def rRepr (K : PySem.W.Frag) : List V → Hp → VK → Prop := fun xs H Q => ∃ (a : Addr) (d : PyData), xs = [.ref a] ∧ Dp K H (.ref a) d ∧ d.hasDict = false ∧ showOk d ∧ Q (.str d.shown) H
def rReprK (K : PySem.W.Frag) : List V → Hp → VK → Prop := fun xs H Q => ∃ (a : Addr) (ks : List (Key × V)) (ts : List (PyData × PyData)), xs = [.ref a] ∧ Rd H a (.dK ks) ∧ ks.map (fun kv => keyD kv.1) = ts.map (·.1) ∧ DpAll K H (ks.map (·.2)) (ts.map (·.2)) ∧ PyData.hasDictAll (ts.map (·.2)) = false ∧ showOk (.dict ts) ∧ Q (.str (PyData.shown (.dict ts))) H
section
variable {X : Cx}
theorem cr_repr (gd : X.A.guards = some []) (hu : X.A.units + 66 < cLine) : CallR X (.builtin "repr") (rRepr X.K) := by
  intro pins s σ H xs us Q I rv h
  obtain ⟨a, d, rfl, hd, hn, ⟨h1, h2, h3⟩, q⟩ := h
  obtain ⟨u, rfl, ru⟩ := vals1 rv
  cases ru
  obtain ⟨as, r⟩ := Dp.reads I d _ _ hd rfl
  exact repr_of_reads' r h1 (PyData.noDict_hsm hn) gd (by omega) (fun _ _ e => e) (fun h' u tk hk => ⟨.str d.shown, H, I.kept hk, ⟨u, rfl⟩, q⟩) h3
theorem keys_reads {h : Heap} {P : Program} {w : World} : ∀ {es : List DictEntry} {vs : List (Key × Value)}, Pairs (mixKind P w) es vs → ReadsAll h (es.map (·.key)) (vs.map fun kv => keyD kv.1) []
  | _, _, .nil => .nil
  | _, _, .cons (e := e) (kv := kv) h1 h2 h3 => by
    have hr : Reads h e.key (keyD kv.1) [] := by
      rcases keyIs_shape h1 with ⟨i, t, z1, z2⟩ | ⟨x, t, z1, z2⟩
      · rw [z1, z2]; exact .int i t
      · rw [z1, z2]; exact .str x t
    exact ReadsAll.cons (as := []) (bs := []) hr (keys_reads h3)
theorem vals_map {P : Program} {w : World} : ∀ {es : List DictEntry} {vs : List (Key × Value)}, Pairs (mixKind P w) es vs → es.map (·.val) = vs.map (·.2)
  | _, _, .nil => rfl
  | _, _, .cons h1 h2 h3 => by rw [List.map_cons, List.map_cons, h2, vals_map h3]
theorem kv_vals : ∀ {ks : List (Key × V)} {vs : List (Key × Value)}, KV ks vs → Vals (ks.map (·.2)) (vs.map (·.2)) ∧ ks.map (fun kv => keyD kv.1) = vs.map (fun kv => keyD kv.1)
  | _, _, .nil => ⟨.nil, rfl⟩
  | _, _, .cons h1 h2 => by
    obtain ⟨q1, q2⟩ := kv_vals h2
    exact ⟨.cons h1.2 q1, by rw [List.map_cons, List.map_cons, q2, h1.1]⟩
theorem noDictK (ks : List Key) : PyData.hasDictAll (ks.map keyD) = false := by
  induction ks with
  | nil => simp [PyData.hasDictAll]
  | cons k r ih =>
    rw [List.map_cons, PyData.hasDictAll, ih]
    cases k <;> simp [keyD, PyData.hasDict]
theorem cr_reprK (gd : X.A.guards = some []) (hu : X.A.units + 66 < cLine) : CallR X (.builtin "repr") (rReprK X.K) := by
  intro pins s σ H xs us Q I rv h
  obtain ⟨a, ks, ts, rfl, hd, hkeys, hvals, hn, ⟨h1, h2, h3⟩, q⟩ := h
  obtain ⟨u, rfl, ru⟩ := vals1 rv
  cases ru
  obtain ⟨_, hsys, vs, hkv, o, es, ep, ho, hx, hdat, _, hp, _⟩ := dk_rd I.hok hd
  obtain ⟨v1, v2⟩ := kv_vals hkv
  obtain ⟨bs, r2⟩ := Dp.readsAll I (ts.map (·.2)) _ _ hvals v1
  have r1 := keys_reads (h := s.heap) hp
  rw [← v2, hkeys] at r1
  rw [← vals_map hp] at r2
  obtain ⟨s1, s2⟩ := PyData.showableKv_split ts (by simpa [PyData.showable] using h1)
  have hz : (dictText (PyData.shownKv ts)).length ≤ sizeLine := by simpa only [PyData.shown] using h3
  have nk : PyData.hasDictAll (ts.map (·.1)) = false := by
    rw [← hkeys, show (ks.map fun kv => keyD kv.1) = (ks.map (·.1)).map keyD by rw [List.map_map]; rfl]
    exact noDictK _
  obtain ⟨b1, m1, k1⟩ := ReprAllK.of_readsAll (prog := X.prog) (w := X.w) r1 s1 (fun z => by rw [nk] at z; cases z)
    (fun t ht => by
      obtain ⟨p, hp, hl⟩ := PyData.shownKv_key_le ts t ht
      exact Nat.le_trans hl (Nat.le_trans (dictText_mem_le hp) hz))
  obtain ⟨b2, m2, k2⟩ := ReprAllK.of_readsAll (prog := X.prog) (w := X.w) r2 s2 (fun z => by rw [hn] at z; cases z)
    (fun t ht => by
      obtain ⟨p, hp, hl⟩ := PyData.shownKv_val_le ts t ht
      exact Nat.le_trans hl (Nat.le_trans (dictText_mem_le hp) hz))
  have dl := PyData.depthAll_keys_le ts
  have dv := PyData.depthAll_vals_le ts
  have hb := (m1.mono dl).append (m2.mono dv)
  have hna : a ∉ b1 ++ b2 := not_mem_of_deeper (Reads.dict ho hx.1 hdat r1 r2) (by simp only [PyData.depth]; omega) hb
  have hdp : PyData.depthKv ts + 1 ≤ 64 := by simpa only [PyData.depth, Nat.add_comm] using h2
  have hE := ReprEntriesK.of_two es.toList _ _ (k1.more_le (fun b z => List.mem_append_left b2 z) dl) (k2.more_le (fun b z => List.mem_append_right b1 z) dv)
  have hfin : ∀ h' (u : Tok) (tk : Nat), (∀ b o, s.heap.get? b = some o → h'.get? b = some o) → EP X pins σ Q (.str (PyData.shown (.dict ts)) u) { s with heap := h', toks := tk } := fun h' u tk hk => ⟨.str _, H, I.kept hk, ⟨u, rfl⟩, q⟩
  refine call_repr_slot (by omega) ⟨o, ho, hx.1⟩ F.slot_dict_repr (call_dict_reprK ho hx.1 hdat hsys hna hE (g := []) gd (fun b _ => Clear.nil b) (by show X.A.units + 1 + _ < _; omega) (fun _ _ e => e) (fun h' u tk hk => ⟨_, _, rfl, ?_⟩) (by rw [← PyData.shownKv_eq]; exact hz))
  have := hfin h' u tk hk
  rw [PyData.shown, PyData.shownKv_eq] at this
  exact this
end
section
variable {K : PySem.W.Frag} {γ : Nat → Addr} {W : WX}
open Classical in
noncomputable def bRepr : Bf := fun ev S xs => match xs with
  | [x] => match viewD ev S x with
    | some kvs => match allK kvs with
      | some ts => if PyData.canLayAll0 (ts.map (·.2)) = true ∧ showOk (.dict ts) then some (.t (.str (PyData.shown (.dict ts)))) else none
      | none => none
    | none => match dataOf ev S x with
      | some (.list ds) => if (PyData.list ds).canLay0 = true ∧ showOk (.list ds) then some (.t (.str (PyData.shown (.list ds)))) else none
      | some (.tuple ds) => if (PyData.tuple ds).canLay0 = true ∧ showOk (.tuple ds) then some (.t (.str (PyData.shown (.tuple ds)))) else none
      | _ => none
  | _ => none
theorem trk_keys {F : Hp} : ∀ {ks : List (Key × V)} {ts : List (PyData × PyData)}, TRk K F ks ts → ks.map (fun kv => keyD kv.1) = ts.map (·.1) ∧ TRs K F (ks.map (·.2)) (ts.map (·.2))
  | _, _, .nil => ⟨rfl, .nil⟩
  | _, _, .cons h0 h1 h2 => by
    obtain ⟨q1, q2⟩ := trk_keys h2
    exact ⟨by rw [List.map_cons, List.map_cons, q1, h0], .cons h1 q2⟩
theorem rv_repr : RVs K γ (fun xs H Q => rReprK K xs H Q ∨ rRepr K xs H Q) bRepr := by
  intro P O F H il S ev σ xs dxs d R hx h Q k
  unfold bRepr at h
  split at h
  · rename_i x
    cases hx with
    | cons a b =>
      cases b
      split at h
      · rename_i kvs hv
        split at h
        · rename_i ts ht
          split at h
          · rename_i hc
            cases h
            obtain ⟨ad, ks, rfl, g1, g2⟩ := viewD_ok R a hv
            obtain ⟨t1, t2⟩ := trk_keys (allK_ok ht g2)
            exact .inl ⟨ad, ks, ts, rfl, g1, t1, TRs.dp R.fh _ _ t2 hc.1, PyData.hasDictAll_of_canLayAll _ hc.1, hc.2, k _ F H (Same.refl F) R (TR.str _)⟩
          · cases h
        · cases h
      · split at h
        · rename_i ds hd
          split at h
          · rename_i hc
            cases h
            have dp := dataOf_ok R a hd (.inl hc.1)
            have dp' := dp
            cases dp with
            | lst w1 w2 => exact .inr ⟨_, _, rfl, dp', PyData.hasDict_of_canLay _ hc.1, hc.2, k _ F H (Same.refl F) R (TR.str _)⟩
          · cases h
        · rename_i ds hd
          split at h
          · rename_i hc
            cases h
            have dp := dataOf_ok R a hd (.inl hc.1)
            have dp' := dp
            cases dp with
            | tup w1 w2 => exact .inr ⟨_, _, rfl, dp', PyData.hasDict_of_canLay _ hc.1, hc.2, k _ F H (Same.refl F) R (TR.str _)⟩
          · cases h
        · cases h
  · cases h
end
section
variable {X : Cx} {γ : Nat → Addr} {W : WX} {k : Nat} {a : Expr} {ms : Mm (List D)} {p pos : Pos}
theorem me_repr (c : CxK X W k) (hm : X.mg "repr" = none) (h : MA X γ W [a] ms) (hg : Gl X "repr" := by rfl) (he : starEach [a] X.env = (false, eval a X.env) :: starEach [] X.env := by rfl) (hpl : (backTo pos (starEach [] X.env)).any (·.1) = false := by rfl) :
    ME X γ W (.Call (.Name "repr" p) [a] [] pos) (mB bRepr ms) :=
  me_B (CallR.or' (cr_reprK c.gd (by have := c.hr.un; omega)) (cr_repr c.gd (by have := c.hr.un; omega))) rv_repr hm (by decide +kernel) h hg (by decide) (by decide) he hpl
end
end Cl

namespace Cl
open PySem L2
/-! ## d == {} -/
def rEqE (f : Bool → Bool) : R2 := fun x y H Q => ∃ a b ks, x = .ref a ∧ y = .ref b ∧ Rd H a (.dK ks) ∧ Rd H b (.dK []) ∧ Q (.bl (f ks.isEmpty)) H
section
variable {X : Cx}
theorem hits_none {A : Around} {s : Shared} {ks : List (Key × V)} {va vb : List (Key × Value)} (ra : KV ks va) (rb : KV [] vb) (h : va.length = vb.length) : PySem.W.KeqHits A s vb va true := by
  have e1 : vb = [] := by cases rb; rfl
  subst e1
  have e2 : va = [] := List.length_eq_zero_iff.mp h
  subst e2
  exact .nil
theorem len_none {ks : List (Key × V)} {va vb : List (Key × Value)} (ra : KV ks va) (rb : KV [] vb) : (va.length == vb.length && true) = ks.isEmpty := by
  have e1 : vb = [] := by cases rb; rfl
  subst e1
  have := PySem.Paired.length ra
  cases ks with
  | nil => cases ra; rfl
  | cons p r => cases ra; rfl
theorem op_eqE (hu : X.A.units < cLine) : OpR X (compareOp .Eq) (rEqE fun b => b) := by
  intro pins s σ H x y v u Q I rx ry h
  obtain ⟨a, b, ks, rfl, rfl, ea, eb, q⟩ := h
  cases rx; cases ry
  obtain ⟨_, ya, va, ra, da⟩ := dk_rd I.hok ea
  obtain ⟨_, yb, vb, rb, db⟩ := dk_rd I.hok eb
  refine PySem.W.keq_eq (knd := mixKind X.prog X.w) (r := true) ya yb da db hu (fun hl => hits_none ra rb hl) ?_
  rw [len_none ra rb]
  exact ⟨.bl _, H, I, rfl, q⟩
theorem op_neE (hu : X.A.units < cLine) : OpR X (compareOp .NotEq) (rEqE fun b => !b) := by
  intro pins s σ H x y v u Q I rx ry h
  obtain ⟨a, b, ks, rfl, rfl, ea, eb, q⟩ := h
  cases rx; cases ry
  obtain ⟨_, ya, va, ra, da⟩ := dk_rd I.hok ea
  obtain ⟨_, yb, vb, rb, db⟩ := dk_rd I.hok eb
  refine PySem.W.keq_ne (knd := mixKind X.prog X.w) (r := true) ya yb da db hu (fun hl => hits_none ra rb hl) ?_
  rw [len_none ra rb]
  exact ⟨.bl _, H, I, rfl, q⟩
end
def dEqE : F2 := fun ev S x y => match viewD ev S x, y with
  | some kvs, .t (.dict []) => some (.t (.bool kvs.isEmpty))
  | _, _ => none
def dNeE : F2 := fun ev S x y => match viewD ev S x, y with
  | some kvs, .t (.dict []) => some (.t (.bool (!kvs.isEmpty)))
  | _, _ => none
section
variable {K : PySem.W.Frag} {γ : Nat → Addr} {W : WX}
theorem KR.empty {F : Hp} {il : List Addr} {ks : List (Key × V)} {kvs : List (Key × D)} (h : KR K F il ks kvs) : ks.isEmpty = kvs.isEmpty := by cases h <;> rfl
theorem rv_eqE : RV2 K γ (rEqE fun b => b) dEqE := by
  intro P O F H il S ev σ x y dx dy d R hx hy h Q k
  unfold dEqE at h
  split at h
  · rename_i kvs hv
    cases h
    obtain ⟨a, ks, rfl, g1, g2⟩ := viewD_ok R hx hv
    cases hy with
    | dic w1 w2 =>
      cases w2
      refine ⟨a, _, ks, rfl, rfl, g1, Rd.of (R.fh _ _ w1), k _ F H (Same.refl F) R ?_⟩
      rw [g2.empty]; exact TR.bl _
  · cases h
theorem rv_neE : RV2 K γ (rEqE fun b => !b) dNeE := by
  intro P O F H il S ev σ x y dx dy d R hx hy h Q k
  unfold dNeE at h
  split at h
  · rename_i kvs hv
    cases h
    obtain ⟨a, ks, rfl, g1, g2⟩ := viewD_ok R hx hv
    cases hy with
    | dic w1 w2 =>
      cases w2
      refine ⟨a, _, ks, rfl, rfl, g1, Rd.of (R.fh _ _ w1), k _ F H (Same.refl F) R ?_⟩
      rw [g2.empty]; exact TR.bl _
  · cases h
end
section
variable {X : Cx} {γ : Nat → Addr} {W : WX} {k : Nat} {a b : Expr} {ma mb : EM} {pos : Pos}
theorem me_eqE (c : CxK X W k) (ha : ME X γ W a ma) (hb : ME X γ W b mb) : ME X γ W (.Compare a [.Eq] [b] pos) (mOp dEqE ma mb) := me_cmp (op_eqE (by have := c.hr.un; omega)) rv_eqE ha hb (nomark _)
theorem mt_eqE (c : CxK X W k) (ha : ME X γ W a ma) (hb : ME X γ W b mb) : MT X γ W (.Compare a [.Eq] [b] pos) (mTest (mOp dEqE ma mb)) := mt_cmp (op_eqE (by have := c.hr.un; omega)) rv_eqE ha hb (nomark _)
theorem me_neE (c : CxK X W k) (ha : ME X γ W a ma) (hb : ME X γ W b mb) : ME X γ W (.Compare a [.NotEq] [b] pos) (mOp dNeE ma mb) := me_cmp (op_neE (by have := c.hr.un; omega)) rv_neE ha hb (nomark _)
theorem mt_neE (c : CxK X W k) (ha : ME X γ W a ma) (hb : ME X γ W b mb) : MT X γ W (.Compare a [.NotEq] [b] pos) (mTest (mOp dNeE ma mb)) := mt_cmp (op_neE (by have := c.hr.un; omega)) rv_neE ha hb (nomark _)
end
section
variable {ev : Nv} {S : So} {x : D}
theorem q_eqE {kvs : List (Key × D)} (h : viewD ev S x = some kvs) : dEqE ev S x (.t (.dict [])) = some (.t (.bool kvs.isEmpty)) := by unfold dEqE; rw [h]
theorem q_neE {kvs : List (Key × D)} (h : viewD ev S x = some kvs) : dNeE ev S x (.t (.dict [])) = some (.t (.bool (!kvs.isEmpty))) := by unfold dNeE; rw [h]
end
/-! ## a part of a list, as a list of its own -/
def lSl (e : EM) (lo hi : Mm (Option Int)) : Mm (List D) := fun ev S => bnd (e ev S) fun x ev S => bnd (lo ev S) fun l ev S => bnd (hi ev S) fun h ev S => match viewL ev S x with
  | some ds => if (cut ds l h).length ≤ sizeLine then some (.ok (cut ds l h), ev, S) else none
  | none => none
theorem sl_sl {K : PySem.W.Frag} {γ : Nat → Addr} {W : WX} {te : TE} {tl th : TO} {me : EM} {ml mh : Mm (Option Int)} (he : SE K γ W te me) (hl : SOp K γ W tl ml) (hh : SOp K γ W th mh) : SL K γ W (tSl (rSlX3 K) te tl th) (lSl me ml mh) := by
  intro P O F H il S ev σ R r ev' S' hm Q k
  rcases bnd_eq hm with ⟨x, q, rfl⟩ | ⟨dx, e1, s1, q, hm⟩
  · exact he P O F H il S ev σ R _ _ _ q _ fun O1 F1 H1 il1 sf pf R1 => k O1 F1 H1 il1 sf pf R1
  · refine he P O F H il S ev σ R _ _ _ q _ fun O1 F1 H1 il1 sf pf R1 v hv => ?_
    rcases bnd_eq hm with ⟨z, q', rfl⟩ | ⟨l, e2, s2, q', hm⟩
    · exact hl P O1 F1 H1 il1 s1 e1 σ R1 _ _ _ q' _ fun O2 F2 H2 il2 sf2 pf2 R2 => k O2 F2 H2 il2 (sf.trans sf2) (pf.trans pf2) R2
    · refine hl P O1 F1 H1 il1 s1 e1 σ R1 _ _ _ q' _ fun O2 F2 H2 il2 sf2 pf2 R2 => ?_
      rcases bnd_eq hm with ⟨z, q2, rfl⟩ | ⟨h, e3, s3, q2, hm⟩
      · exact hh P O2 F2 H2 il2 s2 e2 σ R2 _ _ _ q2 _ fun O3 F3 H3 il3 sf3 pf3 R3 => k O3 F3 H3 il3 ((sf.trans sf2).trans sf3) ((pf.trans pf2).trans pf3) R3
      · refine hh P O2 F2 H2 il2 s2 e2 σ R2 _ _ _ q2 _ fun O3 F3 H3 il3 sf3 pf3 R3 => ?_
        split at hm
        · rename_i ds hds
          split at hm
          · rename_i hz
            cases hm
            obtain ⟨a, vs, rfl, h1, h2⟩ := viewL_ok R3 (DR.mono (sf2.trans sf3) (pf2.trans pf3) hv) hds
            refine .inr (.inr ⟨a, vs, rfl, h1, fun p hp => ?_⟩)
            have hc := drs_cut h2 l h
            exact k O3 F3 H3 il3 ((sf.trans sf2).trans sf3) ((pf.trans pf2).trans pf3) R3 _ p hc (by rw [PySem.Paired.length hc]; exact hz) hp
          · cases hm
        · cases hm
theorem ml_sl {X : Cx} {γ : Nat → Addr} {W : WX} {a : Expr} {ma : EM} {lo hi : Option Expr} {ml mh : Mm (Option Int)} {pos p2 : Pos} (ha : ME X γ W a ma) (hl : MO X γ W lo ml) (hh : MO X γ W hi mh) : ML X γ W (.Subscript a (.Slice lo hi none p2) pos) (lSl ma ml mh) := by
  obtain ⟨ta, a1, a2⟩ := ha; obtain ⟨tl, l1, l2⟩ := hl; obtain ⟨th, h1, h2⟩ := hh
  exact ⟨_, pe_slice sl_x3 a1 l1 h1, sl_sl a2 l2 h2⟩
section
variable {ev : Nv} {S : So} {a : EM} {lo hi : Mm (Option Int)}
def lslR (x : D) (l h : Option Int) (ev : Nv) (S : So) : Om (List D) := match viewL ev S x with
  | some ds => if (cut ds l h).length ≤ sizeLine then some (.ok (cut ds l h), ev, S) else none
  | none => none
theorem q_lsl : lSl a lo hi ev S = bK (a ev S) fun x ev S => bK (lo ev S) fun l ev S => bK (hi ev S) fun h ev S => lslR x l h ev S := nr rfl
theorem q_lslR {x : D} {l h : Option Int} {ds : List D} (hv : viewL ev S x = some ds) (hz : (cut ds l h).length ≤ sizeLine) : lslR x l h ev S = some (.ok (cut ds l h), ev, S) := by unfold lslR; rw [hv]; exact if_pos hz
end
/-! ### equations by cells -/
section
variable {ev : Nv} {S : So} {a b c : EM} {x y z : D}
theorem q_dpopN (n : Nat) : dpopB b (.r n) ev S = match S[n]? with
    | some (.dic _) => bK (b ev S) (popR (.r n))
    | _ => none := by
  cases h : S[n]? with
  | none => simp [dpopB, ownD, h]
  | some c =>
    cases c with
    | dic kvs => exact q_dpopB (by unfold ownD; dsimp only; rw [h])
    | _ => simp [dpopB, ownD, h]
theorem q_popN (n : Nat) (k : Str) : popR (.r n) (.t (.str k)) ev S = match S[n]? with
    | some (.dic kvs) => (match valD kvs (.inr k) with
      | some d => some (.ok d, ev, S.set n (.dic (dropD kvs (.inr k))))
      | none => none)
    | _ => none := by
  cases h : S[n]? with
  | none => simp [popR, ownD, h]
  | some c =>
    cases c with
    | dic kvs =>
      cases hv : valD kvs (.inr k) with
      | none => simp [popR, ownD, h, keyOf, keyP, hv]
      | some d => simp [popR, ownD, h, keyOf, keyP, hv, putDc]
    | _ => simp [popR, ownD, h]
theorem q_setdN (n : Nat) : setdB b c (.r n) ev S = match S[n]? with
    | some (.dic _) => bK (b ev S) fun y ev S => bK (c ev S) fun z ev S => bK (esc z ev S) fun z ev S => setdR (.r n) y z ev S
    | _ => none := by
  cases h : S[n]? with
  | none => simp [setdB, ownD, h]
  | some c =>
    cases c with
    | dic kvs => exact q_setdB (by unfold ownD; dsimp only; rw [h])
    | _ => simp [setdB, ownD, h]
theorem q_setdV (n : Nat) (k : Str) : setdR (.r n) (.t (.str k)) z ev S = match S[n]? with
    | some (.dic kvs) => if kvs.length < sizeLine then (match valD kvs (.inr k) with
      | some d => some (.ok d, ev, S)
      | none => some (.ok z, ev, S.set n (.dic (putD kvs (.inr k) z)))) else none
    | _ => none := by
  cases h : S[n]? with
  | none => simp [setdR, ownD, h]
  | some c =>
    cases c with
    | dic kvs =>
      simp only [setdR, ownD, h, keyOf, keyP]
      split
      · cases hv : valD kvs (.inr k) with
        | none => simp [putDc, h]
        | some d => rfl
      · rfl
    | _ => simp [setdR, ownD, h]
theorem q_augDN (f : Int → Int → Int) (n : Nat) (k : Str) : augDB f c (.r n) (.t (.str k)) ev S = match S[n]? with
    | some (.dic kvs) => (match valD kvs (.inr k) with
      | some (.t (.int i)) => bS (c ev S) fun z ev S => augDR f (.r n) (.t (.str k)) (.inr k) i z ev S
      | _ => none)
    | some (.frd kvs) => (match valD kvs (.inr k) with
      | some (.t (.int i)) => bS (c ev S) fun z ev S => augDR f (.r n) (.t (.str k)) (.inr k) i z ev S
      | _ => none)
    | _ => none := by
  unfold augDB viewD
  dsimp only
  cases h : S[n]? with
  | none => rfl
  | some ce => cases ce <;> rfl
theorem q_augDV (f : Int → Int → Int) (n : Nat) (k : Key) (i m : Int) : augDR f (.r n) y k i (.t (.int m)) ev S = match S[n]? with
    | some (.dic kvs) => if kvs.length < sizeLine then some (.nx, ev, S.set n (.dic (putD kvs k (.t (.int (f i m)))))) else none
    | _ => none := by
  cases h : S[n]? with
  | none => simp [augDR, ownD, h]
  | some c =>
    cases c with
    | dic kvs => simp [augDR, ownD, h, putDc]
    | _ => simp [augDR, ownD, h]
theorem q_inDN (n : Nat) (k : Str) : dInD ev S (.t (.str k)) (.r n) = match S[n]? with
    | some (.dic kvs) => some (.t (.bool (valD kvs (.inr k)).isSome))
    | some (.frd kvs) => some (.t (.bool (valD kvs (.inr k)).isSome))
    | _ => dIn ev S (.t (.str k)) (.r n) := by
  unfold dInD dDIn viewD
  dsimp only
  cases h : S[n]? with
  | none => rfl
  | some ce => cases ce <;> rfl
theorem q_notInDN (n : Nat) (k : Str) : dNotInD ev S (.t (.str k)) (.r n) = match S[n]? with
    | some (.dic kvs) => some (.t (.bool (!(valD kvs (.inr k)).isSome)))
    | some (.frd kvs) => some (.t (.bool (!(valD kvs (.inr k)).isSome)))
    | _ => dNotIn ev S (.t (.str k)) (.r n) := by
  unfold dNotInD dDNotIn viewD
  dsimp only
  cases h : S[n]? with
  | none => rfl
  | some ce => cases ce <;> rfl
def setXR (d l j : D) (ev : Nv) (S : So) : Os := match ownD ev S l with
  | some xs => (match keyOf j with
    | none => none
    | some k => if xs.length < sizeLine then match putDc l (putD xs k d) ev S with
        | none => none
        | some (ev, S) => some (.nx, ev, S)
      else none)
  | none => setR d l j ev S
theorem q_setX : sSetX a b c ev S = bS (a ev S) fun x ev S => bS (esc x ev S) fun d ev S => bS (b ev S) fun l ev S => bS (c ev S) fun j ev S => setXR d l j ev S := nr rfl
theorem q_setXN (d : D) (n : Nat) (k : Str) : setXR d (.r n) (.t (.str k)) ev S = match S[n]? with
    | some (.dic kvs) => if kvs.length < sizeLine then some (.nx, ev, S.set n (.dic (putD kvs (.inr k) d))) else none
    | _ => none := by
  cases h : S[n]? with
  | none => simp [setXR, ownD, h, setR]
  | some c =>
    cases c with
    | dic kvs => simp [setXR, ownD, h, keyOf, keyP, putDc]
    | _ => simp [setXR, ownD, h, setR]
theorem q_setXI (d : D) (n : Nat) (k : Int) : setXR d (.r n) (.t (.int k)) ev S = match S[n]? with
    | some (.dic kvs) => if kvs.length < sizeLine then some (.nx, ev, S.set n (.dic (putD kvs (.inl k) d))) else none
    | _ => setR d (.r n) (.t (.int k)) ev S := by
  cases h : S[n]? with
  | none => simp [setXR, ownD, h]
  | some c =>
    cases c with
    | dic kvs => simp [setXR, ownD, h, keyOf, keyP, putDc]
    | _ => simp [setXR, ownD, h]
theorem q_setXB (d : D) (i : Nat) (k : Int) {xs : List D} (h : ev[i]? = some (some (.ol xs))) : setXR d (.b i) (.t (.int k)) ev S = setR d (.b i) (.t (.int k)) ev S := by
  simp [setXR, ownD, h]
end
end Cl

namespace Y18
open PySem L2 RZ Cl
def topS (i : Nat) : Stmt := PySem.Challenge.pw_wireyard_k18_rings_among_names.main.body.getD i (.Pass ⟨0, 0, 0, 0⟩)
/-! unfinished -/
abbrev s0 : Stmt := topS 1
theorem sc0 : FnScope ["asks", "left", "askers", "name", "asked", "one", "many", "waiting", "asker"] ["asks"] (defScope s0) := ⟨rfl, rfl, rfl, by decide +kernel, rfl, by decide +kernel, by decide +kernel⟩
/-! ring_in -/
abbrev s1 : Stmt := topS 2
theorem sc1 : FnScope ["asks", "left", "way", "name"] ["asks"] (defScope s1) := ⟨rfl, rfl, rfl, by decide +kernel, rfl, by decide +kernel, by decide +kernel⟩
/-! _law_cell -/
abbrev s2 : Stmt := topS 4
theorem sc2 : FnScope ["_law_script", "_law_k", "_law_cell_here"] ["_law_script", "_law_k"] (defScope s2) := ⟨rfl, rfl, rfl, by decide +kernel, rfl, by decide +kernel, by decide +kernel⟩
/-! _law_mixed -/
abbrev s3 : Stmt := topS 5
theorem sc3 : FnScope ["_law_number", "_law_k"] ["_law_number", "_law_k"] (defScope s3) := ⟨rfl, rfl, rfl, by decide +kernel, rfl, by decide +kernel, by decide +kernel⟩
/-! _law_names -/
abbrev s4 : Stmt := topS 6
theorem sc4 : FnScope ["_law_number", "_law_letters", "_law_base", "_law_size", "_law_at", "_law_signs", "_law_some", "_law_found", "_law_first", "_law_other", "_law_told", "_law_j", "_law_k", "_law_sign", "_law_name"] ["_law_number"] (defScope s4) := ⟨rfl, rfl, rfl, by decide +kernel, rfl, by decide +kernel, by decide +kernel⟩
/-! _law_has_ring -/
abbrev s5 : Stmt := topS 7
theorem sc5 : FnScope ["_law_asks", "_law_left", "_law_going", "_law_gone", "_law_name", "_law_one"] ["_law_asks"] (defScope s5) := ⟨rfl, rfl, rfl, by decide +kernel, rfl, by decide +kernel, by decide +kernel⟩
/-! _law_is_ring -/
abbrev s6 : Stmt := topS 8
theorem sc6 : FnScope ["_law_found", "_law_asks", "_law_one", "_law_other", "_law_k"] ["_law_found", "_law_asks"] (defScope s6) := ⟨rfl, rfl, rfl, by decide +kernel, rfl, by decide +kernel, by decide +kernel⟩
/-! _law_web -/
abbrev s7 : Stmt := topS 9
theorem sc7 : FnScope ["_law_script", "_law_names_here", "_law_many", "_law_back", "_law_found", "_law_k", "_law_number", "_law_asked", "_law_j", "_law_more", "_law_turn", "_law_order", "_law_name"] ["_law_script"] (defScope s7) := ⟨rfl, rfl, rfl, by decide +kernel, rfl, by decide +kernel, by decide +kernel⟩
/-! law -/
abbrev s8 : Stmt := topS 10
theorem sc8 : FnScope ["_law_script", "_law_web_here", "_law_kept", "_law_is_due", "_law_found", "_law_other", "_law_told", "_law_name"] ["_law_script"] (defScope s8) := ⟨rfl, rfl, rfl, by decide +kernel, rfl, by decide +kernel, by decide +kernel⟩
/-! ## the machine -/
/-- unfinished(asks, left, askers, name, asked, one, many, waiting, asker) -/
noncomputable def b0 (C : Nat → Fn) : SM :=
  (sSeq (sAsg (gN 1) (mCellD kNew))
    (sSeq (sAsg (gN 2) (mCellD kNew))
    (sSeq (sLk (mVar 0) (sFor (mIterP (mVar 0)) (gT ((gN 3) :: ((gN 4) :: []))) (sSeq (sSetX (mTree (lComp (mIter (mVar 4)) (gN 5) (mTest (mOp dInD (mVar 5) (mVar 0))) (mVar 5) [5])) (mVar 1) (mVar 3))
    (sFor (mIter (mOp dIxD (mVar 1) (mVar 3))) (gN 5) (sExpr (mMut muApp (mSetd (mVar 2) (mVar 5) (mCell (lDisp mNil))) (mCons (mVar 3) mNil)))))))
    (sSeq (sAsg (gN 6) (mCellD (kDictOf (mCons (mTree (lLk (mVar 1) (lComp (mIterP (mVar 1)) (gT ((gN 3) :: ((gN 4) :: []))) mYes (mTup (mCons (mVar 3) (mCons (mB bLen (mCons (mVar 4) mNil)) mNil))) [3, 4]))) mNil))))
    (sSeq (sLk (mVar 1) (sOwn 7 (lComp (mIterK (mVar 1)) (gN 3) (mTest (mOp dEq (mOp dIxD (mVar 6) (mVar 3)) (mC (.int 0)))) (mVar 3) [3])))
    (sSeq (sWhile (mTest (mOp dNe (mVar 7) (mTree (lDisp mNil)))) (sFor (mIter (mGet2 (mVar 2) (mMut muPop0 (mVar 7) mNil) (mCell (lDisp mNil)))) (gN 8) (sSeq (sAugD (fun i j => i - j) (mVar 6) (mVar 8) (mC (.int 1)))
    (sIf (mTest (mOp dEq (mOp dIxD (mVar 6) (mVar 8)) (mC (.int 0)))) (sExpr (mMut muApp (mVar 7) (mCons (mVar 8) mNil))) sNext))))
    (sRet (mCellD (kDictOf (mCons (mTree (lLk (mVar 1) (lComp (mIterK (mVar 1)) (gN 3) (mTest (mOp dGt (mOp dIxD (mVar 6) (mVar 3)) (mC (.int 0)))) (mTup (mCons (mVar 3) (mCons (mTree (lComp (mIter (mOp dIxD (mVar 1) (mVar 3))) (gN 5) (mTest (mOp dGt (mOp dIxD (mVar 6) (mVar 5)) (mC (.int 0)))) (mVar 5) [5])) mNil))) [3]))) mNil))))))))))
/-- ring_in(asks, left, way, name) -/
noncomputable def b1 (C : Nat → Fn) : SM :=
  (sSeq (sAsg (gN 1) (mCall (C 0) (mCons (mVar 0) mNil)))
    (sSeq (sIf (mTest (mOp dEqE (mVar 1) mDict0)) (sRet (mC .none)) sNext)
    (sSeq (sOwn 2 (lDisp mNil))
    (sSeq (sAsg (gN 3) (mOp dIx (mTree (lListOf (mCons (mVar 1) mNil))) (mC (.int 0))))
    (sSeq (sWhile (mTest (mOp dNotIn (mVar 3) (mVar 2))) (sSeq (sExpr (mMut muApp (mVar 2) (mCons (mVar 3) mNil)))
    (sAsg (gN 3) (mOp dIx (mOp dIxD (mVar 1) (mVar 3)) (mC (.int 0))))))
    (sRet (mCell (lSl (mVar 2) (mPart (mMb isLst fIndex (mVar 2) (mCons (mVar 3) mNil))) mNoP))))))))
/-- _law_cell(_law_script, _law_k, _law_cell_here) -/
noncomputable def b2 (C : Nat → Fn) : SM :=
  (sSeq (sAsg (gN 2) (mC (.int 17)))
    (sSeq (sIf (mTest (mOp dGt (mB bLen (mCons (mVar 0) mNil)) (mC (.int 0)))) (sAsg (gN 2) (mOp dMod (mOp dIx (mVar 0) (mOp dMod (mVar 1) (mB bLen (mCons (mVar 0) mNil)))) (mC (.int 2147483647)))) sNext)
    (sRet (mOp dDiv (mOp dMod (mOp dMul (mOp dMod (mOp dMul (mOp dAdd (mOp dAdd (mVar 2) (mOp dMul (mOp dMul (mC (.int 7919)) (mVar 1)) (mVar 1))) (mOp dMul (mC (.int 31)) (mVar 1))) (mC (.int 48271))) (mC (.int 2147483647))) (mC (.int 69621))) (mC (.int 2147483629))) (mC (.int 64))))))
/-- _law_mixed(_law_number, _law_k) -/
noncomputable def b3 (C : Nat → Fn) : SM :=
  (sRet (mOp dDiv (mOp dMod (mOp dMul (mOp dMod (mOp dMul (mOp dAdd (mOp dAdd (mOp dAdd (mVar 0) (mOp dMul (mOp dMul (mC (.int 7919)) (mVar 1)) (mVar 1))) (mOp dMul (mC (.int 31)) (mVar 1))) (mC (.int 1))) (mC (.int 48271))) (mC (.int 2147483647))) (mC (.int 69621))) (mC (.int 2147483629))) (mC (.int 64))))
/-- _law_names(_law_number, _law_letters, _law_base, _law_size, _law_at, _law_signs, _law_some, _law_found, _law_first, _law_other, _law_told, _law_j, _law_k, _law_sign, _law_name) -/
noncomputable def b4 (C : Nat → Fn) : SM :=
  (sSeq (sAsg (gN 1) (mC (.str "abcdefghijklmnopqrstuvwxyz")))
    (sSeq (sAsg (gN 2) (mMb isStr fJoin (mC (.str "")) (mCons (mTree (lComp (mRng (mCons (mC (.int 8)) mNil)) (gN 11) mYes (mOp dIx (mVar 1) (mOp dMod (mCall (C 3) (mCons (mVar 0) (mCons (mVar 11) mNil))) (mC (.int 26)))) [11])) mNil)))
    (sSeq (sIf (mTest (mOp dLt (mOp dMod (mVar 0) (mC (.int 4))) (mC (.int 2)))) (sSeq (sAsg (gN 3) (mOp dAdd (mC (.int 2)) (mOp dMod (mOp dDiv (mVar 0) (mC (.int 4))) (mC (.int 7)))))
    (sSeq (sAsg (gN 4) (mOp dMod (mOp dDiv (mVar 0) (mC (.int 32))) (mVar 3)))
    (sSeq (sAsg (gN 5) (mIf (mTest (mOp dEq (mVar 4) (mC (.int 0)))) (mVar 1) (mOp dAdd (mVar 1) (mC (.str "0123456789")))))
    (sSeq (sAsg (gN 6) (mTree (lComp (mRng (mCons (mC (.int 16)) mNil)) (gN 12) mYes (mOp dIx (mVar 5) (mOp dMod (mOp dAdd (mOp dDiv (mVar 0) (mC (.int 256))) (mOp dMul (mC (.int 5)) (mVar 12))) (mB bLen (mCons (mVar 5) mNil)))) [12])))
    (sAsg (gN 7) (mTree (lComp (mIter (mVar 6)) (gN 13) mYes (mOp dAdd (mOp dAdd (mSl (mVar 2) mNoP (mPart (mVar 4))) (mVar 13)) (mSl (mVar 2) (mPart (mOp dAdd (mVar 4) (mC (.int 1)))) (mPart (mVar 3)))) [13]))))))) (sIf (mTest (mOp dEq (mOp dMod (mVar 0) (mC (.int 4))) (mC (.int 2)))) (sSeq (sAsg (gN 8) (mOp dAdd (mOp dAdd (mMb isStr fSIndex (mVar 1) (mCons (mOp dIx (mVar 2) (mC (.int 0))) mNil)) (mC (.int 1))) (mOp dMod (mOp dDiv (mVar 0) (mC (.int 4))) (mC (.int 25)))))
    (sSeq (sAsg (gN 9) (mOp dAdd (mOp dIx (mVar 1) (mOp dMod (mVar 8) (mC (.int 26)))) (mSl (mVar 2) (mPart (mC (.int 1))) mNoP)))
    (sSeq (sAsg (gN 7) (mTree (lComp (mRng (mCons (mC (.int 8)) mNil)) (gN 12) mYes (mSl (mVar 2) mNoP (mPart (mOp dAdd (mVar 12) (mC (.int 1))))) [12])))
    (sAsg (gN 7) (mOp dAdd (mVar 7) (mTree (lComp (mRng (mCons (mC (.int 8)) mNil)) (gN 12) mYes (mSl (mVar 9) mNoP (mPart (mOp dAdd (mVar 12) (mC (.int 1))))) [12]))))))) (sAsg (gN 7) (mTree (lComp (mRng (mCons (mC (.int 16)) mNil)) (gN 12) mYes (mOp dIx (mVar 1) (mOp dMod (mOp dAdd (mOp dDiv (mVar 0) (mC (.int 4))) (mOp dMul (mC (.int 7)) (mVar 12))) (mC (.int 26)))) [12])))))
    (sSeq (sAsg (gN 10) (mMb isStr fSplit (mC (.str "part in out wire rest let use table memory if then else cut join fill")) (mCons (mC (.str " ")) mNil)))
    (sSeq (sIf (mTest (mOp dNe (mTree (lComp (mIter (mVar 7)) (gN 14) (mTest (mOp dIn (mVar 14) (mVar 10))) (mVar 14) [14])) (mTree (lDisp mNil)))) (sRet (mTree (lComp (mRng (mCons (mC (.int 16)) mNil)) (gN 12) mYes (mOp dAdd (mC (.str "q")) (mOp dIx (mVar 1) (mVar 12))) [12]))) sNext)
    (sRet (mVar 7)))))))
/-- _law_has_ring(_law_asks, _law_left, _law_going, _law_gone, _law_name, _law_one) -/
noncomputable def b5 (C : Nat → Fn) : SM :=
  (sSeq (sAsg (gN 1) (mCellD (kDictOf (mCons (mVar 0) mNil))))
    (sSeq (sAsg (gN 2) (mC (.bool true)))
    (sSeq (sWhile (mTest (mVar 2)) (sSeq (sLk (mVar 1) (sAsg (gN 3) (mTree (lComp (mIterK (mVar 1)) (gN 4) (mTest (mOp dEq (mTree (lComp (mIter (mOp dIxD (mVar 1) (mVar 4))) (gN 5) (mTest (mOp dInD (mVar 5) (mVar 1))) (mVar 5) [5])) (mTree (lDisp mNil)))) (mVar 4) [4]))))
    (sSeq (sFor (mIter (mVar 3)) (gN 4) (sExpr (mDPop (mVar 1) (mVar 4))))
    (sAsg (gN 2) (mOp dNe (mVar 3) (mTree (lDisp mNil)))))))
    (sRet (mOp dNeE (mVar 1) mDict0)))))
/-- _law_is_ring(_law_found, _law_asks, _law_one, _law_other, _law_k) -/
noncomputable def b6 (C : Nat → Fn) : SM :=
  (sSeq (sIf (mOr (mNot (mTest (mUn (dIsi .lst) (mVar 0)))) (mTest (mOp dEq (mVar 0) (mTree (lDisp mNil))))) (sRet (mC (.bool false))) sNext)
    (sSeq (sIf (mTest (mOp dNe (mTree (lComp (mEnumT (mCons (mVar 0) mNil)) (gT ((gN 4) :: ((gN 2) :: []))) (mTest (mOp dIn (mVar 2) (mSl (mVar 0) mNoP (mPart (mVar 4))))) (mVar 2) [4, 2])) (mTree (lDisp mNil)))) (sRet (mC (.bool false))) sNext)
    (sSeq (sFor (mZip (mCons (mVar 0) (mCons (mOp dAdd (mSl (mVar 0) (mPart (mC (.int 1))) mNoP) (mSl (mVar 0) mNoP (mPart (mC (.int 1))))) mNil))) (gT ((gN 2) :: ((gN 3) :: []))) (sIf (mOr (mTest (mOp dNotInD (mVar 2) (mVar 1))) (mTest (mOp dNotIn (mVar 3) (mOp dIxD (mVar 1) (mVar 2))))) (sRet (mC (.bool false))) sNext))
    (sRet (mC (.bool true))))))
/-- _law_web(_law_script, _law_names_here, _law_many, _law_back, _law_found, _law_k, _law_number, _law_asked, _law_j, _law_more, _law_turn, _law_order, _law_name) -/
noncomputable def b7 (C : Nat → Fn) : SM :=
  (sSeq (sAsg (gN 1) (mCall (C 4) (mCons (mCall (C 2) (mCons (mVar 0) (mCons (mC (.int 0)) mNil))) mNil)))
    (sSeq (sAsg (gN 1) (mOp dAdd (mOp dAdd (mVar 1) (mTree (lComp (mIter (mVar 1)) (gN 12) mYes (mOp dAdd (mVar 12) (mC (.str ".a"))) [12]))) (mTree (lComp (mIter (mSl (mVar 1) mNoP (mPart (mC (.int 8))))) (gN 12) mYes (mOp dAdd (mVar 12) (mC (.str ".b.c"))) [12]))))
    (sSeq (sAsg (gN 2) (mB bMax2 (mCons (mC (.int 1)) (mCons (mB bMin2 (mCons (mC (.int 40)) (mCons (mB bLen (mCons (mVar 0) mNil)) mNil))) mNil))))
    (sSeq (sAsg (gN 3) (mOp dIx (mTree (lDisp (mCons (mC (.int 1)) (mCons (mC (.int 60)) (mCons (mC (.int 12)) (mCons (mC (.int 1)) mNil)))))) (mOp dMod (mCall (C 2) (mCons (mVar 0) (mCons (mC (.int 50)) mNil))) (mC (.int 4)))))
    (sSeq (sAsg (gN 4) (mCellD kNew))
    (sSeq (sFor (mRng (mCons (mVar 2) mNil)) (gN 5) (sSeq (sAsg (gN 6) (mCall (C 2) (mCons (mVar 0) (mCons (mVar 5) mNil))))
    (sSeq (sOwn 7 (lDisp mNil))
    (sSeq (sFor (mRng (mCons (mOp dIx (mTree (lDisp (mCons (mC (.int 0)) (mCons (mC (.int 1)) (mCons (mC (.int 2)) (mCons (mC (.int 2)) (mCons (mC (.int 3)) (mCons (mC (.int 4)) mNil)))))))) (mOp dMod (mVar 6) (mC (.int 6)))) mNil)) (gN 8) (sSeq (sAsg (gN 9) (mCall (C 3) (mCons (mVar 6) (mCons (mOp dAdd (mVar 8) (mVar 5)) mNil))))
    (sIf (mTest (mOp dEq (mOp dMod (mVar 9) (mC (.int 17))) (mC (.int 3)))) (sExpr (mMut muApp (mVar 7) (mCons (mOp dAdd (mOp dAdd (mC (.str "none")) (mOp dIx (mC (.str "abc")) (mOp dMod (mOp dDiv (mVar 9) (mC (.int 17))) (mC (.int 3))))) (mC (.str ".z"))) mNil))) (sIf (mAnd (mTest (mOp dGt (mVar 5) (mC (.int 0)))) (mOr (mTest (mOp dEq (mVar 3) (mC (.int 1)))) (mTest (mOp dGt (mOp dMod (mVar 9) (mVar 3)) (mC (.int 0)))))) (sExpr (mMut muApp (mVar 7) (mCons (mOp dIx (mVar 1) (mOp dMod (mOp dDiv (mVar 9) (mC (.int 60))) (mVar 5))) mNil))) (sExpr (mMut muApp (mVar 7) (mCons (mOp dIx (mVar 1) (mOp dMod (mOp dDiv (mVar 9) (mC (.int 60))) (mVar 2))) mNil)))))))
    (sSetX (mVar 7) (mVar 4) (mOp dIx (mVar 1) (mVar 5)))))))
    (sSeq (sAsg (gN 10) (mOp dMod (mCall (C 2) (mCons (mVar 0) (mCons (mC (.int 51)) mNil))) (mVar 2)))
    (sSeq (sAsg (gN 11) (mOp dAdd (mSl (mTree (lListOf (mCons (mVar 4) mNil))) (mPart (mVar 10)) mNoP) (mSl (mTree (lListOf (mCons (mVar 4) mNil))) mNoP (mPart (mVar 10)))))
    (sRet (mCellD (kDictOf (mCons (mTree (lComp (mIter (mVar 11)) (gN 12) mYes (mTup (mCons (mVar 12) (mCons (mOp dIxD (mVar 4) (mVar 12)) mNil))) [12])) mNil))))))))))))
/-- law(_law_script, _law_web_here, _law_kept, _law_is_due, _law_found, _law_other, _law_told, _law_name) -/
noncomputable def b8 (C : Nat → Fn) : SM :=
  (sSeq (sAsg (gN 1) (mCall (C 7) (mCons (mVar 0) mNil)))
    (sSeq (sAsg (gN 2) (mB bRepr (mCons (mVar 1) mNil)))
    (sSeq (sAsg (gN 3) (mCall (C 5) (mCons (mVar 1) mNil)))
    (sSeq (sAsg (gN 4) (mCall (C 1) (mCons (mVar 1) mNil)))
    (sSeq (sAsg (gN 5) (mCall (C 1) (mCons (mCellD (kDictOf (mCons (mUn dRev (mTree (lLk (mVar 1) (lComp (mIterK (mVar 1)) (gN 7) mYes (mTup (mCons (mVar 7) (mCons (mUn dRev (mOp dIxD (mVar 1) (mVar 7))) mNil))) [7])))) mNil))) mNil)))
    (sSeq (sIf (mNot (mTest (mVar 3))) (sRet (mAndV (mOp dIsN (mVar 4) (mC .none)) (mAndV (mOp dIsN (mVar 5) (mC .none)) (mOp dEq (mB bRepr (mCons (mVar 1) mNil)) (mVar 2))))) sNext)
    (sSeq (sIf (mOr (mNot (mTest (mCall (C 6) (mCons (mVar 4) (mCons (mVar 1) mNil))))) (mNot (mTest (mCall (C 6) (mCons (mVar 5) (mCons (mVar 1) mNil)))))) (sRet (mC (.bool false))) sNext)
    (sSeq (sAsg (gN 6) (mTree (lListOf (mCons (mVar 4) mNil))))
    (sSeq (sExpr (mMut muApp (mVar 4) (mCons (mC (.str "more")) mNil)))
    (sRet (mAndV (mOp dEq (mCall (C 1) (mCons (mVar 1) mNil)) (mVar 6)) (mOp dEq (mB bRepr (mCons (mVar 1) mNil)) (mVar 2)))))))))))))
noncomputable def stp (C : Nat → Fn) : Nat → Fn
  | 0 => runF 1 9 (b0 C)
  | 1 => runF 1 4 (b1 C)
  | 2 => runF 2 3 (b2 C)
  | 3 => runF 2 2 (b3 C)
  | 4 => runF 1 15 (b4 C)
  | 5 => runF 1 6 (b5 C)
  | 6 => runF 2 5 (b6 C)
  | 7 => runF 1 13 (b7 C)
  | 8 => runF 1 8 (b8 C)
  | _ => fun _ _ => none
noncomputable def fns : Nat → Nat → Fn
  | 0 => fun _ _ _ => none
  | k + 1 => stp (fns k)
theorem e0 (k : Nat) : fns (k + 1) 0 = runF 1 9 (b0 (fns k)) := rfl
theorem e1 (k : Nat) : fns (k + 1) 1 = runF 1 4 (b1 (fns k)) := rfl
theorem e2 (k : Nat) : fns (k + 1) 2 = runF 2 3 (b2 (fns k)) := rfl
theorem e3 (k : Nat) : fns (k + 1) 3 = runF 2 2 (b3 (fns k)) := rfl
theorem e4 (k : Nat) : fns (k + 1) 4 = runF 1 15 (b4 (fns k)) := rfl
theorem e5 (k : Nat) : fns (k + 1) 5 = runF 1 6 (b5 (fns k)) := rfl
theorem e6 (k : Nat) : fns (k + 1) 6 = runF 2 5 (b6 (fns k)) := rfl
theorem e7 (k : Nat) : fns (k + 1) 7 = runF 1 13 (b7 (fns k)) := rfl
theorem e8 (k : Nat) : fns (k + 1) 8 = runF 1 8 (b8 (fns k)) := rfl
/-! ## the walk -/
def fn : List He.DefD := [⟨("unfinished", none), "unfinished", "unfinished", defArgs s0, defBody s0, defScope s0, [], []⟩,
  ⟨("ring_in", none), "ring_in", "ring_in", defArgs s1, defBody s1, defScope s1, [], []⟩,
  ⟨("_law_cell", none), "_law_cell", "_law_cell", defArgs s2, defBody s2, defScope s2, [], []⟩,
  ⟨("_law_mixed", none), "_law_mixed", "_law_mixed", defArgs s3, defBody s3, defScope s3, [], []⟩,
  ⟨("_law_names", none), "_law_names", "_law_names", defArgs s4, defBody s4, defScope s4, [], []⟩,
  ⟨("_law_has_ring", none), "_law_has_ring", "_law_has_ring", defArgs s5, defBody s5, defScope s5, [], []⟩,
  ⟨("_law_is_ring", none), "_law_is_ring", "_law_is_ring", defArgs s6, defBody s6, defScope s6, [], []⟩,
  ⟨("_law_web", none), "_law_web", "_law_web", defArgs s7, defBody s7, defScope s7, [], []⟩,
  ⟨("law", none), "law", "law", defArgs s8, defBody s8, defScope s8, [], []⟩]
def fa : List He.Fa := [.glo "law", .free "dict", .free "len", .free "list", .glo "unfinished", .free "range", .glo "_law_mixed", .free "zip", .free "enumerate", .free "isinstance", .glo "_law_cell", .free "min", .free "max", .glo "_law_names", .free "repr", .glo "ring_in", .glo "_law_is_ring", .glo "_law_has_ring", .glo "_law_web"]
def xl (K : PySem.W.Frag) : List Bool := []
def gam (K : PySem.W.Frag) : Nat → Addr
  | _ => 0
section
variable {P : Program} {w : World} {K : PySem.W.Frag} {mg : Str → Option Value} {base : Heap} {k : Nat}
theorem bd0 (T : Tp fa fn xl K mg) : Binds K (T.fd 0 rfl) ["asks"] [] := (T.fun 0 rfl).bindsN fun _ _ _ _ _ _ us hl => match us, hl with | [_], _ => rfl
theorem bd1 (T : Tp fa fn xl K mg) : Binds K (T.fd 1 rfl) ["asks"] [] := (T.fun 1 rfl).bindsN fun _ _ _ _ _ _ us hl => match us, hl with | [_], _ => rfl
theorem bd2 (T : Tp fa fn xl K mg) : Binds K (T.fd 2 rfl) ["_law_script", "_law_k"] [] := (T.fun 2 rfl).bindsN fun _ _ _ _ _ _ us hl => match us, hl with | [_, _], _ => rfl
theorem bd3 (T : Tp fa fn xl K mg) : Binds K (T.fd 3 rfl) ["_law_number", "_law_k"] [] := (T.fun 3 rfl).bindsN fun _ _ _ _ _ _ us hl => match us, hl with | [_, _], _ => rfl
theorem bd4 (T : Tp fa fn xl K mg) : Binds K (T.fd 4 rfl) ["_law_number"] [] := (T.fun 4 rfl).bindsN fun _ _ _ _ _ _ us hl => match us, hl with | [_], _ => rfl
theorem bd5 (T : Tp fa fn xl K mg) : Binds K (T.fd 5 rfl) ["_law_asks"] [] := (T.fun 5 rfl).bindsN fun _ _ _ _ _ _ us hl => match us, hl with | [_], _ => rfl
theorem bd6 (T : Tp fa fn xl K mg) : Binds K (T.fd 6 rfl) ["_law_found", "_law_asks"] [] := (T.fun 6 rfl).bindsN fun _ _ _ _ _ _ us hl => match us, hl with | [_, _], _ => rfl
theorem bd7 (T : Tp fa fn xl K mg) : Binds K (T.fd 7 rfl) ["_law_script"] [] := (T.fun 7 rfl).bindsN fun _ _ _ _ _ _ us hl => match us, hl with | [_], _ => rfl
theorem bd8 (T : Tp fa fn xl K mg) : Binds K (T.fd 8 rfl) ["_law_script"] [] := (T.fun 8 rfl).bindsN fun _ _ _ _ _ _ us hl => match us, hl with | [_], _ => rfl
structure Ok (P : Program) (w : World) (base : Heap) (T : Tp fa fn xl K mg) (k : Nat) : Prop where
  g0 : FnG P w K mg base (L2.CX P w) (2 * k) (He.fAd K ("unfinished", none)) (T.fd 0 rfl) ["asks"] (spc K (gam K) 1 (fns k 0))
  g1 : FnG P w K mg base (L2.CX P w) (2 * k) (He.fAd K ("ring_in", none)) (T.fd 1 rfl) ["asks"] (spc K (gam K) 1 (fns k 1))
  g2 : FnG P w K mg base (L2.CX P w) (2 * k) (He.fAd K ("_law_cell", none)) (T.fd 2 rfl) ["_law_script", "_law_k"] (spc K (gam K) 2 (fns k 2))
  g3 : FnG P w K mg base (L2.CX P w) (2 * k) (He.fAd K ("_law_mixed", none)) (T.fd 3 rfl) ["_law_number", "_law_k"] (spc K (gam K) 2 (fns k 3))
  g4 : FnG P w K mg base (L2.CX P w) (2 * k) (He.fAd K ("_law_names", none)) (T.fd 4 rfl) ["_law_number"] (spc K (gam K) 1 (fns k 4))
  g5 : FnG P w K mg base (L2.CX P w) (2 * k) (He.fAd K ("_law_has_ring", none)) (T.fd 5 rfl) ["_law_asks"] (spc K (gam K) 1 (fns k 5))
  g6 : FnG P w K mg base (L2.CX P w) (2 * k) (He.fAd K ("_law_is_ring", none)) (T.fd 6 rfl) ["_law_found", "_law_asks"] (spc K (gam K) 2 (fns k 6))
  g7 : FnG P w K mg base (L2.CX P w) (2 * k) (He.fAd K ("_law_web", none)) (T.fd 7 rfl) ["_law_script"] (spc K (gam K) 1 (fns k 7))
  g8 : FnG P w K mg base (L2.CX P w) (2 * k) (He.fAd K ("law", none)) (T.fd 8 rfl) ["_law_script"] (spc K (gam K) 1 (fns k 8))
theorem ok0 (T : Tp fa fn xl K mg) (I : Ok P w base T k) : FnG P w K mg base (L2.CX P w) (2 * (k + 1)) (He.fAd K ("unfinished", none)) (T.fd 0 rfl) ["asks"] (spc K (gam K) 1 (fns (k + 1) 0)) :=
  fnD_ok (k := 2 * k + 1) (N := ["asks", "left", "askers", "name", "asked", "one", "many", "waiting", "asker"]) (ps := ["asks"]) (b := b0 (fns k)) (T.fun 0 rfl) sc0 fun cdv A outer s H E c => (mb_cons (ms_asg (me_cellD md_new) (mg_name 1 sc0.nd))
    (mb_cons (ms_asg (me_cellD md_new) (mg_name 2 sc0.nd))
    (mb_cons (ms_lk (mVar 0) (ms_for c (mi_items (me_var 0)) (mg_tup c (mgs_cons (mg_name 3 sc0.nd) (mgs_cons (mg_name 4 sc0.nd) mgs_nil))) (mb_cons (ms_setX c (me_tree (ml_comp c [("one", 5)] sc0.nd (mi_any (me_var 4)) (blkOk_by (own := [("one", 5)]) (N := ["asks", "left", "askers", "name", "asked", "one", "many", "waiting", "asker"]) (sc := defScope s0) (by decide +kernel)) (fun _ _ _ _ _ => (mgb_name 5 sc0.nd)) (fun _ _ _ _ _ c1 => (mts_one (mt_inD c1 (me_var 5) (me_var 0)))) (fun _ _ _ _ _ c1 => (me_var 5)))) (me_var 1) (me_var 3))
    (mb_one (ms_for c (mi_any (me_ixD c (me_var 1) (me_var 3))) (mg_name 5 sc0.nd) (mb_one (ms_expr (me_mut PySem.F.slot_list_append PySem.F.type_list_append mt_append rm_app (me_setd (me_var 2) (me_var 5) (me_cell (ml_disp ma_nil))) (ma_cons (me_var 3) ma_nil)))))))))
    (mb_cons (ms_asg (me_cellD (md_dictOf c (T.free 1) (ma_cons (me_tree (ml_lk (mVar 1) (ml_comp c [("name", 3), ("asked", 4)] sc0.nd (mi_items (me_var 1)) (blkOk_by (own := [("name", 3), ("asked", 4)]) (N := ["asks", "left", "askers", "name", "asked", "one", "many", "waiting", "asker"]) (sc := defScope s0) (by decide +kernel)) (fun _ _ _ _ _ => (mgb_tup rfl (mgbs_cons (mgb_name 3 sc0.nd) (mgbs_cons (mgb_name 4 sc0.nd) mgbs_nil)))) (fun _ _ _ _ _ c1 => mts_nil) (fun _ _ _ _ _ c1 => (me_tup (ma_cons (me_var 3) (ma_cons (me_len (T.free 2) (ma_cons (me_var 4) ma_nil)) ma_nil))))))) ma_nil))) (mg_name 6 sc0.nd))
    (mb_cons (ms_lk (mVar 1) (ms_setLc (i := 7) c [("name", 3)] sc0.nd rfl rfl (sw_true rfl rfl rfl (by decide +kernel)) (mi_keys (me_var 1)) (blkOk_by (own := [("name", 3)]) (N := ["asks", "left", "askers", "name", "asked", "one", "many", "waiting", "asker"]) (sc := defScope s0) (by decide +kernel)) (fun _ _ _ _ _ => (mgb_name 3 sc0.nd)) (fun _ _ _ _ _ c1 => (mts_one (mt_eq c1 (me_ixD c1 (me_var 6) (me_var 3)) me_int))) (fun _ _ _ _ _ c1 => (me_var 3)) as_own))
    (mb_cons (ms_while c (mt_ne c (me_var 7) (me_tree (ml_disp ma_nil))) (mb_one (ms_for c (mi_any (me_get2 c (me_var 2) (me_pop0 (me_var 7)) (me_cell (ml_disp ma_nil)))) (mg_name 8 sc0.nd) (mb_cons (ms_augD c in_subI (me_var 6) (me_var 8) me_int)
    (mb_one (ms_if (mt_eq c (me_ixD c (me_var 6) (me_var 8)) me_int) (mb_one (ms_expr (me_mut PySem.F.slot_list_append PySem.F.type_list_append mt_append rm_app (me_var 7) (ma_cons (me_var 8) ma_nil)))) mb_nil))))))
    (mb_one (ms_ret (me_cellD (md_dictOf c (T.free 1) (ma_cons (me_tree (ml_lk (mVar 1) (ml_comp c [("name", 3)] sc0.nd (mi_keys (me_var 1)) (blkOk_by (own := [("name", 3)]) (N := ["asks", "left", "askers", "name", "asked", "one", "many", "waiting", "asker"]) (sc := defScope s0) (by decide +kernel)) (fun _ _ _ _ _ => (mgb_name 3 sc0.nd)) (fun _ _ _ _ _ c1 => (mts_one (mt_gt c1 (me_ixD c1 (me_var 6) (me_var 3)) me_int))) (fun _ _ _ _ _ c1 => (me_tup (ma_cons (me_var 3) (ma_cons (me_tree (ml_comp c1 [("one", 5)] sc0.nd (mi_any (me_ixD c1 (me_var 1) (me_var 3))) (blkOk_by (own := [("one", 5)]) (by first | kernel_rfl | rfl)) (fun _ _ _ _ _ => (mgb_name 5 sc0.nd)) (fun _ _ _ _ _ c2 => (mts_one (mt_gt c2 (me_ixD c2 (me_var 6) (me_var 5)) me_int))) (fun _ _ _ _ _ c2 => (me_var 5)))) ma_nil))))))) ma_nil)))))))))))
theorem ok1 (T : Tp fa fn xl K mg) (I : Ok P w base T k) : FnG P w K mg base (L2.CX P w) (2 * (k + 1)) (He.fAd K ("ring_in", none)) (T.fd 1 rfl) ["asks"] (spc K (gam K) 1 (fns (k + 1) 1)) :=
  fnD_ok (k := 2 * k + 1) (N := ["asks", "left", "way", "name"]) (ps := ["asks"]) (b := b1 (fns k)) (T.fun 1 rfl) sc1 fun cdv A outer s H E c => (mb_cons (ms_asg (me_callJ c (Nat.le_succ _) I.g0 (T.glo 4) (T.fun 0 rfl).kp (bd0 T) (ma_cons (me_var 0) ma_nil)) (mg_name 1 sc1.nd))
    (mb_cons (ms_if (mt_eqE c (me_var 1) me_dict0) (mb_one (ms_ret me_non)) mb_nil)
    (mb_cons (ms_own 2 (ml_disp ma_nil) sc1.nd)
    (mb_cons (ms_asg (me_ix (me_tree (ml_listOf c (T.free 3) (ma_cons (me_var 1) ma_nil))) me_int) (mg_name 3 sc1.nd))
    (mb_cons (ms_while c (mt_notIn c (me_var 3) (me_var 2)) (mb_cons (ms_expr (me_mut PySem.F.slot_list_append PySem.F.type_list_append mt_append rm_app (me_var 2) (ma_cons (me_var 3) ma_nil)))
    (mb_one (ms_asg (me_ix (me_ixD c (me_var 1) (me_var 3)) me_int) (mg_name 3 sc1.nd)))))
    (mb_one (ms_ret (me_cell (ml_sl (me_var 2) (mo_some (me_bm PySem.F.plainAttrs_list PySem.F.slot_list_index PySem.F.type_list_index (mt_indexD (by have := c.hr.un; omega)) ty_lst rv_index (me_var 2) (ma_cons (me_var 3) ma_nil))) mo_no)))))))))
theorem ok2 (T : Tp fa fn xl K mg) (I : Ok P w base T k) : FnG P w K mg base (L2.CX P w) (2 * (k + 1)) (He.fAd K ("_law_cell", none)) (T.fd 2 rfl) ["_law_script", "_law_k"] (spc K (gam K) 2 (fns (k + 1) 2)) :=
  fnD_ok (k := 2 * k + 1) (N := ["_law_script", "_law_k", "_law_cell_here"]) (ps := ["_law_script", "_law_k"]) (b := b2 (fns k)) (T.fun 2 rfl) sc2 fun cdv A outer s H E c => (mb_cons (ms_asg me_int (mg_name 2 sc2.nd))
    (mb_cons (ms_if (mt_gt c (me_len (T.free 2) (ma_cons (me_var 0) ma_nil)) me_int) (mb_one (ms_asg (me_mod (me_ix (me_var 0) (me_mod (me_var 1) (me_len (T.free 2) (ma_cons (me_var 0) ma_nil)))) me_int) (mg_name 2 sc2.nd))) mb_nil)
    (mb_one (ms_ret (me_div (me_mod (me_mul (me_mod (me_mul (me_add (me_add (me_var 2) (me_mul (me_mul me_int (me_var 1)) (me_var 1))) (me_mul me_int (me_var 1))) me_int) me_int) me_int) me_int) me_int)))))
theorem ok3 (T : Tp fa fn xl K mg) (I : Ok P w base T k) : FnG P w K mg base (L2.CX P w) (2 * (k + 1)) (He.fAd K ("_law_mixed", none)) (T.fd 3 rfl) ["_law_number", "_law_k"] (spc K (gam K) 2 (fns (k + 1) 3)) :=
  fnD_ok (k := 2 * k + 1) (N := ["_law_number", "_law_k"]) (ps := ["_law_number", "_law_k"]) (b := b3 (fns k)) (T.fun 3 rfl) sc3 fun cdv A outer s H E c => (mb_one (ms_ret (me_div (me_mod (me_mul (me_mod (me_mul (me_add (me_add (me_add (me_var 0) (me_mul (me_mul me_int (me_var 1)) (me_var 1))) (me_mul me_int (me_var 1))) me_int) me_int) me_int) me_int) me_int) me_int)))
theorem ok4 (T : Tp fa fn xl K mg) (I : Ok P w base T k) : FnG P w K mg base (L2.CX P w) (2 * (k + 1)) (He.fAd K ("_law_names", none)) (T.fd 4 rfl) ["_law_number"] (spc K (gam K) 1 (fns (k + 1) 4)) :=
  fnD_ok (k := 2 * k + 1) (N := ["_law_number", "_law_letters", "_law_base", "_law_size", "_law_at", "_law_signs", "_law_some", "_law_found", "_law_first", "_law_other", "_law_told", "_law_j", "_law_k", "_law_sign", "_law_name"]) (ps := ["_law_number"]) (b := b4 (fns k)) (T.fun 4 rfl) sc4 fun cdv A outer s H E c => (mb_cons (ms_asg me_str (mg_name 1 sc4.nd))
    (mb_cons (ms_asg (me_bm PySem.F.plainAttrs_str PySem.F.slot_str_join PySem.F.type_str_join mt_join ty_str rv_join me_str (ma_cons (me_tree (ml_comp c [("_law_j", 11)] sc4.nd (mi_rng1 (T.free 5) (ma_cons me_int ma_nil)) (blkOk_by (own := [("_law_j", 11)]) (N := ["_law_number", "_law_letters", "_law_base", "_law_size", "_law_at", "_law_signs", "_law_some", "_law_found", "_law_first", "_law_other", "_law_told", "_law_j", "_law_k", "_law_sign", "_law_name"]) (sc := defScope s4) (by decide +kernel)) (fun _ _ _ _ _ => (mgb_name 11 sc4.nd)) (fun _ _ _ _ _ c1 => mts_nil) (fun _ _ _ _ _ c1 => (me_ix (me_var 1) (me_mod (me_callJ c1 (Nat.le_succ _) I.g3 (T.glo 6) (T.fun 3 rfl).kp (bd3 T) (ma_cons (me_var 0) (ma_cons (me_var 11) ma_nil))) me_int))))) ma_nil)) (mg_name 2 sc4.nd))
    (mb_cons (ms_if (mt_lt c (me_mod (me_var 0) me_int) me_int) (mb_cons (ms_asg (me_add me_int (me_mod (me_div (me_var 0) me_int) me_int)) (mg_name 3 sc4.nd))
    (mb_cons (ms_asg (me_mod (me_div (me_var 0) me_int) (me_var 3)) (mg_name 4 sc4.nd))
    (mb_cons (ms_asg (me_if (mt_eq c (me_var 4) me_int) (me_var 1) (me_add (me_var 1) me_str)) (mg_name 5 sc4.nd))
    (mb_cons (ms_setLc (i := 6) c [("_law_k", 12)] sc4.nd rfl rfl (sw_true rfl rfl rfl (by decide +kernel)) (mi_rng1 (T.free 5) (ma_cons me_int ma_nil)) (blkOk_by (own := [("_law_k", 12)]) (N := ["_law_number", "_law_letters", "_law_base", "_law_size", "_law_at", "_law_signs", "_law_some", "_law_found", "_law_first", "_law_other", "_law_told", "_law_j", "_law_k", "_law_sign", "_law_name"]) (sc := defScope s4) (by decide +kernel)) (fun _ _ _ _ _ => (mgb_name 12 sc4.nd)) (fun _ _ _ _ _ c1 => mts_nil) (fun _ _ _ _ _ c1 => (me_ix (me_var 5) (me_mod (me_add (me_div (me_var 0) me_int) (me_mul me_int (me_var 12))) (me_len (T.free 2) (ma_cons (me_var 5) ma_nil))))) as_tree)
    (mb_one (ms_setLc (i := 7) c [("_law_sign", 13)] sc4.nd rfl rfl (sw_true rfl rfl rfl (by decide +kernel)) (mi_any (me_var 6)) (blkOk_by (own := [("_law_sign", 13)]) (N := ["_law_number", "_law_letters", "_law_base", "_law_size", "_law_at", "_law_signs", "_law_some", "_law_found", "_law_first", "_law_other", "_law_told", "_law_j", "_law_k", "_law_sign", "_law_name"]) (sc := defScope s4) (by decide +kernel)) (fun _ _ _ _ _ => (mgb_name 13 sc4.nd)) (fun _ _ _ _ _ c1 => mts_nil) (fun _ _ _ _ _ c1 => (me_add (me_add (me_sl (me_var 2) mo_no (mo_some (me_var 4))) (me_var 13)) (me_sl (me_var 2) (mo_some (me_add (me_var 4) me_int)) (mo_some (me_var 3))))) as_tree)))))) (mb_one (ms_if (mt_eq c (me_mod (me_var 0) me_int) me_int) (mb_cons (ms_asg (me_add (me_add (me_bm PySem.F.plainAttrs_str PySem.F.slot_str_index PySem.F.type_str_index mt_sindex ty_str rv_sindex (me_var 1) (ma_cons (me_ix (me_var 2) me_int) ma_nil)) me_int) (me_mod (me_div (me_var 0) me_int) me_int)) (mg_name 8 sc4.nd))
    (mb_cons (ms_asg (me_add (me_ix (me_var 1) (me_mod (me_var 8) me_int)) (me_sl (me_var 2) (mo_some me_int) mo_no)) (mg_name 9 sc4.nd))
    (mb_cons (ms_setLc (i := 7) c [("_law_k", 12)] sc4.nd rfl rfl (sw_true rfl rfl rfl (by decide +kernel)) (mi_rng1 (T.free 5) (ma_cons me_int ma_nil)) (blkOk_by (own := [("_law_k", 12)]) (N := ["_law_number", "_law_letters", "_law_base", "_law_size", "_law_at", "_law_signs", "_law_some", "_law_found", "_law_first", "_law_other", "_law_told", "_law_j", "_law_k", "_law_sign", "_law_name"]) (sc := defScope s4) (by decide +kernel)) (fun _ _ _ _ _ => (mgb_name 12 sc4.nd)) (fun _ _ _ _ _ c1 => mts_nil) (fun _ _ _ _ _ c1 => (me_sl (me_var 2) mo_no (mo_some (me_add (me_var 12) me_int)))) as_tree)
    (mb_one (ms_asg (me_add (me_var 7) (me_tree (ml_comp c [("_law_k", 12)] sc4.nd (mi_rng1 (T.free 5) (ma_cons me_int ma_nil)) (blkOk_by (own := [("_law_k", 12)]) (N := ["_law_number", "_law_letters", "_law_base", "_law_size", "_law_at", "_law_signs", "_law_some", "_law_found", "_law_first", "_law_other", "_law_told", "_law_j", "_law_k", "_law_sign", "_law_name"]) (sc := defScope s4) (by decide +kernel)) (fun _ _ _ _ _ => (mgb_name 12 sc4.nd)) (fun _ _ _ _ _ c1 => mts_nil) (fun _ _ _ _ _ c1 => (me_sl (me_var 9) mo_no (mo_some (me_add (me_var 12) me_int))))))) (mg_name 7 sc4.nd)))))) (mb_one (ms_setLc (i := 7) c [("_law_k", 12)] sc4.nd rfl rfl (sw_true rfl rfl rfl (by decide +kernel)) (mi_rng1 (T.free 5) (ma_cons me_int ma_nil)) (blkOk_by (own := [("_law_k", 12)]) (N := ["_law_number", "_law_letters", "_law_base", "_law_size", "_law_at", "_law_signs", "_law_some", "_law_found", "_law_first", "_law_other", "_law_told", "_law_j", "_law_k", "_law_sign", "_law_name"]) (sc := defScope s4) (by decide +kernel)) (fun _ _ _ _ _ => (mgb_name 12 sc4.nd)) (fun _ _ _ _ _ c1 => mts_nil) (fun _ _ _ _ _ c1 => (me_ix (me_var 1) (me_mod (me_add (me_div (me_var 0) me_int) (me_mul me_int (me_var 12))) me_int))) as_tree)))))
    (mb_cons (ms_asg (me_bm PySem.F.plainAttrs_str PySem.F.slot_str_split PySem.F.type_str_split mt_split ty_str rv_split me_str (ma_cons me_str ma_nil)) (mg_name 10 sc4.nd))
    (mb_cons (ms_if (mt_ne c (me_tree (ml_comp c [("_law_name", 14)] sc4.nd (mi_any (me_var 7)) (blkOk_by (own := [("_law_name", 14)]) (N := ["_law_number", "_law_letters", "_law_base", "_law_size", "_law_at", "_law_signs", "_law_some", "_law_found", "_law_first", "_law_other", "_law_told", "_law_j", "_law_k", "_law_sign", "_law_name"]) (sc := defScope s4) (by decide +kernel)) (fun _ _ _ _ _ => (mgb_name 14 sc4.nd)) (fun _ _ _ _ _ c1 => (mts_one (mt_in c1 (me_var 14) (me_var 10)))) (fun _ _ _ _ _ c1 => (me_var 14)))) (me_tree (ml_disp ma_nil))) (mb_one (ms_ret (me_tree (ml_comp c [("_law_k", 12)] sc4.nd (mi_rng1 (T.free 5) (ma_cons me_int ma_nil)) (blkOk_by (own := [("_law_k", 12)]) (N := ["_law_number", "_law_letters", "_law_base", "_law_size", "_law_at", "_law_signs", "_law_some", "_law_found", "_law_first", "_law_other", "_law_told", "_law_j", "_law_k", "_law_sign", "_law_name"]) (sc := defScope s4) (by decide +kernel)) (fun _ _ _ _ _ => (mgb_name 12 sc4.nd)) (fun _ _ _ _ _ c1 => mts_nil) (fun _ _ _ _ _ c1 => (me_add me_str (me_ix (me_var 1) (me_var 12)))))))) mb_nil)
    (mb_one (ms_ret (me_var 7))))))))
theorem ok5 (T : Tp fa fn xl K mg) (I : Ok P w base T k) : FnG P w K mg base (L2.CX P w) (2 * (k + 1)) (He.fAd K ("_law_has_ring", none)) (T.fd 5 rfl) ["_law_asks"] (spc K (gam K) 1 (fns (k + 1) 5)) :=
  fnD_ok (k := 2 * k + 1) (N := ["_law_asks", "_law_left", "_law_going", "_law_gone", "_law_name", "_law_one"]) (ps := ["_law_asks"]) (b := b5 (fns k)) (T.fun 5 rfl) sc5 fun cdv A outer s H E c => (mb_cons (ms_asg (me_cellD (md_dictOf c (T.free 1) (ma_cons (me_var 0) ma_nil))) (mg_name 1 sc5.nd))
    (mb_cons (ms_asg me_bl (mg_name 2 sc5.nd))
    (mb_cons (ms_while c (mt_val (me_var 2)) (mb_cons (ms_lk (mVar 1) (ms_setLc (i := 3) c [("_law_name", 4)] sc5.nd rfl rfl (sw_true rfl rfl rfl (by decide +kernel)) (mi_keys (me_var 1)) (blkOk_by (own := [("_law_name", 4)]) (N := ["_law_asks", "_law_left", "_law_going", "_law_gone", "_law_name", "_law_one"]) (sc := defScope s5) (by decide +kernel)) (fun _ _ _ _ _ => (mgb_name 4 sc5.nd)) (fun _ _ _ _ _ c1 => (mts_one (mt_eq c1 (me_tree (ml_comp c1 [("_law_one", 5)] sc5.nd (mi_any (me_ixD c1 (me_var 1) (me_var 4))) (blkOk_by (own := [("_law_one", 5)]) (by first | kernel_rfl | rfl)) (fun _ _ _ _ _ => (mgb_name 5 sc5.nd)) (fun _ _ _ _ _ c2 => (mts_one (mt_inD c2 (me_var 5) (me_var 1)))) (fun _ _ _ _ _ c2 => (me_var 5)))) (me_tree (ml_disp ma_nil))))) (fun _ _ _ _ _ c1 => (me_var 4)) as_tree))
    (mb_cons (ms_for c (mi_any (me_var 3)) (mg_name 4 sc5.nd) (mb_one (ms_expr (me_dpop (me_var 1) (me_var 4)))))
    (mb_one (ms_asg (me_ne c (me_var 3) (me_tree (ml_disp ma_nil))) (mg_name 2 sc5.nd))))))
    (mb_one (ms_ret (me_neE c (me_var 1) me_dict0))))))
theorem ok6 (T : Tp fa fn xl K mg) (I : Ok P w base T k) : FnG P w K mg base (L2.CX P w) (2 * (k + 1)) (He.fAd K ("_law_is_ring", none)) (T.fd 6 rfl) ["_law_found", "_law_asks"] (spc K (gam K) 2 (fns (k + 1) 6)) :=
  fnD_ok (k := 2 * k + 1) (N := ["_law_found", "_law_asks", "_law_one", "_law_other", "_law_k"]) (ps := ["_law_found", "_law_asks"]) (b := b6 (fns k)) (T.fun 6 rfl) sc6 fun cdv A outer s H E c => (mb_cons (ms_if (MW.mt (mw_or (mt_not (mt_val (me_isi .lst (by decide) (me_var 0) (T.free 9) (T.free 3) (by decide +kernel)))) (mw_or1 (mt_eq c (me_var 0) (me_tree (ml_disp ma_nil)))))) (mb_one (ms_ret me_bl)) mb_nil)
    (mb_cons (ms_if (mt_ne c (me_tree (ml_comp c [("_law_k", 4), ("_law_one", 2)] sc6.nd (mi_enumT (T.free 8) (ma_cons (me_var 0) ma_nil)) (blkOk_by (own := [("_law_k", 4), ("_law_one", 2)]) (N := ["_law_found", "_law_asks", "_law_one", "_law_other", "_law_k"]) (sc := defScope s6) (by decide +kernel)) (fun _ _ _ _ _ => (mgb_tup rfl (mgbs_cons (mgb_name 4 sc6.nd) (mgbs_cons (mgb_name 2 sc6.nd) mgbs_nil)))) (fun _ _ _ _ _ c1 => (mts_one (mt_in c1 (me_var 2) (me_sl (me_var 0) mo_no (mo_some (me_var 4)))))) (fun _ _ _ _ _ c1 => (me_var 2)))) (me_tree (ml_disp ma_nil))) (mb_one (ms_ret me_bl)) mb_nil)
    (mb_cons (ms_for c (mi_zip (T.free 7) (ma_cons (me_var 0) (ma_cons (me_add (me_sl (me_var 0) (mo_some me_int) mo_no) (me_sl (me_var 0) mo_no (mo_some me_int))) ma_nil))) (mg_tup c (mgs_cons (mg_name 2 sc6.nd) (mgs_cons (mg_name 3 sc6.nd) mgs_nil))) (mb_one (ms_if (MW.mt (mw_or (mt_notInD c (me_var 2) (me_var 1)) (mw_or1 (mt_notIn c (me_var 3) (me_ixD c (me_var 1) (me_var 2)))))) (mb_one (ms_ret me_bl)) mb_nil)))
    (mb_one (ms_ret me_bl)))))
theorem ok7 (T : Tp fa fn xl K mg) (I : Ok P w base T k) : FnG P w K mg base (L2.CX P w) (2 * (k + 1)) (He.fAd K ("_law_web", none)) (T.fd 7 rfl) ["_law_script"] (spc K (gam K) 1 (fns (k + 1) 7)) :=
  fnD_ok (k := 2 * k + 1) (N := ["_law_script", "_law_names_here", "_law_many", "_law_back", "_law_found", "_law_k", "_law_number", "_law_asked", "_law_j", "_law_more", "_law_turn", "_law_order", "_law_name"]) (ps := ["_law_script"]) (b := b7 (fns k)) (T.fun 7 rfl) sc7 fun cdv A outer s H E c => (mb_cons (ms_asg (me_callJ c (Nat.le_succ _) I.g4 (T.glo 13) (T.fun 4 rfl).kp (bd4 T) (ma_cons (me_callJ c (Nat.le_succ _) I.g2 (T.glo 10) (T.fun 2 rfl).kp (bd2 T) (ma_cons (me_var 0) (ma_cons me_int ma_nil))) ma_nil)) (mg_name 1 sc7.nd))
    (mb_cons (ms_asg (me_add (me_add (me_var 1) (me_tree (ml_comp c [("_law_name", 12)] sc7.nd (mi_any (me_var 1)) (blkOk_by (own := [("_law_name", 12)]) (N := ["_law_script", "_law_names_here", "_law_many", "_law_back", "_law_found", "_law_k", "_law_number", "_law_asked", "_law_j", "_law_more", "_law_turn", "_law_order", "_law_name"]) (sc := defScope s7) (by decide +kernel)) (fun _ _ _ _ _ => (mgb_name 12 sc7.nd)) (fun _ _ _ _ _ c1 => mts_nil) (fun _ _ _ _ _ c1 => (me_add (me_var 12) me_str))))) (me_tree (ml_comp c [("_law_name", 12)] sc7.nd (mi_any (me_sl (me_var 1) mo_no (mo_some me_int))) (blkOk_by (own := [("_law_name", 12)]) (N := ["_law_script", "_law_names_here", "_law_many", "_law_back", "_law_found", "_law_k", "_law_number", "_law_asked", "_law_j", "_law_more", "_law_turn", "_law_order", "_law_name"]) (sc := defScope s7) (by decide +kernel)) (fun _ _ _ _ _ => (mgb_name 12 sc7.nd)) (fun _ _ _ _ _ c1 => mts_nil) (fun _ _ _ _ _ c1 => (me_add (me_var 12) me_str))))) (mg_name 1 sc7.nd))
    (mb_cons (ms_asg (me_max2 c (T.free 12) (ma_cons me_int (ma_cons (me_min2 c (T.free 11) (ma_cons me_int (ma_cons (me_len (T.free 2) (ma_cons (me_var 0) ma_nil)) ma_nil))) ma_nil))) (mg_name 2 sc7.nd))
    (mb_cons (ms_asg (me_ix (me_tree (ml_disp (ma_cons me_int (ma_cons me_int (ma_cons me_int (ma_cons me_int ma_nil)))))) (me_mod (me_callJ c (Nat.le_succ _) I.g2 (T.glo 10) (T.fun 2 rfl).kp (bd2 T) (ma_cons (me_var 0) (ma_cons me_int ma_nil))) me_int)) (mg_name 3 sc7.nd))
    (mb_cons (ms_asg (me_cellD md_new) (mg_name 4 sc7.nd))
    (mb_cons (ms_for c (mi_rng1 (T.free 5) (ma_cons (me_var 2) ma_nil)) (mg_name 5 sc7.nd) (mb_cons (ms_asg (me_callJ c (Nat.le_succ _) I.g2 (T.glo 10) (T.fun 2 rfl).kp (bd2 T) (ma_cons (me_var 0) (ma_cons (me_var 5) ma_nil))) (mg_name 6 sc7.nd))
    (mb_cons (ms_own 7 (ml_disp ma_nil) sc7.nd)
    (mb_cons (ms_for c (mi_rng1 (T.free 5) (ma_cons (me_ix (me_tree (ml_disp (ma_cons me_int (ma_cons me_int (ma_cons me_int (ma_cons me_int (ma_cons me_int (ma_cons me_int ma_nil)))))))) (me_mod (me_var 6) me_int)) ma_nil)) (mg_name 8 sc7.nd) (mb_cons (ms_asg (me_callJ c (Nat.le_succ _) I.g3 (T.glo 6) (T.fun 3 rfl).kp (bd3 T) (ma_cons (me_var 6) (ma_cons (me_add (me_var 8) (me_var 5)) ma_nil))) (mg_name 9 sc7.nd))
    (mb_one (ms_if (mt_eq c (me_mod (me_var 9) me_int) me_int) (mb_one (ms_expr (me_mut PySem.F.slot_list_append PySem.F.type_list_append mt_append rm_app (me_var 7) (ma_cons (me_add (me_add me_str (me_ix me_str (me_mod (me_div (me_var 9) me_int) me_int))) me_str) ma_nil)))) (mb_one (ms_if (MW.mt (mw_and (mt_gt c (me_var 5) me_int) (mw_and1 (MW.mt (mw_or (mt_eq c (me_var 3) me_int) (mw_or1 (mt_gt c (me_mod (me_var 9) (me_var 3)) me_int))))))) (mb_one (ms_expr (me_mut PySem.F.slot_list_append PySem.F.type_list_append mt_append rm_app (me_var 7) (ma_cons (me_ix (me_var 1) (me_mod (me_div (me_var 9) me_int) (me_var 5))) ma_nil)))) (mb_one (ms_expr (me_mut PySem.F.slot_list_append PySem.F.type_list_append mt_append rm_app (me_var 7) (ma_cons (me_ix (me_var 1) (me_mod (me_div (me_var 9) me_int) (me_var 2))) ma_nil))))))))))
    (mb_one (ms_setX c (me_var 7) (me_var 4) (me_ix (me_var 1) (me_var 5))))))))
    (mb_cons (ms_asg (me_mod (me_callJ c (Nat.le_succ _) I.g2 (T.glo 10) (T.fun 2 rfl).kp (bd2 T) (ma_cons (me_var 0) (ma_cons me_int ma_nil))) (me_var 2)) (mg_name 10 sc7.nd))
    (mb_cons (ms_asg (me_add (me_sl (me_tree (ml_listOf c (T.free 3) (ma_cons (me_var 4) ma_nil))) (mo_some (me_var 10)) mo_no) (me_sl (me_tree (ml_listOf c (T.free 3) (ma_cons (me_var 4) ma_nil))) mo_no (mo_some (me_var 10)))) (mg_name 11 sc7.nd))
    (mb_one (ms_ret (me_cellD (md_dictOf c (T.free 1) (ma_cons (me_tree (ml_comp c [("_law_name", 12)] sc7.nd (mi_any (me_var 11)) (blkOk_by (own := [("_law_name", 12)]) (N := ["_law_script", "_law_names_here", "_law_many", "_law_back", "_law_found", "_law_k", "_law_number", "_law_asked", "_law_j", "_law_more", "_law_turn", "_law_order", "_law_name"]) (sc := defScope s7) (by decide +kernel)) (fun _ _ _ _ _ => (mgb_name 12 sc7.nd)) (fun _ _ _ _ _ c1 => mts_nil) (fun _ _ _ _ _ c1 => (me_tup (ma_cons (me_var 12) (ma_cons (me_ixD c1 (me_var 4) (me_var 12)) ma_nil)))))) ma_nil)))))))))))))
theorem ok8 (T : Tp fa fn xl K mg) (I : Ok P w base T k) : FnG P w K mg base (L2.CX P w) (2 * (k + 1)) (He.fAd K ("law", none)) (T.fd 8 rfl) ["_law_script"] (spc K (gam K) 1 (fns (k + 1) 8)) :=
  fnD_ok (k := 2 * k + 1) (N := ["_law_script", "_law_web_here", "_law_kept", "_law_is_due", "_law_found", "_law_other", "_law_told", "_law_name"]) (ps := ["_law_script"]) (b := b8 (fns k)) (T.fun 8 rfl) sc8 fun cdv A outer s H E c => (mb_cons (ms_asg (me_callJ c (Nat.le_succ _) I.g7 (T.glo 18) (T.fun 7 rfl).kp (bd7 T) (ma_cons (me_var 0) ma_nil)) (mg_name 1 sc8.nd))
    (mb_cons (ms_asg (me_repr c (T.free 14) (ma_cons (me_var 1) ma_nil)) (mg_name 2 sc8.nd))
    (mb_cons (ms_asg (me_callJ c (Nat.le_succ _) I.g5 (T.glo 17) (T.fun 5 rfl).kp (bd5 T) (ma_cons (me_var 1) ma_nil)) (mg_name 3 sc8.nd))
    (mb_cons (ms_asg (me_callJ c (Nat.le_succ _) I.g1 (T.glo 15) (T.fun 1 rfl).kp (bd1 T) (ma_cons (me_var 1) ma_nil)) (mg_name 4 sc8.nd))
    (mb_cons (ms_asg (me_callJ c (Nat.le_succ _) I.g1 (T.glo 15) (T.fun 1 rfl).kp (bd1 T) (ma_cons (me_cellD (md_dictOf c (T.free 1) (ma_cons (me_rev (me_tree (ml_lk (mVar 1) (ml_comp c [("_law_name", 7)] sc8.nd (mi_keys (me_var 1)) (blkOk_by (own := [("_law_name", 7)]) (N := ["_law_script", "_law_web_here", "_law_kept", "_law_is_due", "_law_found", "_law_other", "_law_told", "_law_name"]) (sc := defScope s8) (by decide +kernel)) (fun _ _ _ _ _ => (mgb_name 7 sc8.nd)) (fun _ _ _ _ _ c1 => mts_nil) (fun _ _ _ _ _ c1 => (me_tup (ma_cons (me_var 7) (ma_cons (me_rev (me_ixD c1 (me_var 1) (me_var 7))) ma_nil)))))))) ma_nil))) ma_nil)) (mg_name 5 sc8.nd))
    (mb_cons (ms_if (mt_not (mt_val (me_var 3))) (mb_one (ms_ret (me_and (me_isN (me_var 4) me_non) (me_and (me_isN (me_var 5) me_non) (me_one (me_eq c (me_repr c (T.free 14) (ma_cons (me_var 1) ma_nil)) (me_var 2))))))) mb_nil)
    (mb_cons (ms_if (MW.mt (mw_or (mt_not (mt_val (me_callJ c (Nat.le_succ _) I.g6 (T.glo 16) (T.fun 6 rfl).kp (bd6 T) (ma_cons (me_var 4) (ma_cons (me_var 1) ma_nil))))) (mw_or1 (mt_not (mt_val (me_callJ c (Nat.le_succ _) I.g6 (T.glo 16) (T.fun 6 rfl).kp (bd6 T) (ma_cons (me_var 5) (ma_cons (me_var 1) ma_nil)))))))) (mb_one (ms_ret me_bl)) mb_nil)
    (mb_cons (ms_asg (me_tree (ml_listOf c (T.free 3) (ma_cons (me_var 4) ma_nil))) (mg_name 6 sc8.nd))
    (mb_cons (ms_expr (me_mut PySem.F.slot_list_append PySem.F.type_list_append mt_append rm_app (me_var 4) (ma_cons me_str ma_nil)))
    (mb_one (ms_ret (me_and (me_eq c (me_callJ c (Nat.le_succ _) I.g1 (T.glo 15) (T.fun 1 rfl).kp (bd1 T) (ma_cons (me_var 1) ma_nil)) (me_var 6)) (me_one (me_eq c (me_repr c (T.free 14) (ma_cons (me_var 1) ma_nil)) (me_var 2)))))))))))))))
theorem okAll (T : Tp fa fn xl K mg) : ∀ k, Ok P w base T k
  | 0 => ⟨fn_zero, fn_zero, fn_zero, fn_zero, fn_zero, fn_zero, fn_zero, fn_zero, fn_zero⟩
  | k + 1 => have I := okAll T k
    ⟨ok0 T I, ok1 T I, ok2 T I, ok3 T I, ok4 T I, ok5 T I, ok6 T I, ok7 T I, ok8 T I⟩
end
end Y18

namespace Y18
open PySem L2 Cl TL
theorem lt0 : Str.ofString "q" = mkS [113] := by decide +kernel
theorem lc0 {ev : Nv} {S : So} : mC (.str "q") ev S = some (.ok (.t (.str (mkS [113]))), ev, S) := by rw [← lt0]; rfl
def lv1 : List Nat := [112, 97, 114, 116, 32, 105, 110, 32, 111, 117, 116, 32, 119, 105, 114, 101, 32, 114, 101, 115, 116, 32, 108, 101, 116, 32, 117, 115, 101, 32, 116, 97, 98, 108, 101, 32, 109, 101, 109, 111, 114, 121, 32, 105, 102, 32, 116, 104, 101, 110, 32, 101, 108, 115, 101, 32, 99, 117, 116, 32, 106, 111, 105, 110, 32, 102, 105, 108, 108]
theorem ll1 : lv1.length = 69 := rfl
theorem lt1 : Str.ofString "part in out wire rest let use table memory if then else cut join fill" = mkS lv1 := by decide +kernel
theorem lc1 {ev : Nv} {S : So} : mC (.str "part in out wire rest let use table memory if then else cut join fill") ev S = some (.ok (.t (.str (mkS lv1))), ev, S) := by rw [← lt1]; rfl
theorem lt2 : Str.ofString " " = mkS [32] := by decide +kernel
theorem lc2 {ev : Nv} {S : So} : mC (.str " ") ev S = some (.ok (.t (.str (mkS [32]))), ev, S) := by rw [← lt2]; rfl
def lv3 : List Nat := [48, 49, 50, 51, 52, 53, 54, 55, 56, 57]
theorem ll3 : lv3.length = 10 := rfl
theorem lt3 : Str.ofString "0123456789" = mkS lv3 := by decide +kernel
theorem lc3 {ev : Nv} {S : So} : mC (.str "0123456789") ev S = some (.ok (.t (.str (mkS lv3))), ev, S) := by rw [← lt3]; rfl
theorem lt4 : Str.ofString "" = mkS [] := by decide +kernel
theorem lc4 {ev : Nv} {S : So} : mC (.str "") ev S = some (.ok (.t (.str (mkS []))), ev, S) := by rw [← lt4]; rfl
def lv5 : List Nat := [97, 98, 99, 100, 101, 102, 103, 104, 105, 106, 107, 108, 109, 110, 111, 112, 113, 114, 115, 116, 117, 118, 119, 120, 121, 122]
theorem ll5 : lv5.length = 26 := rfl
theorem lt5 : Str.ofString "abcdefghijklmnopqrstuvwxyz" = mkS lv5 := by decide +kernel
theorem lc5 {ev : Nv} {S : So} : mC (.str "abcdefghijklmnopqrstuvwxyz") ev S = some (.ok (.t (.str (mkS lv5))), ev, S) := by rw [← lt5]; rfl
def lv6 : List Nat := [110, 111, 110, 101]
theorem ll6 : lv6.length = 4 := rfl
theorem lt6 : Str.ofString "none" = mkS lv6 := by decide +kernel
theorem lc6 {ev : Nv} {S : So} : mC (.str "none") ev S = some (.ok (.t (.str (mkS lv6))), ev, S) := by rw [← lt6]; rfl
theorem lt7 : Str.ofString "abc" = mkS [97, 98, 99] := by decide +kernel
theorem lc7 {ev : Nv} {S : So} : mC (.str "abc") ev S = some (.ok (.t (.str (mkS [97, 98, 99]))), ev, S) := by rw [← lt7]; rfl
theorem lt8 : Str.ofString ".z" = mkS [46, 122] := by decide +kernel
theorem lc8 {ev : Nv} {S : So} : mC (.str ".z") ev S = some (.ok (.t (.str (mkS [46, 122]))), ev, S) := by rw [← lt8]; rfl
theorem lt9 : Str.ofString ".a" = mkS [46, 97] := by decide +kernel
theorem lc9 {ev : Nv} {S : So} : mC (.str ".a") ev S = some (.ok (.t (.str (mkS [46, 97]))), ev, S) := by rw [← lt9]; rfl
def lv10 : List Nat := [46, 98, 46, 99]
theorem ll10 : lv10.length = 4 := rfl
theorem lt10 : Str.ofString ".b.c" = mkS lv10 := by decide +kernel
theorem lc10 {ev : Nv} {S : So} : mC (.str ".b.c") ev S = some (.ok (.t (.str (mkS lv10))), ev, S) := by rw [← lt10]; rfl
def lv11 : List Nat := [109, 111, 114, 101]
theorem ll11 : lv11.length = 4 := rfl
theorem lt11 : Str.ofString "more" = mkS lv11 := by decide +kernel
theorem lc11 {ev : Nv} {S : So} : mC (.str "more") ev S = some (.ok (.t (.str (mkS lv11))), ev, S) := by rw [← lt11]; rfl
local macro_rules | `(tactic| walk_at "wp") => `(tactic| simp (disch := first | omega | assumption | decide | exact Nat.le_of_ble_eq_true rfl | decide +kernel | (simp only [List.length_append, List.length_cons, List.length_nil, List.length_take, List.length_drop, List.length_replicate, sl_eq]; omega) | exact rfl) only [↓lc0, ll1, ↓lc1, ↓lc2, ll3, ↓lc3, ↓lc4, ll5, ↓lc5, ll6, ↓lc6, ↓lc7, ↓lc8, ↓lc9, ll10, ↓lc10, ll11, ↓lc11, ↓q_iterK, ↓q_iterV, ↓q_iterP, q_iterKR, q_iterVR, q_iterPR, ↓q_dpop, ↓q_dpopN, ↓q_popN, ↓q_setd, ↓q_setdN, ↓q_setdV, ↓q_aug, ↓q_augD, ↓q_augDN, ↓q_augDV, ↓q_inDN, ↓q_notInDN, ↓q_lsl, ↓q_setX, ↓q_setXN, ↓q_setXI, ↓q_setXB, ↓q_enumT, q_enumTL, q_enumTT, q_wipe0, q_wipe1, q_rest0, q_rest1, q_restD, q_restN, q_restL, q_restK, ↓q_ixDL, ↓q_ixDT, ↓q_ixDS, ↓q_ixDD, ↓q_ixDR, ↓q_ixDB, q_keyS, q_keyI, q_val0, q_val1, q_kSS, q_kII, q_kIS, q_kSI, q_put0, q_put1, q_up0, q_up1, q_mer0, q_mer1, lit_ne, q_small, q_gdS, q_gdN, ↓q_kDisp, ↓q_kDispR, ↓q_prs0, ↓q_prs1, ↓q_prR, ↓q_kNew, ↓q_cellD, ↓q_treeD, q_allK0, q_allK1, q_keyDI, q_keyDS, q_tks0, q_tksS, q_tksI, ↓q_ownD, ↓q_get2, ↓q_get2R, ↓q_get1, ↓q_get1R, q_vwD, q_vwR, q_vwB, q_vwL, q_vwT, q_owDR, q_owDB, ↓q_upd, ↓q_updR, ↓q_updV, q_apT, q_apBR, q_apRR, q_pDR, q_pDB, ↓q_listOf, q_listT, q_listL, ↓q_dictOf, ↓q_fld, ↓q_sfld, ↓q_fldR, ↓q_meth, ↓q_methR, ↓q_make, ↓q_makeR, lk_hit, lk_miss, lk_nil, ↓q_mut, ↓q_mutR, ↓q_mutB, ↓q_mutAR, ↓q_mutAB, q_mutV, q_app, q_popA, q_pop0, ↓q_setL, ↓q_setRR, ↓q_setRB, q_setV, q_ixN, ↓q_par, ↓q_sortT, ↓q_zip, ↓q_zipR, ↓q_enum, ↓q_enumR, ↓r_escB, allT_r, ↓q_parR, ↓q_ixR, ↓q_ixB, ↓q_lenR, ↓q_lenB, ↓q_min, ↓q_max, ↓q_tupT, ↓q_tupL, ↓q_tupB, ↓q_catT, List.mem_cons, List.mem_singleton, true_or, or_true, putFD, List.set_set, and_true, true_and, ↓wp_some, ↓wp_none, wp_ite, ↓r_bnd, ↓r_bndX, ↓r_bndS, ↓r_bndSX, ↓r_nx, ↓r_rt, ↓r_bk, ↓r_ct, ↓r_ex, bnd_ite, bndS_ite, thenS_ite, ans_ite, ↓r_ans, ↓r_ans0, ↓r_bnd0, ↓r_bndS0, ↓r_0, ↓q_var, ↓q_cI, ↓q_cB, ↓q_cN, ↓q_op, ↓q_un, ↓q_test, ↓q_tst, ↓q_tru, ↓q_and, ↓q_or, ↓q_not, ↓q_andV, ↓q_orV, ↓q_notV, ↓q_if, ↓q_nil, ↓q_cons, ↓q_esc, ↓q_tup, ↓q_tupR, ↓q_disp, ↓q_dispR, ↓q_tree, ↓q_cell, ↓q_B, ↓q_mb, ↓q_noP, ↓q_part, ↓q_prt, ↓q_sl, ↓q_chain, ↓q_dict0, ↓q_next, ↓q_brk, ↓q_cnt, ↓q_seq, ↓q_ret, ↓q_retN, ↓q_expr, ↓q_ifS, ↓q_asg, ↓q_laid, ↓q_gT1, ↓q_gR1, ↓q_gTup, ↓q_gTs0, ↓q_gTs1, ↓q_gTt, ↓q_gT1', ↓q_own, ↓q_for, ↓q_rng, ↓q_rng1, ↓q_rng2, ↓q_rev, ↓q_rev1, ↓q_iter, ↓q_itL, ↓q_itT, ↓q_itM, ↓q_add, ↓q_sub, ↓q_neg, ↓q_mul1, ↓q_mul2, ↓q_div, ↓q_mod, ↓q_pow, ↓q_shl, ↓q_shr, ↓q_andB, ↓q_orB, ↓q_xorB, ↓q_lt, ↓q_le, ↓q_gt, ↓q_ge, ↓q_eqI, ↓q_neI, ↓q_eqM, ↓q_neM, ↓q_inM, ↓q_notInM, ↓q_eqB, ↓q_isB, ↓q_notB, ↓q_isN, ↓q_isNI, ↓q_isNT, ↓q_isNL, ↓q_isNS, ↓q_isNr, ↓q_notN, ↓q_notNI, ↓q_notNT, ↓q_notNL, ↓q_notNS, ↓q_notNr, ↓q_isi, tyOf, Ty.sub, ↓q_ixL, ↓q_ixT, ↓q_ixM, ↓q_lenM, ↓q_lenL, ↓q_lenT, ↓q_int, ↓q_intB, ↓q_catM, ↓q_mulM, ↓q_slM, ↓q_slL, ↓q_slT, ↓q_catL, allT_nil, q_allT, m_D, m_B, m_1, m_2, m_3, m_5, m_6, m_7, cut_to, cut_from, cut_mid, cut_all', at0, at1, at2, at3, at4, at5, at6, at7, at8, at9, at10, at11, at12, at13, at14, at15, at16, at17, at18, at19, allT_cons, map_some, bind_some, ↓r_call, ↓r_callR, ↓r_escs0, ↓r_escs, ↓r_escT, ↓r_escR, viewT_t, viewL_t, isStr, List.getElem?_cons_zero, List.getElem?_cons_succ, List.set_cons_zero, List.set_cons_succ, List.map_cons, List.map_nil, List.cons_append, List.nil_append, List.replicate_zero, List.replicate_succ, Nat.reduceSub, Nat.reduceAdd, Nat.reduceLeDiff, Nat.reduceLT, Nat.lt_add_one, Nat.zero_lt_succ, List.length_cons, List.length_nil, if_true, if_false, Bool.not_true, Bool.not_false, decide_eq_true_eq, Bool.not_eq_true', decide_eq_false_iff_not, Bool.false_eq_true, reduceCtorEq, ite_true, ite_false, ite_self, q_cast, eq_self, Int.reduceLT, Int.reduceLE, Int.reduceEq, Int.reduceNeg, decide_true, decide_false])
local macro_rules | `(tactic| simp! [$ls,*]) => `(tactic| simp (disch := first | omega | assumption | decide | exact Nat.le_of_ble_eq_true rfl | decide +kernel | (simp only [List.length_append, List.length_cons, List.length_nil, List.length_take, List.length_drop, List.length_replicate, sl_eq]; omega) | exact rfl) only [↓lc0, ll1, ↓lc1, ↓lc2, ll3, ↓lc3, ↓lc4, ll5, ↓lc5, ll6, ↓lc6, ↓lc7, ↓lc8, ↓lc9, ll10, ↓lc10, ll11, ↓lc11, ↓q_iterK, ↓q_iterV, ↓q_iterP, q_iterKR, q_iterVR, q_iterPR, ↓q_dpop, ↓q_dpopN, ↓q_popN, ↓q_setd, ↓q_setdN, ↓q_setdV, ↓q_aug, ↓q_augD, ↓q_augDN, ↓q_augDV, ↓q_inDN, ↓q_notInDN, ↓q_lsl, ↓q_setX, ↓q_setXN, ↓q_setXI, ↓q_setXB, ↓q_enumT, q_enumTL, q_enumTT, q_wipe0, q_wipe1, q_rest0, q_rest1, q_restD, q_restN, q_restL, q_restK, ↓q_ixDL, ↓q_ixDT, ↓q_ixDS, ↓q_ixDD, ↓q_ixDR, ↓q_ixDB, q_keyS, q_keyI, q_val0, q_val1, q_kSS, q_kII, q_kIS, q_kSI, q_put0, q_put1, q_up0, q_up1, q_mer0, q_mer1, lit_ne, q_small, q_gdS, q_gdN, ↓q_kDisp, ↓q_kDispR, ↓q_prs0, ↓q_prs1, ↓q_prR, ↓q_kNew, ↓q_cellD, ↓q_treeD, q_allK0, q_allK1, q_keyDI, q_keyDS, q_tks0, q_tksS, q_tksI, ↓q_ownD, ↓q_get2, ↓q_get2R, ↓q_get1, ↓q_get1R, q_vwD, q_vwR, q_vwB, q_vwL, q_vwT, q_owDR, q_owDB, ↓q_upd, ↓q_updR, ↓q_updV, q_apT, q_apBR, q_apRR, q_pDR, q_pDB, ↓q_listOf, q_listT, q_listL, ↓q_dictOf, ↓q_fld, ↓q_sfld, ↓q_fldR, ↓q_meth, ↓q_methR, ↓q_make, ↓q_makeR, lk_hit, lk_miss, lk_nil, ↓q_mut, ↓q_mutR, ↓q_mutB, ↓q_mutAR, ↓q_mutAB, q_mutV, q_app, q_popA, q_pop0, ↓q_setL, ↓q_setRR, ↓q_setRB, q_setV, q_ixN, ↓q_par, ↓q_sortT, ↓q_zip, ↓q_zipR, ↓q_enum, ↓q_enumR, ↓r_escB, allT_r, ↓q_parR, ↓q_ixR, ↓q_ixB, ↓q_lenR, ↓q_lenB, ↓q_min, ↓q_max, ↓q_tupT, ↓q_tupL, ↓q_tupB, ↓q_catT, List.mem_cons, List.mem_singleton, true_or, or_true, putFD, List.set_set, and_true, true_and, ↓wp_some, ↓wp_none, wp_ite, ↓r_bnd, ↓r_bndX, ↓r_bndS, ↓r_bndSX, ↓r_nx, ↓r_rt, ↓r_bk, ↓r_ct, ↓r_ex, bnd_ite, bndS_ite, thenS_ite, ans_ite, ↓r_ans, ↓r_ans0, ↓r_bnd0, ↓r_bndS0, ↓r_0, ↓q_var, ↓q_cI, ↓q_cB, ↓q_cN, ↓q_op, ↓q_un, ↓q_test, ↓q_tst, ↓q_tru, ↓q_and, ↓q_or, ↓q_not, ↓q_andV, ↓q_orV, ↓q_notV, ↓q_if, ↓q_nil, ↓q_cons, ↓q_esc, ↓q_tup, ↓q_tupR, ↓q_disp, ↓q_dispR, ↓q_tree, ↓q_cell, ↓q_B, ↓q_mb, ↓q_noP, ↓q_part, ↓q_prt, ↓q_sl, ↓q_chain, ↓q_dict0, ↓q_next, ↓q_brk, ↓q_cnt, ↓q_seq, ↓q_ret, ↓q_retN, ↓q_expr, ↓q_ifS, ↓q_asg, ↓q_laid, ↓q_gT1, ↓q_gR1, ↓q_gTup, ↓q_gTs0, ↓q_gTs1, ↓q_gTt, ↓q_gT1', ↓q_own, ↓q_for, ↓q_rng, ↓q_rng1, ↓q_rng2, ↓q_rev, ↓q_rev1, ↓q_iter, ↓q_itL, ↓q_itT, ↓q_itM, ↓q_add, ↓q_sub, ↓q_neg, ↓q_mul1, ↓q_mul2, ↓q_div, ↓q_mod, ↓q_pow, ↓q_shl, ↓q_shr, ↓q_andB, ↓q_orB, ↓q_xorB, ↓q_lt, ↓q_le, ↓q_gt, ↓q_ge, ↓q_eqI, ↓q_neI, ↓q_eqM, ↓q_neM, ↓q_inM, ↓q_notInM, ↓q_eqB, ↓q_isB, ↓q_notB, ↓q_isN, ↓q_isNI, ↓q_isNT, ↓q_isNL, ↓q_isNS, ↓q_isNr, ↓q_notN, ↓q_notNI, ↓q_notNT, ↓q_notNL, ↓q_notNS, ↓q_notNr, ↓q_isi, tyOf, Ty.sub, ↓q_ixL, ↓q_ixT, ↓q_ixM, ↓q_lenM, ↓q_lenL, ↓q_lenT, ↓q_int, ↓q_intB, ↓q_catM, ↓q_mulM, ↓q_slM, ↓q_slL, ↓q_slT, ↓q_catL, allT_nil, q_allT, m_D, m_B, m_1, m_2, m_3, m_5, m_6, m_7, cut_to, cut_from, cut_mid, cut_all', at0, at1, at2, at3, at4, at5, at6, at7, at8, at9, at10, at11, at12, at13, at14, at15, at16, at17, at18, at19, allT_cons, map_some, bind_some, ↓r_call, ↓r_callR, ↓r_escs0, ↓r_escs, ↓r_escT, ↓r_escR, viewT_t, viewL_t, isStr, List.getElem?_cons_zero, List.getElem?_cons_succ, List.set_cons_zero, List.set_cons_succ, List.map_cons, List.map_nil, List.cons_append, List.nil_append, List.replicate_zero, List.replicate_succ, Nat.reduceSub, Nat.reduceAdd, Nat.reduceLeDiff, Nat.reduceLT, Nat.lt_add_one, Nat.zero_lt_succ, List.length_cons, List.length_nil, if_true, if_false, Bool.not_true, Bool.not_false, decide_eq_true_eq, Bool.not_eq_true', decide_eq_false_iff_not, Bool.false_eq_true, reduceCtorEq, ite_true, ite_false, ite_self, q_cast, eq_self, Int.reduceLT, Int.reduceLE, Int.reduceEq, Int.reduceNeg, decide_true, decide_false, $ls,*])
local macro_rules | `(tactic| walk_at "pl") => `(tactic| repeat (first | rw [wp_bnd] | rw [wp_bndS] | rw [wp_thenS]))
local macro_rules | `(tactic| walk_at "ws") => `(tactic| simp (disch := first | omega | assumption | decide | exact Nat.le_of_ble_eq_true rfl | decide +kernel | (simp only [List.length_append, List.length_cons, List.length_nil, List.length_take, List.length_drop, List.length_replicate, sl_eq]; omega) | exact rfl) only [↓lc0, ll1, ↓lc1, ↓lc2, ll3, ↓lc3, ↓lc4, ll5, ↓lc5, ll6, ↓lc6, ↓lc7, ↓lc8, ↓lc9, ll10, ↓lc10, ll11, ↓lc11, ↓q_iterK, ↓q_iterV, ↓q_iterP, q_iterKR, q_iterVR, q_iterPR, ↓q_dpop, ↓q_dpopN, ↓q_popN, ↓q_setd, ↓q_setdN, ↓q_setdV, ↓q_aug, ↓q_augD, ↓q_augDN, ↓q_augDV, ↓q_inDN, ↓q_notInDN, ↓q_lsl, ↓q_setX, ↓q_setXN, ↓q_setXI, ↓q_setXB, ↓q_enumT, q_enumTL, q_enumTT, q_wipe0, q_wipe1, q_rest0, q_rest1, q_restD, q_restN, q_restL, q_restK, ↓q_ixDL, ↓q_ixDT, ↓q_ixDS, ↓q_ixDD, ↓q_ixDR, ↓q_ixDB, q_keyS, q_keyI, q_val0, q_val1, q_kSS, q_kII, q_kIS, q_kSI, q_put0, q_put1, q_up0, q_up1, q_mer0, q_mer1, lit_ne, q_small, q_gdS, q_gdN, ↓q_kDisp, ↓q_kDispR, ↓q_prs0, ↓q_prs1, ↓q_prR, ↓q_kNew, ↓q_cellD, ↓q_treeD, q_allK0, q_allK1, q_keyDI, q_keyDS, q_tks0, q_tksS, q_tksI, ↓q_ownD, ↓q_get2, ↓q_get2R, ↓q_get1, ↓q_get1R, q_vwD, q_vwR, q_vwB, q_vwL, q_vwT, q_owDR, q_owDB, ↓q_upd, ↓q_updR, ↓q_updV, q_apT, q_apBR, q_apRR, q_pDR, q_pDB, ↓q_listOf, q_listT, q_listL, ↓q_dictOf, ↓q_fld, ↓q_sfld, ↓q_fldR, ↓q_meth, ↓q_methR, ↓q_make, ↓q_makeR, lk_hit, lk_miss, lk_nil, ↓q_mut, ↓q_mutR, ↓q_mutB, ↓q_mutAR, ↓q_mutAB, q_mutV, q_app, q_popA, q_pop0, ↓q_setL, ↓q_setRR, ↓q_setRB, q_setV, q_ixN, ↓q_par, ↓q_sortT, ↓q_zip, ↓q_zipR, ↓q_enum, ↓q_enumR, ↓r_escB, allT_r, ↓q_parR, ↓q_ixR, ↓q_ixB, ↓q_lenR, ↓q_lenB, ↓q_min, ↓q_max, ↓q_tupT, ↓q_tupL, ↓q_tupB, ↓q_catT, List.mem_cons, List.mem_singleton, true_or, or_true, putFD, List.set_set, and_true, true_and, ↓wp_some, ↓wp_none, wp_ite, ↓r_bnd, ↓r_bndX, ↓r_bndS, ↓r_bndSX, ↓r_nx, ↓r_rt, ↓r_bk, ↓r_ct, ↓r_ex, bnd_ite, bndS_ite, thenS_ite, ans_ite, ↓r_ans, ↓r_ans0, ↓r_bnd0, ↓r_bndS0, ↓r_0, ↓q_var, ↓q_cI, ↓q_cB, ↓q_cN, ↓q_op, ↓q_un, ↓q_test, ↓q_tst, ↓q_tru, ↓q_and, ↓q_or, ↓q_not, ↓q_andV, ↓q_orV, ↓q_notV, ↓q_if, ↓q_nil, ↓q_cons, ↓q_esc, ↓q_tup, ↓q_tupR, ↓q_disp, ↓q_dispR, ↓q_tree, ↓q_cell, ↓q_B, ↓q_mb, ↓q_noP, ↓q_part, ↓q_prt, ↓q_sl, ↓q_chain, ↓q_dict0, ↓q_next, ↓q_brk, ↓q_cnt, ↓q_seq, ↓q_ret, ↓q_retN, ↓q_expr, ↓q_ifS, ↓q_asg, ↓q_laid, ↓q_gT1, ↓q_gR1, ↓q_gTup, ↓q_gTs0, ↓q_gTs1, ↓q_gTt, ↓q_gT1', ↓q_own, ↓q_for, ↓q_rng, ↓q_rng1, ↓q_rng2, ↓q_rev, ↓q_rev1, ↓q_iter, ↓q_itL, ↓q_itT, ↓q_itM, ↓q_add, ↓q_sub, ↓q_neg, ↓q_mul1, ↓q_mul2, ↓q_div, ↓q_mod, ↓q_pow, ↓q_shl, ↓q_shr, ↓q_andB, ↓q_orB, ↓q_xorB, ↓q_lt, ↓q_le, ↓q_gt, ↓q_ge, ↓q_eqI, ↓q_neI, ↓q_eqM, ↓q_neM, ↓q_inM, ↓q_notInM, ↓q_eqB, ↓q_isB, ↓q_notB, ↓q_isN, ↓q_isNI, ↓q_isNT, ↓q_isNL, ↓q_isNS, ↓q_isNr, ↓q_notN, ↓q_notNI, ↓q_notNT, ↓q_notNL, ↓q_notNS, ↓q_notNr, ↓q_isi, tyOf, Ty.sub, ↓q_ixL, ↓q_ixT, ↓q_ixM, ↓q_lenM, ↓q_lenL, ↓q_lenT, ↓q_int, ↓q_intB, ↓q_catM, ↓q_mulM, ↓q_slM, ↓q_slL, ↓q_slT, ↓q_catL, allT_nil, q_allT, m_D, m_B, m_1, m_2, m_3, m_5, m_6, m_7, cut_to, cut_from, cut_mid, cut_all', at0, at1, at2, at3, at4, at5, at6, at7, at8, at9, at10, at11, at12, at13, at14, at15, at16, at17, at18, at19, allT_cons, map_some, bind_some, ↓r_call, ↓r_callR, ↓r_escs0, ↓r_escs, ↓r_escT, ↓r_escR, viewT_t, viewL_t, isStr, List.getElem?_cons_zero, List.getElem?_cons_succ, List.set_cons_zero, List.set_cons_succ, List.map_cons, List.map_nil, List.cons_append, List.nil_append, List.replicate_zero, List.replicate_succ, Nat.reduceSub, Nat.reduceAdd, Nat.reduceLeDiff, Nat.reduceLT, Nat.lt_add_one, Nat.zero_lt_succ, List.length_cons, List.length_nil, if_true, if_false, Bool.not_true, Bool.not_false, decide_eq_true_eq, Bool.not_eq_true', decide_eq_false_iff_not, Bool.false_eq_true, reduceCtorEq, ite_true, ite_false, ite_self, q_cast, eq_self, Int.reduceLT, Int.reduceLE, Int.reduceEq, Int.reduceNeg, decide_true, decide_false, *])
/-! ### webs of names, in plain Lean -/
abbrev Nm := List Nat
abbrev Web := List (Nm × List Nm)
def keys (A : Web) : List Nm := A.map (·.1)
/-- what a name asks -/
def gets (A : Web) (x : Nm) : List Nm := match A.find? fun p => decide (p.1 = x) with
  | some p => p.2
  | none => []
def lefts (A : Web) : Web := A.map fun p => (p.1, p.2.filter fun y => decide (y ∈ keys A))
/-- who asks a name, in order -/
def askersOf (L : Web) (y : Nm) : List Nm := L.flatMap fun p => (p.2.filter fun z => decide (z = y)).map fun _ => p.1
theorem gets_mem {A : Web} (hn : (keys A).Nodup) {p : Nm × List Nm} (h : p ∈ A) : gets A p.1 = p.2 := by
  unfold gets
  induction A with
  | nil => cases h
  | cons q r ih =>
    rw [List.find?_cons]
    unfold keys at hn
    rw [List.map_cons, List.nodup_cons] at hn
    rcases List.mem_cons.mp h with rfl | h
    · simp
    · have hne : q.1 ≠ p.1 := fun e => hn.1 (by rw [e]; exact List.mem_map.mpr ⟨p, h, rfl⟩)
      rw [decide_eq_false hne]
      exact ih hn.2 h
theorem count_askers {L : Web} (hn : (keys L).Nodup) (x y : Nm) (hx : x ∈ keys L) : (askersOf L y).count x = (gets L x).count y := by
  obtain ⟨p, hp, rfl⟩ := List.mem_map.mp hx
  rw [gets_mem hn hp]
  have one : ∀ q : Nm × List Nm, ((q.2.filter fun z => decide (z = y)).map fun _ => q.1).count p.1 = if q.1 = p.1 then q.2.count y else 0 := fun q => by
    have e : (q.2.filter fun z => decide (z = y)).length = q.2.count y := by
      rw [List.count_eq_countP, List.countP_eq_length_filter]
      congr 1
      apply List.filter_congr
      intro z _
      by_cases h : z = y <;> simp [h]
    rw [List.map_const', e, List.count_replicate]
    by_cases h : q.1 = p.1
    · simp [h]
    · rw [if_neg h, if_neg (by simpa using h)]
  unfold askersOf
  induction L with
  | nil => cases hp
  | cons q r ih =>
    rw [List.flatMap_cons, List.count_append, one q]
    unfold keys at hn
    rw [List.map_cons, List.nodup_cons] at hn
    rcases List.mem_cons.mp hp with rfl | hp
    · rw [if_pos rfl]
      have : (r.flatMap fun q => (q.2.filter fun z => decide (z = y)).map fun _ => q.1).count p.1 = 0 := by
        rw [List.count_eq_zero]
        intro hm
        obtain ⟨q, hq, hq2⟩ := List.mem_flatMap.mp hm
        obtain ⟨_, _, e⟩ := List.mem_map.mp hq2
        exact hn.1 (by rw [← e]; exact List.mem_map.mpr ⟨q, hq, rfl⟩)
      omega
    · have hne : q.1 ≠ p.1 := fun e => hn.1 (by rw [e]; exact List.mem_map.mpr ⟨p, hp, rfl⟩)
      rw [if_neg hne, ih hn.2 hp (List.mem_map.mpr ⟨p, hp, rfl⟩), Nat.zero_add]
/-- names each of which asks one of them -/
def IsR (L : Web) (R : Nm → Prop) : Prop := ∀ x, R x → x ∈ keys L ∧ ∃ y ∈ gets L x, R y
/-- how many it asks that aren't done -/
def cnt (L : Web) (x : Nm) (pr : List Nm) : Nat := ((gets L x).filter fun y => decide (y ∉ pr)).length
theorem cnt_cons (L : Web) (x y : Nm) (pr : List Nm) (h : y ∉ pr) : cnt L x pr = cnt L x (y :: pr) + (gets L x).count y := by
  unfold cnt
  generalize gets L x = l
  induction l with
  | nil => rfl
  | cons z r ih =>
    rw [List.filter_cons, List.filter_cons, List.count_cons]
    by_cases e : z = y
    · subst e
      rw [decide_eq_true h, decide_eq_false (by simp : ¬ z ∉ z :: pr), if_pos rfl, if_neg (by simp), List.length_cons, ih]
      simp; omega
    · have e0 : (z == y) = false := by simpa using e
      rw [e0]
      by_cases hz : z ∈ pr
      · rw [decide_eq_false (by simpa using hz : ¬ z ∉ pr), decide_eq_false (by simp [hz] : ¬ z ∉ y :: pr), if_neg (by simp), if_neg (by simp), ih]
        simp
      · rw [decide_eq_true hz, decide_eq_true (by simp [hz, e] : z ∉ y :: pr), if_pos rfl, if_pos rfl, List.length_cons, List.length_cons, ih]
        simp; omega
structure Kn (L : Web) (m : Nm → Int) (w pr : List Nm) : Prop where
  a : ∀ x ∈ keys L, m x = (cnt L x pr : Int)
  b : w.Nodup ∧ ∀ x ∈ w, x ∈ keys L ∧ m x = 0 ∧ x ∉ pr
  c : pr.Nodup ∧ ∀ x ∈ pr, x ∈ keys L ∧ m x = 0
  d : ∀ x ∈ keys L, m x = 0 → x ∈ w ∨ x ∈ pr
  e : ∀ R, IsR L R → ∀ x ∈ pr, ¬ R x
/-- while a done name's askers are gone through -/
structure Ki (L : Web) (y : Nm) (pre post : List Nm) (m : Nm → Int) (w pr : List Nm) : Prop where
  all : askersOf L y = pre ++ post
  a : ∀ x ∈ keys L, m x = (cnt L x pr : Int) - (pre.count x : Int)
  b : w.Nodup ∧ ∀ x ∈ w, x ∈ keys L ∧ m x = 0 ∧ x ∉ pr ∧ x ≠ y
  c : pr.Nodup ∧ ∀ x ∈ pr, x ∈ keys L ∧ m x = 0
  yy : y ∈ keys L ∧ m y = 0 ∧ y ∉ pr
  d : ∀ x ∈ keys L, m x = 0 → x ∈ w ∨ x ∈ pr ∨ x = y
  e : ∀ R, IsR L R → ∀ x ∈ y :: pr, ¬ R x
def upd1 (m : Nm → Int) (x : Nm) (v : Int) : Nm → Int := fun z => if z = x then v else m z
theorem askers_key {L : Web} {x y : Nm} (h : x ∈ askersOf L y) : x ∈ keys L := by
  obtain ⟨q, hq, hq2⟩ := List.mem_flatMap.mp h
  obtain ⟨_, _, e⟩ := List.mem_map.mp hq2
  rw [← e]; exact List.mem_map.mpr ⟨q, hq, rfl⟩
theorem Ki.begin {L : Web} {m : Nm → Int} {w pr : List Nm} {y : Nm} (h : Kn L m (w ++ [y]) pr) (hL : ∀ x ∈ keys L, ∀ z ∈ gets L x, z ∈ keys L) : Ki L y [] (askersOf L y) m w pr := by
  have hb := h.b
  rw [List.nodup_append] at hb
  have hy := hb.2 y (by simp)
  refine ⟨rfl, fun x hx => by rw [h.a x hx]; simp, ⟨hb.1.1, fun x hx => ?_⟩, h.c, hy, fun x hx hm => ?_, fun R hR x hx => ?_⟩
  · obtain ⟨q1, q2, q3⟩ := hb.2 x (by simp [hx])
    exact ⟨q1, q2, q3, fun e => hb.1.2.2 x hx y (by simp) e⟩
  · rcases h.d x hx hm with q | q
    · rcases List.mem_append.mp q with q | q
      · exact .inl q
      · exact .inr (.inr (List.mem_singleton.mp q))
    · exact .inr (.inl q)
  · rcases List.mem_cons.mp hx with rfl | hx
    · intro hr
      obtain ⟨_, z, hz, hRz⟩ := hR x hr
      have h0 := h.a x hy.1
      rw [hy.2.1] at h0
      have h1 : cnt L x pr = 0 := by omega
      unfold cnt at h1
      have h2 := List.length_eq_zero_iff.mp h1
      rw [List.filter_eq_nil_iff] at h2
      have h3 := h2 z hz
      have h4 : z ∈ pr := by simpa using h3
      exact h.e R hR z h4 hRz
    · exact h.e R hR x hx
theorem Ki.pos {L : Web} (hn : (keys L).Nodup) {m : Nm → Int} {w pr pre post : List Nm} {x y : Nm} (h : Ki L y pre (x :: post) m w pr) : x ∈ keys L ∧ 1 ≤ m x := by
  have hx : x ∈ keys L := askers_key (y := y) (by rw [h.all]; simp)
  refine ⟨hx, ?_⟩
  have h1 := count_askers hn x y hx
  rw [h.all, List.count_append, List.count_cons_self] at h1
  have h2 := cnt_cons L x y pr h.yy.2.2
  rw [h.a x hx]
  omega
theorem Ki.step {L : Web} (hn : (keys L).Nodup) {m : Nm → Int} {w pr pre post : List Nm} {x y : Nm} (h : Ki L y pre (x :: post) m w pr) :
    Ki L y (pre ++ [x]) post (upd1 m x (m x - 1)) (if m x - 1 = 0 then w ++ [x] else w) pr := by
  obtain ⟨hx, hp⟩ := h.pos hn
  have nw : x ∉ w := fun z => by have := (h.b.2 x z).2.1; omega
  have np : x ∉ pr := fun z => by have := (h.c.2 x z).2; omega
  have ny : x ≠ y := fun z => by have := h.yy.2.1; rw [← z] at this; omega
  have oth : ∀ z, z ≠ x → upd1 m x (m x - 1) z = m z := fun z hz => if_neg hz
  have own : upd1 m x (m x - 1) x = m x - 1 := if_pos rfl
  refine ⟨by rw [h.all]; simp, fun z hz => ?_, ?_, ⟨h.c.1, fun z hz => ⟨(h.c.2 z hz).1, by rw [oth z fun e => np (by rw [← e]; exact hz)]; exact (h.c.2 z hz).2⟩⟩, ⟨h.yy.1, by rw [oth y (Ne.symm ny)]; exact h.yy.2.1, h.yy.2.2⟩, fun z hz hm => ?_, h.e⟩
  · rw [List.count_append]
    by_cases e : z = x
    · subst e
      rw [own, h.a z hz]; simp; omega
    · rw [oth z e, h.a z hz]
      have : List.count z [x] = 0 := by rw [List.count_eq_zero]; simpa using e
      omega
  · by_cases h0 : m x - 1 = 0
    · rw [if_pos h0]
      refine ⟨?_, fun z hz => ?_⟩
      · rw [List.nodup_append]
        exact ⟨h.b.1, by simp, fun a ha b hb => by rw [List.mem_singleton.mp hb]; exact fun e => nw (by rw [← e]; exact ha)⟩
      · rcases List.mem_append.mp hz with hz | hz
        · obtain ⟨q1, q2, q3, q4⟩ := h.b.2 z hz
          exact ⟨q1, by rw [oth z fun e => nw (by rw [← e]; exact hz)]; exact q2, q3, q4⟩
        · rw [List.mem_singleton.mp hz]
          exact ⟨hx, by rw [own]; exact h0, np, ny⟩
    · rw [if_neg h0]
      refine ⟨h.b.1, fun z hz => ?_⟩
      obtain ⟨q1, q2, q3, q4⟩ := h.b.2 z hz
      exact ⟨q1, by rw [oth z fun e => nw (by rw [← e]; exact hz)]; exact q2, q3, q4⟩
  · by_cases e : z = x
    · subst e
      rw [own] at hm
      rw [if_pos hm]
      exact .inl (by simp)
    · rw [oth z e] at hm
      rcases h.d z hz hm with q | q | q
      · refine .inl ?_
        split
        · simp [q]
        · exact q
      · exact .inr (.inl q)
      · exact .inr (.inr q)
theorem Ki.fin {L : Web} (hn : (keys L).Nodup) {m : Nm → Int} {w pr pre : List Nm} {y : Nm} (h : Ki L y pre [] m w pr) : Kn L m w (y :: pr) := by
  have hall := h.all
  rw [List.append_nil] at hall
  refine ⟨fun x hx => ?_, ⟨h.b.1, fun x hx => ?_⟩, ⟨List.nodup_cons.mpr ⟨h.yy.2.2, h.c.1⟩, fun x hx => ?_⟩, fun x hx hm => ?_, h.e⟩
  · have h1 := count_askers hn x y hx
    rw [hall] at h1
    have h2 := cnt_cons L x y pr h.yy.2.2
    rw [h.a x hx]
    omega
  · obtain ⟨q1, q2, q3, q4⟩ := h.b.2 x hx
    exact ⟨q1, q2, by simp [q3, q4]⟩
  · rcases List.mem_cons.mp hx with rfl | hx
    · exact ⟨h.yy.1, h.yy.2.1⟩
    · exact h.c.2 x hx
  · rcases h.d x hx hm with q | q | q
    · exact .inl q
    · exact .inr (List.mem_cons_of_mem _ q)
    · exact .inr (by rw [q]; exact List.mem_cons_self)
/-- at the end: what is left -/
theorem Kn.left {L : Web} {m : Nm → Int} {pr : List Nm} (h : Kn L m [] pr) (hL : ∀ x ∈ keys L, ∀ z ∈ gets L x, z ∈ keys L) : ∀ x ∈ keys L, m x ≠ 0 → 0 < m x ∧ ∃ y ∈ gets L x, m y ≠ 0 := by
  intro x hx hm
  have h1 := h.a x hx
  refine ⟨by omega, ?_⟩
  have h2 : cnt L x pr ≠ 0 := by omega
  unfold cnt at h2
  obtain ⟨y, hy⟩ := List.exists_mem_of_ne_nil ((gets L x).filter fun y => decide (y ∉ pr)) (fun z => h2 (by rw [z]; rfl))
  rw [List.mem_filter] at hy
  refine ⟨y, hy.1, fun hz => ?_⟩
  rcases h.d y (hL x hx y hy.1) hz with q | q
  · cases q
  · exact absurd q (by simpa using hy.2)
theorem Kn.ring {L : Web} {m : Nm → Int} {pr : List Nm} (h : Kn L m [] pr) {R : Nm → Prop} (hR : IsR L R) {x : Nm} (hx : R x) : m x ≠ 0 := by
  intro hz
  rcases h.d x (hR x hx).1 hz with q | q
  · cases q
  · exact h.e R hR x q hx
theorem Kn.start {L : Web} {m : Nm → Int} {w : List Nm} (ha : ∀ x ∈ keys L, m x = ((gets L x).length : Int)) (hw : w.Nodup) (hm : ∀ x, x ∈ w ↔ x ∈ keys L ∧ m x = 0) : Kn L m w [] := by
  refine ⟨fun x hx => ?_, ⟨hw, fun x hx => ⟨((hm x).mp hx).1, ((hm x).mp hx).2, by simp⟩⟩, ⟨by simp, by simp⟩, fun x hx h0 => .inl ((hm x).mpr ⟨hx, h0⟩), by simp⟩
  rw [ha x hx]
  unfold cnt
  rw [List.filter_eq_self.mpr (fun _ _ => by simp)]
/-! ### dicts by names -/
abbrev kS (x : Nm) : Key := .inr (mkS x)
abbrev tS (x : Nm) : PyData := .str (mkS x)
def dicF (f : Nm → D) (ks : List Nm) : List (Key × D) := ks.map fun x => (kS x, f x)
theorem len_F (f : Nm → D) (ks : List Nm) : (dicF f ks).length = ks.length := by unfold dicF; rw [List.length_map]
theorem kS_inj {x y : Nm} : kS x = kS y ↔ x = y := ⟨fun h => by unfold kS at h; injection h with h; exact mkS_inj.mp h, fun h => by rw [h]⟩
theorem val_F (f : Nm → D) (ks : List Nm) (x : Nm) : valD (dicF f ks) (.inr (mkS x)) = if x ∈ ks then some (f x) else none := by
  induction ks with
  | nil => rfl
  | cons y r ih =>
    show valD ((kS y, f y) :: dicF f r) (kS x) = _
    rw [q_val1]
    by_cases h : y = x
    · subst h; simp
    · rw [if_neg (fun z => h (kS_inj.mp z)), ih]
      have : x ≠ y := fun z => h z.symm
      simp [this]
theorem val_in {f : Nm → D} {ks : List Nm} {x : Nm} (h : x ∈ ks) : valD (dicF f ks) (.inr (mkS x)) = some (f x) := by rw [val_F, if_pos h]
theorem val_out {f : Nm → D} {ks : List Nm} {x : Nm} (h : x ∉ ks) : valD (dicF f ks) (.inr (mkS x)) = none := by rw [val_F, if_neg h]
theorem val_is (f : Nm → D) (ks : List Nm) (x : Nm) : (valD (dicF f ks) (.inr (mkS x))).isSome = decide (x ∈ ks) := by
  rw [val_F]; by_cases h : x ∈ ks <;> simp [h]
theorem any_F (f : Nm → D) (ks : List Nm) (x : Nm) : ((dicF f ks).any fun kv => decide (kv.1 = kS x)) = decide (x ∈ ks) := by
  induction ks with
  | nil => rfl
  | cons y r ih =>
    show (decide (kS y = kS x) || (dicF f r).any fun kv => decide (kv.1 = kS x)) = _
    rw [ih]
    by_cases h : y = x
    · subst h; simp
    · have h1 : ¬ kS y = kS x := fun z => h (kS_inj.mp z)
      have : x ≠ y := fun z => h z.symm
      simp [h1, this]
theorem put_old {f : Nm → D} {ks : List Nm} {x : Nm} (d : D) (h : x ∈ ks) : putD (dicF f ks) (.inr (mkS x)) d = dicF (fun z => if z = x then d else f z) ks := by
  unfold putD
  have := any_F f ks x
  rw [show (Sum.inr (mkS x) : Key) = kS x from rfl, if_pos (by rw [this]; exact decide_eq_true h)]
  unfold dicF
  rw [List.map_map]
  apply List.map_congr_left
  intro z _
  show (if kS z = kS x then (kS z, d) else (kS z, f z)) = _
  by_cases e : z = x
  · subst e; simp
  · rw [if_neg (fun q => e (kS_inj.mp q))]; dsimp only; rw [if_neg e]
theorem put_newF {f : Nm → D} {ks : List Nm} {x : Nm} (d : D) (h : x ∉ ks) : putD (dicF f ks) (.inr (mkS x)) d = dicF (fun z => if z = x then d else f z) (ks ++ [x]) := by
  unfold putD
  have := any_F f ks x
  rw [show (Sum.inr (mkS x) : Key) = kS x from rfl, if_neg (by rw [this]; simpa using h)]
  unfold dicF
  rw [List.map_append]
  congr 1
  · apply List.map_congr_left
    intro z hz
    have hne : ¬ z = x := fun q => h (by rw [← q]; exact hz)
    dsimp only
    rw [if_neg hne]
  · simp
theorem dicF_congr {f g : Nm → D} {ks : List Nm} (h : ∀ x ∈ ks, f x = g x) : dicF f ks = dicF g ks := by
  unfold dicF
  apply List.map_congr_left
  intro x hx
  rw [h x hx]
theorem drop_F (f : Nm → D) (ks : List Nm) (x : Nm) : dropD (dicF f ks) (.inr (mkS x)) = dicF f (ks.filter fun z => decide (z ≠ x)) := by
  unfold dropD dicF
  rw [List.filter_map]
  congr 1
  apply List.filter_congr
  intro z _
  show decide (kS z ≠ kS x) = _
  by_cases e : z = x
  · subst e; simp
  · have h1 : kS z ≠ kS x := fun q => e (kS_inj.mp q)
    simp only [decide_eq_true h1, decide_eq_true e]
theorem merge_F (f : Nm → D) (ks acc : List Nm) (h : (acc ++ ks).Nodup) : mergeD (dicF f acc) (dicF f ks) = dicF f (acc ++ ks) := by
  induction ks generalizing acc with
  | nil => rw [List.append_nil]; rfl
  | cons x r ih =>
    show mergeD (dicF f acc) ((kS x, f x) :: dicF f r) = _
    have hx : x ∉ acc := fun z => (List.nodup_append.mp h).2.2 x z x List.mem_cons_self rfl
    rw [q_mer1, show kS x = .inr (mkS x) from rfl, put_newF _ hx]
    have e : dicF (fun z => if z = x then f x else f z) (acc ++ [x]) = dicF f (acc ++ [x]) := dicF_congr fun z _ => by
      by_cases q : z = x
      · rw [if_pos q, q]
      · rw [if_neg q]
    rw [e, ih (acc ++ [x]) (by simpa using h)]
    simp
theorem pairs_F (S : So) (g : Nm → PyData) (ks : List Nm) : pairsT S ((ks.map fun x => PyData.tuple [tS x, g x]).map .t) = some (dicF (fun x => .t (g x)) ks) := by
  induction ks with
  | nil => rfl
  | cons i r ih =>
    rw [List.map_cons, List.map_cons, pairsT, ih]
    rfl
theorem dict_F {ev : Nv} {S : So} (g : Nm → PyData) (ks : List Nm) (hn : ks.Nodup) (h : ks.length ≤ 16777216) : dictR [.t (.list (ks.map fun x => .tuple [tS x, g x]))] ev S = some (.ok (dicF (fun x => .t (g x)) ks), ev, S) := by
  have hm := merge_F (fun x => .t (g x)) ks [] (by simpa using hn)
  unfold dictR
  dsimp only
  rw [q_v0L]
  dsimp only
  rw [viewL_t]
  dsimp only
  rw [pairs_F]
  dsimp only
  rw [if_pos (by rw [len_F, sl_eq]; exact h)]
  rw [List.nil_append] at hm
  rw [show mergeD [] (dicF (fun x => .t (g x)) ks) = dicF (fun x => .t (g x)) ks from hm]

end Y18

namespace Y18
open PySem L2 Cl TL
local macro_rules | `(tactic| walk_at "wp") => `(tactic| simp (disch := first | omega | assumption | decide | exact Nat.le_of_ble_eq_true rfl | decide +kernel | (simp only [List.length_append, List.length_cons, List.length_nil, List.length_take, List.length_drop, List.length_replicate, sl_eq]; omega) | exact rfl) only [↓lc0, ll1, ↓lc1, ↓lc2, ll3, ↓lc3, ↓lc4, ll5, ↓lc5, ll6, ↓lc6, ↓lc7, ↓lc8, ↓lc9, ll10, ↓lc10, ll11, ↓lc11, ↓q_iterK, ↓q_iterV, ↓q_iterP, q_iterKR, q_iterVR, q_iterPR, ↓q_dpop, ↓q_dpopN, ↓q_popN, ↓q_setd, ↓q_setdN, ↓q_setdV, ↓q_aug, ↓q_augD, ↓q_augDN, ↓q_augDV, ↓q_inDN, ↓q_notInDN, ↓q_lsl, ↓q_setX, ↓q_setXN, ↓q_setXI, ↓q_setXB, ↓q_enumT, q_enumTL, q_enumTT, q_wipe0, q_wipe1, q_rest0, q_rest1, q_restD, q_restN, q_restL, q_restK, ↓q_ixDL, ↓q_ixDT, ↓q_ixDS, ↓q_ixDD, ↓q_ixDR, ↓q_ixDB, q_keyS, q_keyI, q_val0, q_val1, q_kSS, q_kII, q_kIS, q_kSI, q_put0, q_put1, q_up0, q_up1, q_mer0, q_mer1, lit_ne, q_small, q_gdS, q_gdN, ↓q_kDisp, ↓q_kDispR, ↓q_prs0, ↓q_prs1, ↓q_prR, ↓q_kNew, ↓q_cellD, ↓q_treeD, q_allK0, q_allK1, q_keyDI, q_keyDS, q_tks0, q_tksS, q_tksI, ↓q_ownD, ↓q_get2, ↓q_get2R, ↓q_get1, ↓q_get1R, q_vwD, q_vwR, q_vwB, q_vwL, q_vwT, q_owDR, q_owDB, ↓q_upd, ↓q_updR, ↓q_updV, q_apT, q_apBR, q_apRR, q_pDR, q_pDB, ↓q_listOf, q_listT, q_listL, ↓q_dictOf, ↓q_fld, ↓q_sfld, ↓q_fldR, ↓q_meth, ↓q_methR, ↓q_make, ↓q_makeR, lk_hit, lk_miss, lk_nil, ↓q_mut, ↓q_mutR, ↓q_mutB, ↓q_mutAR, ↓q_mutAB, q_mutV, q_app, q_popA, q_pop0, ↓q_setL, ↓q_setRR, ↓q_setRB, q_setV, q_ixN, ↓q_par, ↓q_sortT, ↓q_zip, ↓q_zipR, ↓q_enum, ↓q_enumR, ↓r_escB, allT_r, ↓q_parR, ↓q_ixR, ↓q_ixB, ↓q_lenR, ↓q_lenB, ↓q_min, ↓q_max, ↓q_tupT, ↓q_tupL, ↓q_tupB, ↓q_catT, List.mem_cons, List.mem_singleton, true_or, or_true, putFD, List.set_set, and_true, true_and, ↓wp_some, ↓wp_none, wp_ite, ↓r_bnd, ↓r_bndX, ↓r_bndS, ↓r_bndSX, ↓r_nx, ↓r_rt, ↓r_bk, ↓r_ct, ↓r_ex, bnd_ite, bndS_ite, thenS_ite, ans_ite, ↓r_ans, ↓r_ans0, ↓r_bnd0, ↓r_bndS0, ↓r_0, ↓q_var, ↓q_cI, ↓q_cB, ↓q_cN, ↓q_op, ↓q_un, ↓q_test, ↓q_tst, ↓q_tru, ↓q_and, ↓q_or, ↓q_not, ↓q_andV, ↓q_orV, ↓q_notV, ↓q_if, ↓q_nil, ↓q_cons, ↓q_esc, ↓q_tup, ↓q_tupR, ↓q_disp, ↓q_dispR, ↓q_tree, ↓q_cell, ↓q_B, ↓q_mb, ↓q_noP, ↓q_part, ↓q_prt, ↓q_sl, ↓q_chain, ↓q_dict0, ↓q_next, ↓q_brk, ↓q_cnt, ↓q_seq, ↓q_ret, ↓q_retN, ↓q_expr, ↓q_ifS, ↓q_asg, ↓q_laid, ↓q_gT1, ↓q_gR1, ↓q_gTup, ↓q_gTs0, ↓q_gTs1, ↓q_gTt, ↓q_gT1', ↓q_own, ↓q_for, ↓q_rng, ↓q_rng1, ↓q_rng2, ↓q_rev, ↓q_rev1, ↓q_iter, ↓q_itL, ↓q_itT, ↓q_itM, ↓q_add, ↓q_sub, ↓q_neg, ↓q_mul1, ↓q_mul2, ↓q_div, ↓q_mod, ↓q_pow, ↓q_shl, ↓q_shr, ↓q_andB, ↓q_orB, ↓q_xorB, ↓q_lt, ↓q_le, ↓q_gt, ↓q_ge, ↓q_eqI, ↓q_neI, ↓q_eqM, ↓q_neM, ↓q_inM, ↓q_notInM, ↓q_eqB, ↓q_isB, ↓q_notB, ↓q_isN, ↓q_isNI, ↓q_isNT, ↓q_isNL, ↓q_isNS, ↓q_isNr, ↓q_notN, ↓q_notNI, ↓q_notNT, ↓q_notNL, ↓q_notNS, ↓q_notNr, ↓q_isi, tyOf, Ty.sub, ↓q_ixL, ↓q_ixT, ↓q_ixM, ↓q_lenM, ↓q_lenL, ↓q_lenT, ↓q_int, ↓q_intB, ↓q_catM, ↓q_mulM, ↓q_slM, ↓q_slL, ↓q_slT, ↓q_catL, allT_nil, q_allT, m_D, m_B, m_1, m_2, m_3, m_5, m_6, m_7, cut_to, cut_from, cut_mid, cut_all', at0, at1, at2, at3, at4, at5, at6, at7, at8, at9, at10, at11, at12, at13, at14, at15, at16, at17, at18, at19, allT_cons, map_some, bind_some, ↓r_call, ↓r_callR, ↓r_escs0, ↓r_escs, ↓r_escT, ↓r_escR, viewT_t, viewL_t, isStr, List.getElem?_cons_zero, List.getElem?_cons_succ, List.set_cons_zero, List.set_cons_succ, List.map_cons, List.map_nil, List.cons_append, List.nil_append, List.replicate_zero, List.replicate_succ, Nat.reduceSub, Nat.reduceAdd, Nat.reduceLeDiff, Nat.reduceLT, Nat.lt_add_one, Nat.zero_lt_succ, List.length_cons, List.length_nil, if_true, if_false, Bool.not_true, Bool.not_false, decide_eq_true_eq, Bool.not_eq_true', decide_eq_false_iff_not, Bool.false_eq_true, reduceCtorEq, ite_true, ite_false, ite_self, q_cast, eq_self, Int.reduceLT, Int.reduceLE, Int.reduceEq, Int.reduceNeg, decide_true, decide_false])
local macro_rules | `(tactic| simp! [$ls,*]) => `(tactic| simp (disch := first | omega | assumption | decide | exact Nat.le_of_ble_eq_true rfl | decide +kernel | (simp only [List.length_append, List.length_cons, List.length_nil, List.length_take, List.length_drop, List.length_replicate, sl_eq]; omega) | exact rfl) only [↓lc0, ll1, ↓lc1, ↓lc2, ll3, ↓lc3, ↓lc4, ll5, ↓lc5, ll6, ↓lc6, ↓lc7, ↓lc8, ↓lc9, ll10, ↓lc10, ll11, ↓lc11, ↓q_iterK, ↓q_iterV, ↓q_iterP, q_iterKR, q_iterVR, q_iterPR, ↓q_dpop, ↓q_dpopN, ↓q_popN, ↓q_setd, ↓q_setdN, ↓q_setdV, ↓q_aug, ↓q_augD, ↓q_augDN, ↓q_augDV, ↓q_inDN, ↓q_notInDN, ↓q_lsl, ↓q_setX, ↓q_setXN, ↓q_setXI, ↓q_setXB, ↓q_enumT, q_enumTL, q_enumTT, q_wipe0, q_wipe1, q_rest0, q_rest1, q_restD, q_restN, q_restL, q_restK, ↓q_ixDL, ↓q_ixDT, ↓q_ixDS, ↓q_ixDD, ↓q_ixDR, ↓q_ixDB, q_keyS, q_keyI, q_val0, q_val1, q_kSS, q_kII, q_kIS, q_kSI, q_put0, q_put1, q_up0, q_up1, q_mer0, q_mer1, lit_ne, q_small, q_gdS, q_gdN, ↓q_kDisp, ↓q_kDispR, ↓q_prs0, ↓q_prs1, ↓q_prR, ↓q_kNew, ↓q_cellD, ↓q_treeD, q_allK0, q_allK1, q_keyDI, q_keyDS, q_tks0, q_tksS, q_tksI, ↓q_ownD, ↓q_get2, ↓q_get2R, ↓q_get1, ↓q_get1R, q_vwD, q_vwR, q_vwB, q_vwL, q_vwT, q_owDR, q_owDB, ↓q_upd, ↓q_updR, ↓q_updV, q_apT, q_apBR, q_apRR, q_pDR, q_pDB, ↓q_listOf, q_listT, q_listL, ↓q_dictOf, ↓q_fld, ↓q_sfld, ↓q_fldR, ↓q_meth, ↓q_methR, ↓q_make, ↓q_makeR, lk_hit, lk_miss, lk_nil, ↓q_mut, ↓q_mutR, ↓q_mutB, ↓q_mutAR, ↓q_mutAB, q_mutV, q_app, q_popA, q_pop0, ↓q_setL, ↓q_setRR, ↓q_setRB, q_setV, q_ixN, ↓q_par, ↓q_sortT, ↓q_zip, ↓q_zipR, ↓q_enum, ↓q_enumR, ↓r_escB, allT_r, ↓q_parR, ↓q_ixR, ↓q_ixB, ↓q_lenR, ↓q_lenB, ↓q_min, ↓q_max, ↓q_tupT, ↓q_tupL, ↓q_tupB, ↓q_catT, List.mem_cons, List.mem_singleton, true_or, or_true, putFD, List.set_set, and_true, true_and, ↓wp_some, ↓wp_none, wp_ite, ↓r_bnd, ↓r_bndX, ↓r_bndS, ↓r_bndSX, ↓r_nx, ↓r_rt, ↓r_bk, ↓r_ct, ↓r_ex, bnd_ite, bndS_ite, thenS_ite, ans_ite, ↓r_ans, ↓r_ans0, ↓r_bnd0, ↓r_bndS0, ↓r_0, ↓q_var, ↓q_cI, ↓q_cB, ↓q_cN, ↓q_op, ↓q_un, ↓q_test, ↓q_tst, ↓q_tru, ↓q_and, ↓q_or, ↓q_not, ↓q_andV, ↓q_orV, ↓q_notV, ↓q_if, ↓q_nil, ↓q_cons, ↓q_esc, ↓q_tup, ↓q_tupR, ↓q_disp, ↓q_dispR, ↓q_tree, ↓q_cell, ↓q_B, ↓q_mb, ↓q_noP, ↓q_part, ↓q_prt, ↓q_sl, ↓q_chain, ↓q_dict0, ↓q_next, ↓q_brk, ↓q_cnt, ↓q_seq, ↓q_ret, ↓q_retN, ↓q_expr, ↓q_ifS, ↓q_asg, ↓q_laid, ↓q_gT1, ↓q_gR1, ↓q_gTup, ↓q_gTs0, ↓q_gTs1, ↓q_gTt, ↓q_gT1', ↓q_own, ↓q_for, ↓q_rng, ↓q_rng1, ↓q_rng2, ↓q_rev, ↓q_rev1, ↓q_iter, ↓q_itL, ↓q_itT, ↓q_itM, ↓q_add, ↓q_sub, ↓q_neg, ↓q_mul1, ↓q_mul2, ↓q_div, ↓q_mod, ↓q_pow, ↓q_shl, ↓q_shr, ↓q_andB, ↓q_orB, ↓q_xorB, ↓q_lt, ↓q_le, ↓q_gt, ↓q_ge, ↓q_eqI, ↓q_neI, ↓q_eqM, ↓q_neM, ↓q_inM, ↓q_notInM, ↓q_eqB, ↓q_isB, ↓q_notB, ↓q_isN, ↓q_isNI, ↓q_isNT, ↓q_isNL, ↓q_isNS, ↓q_isNr, ↓q_notN, ↓q_notNI, ↓q_notNT, ↓q_notNL, ↓q_notNS, ↓q_notNr, ↓q_isi, tyOf, Ty.sub, ↓q_ixL, ↓q_ixT, ↓q_ixM, ↓q_lenM, ↓q_lenL, ↓q_lenT, ↓q_int, ↓q_intB, ↓q_catM, ↓q_mulM, ↓q_slM, ↓q_slL, ↓q_slT, ↓q_catL, allT_nil, q_allT, m_D, m_B, m_1, m_2, m_3, m_5, m_6, m_7, cut_to, cut_from, cut_mid, cut_all', at0, at1, at2, at3, at4, at5, at6, at7, at8, at9, at10, at11, at12, at13, at14, at15, at16, at17, at18, at19, allT_cons, map_some, bind_some, ↓r_call, ↓r_callR, ↓r_escs0, ↓r_escs, ↓r_escT, ↓r_escR, viewT_t, viewL_t, isStr, List.getElem?_cons_zero, List.getElem?_cons_succ, List.set_cons_zero, List.set_cons_succ, List.map_cons, List.map_nil, List.cons_append, List.nil_append, List.replicate_zero, List.replicate_succ, Nat.reduceSub, Nat.reduceAdd, Nat.reduceLeDiff, Nat.reduceLT, Nat.lt_add_one, Nat.zero_lt_succ, List.length_cons, List.length_nil, if_true, if_false, Bool.not_true, Bool.not_false, decide_eq_true_eq, Bool.not_eq_true', decide_eq_false_iff_not, Bool.false_eq_true, reduceCtorEq, ite_true, ite_false, ite_self, q_cast, eq_self, Int.reduceLT, Int.reduceLE, Int.reduceEq, Int.reduceNeg, decide_true, decide_false, $ls,*])
local macro_rules | `(tactic| walk_at "pl") => `(tactic| repeat (first | rw [wp_bnd] | rw [wp_bndS] | rw [wp_thenS]))
local macro_rules | `(tactic| walk_at "ws") => `(tactic| simp (disch := first | omega | assumption | decide | exact Nat.le_of_ble_eq_true rfl | decide +kernel | (simp only [List.length_append, List.length_cons, List.length_nil, List.length_take, List.length_drop, List.length_replicate, sl_eq]; omega) | exact rfl) only [↓lc0, ll1, ↓lc1, ↓lc2, ll3, ↓lc3, ↓lc4, ll5, ↓lc5, ll6, ↓lc6, ↓lc7, ↓lc8, ↓lc9, ll10, ↓lc10, ll11, ↓lc11, ↓q_iterK, ↓q_iterV, ↓q_iterP, q_iterKR, q_iterVR, q_iterPR, ↓q_dpop, ↓q_dpopN, ↓q_popN, ↓q_setd, ↓q_setdN, ↓q_setdV, ↓q_aug, ↓q_augD, ↓q_augDN, ↓q_augDV, ↓q_inDN, ↓q_notInDN, ↓q_lsl, ↓q_setX, ↓q_setXN, ↓q_setXI, ↓q_setXB, ↓q_enumT, q_enumTL, q_enumTT, q_wipe0, q_wipe1, q_rest0, q_rest1, q_restD, q_restN, q_restL, q_restK, ↓q_ixDL, ↓q_ixDT, ↓q_ixDS, ↓q_ixDD, ↓q_ixDR, ↓q_ixDB, q_keyS, q_keyI, q_val0, q_val1, q_kSS, q_kII, q_kIS, q_kSI, q_put0, q_put1, q_up0, q_up1, q_mer0, q_mer1, lit_ne, q_small, q_gdS, q_gdN, ↓q_kDisp, ↓q_kDispR, ↓q_prs0, ↓q_prs1, ↓q_prR, ↓q_kNew, ↓q_cellD, ↓q_treeD, q_allK0, q_allK1, q_keyDI, q_keyDS, q_tks0, q_tksS, q_tksI, ↓q_ownD, ↓q_get2, ↓q_get2R, ↓q_get1, ↓q_get1R, q_vwD, q_vwR, q_vwB, q_vwL, q_vwT, q_owDR, q_owDB, ↓q_upd, ↓q_updR, ↓q_updV, q_apT, q_apBR, q_apRR, q_pDR, q_pDB, ↓q_listOf, q_listT, q_listL, ↓q_dictOf, ↓q_fld, ↓q_sfld, ↓q_fldR, ↓q_meth, ↓q_methR, ↓q_make, ↓q_makeR, lk_hit, lk_miss, lk_nil, ↓q_mut, ↓q_mutR, ↓q_mutB, ↓q_mutAR, ↓q_mutAB, q_mutV, q_app, q_popA, q_pop0, ↓q_setL, ↓q_setRR, ↓q_setRB, q_setV, q_ixN, ↓q_par, ↓q_sortT, ↓q_zip, ↓q_zipR, ↓q_enum, ↓q_enumR, ↓r_escB, allT_r, ↓q_parR, ↓q_ixR, ↓q_ixB, ↓q_lenR, ↓q_lenB, ↓q_min, ↓q_max, ↓q_tupT, ↓q_tupL, ↓q_tupB, ↓q_catT, List.mem_cons, List.mem_singleton, true_or, or_true, putFD, List.set_set, and_true, true_and, ↓wp_some, ↓wp_none, wp_ite, ↓r_bnd, ↓r_bndX, ↓r_bndS, ↓r_bndSX, ↓r_nx, ↓r_rt, ↓r_bk, ↓r_ct, ↓r_ex, bnd_ite, bndS_ite, thenS_ite, ans_ite, ↓r_ans, ↓r_ans0, ↓r_bnd0, ↓r_bndS0, ↓r_0, ↓q_var, ↓q_cI, ↓q_cB, ↓q_cN, ↓q_op, ↓q_un, ↓q_test, ↓q_tst, ↓q_tru, ↓q_and, ↓q_or, ↓q_not, ↓q_andV, ↓q_orV, ↓q_notV, ↓q_if, ↓q_nil, ↓q_cons, ↓q_esc, ↓q_tup, ↓q_tupR, ↓q_disp, ↓q_dispR, ↓q_tree, ↓q_cell, ↓q_B, ↓q_mb, ↓q_noP, ↓q_part, ↓q_prt, ↓q_sl, ↓q_chain, ↓q_dict0, ↓q_next, ↓q_brk, ↓q_cnt, ↓q_seq, ↓q_ret, ↓q_retN, ↓q_expr, ↓q_ifS, ↓q_asg, ↓q_laid, ↓q_gT1, ↓q_gR1, ↓q_gTup, ↓q_gTs0, ↓q_gTs1, ↓q_gTt, ↓q_gT1', ↓q_own, ↓q_for, ↓q_rng, ↓q_rng1, ↓q_rng2, ↓q_rev, ↓q_rev1, ↓q_iter, ↓q_itL, ↓q_itT, ↓q_itM, ↓q_add, ↓q_sub, ↓q_neg, ↓q_mul1, ↓q_mul2, ↓q_div, ↓q_mod, ↓q_pow, ↓q_shl, ↓q_shr, ↓q_andB, ↓q_orB, ↓q_xorB, ↓q_lt, ↓q_le, ↓q_gt, ↓q_ge, ↓q_eqI, ↓q_neI, ↓q_eqM, ↓q_neM, ↓q_inM, ↓q_notInM, ↓q_eqB, ↓q_isB, ↓q_notB, ↓q_isN, ↓q_isNI, ↓q_isNT, ↓q_isNL, ↓q_isNS, ↓q_isNr, ↓q_notN, ↓q_notNI, ↓q_notNT, ↓q_notNL, ↓q_notNS, ↓q_notNr, ↓q_isi, tyOf, Ty.sub, ↓q_ixL, ↓q_ixT, ↓q_ixM, ↓q_lenM, ↓q_lenL, ↓q_lenT, ↓q_int, ↓q_intB, ↓q_catM, ↓q_mulM, ↓q_slM, ↓q_slL, ↓q_slT, ↓q_catL, allT_nil, q_allT, m_D, m_B, m_1, m_2, m_3, m_5, m_6, m_7, cut_to, cut_from, cut_mid, cut_all', at0, at1, at2, at3, at4, at5, at6, at7, at8, at9, at10, at11, at12, at13, at14, at15, at16, at17, at18, at19, allT_cons, map_some, bind_some, ↓r_call, ↓r_callR, ↓r_escs0, ↓r_escs, ↓r_escT, ↓r_escR, viewT_t, viewL_t, isStr, List.getElem?_cons_zero, List.getElem?_cons_succ, List.set_cons_zero, List.set_cons_succ, List.map_cons, List.map_nil, List.cons_append, List.nil_append, List.replicate_zero, List.replicate_succ, Nat.reduceSub, Nat.reduceAdd, Nat.reduceLeDiff, Nat.reduceLT, Nat.lt_add_one, Nat.zero_lt_succ, List.length_cons, List.length_nil, if_true, if_false, Bool.not_true, Bool.not_false, decide_eq_true_eq, Bool.not_eq_true', decide_eq_false_iff_not, Bool.false_eq_true, reduceCtorEq, ite_true, ite_false, ite_self, q_cast, eq_self, Int.reduceLT, Int.reduceLE, Int.reduceEq, Int.reduceNeg, decide_true, decide_false, *])
/-! ### drawn numbers -/
def mixedV (n j : Int) : Int := (n + 7919 * j * j + 31 * j + 1) * 48271 % 2147483647 * 69621 % 2147483629 / 64
theorem mixedV_0 (n j : Int) : 0 ≤ mixedV n j := by unfold mixedV; omega
theorem mixedV_1 (n j : Int) : mixedV n j < 33554432 := by unfold mixedV; omega
theorem mixedE (k : Nat) (n j : Int) (S : So) (h0 : 0 ≤ j) (h1 : j < 1000000) : fns (k + 1) 3 [.t (.int n), .t (.int j)] S = some (.ok (.t (.int (mixedV n j))), S) := by
  rw [e3]
  refine run_eq ?_ ?_
  · rfl
  unfold b3
  simp! []
  unfold mixedV; first | rfl | exact ⟨rfl, rfl⟩
def cellV (ns : List Int) (j : Int) : Int := ((if 0 < ns.length then ns.getD (j % (ns.length : Int)).toNat 0 % 2147483647 else 17) + 7919 * j * j + 31 * j) * 48271 % 2147483647 * 69621 % 2147483629 / 64
theorem cellV_0 (ns : List Int) (j : Int) : 0 ≤ cellV ns j := by unfold cellV; omega
theorem cellV_1 (ns : List Int) (j : Int) : cellV ns j < 33554432 := by unfold cellV; omega
theorem cellE (k : Nat) (ns : List Int) (j : Int) (S : So) (hS : S[0]? = some (.frl (ns.map D.int))) (hn : ns.length ≤ 63) (h0 : 0 ≤ j) (h1 : j < 1000000) : fns (k + 1) 2 [.r 0, .t (.int j)] S = some (.ok (.t (.int (cellV ns j))), S) := by
  rw [e2]
  refine run_eq ?_ ?_
  · rfl
  unfold b2
  by_cases hp : 0 < ns.length
  · have hm0 : 0 ≤ j % (ns.length : Int) := Int.emod_nonneg _ (by omega)
    have hm1 : j % (ns.length : Int) < (ns.length : Int) := Int.emod_lt_of_pos _ (by omega)
    have hz : (ns.map D.int).length ≤ sizeLine := by rw [List.length_map, sl_eq]; omega
    have hg : (ns.length : Int) > 0 := by omega
    have hp' : (0 : Int) < (ns.length : Int) := by omega
    have e : atI (ns.map D.int) (j % (ns.length : Int)) = some (.t (.int (ns.getD (j % (ns.length : Int)).toNat 0))) := by
      rw [atI_nat hm0 (by rw [List.length_map]; exact hm1), List.getElem?_map, List.getElem?_eq_getElem (by omega), List.getD_eq_getElem?_getD, List.getElem?_eq_getElem (by omega)]; rfl
    simp! [hS, hz, hg, List.length_map, e]
    unfold cellV
    rw [if_pos hp]
  · have hz : (ns.map D.int).length ≤ sizeLine := by rw [List.length_map, sl_eq]; omega
    have hg : ¬ (ns.length : Int) > 0 := by omega
    simp! [hS, hz, hg, List.length_map]
    unfold cellV
    rw [if_neg hp]
/-! ### names -/
def lets : List Nat := lv5
def digs : List Nat := lv3
def tolds : List (List Nat) := [[112, 97, 114, 116], [105, 110], [111, 117, 116], [119, 105, 114, 101], [114, 101, 115, 116], [108, 101, 116], [117, 115, 101], [116, 97, 98, 108, 101], [109, 101, 109, 111, 114, 121], [105, 102], [116, 104, 101, 110], [101, 108, 115, 101], [99, 117, 116], [106, 111, 105, 110], [102, 105, 108, 108]]
theorem split_tolds : Txt.split (mkS lv1) (mkS [32]) = tolds.map mkS := by decide +kernel
def letC (i : Int) : Nat := lets.getD i.toNat 0
theorem lets_len : lets.length = 26 := rfl
theorem letC_at {i : Int} (h0 : 0 ≤ i) (h1 : i < 26) : atI lv5 i = some (letC i) := at_some (l := lets) 0 h0 (by rw [lets_len]; exact h1)
theorem letC_mem {i : Int} (h0 : 0 ≤ i) (h1 : i < 26) : letC i ∈ lets := by
  unfold letC
  rw [List.getD_eq_getElem?_getD, List.getElem?_eq_getElem (by rw [lets_len]; omega)]
  exact List.getElem_mem _
def sgnC (z : Bool) (i : Int) : Nat := if z = true then lets.getD (i % 26).toNat 0 else (lets ++ digs).getD (i % 36).toNat 0
def baseL (n : Int) : List Nat := (List.range 8).map fun (i : Nat) => letC (mixedV n (0 + (i : Int)) % 26)
def otherL (n : Int) : List Nat := letC ((mixedV n 0 % 26 + 1 + n / 4 % 25) % 26) :: (baseL n).drop 1
def foundV (n : Int) : List (List Nat) :=
  if n % 4 < 2 then (List.range 16).map fun (i : Nat) => (baseL n).take (n / 32 % (2 + n / 4 % 7)).toNat ++ [sgnC (decide (n / 32 % (2 + n / 4 % 7) = 0)) (n / 256 + 5 * (0 + (i : Int)))] ++ ((baseL n).drop (n / 32 % (2 + n / 4 % 7) + 1).toNat).take ((2 + n / 4 % 7).toNat - (n / 32 % (2 + n / 4 % 7) + 1).toNat)
  else if n % 4 = 2 then ((List.range 8).map fun (i : Nat) => (baseL n).take (0 + (i : Int) + 1).toNat) ++ ((List.range 8).map fun (i : Nat) => (otherL n).take (0 + (i : Int) + 1).toNat)
  else (List.range 16).map fun (i : Nat) => [letC ((n / 4 + 7 * (0 + (i : Int))) % 26)]
def namesV (n : Int) : List (List Nat) := if (foundV n).filter (fun l => decide (l ∈ tolds)) = [] then foundV n else (List.range 16).map fun (i : Nat) => [113, letC (0 + (i : Int))]
theorem baseL_len (n : Int) : (baseL n).length = 8 := by unfold baseL; rw [List.length_map, List.length_range]
theorem splitE {ev : Nv} {S : So} : fSplit ev S (.t (.str (mkS lv1))) [.t (.str (mkS [32]))] = some (.t (.list (tolds.map fun l => .str (mkS l)))) := by
  have e : (Txt.split (mkS lv1) (mkS [32])) = tolds.map mkS := split_tolds
  unfold fSplit
  dsimp only
  rw [e, List.map_map]
  rfl
theorem indexE {ev : Nv} {S : So} {i : Int} (h0 : 0 ≤ i) (h1 : i < 26) : fSIndex ev S (.t (.str (mkS lv5))) [.t (.str (mkS [letC i]))] = some (.t (.int i)) := by
  have key : ∀ j : Fin 26, Builtin.Str.occurrences (mkS lets) (mkS [lets.getD j.val 0]) 0 (mkS lets).length 1 = [j.val] := by decide +kernel
  have := key ⟨i.toNat, by omega⟩
  dsimp only at this
  unfold fSIndex
  dsimp only
  unfold letC
  show (match Builtin.Str.occurrences (mkS lets) (mkS [lets.getD i.toNat 0]) 0 (mkS lets).length 1 with
    | i :: _ => some (D.int ((i : Nat) : Int))
    | [] => none) = _
  rw [this]
  dsimp only
  rw [Int.toNat_of_nonneg h0]
theorem ones_str {α : Type} (xs : List α) (f : α → List Nat) : ones ((xs.map fun x => PyData.str (mkS (f x))).map D.t) = xs.map fun x => Im.one (.t (.str (mkS (f x)))) := by
  unfold ones; rw [List.map_map, List.map_map]; rfl
theorem mem_in (r : List Nat) (L : List (List Nat)) {ev : Nv} {S : So} : dIn ev S (.t (.str (mkS r))) (.t (.list (L.map fun l => .str (mkS l)))) = some (.t (.bool (decide (r ∈ L)))) := by
  have hf : (L.map fun l => PyData.str (mkS l)).all flatP = true := by
    induction L with
    | nil => rfl
    | cons a r ih => rw [List.map_cons, List.all_cons, ih]; rfl
  have hi : inFl (.str (mkS r)) (L.map fun l => .str (mkS l)) = decide (r ∈ L) := by
    unfold inFl; clear hf; induction L with
    | nil => simp
    | cons a L ih =>
      rw [List.map_cons, List.any_cons, ih]
      have : eqFl (.str (mkS a)) (.str (mkS r)) = decide (r = a) := by
        show (mkS a == mkS r) = _
        by_cases h : r = a
        · subst h; simp
        · have : mkS a ≠ mkS r := fun z => h (mkS_inj.mp z).symm
          simp [h, this]
      rw [this]
      simp [List.mem_cons]
  show (inOf ev S (.t (.str (mkS r))) (.t (.list (L.map fun l => .str (mkS l))))).map _ = _
  have : inOf ev S (.t (.str (mkS r))) (.t (.list (L.map fun l => .str (mkS l)))) = some (decide (r ∈ L)) := by
    have e : viewQ ev S (.t (.list (L.map fun l => .str (mkS l)))) = some ((L.map fun l => .str (mkS l)).map D.t) := rfl
    unfold inOf
    simp only [e, bind_some, allT_map, hf, hi]
    rfl
  rw [this]; rfl
/-- texts of small signs -/
theorem strs_sh {L : List (List Nat)} (h : ∀ l ∈ L, ∀ c ∈ l, c < 1114112) : SeqAt.shaped (.list (L.map fun l => .str (mkS l))) = true := by
  have key : PyData.canLayAll0 (L.map fun l => .str (mkS l)) = true ∧ PyData.depthAll (L.map fun l => PyData.str (mkS l)) = 0 := by
    induction L with
    | nil => simp [PyData.canLayAll0, PyData.depthAll]
    | cons a r ih =>
      obtain ⟨i1, i2⟩ := ih fun l hl => h l (List.mem_cons_of_mem _ hl)
      have ha : (PyData.str (mkS a)).canLay0 = true := by
        rw [PyData.canLay0]
        show (mkS a).cps.all _ = true
        rw [Array.all_eq_true]
        intro i hi
        have : (mkS a).cps[i] ∈ a := by
          have h2 : i < a.length := hi
          exact List.getElem_mem h2
        have := h a List.mem_cons_self _ this
        simp
        omega
      rw [List.map_cons, PyData.canLayAll0, PyData.depthAll, ha, i1, i2]
      simp [PyData.depth]
  unfold SeqAt.shaped
  rw [PyData.canLay0, PyData.depth, key.1, key.2]; rfl
theorem ne_nilS {L : List (List Nat)} (h : ∀ l ∈ L, ∀ c ∈ l, c < 1114112) {ev : Nv} {S : So} : dNe ev S (.t (.list (L.map fun l => .str (mkS l)))) (.t (.list [])) = some (.t (.bool (!decide (L = [])))) := by
  rw [v_ne (strs_sh h) rfl]
  cases L <;> simp [PyData.eqv, PyData.eqvAll]
theorem letC_lt (i : Int) : letC i < 123 := by
  unfold letC
  rw [List.getD_eq_getElem?_getD]
  cases h : lets[i.toNat]? with
  | none => simp
  | some c => exact (show ∀ c ∈ lets, c < 123 by decide) c (List.mem_of_getElem? h)
theorem sgnC_lt (z : Bool) (i : Int) : sgnC z i < 123 := by
  unfold sgnC
  split
  · rw [List.getD_eq_getElem?_getD]
    cases h : lets[(i % 26).toNat]? with
    | none => simp
    | some c => exact (show ∀ c ∈ lets, c < 123 by decide) c (List.mem_of_getElem? h)
  · rw [List.getD_eq_getElem?_getD]
    cases h : (lets ++ digs)[(i % 36).toNat]? with
    | none => simp
    | some c => exact (show ∀ c ∈ lets ++ digs, c < 123 by decide) c (List.mem_of_getElem? h)
theorem baseL_lt (n : Int) : ∀ c ∈ baseL n, c < 123 := fun c hc => by
  obtain ⟨i, _, rfl⟩ := List.mem_map.mp hc
  exact letC_lt _
theorem otherL_lt (n : Int) : ∀ c ∈ otherL n, c < 123 := fun c hc => by
  rcases List.mem_cons.mp hc with rfl | hc
  · exact letC_lt _
  · exact baseL_lt n c (List.mem_of_mem_drop hc)
theorem foundV_lt (n : Int) : ∀ l ∈ foundV n, ∀ c ∈ l, c < 123 := fun l hl c hc => by
  unfold foundV at hl
  split at hl
  · obtain ⟨i, _, rfl⟩ := List.mem_map.mp hl
    rcases List.mem_append.mp hc with hc | hc
    · rcases List.mem_append.mp hc with hc | hc
      · exact baseL_lt n c (List.mem_of_mem_take hc)
      · rw [List.mem_singleton.mp hc]; exact sgnC_lt _ _
    · exact baseL_lt n c (List.mem_of_mem_drop (List.mem_of_mem_take hc))
  · split at hl
    · rcases List.mem_append.mp hl with hl | hl
      · obtain ⟨i, _, rfl⟩ := List.mem_map.mp hl
        exact baseL_lt n c (List.mem_of_mem_take hc)
      · obtain ⟨i, _, rfl⟩ := List.mem_map.mp hl
        exact otherL_lt n c (List.mem_of_mem_take hc)
    · obtain ⟨i, _, rfl⟩ := List.mem_map.mp hl
      rw [List.mem_singleton.mp hc]; exact letC_lt _
theorem foundV_len (n : Int) : (foundV n).length ≤ 16 := by
  unfold foundV
  split
  · rw [List.length_map, List.length_range]; omega
  · split
    · rw [List.length_append, List.length_map, List.length_map, List.length_range]; omega
    · rw [List.length_map, List.length_range]; omega
theorem namesE (k : Nat) (n : Int) (S : So) (h0 : 0 ≤ n) : fns (k + 2) 4 [.t (.int n)] S = some (.ok (.t (.list ((namesV n).map fun l => .str (mkS l)))), S) := by
  rw [e4]
  refine run_eq ?_ ?_
  · rfl
  unfold b4
  have mx := mixedV_0 n
  have hbl := baseL_len n
  refine wp_cut (fun e s => S = s ∧ e = [some (.d (.t (.int n))), some (.d (.t (.str (mkS lv5)))), none, none, none, none, none, none, none, none, none, none, none, none, none]) (by simp! []) ?_
  rintro _ _ ⟨rfl, rfl⟩
  refine wp_cut (fun e s => S = s ∧ e = [some (.d (.t (.int n))), some (.d (.t (.str (mkS lv5)))), some (.d (.t (.str (mkS (baseL n))))), none, none, none, none, none, none, none, none, none, none, none, none]) ?_ ?_
  · simp! []
    walk_at "pl"
    refine wp_cA (fun i : Nat => Im.one (.int (0 + (i : Int)))) (fun i => D.t (.str (mkS [letC (mixedV n (0 + (i : Int)) % 26)]))) (List.range 8) ?_
    simp! []
    refine cA_mk rfl (by rw [List.length_range, sl_eq]; omega) trivial ?_ ?_
    · intro i hi
      rw [List.mem_range] at hi
      simp! [mixedE, letC_at, ex_eq]
    · simp! [join_one, List.length_range]
      rfl
  rintro _ _ ⟨rfl, rfl⟩
  refine wp_cut (fun e s => S = s ∧ ∃ x3 x4 x5 x6 x8 x9 : Option En, e = [some (.d (.t (.int n))), some (.d (.t (.str (mkS lv5)))), some (.d (.t (.str (mkS (baseL n))))), x3, x4, x5, x6, some (.d (.t (.list ((foundV n).map fun l => .str (mkS l))))), x8, x9, none, none, none, none, none]) ?_ ?_
  · unfold foundV
    by_cases h1 : n % 4 < 2
    · rw [if_pos h1]
      have hs0 : 0 < 2 + n / 4 % 7 := by omega
      have ha0 : 0 ≤ n / 32 % (2 + n / 4 % 7) := Int.emod_nonneg _ (by omega)
      have ha1 : n / 32 % (2 + n / 4 % 7) < 2 + n / 4 % 7 := Int.emod_lt_of_pos _ hs0
      have hsz : 2 + n / 4 % 7 ≤ 8 := by omega
      generalize hsG : 2 + n / 4 % 7 = size at *
      generalize haG : n / 32 % size = a at *
      have tail : ∀ (l : List Nat) (z : Bool), l.length ≤ 36 → (∀ i : Int, 0 ≤ i → atI l (i % (l.length : Int)) = some (sgnC z i)) → 0 < l.length → z = decide (a = 0) →
          Wp (sSeq (sAsg (gN 6) (mTree (lComp (mRng (mCons (mC (.int 16)) mNil)) (gN 12) mYes (mOp dIx (mVar 5) (mOp dMod (mOp dAdd (mOp dDiv (mVar 0) (mC (.int 256))) (mOp dMul (mC (.int 5)) (mVar 12))) (mB bLen (mCons (mVar 5) mNil)))) [12])))
    (sAsg (gN 7) (mTree (lComp (mIter (mVar 6)) (gN 13) mYes (mOp dAdd (mOp dAdd (mSl (mVar 2) mNoP (mPart (mVar 4))) (mVar 13)) (mSl (mVar 2) (mPart (mOp dAdd (mVar 4) (mC (.int 1)))) (mPart (mVar 3)))) [13])))
          [some (.d (.t (.int n))), some (.d (.t (.str (mkS lv5)))), some (.d (.t (.str (mkS (baseL n))))), some (.d (.t (.int size))), some (.d (.t (.int a))), some (.d (.t (.str (mkS l)))), none, none, none, none, none, none, none, none, none] S)
          fun f e s => f = .nx ∧ S = s ∧ ∃ x3 x4 x5 x6 x8 x9 : Option En, e = [some (.d (.t (.int n))), some (.d (.t (.str (mkS lv5)))), some (.d (.t (.str (mkS (baseL n))))), x3, x4, x5, x6, some (.d (.t (.list ((List.map (fun (i : Nat) => List.take a.toNat (baseL n) ++ [sgnC (decide (a = 0)) (n / 256 + 5 * (0 + (i : Int)))] ++ List.take (size.toNat - (a + 1).toNat) (List.drop (a + 1).toNat (baseL n))) (List.range 16)).map fun l => .str (mkS l))))), x8, x9, none, none, none, none, none] := by
        intro l z hl hat hlp hz
        have hlz : l.length ≤ sizeLine := by rw [sl_eq]; omega
        have hlp' : (0 : Int) < (l.length : Int) := by omega
        simp! []
        walk_at "pl"
        refine wp_cA (fun i : Nat => Im.one (.int (0 + (i : Int)))) (fun i => D.t (.str (mkS [sgnC z (n / 256 + 5 * (0 + (i : Int)))]))) (List.range 16) ?_
        simp! []
        refine cA_mk rfl (by rw [List.length_range, sl_eq]; omega) trivial ?_ ?_
        · intro i hi
          simp! [ex_eq, hat]
        · simp! []
          walk_at "pl"
          refine wp_cA (fun i : Nat => Im.one (.t (.str (mkS [sgnC z (n / 256 + 5 * (0 + (i : Int)))])))) (fun i => D.t (.str (mkS (List.take a.toNat (baseL n) ++ [sgnC z (n / 256 + 5 * (0 + (i : Int)))] ++ List.take (size.toNat - (a + 1).toNat) (List.drop (a + 1).toNat (baseL n)))))) (List.range 16) ?_
          simp! []
          refine cA_mk (ones_str _ _) (by rw [List.length_range, sl_eq]; omega) trivial ?_ ?_
          · intro i hi
            simp! [ex_eq]
          · simp! []
            subst hz
            exact ⟨_, _, _, _, _, _, rfl⟩
      refine wp_ifT (by simp! [h1]) ?_
      refine wp_cut (fun e s => S = s ∧ e = [some (.d (.t (.int n))), some (.d (.t (.str (mkS lv5)))), some (.d (.t (.str (mkS (baseL n))))), some (.d (.t (.int size))), none, none, none, none, none, none, none, none, none, none, none]) (by simp! [hsG]) ?_
      rintro _ _ ⟨rfl, rfl⟩
      refine wp_cut (fun e s => S = s ∧ e = [some (.d (.t (.int n))), some (.d (.t (.str (mkS lv5)))), some (.d (.t (.str (mkS (baseL n))))), some (.d (.t (.int size))), some (.d (.t (.int a))), none, none, none, none, none, none, none, none, none, none]) (by simp! [haG]) ?_
      rintro _ _ ⟨rfl, rfl⟩
      by_cases h2 : a = 0
      · refine wp_cut (fun e s => S = s ∧ e = [some (.d (.t (.int n))), some (.d (.t (.str (mkS lv5)))), some (.d (.t (.str (mkS (baseL n))))), some (.d (.t (.int size))), some (.d (.t (.int a))), some (.d (.t (.str (mkS lv5)))), none, none, none, none, none, none, none, none, none]) (by have h2' := eq_true h2; simp! [h2']) ?_
        rintro _ _ ⟨rfl, rfl⟩
        refine tail _ true (by decide) ?_ (by decide) (decide_eq_true h2).symm
        intro i hi
        unfold sgnC
        rw [if_pos rfl]
        exact at_some (l := lets) 0 (Int.emod_nonneg _ (by decide)) (Int.emod_lt_of_pos _ (by decide))
      · refine wp_cut (fun e s => S = s ∧ e = [some (.d (.t (.int n))), some (.d (.t (.str (mkS lv5)))), some (.d (.t (.str (mkS (baseL n))))), some (.d (.t (.int size))), some (.d (.t (.int a))), some (.d (.t (.str (mkS (lv5 ++ lv3))))), none, none, none, none, none, none, none, none, none]) (by have h2' := eq_false h2; simp! [h2']) ?_
        rintro _ _ ⟨rfl, rfl⟩
        refine tail _ false (by decide) ?_ (by decide) (decide_eq_false h2).symm
        intro i hi
        unfold sgnC
        rw [if_neg (by decide)]
        exact at_some (l := lets ++ digs) 0 (Int.emod_nonneg _ (by decide)) (Int.emod_lt_of_pos _ (by decide))
    · rw [if_neg h1]
      refine wp_ifF (by simp! [h1]) ?_
      by_cases h2 : n % 4 = 2
      · rw [if_pos h2]
        refine wp_ifT (by simp! [h2]) ?_
        have hb0 : atI (baseL n) 0 = some (letC (mixedV n 0 % 26)) := by
          unfold baseL; exact at0 _ _
        have hol : (otherL n).length = 8 := by unfold otherL; rw [List.length_cons, List.length_drop, hbl]
        have hmx := mx 0
        have ho : letC ((mixedV n 0 % 26 + 1 + n / 4 % 25) % 26) :: List.drop (Int.toNat 1) (baseL n) = otherL n := rfl
        simp! [hb0, indexE, letC_at, ho]
        walk_at "pl"
        refine wp_cA (fun i : Nat => Im.one (.int (0 + (i : Int)))) (fun i => D.t (.str (mkS ((baseL n).take (0 + (i : Int) + 1).toNat)))) (List.range 8) ?_
        simp! []
        refine cA_mk rfl (by rw [List.length_range, sl_eq]; omega) trivial ?_ ?_
        · intro i hi
          simp! [ex_eq]
        · simp! []
          walk_at "pl"
          refine wp_cA (fun i : Nat => Im.one (.int (0 + (i : Int)))) (fun i => D.t (.str (mkS ((otherL n).take (0 + (i : Int) + 1).toNat)))) (List.range 8) ?_
          simp! []
          refine cA_mk rfl (by rw [List.length_range, sl_eq]; omega) trivial ?_ ?_
          · intro i hi
            simp! [ex_eq]
          · simp! [List.length_map, List.length_range]
            rw [List.map_append, List.map_map, List.map_map]
            exact ⟨_, _, _, _, _, _, rfl⟩
      · rw [if_neg h2]
        refine wp_ifF (by simp! [h2]) ?_
        simp! []
        walk_at "pl"
        refine wp_cA (fun i : Nat => Im.one (.int (0 + (i : Int)))) (fun i => D.t (.str (mkS [letC ((n / 4 + 7 * (0 + (i : Int))) % 26)]))) (List.range 16) ?_
        simp! []
        refine cA_mk rfl (by rw [List.length_range, sl_eq]; omega) trivial ?_ ?_
        · intro i hi
          simp! [ex_eq, letC_at]
        · simp! []
          exact ⟨_, _, _, _, _, _, by rw [List.map_map]; rfl⟩
  · rintro _ _ ⟨rfl, x3, x4, x5, x6, x8, x9, rfl⟩
    unfold namesV
    have hlt := foundV_lt n
    have hFl := foundV_len n
    generalize foundV n = F at *
    have hfl : F.length ≤ 16 := hFl
    simp! [splitE]
    walk_at "pl"
    refine wp_cB (fun l : List Nat => Im.one (.t (.str (mkS l)))) (fun l => decide (l ∈ tolds)) (fun l => D.t (.str (mkS l))) F ?_
    simp! []
    refine cB_mk (ones_str F id) (by rw [sl_eq]; omega) trivial ?_ ?_
    · intro l hl
      simp! [ex_eq, mem_in]
    · have hne : ∀ ev S, dNe ev S (.t (.list ((F.filter fun l => decide (l ∈ tolds)).map fun l => .str (mkS l)))) (.t (.list [])) = _ := fun ev S => ne_nilS (ev := ev) (S := S) (L := F.filter fun l => decide (l ∈ tolds)) (fun l hl c hc => Nat.lt_trans (hlt l (List.mem_filter.mp hl).1 c hc) (by decide))
      by_cases hF : F.filter (fun l => decide (l ∈ tolds)) = []
      · have hF' := eq_true hF
        simp! [hne, hF', not_true_eq_false]
      · have hF' := eq_false hF
        simp! [hne, hF', not_false_eq_true]
        walk_at "pl"
        refine wp_cA (fun i : Nat => Im.one (.int (0 + (i : Int)))) (fun i => D.t (.str (mkS [113, letC (0 + (i : Int))]))) (List.range 16) ?_
        simp! []
        refine cA_mk rfl (by rw [List.length_range, sl_eq]; omega) trivial ?_ ?_
        · intro i hi
          rw [List.mem_range] at hi
          simp! [ex_eq, letC_at]
        · simp! []
          rw [if_neg hF, List.map_map]; rfl
theorem namesV_len (n : Int) : (namesV n).length = 16 := by
  unfold namesV
  split
  · unfold foundV
    split
    · rw [List.length_map, List.length_range]
    · split
      · rw [List.length_append, List.length_map, List.length_map, List.length_range]
      · rw [List.length_map, List.length_range]
  · rw [List.length_map, List.length_range]
theorem namesV_lt (n : Int) : ∀ l ∈ namesV n, ∀ c ∈ l, c < 123 := fun l hl c hc => by
  unfold namesV at hl
  split at hl
  · exact foundV_lt n l hl c hc
  · obtain ⟨i, _, rfl⟩ := List.mem_map.mp hl
    rcases List.mem_cons.mp hc with rfl | hc
    · decide
    · rw [List.mem_singleton.mp hc]; exact letC_lt _
theorem namesV_8 (n : Int) (h0 : 0 ≤ n) : ∀ l ∈ namesV n, l.length ≤ 8 := fun l hl => by
  have hb := baseL_len n
  unfold namesV at hl
  split at hl
  · unfold foundV at hl
    split at hl
    · obtain ⟨i, _, rfl⟩ := List.mem_map.mp hl
      have hs0 : 0 < 2 + n / 4 % 7 := by omega
      have ha0 : 0 ≤ n / 32 % (2 + n / 4 % 7) := Int.emod_nonneg _ (by omega)
      have ha1 : n / 32 % (2 + n / 4 % 7) < 2 + n / 4 % 7 := Int.emod_lt_of_pos _ hs0
      generalize n / 32 % (2 + n / 4 % 7) = a at *
      simp only [List.length_append, List.length_take, List.length_drop, hb, List.length_singleton]
      omega
    · split at hl
      · rcases List.mem_append.mp hl with hl | hl
        · obtain ⟨i, _, rfl⟩ := List.mem_map.mp hl
          rw [List.length_take, hb]; omega
        · obtain ⟨i, _, rfl⟩ := List.mem_map.mp hl
          unfold otherL
          rw [List.length_take, List.length_cons, List.length_drop, hb]; omega
      · obtain ⟨i, _, rfl⟩ := List.mem_map.mp hl
        simp
  · obtain ⟨i, _, rfl⟩ := List.mem_map.mp hl
    simp
/-! ### the web -/
def NmOk (x : Nm) : Prop := x.length ≤ 12 ∧ ∀ c ∈ x, c < 123
abbrev fD (f : Nm → List Nm) (x : Nm) : D := .t (.list ((f x).map tS))
structure WebOk (f : Nm → List Nm) (ks : List Nm) : Prop where
  nd : ks.Nodup
  l1 : 1 ≤ ks.length
  l2 : ks.length ≤ 40
  len : ∀ x ∈ ks, (f x).length ≤ 4
  nm : ∀ x ∈ ks, NmOk x
  nf : ∀ x ∈ ks, ∀ y ∈ f x, NmOk y
def allV (ns : List Int) : List Nm := namesV (cellV ns 0) ++ (namesV (cellV ns 0)).map (· ++ [46, 97]) ++ ((namesV (cellV ns 0)).take 8).map (· ++ lv10)
theorem allV_len (ns : List Int) : (allV ns).length = 40 := by
  unfold allV
  rw [List.length_append, List.length_append, List.length_map, List.length_map, List.length_take, namesV_len]; rfl
theorem allV_ok (ns : List Int) : ∀ x ∈ allV ns, NmOk x := fun x hx => by
  have h8 := namesV_8 (cellV ns 0) (cellV_0 ns 0)
  have hc := namesV_lt (cellV ns 0)
  unfold allV at hx
  rcases List.mem_append.mp hx with hx | hx
  · rcases List.mem_append.mp hx with hx | hx
    · exact ⟨by have := h8 x hx; omega, hc x hx⟩
    · obtain ⟨y, hy, rfl⟩ := List.mem_map.mp hx
      refine ⟨by have := h8 y hy; rw [List.length_append]; show _ + 2 ≤ 12; omega, fun c hcc => ?_⟩
      rcases List.mem_append.mp hcc with h | h
      · exact hc y hy c h
      · exact (show ∀ c ∈ [46, 97], c < 123 by decide) c h
  · obtain ⟨y, hy, rfl⟩ := List.mem_map.mp hx
    have hy := List.mem_of_mem_take hy
    refine ⟨by have := h8 y hy; rw [List.length_append]; show _ + 4 ≤ 12; omega, fun c hcc => ?_⟩
    rcases List.mem_append.mp hcc with h | h
    · exact hc y hy c h
    · exact (show ∀ c ∈ lv10, c < 123 by decide) c h
theorem getD_memN {α : Type} {l : List α} {i : Nat} {d : α} (h : i < l.length) : l.getD i d ∈ l := by
  rw [List.getD_eq_getElem?_getD, List.getElem?_eq_getElem h]; exact List.getElem_mem h
theorem all_at (ns : List Int) {i : Int} (h0 : 0 ≤ i) (h1 : i < 40) : ∃ x, atI ((allV ns).map tS) i = some (tS x) ∧ x ∈ allV ns := by
  have hl := allV_len ns
  refine ⟨(allV ns).getD i.toNat [], ?_, getD_memN (by omega)⟩
  rw [atI_nat h0 (by rw [List.length_map]; omega), List.getElem?_map, List.getElem?_eq_getElem (by omega), List.getD_eq_getElem?_getD, List.getElem?_eq_getElem (by omega)]; rfl
/-- a key's list laid -/
def putF (f : Nm → List Nm) (x : Nm) (l : List Nm) : Nm → List Nm := fun z => if z = x then l else f z
theorem put_any (f : Nm → List Nm) (ks : List Nm) (x : Nm) (l : List Nm) : putD (dicF (fD f) ks) (.inr (mkS x)) (.t (.list (l.map tS))) = dicF (fD (putF f x l)) (if x ∈ ks then ks else ks ++ [x]) := by
  have e : (fun z => if z = x then D.t (.list (l.map tS)) else fD f z) = fD (putF f x l) := by
    funext z; unfold fD putF; by_cases h : z = x <;> simp [h]
  by_cases h : x ∈ ks
  · rw [if_pos h, put_old _ h, e]
  · rw [if_neg h, put_newF _ h, e]
structure WebP (f : Nm → List Nm) (ks : List Nm) (n : Nat) : Prop where
  nd : ks.Nodup
  l1 : n ≠ 0 → 1 ≤ ks.length
  l2 : ks.length ≤ n
  len : ∀ x ∈ ks, (f x).length ≤ 4
  nm : ∀ x ∈ ks, NmOk x
  nf : ∀ x ∈ ks, ∀ y ∈ f x, NmOk y
theorem WebP.put {f : Nm → List Nm} {ks : List Nm} {n : Nat} (h : WebP f ks n) {x : Nm} {l : List Nm} (hx : NmOk x) (hl : l.length ≤ 4) (hy : ∀ y ∈ l, NmOk y) : WebP (putF f x l) (if x ∈ ks then ks else ks ++ [x]) (n + 1) := by
  have mem : ∀ z, z ∈ (if x ∈ ks then ks else ks ++ [x]) → z = x ∨ z ∈ ks := fun z hz => by
    split at hz
    · exact .inr hz
    · rcases List.mem_append.mp hz with q | q
      · exact .inr q
      · exact .inl (List.mem_singleton.mp q)
  refine ⟨?_, fun _ => ?_, ?_, fun z hz => ?_, fun z hz => ?_, fun z hz => ?_⟩
  · split
    · exact h.nd
    · rename_i q
      rw [List.nodup_append]
      exact ⟨h.nd, by simp, fun a ha b hb => by rw [List.mem_singleton.mp hb]; exact fun e => q (by rw [← e]; exact ha)⟩
  · split
    · rename_i q; exact List.length_pos_of_mem q
    · rw [List.length_append]; exact Nat.le_add_left _ _
  · have := h.l2
    split
    · omega
    · rw [List.length_append]; exact Nat.succ_le_succ this
  · unfold putF
    by_cases e : z = x
    · rw [if_pos e]; exact hl
    · rw [if_neg e]; exact h.len z ((mem z hz).resolve_left e)
  · rcases mem z hz with rfl | q
    · exact hx
    · exact h.nm z q
  · unfold putF
    by_cases e : z = x
    · rw [if_pos e]; exact hy
    · rw [if_neg e]; exact h.nf z ((mem z hz).resolve_left e)
def c6 (i : Int) : Int := if i % 6 = 0 then 0 else if i % 6 = 1 then 1 else if i % 6 = 2 then 2 else if i % 6 = 3 then 2 else if i % 6 = 4 then 3 else 4
theorem c6_b (i : Int) : 0 ≤ c6 i ∧ c6 i ≤ 4 := by unfold c6; split <;> (try split) <;> (try split) <;> (try split) <;> (try split) <;> omega
theorem c6_at (i : Int) : atI [PyData.int 0, .int 1, .int 2, .int 2, .int 3, .int 4] (i % 6) = some (.int (c6 i)) := by
  unfold c6
  rcases (by omega : i % 6 = 0 ∨ i % 6 = 1 ∨ i % 6 = 2 ∨ i % 6 = 3 ∨ i % 6 = 4 ∨ i % 6 = 5) with e | e | e | e | e | e <;> rw [e]
  · rw [at0]; rfl
  · rw [at1]; rfl
  · rw [at2]; rfl
  · rw [at3]; rfl
  · rw [at4]; rfl
  · rw [at5]; rfl
def b4V (i : Int) : Int := if i % 4 = 0 then 1 else if i % 4 = 1 then 60 else if i % 4 = 2 then 12 else 1
theorem b4_b (i : Int) : 0 < b4V i := by unfold b4V; split <;> (try split) <;> (try split) <;> omega
theorem b4_at (i : Int) : atI [PyData.int 1, .int 60, .int 12, .int 1] (i % 4) = some (.int (b4V i)) := by
  unfold b4V
  rcases (by omega : i % 4 = 0 ∨ i % 4 = 1 ∨ i % 4 = 2 ∨ i % 4 = 3) with e | e | e | e <;> rw [e]
  · rw [at0]; rfl
  · rw [at1]; rfl
  · rw [at2]; rfl
  · rw [at3]; rfl
abbrev vI (i : Int) : Option En := some (.d (.t (.int i)))
abbrev vT (d : PyData) : Option En := some (.d (.t d))
abbrev vR (n : Nat) : Option En := some (.d (.r n))
theorem abc_at {i : Int} (h0 : 0 ≤ i) (h1 : i < 3) : atI [97, 98, 99] i = some ([97, 98, 99].getD i.toNat 0) := at_some (l := [97, 98, 99]) 0 h0 h1
theorem none_ok (i : Nat) : NmOk (lv6 ++ [[97, 98, 99].getD i 0] ++ [46, 122]) := by
  refine ⟨by rw [List.length_append, List.length_append]; show (lv6 : List Nat).length + 1 + 2 ≤ 12; decide, fun c hc => ?_⟩
  rcases List.mem_append.mp hc with hc | hc
  · rcases List.mem_append.mp hc with hc | hc
    · exact (show ∀ c ∈ lv6, c < 123 by decide) c hc
    · rw [List.mem_singleton.mp hc, List.getD_eq_getElem?_getD]
      cases h : [97, 98, 99][i]? with
      | none => simp
      | some c => exact (show ∀ c ∈ [97, 98, 99], c < 123 by decide) c (List.mem_of_getElem? h)
  · exact (show ∀ c ∈ [46, 122], c < 123 by decide) c hc
theorem rng_iN {n i : Nat} {pre post : List Nat} (hp : List.range n = pre ++ i :: post) : i = pre.length ∧ pre.length < n := by
  have hlen := congrArg List.length hp
  rw [List.length_range, List.length_append, List.length_cons] at hlen
  have : (List.range n)[pre.length]? = some i := by rw [hp]; simp
  rw [List.getElem?_range (by omega)] at this
  exact ⟨(Option.some.inj this).symm, by omega⟩
def manyV (z : Int) : Int := if 1 < if z < 40 then z else 40 then if z < 40 then z else 40 else 1
theorem many_eq (z : Int) : (if 1 < if z < 40 then z else 40 then if z < 40 then z else 40 else 1) = manyV z := rfl
theorem manyV_b (z : Int) : 1 ≤ manyV z ∧ manyV z ≤ 40 := by
  unfold manyV
  by_cases h : z < 40
  · simp only [if_pos h]
    by_cases h2 : 1 < z
    · rw [if_pos h2]; omega
    · rw [if_neg h2]; omega
  · simp only [if_neg h]; decide
theorem listR_F {f : Nm → D} {ks : List Nm} {S : So} {n : Nat} (ev : Nv) (hS : S[n]? = some (.dic (dicF f ks))) (hl : ks.length ≤ 1000) : listR [.r n] ev S = some (.ok ((ks.map tS).map .t), ev, S) := by
  have h1 : viewD0 [] S (.r n) = some (dicF f ks) := by unfold viewD0; dsimp only; rw [hS]
  unfold listR
  dsimp only
  rw [h1]
  dsimp only
  rw [if_pos (by rw [len_F, sl_eq]; omega)]
  unfold dicF
  rw [List.map_map, List.map_map]
  rfl
theorem ones_tS (l : List Nm) : ones ((l.map tS).map D.t) = l.map fun x => Im.one (.t (tS x)) := by
  unfold ones; rw [List.map_map, List.map_map]; rfl
theorem webE (k : Nat) (ns : List Int) (hn : ns.length ≤ 63) : ∃ f ks c, WebOk f ks ∧ fns (k + 3) 7 [.r 0] [.frl (ns.map D.int)] = some (.ok (.r 2), [.frl (ns.map D.int), c, .dic (dicF (fD f) ks)]) := by
  suffices q : Wc (fns (k + 3) 7 [.r 0] [.frl (ns.map D.int)]) fun r s => ∃ f ks c, WebOk f ks ∧ r = .ok (.r 2) ∧ s = [.frl (ns.map D.int), c, .dic (dicF (fD f) ks)] by
    obtain ⟨r, s, e, f, ks, c, h1, rfl, rfl⟩ := q
    exact ⟨f, ks, c, h1, e⟩
  rw [e7]
  refine wc_run ?_ ?_
  · rfl
  unfold b7
  have hc0 := cellV_0 ns 0
  have hnl := namesV_len (cellV ns 0)
  have hz : (ns.map D.int).length ≤ sizeLine := by rw [List.length_map, sl_eq]; omega
  have hzz : ((allV ns).map tS).length ≤ sizeLine := by rw [List.length_map, allV_len, sl_eq]; decide
  have hce : ∀ (j : Int) (T : So), 0 ≤ j → j < 1000000 → fns (k + 2) 2 [.r 0, .t (.int j)] (.frl (ns.map D.int) :: T) = some (.ok (.t (.int (cellV ns j))), .frl (ns.map D.int) :: T) := fun j T h0 h1 => cellE (k + 1) ns j _ rfl hn h0 h1
  refine wp_cut (fun e s => s = [.frl (ns.map D.int)] ∧ e = [vR 0, vT (.list ((namesV (cellV ns 0)).map tS)), none, none, none, none, none, none, none, none, none, none, none]) ?_ ?_
  · simp! [hce, namesE]
    try rfl
  rintro _ _ ⟨rfl, rfl⟩
  have hok := allV_ok ns
  have hal := allV_len ns
  have hat := fun i => all_at ns (i := i)
  unfold allV at hzz hok hal hat
  have hz1 : ((namesV (cellV ns 0)).map tS).length ≤ sizeLine := by rw [List.length_map, hnl, sl_eq]; decide
  generalize namesV (cellV ns 0) = nm at *
  simp! []
  walk_at "pl"
  refine wp_cA (fun x : Nm => Im.one (.t (tS x))) (fun x => D.t (tS (x ++ [46, 97]))) nm ?_
  simp! []
  refine cA_mk (ones_tS nm) (by rw [sl_eq]; omega) trivial ?_ ?_
  · intro x hx
    have h12 := hok (x ++ [46, 97]) (List.mem_append.mpr (.inl (List.mem_append.mpr (.inr (List.mem_map.mpr ⟨x, hx, rfl⟩)))))
    have hx8 := h12.1
    rw [List.length_append] at hx8
    simp! [ex_eq]
  simp! []
  have e1 := fun ev (S : So) => q_catL (ev := ev) (S := S) (ts := nm.map tS) (us := nm.map fun x => tS (x ++ [46, 97])) (by rw [List.length_map, List.length_map, sl_eq]; omega)
  simp! [e1]
  walk_at "pl"
  refine wp_cA (fun x : Nm => Im.one (.t (tS x))) (fun x => D.t (tS (x ++ lv10))) (nm.take 8) ?_
  simp! []
  refine cA_mk (by rw [show Int.toNat 8 = 8 from rfl, ← List.map_take]; exact ones_tS _) (by rw [List.length_take, sl_eq]; omega) trivial ?_ ?_
  · intro x hx
    have h12 := hok (x ++ lv10) (List.mem_append.mpr (.inr (List.mem_map.mpr ⟨x, hx, rfl⟩)))
    have hx8 := h12.1
    rw [List.length_append] at hx8
    simp! [ex_eq]
  have hc50 := cellV_0 ns 50
  have hc51 := cellV_0 ns 51
  have e2 := fun ev (S : So) => q_catL (ev := ev) (S := S) (ts := nm.map tS ++ nm.map fun x => tS (x ++ [46, 97])) (us := (nm.take 8).map fun x => tS (x ++ lv10)) (by rw [List.length_append, List.length_map, List.length_map, List.length_map, List.length_take, sl_eq]; omega)
  have e3 : (nm.map tS ++ nm.map fun x => tS (x ++ [46, 97])) ++ (nm.take 8).map (fun x => tS (x ++ lv10)) = ((nm ++ nm.map (· ++ [46, 97]) ++ (nm.take 8).map (· ++ lv10)).map tS) := by
    rw [List.map_append, List.map_append, List.map_map, List.map_map]; rfl
  generalize hA : (nm ++ nm.map (· ++ [46, 97]) ++ (nm.take 8).map (· ++ lv10)) = A at *
  have hmb := manyV_b ((ns.map D.int).length : Int)
  simp! [e2, e3, hce, b4_at, many_eq]
  have hbb := b4_b (cellV ns 50)
  generalize manyV ((ns.map D.int).length : Int) = many at *
  generalize b4V (cellV ns 50) = back at *
  walk_at "pl"
  refine wp_forE (fun i : Nat => Im.one (.int (0 + (i : Int)))) (List.range many.toNat) (fun pre _ e s => ∃ f ks x5 x6 x7 x8 x9, WebP f ks pre.length ∧ s = [.frl (ns.map D.int), .dic (dicF (fD f) ks)] ∧ e = [vR 0, vT (.list (A.map tS)), vI many, vI back, vR 1, x5, x6, x7, x8, x9, none, none, none]) rfl ?_ (by intros; trivial) ?_ ?_
  · exact ⟨fun _ => [], [], none, none, none, none, none, ⟨by simp, by simp, by simp, by simp, by simp, by simp⟩, rfl, rfl⟩
  · rintro pre i post _ _ hp ⟨f, ks, x5, x6, x7, x8, x9, hw, rfl, rfl⟩
    obtain ⟨rfl, hi⟩ := rng_iN hp
    have hcn := cellV_0 ns (0 + (pre.length : Int))
    have hc6 := c6_b (cellV ns (0 + (pre.length : Int)))
    simp! [ex_eq, hce, c6_at]
    generalize cellV ns (0 + (pre.length : Int)) = number at *
    walk_at "pl"
    refine wp_forE (fun i : Nat => Im.one (.int (0 + (i : Int)))) (List.range (c6 number).toNat) (fun pre2 _ e s => ∃ (acc : List Nm) (x8 x9 : Option En), acc.length = pre2.length ∧ (∀ y ∈ acc, NmOk y) ∧ s = [.frl (ns.map D.int), .dic (dicF (fD f) ks)] ∧ e = [vR 0, vT (.list (A.map tS)), vI many, vI back, vR 1, vI (0 + (pre.length : Int)), vI number, some (.ol (acc.map fun x => .t (tS x))), x8, x9, none, none, none]) rfl ?_ (by intros; trivial) ?_ ?_
    · exact ⟨[], x8, x9, rfl, by simp, rfl, rfl⟩
    · rintro pre2 j post2 _ _ hp2 ⟨acc, x8, x9, hal2, hno, rfl, rfl⟩
      obtain ⟨rfl, hj⟩ := rng_iN hp2
      have hx0 := mixedV_0 number (0 + (pre2.length : Int) + (0 + (pre.length : Int)))
      have haz : (acc.map fun x => D.t (tS x)).length < sizeLine := by rw [List.length_map, sl_eq]; omega
      generalize hmm : mixedV number (0 + (pre2.length : Int) + (0 + (pre.length : Int))) = more at *
      simp! [ex_eq, mixedE, hmm]
      have fin : ∀ y, NmOk y → ∃ (acc' : List Nm) (x8 x9 : Option En), acc'.length = (pre2 ++ [pre2.length]).length ∧ (∀ y ∈ acc', NmOk y) ∧ [Ce.frl (ns.map D.int), .dic (dicF (fD f) ks)] = [.frl (ns.map D.int), .dic (dicF (fD f) ks)] ∧ [vR 0, vT (.list (A.map tS)), vI many, vI back, vR 1, vI (0 + (pre.length : Int)), vI number, some (.ol ((acc.map fun x => .t (tS x)) ++ [.t (tS y)])), vI (0 + (pre2.length : Int)), vI more, none, none, none] = [vR 0, vT (.list (A.map tS)), vI many, vI back, vR 1, vI (0 + (pre.length : Int)), vI number, some (.ol (acc'.map fun x => .t (tS x))), x8, x9, none, none, none] := fun y hy => by
        refine ⟨acc ++ [y], _, _, by simp [hal2], fun z hz => ?_, rfl, by rw [List.map_append]; rfl⟩
        rcases List.mem_append.mp hz with q | q
        · exact hno z q
        · rw [List.mem_singleton.mp q]; exact hy
      refine ite_of (fun h => ?_) (fun h => ?_)
      · have hab := abc_at (i := more / 17 % 3) (by omega) (by omega)
        simp! [hab]
        obtain ⟨acc', a, b, h1, h2, _, h3⟩ := fin _ (none_ok (more / 17 % 3).toNat)
        exact ⟨acc', a, b, h1, h2, h3⟩
      · have fin2 : ∀ x ∈ A, ∃ (acc' : List Nm) (x8 x9 : Option En), acc'.length = (pre2 ++ [pre2.length]).length ∧ (∀ y ∈ acc', NmOk y) ∧ [vR 0, vT (.list (A.map tS)), vI many, vI back, vR 1, vI (0 + (pre.length : Int)), vI number, some (.ol ((acc.map fun x => .t (tS x)) ++ [.t (tS x)])), vI (0 + (pre2.length : Int)), vI more, none, none, none] = [vR 0, vT (.list (A.map tS)), vI many, vI back, vR 1, vI (0 + (pre.length : Int)), vI number, some (.ol (acc'.map fun x => .t (tS x))), x8, x9, none, none, none] := fun x hx2 => by
          obtain ⟨acc', a, b, h1, h2, _, h3⟩ := fin x (hok x hx2)
          exact ⟨acc', a, b, h1, h2, h3⟩
        have hM := Int.emod_lt_of_pos (more / 60) (show (0:Int) < many by omega)
        have hM0 := Int.emod_nonneg (more / 60) (show (many : Int) ≠ 0 by omega)
        obtain ⟨y, hy1, hy2⟩ := hat (more / 60 % many) hM0 (by omega)
        by_cases h0 : (0 : Int) + (pre.length : Int) > 0
        · have hK := Int.emod_lt_of_pos (more / 60) h0
          have hK0 := Int.emod_nonneg (more / 60) (show (0 : Int) + (pre.length : Int) ≠ 0 by omega)
          obtain ⟨x, hx1, hx2⟩ := hat (more / 60 % (0 + (pre.length : Int))) hK0 (by omega)
          have h0' := eq_true h0
          simp! [h0', hx1, hy1]
          refine ite_of (fun h => ?_) (fun h => ?_)
          · exact fin2 x hx2
          · exact fin2 y hy2
        · have h0' := eq_false h0
          simp! [h0', hy1]
          exact fin2 y hy2
    · rintro _ _ ⟨acc, x8, x9, hal2, hno, rfl, rfl⟩
      obtain ⟨x, hx1, hx2⟩ := hat (0 + (pre.length : Int)) (by omega) (by omega)
      have hkz : (dicF (fD f) ks).length < sizeLine := by rw [len_F, sl_eq]; have := hw.l2; omega
      simp! [hx1, put_any]
      rw [if_pos hkz]
      refine ⟨_, _, _, _, _, _, _, ?_, rfl, rfl⟩
      have hac : acc.length ≤ 4 := by rw [hal2, List.length_range]; omega
      rw [List.length_append]
      exact hw.put (hok x hx2) hac hno
  · rintro _ _ ⟨f, ks, x5, x6, x7, x8, x9, hw, rfl, rfl⟩
    have hlr : ∀ ev, listR [.r 1] ev [Ce.frl (ns.map D.int), .dic (dicF (fD f) ks)] = some (.ok ((ks.map tS).map .t), ev, [Ce.frl (ns.map D.int), .dic (dicF (fD f) ks)]) := fun ev => listR_F ev rfl (by have := hw.l2; rw [List.length_range] at this; omega)
    have hM := Int.emod_lt_of_pos (cellV ns 51) (show (0:Int) < many by omega)
    have hM0 := Int.emod_nonneg (cellV ns 51) (show (many : Int) ≠ 0 by omega)
    simp! [hce, hlr, allT_map]
    generalize cellV ns 51 % many = turn at *
    have hk40 : ks.length ≤ 40 := by have := hw.l2; rw [List.length_range] at this; omega
    have hperm : ∀ x, x ∈ ks.drop turn.toNat ++ ks.take turn.toNat ↔ x ∈ ks := fun x => by
      rw [List.mem_append, or_comm, ← List.mem_append, List.take_append_drop]
    have hnd : (ks.drop turn.toNat ++ ks.take turn.toNat).Nodup := by
      have h := hw.nd
      rw [← List.take_append_drop turn.toNat ks, List.nodup_append] at h
      rw [List.nodup_append]
      exact ⟨h.2.1, h.1, fun a ha b hb e => h.2.2 b hb a ha e.symm⟩
    have hln : (ks.drop turn.toNat ++ ks.take turn.toNat).length = ks.length := by
      rw [List.length_append, List.length_drop, List.length_take]; omega
    have e4 : ∀ ev (S : So), dAdd ev S (.t (.list (List.drop turn.toNat (ks.map tS)))) (.t (.list (List.take turn.toNat (ks.map tS)))) = some (.t (.list ((ks.drop turn.toNat ++ ks.take turn.toNat).map tS))) := fun ev S => by
      rw [q_catL (by rw [List.length_drop, List.length_take, List.length_map, sl_eq]; omega), List.map_append, List.map_drop, List.map_take]
    have ok : WebOk f (ks.drop turn.toNat ++ ks.take turn.toNat) := ⟨hnd, by rw [hln]; exact hw.l1 (by rw [List.length_range]; omega), by omega, fun x hx => hw.len x ((hperm x).mp hx), fun x hx => hw.nm x ((hperm x).mp hx), fun x hx => hw.nf x ((hperm x).mp hx)⟩
    generalize ks.drop turn.toNat ++ ks.take turn.toNat = order at *
    simp! [e4]
    walk_at "pl"
    refine wp_cA (fun x : Nm => Im.one (.t (tS x))) (fun x => D.t (.tuple [tS x, .list ((f x).map tS)])) order ?_
    simp! []
    refine cA_mk (ones_tS order) (by rw [sl_eq]; omega) trivial ?_ ?_
    · intro x hx
      have hv := val_in (f := fD f) ((hperm x).mp hx)
      simp! [ex_eq, hv]
    have hdF := fun ev (S : So) => dict_F (ev := ev) (S := S) (fun x => .list ((f x).map tS)) order ok.nd (by have := ok.l2; omega)
    simp! [allT_map, hdF]
    exact ⟨f, order, _, ok, rfl⟩

end Y18

namespace Y18
open PySem L2 Cl TL
local macro_rules | `(tactic| walk_at "wp") => `(tactic| simp (disch := first | omega | assumption | decide | exact Nat.le_of_ble_eq_true rfl | decide +kernel | (simp only [List.length_append, List.length_cons, List.length_nil, List.length_take, List.length_drop, List.length_replicate, sl_eq]; omega) | exact rfl) only [↓lc0, ll1, ↓lc1, ↓lc2, ll3, ↓lc3, ↓lc4, ll5, ↓lc5, ll6, ↓lc6, ↓lc7, ↓lc8, ↓lc9, ll10, ↓lc10, ll11, ↓lc11, ↓q_iterK, ↓q_iterV, ↓q_iterP, q_iterKR, q_iterVR, q_iterPR, ↓q_dpop, ↓q_dpopN, ↓q_popN, ↓q_setd, ↓q_setdN, ↓q_setdV, ↓q_aug, ↓q_augD, ↓q_augDN, ↓q_augDV, ↓q_inDN, ↓q_notInDN, ↓q_lsl, ↓q_setX, ↓q_setXN, ↓q_setXI, ↓q_setXB, ↓q_enumT, q_enumTL, q_enumTT, q_wipe0, q_wipe1, q_rest0, q_rest1, q_restD, q_restN, q_restL, q_restK, ↓q_ixDL, ↓q_ixDT, ↓q_ixDS, ↓q_ixDD, ↓q_ixDR, ↓q_ixDB, q_keyS, q_keyI, q_val0, q_val1, q_kSS, q_kII, q_kIS, q_kSI, q_put0, q_put1, q_up0, q_up1, q_mer0, q_mer1, lit_ne, q_small, q_gdS, q_gdN, ↓q_kDisp, ↓q_kDispR, ↓q_prs0, ↓q_prs1, ↓q_prR, ↓q_kNew, ↓q_cellD, ↓q_treeD, q_allK0, q_allK1, q_keyDI, q_keyDS, q_tks0, q_tksS, q_tksI, ↓q_ownD, ↓q_get2, ↓q_get2R, ↓q_get1, ↓q_get1R, q_vwD, q_vwR, q_vwB, q_vwL, q_vwT, q_owDR, q_owDB, ↓q_upd, ↓q_updR, ↓q_updV, q_apT, q_apBR, q_apRR, q_pDR, q_pDB, ↓q_listOf, q_listT, q_listL, ↓q_dictOf, ↓q_fld, ↓q_sfld, ↓q_fldR, ↓q_meth, ↓q_methR, ↓q_make, ↓q_makeR, lk_hit, lk_miss, lk_nil, ↓q_mut, ↓q_mutR, ↓q_mutB, ↓q_mutAR, ↓q_mutAB, q_mutV, q_app, q_popA, q_pop0, ↓q_setL, ↓q_setRR, ↓q_setRB, q_setV, q_ixN, ↓q_par, ↓q_sortT, ↓q_zip, ↓q_zipR, ↓q_enum, ↓q_enumR, ↓r_escB, allT_r, ↓q_parR, ↓q_ixR, ↓q_ixB, ↓q_lenR, ↓q_lenB, ↓q_min, ↓q_max, ↓q_tupT, ↓q_tupL, ↓q_tupB, ↓q_catT, List.mem_cons, List.mem_singleton, true_or, or_true, putFD, List.set_set, and_true, true_and, ↓wp_some, ↓wp_none, wp_ite, ↓r_bnd, ↓r_bndX, ↓r_bndS, ↓r_bndSX, ↓r_nx, ↓r_rt, ↓r_bk, ↓r_ct, ↓r_ex, bnd_ite, bndS_ite, thenS_ite, ans_ite, ↓r_ans, ↓r_ans0, ↓r_bnd0, ↓r_bndS0, ↓r_0, ↓q_var, ↓q_cI, ↓q_cB, ↓q_cN, ↓q_op, ↓q_un, ↓q_test, ↓q_tst, ↓q_tru, ↓q_and, ↓q_or, ↓q_not, ↓q_andV, ↓q_orV, ↓q_notV, ↓q_if, ↓q_nil, ↓q_cons, ↓q_esc, ↓q_tup, ↓q_tupR, ↓q_disp, ↓q_dispR, ↓q_tree, ↓q_cell, ↓q_B, ↓q_mb, ↓q_noP, ↓q_part, ↓q_prt, ↓q_sl, ↓q_chain, ↓q_dict0, ↓q_next, ↓q_brk, ↓q_cnt, ↓q_seq, ↓q_ret, ↓q_retN, ↓q_expr, ↓q_ifS, ↓q_asg, ↓q_laid, ↓q_gT1, ↓q_gR1, ↓q_gTup, ↓q_gTs0, ↓q_gTs1, ↓q_gTt, ↓q_gT1', ↓q_own, ↓q_for, ↓q_rng, ↓q_rng1, ↓q_rng2, ↓q_rev, ↓q_rev1, ↓q_iter, ↓q_itL, ↓q_itT, ↓q_itM, ↓q_add, ↓q_sub, ↓q_neg, ↓q_mul1, ↓q_mul2, ↓q_div, ↓q_mod, ↓q_pow, ↓q_shl, ↓q_shr, ↓q_andB, ↓q_orB, ↓q_xorB, ↓q_lt, ↓q_le, ↓q_gt, ↓q_ge, ↓q_eqI, ↓q_neI, ↓q_eqM, ↓q_neM, ↓q_inM, ↓q_notInM, ↓q_eqB, ↓q_isB, ↓q_notB, ↓q_isN, ↓q_isNI, ↓q_isNT, ↓q_isNL, ↓q_isNS, ↓q_isNr, ↓q_notN, ↓q_notNI, ↓q_notNT, ↓q_notNL, ↓q_notNS, ↓q_notNr, ↓q_isi, tyOf, Ty.sub, ↓q_ixL, ↓q_ixT, ↓q_ixM, ↓q_lenM, ↓q_lenL, ↓q_lenT, ↓q_int, ↓q_intB, ↓q_catM, ↓q_mulM, ↓q_slM, ↓q_slL, ↓q_slT, ↓q_catL, allT_nil, q_allT, m_D, m_B, m_1, m_2, m_3, m_5, m_6, m_7, cut_to, cut_from, cut_mid, cut_all', at0, at1, at2, at3, at4, at5, at6, at7, at8, at9, at10, at11, at12, at13, at14, at15, at16, at17, at18, at19, allT_cons, map_some, bind_some, ↓r_call, ↓r_callR, ↓r_escs0, ↓r_escs, ↓r_escT, ↓r_escR, viewT_t, viewL_t, isStr, List.getElem?_cons_zero, List.getElem?_cons_succ, List.set_cons_zero, List.set_cons_succ, List.map_cons, List.map_nil, List.cons_append, List.nil_append, List.replicate_zero, List.replicate_succ, Nat.reduceSub, Nat.reduceAdd, Nat.reduceLeDiff, Nat.reduceLT, Nat.lt_add_one, Nat.zero_lt_succ, List.length_cons, List.length_nil, if_true, if_false, Bool.not_true, Bool.not_false, decide_eq_true_eq, Bool.not_eq_true', decide_eq_false_iff_not, Bool.false_eq_true, reduceCtorEq, ite_true, ite_false, ite_self, q_cast, eq_self, Int.reduceLT, Int.reduceLE, Int.reduceEq, Int.reduceNeg, decide_true, decide_false])
local macro_rules | `(tactic| simp! [$ls,*]) => `(tactic| simp (disch := first | omega | assumption | decide | exact Nat.le_of_ble_eq_true rfl | decide +kernel | (simp only [List.length_append, List.length_cons, List.length_nil, List.length_take, List.length_drop, List.length_replicate, sl_eq]; omega) | exact rfl) only [↓lc0, ll1, ↓lc1, ↓lc2, ll3, ↓lc3, ↓lc4, ll5, ↓lc5, ll6, ↓lc6, ↓lc7, ↓lc8, ↓lc9, ll10, ↓lc10, ll11, ↓lc11, ↓q_iterK, ↓q_iterV, ↓q_iterP, q_iterKR, q_iterVR, q_iterPR, ↓q_dpop, ↓q_dpopN, ↓q_popN, ↓q_setd, ↓q_setdN, ↓q_setdV, ↓q_aug, ↓q_augD, ↓q_augDN, ↓q_augDV, ↓q_inDN, ↓q_notInDN, ↓q_lsl, ↓q_setX, ↓q_setXN, ↓q_setXI, ↓q_setXB, ↓q_enumT, q_enumTL, q_enumTT, q_wipe0, q_wipe1, q_rest0, q_rest1, q_restD, q_restN, q_restL, q_restK, ↓q_ixDL, ↓q_ixDT, ↓q_ixDS, ↓q_ixDD, ↓q_ixDR, ↓q_ixDB, q_keyS, q_keyI, q_val0, q_val1, q_kSS, q_kII, q_kIS, q_kSI, q_put0, q_put1, q_up0, q_up1, q_mer0, q_mer1, lit_ne, q_small, q_gdS, q_gdN, ↓q_kDisp, ↓q_kDispR, ↓q_prs0, ↓q_prs1, ↓q_prR, ↓q_kNew, ↓q_cellD, ↓q_treeD, q_allK0, q_allK1, q_keyDI, q_keyDS, q_tks0, q_tksS, q_tksI, ↓q_ownD, ↓q_get2, ↓q_get2R, ↓q_get1, ↓q_get1R, q_vwD, q_vwR, q_vwB, q_vwL, q_vwT, q_owDR, q_owDB, ↓q_upd, ↓q_updR, ↓q_updV, q_apT, q_apBR, q_apRR, q_pDR, q_pDB, ↓q_listOf, q_listT, q_listL, ↓q_dictOf, ↓q_fld, ↓q_sfld, ↓q_fldR, ↓q_meth, ↓q_methR, ↓q_make, ↓q_makeR, lk_hit, lk_miss, lk_nil, ↓q_mut, ↓q_mutR, ↓q_mutB, ↓q_mutAR, ↓q_mutAB, q_mutV, q_app, q_popA, q_pop0, ↓q_setL, ↓q_setRR, ↓q_setRB, q_setV, q_ixN, ↓q_par, ↓q_sortT, ↓q_zip, ↓q_zipR, ↓q_enum, ↓q_enumR, ↓r_escB, allT_r, ↓q_parR, ↓q_ixR, ↓q_ixB, ↓q_lenR, ↓q_lenB, ↓q_min, ↓q_max, ↓q_tupT, ↓q_tupL, ↓q_tupB, ↓q_catT, List.mem_cons, List.mem_singleton, true_or, or_true, putFD, List.set_set, and_true, true_and, ↓wp_some, ↓wp_none, wp_ite, ↓r_bnd, ↓r_bndX, ↓r_bndS, ↓r_bndSX, ↓r_nx, ↓r_rt, ↓r_bk, ↓r_ct, ↓r_ex, bnd_ite, bndS_ite, thenS_ite, ans_ite, ↓r_ans, ↓r_ans0, ↓r_bnd0, ↓r_bndS0, ↓r_0, ↓q_var, ↓q_cI, ↓q_cB, ↓q_cN, ↓q_op, ↓q_un, ↓q_test, ↓q_tst, ↓q_tru, ↓q_and, ↓q_or, ↓q_not, ↓q_andV, ↓q_orV, ↓q_notV, ↓q_if, ↓q_nil, ↓q_cons, ↓q_esc, ↓q_tup, ↓q_tupR, ↓q_disp, ↓q_dispR, ↓q_tree, ↓q_cell, ↓q_B, ↓q_mb, ↓q_noP, ↓q_part, ↓q_prt, ↓q_sl, ↓q_chain, ↓q_dict0, ↓q_next, ↓q_brk, ↓q_cnt, ↓q_seq, ↓q_ret, ↓q_retN, ↓q_expr, ↓q_ifS, ↓q_asg, ↓q_laid, ↓q_gT1, ↓q_gR1, ↓q_gTup, ↓q_gTs0, ↓q_gTs1, ↓q_gTt, ↓q_gT1', ↓q_own, ↓q_for, ↓q_rng, ↓q_rng1, ↓q_rng2, ↓q_rev, ↓q_rev1, ↓q_iter, ↓q_itL, ↓q_itT, ↓q_itM, ↓q_add, ↓q_sub, ↓q_neg, ↓q_mul1, ↓q_mul2, ↓q_div, ↓q_mod, ↓q_pow, ↓q_shl, ↓q_shr, ↓q_andB, ↓q_orB, ↓q_xorB, ↓q_lt, ↓q_le, ↓q_gt, ↓q_ge, ↓q_eqI, ↓q_neI, ↓q_eqM, ↓q_neM, ↓q_inM, ↓q_notInM, ↓q_eqB, ↓q_isB, ↓q_notB, ↓q_isN, ↓q_isNI, ↓q_isNT, ↓q_isNL, ↓q_isNS, ↓q_isNr, ↓q_notN, ↓q_notNI, ↓q_notNT, ↓q_notNL, ↓q_notNS, ↓q_notNr, ↓q_isi, tyOf, Ty.sub, ↓q_ixL, ↓q_ixT, ↓q_ixM, ↓q_lenM, ↓q_lenL, ↓q_lenT, ↓q_int, ↓q_intB, ↓q_catM, ↓q_mulM, ↓q_slM, ↓q_slL, ↓q_slT, ↓q_catL, allT_nil, q_allT, m_D, m_B, m_1, m_2, m_3, m_5, m_6, m_7, cut_to, cut_from, cut_mid, cut_all', at0, at1, at2, at3, at4, at5, at6, at7, at8, at9, at10, at11, at12, at13, at14, at15, at16, at17, at18, at19, allT_cons, map_some, bind_some, ↓r_call, ↓r_callR, ↓r_escs0, ↓r_escs, ↓r_escT, ↓r_escR, viewT_t, viewL_t, isStr, List.getElem?_cons_zero, List.getElem?_cons_succ, List.set_cons_zero, List.set_cons_succ, List.map_cons, List.map_nil, List.cons_append, List.nil_append, List.replicate_zero, List.replicate_succ, Nat.reduceSub, Nat.reduceAdd, Nat.reduceLeDiff, Nat.reduceLT, Nat.lt_add_one, Nat.zero_lt_succ, List.length_cons, List.length_nil, if_true, if_false, Bool.not_true, Bool.not_false, decide_eq_true_eq, Bool.not_eq_true', decide_eq_false_iff_not, Bool.false_eq_true, reduceCtorEq, ite_true, ite_false, ite_self, q_cast, eq_self, Int.reduceLT, Int.reduceLE, Int.reduceEq, Int.reduceNeg, decide_true, decide_false, $ls,*])
local macro_rules | `(tactic| walk_at "pl") => `(tactic| repeat (first | rw [wp_bnd] | rw [wp_bndS] | rw [wp_thenS]))
local macro_rules | `(tactic| walk_at "ws") => `(tactic| simp (disch := first | omega | assumption | decide | exact Nat.le_of_ble_eq_true rfl | decide +kernel | (simp only [List.length_append, List.length_cons, List.length_nil, List.length_take, List.length_drop, List.length_replicate, sl_eq]; omega) | exact rfl) only [↓lc0, ll1, ↓lc1, ↓lc2, ll3, ↓lc3, ↓lc4, ll5, ↓lc5, ll6, ↓lc6, ↓lc7, ↓lc8, ↓lc9, ll10, ↓lc10, ll11, ↓lc11, ↓q_iterK, ↓q_iterV, ↓q_iterP, q_iterKR, q_iterVR, q_iterPR, ↓q_dpop, ↓q_dpopN, ↓q_popN, ↓q_setd, ↓q_setdN, ↓q_setdV, ↓q_aug, ↓q_augD, ↓q_augDN, ↓q_augDV, ↓q_inDN, ↓q_notInDN, ↓q_lsl, ↓q_setX, ↓q_setXN, ↓q_setXI, ↓q_setXB, ↓q_enumT, q_enumTL, q_enumTT, q_wipe0, q_wipe1, q_rest0, q_rest1, q_restD, q_restN, q_restL, q_restK, ↓q_ixDL, ↓q_ixDT, ↓q_ixDS, ↓q_ixDD, ↓q_ixDR, ↓q_ixDB, q_keyS, q_keyI, q_val0, q_val1, q_kSS, q_kII, q_kIS, q_kSI, q_put0, q_put1, q_up0, q_up1, q_mer0, q_mer1, lit_ne, q_small, q_gdS, q_gdN, ↓q_kDisp, ↓q_kDispR, ↓q_prs0, ↓q_prs1, ↓q_prR, ↓q_kNew, ↓q_cellD, ↓q_treeD, q_allK0, q_allK1, q_keyDI, q_keyDS, q_tks0, q_tksS, q_tksI, ↓q_ownD, ↓q_get2, ↓q_get2R, ↓q_get1, ↓q_get1R, q_vwD, q_vwR, q_vwB, q_vwL, q_vwT, q_owDR, q_owDB, ↓q_upd, ↓q_updR, ↓q_updV, q_apT, q_apBR, q_apRR, q_pDR, q_pDB, ↓q_listOf, q_listT, q_listL, ↓q_dictOf, ↓q_fld, ↓q_sfld, ↓q_fldR, ↓q_meth, ↓q_methR, ↓q_make, ↓q_makeR, lk_hit, lk_miss, lk_nil, ↓q_mut, ↓q_mutR, ↓q_mutB, ↓q_mutAR, ↓q_mutAB, q_mutV, q_app, q_popA, q_pop0, ↓q_setL, ↓q_setRR, ↓q_setRB, q_setV, q_ixN, ↓q_par, ↓q_sortT, ↓q_zip, ↓q_zipR, ↓q_enum, ↓q_enumR, ↓r_escB, allT_r, ↓q_parR, ↓q_ixR, ↓q_ixB, ↓q_lenR, ↓q_lenB, ↓q_min, ↓q_max, ↓q_tupT, ↓q_tupL, ↓q_tupB, ↓q_catT, List.mem_cons, List.mem_singleton, true_or, or_true, putFD, List.set_set, and_true, true_and, ↓wp_some, ↓wp_none, wp_ite, ↓r_bnd, ↓r_bndX, ↓r_bndS, ↓r_bndSX, ↓r_nx, ↓r_rt, ↓r_bk, ↓r_ct, ↓r_ex, bnd_ite, bndS_ite, thenS_ite, ans_ite, ↓r_ans, ↓r_ans0, ↓r_bnd0, ↓r_bndS0, ↓r_0, ↓q_var, ↓q_cI, ↓q_cB, ↓q_cN, ↓q_op, ↓q_un, ↓q_test, ↓q_tst, ↓q_tru, ↓q_and, ↓q_or, ↓q_not, ↓q_andV, ↓q_orV, ↓q_notV, ↓q_if, ↓q_nil, ↓q_cons, ↓q_esc, ↓q_tup, ↓q_tupR, ↓q_disp, ↓q_dispR, ↓q_tree, ↓q_cell, ↓q_B, ↓q_mb, ↓q_noP, ↓q_part, ↓q_prt, ↓q_sl, ↓q_chain, ↓q_dict0, ↓q_next, ↓q_brk, ↓q_cnt, ↓q_seq, ↓q_ret, ↓q_retN, ↓q_expr, ↓q_ifS, ↓q_asg, ↓q_laid, ↓q_gT1, ↓q_gR1, ↓q_gTup, ↓q_gTs0, ↓q_gTs1, ↓q_gTt, ↓q_gT1', ↓q_own, ↓q_for, ↓q_rng, ↓q_rng1, ↓q_rng2, ↓q_rev, ↓q_rev1, ↓q_iter, ↓q_itL, ↓q_itT, ↓q_itM, ↓q_add, ↓q_sub, ↓q_neg, ↓q_mul1, ↓q_mul2, ↓q_div, ↓q_mod, ↓q_pow, ↓q_shl, ↓q_shr, ↓q_andB, ↓q_orB, ↓q_xorB, ↓q_lt, ↓q_le, ↓q_gt, ↓q_ge, ↓q_eqI, ↓q_neI, ↓q_eqM, ↓q_neM, ↓q_inM, ↓q_notInM, ↓q_eqB, ↓q_isB, ↓q_notB, ↓q_isN, ↓q_isNI, ↓q_isNT, ↓q_isNL, ↓q_isNS, ↓q_isNr, ↓q_notN, ↓q_notNI, ↓q_notNT, ↓q_notNL, ↓q_notNS, ↓q_notNr, ↓q_isi, tyOf, Ty.sub, ↓q_ixL, ↓q_ixT, ↓q_ixM, ↓q_lenM, ↓q_lenL, ↓q_lenT, ↓q_int, ↓q_intB, ↓q_catM, ↓q_mulM, ↓q_slM, ↓q_slL, ↓q_slT, ↓q_catL, allT_nil, q_allT, m_D, m_B, m_1, m_2, m_3, m_5, m_6, m_7, cut_to, cut_from, cut_mid, cut_all', at0, at1, at2, at3, at4, at5, at6, at7, at8, at9, at10, at11, at12, at13, at14, at15, at16, at17, at18, at19, allT_cons, map_some, bind_some, ↓r_call, ↓r_callR, ↓r_escs0, ↓r_escs, ↓r_escT, ↓r_escR, viewT_t, viewL_t, isStr, List.getElem?_cons_zero, List.getElem?_cons_succ, List.set_cons_zero, List.set_cons_succ, List.map_cons, List.map_nil, List.cons_append, List.nil_append, List.replicate_zero, List.replicate_succ, Nat.reduceSub, Nat.reduceAdd, Nat.reduceLeDiff, Nat.reduceLT, Nat.lt_add_one, Nat.zero_lt_succ, List.length_cons, List.length_nil, if_true, if_false, Bool.not_true, Bool.not_false, decide_eq_true_eq, Bool.not_eq_true', decide_eq_false_iff_not, Bool.false_eq_true, reduceCtorEq, ite_true, ite_false, ite_self, q_cast, eq_self, Int.reduceLT, Int.reduceLE, Int.reduceEq, Int.reduceNeg, decide_true, decide_false, *])
/-! ### rings, in plain words -/
def webL (f : Nm → List Nm) (ks : List Nm) : Web := ks.map fun x => (x, (f x).filter fun y => decide (y ∈ ks))
theorem keys_webL (f : Nm → List Nm) (ks : List Nm) : keys (webL f ks) = ks := by
  unfold keys webL; rw [List.map_map]
  exact (List.map_congr_left fun x _ => rfl).trans (List.map_id ks)
theorem gets_webL {f : Nm → List Nm} {ks : List Nm} {x : Nm} (hn : ks.Nodup) (hx : x ∈ ks) : gets (webL f ks) x = (f x).filter fun y => decide (y ∈ ks) :=
  gets_mem (A := webL f ks) (by rw [keys_webL]; exact hn) (p := (x, (f x).filter fun y => decide (y ∈ ks))) (List.mem_map.mpr ⟨x, hx, rfl⟩)
theorem isR_iff {f : Nm → List Nm} {ks : List Nm} {R : Nm → Prop} (hn : ks.Nodup) : IsR (webL f ks) R ↔ ∀ x, R x → x ∈ ks ∧ ∃ y ∈ f x, R y := by
  unfold IsR
  rw [keys_webL]
  constructor
  · intro h x hx
    obtain ⟨h1, y, hy, hR⟩ := h x hx
    rw [gets_webL hn h1, List.mem_filter] at hy
    exact ⟨h1, y, hy.1, hR⟩
  · intro h x hx
    obtain ⟨h1, y, hy, hR⟩ := h x hx
    refine ⟨h1, y, ?_, hR⟩
    rw [gets_webL hn h1, List.mem_filter]
    exact ⟨hy, decide_eq_true (h y hR).1⟩
def InU (f : Nm → List Nm) (ks : List Nm) (x : Nm) : Prop := ∃ R : Nm → Prop, IsR (webL f ks) R ∧ R x
def HasR (f : Nm → List Nm) (ks : List Nm) : Prop := ∃ x, InU f ks x
theorem eq_nilS {L : List (List Nat)} (h : ∀ l ∈ L, ∀ c ∈ l, c < 1114112) {ev : Nv} {S : So} : dEq ev S (.t (.list (L.map fun l => .str (mkS l)))) (.t (.list [])) = some (.t (.bool (decide (L = [])))) := by
  rw [v_eq (strs_sh h) rfl]
  cases L <;> simp [PyData.eqv, PyData.eqvAll]
theorem NmOk.sm {x : Nm} (h : NmOk x) : ∀ c ∈ x, c < 1114112 := fun c hc => Nat.lt_trans (h.2 c hc) (by decide)
/-! ### the store -/
theorem app_get {S : So} {c : Ce} {T : List Ce} : (S ++ c :: T)[S.length]? = some c := by simp
theorem app_get1 {S : So} {c d : Ce} {T : List Ce} : (S ++ c :: d :: T)[S.length + 1]? = some d := by
  rw [List.getElem?_append_right (by omega)]; simp
theorem app_set {S : So} {c d : Ce} {T : List Ce} : (S ++ c :: T).set S.length d = S ++ d :: T := by simp
theorem app_set1 {S : So} {c d e : Ce} {T : List Ce} : (S ++ c :: d :: T).set (S.length + 1) e = S ++ c :: e :: T := by
  rw [List.set_append_right _ _ (by omega)]; simp
theorem app_old {S : So} {n : Nat} {c : Ce} (T : List Ce) (h : S[n]? = some c) : (S ++ T)[n]? = some c := by
  rw [List.getElem?_append_left (List.getElem?_eq_some_iff.mp h).1]; exact h
theorem set_old {S : So} {n : Nat} {c : Ce} (T : List Ce) (d : Ce) (h : S[n]? = some c) : (S ++ T).set n d = S.set n d ++ T := by
  rw [List.set_append_left _ _ (List.getElem?_eq_some_iff.mp h).1]
theorem set_back {S : So} {n : Nat} {c : Ce} (h : S[n]? = some c) : S.set n c = S := by
  obtain ⟨h1, h2⟩ := List.getElem?_eq_some_iff.mp h
  apply List.ext_getElem?
  intro i
  rw [List.getElem?_set]
  by_cases e : n = i
  · subst e; rw [if_pos rfl, if_pos h1, h]
  · rw [if_neg e]
/-! ### has_ring -/
theorem ones_keys (f : Nm → D) (ks : List Nm) : ((dicF f ks).map fun kv => Im.one (.t (keyD kv.1))) = ks.map fun x => Im.one (.t (tS x)) := by
  unfold dicF; rw [List.map_map]; rfl
theorem len_dicF {f : Nm → D} {ks : List Nm} (h : ks.length ≤ 1000) : (dicF f ks).length ≤ sizeLine := by rw [len_F, sl_eq]; omega
theorem filter_nil {α : Type} {p : α → Bool} {l : List α} : l.filter p = [] ↔ ∀ x ∈ l, ¬ p x = true := List.filter_eq_nil_iff
theorem hasringE (k : Nat) {f : Nm → List Nm} {ks : List Nm} {S : So} {n : Nat} (ok : WebOk f ks) (hS : S[n]? = some (.dic (dicF (fD f) ks))) :
    ∃ b T, fns (k + 1) 5 [.r n] S = some (.ok (.t (.bool b)), S ++ T) ∧ (b = true ↔ HasR f ks) := by
  suffices q : Wc (fns (k + 1) 5 [.r n] S) fun r s => ∃ b T, r = .ok (.t (.bool b)) ∧ s = S ++ T ∧ (b = true ↔ HasR f ks) by
    obtain ⟨r, s, e, b, T, rfl, rfl, h⟩ := q
    exact ⟨b, T, e, h⟩
  rw [e5]
  refine wc_run ?_ ?_
  · rfl
  unfold b5
  have hl : (dicF (fD f) ks).length ≤ sizeLine := len_dicF (by have := ok.l2; omega)
  have hd : ∀ ev, dictR [.r n] ev S = some (.ok (dicF (fD f) ks), ev, S) := fun ev => by
    show (match viewD0 [] S (.r n) with | some kvs => _ | none => _) = _
    have : viewD0 [] S (.r n) = some (dicF (fD f) ks) := by unfold viewD0; dsimp only; rw [hS]
    rw [this]; dsimp only; rw [if_pos hl]
  simp! [hd]
  walk_at "pl"
  refine wp_while (m := ks.length + 1) (fun m ev s => ∃ (kt : List Nm) (g : Bool) (x3 x4 : Option En), kt.Nodup ∧ (∀ x ∈ kt, x ∈ ks) ∧ kt.length ≤ 40 ∧ (∀ R, IsR (webL f ks) R → ∀ x, R x → x ∈ kt) ∧ (g = false → ∀ x ∈ kt, ∃ y ∈ f x, y ∈ kt) ∧ m = kt.length + g.toNat ∧ s = S ++ [.dic (dicF (fD f) kt)] ∧ ev = [vR n, vR S.length, vT (.bool g), x3, x4, none]) ?_ ?_
  · refine ⟨ks, true, none, none, ok.nd, fun _ h => h, ok.l2, fun R hR x hx => ((isR_iff ok.nd).mp hR x hx).1, by simp, rfl, rfl, rfl⟩
  rintro m _ _ ⟨kt, g, x3, x4, nd, sub, l40, hring, hg, rfl, rfl, rfl⟩
  cases g with
  | false =>
    simp! [q_neE, app_get]
    have hv : viewD [vR n, vR S.length, vT (.bool false), x3, x4, none] (S ++ [.dic (dicF (fD f) kt)]) (.r S.length) = some (dicF (fD f) kt) := by
      unfold viewD; dsimp only; rw [app_get]
    simp! [q_neE hv]
    refine ⟨_, _, rfl, rfl, ?_⟩
    constructor
    · intro h
      cases kt with
      | nil => cases h
      | cons x r => exact ⟨x, fun z => z ∈ x :: r, (isR_iff ok.nd).mpr fun z hz => ⟨sub z hz, hg rfl z hz⟩, List.mem_cons_self⟩
    · rintro ⟨x, R, hR, hx⟩
      have := hring R hR x hx
      cases kt with
      | nil => cases this
      | cons x r => rfl
  | true =>
    simp! []
    walk_at "pl"
    refine wp_lk (n := S.length) (kvs := dicF (fD f) kt) rfl app_get ?_
    rw [app_set]
    simp! []
    walk_at "pl"
    refine wp_cB (fun x : Nm => Im.one (.t (tS x))) (fun x => decide ((f x).filter (fun y => decide (y ∈ kt)) = [])) (fun x => D.t (tS x)) kt ?_
    have hk := fun ev => q_iterKR (ev := ev) (S := S ++ [.frd (dicF (fD f) kt)]) (n := S.length) (kvs := dicF (fD f) kt) app_get
    simp! [hk]
    refine cB_mk (ones_keys _ _) (by rw [sl_eq]; omega) trivial ?_ ?_
    · intro x hx
      have hv := val_in (f := fD f) hx
      simp! [ex_eq, app_get, hv]
      walk_at "pl"
      refine wp_cB (fun y : Nm => Im.one (.t (tS y))) (fun y => decide (y ∈ kt)) (fun y => D.t (tS y)) (f x) ?_
      simp! [app_get, hv]
      refine cB_mk (ones_tS _) (by rw [sl_eq]; have := ok.len x (sub x hx); omega) trivial ?_ ?_
      · intro y hy
        simp! [ex_eq, app_get, val_is]
      have he := fun ev (S : So) => eq_nilS (L := (f x).filter fun y => decide (y ∈ kt)) (ev := ev) (S := S) (fun l hl => (ok.nf x (sub x hx) l (List.mem_filter.mp hl).1).sm)
      simp! [he]
    simp! [app_get, app_set]
    walk_at "pl"
    have hg1 : ∀ x ∈ kt.filter (fun x => decide ((f x).filter (fun y => decide (y ∈ kt)) = [])), x ∈ kt ∧ ∀ y ∈ f x, y ∉ kt := fun x hx => by
      rw [List.mem_filter, decide_eq_true_eq, filter_nil] at hx
      exact ⟨hx.1, fun y hy => by simpa using hx.2 y hy⟩
    have hg2 : ∀ x ∈ kt, x ∉ kt.filter (fun x => decide ((f x).filter (fun y => decide (y ∈ kt)) = [])) → ∃ y ∈ f x, y ∈ kt := fun x hx hn => by
      rw [List.mem_filter, decide_eq_true_eq] at hn
      obtain ⟨y, hy⟩ := List.exists_mem_of_ne_nil _ fun z => hn ⟨hx, z⟩
      rw [List.mem_filter, decide_eq_true_eq] at hy
      exact ⟨y, hy⟩
    have hg3 : (kt.filter (fun x => decide ((f x).filter (fun y => decide (y ∈ kt)) = []))).Nodup := nd.filter _
    have hgl : (kt.filter (fun x => decide ((f x).filter (fun y => decide (y ∈ kt)) = []))).length ≤ kt.length := List.length_filter_le _ _
    generalize kt.filter (fun x => decide ((f x).filter (fun y => decide (y ∈ kt)) = [])) = gone at *
    refine wp_forE (fun x : Nm => Im.one (.t (tS x))) gone (fun pre post e s => ∃ x4 : Option En, s = S ++ [.dic (dicF (fD f) (kt.filter fun z => decide (z ∉ pre)))] ∧ e = [vR n, vR S.length, vT (.bool true), vT (.list (gone.map tS)), x4, none]) (ones_tS gone) ?_ (by intros; trivial) ?_ ?_
    · refine ⟨_, ?_, rfl⟩
      rw [List.filter_eq_self.mpr (fun _ _ => by simp)]
    · rintro pre x post _ _ hp ⟨x4, rfl, rfl⟩
      have hx : x ∈ gone := by rw [hp]; simp
      have hxp : x ∉ pre := fun h => by
        rw [hp, List.nodup_append] at hg3
        exact hg3.2.2 x h x List.mem_cons_self rfl
      have hxk : x ∈ kt.filter fun z => decide (z ∉ pre) := List.mem_filter.mpr ⟨(hg1 x hx).1, decide_eq_true hxp⟩
      have hv := val_in (f := fD f) hxk
      simp! [ex_eq, app_get, app_set, hv, drop_F]
      refine ⟨_, ?_, rfl⟩
      rw [List.filter_filter]
      congr 4
      apply List.filter_congr
      intro z _
      by_cases h1 : z = x <;> by_cases h2 : z ∈ pre <;> simp [h1, h2]
    rintro _ _ ⟨x4, rfl, rfl⟩
    have hne := fun ev (S : So) => ne_nilS (L := gone) (ev := ev) (S := S) (fun l hl => (ok.nm l (sub l (hg1 l hl).1)).sm)
    simp! [hne]
    have hfl : ∀ z, z ∈ kt.filter (fun z => decide (z ∉ gone)) ↔ z ∈ kt ∧ z ∉ gone := fun z => by rw [List.mem_filter, decide_eq_true_eq]
    have hlen : (kt.filter fun z => decide (z ∉ gone)).length + (decide (¬ gone = [])).toNat < kt.length + 1 := by
      cases hgn : gone with
      | nil =>
        rw [List.filter_eq_self.mpr (fun _ _ => by simp)]; simp
      | cons a r =>
        have ha := hg1 a (by rw [hgn]; exact List.mem_cons_self)
        have : (kt.filter fun z => decide (z ∉ a :: r)).length < kt.length := List.length_filter_lt_length_iff_exists.mpr ⟨a, ha.1, by simp⟩
        simp at this ⊢
        omega
    refine ⟨_, hlen, kt.filter (fun z => decide (z ∉ gone)), decide (¬ gone = []), _, _, nd.filter _, fun x hx => sub x ((hfl x).mp hx).1, Nat.le_trans (List.length_filter_le _ _) l40, fun R hR x hx => ?_, fun hg x hx => ?_, rfl, rfl, rfl⟩
    · refine (hfl x).mpr ⟨hring R hR x hx, fun hxg => ?_⟩
      obtain ⟨_, y, hy, hRy⟩ := (isR_iff ok.nd).mp hR x hx
      exact (hg1 x hxg).2 y hy (hring R hR y hRy)
    · have hgn : gone = [] := by simpa using hg
      obtain ⟨y, hy, hyk⟩ := hg2 x ((hfl x).mp hx).1 ((hfl x).mp hx).2
      exact ⟨y, hy, (hfl y).mpr ⟨hyk, by rw [hgn]; simp⟩⟩

end Y18

namespace Y18
open PySem L2 Cl TL
local macro_rules | `(tactic| walk_at "wp") => `(tactic| simp (disch := first | omega | assumption | decide | exact Nat.le_of_ble_eq_true rfl | decide +kernel | (simp only [List.length_append, List.length_cons, List.length_nil, List.length_take, List.length_drop, List.length_replicate, sl_eq]; omega) | exact rfl) only [↓lc0, ll1, ↓lc1, ↓lc2, ll3, ↓lc3, ↓lc4, ll5, ↓lc5, ll6, ↓lc6, ↓lc7, ↓lc8, ↓lc9, ll10, ↓lc10, ll11, ↓lc11, ↓q_iterK, ↓q_iterV, ↓q_iterP, q_iterKR, q_iterVR, q_iterPR, ↓q_dpop, ↓q_dpopN, ↓q_popN, ↓q_setd, ↓q_setdN, ↓q_setdV, ↓q_aug, ↓q_augD, ↓q_augDN, ↓q_augDV, ↓q_inDN, ↓q_notInDN, ↓q_lsl, ↓q_setX, ↓q_setXN, ↓q_setXI, ↓q_setXB, ↓q_enumT, q_enumTL, q_enumTT, q_wipe0, q_wipe1, q_rest0, q_rest1, q_restD, q_restN, q_restL, q_restK, ↓q_ixDL, ↓q_ixDT, ↓q_ixDS, ↓q_ixDD, ↓q_ixDR, ↓q_ixDB, q_keyS, q_keyI, q_val0, q_val1, q_kSS, q_kII, q_kIS, q_kSI, q_put0, q_put1, q_up0, q_up1, q_mer0, q_mer1, lit_ne, q_small, q_gdS, q_gdN, ↓q_kDisp, ↓q_kDispR, ↓q_prs0, ↓q_prs1, ↓q_prR, ↓q_kNew, ↓q_cellD, ↓q_treeD, q_allK0, q_allK1, q_keyDI, q_keyDS, q_tks0, q_tksS, q_tksI, ↓q_ownD, ↓q_get2, ↓q_get2R, ↓q_get1, ↓q_get1R, q_vwD, q_vwR, q_vwB, q_vwL, q_vwT, q_owDR, q_owDB, ↓q_upd, ↓q_updR, ↓q_updV, q_apT, q_apBR, q_apRR, q_pDR, q_pDB, ↓q_listOf, q_listT, q_listL, ↓q_dictOf, ↓q_fld, ↓q_sfld, ↓q_fldR, ↓q_meth, ↓q_methR, ↓q_make, ↓q_makeR, lk_hit, lk_miss, lk_nil, ↓q_mut, ↓q_mutR, ↓q_mutB, ↓q_mutAR, ↓q_mutAB, q_mutV, q_app, q_popA, q_pop0, ↓q_setL, ↓q_setRR, ↓q_setRB, q_setV, q_ixN, ↓q_par, ↓q_sortT, ↓q_zip, ↓q_zipR, ↓q_enum, ↓q_enumR, ↓r_escB, allT_r, ↓q_parR, ↓q_ixR, ↓q_ixB, ↓q_lenR, ↓q_lenB, ↓q_min, ↓q_max, ↓q_tupT, ↓q_tupL, ↓q_tupB, ↓q_catT, List.mem_cons, List.mem_singleton, true_or, or_true, putFD, List.set_set, and_true, true_and, ↓wp_some, ↓wp_none, wp_ite, ↓r_bnd, ↓r_bndX, ↓r_bndS, ↓r_bndSX, ↓r_nx, ↓r_rt, ↓r_bk, ↓r_ct, ↓r_ex, bnd_ite, bndS_ite, thenS_ite, ans_ite, ↓r_ans, ↓r_ans0, ↓r_bnd0, ↓r_bndS0, ↓r_0, ↓q_var, ↓q_cI, ↓q_cB, ↓q_cN, ↓q_op, ↓q_un, ↓q_test, ↓q_tst, ↓q_tru, ↓q_and, ↓q_or, ↓q_not, ↓q_andV, ↓q_orV, ↓q_notV, ↓q_if, ↓q_nil, ↓q_cons, ↓q_esc, ↓q_tup, ↓q_tupR, ↓q_disp, ↓q_dispR, ↓q_tree, ↓q_cell, ↓q_B, ↓q_mb, ↓q_noP, ↓q_part, ↓q_prt, ↓q_sl, ↓q_chain, ↓q_dict0, ↓q_next, ↓q_brk, ↓q_cnt, ↓q_seq, ↓q_ret, ↓q_retN, ↓q_expr, ↓q_ifS, ↓q_asg, ↓q_laid, ↓q_gT1, ↓q_gR1, ↓q_gTup, ↓q_gTs0, ↓q_gTs1, ↓q_gTt, ↓q_gT1', ↓q_own, ↓q_for, ↓q_rng, ↓q_rng1, ↓q_rng2, ↓q_rev, ↓q_rev1, ↓q_iter, ↓q_itL, ↓q_itT, ↓q_itM, ↓q_add, ↓q_sub, ↓q_neg, ↓q_mul1, ↓q_mul2, ↓q_div, ↓q_mod, ↓q_pow, ↓q_shl, ↓q_shr, ↓q_andB, ↓q_orB, ↓q_xorB, ↓q_lt, ↓q_le, ↓q_gt, ↓q_ge, ↓q_eqI, ↓q_neI, ↓q_eqM, ↓q_neM, ↓q_inM, ↓q_notInM, ↓q_eqB, ↓q_isB, ↓q_notB, ↓q_isN, ↓q_isNI, ↓q_isNT, ↓q_isNL, ↓q_isNS, ↓q_isNr, ↓q_notN, ↓q_notNI, ↓q_notNT, ↓q_notNL, ↓q_notNS, ↓q_notNr, ↓q_isi, tyOf, Ty.sub, ↓q_ixL, ↓q_ixT, ↓q_ixM, ↓q_lenM, ↓q_lenL, ↓q_lenT, ↓q_int, ↓q_intB, ↓q_catM, ↓q_mulM, ↓q_slM, ↓q_slL, ↓q_slT, ↓q_catL, allT_nil, q_allT, m_D, m_B, m_1, m_2, m_3, m_5, m_6, m_7, cut_to, cut_from, cut_mid, cut_all', at0, at1, at2, at3, at4, at5, at6, at7, at8, at9, at10, at11, at12, at13, at14, at15, at16, at17, at18, at19, allT_cons, map_some, bind_some, ↓r_call, ↓r_callR, ↓r_escs0, ↓r_escs, ↓r_escT, ↓r_escR, viewT_t, viewL_t, isStr, List.getElem?_cons_zero, List.getElem?_cons_succ, List.set_cons_zero, List.set_cons_succ, List.map_cons, List.map_nil, List.cons_append, List.nil_append, List.replicate_zero, List.replicate_succ, Nat.reduceSub, Nat.reduceAdd, Nat.reduceLeDiff, Nat.reduceLT, Nat.lt_add_one, Nat.zero_lt_succ, List.length_cons, List.length_nil, if_true, if_false, Bool.not_true, Bool.not_false, decide_eq_true_eq, Bool.not_eq_true', decide_eq_false_iff_not, Bool.false_eq_true, reduceCtorEq, ite_true, ite_false, ite_self, q_cast, eq_self, Int.reduceLT, Int.reduceLE, Int.reduceEq, Int.reduceNeg, decide_true, decide_false])
local macro_rules | `(tactic| simp! [$ls,*]) => `(tactic| simp (disch := first | omega | assumption | decide | exact Nat.le_of_ble_eq_true rfl | decide +kernel | (simp only [List.length_append, List.length_cons, List.length_nil, List.length_take, List.length_drop, List.length_replicate, sl_eq]; omega) | exact rfl) only [↓lc0, ll1, ↓lc1, ↓lc2, ll3, ↓lc3, ↓lc4, ll5, ↓lc5, ll6, ↓lc6, ↓lc7, ↓lc8, ↓lc9, ll10, ↓lc10, ll11, ↓lc11, ↓q_iterK, ↓q_iterV, ↓q_iterP, q_iterKR, q_iterVR, q_iterPR, ↓q_dpop, ↓q_dpopN, ↓q_popN, ↓q_setd, ↓q_setdN, ↓q_setdV, ↓q_aug, ↓q_augD, ↓q_augDN, ↓q_augDV, ↓q_inDN, ↓q_notInDN, ↓q_lsl, ↓q_setX, ↓q_setXN, ↓q_setXI, ↓q_setXB, ↓q_enumT, q_enumTL, q_enumTT, q_wipe0, q_wipe1, q_rest0, q_rest1, q_restD, q_restN, q_restL, q_restK, ↓q_ixDL, ↓q_ixDT, ↓q_ixDS, ↓q_ixDD, ↓q_ixDR, ↓q_ixDB, q_keyS, q_keyI, q_val0, q_val1, q_kSS, q_kII, q_kIS, q_kSI, q_put0, q_put1, q_up0, q_up1, q_mer0, q_mer1, lit_ne, q_small, q_gdS, q_gdN, ↓q_kDisp, ↓q_kDispR, ↓q_prs0, ↓q_prs1, ↓q_prR, ↓q_kNew, ↓q_cellD, ↓q_treeD, q_allK0, q_allK1, q_keyDI, q_keyDS, q_tks0, q_tksS, q_tksI, ↓q_ownD, ↓q_get2, ↓q_get2R, ↓q_get1, ↓q_get1R, q_vwD, q_vwR, q_vwB, q_vwL, q_vwT, q_owDR, q_owDB, ↓q_upd, ↓q_updR, ↓q_updV, q_apT, q_apBR, q_apRR, q_pDR, q_pDB, ↓q_listOf, q_listT, q_listL, ↓q_dictOf, ↓q_fld, ↓q_sfld, ↓q_fldR, ↓q_meth, ↓q_methR, ↓q_make, ↓q_makeR, lk_hit, lk_miss, lk_nil, ↓q_mut, ↓q_mutR, ↓q_mutB, ↓q_mutAR, ↓q_mutAB, q_mutV, q_app, q_popA, q_pop0, ↓q_setL, ↓q_setRR, ↓q_setRB, q_setV, q_ixN, ↓q_par, ↓q_sortT, ↓q_zip, ↓q_zipR, ↓q_enum, ↓q_enumR, ↓r_escB, allT_r, ↓q_parR, ↓q_ixR, ↓q_ixB, ↓q_lenR, ↓q_lenB, ↓q_min, ↓q_max, ↓q_tupT, ↓q_tupL, ↓q_tupB, ↓q_catT, List.mem_cons, List.mem_singleton, true_or, or_true, putFD, List.set_set, and_true, true_and, ↓wp_some, ↓wp_none, wp_ite, ↓r_bnd, ↓r_bndX, ↓r_bndS, ↓r_bndSX, ↓r_nx, ↓r_rt, ↓r_bk, ↓r_ct, ↓r_ex, bnd_ite, bndS_ite, thenS_ite, ans_ite, ↓r_ans, ↓r_ans0, ↓r_bnd0, ↓r_bndS0, ↓r_0, ↓q_var, ↓q_cI, ↓q_cB, ↓q_cN, ↓q_op, ↓q_un, ↓q_test, ↓q_tst, ↓q_tru, ↓q_and, ↓q_or, ↓q_not, ↓q_andV, ↓q_orV, ↓q_notV, ↓q_if, ↓q_nil, ↓q_cons, ↓q_esc, ↓q_tup, ↓q_tupR, ↓q_disp, ↓q_dispR, ↓q_tree, ↓q_cell, ↓q_B, ↓q_mb, ↓q_noP, ↓q_part, ↓q_prt, ↓q_sl, ↓q_chain, ↓q_dict0, ↓q_next, ↓q_brk, ↓q_cnt, ↓q_seq, ↓q_ret, ↓q_retN, ↓q_expr, ↓q_ifS, ↓q_asg, ↓q_laid, ↓q_gT1, ↓q_gR1, ↓q_gTup, ↓q_gTs0, ↓q_gTs1, ↓q_gTt, ↓q_gT1', ↓q_own, ↓q_for, ↓q_rng, ↓q_rng1, ↓q_rng2, ↓q_rev, ↓q_rev1, ↓q_iter, ↓q_itL, ↓q_itT, ↓q_itM, ↓q_add, ↓q_sub, ↓q_neg, ↓q_mul1, ↓q_mul2, ↓q_div, ↓q_mod, ↓q_pow, ↓q_shl, ↓q_shr, ↓q_andB, ↓q_orB, ↓q_xorB, ↓q_lt, ↓q_le, ↓q_gt, ↓q_ge, ↓q_eqI, ↓q_neI, ↓q_eqM, ↓q_neM, ↓q_inM, ↓q_notInM, ↓q_eqB, ↓q_isB, ↓q_notB, ↓q_isN, ↓q_isNI, ↓q_isNT, ↓q_isNL, ↓q_isNS, ↓q_isNr, ↓q_notN, ↓q_notNI, ↓q_notNT, ↓q_notNL, ↓q_notNS, ↓q_notNr, ↓q_isi, tyOf, Ty.sub, ↓q_ixL, ↓q_ixT, ↓q_ixM, ↓q_lenM, ↓q_lenL, ↓q_lenT, ↓q_int, ↓q_intB, ↓q_catM, ↓q_mulM, ↓q_slM, ↓q_slL, ↓q_slT, ↓q_catL, allT_nil, q_allT, m_D, m_B, m_1, m_2, m_3, m_5, m_6, m_7, cut_to, cut_from, cut_mid, cut_all', at0, at1, at2, at3, at4, at5, at6, at7, at8, at9, at10, at11, at12, at13, at14, at15, at16, at17, at18, at19, allT_cons, map_some, bind_some, ↓r_call, ↓r_callR, ↓r_escs0, ↓r_escs, ↓r_escT, ↓r_escR, viewT_t, viewL_t, isStr, List.getElem?_cons_zero, List.getElem?_cons_succ, List.set_cons_zero, List.set_cons_succ, List.map_cons, List.map_nil, List.cons_append, List.nil_append, List.replicate_zero, List.replicate_succ, Nat.reduceSub, Nat.reduceAdd, Nat.reduceLeDiff, Nat.reduceLT, Nat.lt_add_one, Nat.zero_lt_succ, List.length_cons, List.length_nil, if_true, if_false, Bool.not_true, Bool.not_false, decide_eq_true_eq, Bool.not_eq_true', decide_eq_false_iff_not, Bool.false_eq_true, reduceCtorEq, ite_true, ite_false, ite_self, q_cast, eq_self, Int.reduceLT, Int.reduceLE, Int.reduceEq, Int.reduceNeg, decide_true, decide_false, $ls,*])
local macro_rules | `(tactic| walk_at "pl") => `(tactic| repeat (first | rw [wp_bnd] | rw [wp_bndS] | rw [wp_thenS]))
local macro_rules | `(tactic| walk_at "ws") => `(tactic| simp (disch := first | omega | assumption | decide | exact Nat.le_of_ble_eq_true rfl | decide +kernel | (simp only [List.length_append, List.length_cons, List.length_nil, List.length_take, List.length_drop, List.length_replicate, sl_eq]; omega) | exact rfl) only [↓lc0, ll1, ↓lc1, ↓lc2, ll3, ↓lc3, ↓lc4, ll5, ↓lc5, ll6, ↓lc6, ↓lc7, ↓lc8, ↓lc9, ll10, ↓lc10, ll11, ↓lc11, ↓q_iterK, ↓q_iterV, ↓q_iterP, q_iterKR, q_iterVR, q_iterPR, ↓q_dpop, ↓q_dpopN, ↓q_popN, ↓q_setd, ↓q_setdN, ↓q_setdV, ↓q_aug, ↓q_augD, ↓q_augDN, ↓q_augDV, ↓q_inDN, ↓q_notInDN, ↓q_lsl, ↓q_setX, ↓q_setXN, ↓q_setXI, ↓q_setXB, ↓q_enumT, q_enumTL, q_enumTT, q_wipe0, q_wipe1, q_rest0, q_rest1, q_restD, q_restN, q_restL, q_restK, ↓q_ixDL, ↓q_ixDT, ↓q_ixDS, ↓q_ixDD, ↓q_ixDR, ↓q_ixDB, q_keyS, q_keyI, q_val0, q_val1, q_kSS, q_kII, q_kIS, q_kSI, q_put0, q_put1, q_up0, q_up1, q_mer0, q_mer1, lit_ne, q_small, q_gdS, q_gdN, ↓q_kDisp, ↓q_kDispR, ↓q_prs0, ↓q_prs1, ↓q_prR, ↓q_kNew, ↓q_cellD, ↓q_treeD, q_allK0, q_allK1, q_keyDI, q_keyDS, q_tks0, q_tksS, q_tksI, ↓q_ownD, ↓q_get2, ↓q_get2R, ↓q_get1, ↓q_get1R, q_vwD, q_vwR, q_vwB, q_vwL, q_vwT, q_owDR, q_owDB, ↓q_upd, ↓q_updR, ↓q_updV, q_apT, q_apBR, q_apRR, q_pDR, q_pDB, ↓q_listOf, q_listT, q_listL, ↓q_dictOf, ↓q_fld, ↓q_sfld, ↓q_fldR, ↓q_meth, ↓q_methR, ↓q_make, ↓q_makeR, lk_hit, lk_miss, lk_nil, ↓q_mut, ↓q_mutR, ↓q_mutB, ↓q_mutAR, ↓q_mutAB, q_mutV, q_app, q_popA, q_pop0, ↓q_setL, ↓q_setRR, ↓q_setRB, q_setV, q_ixN, ↓q_par, ↓q_sortT, ↓q_zip, ↓q_zipR, ↓q_enum, ↓q_enumR, ↓r_escB, allT_r, ↓q_parR, ↓q_ixR, ↓q_ixB, ↓q_lenR, ↓q_lenB, ↓q_min, ↓q_max, ↓q_tupT, ↓q_tupL, ↓q_tupB, ↓q_catT, List.mem_cons, List.mem_singleton, true_or, or_true, putFD, List.set_set, and_true, true_and, ↓wp_some, ↓wp_none, wp_ite, ↓r_bnd, ↓r_bndX, ↓r_bndS, ↓r_bndSX, ↓r_nx, ↓r_rt, ↓r_bk, ↓r_ct, ↓r_ex, bnd_ite, bndS_ite, thenS_ite, ans_ite, ↓r_ans, ↓r_ans0, ↓r_bnd0, ↓r_bndS0, ↓r_0, ↓q_var, ↓q_cI, ↓q_cB, ↓q_cN, ↓q_op, ↓q_un, ↓q_test, ↓q_tst, ↓q_tru, ↓q_and, ↓q_or, ↓q_not, ↓q_andV, ↓q_orV, ↓q_notV, ↓q_if, ↓q_nil, ↓q_cons, ↓q_esc, ↓q_tup, ↓q_tupR, ↓q_disp, ↓q_dispR, ↓q_tree, ↓q_cell, ↓q_B, ↓q_mb, ↓q_noP, ↓q_part, ↓q_prt, ↓q_sl, ↓q_chain, ↓q_dict0, ↓q_next, ↓q_brk, ↓q_cnt, ↓q_seq, ↓q_ret, ↓q_retN, ↓q_expr, ↓q_ifS, ↓q_asg, ↓q_laid, ↓q_gT1, ↓q_gR1, ↓q_gTup, ↓q_gTs0, ↓q_gTs1, ↓q_gTt, ↓q_gT1', ↓q_own, ↓q_for, ↓q_rng, ↓q_rng1, ↓q_rng2, ↓q_rev, ↓q_rev1, ↓q_iter, ↓q_itL, ↓q_itT, ↓q_itM, ↓q_add, ↓q_sub, ↓q_neg, ↓q_mul1, ↓q_mul2, ↓q_div, ↓q_mod, ↓q_pow, ↓q_shl, ↓q_shr, ↓q_andB, ↓q_orB, ↓q_xorB, ↓q_lt, ↓q_le, ↓q_gt, ↓q_ge, ↓q_eqI, ↓q_neI, ↓q_eqM, ↓q_neM, ↓q_inM, ↓q_notInM, ↓q_eqB, ↓q_isB, ↓q_notB, ↓q_isN, ↓q_isNI, ↓q_isNT, ↓q_isNL, ↓q_isNS, ↓q_isNr, ↓q_notN, ↓q_notNI, ↓q_notNT, ↓q_notNL, ↓q_notNS, ↓q_notNr, ↓q_isi, tyOf, Ty.sub, ↓q_ixL, ↓q_ixT, ↓q_ixM, ↓q_lenM, ↓q_lenL, ↓q_lenT, ↓q_int, ↓q_intB, ↓q_catM, ↓q_mulM, ↓q_slM, ↓q_slL, ↓q_slT, ↓q_catL, allT_nil, q_allT, m_D, m_B, m_1, m_2, m_3, m_5, m_6, m_7, cut_to, cut_from, cut_mid, cut_all', at0, at1, at2, at3, at4, at5, at6, at7, at8, at9, at10, at11, at12, at13, at14, at15, at16, at17, at18, at19, allT_cons, map_some, bind_some, ↓r_call, ↓r_callR, ↓r_escs0, ↓r_escs, ↓r_escT, ↓r_escR, viewT_t, viewL_t, isStr, List.getElem?_cons_zero, List.getElem?_cons_succ, List.set_cons_zero, List.set_cons_succ, List.map_cons, List.map_nil, List.cons_append, List.nil_append, List.replicate_zero, List.replicate_succ, Nat.reduceSub, Nat.reduceAdd, Nat.reduceLeDiff, Nat.reduceLT, Nat.lt_add_one, Nat.zero_lt_succ, List.length_cons, List.length_nil, if_true, if_false, Bool.not_true, Bool.not_false, decide_eq_true_eq, Bool.not_eq_true', decide_eq_false_iff_not, Bool.false_eq_true, reduceCtorEq, ite_true, ite_false, ite_self, q_cast, eq_self, Int.reduceLT, Int.reduceLE, Int.reduceEq, Int.reduceNeg, decide_true, decide_false, *])
/-! ### unfinished -/
theorem nodup_le {α : Type} [DecidableEq α] : ∀ {l m : List α}, l.Nodup → (∀ x ∈ l, x ∈ m) → l.length ≤ m.length
  | [], _, _, _ => Nat.zero_le _
  | x :: r, m, hn, hs => by
    have h1 := nodup_le (l := r) (m := m.erase x) (List.nodup_cons.mp hn).2 fun y hy => by
      have hne : y ≠ x := fun e => (List.nodup_cons.mp hn).1 (by rw [← e]; exact hy)
      exact (List.mem_erase_of_ne hne).mpr (hs y (List.mem_cons_of_mem _ hy))
    have hx := hs x List.mem_cons_self
    have h2 := List.length_erase_of_mem hx
    have h3 := List.length_pos_of_mem hx
    rw [List.length_cons]
    omega
def lf (f : Nm → List Nm) (ks : List Nm) (x : Nm) : List Nm := (f x).filter fun y => decide (y ∈ ks)
/-- the askers so far: al tells the lists, ix where they lie -/
structure Ask (S : So) (ks aks : List Nm) (ix : Nm → Nat) (al : Nm → List Nm) (cs : List Ce) : Prop where
  nd : aks.Nodup
  sub : ∀ y ∈ aks, y ∈ ks
  inj : ∀ y ∈ aks, ∀ z ∈ aks, ix y = ix z → y = z
  cl : ∀ y ∈ aks, cs[ix y]? = some (.lst ((al y).map fun x => .t (tS x)))
  no : ∀ y, y ∉ aks → al y = []
  le : ∀ y, (al y).length ≤ cs.length
abbrev aD (S : So) (ix : Nm → Nat) (y : Nm) : D := .r (S.length + 2 + ix y)
theorem Ask.key {S : So} {ks aks : List Nm} {ix : Nm → Nat} {al : Nm → List Nm} {cs : List Ce} (h : Ask S ks aks ix al cs) {y x : Nm} (hy : y ∈ aks) :
    Ask S ks aks ix (fun z => if z = y then al y ++ [x] else al z) ((cs ++ [Ce.lst []]).set (ix y) (Ce.lst ((al y).map (fun x => D.t (tS x)) ++ [D.t (tS x)]))) := by
  have hlt : ix y < cs.length := (List.getElem?_eq_some_iff.mp (h.cl y hy)).1
  refine ⟨h.nd, h.sub, h.inj, fun z hz => ?_, fun z hz => ?_, fun z => ?_⟩
  · rw [List.getElem?_set]
    by_cases e : z = y
    · subst e
      rw [if_pos rfl, if_pos (by rw [List.length_append]; omega), if_pos rfl, List.map_append]; rfl
    · rw [if_neg fun q => e (h.inj z hz y hy q.symm), if_neg e, List.getElem?_append_left (List.getElem?_eq_some_iff.mp (h.cl z hz)).1]
      exact h.cl z hz
  · have e : z ≠ y := fun q => hz (by rw [q]; exact hy)
    rw [if_neg e]; exact h.no z hz
  · have h1 := h.le z; have h2 := h.le y
    rw [List.length_set, List.length_append]
    split
    · rw [List.length_append]; exact Nat.add_le_add h2 (Nat.le_refl _)
    · omega
theorem Ask.new {S : So} {ks aks : List Nm} {ix : Nm → Nat} {al : Nm → List Nm} {cs : List Ce} (h : Ask S ks aks ix al cs) {y x : Nm} (hy : y ∉ aks) (hk : y ∈ ks) :
    Ask S ks (aks ++ [y]) (fun z => if z = y then cs.length else ix z) (fun z => if z = y then al y ++ [x] else al z) ((cs ++ [Ce.lst []]).set cs.length (Ce.lst [D.t (tS x)])) := by
  have ne : ∀ z ∈ aks, z ≠ y := fun z hz q => hy (by rw [← q]; exact hz)
  have lt : ∀ z ∈ aks, ix z < cs.length := fun z hz => (List.getElem?_eq_some_iff.mp (h.cl z hz)).1
  have mem : ∀ z, z ∈ aks ++ [y] → z ∈ aks ∨ z = y := fun z hz => by simpa using hz
  refine ⟨?_, fun z hz => ?_, fun a ha b hb e => ?_, fun z hz => ?_, fun z hz => ?_, fun z => ?_⟩
  · rw [List.nodup_append]
    exact ⟨h.nd, by simp, fun a ha b hb => by rw [List.mem_singleton.mp hb]; exact ne a ha⟩
  · rcases mem z hz with q | rfl
    · exact h.sub z q
    · exact hk
  · rcases mem a ha with qa | rfl
    · rcases mem b hb with qb | rfl
      · rw [if_neg (ne a qa), if_neg (ne b qb)] at e
        exact h.inj a qa b qb e
      · rw [if_neg (ne a qa), if_pos rfl] at e
        have := lt a qa; omega
    · rcases mem b hb with qb | rfl
      · rw [if_neg (ne b qb), if_pos rfl] at e
        have := lt b qb; omega
      · rfl
  · rw [List.getElem?_set]
    rcases mem z hz with q | rfl
    · rw [if_neg (ne z q), if_neg (ne z q), if_neg (by have := lt z q; omega), List.getElem?_append_left (lt z q)]
      exact h.cl z q
    · rw [if_pos rfl, if_pos rfl, if_pos rfl, if_pos (by simp), h.no z hy]; rfl
  · have e : z ≠ y := fun q => hz (by simp [q])
    have e2 : z ∉ aks := fun q => hz (by simp [q])
    rw [if_neg e]; exact h.no z e2
  · have h1 := h.le z; have h2 := h.le y
    rw [List.length_set, List.length_append]
    split
    · rw [List.length_append]; exact Nat.add_le_add h2 (Nat.le_refl _)
    · omega
theorem askers_snoc (f : Nm → List Nm) (ks pre : List Nm) (x y : Nm) : askersOf ((pre ++ [x]).map fun z => (z, lf f ks z)) y = askersOf (pre.map fun z => (z, lf f ks z)) y ++ ((lf f ks x).filter fun z => decide (z = y)).map fun _ => x := by
  unfold askersOf
  rw [List.map_append, List.flatMap_append]
  simp

theorem len_lf (f : Nm → List Nm) (ks : List Nm) (x : Nm) : (lf f ks x).length ≤ (f x).length := List.length_filter_le _ _
theorem ones_items (f : Nm → D) (ks : List Nm) : ((dicF f ks).map fun kv => Im.tup [.t (keyD kv.1), kv.2]) = ks.map fun x => Im.tup [.t (tS x), f x] := by
  unfold dicF; rw [List.map_map]; rfl
theorem set_sub (A : So) (a b : Ce) (cs : List Ce) (i : Nat) (c : Ce) : (A ++ a :: b :: cs).set (A.length + 2 + i) c = A ++ a :: b :: cs.set i c := by
  rw [List.set_append_right _ _ (by omega), show A.length + 2 + i - A.length = i + 2 by omega]; rfl
theorem get_sub (A : So) (a b : Ce) (cs : List Ce) (i : Nat) : (A ++ a :: b :: cs)[A.length + 2 + i]? = cs[i]? := by
  rw [List.getElem?_append_right (by omega), show A.length + 2 + i - A.length = i + 2 by omega]; rfl
theorem snoc_sub (A : So) (a b : Ce) (cs : List Ce) (c : Ce) : (A ++ a :: b :: cs) ++ [c] = A ++ a :: b :: (cs ++ [c]) := by simp
theorem len_sub (A : So) (a b : Ce) (cs : List Ce) : (A ++ a :: b :: cs).length = A.length + 2 + cs.length := by simp; omega
theorem snoc2 (A : So) (a b c d : Ce) (cs ex : List Ce) : (A ++ a :: b :: (cs ++ c :: ex)) ++ [d] = A ++ a :: b :: (cs ++ c :: (ex ++ [d])) := by simp
theorem len2 (A : So) (a b c : Ce) (cs ex : List Ce) : (A ++ a :: b :: (cs ++ c :: ex)).length = A.length + 2 + (cs.length + 1 + ex.length) := by simp; omega
theorem map_tS (w : List Nm) : (w.map fun x => D.t (tS x)) = (w.map tS).map .t := by rw [List.map_map]; rfl
theorem getR {n : Nat} {S : So} {ds : List D} (h : S[n]? = some (.lst ds)) : viewL [] S (.r n) = some ds := by unfold viewL; dsimp only; rw [h]
theorem unfE (k : Nat) {f : Nm → List Nm} {ks : List Nm} {S : So} {n : Nat} (ok : WebOk f ks) (hS : S[n]? = some (.dic (dicF (fD f) ks))) :
    ∃ T m pr, fns (k + 1) 0 [.r n] S = some (.ok (.r (S.length + T.length)), S ++ T ++ [.dic (dicF (fD (fun x => (lf f ks x).filter fun y => decide (m y > 0))) (ks.filter fun x => decide (m x > 0)))]) ∧ Kn (webL f ks) m [] pr := by
  suffices q : Wc (fns (k + 1) 0 [.r n] S) fun r s => ∃ T m pr, r = .ok (.r (S.length + T.length)) ∧ s = S ++ T ++ [.dic (dicF (fD (fun x => (lf f ks x).filter fun y => decide (m y > 0))) (ks.filter fun x => decide (m x > 0)))] ∧ Kn (webL f ks) m [] pr by
    obtain ⟨r, s, e, T, m, pr, rfl, rfl, h⟩ := q
    exact ⟨T, m, pr, e, h⟩
  rw [e0]
  refine wc_run ?_ ?_
  · rfl
  unfold b0
  have hnS := (List.getElem?_eq_some_iff.mp hS).1
  simp! []
  rw [show S ++ [Ce.dic []] ++ [Ce.dic []] = S ++ Ce.dic [] :: Ce.dic [] :: [] by simp, show (S ++ [Ce.dic []]).length = S.length + 1 by simp]
  walk_at "pl"
  refine wp_lk (n := n) (kvs := dicF (fD f) ks) rfl (app_old _ hS) ?_
  rw [set_old _ _ hS]
  have hlA : (S.set n (.frd (dicF (fD f) ks))).length = S.length := List.length_set
  have hAn : (S.set n (.frd (dicF (fD f) ks)))[n]? = some (.frd (dicF (fD f) ks)) := by rw [List.getElem?_set]; simp [hnS]
  have hback : ∀ T : So, (S.set n (.frd (dicF (fD f) ks)) ++ T).set n (.dic (dicF (fD f) ks)) = S ++ T := fun T => by
    rw [set_old T _ hAn, List.set_set, set_back hS]
  have hfin : ∀ T : So, (S.set n (.frd (dicF (fD f) ks)) ++ T)[n]? = some (.frd (dicF (fD f) ks)) := fun T => app_old T hAn
  generalize S.set n (.frd (dicF (fD f) ks)) = A at *
  have hk := fun ev => q_iterPR (ev := ev) (S := A ++ [.dic [], .dic []]) (n := n) (kvs := dicF (fD f) ks) (hfin _)
  rw [← hlA]
  simp! [hk]
  have hks : ∀ x ∈ ks, (lf f ks x).length ≤ 4 := fun x hx => Nat.le_trans (len_lf f ks x) (ok.len x hx)
  refine wp_forE (fun x : Nm => Im.tup [.t (tS x), fD f x]) ks (fun pre post e s => ∃ aks ix al cs x3 x4 x5, Ask A ks aks ix al cs ∧ (∀ y, al y = askersOf (pre.map fun z => (z, lf f ks z)) y) ∧ cs.length ≤ 4 * pre.length ∧ restV (some x5) = x5 ∧ s = A ++ .dic (dicF (fD (lf f ks)) pre) :: .dic (dicF (aD A ix) aks) :: cs ∧ e = [vR n, vR A.length, vR (A.length + 1), x3, x4, x5, none, none, none]) (ones_items _ _) ?_ (by intros; trivial) ?_ ?_
  · exact ⟨[], fun _ => 0, fun _ => [], [], none, none, none, ⟨by simp, by simp, by simp, by simp, by simp, by simp⟩, fun y => rfl, by simp, rfl, rfl, rfl⟩
  · rintro pre x post _ _ hp ⟨aks, ix, al, cs, x3, x4, x5, ha, hal, hcl, hx5, rfl, rfl⟩
    have hx : x ∈ ks := by rw [hp]; simp
    have hxp : x ∉ pre := fun h => by
      have := ok.nd
      rw [hp, List.nodup_append] at this
      exact this.2.2 x h x List.mem_cons_self rfl
    have hpl : pre.length < 40 := by
      have := congrArg List.length hp
      rw [List.length_append, List.length_cons] at this
      have := ok.l2; omega
    simp! [ex_eq]
    walk_at "pl"
    refine wp_cB (fun y : Nm => Im.one (.t (tS y))) (fun y => decide (y ∈ ks)) (fun y => D.t (tS y)) (f x) ?_
    simp! []
    refine cB_mk (ones_tS _) (by rw [sl_eq]; have := ok.len x hx; omega) trivial ?_ ?_
    · intro y hy
      simp! [ex_eq, hfin, val_is]
    have hpz : (dicF (fD (lf f ks)) pre).length < sizeLine := by rw [len_F, sl_eq]; omega
    have hput := put_newF (f := fD (lf f ks)) (ks := pre) (x := x) (fD (lf f ks) x) hxp
    have hput2 : dicF (fun z => if z = x then fD (lf f ks) x else fD (lf f ks) z) (pre ++ [x]) = dicF (fD (lf f ks)) (pre ++ [x]) := dicF_congr fun z _ => by
      by_cases q : z = x
      · rw [if_pos q, q]
      · rw [if_neg q]
    have hvx := val_in (f := fD (lf f ks)) (ks := pre ++ [x]) (x := x) (by simp)
    rw [show ((f x).filter fun y => decide (y ∈ ks)) = lf f ks x from rfl]
    simp! [app_get, app_set, hput, hput2, hvx]
    rw [if_pos hpz]
    have hl4 := hks x hx
    refine wp_forE (fun y : Nm => Im.one (.t (tS y))) (lf f ks x) (fun pre2 post2 e s => ∃ aks ix al cs x5, Ask A ks aks ix al cs ∧ (∀ y, al y = askersOf (pre.map fun z => (z, lf f ks z)) y ++ (pre2.filter fun z => decide (z = y)).map fun _ => x) ∧ cs.length ≤ 4 * pre.length + pre2.length ∧ restV (some x5) = x5 ∧ s = A ++ .dic (dicF (fD (lf f ks)) (pre ++ [x])) :: .dic (dicF (aD A ix) aks) :: cs ∧ e = [vR n, vR A.length, vR (A.length + 1), vT (tS x), vT (.list ((f x).map tS)), x5, none, none, none]) (ones_tS _) ?_ (by intros; trivial) ?_ ?_
    · exact ⟨aks, ix, al, cs, _, ha, fun y => by rw [hal y]; simp, by simpa using hcl, by rw [hx5]; exact hx5, rfl, rfl⟩
    · clear ha hal hcl
      rintro pre2 y post2 _ _ hp2 ⟨aks, ix, al, cs, x5, ha, hal, hcl, hx5', rfl, rfl⟩
      have hp4 : pre2.length < 4 := by
        have := congrArg List.length hp2
        rw [List.length_append, List.length_cons] at this
        omega
      have hyk : y ∈ ks := by
        have : y ∈ lf f ks x := by rw [hp2]; simp
        exact of_decide_eq_true (List.mem_filter.mp this).2
      have haz : (dicF (aD A ix) aks).length < sizeLine := by
        rw [len_F, sl_eq]
        have h2 : aks.length ≤ ks.length := nodup_le ha.nd ha.sub
        have := ok.l2; omega
      have hcl2 : cs.length < 200 := by omega
      simp! [ex_eq, app_get1, len_sub, snoc_sub]
      rw [if_pos haz]
      by_cases hya : y ∈ aks
      · have hv := val_in (f := aD A ix) hya
        have hle : ((al y).map fun x => D.t (tS x)).length < sizeLine := by rw [List.length_map, sl_eq]; have := ha.le y; omega
        have hg : (cs ++ [Ce.lst []])[ix y]? = some (.lst ((al y).map fun x => .t (tS x))) := app_old _ (ha.cl y hya)
        simp! [hv, get_sub, hg, set_sub]
        refine ⟨aks, ix, _, _, _, ha.key (x := x) hya, fun z => ?_, by rw [List.length_set, List.length_append, List.length_append]; simp; omega, rfl, rfl, rfl⟩
        rw [List.filter_append, List.map_append, ← List.append_assoc, ← hal z]
        by_cases e : z = y
        · rw [if_pos e, e]; simp
        · rw [if_neg e]; simp [Ne.symm e]
      · have hv := val_out (f := aD A ix) hya
        have hpn := put_newF (f := aD A ix) (D.r (A.length + 2 + cs.length)) hya
        have hg : (cs ++ [Ce.lst []])[cs.length]? = some (.lst []) := by simp
        simp! [hv, get_sub, hg, set_sub, hpn, app_set1]
        have hd2 : dicF (fun z => if z = y then D.r (A.length + 2 + cs.length) else aD A ix z) (aks ++ [y]) = dicF (aD A (fun z => if z = y then cs.length else ix z)) (aks ++ [y]) := dicF_congr fun z _ => by
          by_cases e : z = y
          · rw [if_pos e]
            show D.r _ = D.r (A.length + 2 + if z = y then cs.length else ix z)
            rw [if_pos e]
          · rw [if_neg e]
            show D.r _ = D.r (A.length + 2 + if z = y then cs.length else ix z)
            rw [if_neg e]
        refine ⟨_, _, _, _, _, ha.new (x := x) hya hyk, fun z => ?_, by rw [List.length_set, List.length_append, List.length_append]; simp; omega, rfl, by rw [hd2], rfl⟩
        rw [List.filter_append, List.map_append, ← List.append_assoc, ← hal z]
        by_cases e : z = y
        · rw [if_pos e, e]; simp
        · rw [if_neg e]; simp [Ne.symm e]
    · rintro _ _ ⟨aks, ix, al, cs, x5, ha, hal, hcl, hx5', rfl, rfl⟩
      refine ⟨aks, ix, al, cs, _, _, _, ha, fun y => by rw [hal y, askers_snoc], by rw [List.length_append]; simp; omega, hx5', rfl, rfl⟩
  rintro _ _ ⟨aks, ix, al, cs, x3, x4, x5, ha, hal, hcl, hx5, rfl, rfl⟩
  refine ⟨hfin _, ?_⟩
  rw [hback]
  have hAS : aD A ix = aD S ix := by funext y; unfold aD; rw [hlA]
  rw [hAS, hlA]
  have ha' : Ask S ks aks ix al cs := ⟨ha.nd, ha.sub, ha.inj, ha.cl, ha.no, ha.le⟩
  clear ha hAS hfin hback hAn hlA hk
  have ha := ha'
  clear ha'
  dsimp only
  have hle40 := ok.l2
  refine wp_cut (fun e s => ∃ y3 y4 y5, restV (some y5) = y5 ∧ s = S ++ .dic (dicF (fD (lf f ks)) ks) :: .dic (dicF (aD S ix) aks) :: (cs ++ [.dic (dicF (fun x => .t (.int ((lf f ks x).length : Int))) ks)]) ∧ e = [vR n, vR S.length, vR (S.length + 1), y3, y4, y5, vR (S.length + 2 + cs.length), none, none]) ?_ ?_
  · simp! []
    walk_at "pl"
    refine wp_lkL (n := S.length) (kvs := dicF (fD (lf f ks)) ks) rfl app_get ?_
    rw [app_set]
    refine wp_cA (fun x : Nm => Im.tup [.t (tS x), fD (lf f ks) x]) (fun x => D.t (.tuple [tS x, .int ((lf f ks x).length : Int)])) ks ?_
    have hk := fun ev => q_iterPR (ev := ev) (S := S ++ .frd (dicF (fD (lf f ks)) ks) :: .dic (dicF (aD S ix) aks) :: cs) (n := S.length) (kvs := dicF (fD (lf f ks)) ks) app_get
    simp! [hk]
    refine cA_mk (ones_items _ _) (by rw [sl_eq]; omega) trivial ?_ ?_
    · intro x hx
      have hxl : ((lf f ks x).map tS).length ≤ sizeLine := by rw [List.length_map, sl_eq]; have := hks x hx; omega
      simp! [ex_eq, List.length_map]
    · have hdF := fun ev (S : So) => dict_F (ev := ev) (S := S) (fun x => .int ((lf f ks x).length : Int)) ks ok.nd (by omega)
      simp! [app_get, app_set, hdF, snoc_sub, len_sub]
      exact ⟨_, _, _, hx5, rfl⟩
  rintro _ _ ⟨y3, y4, y5, hy5, rfl, rfl⟩
  have hmg : ∀ (m : Nm → Int) (T : List Ce), (cs ++ .dic (dicF (fun x => .t (.int (m x))) ks) :: T)[cs.length]? = some (.dic (dicF (fun x => .t (.int (m x))) ks)) := fun m T => by simp
  have hms : ∀ (m : Nm → Int) (c : Ce) (T : List Ce), (cs ++ .dic (dicF (fun x => .t (.int (m x))) ks) :: T).set cs.length c = cs ++ c :: T := fun m c T => by simp
  refine wp_cut (fun e s => ∃ y3, s = S ++ .dic (dicF (fD (lf f ks)) ks) :: .dic (dicF (aD S ix) aks) :: (cs ++ [.dic (dicF (fun x => .t (.int ((lf f ks x).length : Int))) ks)]) ∧ e = [vR n, vR S.length, vR (S.length + 1), y3, y4, y5, vR (S.length + 2 + cs.length), some (.ol ((ks.filter fun x => decide (((lf f ks x).length : Int) = 0)).map fun x => .t (tS x))), none]) ?_ ?_
  · refine wp_lk (n := S.length) (kvs := dicF (fD (lf f ks)) ks) rfl app_get ?_
    rw [app_set]
    simp! []
    walk_at "pl"
    refine wp_cB (fun x : Nm => Im.one (.t (tS x))) (fun x => decide (((lf f ks x).length : Int) = 0)) (fun x => D.t (tS x)) ks ?_
    have hk := fun ev => q_iterKR (ev := ev) (S := S ++ .frd (dicF (fD (lf f ks)) ks) :: .dic (dicF (aD S ix) aks) :: (cs ++ [.dic (dicF (fun x => .t (.int ((lf f ks x).length : Int))) ks)])) (n := S.length) (kvs := dicF (fD (lf f ks)) ks) app_get
    simp! [hk]
    refine cB_mk (ones_keys _ _) (by rw [sl_eq]; omega) trivial ?_ ?_
    · intro x hx
      have hv := val_in (f := fun x => D.t (.int ((lf f ks x).length : Int))) hx
      simp! [ex_eq, get_sub, hmg (fun x => ((lf f ks x).length : Int)) [], hv]
    simp! [app_get, app_set]
    exact ⟨_, rfl⟩
  rintro _ _ ⟨z3, rfl, rfl⟩
  have hkn : (keys (webL f ks)).Nodup := by rw [keys_webL]; exact ok.nd
  have hkm : ∀ x, x ∈ keys (webL f ks) ↔ x ∈ ks := fun x => by rw [keys_webL]
  have hgx : ∀ x ∈ ks, gets (webL f ks) x = lf f ks x := fun x hx => gets_webL ok.nd hx
  have hL : ∀ x ∈ keys (webL f ks), ∀ z ∈ gets (webL f ks) x, z ∈ keys (webL f ks) := fun x hx z hz => by
    rw [hgx x ((hkm x).mp hx)] at hz
    exact (hkm z).mpr (of_decide_eq_true (List.mem_filter.mp hz).2)
  refine wp_cut (fun e s => ∃ (mm : Nm → Int) (pr : List Nm) (ex : List Ce) (y8 : Option En), Kn (webL f ks) mm [] pr ∧ s = S ++ .dic (dicF (fD (lf f ks)) ks) :: .dic (dicF (aD S ix) aks) :: (cs ++ .dic (dicF (fun x => .t (.int (mm x))) ks) :: ex) ∧ e = [vR n, vR S.length, vR (S.length + 1), z3, y4, y5, vR (S.length + 2 + cs.length), some (.ol []), y8]) ?_ ?_
  · refine wp_while (m := ks.length) (fun mz e s => ∃ (mm : Nm → Int) (w pr : List Nm) (ex : List Ce) (y8 : Option En), Kn (webL f ks) mm w pr ∧ mz + pr.length = ks.length ∧ s = S ++ .dic (dicF (fD (lf f ks)) ks) :: .dic (dicF (aD S ix) aks) :: (cs ++ .dic (dicF (fun x => .t (.int (mm x))) ks) :: ex) ∧ e = [vR n, vR S.length, vR (S.length + 1), z3, y4, y5, vR (S.length + 2 + cs.length), some (.ol (w.map fun x => .t (tS x))), y8]) ?_ ?_
    · refine ⟨fun x => ((lf f ks x).length : Int), ks.filter fun x => decide (((lf f ks x).length : Int) = 0), [], [], none, Kn.start (fun x hx => by rw [hgx x ((hkm x).mp hx)]) (ok.nd.filter _) (fun x => by rw [List.mem_filter, decide_eq_true_eq, hkm]), rfl, rfl, rfl⟩
    · rintro mz _ _ ⟨mm, w, pr, ex, y8, hK, hmz, rfl, rfl⟩
      have hwk : ∀ x ∈ w, x ∈ ks := fun x hx => (hkm x).mp (hK.b.2 x hx).1
      have hne : ∀ s, dNe [vR n, vR S.length, vR (S.length + 1), z3, y4, y5, vR (S.length + 2 + cs.length), some (.ol (w.map fun x => .t (tS x))), y8] s (.b 7) (.t (.list [])) = some (.t (.bool (!decide (w = [])))) := fun s => by
        rw [← ne_nilS (L := w) (ev := []) (S := s) (fun l hl => (ok.nm l (hwk l hl)).sm)]
        unfold dNe
        have e1 : dataOf [vR n, vR S.length, vR (S.length + 1), z3, y4, y5, vR (S.length + 2 + cs.length), some (.ol (w.map fun x => .t (tS x))), y8] s (.b 7) = some (.list (w.map tS)) := by
          show (some (w.map fun x => D.t (tS x))).bind (fun ds => (allT ds).map PyData.list) = _
          rw [map_tS, Option.bind_some, allT_map]; rfl
        rw [e1]; rfl
      by_cases hw0 : w = []
      · have hw1 := eq_true hw0
        simp! [hne, hw1]
        exact ⟨mm, pr, ex, y8, by rw [hw0] at hK; exact hK, rfl, by rw [hw0]; rfl⟩
      · have hw1 := eq_false hw0
        obtain ⟨w0, y, rfl⟩ : ∃ w0 y, w = w0 ++ [y] := ⟨_, _, (List.dropLast_concat_getLast hw0).symm⟩
        have hpop : muPop0 ((w0 ++ [y]).map fun x => D.t (tS x)) [] = some (.t (tS y), w0.map fun x => D.t (tS x)) := by
          rw [List.map_append]; exact q_pop0 _ _
        have hyk : y ∈ ks := hwk y (by simp)
        have hal2 : al y = askersOf (webL f ks) y := hal y
        -- the cell that is walked
        obtain ⟨p, hp1, hp2, hp3⟩ : ∃ p, (∀ c, (cs ++ c :: (ex ++ [Ce.lst []]))[p]? = some (.lst ((askersOf (webL f ks) y).map fun x => .t (tS x))) ∨ p = cs.length) ∧ p ≠ cs.length ∧ (valD (dicF (aD S ix) aks) (.inr (mkS y))).getD (.r (S.length + 2 + (cs.length + 1 + ex.length))) = .r (S.length + 2 + p) := by
          by_cases hya : y ∈ aks
          · have h1 := ha.cl y hya
            have h2 := (List.getElem?_eq_some_iff.mp h1).1
            refine ⟨ix y, fun c => .inl ?_, by omega, by rw [val_in hya]; rfl⟩
            rw [← hal2]
            exact app_old _ h1
          · refine ⟨cs.length + 1 + ex.length, fun c => .inl ?_, by omega, by rw [val_out hya]; rfl⟩
            rw [← hal2, ha.no y hya]
            rw [List.getElem?_append_right (by omega), show cs.length + 1 + ex.length - cs.length = ex.length + 1 by omega]
            simp
        have hp1 := fun c => (hp1 c).resolve_right hp2
        have hit : ∀ c, itOf (S ++ .dic (dicF (fD (lf f ks)) ks) :: .dic (dicF (aD S ix) aks) :: (cs ++ c :: (ex ++ [Ce.lst []]))) (.r (S.length + 2 + p)) = _ := fun c => q_itR (by rw [get_sub]; exact hp1 c)
        simp! [hne, hw1, hpop, app_get1, snoc2, len2, hp3, hit]
        have hprl : pr.length + 1 ≤ ks.length := nodup_le (l := y :: pr) (List.nodup_cons.mpr ⟨(hK.b.2 y (by simp)).2.2, hK.c.1⟩) fun z hz => by
          rcases List.mem_cons.mp hz with rfl | q
          · exact hyk
          · exact (hkm z).mp (hK.c.2 z q).1
        refine wp_forE (fun x : Nm => Im.one (.t (tS x))) (askersOf (webL f ks) y) (fun pre post e s => ∃ (mm : Nm → Int) (w : List Nm) (y8 : Option En), Ki (webL f ks) y pre post mm w pr ∧ s = S ++ .dic (dicF (fD (lf f ks)) ks) :: .dic (dicF (aD S ix) aks) :: (cs ++ .dic (dicF (fun x => .t (.int (mm x))) ks) :: (ex ++ [Ce.lst []])) ∧ e = [vR n, vR S.length, vR (S.length + 1), z3, y4, y5, vR (S.length + 2 + cs.length), some (.ol (w.map fun x => .t (tS x))), y8]) (by unfold ones; rw [List.map_map]; rfl) ?_ ?_ ?_ ?_
        · exact ⟨mm, w0, _, Ki.begin hK hL, rfl, rfl⟩
        · rintro pre post _ _ _ ⟨mm, w, y8, _, rfl, rfl⟩
          exact getR (by rw [get_sub]; exact hp1 _)
        · clear hK hne hpop hw0 hw1 hwk
          rintro pre x post _ _ _ ⟨mm, w, y8, hK, rfl, rfl⟩
          obtain ⟨hxk, hpos⟩ := hK.pos hkn
          have hxk := (hkm x).mp hxk
          have hst := hK.step hkn
          have hv := val_in (f := fun x => D.t (.int (mm x))) hxk
          have hput := put_old (f := fun x => D.t (.int (mm x))) (.t (.int (mm x - 1))) hxk
          have hput2 : dicF (fun z => if z = x then D.t (.int (mm x - 1)) else .t (.int (mm z))) ks = dicF (fun z => .t (.int (upd1 mm x (mm x - 1) z))) ks := dicF_congr fun z _ => by
            unfold upd1
            by_cases q : z = x
            · rw [if_pos q, if_pos q]
            · rw [if_neg q, if_neg q]
          have hv2 := val_in (f := fun z => D.t (.int (upd1 mm x (mm x - 1) z))) hxk
          have hu : upd1 mm x (mm x - 1) x = mm x - 1 := if_pos rfl
          rw [hu] at hv2
          have hkz : (dicF (fun x => D.t (.int (mm x))) ks).length < sizeLine := by rw [len_F, sl_eq]; omega
          have hwz : (w.map fun x => D.t (tS x)).length < sizeLine := by
            have := nodup_le hK.b.1 (m := ks) fun z hz => (hkm z).mp (hK.b.2 z hz).1
            rw [List.length_map, sl_eq]; omega
          have hmg2 := hmg mm (ex ++ [Ce.lst []])
          have hmg3 := hmg (upd1 mm x (mm x - 1)) (ex ++ [Ce.lst []])
          have hms2 := fun c => hms mm c (ex ++ [Ce.lst []])
          simp! [ex_eq, get_sub, set_sub, hmg2, hms2, hv, hput, hput2, hmg3, hv2, hkz]
          refine ite_of (fun h0 => ?_) (fun h0 => ?_)
          · rw [if_pos h0] at hst
            exact ⟨_, w ++ [x], _, hst, rfl, by rw [List.map_append]; rfl⟩
          · rw [if_neg h0] at hst
            exact ⟨_, w, _, hst, rfl, rfl⟩
        · rintro _ _ ⟨mm, w, y8, hK2, rfl, rfl⟩
          exact ⟨mz - 1, by omega, mm, w, y :: pr, _, _, hK2.fin hkn, by rw [List.length_cons]; omega, rfl, rfl⟩
  rintro _ _ ⟨mm, pr, ex, y8, hK, rfl, rfl⟩
  have hmm := hmg mm ex
  simp! []
  walk_at "pl"
  refine wp_lkL (n := S.length) (kvs := dicF (fD (lf f ks)) ks) rfl app_get ?_
  rw [app_set]
  refine wp_cB (fun x : Nm => Im.one (.t (tS x))) (fun x => decide (mm x > 0)) (fun x => D.t (.tuple [tS x, .list (((lf f ks x).filter fun y => decide (mm y > 0)).map tS)])) ks ?_
  have hk := fun ev => q_iterKR (ev := ev) (S := S ++ .frd (dicF (fD (lf f ks)) ks) :: .dic (dicF (aD S ix) aks) :: (cs ++ .dic (dicF (fun x => .t (.int (mm x))) ks) :: ex)) (n := S.length) (kvs := dicF (fD (lf f ks)) ks) app_get
  simp! [hk]
  refine cB_mk (ones_keys _ _) (by rw [sl_eq]; omega) trivial ?_ ?_
  · intro x hx
    have hv := val_in (f := fun x => D.t (.int (mm x))) hx
    have hv2 := val_in (f := fD (lf f ks)) hx
    simp! [ex_eq, get_sub, hmm, hv]
    by_cases h0 : mm x > 0
    · rw [if_pos h0]
      simp! [app_get, hv2]
      walk_at "pl"
      refine wp_cB (fun y : Nm => Im.one (.t (tS y))) (fun y => decide (mm y > 0)) (fun y => D.t (tS y)) (lf f ks x) ?_
      simp! [app_get, hv2]
      refine cB_mk (ones_tS _) (by rw [sl_eq]; have := hks x hx; omega) trivial ?_ ?_
      · intro y hy
        have hv3 := val_in (f := fun x => D.t (.int (mm x))) (of_decide_eq_true (List.mem_filter.mp hy).2 : y ∈ ks)
        simp! [ex_eq, get_sub, hmm, hv3]
      simp! [hy5]
    · rw [if_neg h0]
      try simp! []
  have hdF := fun ev (S : So) => dict_F (ev := ev) (S := S) (fun x => .list (((lf f ks x).filter fun y => decide (mm y > 0)).map tS)) (ks.filter fun x => decide (mm x > 0)) (ok.nd.filter _) (by have := List.length_filter_le (fun x => decide (mm x > 0)) ks; omega)
  simp! [app_get, app_set, hdF, snoc2, len2]
  refine ⟨.dic (dicF (fD (lf f ks)) ks) :: .dic (dicF (aD S ix) aks) :: (cs ++ .dic (dicF (fun x => .t (.int (mm x))) ks) :: ex), mm, pr, ?_, ?_, hK⟩
  · congr 2
    simp only [List.length_cons, List.length_append]
    omega
  · simp

/-! ### what unfinished leaves, told without its going -/
open Classical in
noncomputable def rksV (f : Nm → List Nm) (ks : List Nm) : List Nm := ks.filter fun x => decide (InU f ks x)
open Classical in
noncomputable def rfV (f : Nm → List Nm) (ks : List Nm) (x : Nm) : List Nm := (lf f ks x).filter fun y => decide (InU f ks y)
theorem kn_in {f : Nm → List Nm} {ks : List Nm} {m : Nm → Int} {pr : List Nm} (ok : WebOk f ks) (h : Kn (webL f ks) m [] pr) (x : Nm) (hx : x ∈ ks) : m x > 0 ↔ InU f ks x := by
  have hkm : ∀ x, x ∈ keys (webL f ks) ↔ x ∈ ks := fun x => by rw [keys_webL]
  have hL : ∀ x ∈ keys (webL f ks), ∀ z ∈ gets (webL f ks) x, z ∈ keys (webL f ks) := fun x hx z hz => by
    rw [gets_webL ok.nd ((hkm x).mp hx)] at hz
    exact (hkm z).mpr (of_decide_eq_true (List.mem_filter.mp hz).2)
  have hl := h.left hL
  constructor
  · intro hm
    refine ⟨fun z => z ∈ ks ∧ m z ≠ 0, fun z hz => ⟨(hkm z).mpr hz.1, ?_⟩, hx, by omega⟩
    obtain ⟨_, y, hy, hy2⟩ := hl z ((hkm z).mpr hz.1) hz.2
    exact ⟨y, hy, (hkm y).mp (hL z ((hkm z).mpr hz.1) y hy), hy2⟩
  · rintro ⟨R, hR, hRx⟩
    have h1 := h.ring hR hRx
    exact (hl x ((hkm x).mpr hx) h1).1
theorem unfinE (k : Nat) {f : Nm → List Nm} {ks : List Nm} {S : So} {n : Nat} (ok : WebOk f ks) (hS : S[n]? = some (.dic (dicF (fD f) ks))) :
    ∃ T, fns (k + 1) 0 [.r n] S = some (.ok (.r (S.length + T.length)), S ++ T ++ [.dic (dicF (fD (rfV f ks)) (rksV f ks))]) := by
  classical
  obtain ⟨T, m, pr, h1, h2⟩ := unfE k ok hS
  refine ⟨T, ?_⟩
  have hin := kn_in ok h2
  have e1 : (ks.filter fun x => decide (m x > 0)) = rksV f ks := by
    unfold rksV
    exact List.filter_congr fun x hx => by rw [decide_eq_decide]; exact hin x hx
  have e2 : dicF (fD (fun x => (lf f ks x).filter fun y => decide (m y > 0))) (rksV f ks) = dicF (fD (rfV f ks)) (rksV f ks) := dicF_congr fun x _ => by
    unfold fD rfV
    congr 3
    exact List.filter_congr fun y hy => by rw [decide_eq_decide]; exact hin y (of_decide_eq_true (List.mem_filter.mp hy).2)
  rw [h1, e1, e2]
theorem rks_rf {f : Nm → List Nm} {ks : List Nm} (ok : WebOk f ks) {x : Nm} (hx : x ∈ rksV f ks) : x ∈ ks ∧ rfV f ks x ≠ [] ∧ ∀ y ∈ rfV f ks x, y ∈ f x ∧ y ∈ rksV f ks := by
  classical
  unfold rksV at hx ⊢
  rw [List.mem_filter, decide_eq_true_eq] at hx
  obtain ⟨hxk, R, hR, hRx⟩ := hx
  obtain ⟨_, y, hy, hRy⟩ := (isR_iff ok.nd).mp hR x hRx
  refine ⟨hxk, fun e => ?_, fun z hz => ?_⟩
  · have : y ∈ rfV f ks x := by
      unfold rfV lf
      rw [List.mem_filter, List.mem_filter, decide_eq_true_eq, decide_eq_true_eq]
      exact ⟨⟨hy, ((isR_iff ok.nd).mp hR y hRy).1⟩, R, hR, hRy⟩
    rw [e] at this; cases this
  · unfold rfV lf at hz
    rw [List.mem_filter, List.mem_filter, decide_eq_true_eq, decide_eq_true_eq] at hz
    exact ⟨hz.1.1, List.mem_filter.mpr ⟨hz.1.2, decide_eq_true hz.2⟩⟩
theorem rks_nil {f : Nm → List Nm} {ks : List Nm} (ok : WebOk f ks) : rksV f ks = [] ↔ ¬ HasR f ks := by
  classical
  unfold rksV
  rw [filter_nil]
  constructor
  · rintro h ⟨x, hx⟩
    obtain ⟨R, hR, hRx⟩ := hx
    exact h x ((isR_iff ok.nd).mp hR x hRx).1 (decide_eq_true ⟨R, hR, hRx⟩)
  · intro h x _ hd
    exact h ⟨x, of_decide_eq_true hd⟩

end Y18

namespace Y18
open PySem L2 Cl TL
local macro_rules | `(tactic| walk_at "wp") => `(tactic| simp (disch := first | omega | assumption | decide | exact Nat.le_of_ble_eq_true rfl | decide +kernel | (simp only [List.length_append, List.length_cons, List.length_nil, List.length_take, List.length_drop, List.length_replicate, sl_eq]; omega) | exact rfl) only [↓lc0, ll1, ↓lc1, ↓lc2, ll3, ↓lc3, ↓lc4, ll5, ↓lc5, ll6, ↓lc6, ↓lc7, ↓lc8, ↓lc9, ll10, ↓lc10, ll11, ↓lc11, ↓q_iterK, ↓q_iterV, ↓q_iterP, q_iterKR, q_iterVR, q_iterPR, ↓q_dpop, ↓q_dpopN, ↓q_popN, ↓q_setd, ↓q_setdN, ↓q_setdV, ↓q_aug, ↓q_augD, ↓q_augDN, ↓q_augDV, ↓q_inDN, ↓q_notInDN, ↓q_lsl, ↓q_setX, ↓q_setXN, ↓q_setXI, ↓q_setXB, ↓q_enumT, q_enumTL, q_enumTT, q_wipe0, q_wipe1, q_rest0, q_rest1, q_restD, q_restN, q_restL, q_restK, ↓q_ixDL, ↓q_ixDT, ↓q_ixDS, ↓q_ixDD, ↓q_ixDR, ↓q_ixDB, q_keyS, q_keyI, q_val0, q_val1, q_kSS, q_kII, q_kIS, q_kSI, q_put0, q_put1, q_up0, q_up1, q_mer0, q_mer1, lit_ne, q_small, q_gdS, q_gdN, ↓q_kDisp, ↓q_kDispR, ↓q_prs0, ↓q_prs1, ↓q_prR, ↓q_kNew, ↓q_cellD, ↓q_treeD, q_allK0, q_allK1, q_keyDI, q_keyDS, q_tks0, q_tksS, q_tksI, ↓q_ownD, ↓q_get2, ↓q_get2R, ↓q_get1, ↓q_get1R, q_vwD, q_vwR, q_vwB, q_vwL, q_vwT, q_owDR, q_owDB, ↓q_upd, ↓q_updR, ↓q_updV, q_apT, q_apBR, q_apRR, q_pDR, q_pDB, ↓q_listOf, q_listT, q_listL, ↓q_dictOf, ↓q_fld, ↓q_sfld, ↓q_fldR, ↓q_meth, ↓q_methR, ↓q_make, ↓q_makeR, lk_hit, lk_miss, lk_nil, ↓q_mut, ↓q_mutR, ↓q_mutB, ↓q_mutAR, ↓q_mutAB, q_mutV, q_app, q_popA, q_pop0, ↓q_setL, ↓q_setRR, ↓q_setRB, q_setV, q_ixN, ↓q_par, ↓q_sortT, ↓q_zip, ↓q_zipR, ↓q_enum, ↓q_enumR, ↓r_escB, allT_r, ↓q_parR, ↓q_ixR, ↓q_ixB, ↓q_lenR, ↓q_lenB, ↓q_min, ↓q_max, ↓q_tupT, ↓q_tupL, ↓q_tupB, ↓q_catT, List.mem_cons, List.mem_singleton, true_or, or_true, putFD, List.set_set, and_true, true_and, ↓wp_some, ↓wp_none, wp_ite, ↓r_bnd, ↓r_bndX, ↓r_bndS, ↓r_bndSX, ↓r_nx, ↓r_rt, ↓r_bk, ↓r_ct, ↓r_ex, bnd_ite, bndS_ite, thenS_ite, ans_ite, ↓r_ans, ↓r_ans0, ↓r_bnd0, ↓r_bndS0, ↓r_0, ↓q_var, ↓q_cI, ↓q_cB, ↓q_cN, ↓q_op, ↓q_un, ↓q_test, ↓q_tst, ↓q_tru, ↓q_and, ↓q_or, ↓q_not, ↓q_andV, ↓q_orV, ↓q_notV, ↓q_if, ↓q_nil, ↓q_cons, ↓q_esc, ↓q_tup, ↓q_tupR, ↓q_disp, ↓q_dispR, ↓q_tree, ↓q_cell, ↓q_B, ↓q_mb, ↓q_noP, ↓q_part, ↓q_prt, ↓q_sl, ↓q_chain, ↓q_dict0, ↓q_next, ↓q_brk, ↓q_cnt, ↓q_seq, ↓q_ret, ↓q_retN, ↓q_expr, ↓q_ifS, ↓q_asg, ↓q_laid, ↓q_gT1, ↓q_gR1, ↓q_gTup, ↓q_gTs0, ↓q_gTs1, ↓q_gTt, ↓q_gT1', ↓q_own, ↓q_for, ↓q_rng, ↓q_rng1, ↓q_rng2, ↓q_rev, ↓q_rev1, ↓q_iter, ↓q_itL, ↓q_itT, ↓q_itM, ↓q_add, ↓q_sub, ↓q_neg, ↓q_mul1, ↓q_mul2, ↓q_div, ↓q_mod, ↓q_pow, ↓q_shl, ↓q_shr, ↓q_andB, ↓q_orB, ↓q_xorB, ↓q_lt, ↓q_le, ↓q_gt, ↓q_ge, ↓q_eqI, ↓q_neI, ↓q_eqM, ↓q_neM, ↓q_inM, ↓q_notInM, ↓q_eqB, ↓q_isB, ↓q_notB, ↓q_isN, ↓q_isNI, ↓q_isNT, ↓q_isNL, ↓q_isNS, ↓q_isNr, ↓q_notN, ↓q_notNI, ↓q_notNT, ↓q_notNL, ↓q_notNS, ↓q_notNr, ↓q_isi, tyOf, Ty.sub, ↓q_ixL, ↓q_ixT, ↓q_ixM, ↓q_lenM, ↓q_lenL, ↓q_lenT, ↓q_int, ↓q_intB, ↓q_catM, ↓q_mulM, ↓q_slM, ↓q_slL, ↓q_slT, ↓q_catL, allT_nil, q_allT, m_D, m_B, m_1, m_2, m_3, m_5, m_6, m_7, cut_to, cut_from, cut_mid, cut_all', at0, at1, at2, at3, at4, at5, at6, at7, at8, at9, at10, at11, at12, at13, at14, at15, at16, at17, at18, at19, allT_cons, map_some, bind_some, ↓r_call, ↓r_callR, ↓r_escs0, ↓r_escs, ↓r_escT, ↓r_escR, viewT_t, viewL_t, isStr, List.getElem?_cons_zero, List.getElem?_cons_succ, List.set_cons_zero, List.set_cons_succ, List.map_cons, List.map_nil, List.cons_append, List.nil_append, List.replicate_zero, List.replicate_succ, Nat.reduceSub, Nat.reduceAdd, Nat.reduceLeDiff, Nat.reduceLT, Nat.lt_add_one, Nat.zero_lt_succ, List.length_cons, List.length_nil, if_true, if_false, Bool.not_true, Bool.not_false, decide_eq_true_eq, Bool.not_eq_true', decide_eq_false_iff_not, Bool.false_eq_true, reduceCtorEq, ite_true, ite_false, ite_self, q_cast, eq_self, Int.reduceLT, Int.reduceLE, Int.reduceEq, Int.reduceNeg, decide_true, decide_false])
local macro_rules | `(tactic| simp! [$ls,*]) => `(tactic| simp (disch := first | omega | assumption | decide | exact Nat.le_of_ble_eq_true rfl | decide +kernel | (simp only [List.length_append, List.length_cons, List.length_nil, List.length_take, List.length_drop, List.length_replicate, sl_eq]; omega) | exact rfl) only [↓lc0, ll1, ↓lc1, ↓lc2, ll3, ↓lc3, ↓lc4, ll5, ↓lc5, ll6, ↓lc6, ↓lc7, ↓lc8, ↓lc9, ll10, ↓lc10, ll11, ↓lc11, ↓q_iterK, ↓q_iterV, ↓q_iterP, q_iterKR, q_iterVR, q_iterPR, ↓q_dpop, ↓q_dpopN, ↓q_popN, ↓q_setd, ↓q_setdN, ↓q_setdV, ↓q_aug, ↓q_augD, ↓q_augDN, ↓q_augDV, ↓q_inDN, ↓q_notInDN, ↓q_lsl, ↓q_setX, ↓q_setXN, ↓q_setXI, ↓q_setXB, ↓q_enumT, q_enumTL, q_enumTT, q_wipe0, q_wipe1, q_rest0, q_rest1, q_restD, q_restN, q_restL, q_restK, ↓q_ixDL, ↓q_ixDT, ↓q_ixDS, ↓q_ixDD, ↓q_ixDR, ↓q_ixDB, q_keyS, q_keyI, q_val0, q_val1, q_kSS, q_kII, q_kIS, q_kSI, q_put0, q_put1, q_up0, q_up1, q_mer0, q_mer1, lit_ne, q_small, q_gdS, q_gdN, ↓q_kDisp, ↓q_kDispR, ↓q_prs0, ↓q_prs1, ↓q_prR, ↓q_kNew, ↓q_cellD, ↓q_treeD, q_allK0, q_allK1, q_keyDI, q_keyDS, q_tks0, q_tksS, q_tksI, ↓q_ownD, ↓q_get2, ↓q_get2R, ↓q_get1, ↓q_get1R, q_vwD, q_vwR, q_vwB, q_vwL, q_vwT, q_owDR, q_owDB, ↓q_upd, ↓q_updR, ↓q_updV, q_apT, q_apBR, q_apRR, q_pDR, q_pDB, ↓q_listOf, q_listT, q_listL, ↓q_dictOf, ↓q_fld, ↓q_sfld, ↓q_fldR, ↓q_meth, ↓q_methR, ↓q_make, ↓q_makeR, lk_hit, lk_miss, lk_nil, ↓q_mut, ↓q_mutR, ↓q_mutB, ↓q_mutAR, ↓q_mutAB, q_mutV, q_app, q_popA, q_pop0, ↓q_setL, ↓q_setRR, ↓q_setRB, q_setV, q_ixN, ↓q_par, ↓q_sortT, ↓q_zip, ↓q_zipR, ↓q_enum, ↓q_enumR, ↓r_escB, allT_r, ↓q_parR, ↓q_ixR, ↓q_ixB, ↓q_lenR, ↓q_lenB, ↓q_min, ↓q_max, ↓q_tupT, ↓q_tupL, ↓q_tupB, ↓q_catT, List.mem_cons, List.mem_singleton, true_or, or_true, putFD, List.set_set, and_true, true_and, ↓wp_some, ↓wp_none, wp_ite, ↓r_bnd, ↓r_bndX, ↓r_bndS, ↓r_bndSX, ↓r_nx, ↓r_rt, ↓r_bk, ↓r_ct, ↓r_ex, bnd_ite, bndS_ite, thenS_ite, ans_ite, ↓r_ans, ↓r_ans0, ↓r_bnd0, ↓r_bndS0, ↓r_0, ↓q_var, ↓q_cI, ↓q_cB, ↓q_cN, ↓q_op, ↓q_un, ↓q_test, ↓q_tst, ↓q_tru, ↓q_and, ↓q_or, ↓q_not, ↓q_andV, ↓q_orV, ↓q_notV, ↓q_if, ↓q_nil, ↓q_cons, ↓q_esc, ↓q_tup, ↓q_tupR, ↓q_disp, ↓q_dispR, ↓q_tree, ↓q_cell, ↓q_B, ↓q_mb, ↓q_noP, ↓q_part, ↓q_prt, ↓q_sl, ↓q_chain, ↓q_dict0, ↓q_next, ↓q_brk, ↓q_cnt, ↓q_seq, ↓q_ret, ↓q_retN, ↓q_expr, ↓q_ifS, ↓q_asg, ↓q_laid, ↓q_gT1, ↓q_gR1, ↓q_gTup, ↓q_gTs0, ↓q_gTs1, ↓q_gTt, ↓q_gT1', ↓q_own, ↓q_for, ↓q_rng, ↓q_rng1, ↓q_rng2, ↓q_rev, ↓q_rev1, ↓q_iter, ↓q_itL, ↓q_itT, ↓q_itM, ↓q_add, ↓q_sub, ↓q_neg, ↓q_mul1, ↓q_mul2, ↓q_div, ↓q_mod, ↓q_pow, ↓q_shl, ↓q_shr, ↓q_andB, ↓q_orB, ↓q_xorB, ↓q_lt, ↓q_le, ↓q_gt, ↓q_ge, ↓q_eqI, ↓q_neI, ↓q_eqM, ↓q_neM, ↓q_inM, ↓q_notInM, ↓q_eqB, ↓q_isB, ↓q_notB, ↓q_isN, ↓q_isNI, ↓q_isNT, ↓q_isNL, ↓q_isNS, ↓q_isNr, ↓q_notN, ↓q_notNI, ↓q_notNT, ↓q_notNL, ↓q_notNS, ↓q_notNr, ↓q_isi, tyOf, Ty.sub, ↓q_ixL, ↓q_ixT, ↓q_ixM, ↓q_lenM, ↓q_lenL, ↓q_lenT, ↓q_int, ↓q_intB, ↓q_catM, ↓q_mulM, ↓q_slM, ↓q_slL, ↓q_slT, ↓q_catL, allT_nil, q_allT, m_D, m_B, m_1, m_2, m_3, m_5, m_6, m_7, cut_to, cut_from, cut_mid, cut_all', at0, at1, at2, at3, at4, at5, at6, at7, at8, at9, at10, at11, at12, at13, at14, at15, at16, at17, at18, at19, allT_cons, map_some, bind_some, ↓r_call, ↓r_callR, ↓r_escs0, ↓r_escs, ↓r_escT, ↓r_escR, viewT_t, viewL_t, isStr, List.getElem?_cons_zero, List.getElem?_cons_succ, List.set_cons_zero, List.set_cons_succ, List.map_cons, List.map_nil, List.cons_append, List.nil_append, List.replicate_zero, List.replicate_succ, Nat.reduceSub, Nat.reduceAdd, Nat.reduceLeDiff, Nat.reduceLT, Nat.lt_add_one, Nat.zero_lt_succ, List.length_cons, List.length_nil, if_true, if_false, Bool.not_true, Bool.not_false, decide_eq_true_eq, Bool.not_eq_true', decide_eq_false_iff_not, Bool.false_eq_true, reduceCtorEq, ite_true, ite_false, ite_self, q_cast, eq_self, Int.reduceLT, Int.reduceLE, Int.reduceEq, Int.reduceNeg, decide_true, decide_false, $ls,*])
local macro_rules | `(tactic| walk_at "pl") => `(tactic| repeat (first | rw [wp_bnd] | rw [wp_bndS] | rw [wp_thenS]))
local macro_rules | `(tactic| walk_at "ws") => `(tactic| simp (disch := first | omega | assumption | decide | exact Nat.le_of_ble_eq_true rfl | decide +kernel | (simp only [List.length_append, List.length_cons, List.length_nil, List.length_take, List.length_drop, List.length_replicate, sl_eq]; omega) | exact rfl) only [↓lc0, ll1, ↓lc1, ↓lc2, ll3, ↓lc3, ↓lc4, ll5, ↓lc5, ll6, ↓lc6, ↓lc7, ↓lc8, ↓lc9, ll10, ↓lc10, ll11, ↓lc11, ↓q_iterK, ↓q_iterV, ↓q_iterP, q_iterKR, q_iterVR, q_iterPR, ↓q_dpop, ↓q_dpopN, ↓q_popN, ↓q_setd, ↓q_setdN, ↓q_setdV, ↓q_aug, ↓q_augD, ↓q_augDN, ↓q_augDV, ↓q_inDN, ↓q_notInDN, ↓q_lsl, ↓q_setX, ↓q_setXN, ↓q_setXI, ↓q_setXB, ↓q_enumT, q_enumTL, q_enumTT, q_wipe0, q_wipe1, q_rest0, q_rest1, q_restD, q_restN, q_restL, q_restK, ↓q_ixDL, ↓q_ixDT, ↓q_ixDS, ↓q_ixDD, ↓q_ixDR, ↓q_ixDB, q_keyS, q_keyI, q_val0, q_val1, q_kSS, q_kII, q_kIS, q_kSI, q_put0, q_put1, q_up0, q_up1, q_mer0, q_mer1, lit_ne, q_small, q_gdS, q_gdN, ↓q_kDisp, ↓q_kDispR, ↓q_prs0, ↓q_prs1, ↓q_prR, ↓q_kNew, ↓q_cellD, ↓q_treeD, q_allK0, q_allK1, q_keyDI, q_keyDS, q_tks0, q_tksS, q_tksI, ↓q_ownD, ↓q_get2, ↓q_get2R, ↓q_get1, ↓q_get1R, q_vwD, q_vwR, q_vwB, q_vwL, q_vwT, q_owDR, q_owDB, ↓q_upd, ↓q_updR, ↓q_updV, q_apT, q_apBR, q_apRR, q_pDR, q_pDB, ↓q_listOf, q_listT, q_listL, ↓q_dictOf, ↓q_fld, ↓q_sfld, ↓q_fldR, ↓q_meth, ↓q_methR, ↓q_make, ↓q_makeR, lk_hit, lk_miss, lk_nil, ↓q_mut, ↓q_mutR, ↓q_mutB, ↓q_mutAR, ↓q_mutAB, q_mutV, q_app, q_popA, q_pop0, ↓q_setL, ↓q_setRR, ↓q_setRB, q_setV, q_ixN, ↓q_par, ↓q_sortT, ↓q_zip, ↓q_zipR, ↓q_enum, ↓q_enumR, ↓r_escB, allT_r, ↓q_parR, ↓q_ixR, ↓q_ixB, ↓q_lenR, ↓q_lenB, ↓q_min, ↓q_max, ↓q_tupT, ↓q_tupL, ↓q_tupB, ↓q_catT, List.mem_cons, List.mem_singleton, true_or, or_true, putFD, List.set_set, and_true, true_and, ↓wp_some, ↓wp_none, wp_ite, ↓r_bnd, ↓r_bndX, ↓r_bndS, ↓r_bndSX, ↓r_nx, ↓r_rt, ↓r_bk, ↓r_ct, ↓r_ex, bnd_ite, bndS_ite, thenS_ite, ans_ite, ↓r_ans, ↓r_ans0, ↓r_bnd0, ↓r_bndS0, ↓r_0, ↓q_var, ↓q_cI, ↓q_cB, ↓q_cN, ↓q_op, ↓q_un, ↓q_test, ↓q_tst, ↓q_tru, ↓q_and, ↓q_or, ↓q_not, ↓q_andV, ↓q_orV, ↓q_notV, ↓q_if, ↓q_nil, ↓q_cons, ↓q_esc, ↓q_tup, ↓q_tupR, ↓q_disp, ↓q_dispR, ↓q_tree, ↓q_cell, ↓q_B, ↓q_mb, ↓q_noP, ↓q_part, ↓q_prt, ↓q_sl, ↓q_chain, ↓q_dict0, ↓q_next, ↓q_brk, ↓q_cnt, ↓q_seq, ↓q_ret, ↓q_retN, ↓q_expr, ↓q_ifS, ↓q_asg, ↓q_laid, ↓q_gT1, ↓q_gR1, ↓q_gTup, ↓q_gTs0, ↓q_gTs1, ↓q_gTt, ↓q_gT1', ↓q_own, ↓q_for, ↓q_rng, ↓q_rng1, ↓q_rng2, ↓q_rev, ↓q_rev1, ↓q_iter, ↓q_itL, ↓q_itT, ↓q_itM, ↓q_add, ↓q_sub, ↓q_neg, ↓q_mul1, ↓q_mul2, ↓q_div, ↓q_mod, ↓q_pow, ↓q_shl, ↓q_shr, ↓q_andB, ↓q_orB, ↓q_xorB, ↓q_lt, ↓q_le, ↓q_gt, ↓q_ge, ↓q_eqI, ↓q_neI, ↓q_eqM, ↓q_neM, ↓q_inM, ↓q_notInM, ↓q_eqB, ↓q_isB, ↓q_notB, ↓q_isN, ↓q_isNI, ↓q_isNT, ↓q_isNL, ↓q_isNS, ↓q_isNr, ↓q_notN, ↓q_notNI, ↓q_notNT, ↓q_notNL, ↓q_notNS, ↓q_notNr, ↓q_isi, tyOf, Ty.sub, ↓q_ixL, ↓q_ixT, ↓q_ixM, ↓q_lenM, ↓q_lenL, ↓q_lenT, ↓q_int, ↓q_intB, ↓q_catM, ↓q_mulM, ↓q_slM, ↓q_slL, ↓q_slT, ↓q_catL, allT_nil, q_allT, m_D, m_B, m_1, m_2, m_3, m_5, m_6, m_7, cut_to, cut_from, cut_mid, cut_all', at0, at1, at2, at3, at4, at5, at6, at7, at8, at9, at10, at11, at12, at13, at14, at15, at16, at17, at18, at19, allT_cons, map_some, bind_some, ↓r_call, ↓r_callR, ↓r_escs0, ↓r_escs, ↓r_escT, ↓r_escR, viewT_t, viewL_t, isStr, List.getElem?_cons_zero, List.getElem?_cons_succ, List.set_cons_zero, List.set_cons_succ, List.map_cons, List.map_nil, List.cons_append, List.nil_append, List.replicate_zero, List.replicate_succ, Nat.reduceSub, Nat.reduceAdd, Nat.reduceLeDiff, Nat.reduceLT, Nat.lt_add_one, Nat.zero_lt_succ, List.length_cons, List.length_nil, if_true, if_false, Bool.not_true, Bool.not_false, decide_eq_true_eq, Bool.not_eq_true', decide_eq_false_iff_not, Bool.false_eq_true, reduceCtorEq, ite_true, ite_false, ite_self, q_cast, eq_self, Int.reduceLT, Int.reduceLE, Int.reduceEq, Int.reduceNeg, decide_true, decide_false, *])
/-! ### ring_in -/
def wayV (g : Nm → Nm) : Nat → List Nm → Nm → List Nm × Nm
  | 0, way, x => (way, x)
  | n + 1, way, x => if x ∈ way then (way, x) else wayV g n (way ++ [x]) (g x)
theorem wayV_s (g : Nm → Nm) (n : Nat) (way : List Nm) (x : Nm) : wayV g (n + 1) way x = if x ∈ way then (way, x) else wayV g n (way ++ [x]) (g x) := rfl
noncomputable def gV (f : Nm → List Nm) (ks : List Nm) (z : Nm) : Nm := (rfV f ks z).getD 0 []
noncomputable def ringV (f : Nm → List Nm) (ks : List Nm) : Option (List Nm) := match rksV f ks with
  | [] => none
  | x :: _ => some ((wayV (gV f ks) 41 [] x).1.drop ((wayV (gV f ks) 41 [] x).1.idxOf (wayV (gV f ks) 41 [] x).2))
def Chain (g : Nm → Nm) (l : List Nm) : Prop := ∀ i y z, l[i]? = some y → l[i + 1]? = some z → z = g y
theorem chain_snoc {g : Nm → Nm} {way : List Nm} {x : Nm} (h : Chain g (way ++ [x])) : Chain g (way ++ [x] ++ [g x]) := by
  intro i y z h1 h2
  have hlt := (List.getElem?_eq_some_iff.mp h2).1
  simp only [List.length_append, List.length_singleton] at hlt
  rw [List.getElem?_append_left (by simp; omega)] at h1
  by_cases h3 : i + 1 < way.length + 1
  · rw [List.getElem?_append_left (by simp; omega)] at h2
    exact h i y z h1 h2
  · have e : i = way.length := by omega
    subst e
    simp at h1 h2
    rw [← h1, ← h2]
theorem gV_in {f : Nm → List Nm} {ks : List Nm} (ok : WebOk f ks) {x : Nm} (hx : x ∈ rksV f ks) : gV f ks x ∈ f x ∧ gV f ks x ∈ rksV f ks ∧ (rfV f ks x).getD 0 [] = gV f ks x ∧ 0 < (rfV f ks x).length := by
  obtain ⟨_, h2, h3⟩ := rks_rf ok hx
  have h4 : 0 < (rfV f ks x).length := List.length_pos_iff.mpr h2
  have h5 := h3 (gV f ks x) (by unfold gV; exact getD_memN h4)
  exact ⟨h5.1, h5.2, rfl, h4⟩
/-- what wayV ends with -/
theorem wayV_ok {f : Nm → List Nm} {ks : List Nm} (ok : WebOk f ks) : ∀ (n : Nat) (way : List Nm) (x : Nm), way.Nodup → (∀ y ∈ way, y ∈ rksV f ks) → x ∈ rksV f ks → Chain (gV f ks) (way ++ [x]) → n + way.length = 41 →
    (wayV (gV f ks) n way x).1.Nodup ∧ (∀ y ∈ (wayV (gV f ks) n way x).1, y ∈ rksV f ks) ∧ (wayV (gV f ks) n way x).2 ∈ (wayV (gV f ks) n way x).1 ∧ Chain (gV f ks) ((wayV (gV f ks) n way x).1 ++ [(wayV (gV f ks) n way x).2])
  | 0, way, x, h1, h2, h3, h4, h5 => by
    have a := nodup_le h1 h2
    have b : (rksV f ks).length ≤ ks.length := by unfold rksV; exact List.length_filter_le _ _
    have := ok.l2
    omega
  | n + 1, way, x, h1, h2, h3, h4, h5 => by
    unfold wayV
    by_cases h : x ∈ way
    · rw [if_pos h]; exact ⟨h1, h2, h, h4⟩
    · rw [if_neg h]
      refine wayV_ok ok n (way ++ [x]) _ ?_ (fun y hy => ?_) (gV_in ok h3).2.1 (chain_snoc h4) (by rw [List.length_append]; simp; omega)
      · rw [List.nodup_append]
        exact ⟨h1, by simp, fun a ha b hb => by rw [List.mem_singleton.mp hb]; exact fun e => h (by rw [← e]; exact ha)⟩
      · rcases List.mem_append.mp hy with q | q
        · exact h2 y q
        · rw [List.mem_singleton.mp q]; exact h3
def IsRing (f : Nm → List Nm) (ks l : List Nm) : Prop := l ≠ [] ∧ l.Nodup ∧ l.length ≤ 40 ∧ ∀ p ∈ l.zip (l.drop 1 ++ l.take 1), p.1 ∈ ks ∧ p.2 ∈ f p.1
theorem ringV_none {f : Nm → List Nm} {ks : List Nm} (ok : WebOk f ks) : ringV f ks = none ↔ ¬ HasR f ks := by
  rw [← rks_nil ok]
  unfold ringV
  cases rksV f ks <;> simp
theorem ringV_ok {f : Nm → List Nm} {ks l : List Nm} (ok : WebOk f ks) (h : ringV f ks = some l) : IsRing f ks l ∧ ∀ x ∈ l, x ∈ ks := by
  unfold ringV at h
  cases hr : rksV f ks with
  | nil => rw [hr] at h; cases h
  | cons x0 r =>
    rw [hr] at h
    have hx0 : x0 ∈ rksV f ks := by rw [hr]; exact List.mem_cons_self
    obtain ⟨w1, w2, w3, w4⟩ := wayV_ok ok 41 [] x0 (by simp) (by simp) hx0 (fun i y z h1 h2 => by simp at h2) rfl
    dsimp only at h
    generalize (wayV (gV f ks) 41 [] x0).1 = way at *
    generalize (wayV (gV f ks) 41 [] x0).2 = x at *
    injection h with h
    have hj : way.idxOf x < way.length := List.idxOf_lt_length_of_mem w3
    have hjx : way[way.idxOf x]? = some x := by
      rw [List.getElem?_eq_getElem hj, List.getElem_idxOf]
    generalize way.idxOf x = j at *
    have hl0 : l[0]? = some x := by rw [← h, List.getElem?_drop]; simpa using hjx
    have hmem : ∀ y ∈ l, y ∈ rksV f ks := fun y hy => w2 y (List.mem_of_mem_drop (by rw [h]; exact hy))
    have hnd : l.Nodup := by rw [← h]; exact (List.drop_sublist _ _).nodup w1
    have hch : Chain (gV f ks) (l ++ [x]) := by
      intro i y z h1 h2
      have e : l ++ [x] = (way ++ [x]).drop j := by rw [List.drop_append_of_le_length (by omega), h]
      rw [e, List.getElem?_drop] at h1 h2
      exact w4 (j + i) y z h1 (by rw [← h2]; congr 1)
    refine ⟨⟨(fun e => by rw [e] at hl0; cases hl0), hnd, ?_, ?_⟩, fun y hy => (rks_rf ok (hmem y hy)).1⟩
    · have a := nodup_le hnd (m := ks) fun y hy => (rks_rf ok (hmem y hy)).1
      have := ok.l2; omega
    · intro p hp
      obtain ⟨i, hi⟩ := List.getElem?_of_mem hp
      rw [List.getElem?_zip_eq_some] at hi
      obtain ⟨h1, h2⟩ := hi
      have hp1 : p.1 ∈ l := List.mem_of_getElem? h1
      have e : l.drop 1 ++ l.take 1 = (l ++ [x]).drop 1 := by
        cases l with
        | nil => cases hl0
        | cons a t => simp at hl0; simp [hl0]
      rw [e, List.getElem?_drop, Nat.add_comm] at h2
      have h3 := hch i p.1 p.2 (by rw [List.getElem?_append_left (List.getElem?_eq_some_iff.mp h1).1]; exact h1) h2
      refine ⟨(rks_rf ok (hmem _ hp1)).1, ?_⟩
      rw [h3]
      exact (gV_in ok (hmem _ hp1)).1

theorem inV {ev : Nv} {S : So} {d : D} {L : List Nm} (h : viewQ ev S d = some (L.map fun l => D.t (tS l))) (r : Nm) (hd : ∀ z, d ≠ .t (.str z)) : dIn ev S (.t (tS r)) d = some (.t (.bool (decide (r ∈ L)))) ∧ dNotIn ev S (.t (tS r)) d = some (.t (.bool (!decide (r ∈ L)))) := by
  have h0 := mem_in r L (ev := ev) (S := S)
  have hq : viewQ ev S (.t (.list (L.map tS))) = some (L.map fun l => D.t (tS l)) := by
    show some ((L.map tS).map D.t) = _
    rw [List.map_map]; rfl
  have e : inOf ev S (.t (tS r)) d = inOf ev S (.t (tS r)) (.t (.list (L.map tS))) := by
    have hf : (L.map tS).all flatP = true := by
      rw [List.all_eq_true]
      intro x hx
      obtain ⟨l, _, rfl⟩ := List.mem_map.mp hx
      rfl
    have key : ∀ d', viewQ ev S d' = some (L.map fun l => D.t (tS l)) → (∀ z, d' ≠ .t (.str z)) → inOf ev S (.t (tS r)) d' = some (inFl (tS r) (L.map tS)) := fun d' h' hd' => by
      have : inOf ev S (.t (tS r)) d' = (viewQ ev S d').bind fun ds => (allT ds).bind fun ts => if flatP (tS r) = true ∧ ts.all flatP = true then some (inFl (tS r) ts)
      else if (viewL ev S d').isSome = true ∧ SeqAt.shaped (tS r) = true ∧ SeqAt.shaped (.list ts) = true then some (ts.any fun z => PyData.eqv z (tS r)) else none := by
        cases d' with
        | t p => cases p <;> first | rfl | exact absurd rfl (hd' _)
        | r n => rfl
        | b i => rfl
      rw [this, h', Option.bind_some, map_tS, allT_map, Option.bind_some, if_pos ⟨rfl, hf⟩]
    rw [key d h hd, key _ hq (fun z e => by cases e)]
  have h0' : (inOf ev S (.t (tS r)) (.t (.list (L.map tS)))).map D.bool = some (.t (.bool (decide (r ∈ L)))) := h0
  have h1 : inOf ev S (.t (tS r)) (.t (.list (L.map tS))) = some (decide (r ∈ L)) := by
    cases h2 : inOf ev S (.t (tS r)) (.t (.list (L.map tS))) with
    | none => rw [h2] at h0'; cases h0'
    | some b => rw [h2] at h0'; injection h0' with h0'; injection h0' with h0'; injection h0' with h0'; rw [h0']
  constructor
  · show (inOf ev S (.t (tS r)) d).map _ = _
    rw [e, h1]; rfl
  · show (inOf ev S (.t (tS r)) d).map _ = _
    rw [e, h1]; rfl
theorem ixFirst_S (x : Nm) : ∀ (l : List Nm) (n : Nat), x ∈ l → (∀ y ∈ x :: l, NmOk y) → ixFirst (tS x) (l.map tS) n = some (n + l.idxOf x)
  | [], n, h, _ => by cases h
  | y :: r, n, h, ho => by
    rw [List.map_cons]
    unfold ixFirst
    have he : PyData.eqv (tS y) (tS x) = decide (y = x) := by
      have h1 : PyData.eqv (tS y) (tS x) = (mkS y == mkS x) := by simp [PyData.eqv]
      rw [h1]
      by_cases e : y = x
      · subst e; simp
      · have : mkS y ≠ mkS x := fun z => e (mkS_inj.mp z)
        simp [e, this]
    rw [he]
    by_cases e : y = x
    · rw [if_pos (decide_eq_true e), e, List.idxOf_cons_self]; rfl
    · rw [if_neg (by simpa using e), ixFirst_S x r (n + 1) ((List.mem_cons.mp h).resolve_left fun q => e q.symm) (fun z hz => ho z (by rcases List.mem_cons.mp hz with q | q <;> simp [q]))]
      rw [List.idxOf_cons, show (y == x) = false by simpa using e]
      simp; omega

theorem strS_sh {x : Nm} (h : NmOk x) : SeqAt.shaped (tS x) = true := by
  have h1 := strs_sh (L := [x]) (fun l hl => by rw [List.mem_singleton.mp hl]; exact h.sm)
  unfold SeqAt.shaped at h1 ⊢
  simp only [List.map_cons, List.map_nil, PyData.canLay0, PyData.canLayAll0, PyData.depth, PyData.depthAll, Bool.and_true] at h1 ⊢
  simp at h1 ⊢
  exact h1
theorem ringinE (k : Nat) {f : Nm → List Nm} {ks : List Nm} {S : So} {n : Nat} (ok : WebOk f ks) (hS : S[n]? = some (.dic (dicF (fD f) ks))) :
    (ringV f ks = none → ∃ T, fns (k + 2) 1 [.r n] S = some (.ok (.t .none), S ++ T)) ∧
    (∀ l, ringV f ks = some l → ∃ T, fns (k + 2) 1 [.r n] S = some (.ok (.r (S.length + T.length)), S ++ T ++ [.lst (l.map fun x => .t (tS x))])) := by
  obtain ⟨T, hT⟩ := unfinE k ok hS
  have hrl : (rksV f ks).length ≤ 40 := Nat.le_trans (by unfold rksV; exact List.length_filter_le _ _) ok.l2
  have hget : ∀ X : List Ce, (S ++ T ++ .dic (dicF (fD (rfV f ks)) (rksV f ks)) :: X)[S.length + T.length]? = some (.dic (dicF (fD (rfV f ks)) (rksV f ks))) := fun X => by
    rw [← List.length_append]; exact app_get
  have hview : ∀ ev, viewD ev (S ++ T ++ [.dic (dicF (fD (rfV f ks)) (rksV f ks))]) (.r (S.length + T.length)) = some (dicF (fD (rfV f ks)) (rksV f ks)) := fun ev => by
    unfold viewD; dsimp only; rw [hget]
  have hq := fun ev => q_eqE (hview ev)
  constructor
  · intro hr
    have hnil : rksV f ks = [] := (rks_nil ok).mpr ((ringV_none ok).mp hr)
    refine ⟨T ++ [.dic (dicF (fD (rfV f ks)) (rksV f ks))], ?_⟩
    rw [e1]
    refine run_eq ?_ ?_
    · rfl
    unfold b1
    have hb : (dicF (fD (rfV f ks)) (rksV f ks)).isEmpty = true := by rw [hnil]; rfl
    simp! [hT, hq, hb]
    simp
  · intro l hl
    cases hrk : rksV f ks with
    | nil => unfold ringV at hl; rw [hrk] at hl; cases hl
    | cons x0 r0 =>
    have hx0 : x0 ∈ rksV f ks := by rw [hrk]; exact List.mem_cons_self
    have hb : (dicF (fD (rfV f ks)) (rksV f ks)).isEmpty = false := by rw [hrk]; rfl
    have hlr := fun ev => listR_F (f := fD (rfV f ks)) (ks := rksV f ks) (S := S ++ T ++ [.dic (dicF (fD (rfV f ks)) (rksV f ks))]) (n := S.length + T.length) ev (hget []) (by omega)
    have hl2 : l = (wayV (gV f ks) 41 [] x0).1.drop ((wayV (gV f ks) 41 [] x0).1.idxOf (wayV (gV f ks) 41 [] x0).2) := by
      unfold ringV at hl; rw [hrk] at hl; injection hl with hl; exact hl.symm
    have hat : atI ((rksV f ks).map tS) 0 = some (tS x0) := by rw [hrk]; exact at0 _ _
    have hg0 := hget []
    refine ⟨T ++ [.dic (dicF (fD (rfV f ks)) (rksV f ks))], ?_⟩
    rw [e1]
    refine run_eq ?_ ?_
    · rfl
    unfold b1
    simp! [hT, hq, hb, hlr, allT_map, hat]
    rw [show S ++ (T ++ [Ce.dic (dicF (fD (rfV f ks)) (rksV f ks))]) = S ++ T ++ [Ce.dic (dicF (fD (rfV f ks)) (rksV f ks))] by simp, show S.length + (T ++ [Ce.dic (dicF (fD (rfV f ks)) (rksV f ks))]).length = (S ++ T ++ [Ce.dic (dicF (fD (rfV f ks)) (rksV f ks))]).length by simp]
    generalize S ++ T ++ [Ce.dic (dicF (fD (rfV f ks)) (rksV f ks))] = Z at *
    generalize S.length + T.length = n1 at *
    walk_at "pl"
    refine wp_while (m := 41) (fun m e s => ∃ (way : List Nm) (x : Nm), wayV (gV f ks) m way x = wayV (gV f ks) 41 [] x0 ∧ way.Nodup ∧ (∀ y ∈ way, y ∈ rksV f ks) ∧ x ∈ rksV f ks ∧ m + way.length = 41 ∧ s = Z ∧ e = [vR n, vR n1, some (.ol (way.map fun x => .t (tS x))), vT (tS x)]) ?_ ?_
    · exact ⟨[], x0, rfl, by simp, by simp, hx0, rfl, rfl, rfl⟩
    rintro m _ _ ⟨way, x, hw1, hw2, hw3, hx, hml, rfl, rfl⟩
    have hwl : way.length ≤ 40 := Nat.le_trans (nodup_le hw2 hw3) hrl
    have hin : ∀ S : So, dNotIn [vR n, vR n1, some (.ol (way.map fun x => .t (tS x))), vT (tS x)] S (.t (tS x)) (.b 2) = some (.t (.bool (!decide (x ∈ way)))) := fun S => (inV (by rfl) x (by intro z e; cases e)).2
    cases m with
    | zero => omega
    | succ m =>
    rw [wayV_s (gV f ks) m way x] at hw1
    by_cases hxw : x ∈ way
    · have hxw' := eq_true hxw
      rw [if_pos hxw] at hw1
      rw [← hw1] at hl2
      dsimp only at hl2
      simp! [hin, hxw']
      have e1 : ∀ S : So, dataOf [vR n, vR n1, some (.ol (way.map fun x => .t (tS x))), vT (tS x)] S (.b 2) = some (.list (way.map tS)) := fun S => by
        show (some (way.map fun x => D.t (tS x))).bind (fun ds => (allT ds).map PyData.list) = _
        rw [map_tS, Option.bind_some, allT_map]; rfl
      have hno : ∀ y ∈ x :: way, NmOk y := fun y hy => by
        rcases List.mem_cons.mp hy with rfl | q
        · exact ok.nm _ (rks_rf ok hx).1
        · exact ok.nm _ (rks_rf ok (hw3 y q)).1
      have hix : ∀ S : So, fIndex [vR n, vR n1, some (.ol (way.map fun x => .t (tS x))), vT (tS x)] S (.b 2) [.t (tS x)] = some (.t (.int (way.idxOf x : Int))) := fun S => by
        unfold fIndex
        dsimp only
        rw [e1 S, Option.bind_some]
        dsimp only
        rw [show dataOf [vR n, vR n1, some (.ol (way.map fun x => .t (tS x))), vT (tS x)] S (.t (tS x)) = some (tS x) from rfl, Option.bind_some, if_pos ⟨strs_sh (L := way) (fun l hl => (hno l (by simp [hl])).sm), strS_sh (hno x (by simp))⟩, ixFirst_S x way 0 hxw hno, Nat.zero_add]
        rfl
      have hcut : cut (way.map fun x => D.t (tS x)) (some (way.idxOf x : Int)) none = l.map fun x => D.t (tS x) := by
        rw [cut_from (show (0:Int) ≤ (way.idxOf x : Int) by omega), Int.toNat_natCast, ← List.map_drop, hl2]
      have hls : ∀ S : So, lslR (.b 2) (some (way.idxOf x : Int)) none [vR n, vR n1, some (.ol (way.map fun x => .t (tS x))), vT (tS x)] S = some (.ok (l.map fun x => .t (tS x)), [vR n, vR n1, some (.ol (way.map fun x => .t (tS x))), vT (tS x)], S) := fun S => by
        rw [q_lslR (ds := way.map fun x => D.t (tS x)) rfl (by rw [hcut, List.length_map, sl_eq, hl2, List.length_drop]; omega), hcut]
      simp! [hin, hxw', hix, hls]
      rw [if_pos (by rfl)]
      simp! []
    · have hxw' := eq_false hxw
      rw [if_neg hxw] at hw1
      have hv := val_in (f := fD (rfV f ks)) hx
      obtain ⟨g1, g2, g3, g4⟩ := gV_in ok hx
      have hhd : atI ((rfV f ks x).map tS) 0 = some (tS (gV f ks x)) := by
        unfold gV
        rw [atI_nat (by omega) (by rw [List.length_map]; omega), List.getElem?_map, List.getD_eq_getElem?_getD]
        show ((rfV f ks x)[0]?).map tS = _
        rw [List.getElem?_eq_getElem g4]; rfl
      have hwz : (way.map fun x => D.t (tS x)).length < sizeLine := by rw [List.length_map, sl_eq]; omega
      simp! [hin, hxw', hg0, hv, hhd]
      refine ⟨m, Nat.lt_succ_self m, way ++ [x], _, hw1, ?_, fun y hy => ?_, g2, by rw [List.length_append]; simp; omega, by rw [List.map_append]; rfl⟩
      · rw [List.nodup_append]
        exact ⟨hw2, by simp, fun a ha b hb => by rw [List.mem_singleton.mp hb]; exact fun e => hxw (by rw [← e]; exact ha)⟩
      · rcases List.mem_append.mp hy with q | q
        · exact hw3 y q
        · rw [List.mem_singleton.mp q]; exact hx

end Y18

namespace Y18
open PySem L2 Cl TL
local macro_rules | `(tactic| walk_at "wp") => `(tactic| simp (disch := first | omega | assumption | decide | exact Nat.le_of_ble_eq_true rfl | decide +kernel | (simp only [List.length_append, List.length_cons, List.length_nil, List.length_take, List.length_drop, List.length_replicate, sl_eq]; omega) | exact rfl) only [↓lc0, ll1, ↓lc1, ↓lc2, ll3, ↓lc3, ↓lc4, ll5, ↓lc5, ll6, ↓lc6, ↓lc7, ↓lc8, ↓lc9, ll10, ↓lc10, ll11, ↓lc11, ↓q_iterK, ↓q_iterV, ↓q_iterP, q_iterKR, q_iterVR, q_iterPR, ↓q_dpop, ↓q_dpopN, ↓q_popN, ↓q_setd, ↓q_setdN, ↓q_setdV, ↓q_aug, ↓q_augD, ↓q_augDN, ↓q_augDV, ↓q_inDN, ↓q_notInDN, ↓q_lsl, ↓q_setX, ↓q_setXN, ↓q_setXI, ↓q_setXB, ↓q_enumT, q_enumTL, q_enumTT, q_wipe0, q_wipe1, q_rest0, q_rest1, q_restD, q_restN, q_restL, q_restK, ↓q_ixDL, ↓q_ixDT, ↓q_ixDS, ↓q_ixDD, ↓q_ixDR, ↓q_ixDB, q_keyS, q_keyI, q_val0, q_val1, q_kSS, q_kII, q_kIS, q_kSI, q_put0, q_put1, q_up0, q_up1, q_mer0, q_mer1, lit_ne, q_small, q_gdS, q_gdN, ↓q_kDisp, ↓q_kDispR, ↓q_prs0, ↓q_prs1, ↓q_prR, ↓q_kNew, ↓q_cellD, ↓q_treeD, q_allK0, q_allK1, q_keyDI, q_keyDS, q_tks0, q_tksS, q_tksI, ↓q_ownD, ↓q_get2, ↓q_get2R, ↓q_get1, ↓q_get1R, q_vwD, q_vwR, q_vwB, q_vwL, q_vwT, q_owDR, q_owDB, ↓q_upd, ↓q_updR, ↓q_updV, q_apT, q_apBR, q_apRR, q_pDR, q_pDB, ↓q_listOf, q_listT, q_listL, ↓q_dictOf, ↓q_fld, ↓q_sfld, ↓q_fldR, ↓q_meth, ↓q_methR, ↓q_make, ↓q_makeR, lk_hit, lk_miss, lk_nil, ↓q_mut, ↓q_mutR, ↓q_mutB, ↓q_mutAR, ↓q_mutAB, q_mutV, q_app, q_popA, q_pop0, ↓q_setL, ↓q_setRR, ↓q_setRB, q_setV, q_ixN, ↓q_par, ↓q_sortT, ↓q_zip, ↓q_zipR, ↓q_enum, ↓q_enumR, ↓r_escB, allT_r, ↓q_parR, ↓q_ixR, ↓q_ixB, ↓q_lenR, ↓q_lenB, ↓q_min, ↓q_max, ↓q_tupT, ↓q_tupL, ↓q_tupB, ↓q_catT, List.mem_cons, List.mem_singleton, true_or, or_true, putFD, List.set_set, and_true, true_and, ↓wp_some, ↓wp_none, wp_ite, ↓r_bnd, ↓r_bndX, ↓r_bndS, ↓r_bndSX, ↓r_nx, ↓r_rt, ↓r_bk, ↓r_ct, ↓r_ex, bnd_ite, bndS_ite, thenS_ite, ans_ite, ↓r_ans, ↓r_ans0, ↓r_bnd0, ↓r_bndS0, ↓r_0, ↓q_var, ↓q_cI, ↓q_cB, ↓q_cN, ↓q_op, ↓q_un, ↓q_test, ↓q_tst, ↓q_tru, ↓q_and, ↓q_or, ↓q_not, ↓q_andV, ↓q_orV, ↓q_notV, ↓q_if, ↓q_nil, ↓q_cons, ↓q_esc, ↓q_tup, ↓q_tupR, ↓q_disp, ↓q_dispR, ↓q_tree, ↓q_cell, ↓q_B, ↓q_mb, ↓q_noP, ↓q_part, ↓q_prt, ↓q_sl, ↓q_chain, ↓q_dict0, ↓q_next, ↓q_brk, ↓q_cnt, ↓q_seq, ↓q_ret, ↓q_retN, ↓q_expr, ↓q_ifS, ↓q_asg, ↓q_laid, ↓q_gT1, ↓q_gR1, ↓q_gTup, ↓q_gTs0, ↓q_gTs1, ↓q_gTt, ↓q_gT1', ↓q_own, ↓q_for, ↓q_rng, ↓q_rng1, ↓q_rng2, ↓q_rev, ↓q_rev1, ↓q_iter, ↓q_itL, ↓q_itT, ↓q_itM, ↓q_add, ↓q_sub, ↓q_neg, ↓q_mul1, ↓q_mul2, ↓q_div, ↓q_mod, ↓q_pow, ↓q_shl, ↓q_shr, ↓q_andB, ↓q_orB, ↓q_xorB, ↓q_lt, ↓q_le, ↓q_gt, ↓q_ge, ↓q_eqI, ↓q_neI, ↓q_eqM, ↓q_neM, ↓q_inM, ↓q_notInM, ↓q_eqB, ↓q_isB, ↓q_notB, ↓q_isN, ↓q_isNI, ↓q_isNT, ↓q_isNL, ↓q_isNS, ↓q_isNr, ↓q_notN, ↓q_notNI, ↓q_notNT, ↓q_notNL, ↓q_notNS, ↓q_notNr, ↓q_isi, tyOf, Ty.sub, ↓q_ixL, ↓q_ixT, ↓q_ixM, ↓q_lenM, ↓q_lenL, ↓q_lenT, ↓q_int, ↓q_intB, ↓q_catM, ↓q_mulM, ↓q_slM, ↓q_slL, ↓q_slT, ↓q_catL, allT_nil, q_allT, m_D, m_B, m_1, m_2, m_3, m_5, m_6, m_7, cut_to, cut_from, cut_mid, cut_all', at0, at1, at2, at3, at4, at5, at6, at7, at8, at9, at10, at11, at12, at13, at14, at15, at16, at17, at18, at19, allT_cons, map_some, bind_some, ↓r_call, ↓r_callR, ↓r_escs0, ↓r_escs, ↓r_escT, ↓r_escR, viewT_t, viewL_t, isStr, List.getElem?_cons_zero, List.getElem?_cons_succ, List.set_cons_zero, List.set_cons_succ, List.map_cons, List.map_nil, List.cons_append, List.nil_append, List.replicate_zero, List.replicate_succ, Nat.reduceSub, Nat.reduceAdd, Nat.reduceLeDiff, Nat.reduceLT, Nat.lt_add_one, Nat.zero_lt_succ, List.length_cons, List.length_nil, if_true, if_false, Bool.not_true, Bool.not_false, decide_eq_true_eq, Bool.not_eq_true', decide_eq_false_iff_not, Bool.false_eq_true, reduceCtorEq, ite_true, ite_false, ite_self, q_cast, eq_self, Int.reduceLT, Int.reduceLE, Int.reduceEq, Int.reduceNeg, decide_true, decide_false])
local macro_rules | `(tactic| simp! [$ls,*]) => `(tactic| simp (disch := first | omega | assumption | decide | exact Nat.le_of_ble_eq_true rfl | decide +kernel | (simp only [List.length_append, List.length_cons, List.length_nil, List.length_take, List.length_drop, List.length_replicate, sl_eq]; omega) | exact rfl) only [↓lc0, ll1, ↓lc1, ↓lc2, ll3, ↓lc3, ↓lc4, ll5, ↓lc5, ll6, ↓lc6, ↓lc7, ↓lc8, ↓lc9, ll10, ↓lc10, ll11, ↓lc11, ↓q_iterK, ↓q_iterV, ↓q_iterP, q_iterKR, q_iterVR, q_iterPR, ↓q_dpop, ↓q_dpopN, ↓q_popN, ↓q_setd, ↓q_setdN, ↓q_setdV, ↓q_aug, ↓q_augD, ↓q_augDN, ↓q_augDV, ↓q_inDN, ↓q_notInDN, ↓q_lsl, ↓q_setX, ↓q_setXN, ↓q_setXI, ↓q_setXB, ↓q_enumT, q_enumTL, q_enumTT, q_wipe0, q_wipe1, q_rest0, q_rest1, q_restD, q_restN, q_restL, q_restK, ↓q_ixDL, ↓q_ixDT, ↓q_ixDS, ↓q_ixDD, ↓q_ixDR, ↓q_ixDB, q_keyS, q_keyI, q_val0, q_val1, q_kSS, q_kII, q_kIS, q_kSI, q_put0, q_put1, q_up0, q_up1, q_mer0, q_mer1, lit_ne, q_small, q_gdS, q_gdN, ↓q_kDisp, ↓q_kDispR, ↓q_prs0, ↓q_prs1, ↓q_prR, ↓q_kNew, ↓q_cellD, ↓q_treeD, q_allK0, q_allK1, q_keyDI, q_keyDS, q_tks0, q_tksS, q_tksI, ↓q_ownD, ↓q_get2, ↓q_get2R, ↓q_get1, ↓q_get1R, q_vwD, q_vwR, q_vwB, q_vwL, q_vwT, q_owDR, q_owDB, ↓q_upd, ↓q_updR, ↓q_updV, q_apT, q_apBR, q_apRR, q_pDR, q_pDB, ↓q_listOf, q_listT, q_listL, ↓q_dictOf, ↓q_fld, ↓q_sfld, ↓q_fldR, ↓q_meth, ↓q_methR, ↓q_make, ↓q_makeR, lk_hit, lk_miss, lk_nil, ↓q_mut, ↓q_mutR, ↓q_mutB, ↓q_mutAR, ↓q_mutAB, q_mutV, q_app, q_popA, q_pop0, ↓q_setL, ↓q_setRR, ↓q_setRB, q_setV, q_ixN, ↓q_par, ↓q_sortT, ↓q_zip, ↓q_zipR, ↓q_enum, ↓q_enumR, ↓r_escB, allT_r, ↓q_parR, ↓q_ixR, ↓q_ixB, ↓q_lenR, ↓q_lenB, ↓q_min, ↓q_max, ↓q_tupT, ↓q_tupL, ↓q_tupB, ↓q_catT, List.mem_cons, List.mem_singleton, true_or, or_true, putFD, List.set_set, and_true, true_and, ↓wp_some, ↓wp_none, wp_ite, ↓r_bnd, ↓r_bndX, ↓r_bndS, ↓r_bndSX, ↓r_nx, ↓r_rt, ↓r_bk, ↓r_ct, ↓r_ex, bnd_ite, bndS_ite, thenS_ite, ans_ite, ↓r_ans, ↓r_ans0, ↓r_bnd0, ↓r_bndS0, ↓r_0, ↓q_var, ↓q_cI, ↓q_cB, ↓q_cN, ↓q_op, ↓q_un, ↓q_test, ↓q_tst, ↓q_tru, ↓q_and, ↓q_or, ↓q_not, ↓q_andV, ↓q_orV, ↓q_notV, ↓q_if, ↓q_nil, ↓q_cons, ↓q_esc, ↓q_tup, ↓q_tupR, ↓q_disp, ↓q_dispR, ↓q_tree, ↓q_cell, ↓q_B, ↓q_mb, ↓q_noP, ↓q_part, ↓q_prt, ↓q_sl, ↓q_chain, ↓q_dict0, ↓q_next, ↓q_brk, ↓q_cnt, ↓q_seq, ↓q_ret, ↓q_retN, ↓q_expr, ↓q_ifS, ↓q_asg, ↓q_laid, ↓q_gT1, ↓q_gR1, ↓q_gTup, ↓q_gTs0, ↓q_gTs1, ↓q_gTt, ↓q_gT1', ↓q_own, ↓q_for, ↓q_rng, ↓q_rng1, ↓q_rng2, ↓q_rev, ↓q_rev1, ↓q_iter, ↓q_itL, ↓q_itT, ↓q_itM, ↓q_add, ↓q_sub, ↓q_neg, ↓q_mul1, ↓q_mul2, ↓q_div, ↓q_mod, ↓q_pow, ↓q_shl, ↓q_shr, ↓q_andB, ↓q_orB, ↓q_xorB, ↓q_lt, ↓q_le, ↓q_gt, ↓q_ge, ↓q_eqI, ↓q_neI, ↓q_eqM, ↓q_neM, ↓q_inM, ↓q_notInM, ↓q_eqB, ↓q_isB, ↓q_notB, ↓q_isN, ↓q_isNI, ↓q_isNT, ↓q_isNL, ↓q_isNS, ↓q_isNr, ↓q_notN, ↓q_notNI, ↓q_notNT, ↓q_notNL, ↓q_notNS, ↓q_notNr, ↓q_isi, tyOf, Ty.sub, ↓q_ixL, ↓q_ixT, ↓q_ixM, ↓q_lenM, ↓q_lenL, ↓q_lenT, ↓q_int, ↓q_intB, ↓q_catM, ↓q_mulM, ↓q_slM, ↓q_slL, ↓q_slT, ↓q_catL, allT_nil, q_allT, m_D, m_B, m_1, m_2, m_3, m_5, m_6, m_7, cut_to, cut_from, cut_mid, cut_all', at0, at1, at2, at3, at4, at5, at6, at7, at8, at9, at10, at11, at12, at13, at14, at15, at16, at17, at18, at19, allT_cons, map_some, bind_some, ↓r_call, ↓r_callR, ↓r_escs0, ↓r_escs, ↓r_escT, ↓r_escR, viewT_t, viewL_t, isStr, List.getElem?_cons_zero, List.getElem?_cons_succ, List.set_cons_zero, List.set_cons_succ, List.map_cons, List.map_nil, List.cons_append, List.nil_append, List.replicate_zero, List.replicate_succ, Nat.reduceSub, Nat.reduceAdd, Nat.reduceLeDiff, Nat.reduceLT, Nat.lt_add_one, Nat.zero_lt_succ, List.length_cons, List.length_nil, if_true, if_false, Bool.not_true, Bool.not_false, decide_eq_true_eq, Bool.not_eq_true', decide_eq_false_iff_not, Bool.false_eq_true, reduceCtorEq, ite_true, ite_false, ite_self, q_cast, eq_self, Int.reduceLT, Int.reduceLE, Int.reduceEq, Int.reduceNeg, decide_true, decide_false, $ls,*])
local macro_rules | `(tactic| walk_at "pl") => `(tactic| repeat (first | rw [wp_bnd] | rw [wp_bndS] | rw [wp_thenS]))
local macro_rules | `(tactic| walk_at "ws") => `(tactic| simp (disch := first | omega | assumption | decide | exact Nat.le_of_ble_eq_true rfl | decide +kernel | (simp only [List.length_append, List.length_cons, List.length_nil, List.length_take, List.length_drop, List.length_replicate, sl_eq]; omega) | exact rfl) only [↓lc0, ll1, ↓lc1, ↓lc2, ll3, ↓lc3, ↓lc4, ll5, ↓lc5, ll6, ↓lc6, ↓lc7, ↓lc8, ↓lc9, ll10, ↓lc10, ll11, ↓lc11, ↓q_iterK, ↓q_iterV, ↓q_iterP, q_iterKR, q_iterVR, q_iterPR, ↓q_dpop, ↓q_dpopN, ↓q_popN, ↓q_setd, ↓q_setdN, ↓q_setdV, ↓q_aug, ↓q_augD, ↓q_augDN, ↓q_augDV, ↓q_inDN, ↓q_notInDN, ↓q_lsl, ↓q_setX, ↓q_setXN, ↓q_setXI, ↓q_setXB, ↓q_enumT, q_enumTL, q_enumTT, q_wipe0, q_wipe1, q_rest0, q_rest1, q_restD, q_restN, q_restL, q_restK, ↓q_ixDL, ↓q_ixDT, ↓q_ixDS, ↓q_ixDD, ↓q_ixDR, ↓q_ixDB, q_keyS, q_keyI, q_val0, q_val1, q_kSS, q_kII, q_kIS, q_kSI, q_put0, q_put1, q_up0, q_up1, q_mer0, q_mer1, lit_ne, q_small, q_gdS, q_gdN, ↓q_kDisp, ↓q_kDispR, ↓q_prs0, ↓q_prs1, ↓q_prR, ↓q_kNew, ↓q_cellD, ↓q_treeD, q_allK0, q_allK1, q_keyDI, q_keyDS, q_tks0, q_tksS, q_tksI, ↓q_ownD, ↓q_get2, ↓q_get2R, ↓q_get1, ↓q_get1R, q_vwD, q_vwR, q_vwB, q_vwL, q_vwT, q_owDR, q_owDB, ↓q_upd, ↓q_updR, ↓q_updV, q_apT, q_apBR, q_apRR, q_pDR, q_pDB, ↓q_listOf, q_listT, q_listL, ↓q_dictOf, ↓q_fld, ↓q_sfld, ↓q_fldR, ↓q_meth, ↓q_methR, ↓q_make, ↓q_makeR, lk_hit, lk_miss, lk_nil, ↓q_mut, ↓q_mutR, ↓q_mutB, ↓q_mutAR, ↓q_mutAB, q_mutV, q_app, q_popA, q_pop0, ↓q_setL, ↓q_setRR, ↓q_setRB, q_setV, q_ixN, ↓q_par, ↓q_sortT, ↓q_zip, ↓q_zipR, ↓q_enum, ↓q_enumR, ↓r_escB, allT_r, ↓q_parR, ↓q_ixR, ↓q_ixB, ↓q_lenR, ↓q_lenB, ↓q_min, ↓q_max, ↓q_tupT, ↓q_tupL, ↓q_tupB, ↓q_catT, List.mem_cons, List.mem_singleton, true_or, or_true, putFD, List.set_set, and_true, true_and, ↓wp_some, ↓wp_none, wp_ite, ↓r_bnd, ↓r_bndX, ↓r_bndS, ↓r_bndSX, ↓r_nx, ↓r_rt, ↓r_bk, ↓r_ct, ↓r_ex, bnd_ite, bndS_ite, thenS_ite, ans_ite, ↓r_ans, ↓r_ans0, ↓r_bnd0, ↓r_bndS0, ↓r_0, ↓q_var, ↓q_cI, ↓q_cB, ↓q_cN, ↓q_op, ↓q_un, ↓q_test, ↓q_tst, ↓q_tru, ↓q_and, ↓q_or, ↓q_not, ↓q_andV, ↓q_orV, ↓q_notV, ↓q_if, ↓q_nil, ↓q_cons, ↓q_esc, ↓q_tup, ↓q_tupR, ↓q_disp, ↓q_dispR, ↓q_tree, ↓q_cell, ↓q_B, ↓q_mb, ↓q_noP, ↓q_part, ↓q_prt, ↓q_sl, ↓q_chain, ↓q_dict0, ↓q_next, ↓q_brk, ↓q_cnt, ↓q_seq, ↓q_ret, ↓q_retN, ↓q_expr, ↓q_ifS, ↓q_asg, ↓q_laid, ↓q_gT1, ↓q_gR1, ↓q_gTup, ↓q_gTs0, ↓q_gTs1, ↓q_gTt, ↓q_gT1', ↓q_own, ↓q_for, ↓q_rng, ↓q_rng1, ↓q_rng2, ↓q_rev, ↓q_rev1, ↓q_iter, ↓q_itL, ↓q_itT, ↓q_itM, ↓q_add, ↓q_sub, ↓q_neg, ↓q_mul1, ↓q_mul2, ↓q_div, ↓q_mod, ↓q_pow, ↓q_shl, ↓q_shr, ↓q_andB, ↓q_orB, ↓q_xorB, ↓q_lt, ↓q_le, ↓q_gt, ↓q_ge, ↓q_eqI, ↓q_neI, ↓q_eqM, ↓q_neM, ↓q_inM, ↓q_notInM, ↓q_eqB, ↓q_isB, ↓q_notB, ↓q_isN, ↓q_isNI, ↓q_isNT, ↓q_isNL, ↓q_isNS, ↓q_isNr, ↓q_notN, ↓q_notNI, ↓q_notNT, ↓q_notNL, ↓q_notNS, ↓q_notNr, ↓q_isi, tyOf, Ty.sub, ↓q_ixL, ↓q_ixT, ↓q_ixM, ↓q_lenM, ↓q_lenL, ↓q_lenT, ↓q_int, ↓q_intB, ↓q_catM, ↓q_mulM, ↓q_slM, ↓q_slL, ↓q_slT, ↓q_catL, allT_nil, q_allT, m_D, m_B, m_1, m_2, m_3, m_5, m_6, m_7, cut_to, cut_from, cut_mid, cut_all', at0, at1, at2, at3, at4, at5, at6, at7, at8, at9, at10, at11, at12, at13, at14, at15, at16, at17, at18, at19, allT_cons, map_some, bind_some, ↓r_call, ↓r_callR, ↓r_escs0, ↓r_escs, ↓r_escT, ↓r_escR, viewT_t, viewL_t, isStr, List.getElem?_cons_zero, List.getElem?_cons_succ, List.set_cons_zero, List.set_cons_succ, List.map_cons, List.map_nil, List.cons_append, List.nil_append, List.replicate_zero, List.replicate_succ, Nat.reduceSub, Nat.reduceAdd, Nat.reduceLeDiff, Nat.reduceLT, Nat.lt_add_one, Nat.zero_lt_succ, List.length_cons, List.length_nil, if_true, if_false, Bool.not_true, Bool.not_false, decide_eq_true_eq, Bool.not_eq_true', decide_eq_false_iff_not, Bool.false_eq_true, reduceCtorEq, ite_true, ite_false, ite_self, q_cast, eq_self, Int.reduceLT, Int.reduceLE, Int.reduceEq, Int.reduceNeg, decide_true, decide_false, *])
/-! ### is_ring -/
theorem shaped_tS {l : List Nm} (h : ∀ y ∈ l, NmOk y) : SeqAt.shaped (.list (l.map tS)) = true := strs_sh fun y hy => (h y hy).sm
theorem isringE (k : Nat) {f : Nm → List Nm} {ks l : List Nm} {S : So} {n m : Nat} (ok : WebOk f ks) (hS : S[n]? = some (.dic (dicF (fD f) ks))) (hr : IsRing f ks l) (hlk : ∀ x ∈ l, x ∈ ks) (hm : S[m]? = some (.lst (l.map fun x => .t (tS x)))) :
    fns (k + 1) 6 [.r m, .r n] S = some (.ok (.t (.bool true)), S) := by
  obtain ⟨h1, h2, h3, h4⟩ := hr
  have hno : ∀ y ∈ l, NmOk y := fun y hy => ok.nm y (hlk y hy)
  rw [e6]
  refine run_eq ?_ ?_
  · rfl
  unfold b6
  have hvl : ∀ ev, viewL ev S (.r m) = some (l.map fun x => .t (tS x)) := fun ev => by unfold viewL; dsimp only; rw [hm]
  have hdo : ∀ ev, dataOf ev S (.r m) = some (.list (l.map tS)) := fun ev => by
    show (viewL ev S (.r m)).bind _ = _
    rw [hvl, Option.bind_some, map_tS, allT_map]; rfl
  have heq : ∀ ev, dEq ev S (.r m) (.t (.list [])) = some (.t (.bool false)) := fun ev => by
    have := eq_nilS (L := l) (ev := ev) (S := S) (fun y hy => (hno y hy).sm)
    rw [decide_eq_false h1] at this
    rw [← this]
    unfold dEq
    rw [hdo]; rfl
  have hisi : ∀ ev, dIsi .lst ev S (.r m) = some (.t (.bool true)) := fun ev => by
    unfold dIsi tyOf; dsimp only; rw [hm]; rfl
  have hisl : ∀ ev, isLst ev S (.r m) = true := fun ev => by
    unfold isLst; first | (rw [hvl]; rfl) | (dsimp only; rw [hm]) | (dsimp only; rw [hvl]; rfl)
  have hsl : ∀ (ev : Nv) (a b : Option Int), dSl ev S (.r m) a b = some (.t (.list ((cut l a b).map tS))) := fun ev a b => by
    show (viewL ev S (.r m)).bind _ = _
    rw [hvl, Option.bind_some, cut_map]
    show treeL ((cut l a b).map fun x => D.t (tS x)) = _
    unfold treeL
    rw [map_tS, allT_map]; rfl
  have hcat : ∀ ev, dAdd ev S (.t (.list ((l.drop (Int.toNat 1)).map tS))) (.t (.list ((l.take (Int.toNat 1)).map tS))) = some (.t (.list ((l.drop 1 ++ l.take 1).map tS))) := fun ev => by
    rw [show Int.toNat 1 = 1 from rfl, q_catL (by rw [List.length_map, List.length_map, List.length_drop, List.length_take, sl_eq]; omega), List.map_append]
  simp! [hm, heq]
  walk_at "pl"
  refine wp_cB (fun p : Nm × Nat => Im.tup [.int (p.2 : Int), .t (tS p.1)]) (fun _ => false) (fun p => D.t (tS p.1)) l.zipIdx ?_
  have hen := fun ev => q_enumTR (ev := ev) hm
  simp! [hen]
  refine cB_mk (enum_zipF _ _ _) (by rw [List.length_zipIdx, sl_eq]; omega) (hvl []) ?_ ?_
  · rintro ⟨x, i⟩ hx
    have hxi : l[i]? = some x := by
      have := List.mem_zipIdx_iff_getElem?.mp hx
      simpa using this
    have hnot : x ∉ l.take i := fun h => by
      obtain ⟨j, hj⟩ := List.getElem?_of_mem h
      have hji := (List.getElem?_eq_some_iff.mp hj).1
      rw [List.length_take] at hji
      rw [List.getElem?_take_of_lt (by omega)] at hj
      have := (List.getElem?_inj (by omega) h2).mp (hj.trans hxi.symm)
      omega
    have hmi := fun ev (S : So) => mem_in x (l.take i) (ev := ev) (S := S)
    simp only [decide_eq_false hnot] at hmi
    have hct : cut l none (some (i : Int)) = l.take i := by rw [cut_to (by omega)]; rfl
    simp! [ex_eq, hsl, hct, hmi]
  · have hfn : (l.zipIdx.filter fun _ => false) = [] := by rw [List.filter_eq_nil_iff]; simp
    have hn0 : ∀ ev, dNe ev S (.t (.list [])) (.t (.list [])) = some (.t (.bool false)) := fun ev => ne_nilS (L := []) (by simp)
    have hzip : zipOf S (.r m) (.t (.list ((l.drop 1 ++ l.take 1).map tS))) = some ⟨zipIts (l.map fun x => .t (tS x)) (((l.drop 1 ++ l.take 1).map tS).map .t), fun S => viewL [] S (.r m) = some (l.map fun x => .t (tS x)) ∧ viewL [] S (.t (.list ((l.drop 1 ++ l.take 1).map tS))) = some (((l.drop 1 ++ l.take 1).map tS).map .t)⟩ := by
      unfold zipOf; rw [hvl, viewL_t]
    simp! [hfn, hn0, hsl, hcat, hzip]
    walk_at "pl"
    refine wp_forE (fun p : Nm × Nm => Im.tup [.t (tS p.1), .t (tS p.2)]) (l.zip (l.drop 1 ++ l.take 1)) (fun pre post e s => s = S ∧ ∃ x2 x3, e = [vR m, vR n, x2, x3, none]) ?_ ⟨rfl, _, _, rfl⟩ ?_ ?_ ?_
    · unfold zipIts
      rw [List.map_map, List.zip_map, List.map_map]; rfl
    · rintro pre post _ s _ ⟨hs, _⟩
      rw [hs]
      first | exact hvl [] | exact ⟨hvl [], rfl⟩
    · rintro pre p post _ s hp ⟨hs, x2, x3, rfl⟩
      rw [hs]
      obtain ⟨q1, q2⟩ := h4 p (by rw [hp]; simp)
      have hv := val_in (f := fD f) q1
      have hni := fun ev => (inV (ev := ev) (S := S) (d := .t (.list ((f p.1).map tS))) (L := f p.1) (by show some (((f p.1).map tS).map D.t) = _; rw [map_tS]) p.2 (by intro z e; cases e)).2
      have q2' := eq_true q2
      simp! [ex_eq, hS, hv, hni, q2', Option.isSome_some, Bool.true_eq_false]
      exact ⟨_, _, rfl⟩
    · rintro _ s ⟨hs, x2, x3, rfl⟩
      rw [hs]
      simp! []

/-! ### the law -/
theorem nodup_rev {α : Type} {l : List α} (h : l.Nodup) : l.reverse.Nodup := (List.reverse_perm l).nodup_iff.mpr h
theorem hasR_rev {f : Nm → List Nm} {ks : List Nm} (hn : ks.Nodup) : HasR (fun x => (f x).reverse) ks.reverse ↔ HasR f ks := by
  have hn2 : ks.reverse.Nodup := nodup_rev hn
  unfold HasR InU
  constructor <;> rintro ⟨x, R, hR, hx⟩ <;> refine ⟨x, R, ?_, hx⟩
  · rw [isR_iff hn2] at hR
    rw [isR_iff hn]
    intro y hy
    obtain ⟨h1, z, hz, hz2⟩ := hR y hy
    exact ⟨List.mem_reverse.mp h1, z, List.mem_reverse.mp hz, hz2⟩
  · rw [isR_iff hn] at hR
    rw [isR_iff hn2]
    intro y hy
    obtain ⟨h1, z, hz, hz2⟩ := hR y hy
    exact ⟨List.mem_reverse.mpr h1, z, List.mem_reverse.mpr hz, hz2⟩
theorem WebOk.rev {f : Nm → List Nm} {ks : List Nm} (h : WebOk f ks) : WebOk (fun x => (f x).reverse) ks.reverse :=
  ⟨nodup_rev h.nd, by rw [List.length_reverse]; exact h.l1, by rw [List.length_reverse]; exact h.l2, fun x hx => by rw [List.length_reverse]; exact h.len x (List.mem_reverse.mp hx), fun x hx => h.nm x (List.mem_reverse.mp hx), fun x hx y hy => h.nf x (List.mem_reverse.mp hx) y (List.mem_reverse.mp hy)⟩
theorem IsRing.unrev {f : Nm → List Nm} {ks l : List Nm} (h : IsRing (fun x => (f x).reverse) ks.reverse l) : IsRing f ks l :=
  ⟨h.1, h.2.1, h.2.2.1, fun p hp => ⟨List.mem_reverse.mp (h.2.2.2 p hp).1, List.mem_reverse.mp (h.2.2.2 p hp).2⟩⟩
/-- what repr tells of a web -/
theorem strs_w (L : List Nm) (h : ∀ y ∈ L, NmOk y) : PyData.weightAll (L.map tS) ≤ 13 * L.length ∧ PyData.leavesShortAll 8 (L.map tS) = true ∧ PyData.depthAll (L.map tS) = 0 ∧ PyData.showableAll (L.map tS) = true ∧ PyData.canLayAll0 (L.map tS) = true := by
  induction L with
  | nil => simp [PyData.weightAll, PyData.leavesShortAll, PyData.depthAll, PyData.showableAll, PyData.canLayAll0]
  | cons a r ih =>
    obtain ⟨i1, i2, i3, i4, i5⟩ := ih fun y hy => h y (List.mem_cons_of_mem _ hy)
    have ha := h a List.mem_cons_self
    have w : (tS a).weight ≤ 12 := ha.1
    have sh := strS_sh ha
    have ls : (tS a).leavesShort 8 = true := by
      show (mkS a).cps.toList.all _ = true
      rw [List.all_eq_true]
      intro c hc
      have : c ∈ a := by simpa [mkS] using hc
      have := ha.2 c this
      exact decide_eq_true (by have : (123 : Nat) ≤ 16 ^ 8 := by decide
                               omega)
    refine ⟨?_, ?_, ?_, ?_, ?_⟩
    · rw [List.map_cons, PyData.weightAll, List.length_cons]; omega
    · rw [List.map_cons, PyData.leavesShortAll, ls, i2]; rfl
    · rw [List.map_cons, PyData.depthAll, i3]; rfl
    · rw [List.map_cons, PyData.showableAll, i4]; rfl
    · rw [List.map_cons, PyData.canLayAll0, i5, SeqAt.canLay_of_shaped sh]; rfl
theorem web_w (f : Nm → List Nm) (ks : List Nm) (h1 : ∀ x ∈ ks, NmOk x) (h2 : ∀ x ∈ ks, (f x).length ≤ 4) (h3 : ∀ x ∈ ks, ∀ y ∈ f x, NmOk y) :
    PyData.weightKv (ks.map fun x => (tS x, .list ((f x).map tS))) ≤ 66 * ks.length ∧ PyData.leavesShortKv 8 (ks.map fun x => (tS x, .list ((f x).map tS))) = true ∧ PyData.depthKv (ks.map fun x => (tS x, .list ((f x).map tS))) ≤ 1 ∧ PyData.showableKv (ks.map fun x => (tS x, .list ((f x).map tS))) = true ∧ PyData.canLayAll0 ((ks.map fun x => (tS x, PyData.list ((f x).map tS))).map (·.2)) = true := by
  induction ks with
  | nil => simp [PyData.weightKv, PyData.leavesShortKv, PyData.depthKv, PyData.showableKv, PyData.canLayAll0]
  | cons a r ih =>
    obtain ⟨i1, i2, i3, i4, i5⟩ := ih (fun y hy => h1 y (List.mem_cons_of_mem _ hy)) (fun y hy => h2 y (List.mem_cons_of_mem _ hy)) (fun y hy => h3 y (List.mem_cons_of_mem _ hy))
    obtain ⟨j1, j2, j3, j4, j5⟩ := strs_w [a] (fun y hy => by rw [List.mem_singleton.mp hy]; exact h1 a List.mem_cons_self)
    obtain ⟨k1, k2, k3, k4, k5⟩ := strs_w (f a) (h3 a List.mem_cons_self)
    have hl := h2 a List.mem_cons_self
    simp only [List.map_cons, List.map_nil, PyData.weightAll, PyData.leavesShortAll, PyData.depthAll, PyData.showableAll, PyData.canLayAll0, Bool.and_true, List.length_cons, List.length_nil] at j1 j2 j3 j4 j5
    refine ⟨?_, ?_, ?_, ?_, ?_⟩
    · rw [List.map_cons, PyData.weightKv, List.length_cons]
      have : (PyData.list ((f a).map tS)).weight = PyData.weightAll ((f a).map tS) := by rw [PyData.weight]
      omega
    · rw [List.map_cons, PyData.leavesShortKv, i2, j2, PyData.leavesShort, k2]; rfl
    · rw [List.map_cons, PyData.depthKv, PyData.depth, PyData.depth, k3]
      have := i3; omega
    · rw [List.map_cons, PyData.showableKv, i4, j4, PyData.showable, k4]; rfl
    · rw [List.map_cons, List.map_cons, PyData.canLayAll0, i5, PyData.canLay0, k5]; rfl
theorem reprE {f : Nm → List Nm} {ks : List Nm} (ok : WebOk f ks) : ∃ t : Str, ∀ (ev : Nv) (S : So) (n : Nat), S[n]? = some (.dic (dicF (fD f) ks)) → bRepr ev S [.r n] = some (.t (.str t)) := by
  obtain ⟨w1, w2, w3, w4, w5⟩ := web_w f ks ok.nm ok.len ok.nf
  refine ⟨PyData.shown (.dict (ks.map fun x => (tS x, .list ((f x).map tS)))), fun ev S n hS => ?_⟩
  have hv : viewD ev S (.r n) = some (dicF (fD f) ks) := by unfold viewD; dsimp only; rw [hS]
  have ha : allK (dicF (fD f) ks) = some (ks.map fun x => (tS x, .list ((f x).map tS))) := by
    clear w1 w2 w3 w4 w5 hv hS ok
    induction ks with
    | nil => rfl
    | cons x r ih =>
      show allK ((kS x, fD f x) :: dicF (fD f) r) = _
      rw [q_allK1, ih]; rfl
  have hs : showOk (.dict (ks.map fun x => (tS x, .list ((f x).map tS)))) := by
    refine ⟨by rw [PyData.showable]; exact w4, by rw [PyData.depth]; omega, ?_⟩
    refine PyData.shown_fits (B := 8) (by omega) (by omega) (by rw [PyData.leavesShort]; exact w2) ?_
    rw [PyData.weight]
    have := ok.l2
    have : (2640 : Nat) ≤ 2 ^ 20 := by decide
    omega
  unfold bRepr
  dsimp only
  rw [hv]
  dsimp only
  rw [ha]
  dsimp only
  rw [if_pos ⟨w5, hs⟩]
theorem law_true (ns : List Int) (hn : ns.length ≤ 63) : ∃ S, fns 8 8 [.r 0] [.frl (ns.map D.int)] = some (.ok (.t (.bool true)), S) := by
  suffices q : Wc (fns 8 8 [.r 0] [.frl (ns.map D.int)]) fun r s => r = .ok (.t (.bool true)) by
    obtain ⟨r, s, e, rfl⟩ := q
    exact ⟨s, e⟩
  obtain ⟨f, ks, c, ok, hweb⟩ := webE 4 ns hn
  obtain ⟨t, hrepr⟩ := reprE ok
  rw [e8]
  refine wc_run ?_ ?_
  · rfl
  unfold b8
  have hR : ∀ (ev : Nv) (T : List Ce), bRepr ev (.frl (ns.map D.int) :: c :: .dic (dicF (fD f) ks) :: T) [.r 2] = some (.t (.str t)) := fun ev T => hrepr ev _ 2 rfl
  obtain ⟨b, T1, h1, hb⟩ := hasringE 6 (S := [.frl (ns.map D.int), c, .dic (dicF (fD f) ks)]) (n := 2) ok rfl
  have hS1 : ([.frl (ns.map D.int), c, .dic (dicF (fD f) ks)] ++ T1)[2]? = some (.dic (dicF (fD f) ks)) := rfl
  obtain ⟨ra, rb⟩ := ringinE 5 ok hS1
  have hset : ∀ (x : Ce) (T : List Ce), (Ce.frl (ns.map D.int) :: c :: .dic (dicF (fD f) ks) :: T).set 2 x = .frl (ns.map D.int) :: c :: x :: T := fun _ _ => rfl
  have hset2 : ∀ (x : Ce) (T : List Ce), (Ce.frl (ns.map D.int) :: c :: .frd (dicF (fD f) ks) :: T).set 2 x = .frl (ns.map D.int) :: c :: x :: T := fun _ _ => rfl
  have ok2 := ok.rev
  have hle := ok.l2
  -- the other web
  have hother : ∀ (T : List Ce) (x3 x4 x7 : Option En) (Q : Rs (List D) → Nv → So → Prop), (∀ x7', Q (.ok (ks.map fun x => D.t (.tuple [tS x, .list ((f x).map tS).reverse]))) [vR 0, vR 2, vT (.str t), x3, x4, none, none, x7'] (Ce.frl (ns.map D.int) :: c :: .dic (dicF (fD f) ks) :: T)) →
      Wp (lLk (mVar 1) (lComp (mIterK (mVar 1)) (gN 7) mYes (mTup (mCons (mVar 7) (mCons (mUn dRev (mOp dIxD (mVar 1) (mVar 7))) mNil))) [7]) [vR 0, vR 2, vT (.str t), x3, x4, none, none, x7] (Ce.frl (ns.map D.int) :: c :: .dic (dicF (fD f) ks) :: T)) Q := by
    intro T x3 x4 x7 Q hQ
    refine wp_lkL (n := 2) (kvs := dicF (fD f) ks) rfl rfl ?_
    rw [hset]
    refine wp_cA (fun x : Nm => Im.one (.t (tS x))) (fun x => D.t (.tuple [tS x, .list ((f x).map tS).reverse])) ks ?_
    have hk := fun ev => q_iterKR (ev := ev) (S := .frl (ns.map D.int) :: c :: .frd (dicF (fD f) ks) :: T) (n := 2) (kvs := dicF (fD f) ks) rfl
    simp! [hk]
    refine cA_mk (ones_keys _ _) (by rw [sl_eq]; omega) trivial ?_ ?_
    · intro x hx
      have hv := val_in (f := fD f) hx
      have hrv := fun ev (S : So) => v_rev (ev := ev) (S := S) (ts := (f x).map tS)
      simp! [ex_eq, hv, hrv]
    · simp! [hset2]
      exact hQ _
  have hdF := fun ev (S : So) => dict_F (ev := ev) (S := S) (fun x => .list ((f x).reverse.map tS)) ks.reverse ok2.nd (by have := ok2.l2; omega)
  simp only [List.map_reverse] at hdF
  have hrv := fun ev (S : So) => v_rev (ev := ev) (S := S) (ts := ks.map fun x => PyData.tuple [tS x, .list ((f x).map tS).reverse])
  have hfe : (fun x => D.t (.list ((f x).map tS).reverse)) = (fD fun x => (f x).reverse) := by
    funext x
    show _ = D.t (.list (((f x).reverse).map tS))
    rw [List.map_reverse]
  have hg2 : ∀ T : List Ce, (Ce.frl (ns.map D.int) :: c :: .dic (dicF (fD f) ks) :: (T ++ [.dic (dicF (fD fun x => (f x).reverse) ks.reverse)]))[T.length + 1 + 1 + 1]? = some (.dic (dicF (fD fun x => (f x).reverse) ks.reverse)) := fun T => by simp
  have heqt : ∀ (ev : Nv) (S : So), dEq ev S (.t (.str t)) (.t (.str t)) = some (.t (.bool true)) := fun ev S => by rw [q_eqS]; simp
  by_cases hH : HasR f ks
  · have hb0 : b = true := hb.mpr hH
    subst hb0
    cases hl : ringV f ks with
    | none => exact absurd hH ((ringV_none ok).mp hl)
    | some l =>
    cases hl2 : ringV (fun x => (f x).reverse) ks.reverse with
    | none => exact absurd ((hasR_rev ok.nd).mpr hH) ((ringV_none ok2).mp hl2)
    | some l2 =>
    obtain ⟨hr1, hr2⟩ := ringV_ok ok hl
    obtain ⟨hr3, hr4⟩ := ringV_ok ok2 hl2
    obtain ⟨T2, h2⟩ := rb l hl
    simp only [List.cons_append, List.nil_append] at h2
    simp! [hweb, hR, h1, h2]
    walk_at "pl"
    refine hother _ _ _ _ _ ?_
    intro x7
    obtain ⟨T3, h3⟩ := (ringinE 5 ok2 (hg2 (T1 ++ T2 ++ [.lst (l.map fun x => .t (tS x))]))).2 l2 hl2
    simp only [List.cons_append, List.nil_append] at h3
    simp! [hrv, hdF, hfe, h3]
    rw [show List.length T1 + 1 + 1 + 1 + List.length T2 = (List.length T1 + List.length T2) + 1 + 1 + 1 by omega, show (T1 ++ T2 ++ [Ce.lst (l.map fun x => D.t (tS x))] ++ [Ce.dic (dicF (fD fun x => (f x).reverse) ks.reverse)]).length + 1 + 1 + 1 + T3.length = (T1 ++ T2 ++ [Ce.lst (l.map fun x => D.t (tS x))] ++ [Ce.dic (dicF (fD fun x => (f x).reverse) ks.reverse)] ++ T3).length + 1 + 1 + 1 by rw [List.length_append (bs := T3)]; omega]
    have hX1 : (T1 ++ T2 ++ [Ce.lst (l.map fun x => D.t (tS x))] ++ [Ce.dic (dicF (fD fun x => (f x).reverse) ks.reverse)] ++ T3 ++ [Ce.lst (l2.map fun x => D.t (tS x))])[T1.length + T2.length]? = some (.lst (l.map fun x => .t (tS x))) := by
      simp only [List.append_assoc]
      rw [← List.append_assoc T1 T2, ← List.length_append]
      simp
    have hX2 : (T1 ++ T2 ++ [Ce.lst (l.map fun x => D.t (tS x))] ++ [Ce.dic (dicF (fD fun x => (f x).reverse) ks.reverse)] ++ T3 ++ [Ce.lst (l2.map fun x => D.t (tS x))])[(T1 ++ T2 ++ [Ce.lst (l.map fun x => D.t (tS x))] ++ [Ce.dic (dicF (fD fun x => (f x).reverse) ks.reverse)] ++ T3).length]? = some (.lst (l2.map fun x => .t (tS x))) := by
      generalize T1 ++ T2 ++ [Ce.lst (l.map fun x => D.t (tS x))] ++ [Ce.dic (dicF (fD fun x => (f x).reverse) ks.reverse)] ++ T3 = Y
      simp
    generalize T1 ++ T2 ++ [Ce.lst (l.map fun x => D.t (tS x))] ++ [Ce.dic (dicF (fD fun x => (f x).reverse) ks.reverse)] ++ T3 ++ [Ce.lst (l2.map fun x => D.t (tS x))] = X at *
    generalize (T1 ++ T2 ++ [Ce.lst (l.map fun x => D.t (tS x))] ++ [Ce.dic (dicF (fD fun x => (f x).reverse) ks.reverse)] ++ T3).length = j2 at *
    generalize T1.length + T2.length = j1 at *
    have hY1 : (Ce.frl (ns.map D.int) :: c :: .dic (dicF (fD f) ks) :: X)[j1 + 1 + 1 + 1]? = some (.lst (l.map fun x => .t (tS x))) := by simpa using hX1
    have hY2 : (Ce.frl (ns.map D.int) :: c :: .dic (dicF (fD f) ks) :: X)[j2 + 1 + 1 + 1]? = some (.lst (l2.map fun x => .t (tS x))) := by simpa using hX2
    have hi1 := isringE 6 (S := Ce.frl (ns.map D.int) :: c :: .dic (dicF (fD f) ks) :: X) (n := 2) ok rfl hr1 hr2 hY1
    have hi2 := isringE 6 (S := Ce.frl (ns.map D.int) :: c :: .dic (dicF (fD f) ks) :: X) (n := 2) ok rfl hr3.unrev (fun x hx => List.mem_reverse.mp (hr4 x hx)) hY2
    have hlz : (l.map fun x => D.t (tS x)).length < sizeLine := by rw [List.length_map, sl_eq]; have := hr1.2.2.1; omega
    have hlr : ∀ ev, listR [.r (j1 + 1 + 1 + 1)] ev (Ce.frl (ns.map D.int) :: c :: .dic (dicF (fD f) ks) :: X) = some (.ok ((l.map tS).map .t), ev, Ce.frl (ns.map D.int) :: c :: .dic (dicF (fD f) ks) :: X) := fun ev => by
      have e1 : viewD0 [] (Ce.frl (ns.map D.int) :: c :: .dic (dicF (fD f) ks) :: X) (.r (j1 + 1 + 1 + 1)) = none := by unfold viewD0; dsimp only; rw [hY1]
      have e2 : viewQ [] (Ce.frl (ns.map D.int) :: c :: .dic (dicF (fD f) ks) :: X) (.r (j1 + 1 + 1 + 1)) = some ((l.map tS).map .t) := by
        unfold viewQ viewL; dsimp only; rw [hY1, ← map_tS]
      unfold listR
      dsimp only
      rw [e1, e2]
      dsimp only
      rw [← map_tS, if_pos (Nat.le_of_lt hlz)]
    have hset3 : ∀ v, (Ce.frl (ns.map D.int) :: c :: .dic (dicF (fD f) ks) :: X).set (j1 + 1 + 1 + 1) v = Ce.frl (ns.map D.int) :: c :: .dic (dicF (fD f) ks) :: X.set j1 v := fun v => rfl
    obtain ⟨T4, h4⟩ := (ringinE 5 (S := Ce.frl (ns.map D.int) :: c :: .dic (dicF (fD f) ks) :: X.set j1 (Ce.lst (l.map (fun x => D.t (tS x)) ++ [D.t (.str (mkS lv11))]))) (n := 2) ok rfl).2 l hl
    simp only [List.cons_append, List.nil_append] at h4
    have hsl := shaped_tS (fun y hy => ok.nm y (hr2 y hy))
    have hdq : ∀ (ev : Nv) (S : So) (n : Nat), S[n]? = some (.lst (l.map fun x => .t (tS x))) → dEq ev S (.r n) (.t (.list (l.map tS))) = some (.t (.bool true)) := fun ev S n hn => by
      have h0 := v_eq (ev := ev) (S := S) hsl hsl
      rw [SeqAt.eqv_refl _ (SeqAt.canLay_of_shaped hsl)] at h0
      rw [← h0]
      have : dataOf ev S (.r n) = some (.list (l.map tS)) := by
        show (viewL ev S (.r n)).bind _ = _
        have : viewL ev S (.r n) = some (l.map fun x => D.t (tS x)) := by unfold viewL; dsimp only; rw [hn]
        rw [this, Option.bind_some, map_tS, allT_map]; rfl
      unfold dEq
      rw [this]; rfl
    simp! [hi1, hi2, hlr, hY1, allT_map, hset3, h4]
    rw [hdq _ _ _ (by
      have e : (X.set j1 (Ce.lst (l.map (fun x => D.t (tS x)) ++ [D.t (.str (mkS lv11))])) ++ (T4 ++ [Ce.lst (l.map fun x => D.t (tS x))]))[X.length + T4.length]? = some (.lst (l.map fun x => .t (tS x))) := by
        rw [← List.append_assoc, List.getElem?_append_right (by rw [List.length_append, List.length_set]; omega), List.length_append, List.length_set, Nat.sub_self]; rfl
      first
        | (simp only [List.append_assoc, List.length_set, List.length_cons]; rw [show X.length + 1 + 1 + 1 + T4.length = X.length + T4.length + 1 + 1 + 1 by omega]; simpa using e)
        | (rw [show X.length + 1 + 1 + 1 + T4.length = X.length + T4.length + 1 + 1 + 1 by omega]; simpa using e))]
    simp! [hR, heqt]
  · have hb0 : b = false := by cases b with | false => rfl | true => exact absurd (hb.mp rfl) hH
    subst hb0
    obtain ⟨T2, h2⟩ := ra ((ringV_none ok).mpr hH)
    simp only [List.cons_append, List.nil_append] at h2
    simp! [hweb, hR, h1, h2]
    walk_at "pl"
    refine hother _ _ _ _ _ ?_
    intro x7
    obtain ⟨T3, h3⟩ := (ringinE 5 ok2 (hg2 (T1 ++ T2))).1 ((ringV_none ok2).mpr fun z => hH ((hasR_rev ok.nd).mp z))
    simp only [List.cons_append, List.nil_append] at h3
    simp! [hrv, hdF, hfe, h3, hR, heqt]

end Y18

/-! ## the head -/
namespace Y18
open PySem PySem.Spec PyProof.Rows L2 Cl
def nms0 : List PySem.Str := ["__name__", "unfinished", "ring_in", "_law_cell", "_law_mixed", "_law_names", "_law_has_ring", "_law_is_ring", "_law_web"]
def nms : List PySem.Str := nms0
abbrev RR : PySem.W.OpenRow := PySem.W.OpenLaw.row PySem.Challenge.rw_wireyard_k18_rings_among_names
abbrev hk : PySem.W.Hook := Cl.hookM 4 fa fn xl
def ob (s : PySem.W.SharedT) : He.AlD × Bool := Cl.obsM 4 fa fn xl (HandSHeadRun.getT s)
theorem ob_eq (s : PySem.W.SharedT) : ob s = hk.obs s.abs := Cl.obsM_eq (HandSHeadRun.getT_eq s)
theorem run (w : World) : HandSHeadRun.RunEq RR (PySem.W.view RR.prog [10]) hk ob 3000 nms w := by
  intro os
  kernel_rfl
end Y18
/-! ## the end -/
open PySem PySem.W PySem.Calls PyProof.Rows
theorem PySem.Challenge.cw_wireyard_k18_rings_among_names_holds : PySem.Challenge.rw_wireyard_k18_rings_among_names.Holds := by
  w_on; o_law
  refine HandSHeadRun.head_any (r := OpenLaw.row PySem.Challenge.rw_wireyard_k18_rings_among_names) (q := view (OpenLaw.row PySem.Challenge.rw_wireyard_k18_rings_among_names).prog [10]) (H := Y18.hk) (ob := Y18.ob) (M := 3000) (loose := Y18.nms) (d := HandSHeadRun.topDef (OpenLaw.row PySem.Challenge.rw_wireyard_k18_rings_among_names).prog 10) (kwd := []) Y18.ob_eq
    (by kernel_rfl) (fun s => by kernel_rfl) Y18.run (by kernel_rfl) (by kernel_rfl) (by kernel_rfl) (by rfl) (by first | assumption | decide +kernel) (by decide +kernel) ⟨rfl, rfl, rfl, rfl, rfl, by decide +kernel⟩ ?hw ?hc
  case hw => w_witness2
  case hc =>
    refine Cl.walk_ofG (l := PySem.Challenge.rw_wireyard_k18_rings_among_names) (n := 63) (k := 16) (x := "_law_script") (CX := L2.CX0) rfl (by decide) (by kernel_rfl) ⟨rfl, by decide, by decide⟩ ?F (fun _ _ _ _ z => z)
    intro w mg fa h Y G hmg0
    obtain ⟨K, KX, c⟩ := Y
    have hmg : mg ("law" : PySem.Str) = some (.ref fa) := by
      have e : (HandSHeadRun.topDef (OpenLaw.row PySem.Challenge.rw_wireyard_k18_rings_among_names).prog 10).name = ("law" : PySem.Str) := by kernel_rfl
      rw [← e]
      exact hmg0
    have T : Cl.Tp Y18.fa Y18.fn Y18.xl K mg := ⟨congrArg (fun z : He.AlD × Bool => z.1) c, congrArg (fun z : He.AlD × Bool => z.2) c, h, KX, G⟩
    have e := hmg.symm.trans (T.glo 0)
    cases e
    refine ⟨K, T.fd 8 rfl, (fun vs H Q _ => Cl.spc K (Y18.gam K) 1 (Y18.fns 8 8) vs H Q fun _ _ _ => False), KX, fun s u => ?_, Cl.law_sp (n := 63) fun ns hl => Y18.law_true ns hl, fun base _ _ => Cl.fn_quiet (Y18.okAll T 8).g8⟩
    exact L2.FunD.bindsA (ps := ["_law_script"]) (T.fun 8 rfl) (fun _ _ _ _ _ _ us hl => match us, hl with | [_], _ => rfl) s [u] rfl

