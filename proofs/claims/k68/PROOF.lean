import PyProof.Rows.All
import Wide.All
import OpenK.AllK
import Wide.FinOn
import HandS.ForMost
import HandS.TupAny
import HandS.TupMul
import HandS.Deep
import HandS.Style
import HandS.IsInst
import HandS.Wide
import HandS.RaiseMore
import HandS.Zip
import HandS.Ends
import KE.DatumOrd
import PyProof.WalksMore
import HandS.SetFor
import HandS.Strs
import PySem.Challenge.RW_surveyyard_k68_whole_shifts_of_strips
set_option Elab.async false
set_option linter.all false
set_option maxRecDepth 100000
namespace PL
open PySem PySem.Spec PyProof.Rows L2

/-! ### heaps in which some addresses are hidden -/
abbrev Cu := Int × Int
open Classical in
noncomputable def hid (H : Hp) (O : Addr → Prop) : Hp := fun a => if O a then none else H a
theorem hid_of {H : Hp} {O : Addr → Prop} {a : Addr} {o : HO} (n : ¬ O a) (h : H a = some o) : hid H O a = some o := by
  unfold hid; rw [if_neg n]; exact h
theorem of_hid {H : Hp} {O : Addr → Prop} {a : Addr} {o : HO} (h : hid H O a = some o) : ¬ O a ∧ H a = some o := by
  unfold hid at h
  split at h
  · cases h
  · exact ⟨by assumption, h⟩
def SameC (cup : Option Addr) (H H' : Hp) : Prop := ∀ b o, H b = some o → cup ≠ some b → H' b = some o
theorem SameC.refl {cup : Option Addr} (H : Hp) : SameC cup H H := fun _ _ h _ => h
theorem SameC.trans {cup : Option Addr} {H H1 H2 : Hp} (a : SameC cup H H1) (b : SameC cup H1 H2) : SameC cup H H2 := fun c o h n => b c o (a c o h n) n
theorem Same.toC {cup : Option Addr} {H H' : Hp} (s : Same H H') : SameC cup H H' := fun b o h _ => s b o h
def CupAt (cup : Option Addr) (H : Hp) (c : Cu) : Prop := ∀ a, cup = some a → H a = some (.lst [.int c.1, .int c.2])
theorem CupAt.same {cup : Option Addr} {H H' : Hp} {c : Cu} (h : CupAt cup H c) (s : Same H H') : CupAt cup H' c := fun a e => s _ _ (h a e)

theorem hid_sub {H : Hp} {O : Addr → Prop} : Same (hid H O) H := fun _ _ h => (of_hid h).2
theorem hid_mono {H : Hp} {O O' : Addr → Prop} (h : ∀ a, O a → O' a) : Same (hid H O') (hid H O) := fun _ _ e => hid_of (fun z => (of_hid e).1 (h _ z)) (of_hid e).2
theorem hid_same {cup : Option Addr} {H H' : Hp} {O : Addr → Prop} (s : SameC cup H H') (hc : ∀ a, cup = some a → O a) : Same (hid H O) (hid H' O) := fun b o e => by
  obtain ⟨n, h⟩ := of_hid e
  exact hid_of n (s b o h fun z => n (hc b z))

theorem same_upd {H : Hp} {p : Addr} {o : HO} (h : H p = none) : Same H (upd H p o) := fun b x e => by
  rw [upd_ne (ne_of_none e h)]
  exact e

theorem seqT {K : PySem.W.Frag} {H H' : Hp} {a : Addr} {xs : List V} (e : Same H H') (h : SqT K H a xs) : SqT K H' a xs := by
  rcases h with (h | ⟨o, h⟩) | h
  · exact .inl (.inl (e _ _ h))
  · exact .inl (.inr ⟨o, e _ _ h⟩)
  · exact .inr h

def kD : Key → PyData
  | .inl i => .int i
  | .inr x => .str x
mutual
inductive Da (K : PySem.W.Frag) (H : Hp) : V → PyData → Prop
  | non : Da K H .non .none
  | bl (b : Bool) : Da K H (.bl b) (.bool b)
  | int (i : Int) : Da K H (.int i) (.int i)
  | str (x : Str) : Da K H (.str x) (.str x)
  | lst {a : Addr} {xs : List V} {ds : List PyData} : H a = some (.lst xs) → DaAll K H xs ds → Da K H (.ref a) (.list ds)
  | tup {a : Addr} {xs : List V} {ds : List PyData} : SqT K H a xs → DaAll K H xs ds → Da K H (.ref a) (.tuple ds)
  | dK {a : Addr} {kvs : List (Key × V)} {ds : List (PyData × PyData)} : H a = some (.dK kvs) → DaKv K H kvs ds → Da K H (.ref a) (.dict ds)
  | dT {a : Addr} {kvs : List (List Key × V)} {ds : List (PyData × PyData)} : H a = some (.dT kvs) → DaTv K H kvs ds → Da K H (.ref a) (.dict ds)
inductive DaAll (K : PySem.W.Frag) (H : Hp) : List V → List PyData → Prop
  | nil : DaAll K H [] []
  | cons {v : V} {vs : List V} {d : PyData} {ds : List PyData} : Da K H v d → DaAll K H vs ds → DaAll K H (v :: vs) (d :: ds)
inductive DaKv (K : PySem.W.Frag) (H : Hp) : List (Key × V) → List (PyData × PyData) → Prop
  | nil : DaKv K H [] []
  | cons {k : Key} {v : V} {vs : List (Key × V)} {d : PyData} {ds : List (PyData × PyData)} : Da K H v d → DaKv K H vs ds → DaKv K H ((k, v) :: vs) ((kD k, d) :: ds)
inductive DaTv (K : PySem.W.Frag) (H : Hp) : List (List Key × V) → List (PyData × PyData) → Prop
  | nil : DaTv K H [] []
  | cons {k : List Key} {v : V} {vs : List (List Key × V)} {d : PyData} {ds : List (PyData × PyData)} : Da K H v d → DaTv K H vs ds → DaTv K H ((k, v) :: vs) ((.tuple (k.map kD), d) :: ds)
end
mutual
theorem dp_mono {K : PySem.W.Frag} {G G' : Hp} (s : Same G G') : ∀ {v : V} {d : PyData}, Da K G v d → Da K G' v d
  | _, _, .non => .non
  | _, _, .bl b => .bl b
  | _, _, .int i => .int i
  | _, _, .str x => .str x
  | _, _, .lst hs ha => .lst (s _ _ hs) (dps_mono s ha)
  | _, _, .tup hs ha => .tup (seqT s hs) (dps_mono s ha)
  | _, _, .dK hs ha => .dK (s _ _ hs) (dk_mono s ha)
  | _, _, .dT hs ha => .dT (s _ _ hs) (dt_mono s ha)
theorem dps_mono {K : PySem.W.Frag} {G G' : Hp} (s : Same G G') : ∀ {vs : List V} {ds : List PyData}, DaAll K G vs ds → DaAll K G' vs ds
  | _, _, .nil => .nil
  | _, _, .cons h1 h2 => .cons (dp_mono s h1) (dps_mono s h2)
theorem dk_mono {K : PySem.W.Frag} {G G' : Hp} (s : Same G G') : ∀ {vs : List (Key × V)} {ds : List (PyData × PyData)}, DaKv K G vs ds → DaKv K G' vs ds
  | _, _, .nil => .nil
  | _, _, .cons h1 h2 => .cons (dp_mono s h1) (dk_mono s h2)
theorem dt_mono {K : PySem.W.Frag} {G G' : Hp} (s : Same G G') : ∀ {vs : List (List Key × V)} {ds : List (PyData × PyData)}, DaTv K G vs ds → DaTv K G' vs ds
  | _, _, .nil => .nil
  | _, _, .cons h1 h2 => .cons (dp_mono s h1) (dt_mono s h2)
end

/-! ### the names' slots -/
/-- what a slot owns: a list or dict that nobody else reaches -/
inductive Ow where
  | lst (xs : List PyData)
  | dK (kvs : List (PyData × PyData))
  | dT (kvs : List (PyData × PyData))
inductive Sl where
  | un
  | cup
  | d (x : PyData)
  | own (k : Ow)
  | fix (v : V)
abbrev Rho := List Sl
def OwOk (K : PySem.W.Frag) (G : Hp) : HO → Ow → Prop
  | .lst vs, .lst xs => DaAll K G vs xs
  | .dK a, .dK b => DaKv K G a b
  | .dT a, .dT b => DaTv K G a b
  | _, _ => False
theorem OwOk.mono {K : PySem.W.Frag} {G G' : Hp} (s : Same G G') : ∀ {o : HO} {k : Ow}, OwOk K G o k → OwOk K G' o k := by
  intro o k h
  cases o <;> cases k <;> first
    | exact h.elim
    | exact dps_mono s h
    | exact dk_mono s h
    | exact dt_mono s h

structure Rep (K : PySem.W.Frag) (O : Addr → Prop) (cup : Option Addr) (H : Hp) (σ : L2.St) (ρ : Rho) (c : Cu) : Prop where
  len : σ.length = ρ.length
  dat : ∀ (i : Nat) (x : PyData), ρ[i]? = some (.d x) → ∃ v, σ[i]? = some (some v) ∧ Da K (hid H O) v x
  own : ∀ (i : Nat) (k : Ow), ρ[i]? = some (.own k) → ∃ a o, σ[i]? = some (some (.ref a)) ∧ O a ∧ cup ≠ some a ∧ H a = some o ∧ OwOk K (hid H O) o k
  dis : ∀ (i j : Nat) (k l : Ow) (a : Addr), ρ[i]? = some (.own k) → ρ[j]? = some (.own l) → σ[i]? = some (some (.ref a)) → σ[j]? = some (some (.ref a)) → i = j
  cp : ∀ (i : Nat), ρ[i]? = some .cup → ∃ a, cup = some a ∧ σ[i]? = some (some (.ref a))
  fx : ∀ (i : Nat) (v : V), ρ[i]? = some (.fix v) → σ[i]? = some (some v)
  cupA : CupAt cup H c
  cupO : ∀ a, cup = some a → O a
  dom : ∀ a, O a → H a ≠ none

theorem Rep.step {K : PySem.W.Frag} {O : Addr → Prop} {cup : Option Addr} {H H' : Hp} {σ : L2.St} {ρ : Rho} {c c' : Cu} (R : Rep K O cup H σ ρ c) (s : SameC cup H H') (h : CupAt cup H' c') : Rep K O cup H' σ ρ c' where
  len := R.len
  dat := fun i x e => let ⟨v, h1, h2⟩ := R.dat i x e; ⟨v, h1, dp_mono (hid_same s R.cupO) h2⟩
  own := fun i k e => let ⟨a, o, h1, h2, h3, h4, h5⟩ := R.own i k e; ⟨a, o, h1, h2, h3, s _ _ h4 h3, h5.mono (hid_same s R.cupO)⟩
  dis := R.dis
  cp := R.cp
  fx := R.fx
  cupA := h
  cupO := R.cupO
  dom := fun a h1 h2 => by
    cases q : H a with
    | none => exact R.dom a h1 q
    | some o =>
      by_cases z : cup = some a
      · have := h a z
        rw [h2] at this; cases this
      · have := s a o q z
        rw [h2] at this; cases this

/-- a value: kept (true: none of its objects is owned), or read in passing (a slot's own list) -/
def Res (m : Bool) (K : PySem.W.Frag) (O : Addr → Prop) (cup : Option Addr) (H : Hp) (v : V) (d : PyData) : Prop :=
  Da K (hid H O) v d ∨ (m = false ∧ ∃ a vs xs, v = .ref a ∧ d = .list xs ∧ O a ∧ cup ≠ some a ∧ H a = some (.lst vs) ∧ DaAll K (hid H O) vs xs)
theorem Res.kept {K : PySem.W.Frag} {O : Addr → Prop} {cup : Option Addr} {H : Hp} {v : V} {d : PyData} (h : Res true K O cup H v d) : Da K (hid H O) v d := by
  rcases h with h | ⟨h, _⟩
  · exact h
  · cases h
theorem Res.step {m : Bool} {K : PySem.W.Frag} {O : Addr → Prop} {cup : Option Addr} {H H' : Hp} {v : V} {d : PyData} (r : Res m K O cup H v d) (s : SameC cup H H') (hc : ∀ a, cup = some a → O a) : Res m K O cup H' v d := by
  rcases r with r | ⟨e, a, vs, xs, h1, h2, h3, h4, h5, h6⟩
  · exact .inl (dp_mono (hid_same s hc) r)
  · exact .inr ⟨e, a, vs, xs, h1, h2, h3, h4, s _ _ h5 h4, dps_mono (hid_same s hc) h6⟩
theorem Res.any {m : Bool} {K : PySem.W.Frag} {O : Addr → Prop} {cup : Option Addr} {H : Hp} {v : V} {d : PyData} (r : Res m K O cup H v d) : Da K H v d := by
  rcases r with r | ⟨e, a, vs, xs, h1, h2, h3, h4, h5, h6⟩
  · exact dp_mono hid_sub r
  · subst h1 h2
    exact .lst h5 (dps_mono hid_sub h6)
theorem Res.int {m : Bool} {K : PySem.W.Frag} {O : Addr → Prop} {cup : Option Addr} {H : Hp} {v : V} {i : Int} (r : Res m K O cup H v (.int i)) : v = .int i := by
  rcases r with r | ⟨e, a, vs, xs, h1, h2, h3⟩
  · cases r; rfl
  · cases h2
theorem Res.bool {m : Bool} {K : PySem.W.Frag} {O : Addr → Prop} {cup : Option Addr} {H : Hp} {v : V} {i : Bool} (r : Res m K O cup H v (.bool i)) : v = .bl i := by
  rcases r with r | ⟨e, a, vs, xs, h1, h2, h3⟩
  · cases r; rfl
  · cases h2
theorem Res.none {m : Bool} {K : PySem.W.Frag} {O : Addr → Prop} {cup : Option Addr} {H : Hp} {v : V} (r : Res m K O cup H v .none) : v = .non := by
  rcases r with r | ⟨e, a, vs, xs, h1, h2, h3⟩
  · cases r; rfl
  · cases h2
theorem Res.str {m : Bool} {K : PySem.W.Frag} {O : Addr → Prop} {cup : Option Addr} {H : Hp} {v : V} {i : Str} (r : Res m K O cup H v (.str i)) : v = .str i := by
  rcases r with r | ⟨e, a, vs, xs, h1, h2, h3⟩
  · cases r; rfl
  · cases h2
/-- a list's place and its items, these kept -/
theorem Res.list {m : Bool} {K : PySem.W.Frag} {O : Addr → Prop} {cup : Option Addr} {H : Hp} {v : V} {ds : List PyData} (r : Res m K O cup H v (.list ds)) : ∃ a vs, v = .ref a ∧ H a = some (.lst vs) ∧ DaAll K (hid H O) vs ds := by
  rcases r with r | ⟨e, a, vs, xs, h1, h2, h3, h4, h5, h6⟩
  · cases r with
    | lst hs ha => exact ⟨_, _, rfl, hid_sub _ _ hs, ha⟩
  · cases h2
    exact ⟨a, vs, h1, h5, h6⟩
theorem Res.tup {m : Bool} {K : PySem.W.Frag} {O : Addr → Prop} {cup : Option Addr} {H : Hp} {v : V} {ds : List PyData} (r : Res m K O cup H v (.tuple ds)) : ∃ a vs, v = .ref a ∧ SqT K H a vs ∧ DaAll K (hid H O) vs ds := by
  rcases r with r | ⟨e, a, vs, xs, h1, h2, h3, h4, h5, h6⟩
  · cases r with
    | tup hs ha => exact ⟨_, _, rfl, seqT hid_sub hs, ha⟩
  · cases h2
/-- new objects are not hidden -/
theorem new_free {O : Addr → Prop} {H : Hp} (hd : ∀ a, O a → H a ≠ none) {p : Addr} (h : H p = none) : ¬ O p := fun z => hd p z h
theorem hid_new {O : Addr → Prop} {H : Hp} (hd : ∀ a, O a → H a ≠ none) {p : Addr} {o : HO} (h : H p = none) : hid (upd H p o) O p = some o := hid_of (new_free hd h) upd_same
theorem hid_upd {O : Addr → Prop} {H : Hp} {p : Addr} {o : HO} (h : H p = none) : Same (hid H O) (hid (upd H p o) O) := fun b u e => by
  obtain ⟨n, e⟩ := of_hid e
  exact hid_of n (same_upd h _ _ e)
theorem new_list {K : PySem.W.Frag} {O : Addr → Prop} {H : Hp} (hd : ∀ a, O a → H a ≠ none) {p : Addr} (h : H p = none) {vs : List V} {ds : List PyData} (hv : DaAll K (hid H O) vs ds) : Da K (hid (upd H p (.lst vs)) O) (.ref p) (.list ds) :=
  .lst (hid_new hd h) (dps_mono (hid_upd h) hv)
theorem new_tup {K : PySem.W.Frag} {O : Addr → Prop} {H : Hp} (hd : ∀ a, O a → H a ≠ none) {p : Addr} (h : H p = none) {vs : List V} {ds : List PyData} (hv : DaAll K (hid H O) vs ds) : Da K (hid (upd H p (.tup vs)) O) (.ref p) (.tuple ds) :=
  .tup (.inl (.inl (hid_new hd h))) (dps_mono (hid_upd h) hv)

/-! ### judgements -/
abbrev EF := Rho → Cu → Option (PyData × Cu)
abbrev BF := Rho → Cu → Option (Bool × Cu)
abbrev AF := Rho → Cu → Option (List PyData × Cu)
def SatE (K : PySem.W.Frag) (m : Bool) (t : TE) (f : EF) : Prop := ∀ (cup : Option Addr) (O : Addr → Prop) (σ : L2.St) (H : Hp) (ρ : Rho) (c : Cu) (d : PyData) (c' : Cu) (Q : VK), Rep K O cup H σ ρ c → f ρ c = some (d, c') →
  (∀ v H', SameC cup H H' → CupAt cup H' c' → Res m K O cup H' v d → Q v H') → t σ H Q
structure DE (X : Cx) (m : Bool) (e : Expr) (f : EF) : Prop where
  ex : ∃ t, PE X e t ∧ SatE X.K m t f
def SatB (K : PySem.W.Frag) (t : TT) (f : BF) : Prop := ∀ (cup : Option Addr) (O : Addr → Prop) (σ : L2.St) (H : Hp) (ρ : Rho) (c : Cu) (b : Bool) (c' : Cu) (Q : Bool → Hp → Prop), Rep K O cup H σ ρ c → f ρ c = some (b, c') →
  (∀ H', SameC cup H H' → CupAt cup H' c' → Q b H') → t σ H Q
structure DB (X : Cx) (e : Expr) (f : BF) : Prop where
  ex : ∃ t, PT X e t ∧ SatB X.K t f
/-- a BoolOp test, whatever its whole -/
structure DW (X : Cx) (e : Expr) (f : BF) : Prop where
  ex : ∃ t, PW X e t ∧ SatB X.K t f
def SatA (K : PySem.W.Frag) (m : Bool) (t : TA) (f : AF) : Prop := ∀ (cup : Option Addr) (O : Addr → Prop) (σ : L2.St) (H : Hp) (ρ : Rho) (c : Cu) (ds : List PyData) (c' : Cu) (Q : List V → Hp → Prop), Rep K O cup H σ ρ c → f ρ c = some (ds, c') →
  (∀ vs H', SameC cup H H' → CupAt cup H' c' → Paired (Res m K O cup H') vs ds → Q vs H') → t σ H Q
structure DA (X : Cx) (m : Bool) (es : List Expr) (f : AF) : Prop where
  ex : ∃ t, PA X es t ∧ SatA X.K m t f
  len : ∀ ρ c ds c', f ρ c = some (ds, c') → ds.length = es.length

section
variable {X : Cx} {m : Bool}
theorem DE.weak {e : Expr} {f : EF} (h : DE X true e f) : DE X m e f := by
  obtain ⟨t, p, s⟩ := h
  exact ⟨t, p, fun cup O σ H ρ c d c' Q R hf q => s cup O σ H ρ c d c' Q R hf fun v H' s1 c1 r => q v H' s1 c1 (.inl r.kept)⟩

/-! ### names, constants -/
def varE (i : Nat) : EF := fun ρ c => match ρ[i]? with
  | some (.d x) => some (x, c)
  | _ => none
def varT (i : Nat) : EF := fun ρ c => match ρ[i]? with
  | some (.d x) => some (x, c)
  | some (.own (.lst xs)) => some (.list xs, c)
  | _ => none
def cE (x : PyData) : EF := fun _ c => some (x, c)
theorem de_var (i : Nat) {x : Str} {pos : Pos} (hN : X.N[i]? = some x := by rfl) (hv : Vis X.env.scope x := by first | exact Or.inl rfl | exact Or.inr (Or.inl rfl) | exact Or.inr (Or.inr rfl)) (hd : (x == ("__debug__" : Str)) = false := by decide)
    (hcd : (x == ("__classdict__" : Str)) = false := by decide) : DE X true (.Name x pos) (varE i) := by
  refine ⟨_, pe_var hN hv hd hcd, fun cup O σ H ρ c d c' Q R hf q => ?_⟩
  unfold varE at hf
  split at hf
  · rename_i x e
    cases hf
    obtain ⟨v, h1, h2⟩ := R.dat i _ e
    exact ⟨v, h1, q v H (.refl H) R.cupA (.inl h2)⟩
  · cases hf
theorem de_varT (i : Nat) {x : Str} {pos : Pos} (hN : X.N[i]? = some x := by rfl) (hv : Vis X.env.scope x := by first | exact Or.inl rfl | exact Or.inr (Or.inl rfl) | exact Or.inr (Or.inr rfl)) (hd : (x == ("__debug__" : Str)) = false := by decide)
    (hcd : (x == ("__classdict__" : Str)) = false := by decide) : DE X false (.Name x pos) (varT i) := by
  refine ⟨_, pe_var hN hv hd hcd, fun cup O σ H ρ c d c' Q R hf q => ?_⟩
  unfold varT at hf
  split at hf
  · rename_i x e
    cases hf
    obtain ⟨v, h1, h2⟩ := R.dat i _ e
    exact ⟨v, h1, q v H (.refl H) R.cupA (.inl h2)⟩
  · rename_i xs e
    cases hf
    obtain ⟨a, o, h1, h2, h3, h4, h5⟩ := R.own i _ e
    cases o <;> first | exact h5.elim | skip
    exact ⟨_, h1, q _ H (.refl H) R.cupA (.inr ⟨rfl, a, _, xs, rfl, rfl, h2, h3, h4, h5⟩)⟩
  · cases hf
theorem de_const {e : Expr} {v : V} {d : PyData} (p : PE X e (tC v)) (hv : ∀ G, Da X.K G v d) : DE X true e (cE d) :=
  ⟨_, p, fun cup O σ H ρ c d' c' Q R hf q => by cases hf; exact q v H (.refl H) R.cupA (.inl (hv _))⟩
theorem de_int {i j pos} : DE X true (.Constant (.int i) j pos) (cE (.int i)) := de_const pe_int fun _ => .int i
theorem de_bl {b j pos} : DE X true (.Constant (.bool b) j pos) (cE (.bool b)) := de_const pe_bl fun _ => .bl b
theorem de_non {j pos} : DE X true (.Constant .none j pos) (cE .none) := de_const pe_non fun _ => .non
theorem de_str {x j pos} : DE X true (.Constant (.str x) j pos) (cE (.str x)) := de_const pe_str fun _ => .str x
/-- a module's constant -/
theorem de_glob {x : Str} {i : Int} {t : Tok} {pos : Pos} (hm : X.mg x = some (.int i t)) (hg : Gl X x := by rfl) (hd : (x == ("__debug__" : Str)) = false := by decide) : DE X true (.Name x pos) (cE (.int i)) :=
  de_const (v := .int i) (pe_glob hg hm ⟨t, rfl⟩ hd) fun _ => .int i

/-! ### arguments -/
def nilA : AF := fun _ c => some ([], c)
def consA (f : EF) (g : AF) : AF := fun ρ c => match f ρ c with
  | none => none
  | some (d, c1) => match g ρ c1 with
    | none => none
    | some (ds, c2) => some (d :: ds, c2)
theorem da_nil : DA X m [] nilA := ⟨⟨_, pa_nil, fun cup O σ H ρ c ds c' Q R hf q => by cases hf; exact q [] H (.refl H) R.cupA .nil⟩, fun ρ c ds c' h => by cases h; rfl⟩
theorem da_cons {e : Expr} {es : List Expr} {f : EF} {g : AF} (he : DE X m e f) (hr : DA X m es g) (hs : starEach (e :: es) X.env = (false, eval e X.env) :: starEach es X.env := by rfl) : DA X m (e :: es) (consA f g) := by
  obtain ⟨t, p, s⟩ := he
  obtain ⟨⟨u, pa, sa⟩, hlen⟩ := hr
  refine ⟨⟨_, pa_cons p pa hs, fun cup O σ H ρ c ds c' Q R hf q => ?_⟩, fun ρ c ds c' hf => ?_⟩
  rotate_left
  · unfold consA at hf
    split at hf
    · cases hf
    · split at hf
      · cases hf
      · rename_i e2
        cases hf
        rw [List.length_cons, List.length_cons, hlen _ _ _ _ e2]
  unfold consA at hf
  split at hf
  · cases hf
  · rename_i d c1 e1
    split at hf
    · cases hf
    · rename_i ds' c2 e2
      cases hf
      refine s cup O σ H ρ c d c1 _ R e1 fun v H1 s1 k1 r1 => ?_
      have R1 := R.step s1 k1
      refine sa cup O σ H1 ρ c1 ds' _ _ R1 e2 fun vs H2 s2 k2 r2 => ?_
      exact q _ H2 (s1.trans s2) k2 (.cons (r1.step s2 R.cupO) r2)
theorem all_of {K : PySem.W.Frag} {O : Addr → Prop} {H : Hp} : ∀ {vs : List V} {ds : List PyData}, Paired (Res true K O cup H) vs ds → DaAll K (hid H O) vs ds
  | _, _, .nil => .nil
  | _, _, .cons a b => .cons a.kept (all_of b)

/-! ### displays -/
def tupE (f : AF) : EF := fun ρ c => match f ρ c with
  | none => none
  | some (ds, c1) => if ds.length ≤ sizeLine then some (.tuple ds, c1) else none
def lstE (f : AF) : EF := fun ρ c => match f ρ c with
  | none => none
  | some (ds, c1) => if ds.length ≤ sizeLine then some (.list ds, c1) else none
theorem paired_len {α β : Type} {r : α → β → Prop} : ∀ {xs : List α} {ys : List β}, Paired r xs ys → xs.length = ys.length := fun h => Paired.length h
theorem dpall_len {K : PySem.W.Frag} {G : Hp} : ∀ {vs : List V} {ds : List PyData}, DaAll K G vs ds → vs.length = ds.length
  | _, _, .nil => rfl
  | _, _, .cons _ b => by rw [List.length_cons, List.length_cons, dpall_len b]
theorem de_tup {es : List Expr} {f : AF} {x1 pos} (h : DA X true es f) : DE X true (.Tuple es x1 pos) (tupE f) := by
  obtain ⟨⟨t, p, s⟩, _⟩ := h
  refine ⟨_, pe_tup p, fun cup O σ H ρ c d c' Q R hf q => ?_⟩
  unfold tupE at hf
  split at hf
  · cases hf
  · rename_i ds c1 e1
    split at hf
    · rename_i hl
      cases hf
      refine s cup O σ H ρ c ds _ _ R e1 fun vs H1 s1 k1 r1 => ?_
      have R1 := R.step s1 k1
      refine ⟨by rw [paired_len r1]; exact hl, fun p hp => ?_⟩
      exact q _ _ (s1.trans (Same.toC (same_upd hp))) (k1.same (same_upd hp)) (.inl (new_tup R1.dom hp (all_of r1)))
    · cases hf
theorem de_lst {es : List Expr} {f : AF} {pos : Pos} (h : DA X true es f) : DE X true (.List es pos) (lstE f) := by
  obtain ⟨⟨t, p, s⟩, _⟩ := h
  refine ⟨_, pe_lst p, fun cup O σ H ρ c d c' Q R hf q => ?_⟩
  unfold lstE at hf
  split at hf
  · cases hf
  · rename_i ds c1 e1
    split at hf
    · rename_i hl
      cases hf
      refine s cup O σ H ρ c ds _ _ R e1 fun vs H1 s1 k1 r1 => ?_
      have R1 := R.step s1 k1
      refine ⟨by rw [paired_len r1]; exact hl, fun p hp => ?_⟩
      exact q _ _ (s1.trans (Same.toC (same_upd hp))) (k1.same (same_upd hp)) (.inl (new_list R1.dom hp (all_of r1)))
    · cases hf
end
end PL

set_option Elab.async false
set_option linter.all false
set_option maxRecDepth 100000
namespace PL
open PySem PySem.Spec PyProof.Rows L2

/-! ### from Da to the library's Dp -/
mutual
theorem da_dp {K : PySem.W.Frag} {G : Hp} : ∀ {v : V} {d : PyData}, Da K G v d → d.canLay0 = true → Dp K G v d
  | _, _, .non, _ => .non
  | _, _, .bl b, _ => .bl b
  | _, _, .int i, _ => .int i
  | _, _, .str x, _ => .str x
  | _, _, .lst hs ha, h => .lst (.inl (.inl hs)) (das_dp ha (by simpa [PyData.canLay0] using h))
  | _, _, .tup hs ha, h => .tup hs (das_dp ha (by simpa [PyData.canLay0] using h))
  | _, _, .dK hs ha, h => by simp [PyData.canLay0] at h
  | _, _, .dT hs ha, h => by simp [PyData.canLay0] at h
theorem das_dp {K : PySem.W.Frag} {G : Hp} : ∀ {vs : List V} {ds : List PyData}, DaAll K G vs ds → PyData.canLayAll0 ds = true → DpAll K G vs ds
  | _, _, .nil, _ => .nil
  | _, _, .cons h1 h2, h => by
    simp only [PyData.canLayAll0, Bool.and_eq_true] at h
    exact .cons (da_dp h1 h.1) (das_dp h2 h.2)
end
theorem Res.dp {m : Bool} {K : PySem.W.Frag} {O : Addr → Prop} {cup : Option Addr} {H : Hp} {v : V} {d : PyData} (r : Res m K O cup H v d) (h : SeqAt.shaped d = true) : Dp K H v d := da_dp r.any (SeqAt.canLay_of_shaped h)
theorem da_get {K : PySem.W.Frag} {G : Hp} : ∀ {vs : List V} {ds : List PyData} {j : Nat} {d : PyData}, DaAll K G vs ds → ds[j]? = some d → ∃ v, vs[j]? = some v ∧ Da K G v d
  | _, _, _, _, .nil, e => by simp at e
  | _, _, 0, _, .cons h _, e => by simp at e; subst e; exact ⟨_, rfl, h⟩
  | _, _, j + 1, d, .cons _ t, e => by
    obtain ⟨v, h1, h2⟩ := da_get (j := j) t (by simpa using e)
    exact ⟨v, by simpa using h1, h2⟩
theorem da_append {K : PySem.W.Frag} {G : Hp} : ∀ {vs ws : List V} {ds es : List PyData}, DaAll K G vs ds → DaAll K G ws es → DaAll K G (vs ++ ws) (ds ++ es)
  | _, _, _, _, .nil, h => h
  | _, _, _, _, .cons h t, h2 => .cons h (da_append t h2)
theorem da_drop {K : PySem.W.Frag} {G : Hp} : ∀ (n : Nat) {vs : List V} {ds : List PyData}, DaAll K G vs ds → DaAll K G (vs.drop n) (ds.drop n)
  | 0, _, _, h => h
  | _ + 1, _, _, .nil => .nil
  | n + 1, _, _, .cons _ t => da_drop n t
theorem da_take {K : PySem.W.Frag} {G : Hp} : ∀ (n : Nat) {vs : List V} {ds : List PyData}, DaAll K G vs ds → DaAll K G (vs.take n) (ds.take n)
  | 0, _, _, _ => .nil
  | _ + 1, _, _, .nil => .nil
  | n + 1, _, _, .cons h t => .cons h (da_take n t)
theorem da_set {K : PySem.W.Frag} {G : Hp} {v : V} {d : PyData} (h : Da K G v d) : ∀ (n : Nat) {vs : List V} {ds : List PyData}, DaAll K G vs ds → DaAll K G (vs.set n v) (ds.set n d)
  | _, _, _, .nil => .nil
  | 0, _, _, .cons _ t => .cons h t
  | n + 1, _, _, .cons a t => .cons a (da_set h n t)
theorem da_rep {K : PySem.W.Frag} {G : Hp} {vs : List V} {ds : List PyData} (h : DaAll K G vs ds) : ∀ n : Nat, DaAll K G (List.replicate n vs).flatten (List.replicate n ds).flatten
  | 0 => .nil
  | n + 1 => by
    rw [List.replicate_succ, List.replicate_succ, List.flatten_cons, List.flatten_cons]
    exact da_append h (da_rep h n)
theorem da_nil_iff {K : PySem.W.Frag} {G : Hp} {vs : List V} {ds : List PyData} (h : DaAll K G vs ds) : vs = [] ↔ ds = [] := by
  cases h <;> simp
/-- the ints of data that are all ints -/
def intsOf : List PyData → Option (List Int)
  | [] => some []
  | .int i :: r => match intsOf r with
    | some ns => some (i :: ns)
    | none => none
  | _ :: _ => none
theorem da_ints {K : PySem.W.Frag} {G : Hp} : ∀ {vs : List V} {ds : List PyData} {ns : List Int}, DaAll K G vs ds → intsOf ds = some ns → vs = ns.map V.int
  | _, _, _, .nil, e => by
    cases e
    rfl
  | _, _, ns, .cons (d := d) h t, e => by
    cases d with
    | int i =>
      unfold intsOf at e
      split at e
      · rename_i ms e2
        cases e
        cases h
        rw [da_ints t e2]
        rfl
      · cases e
    | _ => simp [intsOf] at e
@[simp] theorem intsOf_map (ns : List Int) : intsOf (ns.map PyData.int) = some ns := by
  induction ns with
  | nil => rfl
  | cons a r ih => simp [intsOf, ih]
def blsOf : List PyData → Option (List Bool)
  | [] => some []
  | .bool i :: r => match blsOf r with
    | some ns => some (i :: ns)
    | none => none
  | _ :: _ => none
theorem da_bls {K : PySem.W.Frag} {G : Hp} : ∀ {vs : List V} {ds : List PyData} {ns : List Bool}, DaAll K G vs ds → blsOf ds = some ns → vs = ns.map V.bl
  | _, _, _, .nil, e => by
    cases e
    rfl
  | _, _, ns, .cons (d := d) h t, e => by
    cases d with
    | bool i =>
      unfold blsOf at e
      split at e
      · rename_i ms e2
        cases e
        cases h
        rw [da_bls t e2]
        rfl
      · cases e
    | _ => simp [blsOf] at e
@[simp] theorem blsOf_map (ns : List Bool) : blsOf (ns.map PyData.bool) = some ns := by
  induction ns with
  | nil => rfl
  | cons a r ih => simp [blsOf, ih]

/-! ### operators by values -/
def OpD (X : Cx) (m1 m2 : Bool) (r : R2) (g : PyData → PyData → Option PyData) : Prop :=
  ∀ (cup : Option Addr) (O : Addr → Prop) (H : Hp) (x y : V) (d e z : PyData) (Q : VK), (∀ a, O a → H a ≠ none) → Res m1 X.K O cup H x d → Res m2 X.K O cup H y e → g d e = some z →
    (∀ v H', Same H H' → Da X.K (hid H' O) v z → Q v H') → r x y H Q

def opE (g : PyData → PyData → Option PyData) (f1 f2 : EF) : EF := fun ρ c => match f1 ρ c with
  | none => none
  | some (a, c1) => match f2 ρ c1 with
    | none => none
    | some (b, c2) => match g a b with
      | none => none
      | some r => some (r, c2)
theorem opE_inv {g : PyData → PyData → Option PyData} {f1 f2 : EF} {ρ : Rho} {c c' : Cu} {z : PyData} (h : opE g f1 f2 ρ c = some (z, c')) : ∃ a c1 b, f1 ρ c = some (a, c1) ∧ f2 ρ c1 = some (b, c') ∧ g a b = some z := by
  unfold opE at h
  split at h
  · cases h
  · rename_i a c1 e1
    split at h
    · cases h
    · rename_i b c2 e2
      split at h
      · cases h
      · rename_i r e3
        cases h
        exact ⟨a, c1, b, e1, e2, e3⟩
@[simp] theorem opE_ok {g : PyData → PyData → Option PyData} {f1 f2 : EF} {ρ : Rho} {c c1 c2 : Cu} {a b : PyData} (h1 : f1 ρ c = some (a, c1)) (h2 : f2 ρ c1 = some (b, c2)) : opE g f1 f2 ρ c = (g a b).map (·, c2) := by
  unfold opE
  rw [h1]
  dsimp only
  rw [h2]
  dsimp only
  cases g a b <;> rfl
section
variable {X : Cx} {m m1 m2 : Bool} {a b : Expr} {f1 f2 f3 : EF} {pos : Pos}
theorem sat_op {r : R2} {g : PyData → PyData → Option PyData} {t1 t2 : TE} (hg : OpD X m1 m2 r g) (s1 : SatE X.K m1 t1 f1) (s2 : SatE X.K m2 t2 f2) : SatE X.K true (tOp r t1 t2) (opE g f1 f2) := by
  intro cup O σ H ρ c d c' Q R hf q
  obtain ⟨a, c1, b, e1, e2, e3⟩ := opE_inv hf
  refine s1 cup O σ H ρ c a c1 _ R e1 fun v H1 h1 k1 r1 => ?_
  have R1 := R.step h1 k1
  refine s2 cup O σ H1 ρ c1 b _ _ R1 e2 fun w H2 h2 k2 r2 => ?_
  have R2 := R1.step h2 k2
  refine hg cup O H2 v w a b d Q R2.dom (r1.step h2 R.cupO) r2 e3 fun z H3 h3 hz => ?_
  exact q z H3 ((h1.trans h2).trans (Same.toC h3)) (k2.same h3) (.inl hz)
theorem de_op {op : Operator} {r : R2} {g : PyData → PyData → Option PyData} (ho : OpR X (binaryOp op) r) (hg : OpD X m1 m2 r g) (ha : DE X m1 a f1) (hb : DE X m2 b f2) : DE X true (.BinOp a op b pos) (opE g f1 f2) := by
  obtain ⟨t1, p1, s1⟩ := ha
  obtain ⟨t2, p2, s2⟩ := hb
  exact ⟨_, pe_op ho p1 p2, sat_op hg s1 s2⟩
theorem de_cmp {op : CmpOp} {r : R2} {g : PyData → PyData → Option PyData} (ho : OpR X (compareOp op) r) (hg : OpD X m1 m2 r g) (ha : DE X m1 a f1) (hb : DE X m2 b f2) (hm : behindInMarks op b = false) : DE X true (.Compare a [op] [b] pos) (opE g f1 f2) := by
  obtain ⟨t1, p1, s1⟩ := ha
  obtain ⟨t2, p2, s2⟩ := hb
  exact ⟨_, pe_cmpR ho p1 p2 hm, sat_op hg s1 s2⟩
theorem de_ix {r : R2} {g : PyData → PyData → Option PyData} (hr : IxR X r) (hg : OpD X m1 m2 r g) (ha : DE X m1 a f1) (hb : DE X m2 b f2) (hs : PlainIx b) : DE X true (.Subscript a b pos) (opE g f1 f2) := by
  obtain ⟨t1, p1, s1⟩ := ha
  obtain ⟨t2, p2, s2⟩ := hb
  exact ⟨_, pe_ix hr p1 p2 hs, sat_op hg s1 s2⟩
/-- a < b < c -/
def chE (g g' : PyData → PyData → Option PyData) (f1 f2 f3 : EF) : EF := fun ρ c => match f1 ρ c with
  | none => none
  | some (a, c1) => match f2 ρ c1 with
    | none => none
    | some (b, c2) => match g a b with
      | some (.bool true) => (match f3 ρ c2 with
        | none => none
        | some (d, c3) => match g' b d with
          | none => none
          | some r => some (r, c3))
      | some (.bool false) => some (.bool false, c2)
      | _ => none
theorem sat_chain {r r' : R2} {g g' : PyData → PyData → Option PyData} {t1 t2 t3 : TE} (hg : OpD X true true r g) (hg' : OpD X true true r' g') (s1 : SatE X.K true t1 f1) (s2 : SatE X.K true t2 f2) (s3 : SatE X.K true t3 f3) :
    SatE X.K true (tChain r r' t1 t2 t3) (chE g g' f1 f2 f3) := by
  intro cup O σ H ρ c d c' Q R hf q
  unfold chE at hf
  split at hf
  · cases hf
  rename_i a c1 e1
  split at hf
  · cases hf
  rename_i b c2 e2
  refine s1 cup O σ H ρ c a c1 _ R e1 fun v H1 h1 k1 r1 => ?_
  have R1 := R.step h1 k1
  refine s2 cup O σ H1 ρ c1 b c2 _ R1 e2 fun w H2 h2 k2 r2 => ?_
  have R2 := R1.step h2 k2
  split at hf
  · rename_i e3
    refine hg cup O H2 v w a b _ _ R2.dom (r1.step h2 R.cupO) r2 e3 fun z H3 h3 hz => ?_
    cases hz
    refine ⟨true, rfl, ?_⟩
    rw [if_pos rfl]
    have R3 := R2.step (Same.toC h3) (k2.same h3)
    split at hf
    · cases hf
    · rename_i dd c3 e4
      split at hf
      · cases hf
      · rename_i r e5
        cases hf
        refine s3 cup O σ H3 ρ c2 dd _ _ R3 e4 fun x H4 h4 k4 r4 => ?_
        have R4 := R3.step h4 k4
        refine hg' cup O H4 w x b dd _ _ R4.dom ((r2.step (Same.toC h3) R.cupO).step h4 R.cupO) r4 e5 fun z H5 h5 hz => ?_
        exact q z H5 ((((h1.trans h2).trans (Same.toC h3)).trans h4).trans (Same.toC h5)) (k4.same h5) (.inl hz)
  · rename_i e3
    cases hf
    refine hg cup O H2 v w a b _ _ R2.dom (r1.step h2 R.cupO) r2 e3 fun z H3 h3 hz => ?_
    cases hz
    refine ⟨false, rfl, ?_⟩
    rw [if_neg Bool.false_ne_true]
    exact q _ H3 ((h1.trans h2).trans (Same.toC h3)) (k2.same h3) (.inl (.bl false))
  · cases hf

theorem de_chain {cc : Expr} {op op' : CmpOp} {r r' : R2} {g g' : PyData → PyData → Option PyData} (ho : OpR X (compareOp op) r) (hg : OpD X true true r g) (ho' : OpR X (compareOp op') r') (hg' : OpD X true true r' g')
    (ha : DE X true a f1) (hb : DE X true b f2) (hc : DE X true cc f3) (hm : lastMarks [op, op'] [b, cc] = false := by with_unfolding_all rfl) : DE X true (.Compare a [op, op'] [b, cc] pos) (chE g g' f1 f2 f3) := by
  obtain ⟨t1, p1, s1⟩ := ha
  obtain ⟨t2, p2, s2⟩ := hb
  obtain ⟨t3, p3, s3⟩ := hc
  exact ⟨_, pe_chain ho ho' p1 p2 p3 hm, sat_chain hg hg' s1 s2 s3⟩

/-! ### the operators -/
def addD : PyData → PyData → Option PyData
  | .int i, .int j => some (.int (i + j))
  | .list a, .list b => if a.length + b.length ≤ sizeLine then some (.list (a ++ b)) else none
  | .tuple a, .tuple b => if a.length + b.length ≤ sizeLine then some (.tuple (a ++ b)) else none
  | .str a, .str b => if a.length + b.length ≤ sizeLine then some (.str (a ++ b)) else none
  | _, _ => none
theorem or_add : OpR X (binaryOp .Add) (fun x y H Q => (rI0 (fun i j => .int (i + j)) x y H Q ∨ (rCat x y H Q ∨ (rCatA X.K x y H Q ∨ ∃ i j, x = .str i ∧ y = .str j ∧ i.length + j.length ≤ sizeLine ∧ Q (.str (i ++ j)) H)))) := op_add.or (op_cat.or (op_catA.or op_add_str))
theorem od_add : OpD X m1 m2 (fun x y H Q => (rI0 (fun i j => .int (i + j)) x y H Q ∨ (rCat x y H Q ∨ (rCatA X.K x y H Q ∨ ∃ i j, x = .str i ∧ y = .str j ∧ i.length + j.length ≤ sizeLine ∧ Q (.str (i ++ j)) H)))) addD := by
  intro cup O H x y d e z Q dom rx ry hg q
  unfold addD at hg
  split at hg
  · cases hg
    cases rx.int
    cases ry.int
    exact .inl ⟨_, _, rfl, rfl, q _ H (.refl H) (.int _)⟩
  · split at hg
    · rename_i hl
      cases hg
      obtain ⟨p, vs, rfl, h1, a1⟩ := rx.list
      obtain ⟨p2, vs2, rfl, h2, a2⟩ := ry.list
      refine .inr (.inl ⟨p, p2, vs, vs2, rfl, rfl, h1, h2, by rw [dpall_len a1, dpall_len a2]; exact hl, fun t ht => ?_⟩)
      exact q _ _ (same_upd ht) (new_list dom ht (da_append a1 a2))
    · cases hg
  · split at hg
    · rename_i hl
      cases hg
      obtain ⟨p, vs, rfl, h1, a1⟩ := rx.tup
      obtain ⟨p2, vs2, rfl, h2, a2⟩ := ry.tup
      refine .inr (.inr (.inl ⟨p, p2, vs, vs2, rfl, rfl, h1, h2, by rw [dpall_len a1, dpall_len a2]; exact hl, fun e => ?_, fun n e => ?_, fun n n2 t ht => ?_⟩))
      · have := (da_nil_iff a1).mp e
        subst this
        rcases ry with ry | ⟨_, _, _, _, _, ez, _⟩
        · exact q _ _ (.refl H) ry
        · cases ez
      · have := (da_nil_iff a2).mp e
        subst this
        rw [List.append_nil] at q
        rcases rx with rx | ⟨_, _, _, _, _, ez, _⟩
        · exact q _ _ (.refl H) rx
        · cases ez
      · exact q _ _ (same_upd ht) (new_tup dom ht (da_append a1 a2))
    · cases hg
  · split at hg
    · rename_i hl
      cases hg
      cases rx.str
      cases ry.str
      exact .inr (.inr (.inr ⟨_, _, rfl, rfl, hl, q _ H (.refl H) (.str _)⟩))
    · cases hg
  · cases hg
def subD : PyData → PyData → Option PyData
  | .int i, .int j => some (.int (i - j))
  | _, _ => none
/-- an operator of two ints -/
theorem od_I {C : Int → Int → Prop} {g : Int → Int → Int} {G : PyData → PyData → Option PyData} (h : ∀ d e z, G d e = some z → ∃ i j, d = .int i ∧ e = .int j ∧ C i j ∧ z = .int (g i j)) : OpD X m1 m2 (rI C fun i j => .int (g i j)) G := by
  intro cup O H x y d e z Q dom rx ry hg q
  obtain ⟨i, j, rfl, rfl, hc, rfl⟩ := h _ _ _ hg
  cases rx.int
  cases ry.int
  exact ⟨_, _, rfl, rfl, hc, q _ H (.refl H) (.int _)⟩
theorem od_I0 {g : Int → Int → Int} {G : PyData → PyData → Option PyData} (h : ∀ d e z, G d e = some z → ∃ i j, d = .int i ∧ e = .int j ∧ z = .int (g i j)) : OpD X m1 m2 (rI0 fun i j => .int (g i j)) G := by
  intro cup O H x y d e z Q dom rx ry hg q
  obtain ⟨i, j, rfl, rfl, rfl⟩ := h _ _ _ hg
  cases rx.int
  cases ry.int
  exact ⟨_, _, rfl, rfl, q _ H (.refl H) (.int _)⟩
theorem od_B0 {g : Int → Int → Bool} {G : PyData → PyData → Option PyData} (h : ∀ d e z, G d e = some z → ∃ i j, d = .int i ∧ e = .int j ∧ z = .bool (g i j)) : OpD X m1 m2 (rI0 fun i j => .bl (g i j)) G := by
  intro cup O H x y d e z Q dom rx ry hg q
  obtain ⟨i, j, rfl, rfl, rfl⟩ := h _ _ _ hg
  cases rx.int
  cases ry.int
  exact ⟨_, _, rfl, rfl, q _ H (.refl H) (.bl _)⟩
theorem od_sub : OpD X m1 m2 (rI0 fun i j => .int (i - j)) subD := od_I0 (g := fun i j => i - j) fun d e z h => by
  unfold subD at h
  split at h <;> cases h
  exact ⟨_, _, rfl, rfl, rfl⟩
def fdivD : PyData → PyData → Option PyData
  | .int i, .int j => if 0 < j ∧ j < 1073741824 then some (.int (i / j)) else none
  | _, _ => none
theorem od_fdiv : OpD X m1 m2 (rI CDiv fun i j => .int (i / j)) fdivD := od_I (g := fun i j => i / j) fun d e z h => by
  unfold fdivD at h
  split at h
  · split at h <;> cases h
    exact ⟨_, _, rfl, rfl, by assumption, rfl⟩
  · cases h
def modD : PyData → PyData → Option PyData
  | .int i, .int j => if 0 < j then some (.int (i % j)) else none
  | _, _ => none
theorem od_mod : OpD X m1 m2 (rI (fun _ j => 0 < j) fun i j => .int (i % j)) modD := od_I (g := fun i j => i % j) fun d e z h => by
  unfold modD at h
  split at h
  · split at h <;> cases h
    exact ⟨_, _, rfl, rfl, by assumption, rfl⟩
  · cases h
def powD : PyData → PyData → Option PyData
  | .int i, .int j => if 0 ≤ j ∧ j ≤ 1000000 ∧ i.natAbs < 2 ^ 64 then some (.int (i ^ j.toNat)) else none
  | _, _ => none
theorem od_pow : OpD X m1 m2 (rI CPow fun i j => .int (i ^ j.toNat)) powD := od_I (g := fun i j => i ^ j.toNat) fun d e z h => by
  unfold powD at h
  split at h
  · split at h <;> cases h
    exact ⟨_, _, rfl, rfl, by assumption, rfl⟩
  · cases h
def mulOk (i j : Int) : Bool := decide ((-(2 ^ 64) < i ∧ i < 2 ^ 64) ∨ (-(2 ^ 64) < j ∧ j < 2 ^ 64))
def mulD : PyData → PyData → Option PyData
  | .int i, .int j => if mulOk i j = true then some (.int (i * j)) else none
  | .list a, .int k => if -(2 ^ 63) ≤ k ∧ k < 2 ^ 63 ∧ a.length * k.toNat ≤ sizeLine then some (.list (List.replicate k.toNat a).flatten) else none
  | .tuple a, .int k => if a ≠ [] ∧ 2 ≤ k ∧ k ≤ 1000 ∧ a.length ≤ 1000 then some (.tuple (List.replicate k.toNat a).flatten) else none
  | _, _ => none
theorem or_mul : OpR X (binaryOp .Mult) (fun x y H Q => rI CMul (fun i j => .int (i * j)) x y H Q ∨ (rRep x y H Q ∨ rRepT X.K x y H Q)) := op_mul.or (op_rep.or op_repT)
theorem od_mul : OpD X m1 m2 (fun x y H Q => rI CMul (fun i j => .int (i * j)) x y H Q ∨ (rRep x y H Q ∨ rRepT X.K x y H Q)) mulD := by
  intro cup O H x y d e z Q dom rx ry hg q
  unfold mulD at hg
  split at hg
  · split at hg
    · rename_i hc
      cases hg
      cases rx.int
      cases ry.int
      exact .inl ⟨_, _, rfl, rfl, of_decide_eq_true (p := (_ ∨ _)) hc, q _ H (.refl H) (.int _)⟩
    · cases hg
  · split at hg
    · rename_i hc
      cases hg
      obtain ⟨p, vs, rfl, h1, a1⟩ := rx.list
      cases ry.int
      refine .inr (.inl ⟨p, _, vs, rfl, rfl, h1, hc.1, hc.2.1, by rw [dpall_len a1]; exact hc.2.2, fun t ht => ?_⟩)
      exact q _ _ (same_upd ht) (new_list dom ht (da_rep a1 _))
    · cases hg
  · split at hg
    · rename_i hc
      cases hg
      obtain ⟨p, vs, rfl, h1, a1⟩ := rx.tup
      cases ry.int
      refine .inr (.inr ⟨p, _, vs, rfl, rfl, h1, fun z => hc.1 ((da_nil_iff a1).mp z), hc.2.1, hc.2.2.1, by rw [dpall_len a1]; exact hc.2.2.2, fun t ht => ?_⟩)
      exact q _ _ (same_upd ht) (new_tup dom ht (da_rep a1 _))
    · cases hg
  · cases hg

/-! ### comparisons -/
def eqD (d e : PyData) : Option PyData := if SeqAt.shaped d = true ∧ SeqAt.shaped e = true then some (.bool (PyData.eqv d e)) else none
def neD (d e : PyData) : Option PyData := if SeqAt.shaped d = true ∧ SeqAt.shaped e = true then some (.bool (!PyData.eqv d e)) else none
theorem od_eq : OpD X m1 m2 (rEqD X.K) eqD := by
  intro cup O H x y d e z Q dom rx ry hg q
  unfold eqD at hg
  split at hg
  · rename_i hs
    cases hg
    exact ⟨d, e, rx.dp hs.1, ry.dp hs.2, hs.1, hs.2, q _ H (.refl H) (.bl _)⟩
  · cases hg
theorem od_ne : OpD X m1 m2 (rNeD X.K) neD := by
  intro cup O H x y d e z Q dom rx ry hg q
  unfold neD at hg
  split at hg
  · rename_i hs
    cases hg
    exact ⟨d, e, rx.dp hs.1, ry.dp hs.2, hs.1, hs.2, q _ H (.refl H) (.bl _)⟩
  · cases hg
def cmpD (g : Int → Int → Bool) : PyData → PyData → Option PyData
  | .int i, .int j => some (.bool (g i j))
  | _, _ => none
theorem od_cmp {g : Int → Int → Bool} : OpD X m1 m2 (rI0 fun i j => .bl (g i j)) (cmpD g) := od_B0 (g := g) fun d e z h => by
  unfold cmpD at h
  split at h <;> cases h
  exact ⟨_, _, rfl, rfl, rfl⟩
abbrev leD := cmpD fun i j => decide (i ≤ j)
abbrev gtD := cmpD fun i j => decide (j < i)
abbrev geD := cmpD fun i j => decide (j ≤ i)
def ltD : PyData → PyData → Option PyData
  | .int i, .int j => some (.bool (decide (i < j)))
  | .tuple a, .tuple b => match intsOf a, intsOf b with
    | some ns, some ms => some (.bool (HT.lexLt ns ms))
    | _, _ => none
  | _, _ => none
theorem or_lt (hu : X.A.units < cLine) : OpR X (compareOp .Lt) (fun x y H Q => rI0 (fun i j => .bl (decide (i < j))) x y H Q ∨ rLtT X.K x y H Q) := op_lt.or (op_ltT hu)
theorem od_lt : OpD X m1 m2 (fun x y H Q => rI0 (fun i j => .bl (decide (i < j))) x y H Q ∨ rLtT X.K x y H Q) ltD := by
  intro cup O H x y d e z Q dom rx ry hg q
  unfold ltD at hg
  split at hg
  · cases hg
    cases rx.int
    cases ry.int
    exact .inl ⟨_, _, rfl, rfl, q _ H (.refl H) (.bl _)⟩
  · split at hg
    · rename_i e1 e2
      cases hg
      obtain ⟨p, vs, rfl, h1, a1⟩ := rx.tup
      obtain ⟨p2, vs2, rfl, h2, a2⟩ := ry.tup
      rw [da_ints a1 e1] at h1
      rw [da_ints a2 e2] at h2
      exact .inr ⟨p, p2, _, _, rfl, rfl, h1, h2, q _ H (.refl H) (.bl _)⟩
    · cases hg
  · cases hg
def nonD : PyData → Bool
  | .none => true
  | _ => false
/-- x is None, x is True -/
def isD : PyData → PyData → Option PyData
  | d, .none => some (.bool (nonD d))
  | .bool a, .bool b => some (.bool (decide (a = b)))
  | _, _ => none
def isNotD : PyData → PyData → Option PyData
  | d, .none => some (.bool (!nonD d))
  | .bool a, .bool b => some (.bool (!decide (a = b)))
  | _, _ => none
theorem Res.isNon {cup : Option Addr} {K : PySem.W.Frag} {O : Addr → Prop} {H : Hp} {v : V} {d : PyData} (r : Res m K O cup H v d) : decide (v = .non) = nonD d := by
  rcases r with r | ⟨_, a, vs, xs, rfl, rfl, _⟩
  · cases r <;> rfl
  · rfl
theorem or_is : OpR X (compareOp .Is) (fun x y H Q => (y = .non ∧ Q (.bl (decide (x = .non))) H) ∨ rIsB x y H Q) := op_isN.or op_isBl
theorem or_isNot : OpR X (compareOp .IsNot) (fun x y H Q => (y = .non ∧ Q (.bl (!decide (x = .non))) H) ∨ rNotB x y H Q) := op_notN.or op_notBl
theorem od_is : OpD X m1 m2 (fun x y H Q => (y = .non ∧ Q (.bl (decide (x = .non))) H) ∨ rIsB x y H Q) isD := by
  intro cup O H x y d e z Q dom rx ry hg q
  unfold isD at hg
  split at hg
  · cases hg
    cases ry.none
    rw [rx.isNon]
    exact .inl ⟨rfl, q _ H (.refl H) (.bl _)⟩
  · cases hg
    cases rx.bool
    cases ry.bool
    exact .inr ⟨_, _, rfl, rfl, q _ H (.refl H) (.bl _)⟩
  · cases hg
theorem od_isNot : OpD X m1 m2 (fun x y H Q => (y = .non ∧ Q (.bl (!decide (x = .non))) H) ∨ rNotB x y H Q) isNotD := by
  intro cup O H x y d e z Q dom rx ry hg q
  unfold isNotD at hg
  split at hg
  · cases hg
    cases ry.none
    rw [rx.isNon]
    exact .inl ⟨rfl, q _ H (.refl H) (.bl _)⟩
  · cases hg
    cases rx.bool
    cases ry.bool
    exact .inr ⟨_, _, rfl, rfl, q _ H (.refl H) (.bl _)⟩
  · cases hg
/-! ### in -/
def flatD : PyData → Bool
  | .none => true
  | .bool _ => true
  | .int _ => true
  | .str _ => true
  | _ => false
theorem flat_eqv {K : PySem.W.Frag} {G G' : Hp} {v w : V} {d e : PyData} (h : Da K G v d) (h' : Da K G' w e) (f : flatD d = true) (f' : flatD e = true) : flatV v = true ∧ flatV w = true ∧ eqV v w = PyData.eqv d e := by
  cases h <;> first
    | (exact absurd f Bool.false_ne_true)
    | (cases h' <;> first
        | (exact absurd f' Bool.false_ne_true)
        | exact ⟨rfl, rfl, by simp [eqV, PyData.eqv]⟩)
theorem flat_any {K : PySem.W.Frag} {G G' : Hp} {x : V} {d : PyData} (hx : Da K G x d) (fx : flatD d = true) : ∀ {vs : List V} {ds : List PyData}, DaAll K G' vs ds → ds.all flatD = true → vs.all flatV = true ∧ inV x vs = ds.any fun z => PyData.eqv z d
  | _, _, .nil, _ => ⟨rfl, rfl⟩
  | _, _, .cons (v := v) (d := e) h t, f => by
    rw [List.all_cons, Bool.and_eq_true] at f
    obtain ⟨h1, h2, h3⟩ := flat_eqv h hx f.1 fx
    obtain ⟨i1, i2⟩ := flat_any hx fx t f.2
    refine ⟨by rw [List.all_cons, h1, i1]; rfl, ?_⟩
    rw [List.any_cons, ← i2, ← h3]
    rfl
theorem flat_flatV {K : PySem.W.Frag} {G : Hp} {x : V} {d : PyData} (hx : Da K G x d) (fx : flatD d = true) : flatV x = true := by
  cases hx <;> first | rfl | cases fx
def inD (neg : Bool) : PyData → PyData → Option PyData
  | x, .list ds => if SeqAt.shaped x = true ∧ SeqAt.shaped (.list ds) = true then some (.bool (neg ^^ ds.any fun z => PyData.eqv z x)) else none
  | x, .tuple ds => if flatD x = true ∧ ds.all flatD = true then some (.bool (neg ^^ ds.any fun z => PyData.eqv z x)) else none
  | _, _ => none
theorem or_in (hu : X.A.units + 65 < cLine) : OpR X (compareOp .In) (fun x y H Q => rInD X.K x y H Q ∨ rIn X.K false x y H Q) := (op_inD hu).or op_in_seq
theorem or_notIn (hu : X.A.units + 65 < cLine) : OpR X (compareOp .NotIn) (fun x y H Q => rNotInD X.K x y H Q ∨ rIn X.K true x y H Q) := (op_notInD hu).or op_notIn_seq
theorem od_in : OpD X m1 m2 (fun x y H Q => rInD X.K x y H Q ∨ rIn X.K false x y H Q) (inD false) := by
  intro cup O H x y d e z Q dom rx ry hg q
  unfold inD at hg
  split at hg
  · split at hg
    · rename_i hs
      cases hg
      rw [Bool.false_xor] at q
      exact .inl ⟨d, _, rx.dp hs.1, ry.dp hs.2, hs.1, hs.2, q _ H (.refl H) (.bl _)⟩
    · cases hg
  · split at hg
    · rename_i hs
      cases hg
      obtain ⟨p, vs, rfl, h1, a1⟩ := ry.tup
      obtain ⟨i1, i2⟩ := flat_any rx.any hs.1 a1 hs.2
      rw [Bool.false_xor, ← i2] at q
      exact .inr ⟨p, vs, rfl, .inr h1, flat_flatV rx.any hs.1, i1, q _ H (.refl H) (.bl _)⟩
    · cases hg
  · cases hg
theorem od_notIn : OpD X m1 m2 (fun x y H Q => rNotInD X.K x y H Q ∨ rIn X.K true x y H Q) (inD true) := by
  intro cup O H x y d e z Q dom rx ry hg q
  unfold inD at hg
  split at hg
  · split at hg
    · rename_i hs
      cases hg
      rw [Bool.true_xor] at q
      exact .inl ⟨d, _, rx.dp hs.1, ry.dp hs.2, hs.1, hs.2, q _ H (.refl H) (.bl _)⟩
    · cases hg
  · split at hg
    · rename_i hs
      cases hg
      obtain ⟨p, vs, rfl, h1, a1⟩ := ry.tup
      obtain ⟨i1, i2⟩ := flat_any rx.any hs.1 a1 hs.2
      rw [Bool.true_xor, ← i2] at q
      exact .inr ⟨p, vs, rfl, .inr h1, flat_flatV rx.any hs.1, i1, q _ H (.refl H) (.bl _)⟩
    · cases hg
  · cases hg
/-! ### items -/
def idxD : PyData → PyData → Option PyData
  | .list xs, .int i => atI xs i
  | .tuple xs, .int i => atI xs i
  | .str z, .int i => if z.length ≤ sizeLine then (match atI z.cps.toList i with
    | some c => some (.str ⟨#[c]⟩)
    | none => none) else none
  | _, _ => none
theorem da_at {K : PySem.W.Frag} {G : Hp} {vs : List V} {ds : List PyData} {i : Int} {d : PyData} (h : DaAll K G vs ds) (e : atI ds i = some d) : ∃ v, atI vs i = some v ∧ Da K G v d := by
  unfold atI at e ⊢
  rw [dpall_len h]
  cases q : ixN ds.length i with
  | none => rw [q] at e; cases e
  | some j =>
    rw [q] at e
    exact da_get h e
theorem od_ix : OpD X m1 m2 (rIx X.K) idxD := by
  intro cup O H x y d e z Q dom rx ry hg q
  unfold idxD at hg
  split at hg
  · obtain ⟨p, vs, rfl, h1, a1⟩ := rx.list
    cases ry.int
    obtain ⟨v, e1, h2⟩ := da_at a1 hg
    exact .inl ⟨p, vs, _, v, rfl, rfl, .of h1, e1, q _ H (.refl H) h2⟩
  · obtain ⟨p, vs, rfl, h1, a1⟩ := rx.tup
    cases ry.int
    obtain ⟨v, e1, h2⟩ := da_at a1 hg
    exact .inr (.inl ⟨p, vs, _, v, rfl, rfl, h1, e1, q _ H (.refl H) h2⟩)
  · split at hg
    · rename_i hl
      split at hg
      · rename_i c e1
        cases hg
        cases rx.str
        cases ry.int
        exact .inr (.inr ⟨_, _, c, rfl, rfl, hl, e1, q _ H (.refl H) (.str _)⟩)
      · cases hg
    · cases hg
  · cases hg
end
end PL

set_option Elab.async false
set_option linter.all false
set_option maxRecDepth 100000
namespace PL
open PySem PySem.Spec PyProof.Rows L2

/-! ### tests -/
def tstB (f : EF) : BF := fun ρ c => match f ρ c with
  | some (.bool b, c1) => some (b, c1)
  | _ => none
def notB (f : BF) : BF := fun ρ c => match f ρ c with
  | some (b, c1) => some (!b, c1)
  | none => none
def andB (f g : BF) : BF := fun ρ c => match f ρ c with
  | none => none
  | some (true, c1) => g ρ c1
  | some (false, c1) => some (false, c1)
def orB (f g : BF) : BF := fun ρ c => match f ρ c with
  | none => none
  | some (true, c1) => some (true, c1)
  | some (false, c1) => g ρ c1
def andE (f g : EF) : EF := fun ρ c => match f ρ c with
  | some (.bool true, c1) => g ρ c1
  | some (.bool false, c1) => some (.bool false, c1)
  | _ => none
def orE (f g : EF) : EF := fun ρ c => match f ρ c with
  | some (.bool false, c1) => g ρ c1
  | some (.bool true, c1) => some (.bool true, c1)
  | _ => none
def notE (f : EF) : EF := fun ρ c => match f ρ c with
  | some (.bool b, c1) => some (.bool (!b), c1)
  | _ => none
def ifE (t : BF) (f g : EF) : EF := fun ρ c => match t ρ c with
  | none => none
  | some (true, c1) => f ρ c1
  | some (false, c1) => g ρ c1
section
variable {X : Cx} {m : Bool} {a b : Expr} {f g : EF} {pos : Pos} {rest : List Expr}
theorem db_val {e : Expr} (h : DE X m e f) (he : ∀ whole, isTrue e X.env whole = (do let v ← whole; standAt e.pos; holding [v] (truthy v)) := by intro _; rfl) : DB X e (tstB f) := by
  obtain ⟨t, p, s⟩ := h
  refine ⟨_, pt_val p he, fun cup O σ H ρ c b c' Q R hf q => ?_⟩
  unfold tstB at hf
  split at hf
  · rename_i e1
    cases hf
    exact s cup O σ H ρ c _ _ _ R e1 fun v H1 h1 k1 r1 => ⟨_, r1.bool, q H1 h1 k1⟩
  · cases hf
theorem db_not {f : BF} (h : DB X a f) : DB X (.UnaryOp .Not a pos) (notB f) := by
  obtain ⟨t, p, s⟩ := h
  refine ⟨_, pt_not p, fun cup O σ H ρ c b c' Q R hf q => ?_⟩
  unfold notB at hf
  split at hf
  · rename_i e1
    cases hf
    exact s cup O σ H ρ c _ _ _ R e1 fun H1 h1 k1 => q H1 h1 k1
  · cases hf
theorem DW.db {e : Expr} {f : BF} (h : DW X e f) : DB X e f := by
  obtain ⟨t, p, s⟩ := h
  exact ⟨t, p.pt, s⟩
theorem dw_and1 {f : BF} (h : DB X a f) : DW X (.BoolOp .And [a] pos) f := by
  obtain ⟨t, p, s⟩ := h
  exact ⟨_, pw_and1 p, s⟩
theorem dw_or1 {f : BF} (h : DB X a f) : DW X (.BoolOp .Or [a] pos) f := by
  obtain ⟨t, p, s⟩ := h
  exact ⟨_, pw_or1 p, s⟩
theorem dw_and {f g : BF} (h : DB X a f) (h2 : DW X (.BoolOp .And (b :: rest) pos) g) : DW X (.BoolOp .And (a :: b :: rest) pos) (andB f g) := by
  obtain ⟨t, p, s⟩ := h
  obtain ⟨t2, p2, s2⟩ := h2
  refine ⟨_, pw_and p p2, fun cup O σ H ρ c b c' Q R hf q => ?_⟩
  unfold andB at hf
  split at hf
  · cases hf
  · rename_i c1 e1
    refine s cup O σ H ρ c _ _ _ R e1 fun H1 h1 k1 => ?_
    rw [if_pos rfl]
    exact s2 cup O σ H1 ρ c1 _ _ _ (R.step h1 k1) hf fun H2 h2 k2 => q H2 (h1.trans h2) k2
  · rename_i c1 e1
    cases hf
    refine s cup O σ H ρ c _ _ _ R e1 fun H1 h1 k1 => ?_
    rw [if_neg Bool.false_ne_true]
    exact q H1 h1 k1
theorem dw_or {f g : BF} (h : DB X a f) (h2 : DW X (.BoolOp .Or (b :: rest) pos) g) : DW X (.BoolOp .Or (a :: b :: rest) pos) (orB f g) := by
  obtain ⟨t, p, s⟩ := h
  obtain ⟨t2, p2, s2⟩ := h2
  refine ⟨_, pw_or p p2, fun cup O σ H ρ c b c' Q R hf q => ?_⟩
  unfold orB at hf
  split at hf
  · cases hf
  · rename_i c1 e1
    cases hf
    refine s cup O σ H ρ c _ _ _ R e1 fun H1 h1 k1 => ?_
    rw [if_pos rfl]
    exact q H1 h1 k1
  · rename_i c1 e1
    refine s cup O σ H ρ c _ _ _ R e1 fun H1 h1 k1 => ?_
    rw [if_neg Bool.false_ne_true]
    exact s2 cup O σ H1 ρ c1 _ _ _ (R.step h1 k1) hf fun H2 h2 k2 => q H2 (h1.trans h2) k2
/-! ### and, or, not, if as values -/
theorem de_one {op : BoolOp} (h : DE X m a f) : DE X m (.BoolOp op [a] pos) f := by
  obtain ⟨t, p, s⟩ := h
  exact ⟨_, pe_one p, s⟩
theorem de_and {m1 : Bool} (h : DE X m1 a f) (h2 : DE X m (.BoolOp .And (b :: rest) pos) g) : DE X m (.BoolOp .And (a :: b :: rest) pos) (andE f g) := by
  obtain ⟨t, p, s⟩ := h
  obtain ⟨t2, p2, s2⟩ := h2
  refine ⟨_, pe_and p p2, fun cup O σ H ρ c d c' Q R hf q => ?_⟩
  unfold andE at hf
  split at hf
  · rename_i c1 e1
    refine s cup O σ H ρ c _ _ _ R e1 fun v H1 h1 k1 r1 => ⟨true, r1.bool, ?_⟩
    rw [if_pos rfl]
    exact s2 cup O σ H1 ρ c1 _ _ _ (R.step h1 k1) hf fun v H2 h2 k2 r2 => q v H2 (h1.trans h2) k2 r2
  · rename_i c1 e1
    cases hf
    refine s cup O σ H ρ c _ _ _ R e1 fun v H1 h1 k1 r1 => ⟨false, r1.bool, ?_⟩
    rw [if_neg Bool.false_ne_true]
    exact q _ H1 h1 k1 (.inl (.bl false))
  · cases hf
theorem de_or {m1 : Bool} (h : DE X m1 a f) (h2 : DE X m (.BoolOp .Or (b :: rest) pos) g) : DE X m (.BoolOp .Or (a :: b :: rest) pos) (orE f g) := by
  obtain ⟨t, p, s⟩ := h
  obtain ⟨t2, p2, s2⟩ := h2
  refine ⟨_, pe_or p p2, fun cup O σ H ρ c d c' Q R hf q => ?_⟩
  unfold orE at hf
  split at hf
  · rename_i c1 e1
    refine s cup O σ H ρ c _ _ _ R e1 fun v H1 h1 k1 r1 => ⟨false, r1.bool, ?_⟩
    rw [if_neg Bool.false_ne_true]
    exact s2 cup O σ H1 ρ c1 _ _ _ (R.step h1 k1) hf fun v H2 h2 k2 r2 => q v H2 (h1.trans h2) k2 r2
  · rename_i c1 e1
    cases hf
    refine s cup O σ H ρ c _ _ _ R e1 fun v H1 h1 k1 r1 => ⟨true, r1.bool, ?_⟩
    rw [if_pos rfl]
    exact q _ H1 h1 k1 (.inl (.bl true))
  · cases hf
theorem de_not {m1 : Bool} (h : DE X m1 a f) : DE X true (.UnaryOp .Not a pos) (notE f) := by
  obtain ⟨t, p, s⟩ := h
  refine ⟨_, pe_not p, fun cup O σ H ρ c d c' Q R hf q => ?_⟩
  unfold notE at hf
  split at hf
  · rename_i b c1 e1
    cases hf
    exact s cup O σ H ρ c _ _ _ R e1 fun v H1 h1 k1 r1 => ⟨b, r1.bool, q _ H1 h1 k1 (.inl (.bl _))⟩
  · cases hf
theorem de_if {c : Expr} {t : BF} (hc : DB X c t) (ha : DE X m a f) (hb : DE X m b g) : DE X m (.IfExp c a b pos) (ifE t f g) := by
  obtain ⟨t0, p0, s0⟩ := hc
  obtain ⟨t1, p1, s1⟩ := ha
  obtain ⟨t2, p2, s2⟩ := hb
  refine ⟨_, pe_ifExp p0 p1 p2, fun cup O σ H ρ c d c' Q R hf q => ?_⟩
  unfold ifE at hf
  split at hf
  · cases hf
  · rename_i c1 e1
    refine s0 cup O σ H ρ c _ _ _ R e1 fun H1 h1 k1 => ?_
    rw [if_pos rfl]
    exact s1 cup O σ H1 ρ c1 _ _ _ (R.step h1 k1) hf fun v H2 h2 k2 r2 => q v H2 (h1.trans h2) k2 r2
  · rename_i c1 e1
    refine s0 cup O σ H ρ c _ _ _ R e1 fun H1 h1 k1 => ?_
    rw [if_neg Bool.false_ne_true]
    exact s2 cup O σ H1 ρ c1 _ _ _ (R.step h1 k1) hf fun v H2 h2 k2 r2 => q v H2 (h1.trans h2) k2 r2
/-- a test that is a bool, or and, or, not, if of such: by its own rule (db_val asks a plain form) -/
def negD : PyData → Option PyData
  | .int i => some (.int (-i))
  | _ => none
def unE (g : PyData → Option PyData) (f : EF) : EF := fun ρ c => match f ρ c with
  | some (d, c1) => (match g d with
    | some r => some (r, c1)
    | none => none)
  | none => none
theorem de_neg {m1 : Bool} (h : DE X m1 a f) : DE X true (.UnaryOp .USub a pos) (unE negD f) := by
  obtain ⟨t, p, s⟩ := h
  refine ⟨_, pe_un un_neg p, fun cup O σ H ρ c d c' Q R hf q => ?_⟩
  unfold unE at hf
  split at hf
  · rename_i dd c1 e1
    split at hf
    · rename_i r e2
      cases hf
      unfold negD at e2
      split at e2
      · cases e2
        exact s cup O σ H ρ c _ _ _ R e1 fun v H1 h1 k1 r1 => ⟨_, r1.int, q _ H1 h1 k1 (.inl (.int _))⟩
      · cases e2
    · cases hf
  · cases hf
end

/-! ### slices -/
abbrev OF := Rho → Cu → Option (Option Int × Cu)
def cut {α : Type} (xs : List α) (lo hi : Option Int) : List α := (xs.drop (HT.sIx xs.length 0 lo)).take (HT.sIx xs.length xs.length hi - HT.sIx xs.length 0 lo)
structure DO (X : Cx) (e : Option Expr) (f : OF) : Prop where
  ex : ∃ t, PO X e t ∧ ∀ (cup : Option Addr) (O : Addr → Prop) (σ : L2.St) (H : Hp) (ρ : Rho) (c : Cu) (o : Option Int) (c' : Cu) (Q : Option Int → Hp → Prop), Rep X.K O cup H σ ρ c → f ρ c = some (o, c') →
    (∀ H', SameC cup H H' → CupAt cup H' c' → Q o H') → t σ H Q
def noO : OF := fun _ c => some (none, c)
def someO (f : EF) : OF := fun ρ c => match f ρ c with
  | some (.int i, c1) => some (some i, c1)
  | _ => none
def slD (d : PyData) (lo hi : Option Int) : Option PyData := match d with
  | .list xs => some (.list (cut xs lo hi))
  | .tuple xs => some (.tuple (cut xs lo hi))
  | .str z => if z.length ≤ sizeLine then some (.str (cutS z lo hi)) else none
  | _ => none
def slE (f : EF) (g h : OF) : EF := fun ρ c => match f ρ c with
  | none => none
  | some (d, c1) => match g ρ c1 with
    | none => none
    | some (lo, c2) => match h ρ c2 with
      | none => none
      | some (hi, c3) => match slD d lo hi with
        | none => none
        | some r => some (r, c3)
theorem da_cut {K : PySem.W.Frag} {G : Hp} {vs : List V} {ds : List PyData} (h : DaAll K G vs ds) (lo hi : Option Int) : DaAll K G (cutV vs lo hi) (cut ds lo hi) := by
  unfold cutV cut
  rw [dpall_len h]
  exact da_take _ (da_drop _ h)
theorem cut_whole {α : Type} {xs : List α} {lo hi : Option Int} (h : HT.sIx xs.length 0 lo = 0 ∧ HT.sIx xs.length xs.length hi = xs.length) : cut xs lo hi = xs := by
  unfold cut
  rw [h.1, h.2]
  simp
section
variable {X : Cx} {m : Bool} {e : Expr} {f : EF} {pos p2 : Pos}
theorem do_none : DO X none noO := ⟨_, po_none, fun cup O σ H ρ c o c' Q R hf q => by cases hf; exact q H (.refl H) R.cupA⟩
theorem do_some (h : DE X m e f) : DO X (some e) (someO f) := by
  obtain ⟨t, p, s⟩ := h
  refine ⟨_, po_some p, fun cup O σ H ρ c o c' Q R hf q => ?_⟩
  unfold someO at hf
  split at hf
  · rename_i i c1 e1
    cases hf
    exact s cup O σ H ρ c _ _ _ R e1 fun v H1 h1 k1 r1 => ⟨i, r1.int, q H1 h1 k1⟩
  · cases hf
theorem or_sl : SlR X (fun x lo hi H Q => rSlL X.K x lo hi H Q ∨ (rSlA X.K x lo hi H Q ∨ rSlS x lo hi H Q)) := sl_list.or (sl_tupA.or sl_str)
theorem de_slice {lo hi : Option Expr} {g h : OF} (he : DE X m e f) (hl : DO X lo g) (hh : DO X hi h) : DE X true (.Subscript e (.Slice lo hi none p2) pos) (slE f g h) := by
  obtain ⟨t1, p1, s1⟩ := he
  obtain ⟨t2, p2, s2⟩ := hl
  obtain ⟨t3, p3, s3⟩ := hh
  refine ⟨_, pe_slice or_sl p1 p2 p3, fun cup O σ H ρ c d c' Q R hf q => ?_⟩
  unfold slE at hf
  split at hf
  · cases hf
  rename_i d1 c1 e1
  split at hf
  · cases hf
  rename_i lo c2 e2
  split at hf
  · cases hf
  rename_i hi c3 e3
  split at hf
  · cases hf
  rename_i r e4
  cases hf
  refine s1 cup O σ H ρ c _ _ _ R e1 fun v H1 h1 k1 r1 => ?_
  have R1 := R.step h1 k1
  refine s2 cup O σ H1 ρ c1 _ _ _ R1 e2 fun H2 h2 k2 => ?_
  have R2 := R1.step h2 k2
  refine s3 cup O σ H2 ρ c2 _ _ _ R2 e3 fun H3 h3 k3 => ?_
  have R3 := R2.step h3 k3
  have r3 := (r1.step h2 R.cupO).step h3 R.cupO
  unfold slD at e4
  split at e4
  · cases e4
    obtain ⟨p, vs, rfl, hv, av⟩ := r3.list
    refine .inl ⟨p, vs, rfl, .of hv, fun t ht => ?_⟩
    exact q _ _ (((h1.trans h2).trans h3).trans (Same.toC (same_upd ht))) (k3.same (same_upd ht)) (.inl (new_list R3.dom ht (da_cut av _ _)))
  · cases e4
    obtain ⟨p, vs, rfl, hv, av⟩ := r3.tup
    refine .inr (.inl ⟨p, vs, rfl, hv, fun w => ?_, fun w t ht => ?_⟩)
    · rw [dpall_len av] at w
      rw [cut_whole w] at q
      rcases r3 with r3 | ⟨_, _, _, _, _, ez, _⟩
      · exact q _ _ ((h1.trans h2).trans h3) k3 (.inl r3)
      · cases ez
    · exact q _ _ (((h1.trans h2).trans h3).trans (Same.toC (same_upd ht))) (k3.same (same_upd ht)) (.inl (new_tup R3.dom ht (da_cut av _ _)))
  · split at e4
    · rename_i hz
      cases e4
      cases r3.str
      exact .inr (.inr ⟨_, rfl, hz, q _ _ ((h1.trans h2).trans h3) k3 (.inl (.str _))⟩)
    · cases e4
  · cases e4
end

/-! ### calls of built-ins -/
def CallD (X : Cx) (m : Bool) (r : List V → Hp → VK → Prop) (g : List PyData → Option PyData) : Prop :=
  ∀ (cup : Option Addr) (O : Addr → Prop) (H : Hp) (vs : List V) (ds : List PyData) (z : PyData) (Q : VK), (∀ a, O a → H a ≠ none) → Paired (Res m X.K O cup H) vs ds → g ds = some z →
    (∀ v H', Same H H' → Da X.K (hid H' O) v z → Q v H') → r vs H Q
def callB (g : List PyData → Option PyData) (f : AF) : EF := fun ρ c => match f ρ c with
  | none => none
  | some (ds, c1) => match g ds with
    | none => none
    | some r => some (r, c1)
section
variable {X : Cx} {m : Bool} {x : Str} {e : Expr} {es : List Expr} {f : AF} {p pos : Pos} {r : List V → Hp → VK → Prop} {g : List PyData → Option PyData}
theorem sat_call {t : TA} (hg : CallD X m r g) (s : SatA X.K m t f) : SatE X.K true (tCB r t) (callB g f) := by
  intro cup O σ H ρ c d c' Q R hf q
  unfold callB at hf
  split at hf
  · cases hf
  rename_i ds c1 e1
  split at hf
  · cases hf
  rename_i z e2
  cases hf
  refine s cup O σ H ρ c ds _ _ R e1 fun vs H1 h1 k1 r1 => ?_
  have R1 := R.step h1 k1
  exact hg cup O H1 vs ds _ Q R1.dom r1 e2 fun v H2 h2 hv => q v H2 (h1.trans (Same.toC h2)) (k1.same h2) (.inl hv)
theorem de_callB {id : String} (hc : CallR X (.builtin id) r) (hg : CallD X m r g) (hv : bootBuiltins x = some (.builtin id)) (hm : X.mg x = none) (ha : DA X m (e :: es) f) (hgl : Gl X x := by rfl) (hn : x ≠ "__name__" := by decide) (hdb : (x == ("__debug__" : Str)) = false := by decide)
    (he : starEach (e :: es) X.env = (false, eval e X.env) :: starEach es X.env := by rfl) (hpl : (backTo pos (starEach es X.env)).any (·.1) = false := by rfl) : DE X true (.Call (.Name x p) (e :: es) [] pos) (callB g f) := by
  obtain ⟨⟨t, pa, s⟩, hlen⟩ := ha
  exact ⟨_, pe_callB hc hgl hm hv pa hn hdb he hpl, sat_call hg s⟩
theorem de_callTy {T : String} (hc : CallR X (.type T) r) (hg : CallD X m r g) (hv : bootBuiltins x = some (.type T)) (hm : X.mg x = none) (ha : DA X m (e :: es) f) (hgl : Gl X x := by rfl) (hn : x ≠ "__name__" := by decide) (hdb : (x == ("__debug__" : Str)) = false := by decide)
    (he : starEach (e :: es) X.env = (false, eval e X.env) :: starEach es X.env := by rfl) (hpl : (backTo pos (starEach es X.env)).any (·.1) = false := by rfl) : DE X true (.Call (.Name x p) (e :: es) [] pos) (callB g f) := by
  obtain ⟨⟨t, pa, s⟩, hlen⟩ := ha
  exact ⟨_, pe_callTy hc hgl hm hv pa hn hdb he hpl, sat_call hg s⟩
theorem pair1 {α β : Type} {r : α → β → Prop} {xs : List α} {y : β} (h : Paired r xs [y]) : ∃ x, xs = [x] ∧ r x y := by
  cases h with
  | cons a b => cases b; exact ⟨_, rfl, a⟩
theorem pair2 {α β : Type} {r : α → β → Prop} {xs : List α} {y z : β} (h : Paired r xs [y, z]) : ∃ x w, xs = [x, w] ∧ r x y ∧ r w z := by
  cases h with
  | cons a b =>
    obtain ⟨w, rfl, h2⟩ := pair1 b
    exact ⟨_, w, rfl, a, h2⟩
/-! len -/
def lenD : List PyData → Option PyData
  | [.list xs] => some (.int xs.length)
  | [.tuple xs] => some (.int xs.length)
  | [.str z] => if z.length ≤ sizeLine then some (.int z.length) else none
  | _ => none
theorem cd_len : CallD X m (fun xs H Q => ∃ x n, xs = [x] ∧ LenV X.K x H n ∧ Q (.int n) H) lenD := by
  intro cup O H vs ds z Q dom rs hg q
  unfold lenD at hg
  split at hg
  · cases hg
    obtain ⟨v, rfl, r1⟩ := pair1 rs
    obtain ⟨a, xs, rfl, h1, a1⟩ := r1.list
    exact ⟨_, xs.length, rfl, .inl ⟨xs, .of h1, rfl⟩, by rw [dpall_len a1]; exact q _ H (.refl H) (.int _)⟩
  · cases hg
    obtain ⟨v, rfl, r1⟩ := pair1 rs
    obtain ⟨a, xs, rfl, h1, a1⟩ := r1.tup
    exact ⟨_, xs.length, rfl, .inr ⟨xs, h1, rfl⟩, by rw [dpall_len a1]; exact q _ H (.refl H) (.int _)⟩
  · split at hg
    · rename_i hz
      cases hg
      obtain ⟨v, rfl, r1⟩ := pair1 rs
      cases r1.str
      exact ⟨_, _, rfl, ⟨hz, rfl⟩, q _ H (.refl H) (.int _)⟩
    · cases hg
  · cases hg
theorem de_len (hm : X.mg "len" = none) (ha : DA X m [e] f) (hgl : Gl X "len" := by rfl) (he : starEach [e] X.env = (false, eval e X.env) :: starEach [] X.env := by rfl) :
    DE X true (.Call (.Name "len" p) [e] [] pos) (callB lenD f) := de_callB call_len cd_len PySem.boot_len hm ha hgl (by decide) (by decide) he rfl
/-! abs, min, max of two -/
def absD : List PyData → Option PyData
  | [.int i] => some (.int (if i < 0 then -i else i))
  | _ => none
theorem cd_abs : CallD X m (fun xs H Q => ∃ i, xs = [.int i] ∧ Q (.int (if i < 0 then -i else i)) H) absD := by
  intro cup O H vs ds z Q dom rs hg q
  unfold absD at hg
  split at hg
  · cases hg
    obtain ⟨v, rfl, r1⟩ := pair1 rs
    cases r1.int
    exact ⟨_, rfl, q _ H (.refl H) (.int _)⟩
  · cases hg
def minI : List Int → Option Int
  | [] => none
  | x :: r => some (r.foldl min x)
def maxI : List Int → Option Int
  | [] => none
  | x :: r => some (r.foldl max x)
theorem foldl_min_spec : ∀ (r : List Int) (x : Int), r.foldl min x ∈ x :: r ∧ ∀ y ∈ x :: r, r.foldl min x ≤ y
  | [], x => by simp
  | a :: r, x => by
    obtain ⟨h1, h2⟩ := foldl_min_spec r (min x a)
    have ha : r.foldl min (min x a) ≤ min x a := h2 _ List.mem_cons_self
    constructor
    · rw [List.foldl_cons]
      rcases List.mem_cons.mp h1 with h1 | h1
      · rw [h1]
        by_cases h : x ≤ a
        · rw [show min x a = x by omega]; exact List.mem_cons_self
        · rw [show min x a = a by omega]; exact List.mem_cons_of_mem _ List.mem_cons_self
      · exact List.mem_cons_of_mem _ (List.mem_cons_of_mem _ h1)
    · intro y hy
      rw [List.foldl_cons]
      rcases List.mem_cons.mp hy with rfl | hy
      · omega
      · rcases List.mem_cons.mp hy with rfl | hy
        · omega
        · exact h2 y (List.mem_cons_of_mem _ hy)
theorem foldl_max_spec : ∀ (r : List Int) (x : Int), r.foldl max x ∈ x :: r ∧ ∀ y ∈ x :: r, y ≤ r.foldl max x
  | [], x => by simp
  | a :: r, x => by
    obtain ⟨h1, h2⟩ := foldl_max_spec r (max x a)
    have ha : max x a ≤ r.foldl max (max x a) := h2 _ List.mem_cons_self
    constructor
    · rw [List.foldl_cons]
      rcases List.mem_cons.mp h1 with h1 | h1
      · rw [h1]
        by_cases h : x ≤ a
        · rw [show max x a = a by omega]; exact List.mem_cons_of_mem _ List.mem_cons_self
        · rw [show max x a = x by omega]; exact List.mem_cons_self
      · exact List.mem_cons_of_mem _ (List.mem_cons_of_mem _ h1)
    · intro y hy
      rw [List.foldl_cons]
      rcases List.mem_cons.mp hy with rfl | hy
      · omega
      · rcases List.mem_cons.mp hy with rfl | hy
        · omega
        · exact h2 y (List.mem_cons_of_mem _ hy)
theorem minI_iff {ns : List Int} {m : Int} : minI ns = some m ↔ m ∈ ns ∧ ∀ y ∈ ns, m ≤ y := by
  cases ns with
  | nil => simp [minI]
  | cons x r =>
    obtain ⟨h1, h2⟩ := foldl_min_spec r x
    simp only [minI, Option.some.injEq]
    constructor
    · rintro rfl
      exact ⟨h1, h2⟩
    · rintro ⟨h3, h4⟩
      have := h2 m h3
      have := h4 _ h1
      omega
theorem maxI_iff {ns : List Int} {m : Int} : maxI ns = some m ↔ m ∈ ns ∧ ∀ y ∈ ns, y ≤ m := by
  cases ns with
  | nil => simp [maxI]
  | cons x r =>
    obtain ⟨h1, h2⟩ := foldl_max_spec r x
    simp only [maxI, Option.some.injEq]
    constructor
    · rintro rfl
      exact ⟨h1, h2⟩
    · rintro ⟨h3, h4⟩
      have := h2 m h3
      have := h4 _ h1
      omega
def minD : List PyData → Option PyData
  | [.int i, .int j] => some (.int (min i j))
  | [.list xs] => match intsOf xs with
    | some ns => (match minI ns with
      | some m => some (.int m)
      | none => none)
    | none => none
  | _ => none
def maxD : List PyData → Option PyData
  | [.int i, .int j] => some (.int (max i j))
  | [.list xs] => match intsOf xs with
    | some ns => (match maxI ns with
      | some m => some (.int m)
      | none => none)
    | none => none
  | _ => none
theorem cr_or {fv : Value} {r r' : List V → Hp → VK → Prop} (h : CallR X fv r) (h' : CallR X fv r') : CallR X fv (fun xs H Q => r xs H Q ∨ r' xs H Q) := h.or h'
theorem pos_of {ns : List Int} {m : Int} (h : m ∈ ns) : 0 < ns.length := by
  cases ns with
  | nil => cases h
  | cons => simp
theorem cd_min : CallD X m (fun xs H Q => (∃ i j, xs = [.int i, .int j] ∧ Q (.int (if j < i then j else i)) H) ∨ rMin X.K xs H Q) minD := by
  intro cup O H vs ds z Q dom rs hg q
  unfold minD at hg
  split at hg
  · cases hg
    obtain ⟨v, w, rfl, r1, r2⟩ := pair2 rs
    cases r1.int
    cases r2.int
    rename_i i j
    refine .inl ⟨i, j, rfl, ?_⟩
    rw [show (if j < i then j else i) = min i j by split <;> omega]
    exact q _ H (.refl H) (.int _)
  · split at hg
    · rename_i ns e1
      split at hg
      · rename_i mm e2
        cases hg
        obtain ⟨v, rfl, r1⟩ := pair1 rs
        obtain ⟨a, xs, rfl, h1, a1⟩ := r1.list
        rw [da_ints a1 e1] at h1
        obtain ⟨h2, h3⟩ := minI_iff.mp e2
        refine .inr ⟨a, ns, rfl, .of h1, pos_of h2, fun k hk hle => ?_⟩
        have : k = mm := by
          have := hle mm h2
          have := h3 k hk
          omega
        subst this
        exact q _ H (.refl H) (.int _)
      · cases hg
    · cases hg
  · cases hg
theorem cd_max : CallD X m (fun xs H Q => (∃ i j, xs = [.int i, .int j] ∧ Q (.int (if j > i then j else i)) H) ∨ rMax X.K xs H Q) maxD := by
  intro cup O H vs ds z Q dom rs hg q
  unfold maxD at hg
  split at hg
  · cases hg
    obtain ⟨v, w, rfl, r1, r2⟩ := pair2 rs
    cases r1.int
    cases r2.int
    rename_i i j
    refine .inl ⟨i, j, rfl, ?_⟩
    rw [show (if j > i then j else i) = max i j by split <;> omega]
    exact q _ H (.refl H) (.int _)
  · split at hg
    · rename_i ns e1
      split at hg
      · rename_i mm e2
        cases hg
        obtain ⟨v, rfl, r1⟩ := pair1 rs
        obtain ⟨a, xs, rfl, h1, a1⟩ := r1.list
        rw [da_ints a1 e1] at h1
        obtain ⟨h2, h3⟩ := maxI_iff.mp e2
        refine .inr ⟨a, ns, rfl, .of h1, pos_of h2, fun k hk hle => ?_⟩
        have : k = mm := by
          have := hle mm h2
          have := h3 k hk
          omega
        subst this
        exact q _ H (.refl H) (.int _)
      · cases hg
    · cases hg
  · cases hg
/-! sum, all, any -/
def sumD : List PyData → Option PyData
  | [.list xs] => match intsOf xs with
    | some ns => some (.int ns.sum)
    | none => none
  | _ => none
theorem cd_sum : CallD X m (rSum X.K) sumD := by
  intro cup O H vs ds z Q dom rs hg q
  unfold sumD at hg
  split at hg
  · split at hg
    · rename_i ns e1
      cases hg
      obtain ⟨v, rfl, r1⟩ := pair1 rs
      obtain ⟨a, xs, rfl, h1, a1⟩ := r1.list
      rw [da_ints a1 e1] at h1
      exact ⟨a, ns, rfl, .of h1, q _ H (.refl H) (.int _)⟩
    · cases hg
  · cases hg
def allD : List PyData → Option PyData
  | [.list xs] => match blsOf xs with
    | some bs => some (.bool (bs.all id))
    | none => none
  | _ => none
def anyD : List PyData → Option PyData
  | [.list xs] => match blsOf xs with
    | some bs => some (.bool (bs.any id))
    | none => none
  | _ => none
theorem cd_all : CallD X m (rAll X.K) allD := by
  intro cup O H vs ds z Q dom rs hg q
  unfold allD at hg
  split at hg
  · split at hg
    · rename_i bs e1
      cases hg
      obtain ⟨v, rfl, r1⟩ := pair1 rs
      obtain ⟨a, xs, rfl, h1, a1⟩ := r1.list
      rw [da_bls a1 e1] at h1
      exact ⟨a, bs, rfl, .of h1, q _ H (.refl H) (.bl _)⟩
    · cases hg
  · cases hg
theorem cd_any : CallD X m (rAny X.K) anyD := by
  intro cup O H vs ds z Q dom rs hg q
  unfold anyD at hg
  split at hg
  · split at hg
    · rename_i bs e1
      cases hg
      obtain ⟨v, rfl, r1⟩ := pair1 rs
      obtain ⟨a, xs, rfl, h1, a1⟩ := r1.list
      rw [da_bls a1 e1] at h1
      exact ⟨a, bs, rfl, .of h1, q _ H (.refl H) (.bl _)⟩
    · cases hg
  · cases hg
/-! tuple, list, int, str -/
def tupleD : List PyData → Option PyData
  | [.list xs] => some (.tuple xs)
  | [.tuple xs] => some (.tuple xs)
  | _ => none
def listD : List PyData → Option PyData
  | [.list xs] => some (.list xs)
  | [.tuple xs] => some (.list xs)
  | _ => none
def intD : List PyData → Option PyData
  | [.int i] => some (.int i)
  | [.bool b] => some (.int (if b then 1 else 0))
  | _ => none
def strD : List PyData → Option PyData
  | [.str z] => some (.str z)
  | _ => none
theorem Res.tupK {cup : Option Addr} {K : PySem.W.Frag} {O : Addr → Prop} {H : Hp} {v : V} {ds : List PyData} (r : Res m K O cup H v (.tuple ds)) : Da K (hid H O) v (.tuple ds) := by
  rcases r with r | ⟨_, _, _, _, _, ez, _⟩
  · exact r
  · cases ez
theorem cd_tuple : CallD X m (fun xs H Q => ∃ p ys, xs = [.ref p] ∧ ((SqL X.K H p ys ∧ ∀ l, H l = none → Q (.ref l) (upd H l (.tup ys))) ∨ (SqT X.K H p ys ∧ Q (.ref p) H))) tupleD := by
  intro cup O H vs ds z Q dom rs hg q
  unfold tupleD at hg
  split at hg
  · cases hg
    obtain ⟨v, rfl, r1⟩ := pair1 rs
    obtain ⟨a, xs, rfl, h1, a1⟩ := r1.list
    exact ⟨a, xs, rfl, .inl ⟨.of h1, fun l hl => q _ _ (same_upd hl) (new_tup dom hl a1)⟩⟩
  · cases hg
    obtain ⟨v, rfl, r1⟩ := pair1 rs
    have k1 := r1.tupK
    obtain ⟨a, xs, rfl, h1, a1⟩ := r1.tup
    exact ⟨a, xs, rfl, .inr ⟨h1, q _ H (.refl H) k1⟩⟩
  · cases hg
theorem cd_list : CallD X m (fun xs H Q => ∃ p ys, xs = [.ref p] ∧ (SqL X.K H p ys ∨ SqT X.K H p ys) ∧ ∀ l, H l = none → Q (.ref l) (upd H l (.lst ys))) listD := by
  intro cup O H vs ds z Q dom rs hg q
  unfold listD at hg
  split at hg
  · cases hg
    obtain ⟨v, rfl, r1⟩ := pair1 rs
    obtain ⟨a, xs, rfl, h1, a1⟩ := r1.list
    exact ⟨a, xs, rfl, .inl (.of h1), fun l hl => q _ _ (same_upd hl) (new_list dom hl a1)⟩
  · cases hg
    obtain ⟨v, rfl, r1⟩ := pair1 rs
    obtain ⟨a, xs, rfl, h1, a1⟩ := r1.tup
    exact ⟨a, xs, rfl, .inr h1, fun l hl => q _ _ (same_upd hl) (new_list dom hl a1)⟩
  · cases hg
theorem cd_int : CallD X m (fun xs H Q => (∃ i, xs = [.int i] ∧ Q (.int i) H) ∨ ∃ k, xs = [.bl k] ∧ Q (.int (if k then 1 else 0)) H) intD := by
  intro cup O H vs ds z Q dom rs hg q
  unfold intD at hg
  split at hg
  · cases hg
    obtain ⟨v, rfl, r1⟩ := pair1 rs
    cases r1.int
    exact .inl ⟨_, rfl, q _ H (.refl H) (.int _)⟩
  · cases hg
    obtain ⟨v, rfl, r1⟩ := pair1 rs
    cases r1.bool
    exact .inr ⟨_, rfl, q _ H (.refl H) (.int _)⟩
  · cases hg
theorem cd_str : CallD X m (fun xs H Q => ∃ a, xs = [.str a] ∧ Q (.str a) H) strD := by
  intro cup O H vs ds z Q dom rs hg q
  unfold strD at hg
  split at hg
  · cases hg
    obtain ⟨v, rfl, r1⟩ := pair1 rs
    cases r1.str
    exact ⟨_, rfl, q _ H (.refl H) (.str _)⟩
  · cases hg
end
/-! ### isinstance -/
def tyOf : PyData → String
  | .none => "NoneType"
  | .bool _ => "bool"
  | .int _ => "int"
  | .str _ => "str"
  | .list _ => "list"
  | .tuple _ => "tuple"
  | .dict _ => "dict"
def isiE (T : String) (f : EF) : EF := fun ρ c => match f ρ c with
  | some (d, c1) => some (.bool (tyOf d == T || (T == "int" && tyOf d == "bool")), c1)
  | none => none
section
variable {X : Cx} {m : Bool} {e : Expr} {f : EF} {p p2 pos : Pos}
theorem tyx_of {K : PySem.W.Frag} {H : Hp} {v : V} {d : PyData} (h : Da K H v d) : TyX K H v (.type (tyOf d)) := by
  cases h with
  | non => exact .base .non
  | bl b => exact .base (.bl b)
  | int i => exact .base (.int i)
  | str x => exact .base (.str x)
  | lst h _ => exact .base (.lst h)
  | tup h _ =>
    rcases h with (h | ⟨o, h⟩) | ⟨o, its, n, h, hc, _⟩
    · exact .base (.tup h)
    · exact .fTuple h
    · exact .kTuple h hc
  | dK h _ => exact .base (.dK h)
  | dT h _ => exact .base (.dT h)
def isiT (T : String) : Prop := ∀ d : PyData, kitB (tyOf d) T = some (tyOf d == T || (T == "int" && tyOf d == "bool"))
end
end PL

set_option Elab.async false
set_option linter.all false
set_option maxRecDepth 100000
namespace PL
open PySem PySem.Spec PyProof.Rows L2

/-! ### isinstance -/
theorem isi_int : isiT "int" := fun d => by cases d <;> (simp only [tyOf]; decide +kernel)
theorem isi_bool : isiT "bool" := fun d => by cases d <;> (simp only [tyOf]; decide +kernel)
theorem isi_str : isiT "str" := fun d => by cases d <;> (simp only [tyOf]; decide +kernel)
theorem isi_list : isiT "list" := fun d => by cases d <;> (simp only [tyOf]; decide +kernel)
theorem isi_tuple : isiT "tuple" := fun d => by cases d <;> (simp only [tyOf]; decide +kernel)
section
variable {X : Cx} {m : Bool} {e : Expr} {f : EF} {p p2 pos : Pos}
theorem de_isi {T : String} {x : Str} (hT : isiT T) (hv : bootBuiltins x = some (.type T)) (hm : X.mg "isinstance" = none) (hmT : X.mg x = none) (h : DE X m e f) (hgl : Gl X "isinstance" := by rfl) (hglT : Gl X x := by rfl)
    (hn : x ≠ "__name__" := by decide) (hd : (x == ("__debug__" : Str)) = false := by decide)
    (hs : starEach [e, .Name x p2] X.env = (false, eval e X.env) :: starEach [.Name x p2] X.env := by rfl) (hs2 : starEach [.Name x p2] X.env = (false, eval (.Name x p2) X.env) :: starEach [] X.env := by rfl) (hpl : (backTo pos (starEach [.Name x p2] X.env)).any (·.1) = false := by rfl) :
    DE X true (.Call (.Name "isinstance" p) [e, .Name x p2] [] pos) (isiE T f) := by
  obtain ⟨t, pe, s⟩ := h
  refine ⟨_, pe_callB call_isi hgl hm PyProof.Rows.boot_isinstance (pa_cons pe (pa_cons (pe_bltn (v := .ty T) hglT hmT hv rfl hn hd) pa_nil hs2) hs) (by decide) (by decide) hs hpl, fun cup O σ H ρ c d c' Q R hf q => ?_⟩
  unfold isiE at hf
  split at hf
  · rename_i d c1 e1
    cases hf
    refine s cup O σ H ρ c _ _ _ R e1 fun v H1 h1 k1 r1 => ?_
    exact ⟨v, .ty T, _, .type T, _, rfl, .ty T, tyx_of r1.any, kit_ty (hT d), q _ H1 h1 k1 (.inl (.bl _))⟩
  · cases hf
end

/-! ### calls of defs -/
def spD (K : PySem.W.Frag) (n : Nat) (F : List PyData → Option PyData) : Sp := fun vs H Q _ => ∃ (O : Addr → Prop) (ds : List PyData) (d : PyData), ds.length = n ∧ (∀ a, O a → H a ≠ none) ∧ DaAll K (hid H O) vs ds ∧ F ds = some d ∧
  ∀ v H', Same H H' → Da K (hid H' O) v d → Q v H'
/-- the first parameter is the cup -/
def spC (K : PySem.W.Frag) (n : Nat) (F : List PyData → Cu → Option (PyData × Cu)) : Sp := fun vs H Q _ => ∃ (O : Addr → Prop) (a : Addr) (ws : List V) (ds : List PyData) (c : Cu) (d : PyData) (c' : Cu), vs = .ref a :: ws ∧ ds.length = n ∧ (∀ b, O b → H b ≠ none) ∧ O a ∧
  CupAt (some a) H c ∧ DaAll K (hid H O) ws ds ∧ F ds c = some (d, c') ∧ ∀ v H', SameC (some a) H H' → CupAt (some a) H' c' → Da K (hid H' O) v d → Q v H'
def callC (i : Nat) (F : List PyData → Cu → Option (PyData × Cu)) (f : AF) : EF := fun ρ c => match ρ[i]? with
  | some .cup => (match f ρ c with
    | some (ds, c1) => F ds c1
    | none => none)
  | _ => none
section
variable {X : Cx} {m : Bool} {e : Expr} {es : List Expr} {f : AF} {p pos : Pos} {k n : Nat} {fa : Addr} {fd : FuncData} {ps : List Str} {x : Str}
theorem de_call {F : List PyData → Option PyData} (G : FnOk X.prog X.w X.K X.mg X.base CX0 k fa fd ps (spD X.K n F)) (hr : Room k X.A) (hm : X.mg x = some (.ref fa)) (hk : PySem.W.keepIn X.K (.ref fa) = true) (hb : Binds X.K fd ps [])
    (ha : DA X true (e :: es) f) (hn : (e :: es).length = n := by rfl) (hgl : Gl X x := by rfl) (hdb : (x == ("__debug__" : Str)) = false := by decide)
    (he : starEach (e :: es) X.env = (false, eval e X.env) :: starEach es X.env := by rfl) (hpl : (backTo pos (starEach es X.env)).any (·.1) = false := by rfl) : DE X true (.Call (.Name x p) (e :: es) [] pos) (callB F f) := by
  obtain ⟨⟨t, pa, s⟩, hlen⟩ := ha
  refine ⟨_, pe_call G hr hgl hm hk hb .nil pass0 pa hdb he hpl, fun cup O σ H ρ c d c' Q R hf q => ?_⟩
  unfold callB at hf
  split at hf
  · cases hf
  rename_i ds c1 e1
  split at hf
  · cases hf
  rename_i z e2
  cases hf
  refine s cup O σ H ρ c ds _ _ R e1 fun vs H1 h1 k1 r1 => ?_
  have R1 := R.step h1 k1
  show spD X.K n F (vs ++ []) H1 Q E0
  rw [List.append_nil]
  exact ⟨O, ds, _, (hlen _ _ _ _ e1).trans hn, R1.dom, all_of r1, e2, fun v H2 h2 hv => q v H2 (h1.trans (Same.toC h2)) (k1.same h2) (.inl hv)⟩
theorem de_callC {i : Nat} {y : Str} {p2 : Pos} {F : List PyData → Cu → Option (PyData × Cu)} (G : FnOk X.prog X.w X.K X.mg X.base CX0 k fa fd ps (spC X.K n F)) (hr : Room k X.A) (hm : X.mg x = some (.ref fa)) (hk : PySem.W.keepIn X.K (.ref fa) = true) (hb : Binds X.K fd ps [])
    (hN : X.N[i]? = some y) (hvs : Vis X.env.scope y) (ha : DA X true es f) (hn : es.length = n := by rfl) (hgl : Gl X x := by rfl) (hdb : (x == ("__debug__" : Str)) = false := by decide)
    (hdy : (y == ("__debug__" : Str)) = false := by decide) (hcd : (y == ("__classdict__" : Str)) = false := by decide)
    (he : starEach (.Name y p2 :: es) X.env = (false, eval (.Name y p2) X.env) :: starEach es X.env := by rfl) (hpl : (backTo pos (starEach es X.env)).any (·.1) = false := by rfl) : DE X true (.Call (.Name x p) (.Name y p2 :: es) [] pos) (callC i F f) := by
  obtain ⟨⟨t, pa, s⟩, hlen⟩ := ha
  refine ⟨_, pe_call G hr hgl hm hk hb .nil pass0 (pa_cons (pe_var hN hvs hdy hcd) pa he) hdb he hpl, fun cup O σ H ρ c d c' Q R hf q => ?_⟩
  unfold callC at hf
  split at hf
  · rename_i ec
    split at hf
    · rename_i ds c1 e1
      obtain ⟨a, rfl, ea⟩ := R.cp i ec
      refine ⟨.ref a, ea, ?_⟩
      refine s _ O σ H ρ c ds _ _ R e1 fun vs H1 h1 k1 r1 => ?_
      have R1 := R.step h1 k1
      show spC X.K n F ((.ref a :: vs) ++ []) H1 Q E0
      rw [List.append_nil]
      exact ⟨O, a, vs, ds, c1, d, c', rfl, (hlen _ _ _ _ e1).trans hn, R1.dom, R.cupO a rfl, k1, all_of r1, hf, fun v H2 h2 k2 hv => q v H2 (h1.trans h2) k2 (.inl hv)⟩
    · cases hf
  · cases hf
/-- cup[0], cup[1] -/
def cupE (i : Nat) (j : Int) : EF := fun ρ c => match ρ[i]? with
  | some .cup => if j = 0 then some (.int c.1, c) else if j = 1 then some (.int c.2, c) else none
  | _ => none
theorem de_cup {i : Nat} {y : Str} {p2 : Pos} {j : Int} {w : Nat} {p3 : Pos} (hN : X.N[i]? = some y := by rfl) (hv : Vis X.env.scope y := by first | exact Or.inl rfl | exact Or.inr (Or.inl rfl) | exact Or.inr (Or.inr rfl)) (hd : (y == ("__debug__" : Str)) = false := by decide)
    (hcd : (y == ("__classdict__" : Str)) = false := by decide) : DE X true (.Subscript (.Name y p2) (.Constant (.int j) w p3) pos) (cupE i j) := by
  refine ⟨_, pe_ix ix_list (pe_var hN hv hd hcd) pe_int (fun _ _ => rfl), fun cup O σ H ρ c d c' Q R hf q => ?_⟩
  unfold cupE at hf
  split at hf
  · rename_i ec
    obtain ⟨a, rfl, ea⟩ := R.cp i ec
    have hc := R.cupA a rfl
    refine ⟨.ref a, ea, ?_⟩
    split at hf
    · rename_i e0
      subst e0
      cases hf
      exact ⟨a, _, 0, .int c.1, rfl, rfl, .of hc, rfl, q _ H (.refl H) R.cupA (.inl (.int _))⟩
    · split at hf
      · rename_i e1
        subst e1
        cases hf
        exact ⟨a, _, 1, .int c.2, rfl, rfl, .of hc, rfl, q _ H (.refl H) R.cupA (.inl (.int _))⟩
      · cases hf
  · cases hf
end

/-! ### targets -/
abbrev GF := PyData → Rho → Option Rho
abbrev GsF := List PyData → Rho → Option Rho
def OwnKept (ρ : Rho) (σ : L2.St) (ρ' : Rho) (σ' : L2.St) : Prop := ∀ (i : Nat) (k : Ow), ρ'[i]? = some (.own k) → ρ[i]? = some (.own k) ∧ σ'[i]? = σ[i]?
def Off (S : List Nat) (σ σ' : L2.St) : Prop := σ'.length = σ.length ∧ ∀ j : Nat, j ∉ S → σ'[j]? = σ[j]?
def SatG (K : PySem.W.Frag) (t : TG) (g : GF) (S : List Nat) : Prop := ∀ (cup : Option Addr) (O : Addr → Prop) (σ : L2.St) (H : Hp) (ρ ρ' : Rho) (c : Cu) (v : V) (d : PyData) (Q : L2.St → Hp → Prop), Rep K O cup H σ ρ c → Da K (hid H O) v d → g d ρ = some ρ' →
  (∀ σ', Rep K O cup H σ' ρ' c → OwnKept ρ σ ρ' σ' → Off S σ σ' → Q σ' H) → t v σ H Q
def SatGs (K : PySem.W.Frag) (t : TGs) (g : GsF) (S : List Nat) : Prop := ∀ (cup : Option Addr) (O : Addr → Prop) (σ : L2.St) (H : Hp) (ρ ρ' : Rho) (c : Cu) (vs : List V) (ds : List PyData) (Q : L2.St → Hp → Prop), Rep K O cup H σ ρ c → DaAll K (hid H O) vs ds → g ds ρ = some ρ' →
  (∀ σ', Rep K O cup H σ' ρ' c → OwnKept ρ σ ρ' σ' → Off S σ σ' → Q σ' H) → t vs σ H Q
structure DG (X : Cx) (e : Expr) (g : GF) (S : List Nat) : Prop where
  ex : ∃ t, PG X e t ∧ SatG X.K t g S
structure DGs (X : Cx) (es : List Expr) (g : GsF) (S : List Nat) : Prop where
  ex : ∃ t, PGs X es t ∧ SatGs X.K t g S
theorem OwnKept.refl {ρ : Rho} {σ : L2.St} : OwnKept ρ σ ρ σ := fun _ _ h => ⟨h, rfl⟩
theorem OwnKept.trans {ρ ρ1 ρ2 : Rho} {σ σ1 σ2 : L2.St} (a : OwnKept ρ σ ρ1 σ1) (b : OwnKept ρ1 σ1 ρ2 σ2) : OwnKept ρ σ ρ2 σ2 := fun i k h => by
  obtain ⟨h1, e1⟩ := b i k h
  obtain ⟨h2, e2⟩ := a i k h1
  exact ⟨h2, e1.trans e2⟩
theorem get_set {α : Type} {l : List α} {i j : Nat} {x y : α} (h : (l.set i x)[j]? = some y) : (i = j ∧ y = x) ∨ (i ≠ j ∧ l[j]? = some y) := by
  by_cases e : i = j
  · subst e
    left
    refine ⟨rfl, ?_⟩
    by_cases hl : i < l.length
    · rw [List.getElem?_set_self hl] at h
      exact (Option.some.inj h).symm
    · rw [List.getElem?_eq_none (by simpa using hl)] at h
      cases h
  · right
    rw [List.getElem?_set_ne e] at h
    exact ⟨e, h⟩
/-- a slot takes a kept value -/
theorem Rep.setD {K : PySem.W.Frag} {O : Addr → Prop} {cup : Option Addr} {H : Hp} {σ : L2.St} {ρ : Rho} {c : Cu} (R : Rep K O cup H σ ρ c) {v : V} {d : PyData} (h : Da K (hid H O) v d) (i : Nat) : Rep K O cup H (σ.set i (some v)) (ρ.set i (.d d)) c ∧ OwnKept ρ σ (ρ.set i (.d d)) (σ.set i (some v)) := by
  have hl := R.len
  have hi : ∀ {x : Sl}, (ρ.set i (.d d))[i]? = some x → i < σ.length := fun {x} e => by
    rcases Nat.lt_or_ge i σ.length with z | z
    · exact z
    · rw [List.getElem?_eq_none (by rw [List.length_set]; omega)] at e
      cases e
  refine ⟨⟨by rw [List.length_set, List.length_set]; exact hl, fun j x e => ?_, fun j k e => ?_, fun j j' k l a e1 e2 e3 e4 => ?_, fun j e => ?_, fun j w e => ?_, R.cupA, R.cupO, R.dom⟩, fun j k e => ?_⟩
  · rcases get_set e with ⟨rfl, e2⟩ | ⟨n, e2⟩
    · cases e2
      exact ⟨v, List.getElem?_set_self (hi e), h⟩
    · rw [List.getElem?_set_ne n]
      exact R.dat j x e2
  · rcases get_set e with ⟨rfl, e2⟩ | ⟨n, e2⟩
    · cases e2
    · rw [List.getElem?_set_ne n]
      exact R.own j k e2
  · rcases get_set e1 with ⟨rfl, z⟩ | ⟨n1, z1⟩
    · cases z
    rcases get_set e2 with ⟨rfl, z⟩ | ⟨n2, z2⟩
    · cases z
    rw [List.getElem?_set_ne n1] at e3
    rw [List.getElem?_set_ne n2] at e4
    exact R.dis j j' k l a z1 z2 e3 e4
  · rcases get_set e with ⟨rfl, e2⟩ | ⟨n, e2⟩
    · cases e2
    · rw [List.getElem?_set_ne n]
      exact R.cp j e2
  · rcases get_set e with ⟨rfl, e2⟩ | ⟨n, e2⟩
    · cases e2
    · rw [List.getElem?_set_ne n]
      exact R.fx j w e2
  · rcases get_set e with ⟨rfl, e2⟩ | ⟨n, e2⟩
    · cases e2
    · rw [List.getElem?_set_ne n]
      exact ⟨e2, rfl⟩
theorem Off.refl {S : List Nat} {σ : L2.St} : Off S σ σ := ⟨rfl, fun _ _ => rfl⟩
theorem Off.trans {S T : List Nat} {σ σ1 σ2 : L2.St} (a : Off S σ σ1) (b : Off T σ1 σ2) : Off (S ++ T) σ σ2 := ⟨b.1.trans a.1, fun j h => (b.2 j fun z => h (List.mem_append_right _ z)).trans (a.2 j fun z => h (List.mem_append_left _ z))⟩
theorem off_set (i : Nat) {σ : L2.St} {v : Option V} : Off [i] σ (σ.set i v) := ⟨List.length_set, fun j h => List.getElem?_set_ne (fun e => h (by simp [e]))⟩
section
variable {X : Cx}
def nameG (i : Nat) : GF := fun d ρ => some (ρ.set i (.d d))
theorem dg_name (i : Nat) {x : Str} {pos : Pos} (hN : X.N.Nodup) (hi : X.N[i]? = some x := by rfl) (hx : Loc X.env.scope x := by first | exact .inl rfl | exact .inr rfl) (hf : X.fn x = true ∨ X.env.scope.names.lookup x = some .local := by first | exact .inl rfl | exact .inr rfl | assumption) : DG X (.Name x pos) (nameG i) [i] := by
  refine ⟨_, pg_name hN hi hx hf, fun cup O σ H ρ ρ' c v d Q R hv hf q => ?_⟩
  cases hf
  obtain ⟨a, b⟩ := R.setD hv i
  exact q _ a b (off_set i)
def nilG : GsF := fun ds ρ => match ds with
  | [] => some ρ
  | _ => none
def consG (g : GF) (gs : GsF) : GsF := fun ds ρ => match ds with
  | d :: r => (match g d ρ with
    | some ρ1 => gs r ρ1
    | none => none)
  | [] => none
def tupG (n : Nat) (gs : GsF) : GF := fun d ρ => match d with
  | .tuple ds => if ds.length = n then gs ds ρ else none
  | _ => none
theorem dgs_nil : DGs X [] nilG [] := ⟨_, pgs_nil, fun cup O σ H ρ ρ' c vs ds Q R hv hf q => by
  unfold nilG at hf
  split at hf
  · cases hf
    cases hv
    exact ⟨rfl, q _ R .refl .refl⟩
  · cases hf⟩
theorem dgs_cons {e : Expr} {es : List Expr} {g : GF} {gs : GsF} {S T : List Nat} (h1 : DG X e g S) (h2 : DGs X es gs T) (hs : (assignEach (e :: es) X.env).map (·.2) = assign e X.env :: (assignEach es X.env).map (·.2) := by rfl) : DGs X (e :: es) (consG g gs) (S ++ T) := by
  obtain ⟨t, p, s⟩ := h1
  obtain ⟨u, p2, s2⟩ := h2
  refine ⟨_, pgs_cons p p2 hs, fun cup O σ H ρ ρ' c vs ds Q R hv hf q => ?_⟩
  unfold consG at hf
  split at hf
  · rename_i d r
    split at hf
    · rename_i ρ1 e1
      cases hv with
      | cons ha hr =>
        refine ⟨_, _, rfl, ?_⟩
        refine s cup O σ H ρ ρ1 c _ _ _ R ha e1 fun σ1 R1 k1 o1 => ?_
        exact s2 cup O σ1 H ρ1 ρ' c _ _ _ R1 hr hf fun σ2 R2 k2 o2 => q _ R2 (k1.trans k2) (o1.trans o2)
    · cases hf
  · cases hf
theorem dg_tup {es : List Expr} {k : Nat} {gs : GsF} {n : Nat} {S : List Nat} {pos : Pos} (hc : X.calm = true) (h : DGs X es gs S)
    (hn : (assignEach es X.env).length = n := by rfl) (hst : (assignEach es X.env).findIdx? (·.1) = none := by rfl) : DG X (.Tuple es k pos) (tupG n gs) S := by
  obtain ⟨t, p, s⟩ := h
  refine ⟨_, pg_tup hc p hn hst, fun cup O σ H ρ ρ' c v d Q R hv hf q => ?_⟩
  unfold tupG at hf
  split at hf
  · rename_i ds
    split at hf
    · rename_i hl
      cases hv with
      | tup hs ha => exact ⟨_, _, rfl, seqT hid_sub hs, (dpall_len ha).trans hl, s cup O σ H ρ ρ' c _ _ Q R ha hf q⟩
    · cases hf
  · cases hf
end
end PL

set_option Elab.async false
set_option linter.all false
set_option maxRecDepth 100000
namespace PL
open PySem PySem.Spec PyProof.Rows L2

/-! ### statements -/
inductive Out where
  | nx (ρ : Rho) (c : Cu)
  | rt (d : PyData) (c : Cu)
  | bk (ρ : Rho) (c : Cu)
  | ct (ρ : Rho) (c : Cu)
  | no
abbrev SF := Rho → Cu → Out
structure RepS (K : PySem.W.Frag) (H0 : Hp) (O0 : Addr → Prop) (cup : Option Addr) (H : Hp) (σ : L2.St) (ρ : Rho) (c : Cu) : Prop where
  same : SameC cup H0 H
  ex : ∃ O : Addr → Prop, (∀ a, O0 a → O a) ∧ (∀ a, O a → O0 a ∨ H0 a = none) ∧ (∀ (i : Nat) (k : Ow) (a : Addr), ρ[i]? = some (.own k) → σ[i]? = some (some (.ref a)) → ¬ O0 a) ∧ Rep K O cup H σ ρ c
def Post (K : PySem.W.Frag) (H0 : Hp) (O0 : Addr → Prop) (cup : Option Addr) (D : Ends) : Out → Prop
  | .nx ρ c => ∀ σ H, RepS K H0 O0 cup H σ ρ c → D.nx σ H
  | .bk ρ c => ∀ σ H, RepS K H0 O0 cup H σ ρ c → D.bk σ H
  | .ct ρ c => ∀ σ H, RepS K H0 O0 cup H σ ρ c → D.ct σ H
  | .rt d c => ∀ v H, SameC cup H0 H → CupAt cup H c → Da K (hid H O0) v d → D.rt v H
  | .no => False
def SatS (K : PySem.W.Frag) (t : TS) (g : SF) : Prop := ∀ (cup : Option Addr) (H0 : Hp) (O0 : Addr → Prop) (D : Ends) (σ : L2.St) (H : Hp) (ρ : Rho) (c : Cu), RepS K H0 O0 cup H σ ρ c → Post K H0 O0 cup D (g ρ c) → t D σ H
structure DS (X : Cx) (st : Stmt) (g : SF) : Prop where
  ex : ∃ t, PS X st t ∧ SatS X.K t g
structure DSs (X : Cx) (sts : List Stmt) (g : SF) : Prop where
  ex : ∃ t, PSs X sts t ∧ SatS X.K t g
theorem RepS.step {K : PySem.W.Frag} {H0 H H' : Hp} {O0 : Addr → Prop} {cup : Option Addr} {σ : L2.St} {ρ : Rho} {c c' : Cu} (R : RepS K H0 O0 cup H σ ρ c) (s : SameC cup H H') (h : CupAt cup H' c') : RepS K H0 O0 cup H' σ ρ c' := by
  obtain ⟨s0, O, a, b, n, R⟩ := R
  exact ⟨s0.trans s, O, a, b, n, R.step s h⟩
section
variable {X : Cx} {m : Bool} {pos : Pos}
def nopS : SF := fun ρ c => .nx ρ c
def seqS (g h : SF) : SF := fun ρ c => match g ρ c with
  | .nx ρ' c' => h ρ' c'
  | o => o
theorem dss_nil : DSs X [] nopS := ⟨_, pss_nil, fun cup H0 O0 D σ H ρ c R q => q σ H R⟩
theorem dss_cons {st : Stmt} {sts : List Stmt} {g h : SF} (h1 : DS X st g) (h2 : DSs X sts h) : DSs X (st :: sts) (seqS g h) := by
  obtain ⟨t, p, s⟩ := h1
  obtain ⟨t2, p2, s2⟩ := h2
  refine ⟨_, pss_cons p p2, fun cup H0 O0 D σ H ρ c R q => ?_⟩
  unfold seqS at q
  refine s cup H0 O0 _ σ H ρ c R ?_
  cases e : g ρ c with
  | nx ρ' c' =>
    rw [e] at q
    exact fun σ' H' R' => s2 cup H0 O0 D σ' H' ρ' c' R' q
  | rt d c' => rw [e] at q; exact q
  | bk ρ' c' => rw [e] at q; exact q
  | ct ρ' c' => rw [e] at q; exact q
  | no => rw [e] at q; exact q.elim
theorem dss_one {st : Stmt} {g : SF} (h1 : DS X st g) : DSs X [st] g := by
  obtain ⟨t, p, s⟩ := h1
  exact ⟨_, pss_one p, s⟩
def neverS : SF := fun _ _ => .no
theorem ds_never {st : Stmt} : DS X st neverS := ⟨_, ps_never, fun cup H0 O0 D σ H ρ c R q => q.elim⟩
theorem ds_pass : DS X (.Pass pos) nopS := ⟨_, ps_pass, fun cup H0 O0 D σ H ρ c R q => q σ H R⟩
def brkS : SF := fun ρ c => .bk ρ c
def cntS : SF := fun ρ c => .ct ρ c
theorem ds_break : DS X (.Break pos) brkS := ⟨_, ps_break, fun cup H0 O0 D σ H ρ c R q => q σ H R⟩
theorem ds_continue : DS X (.Continue pos) cntS := ⟨_, ps_continue, fun cup H0 O0 D σ H ρ c R q => q σ H R⟩
def exprS (f : EF) : SF := fun ρ c => match f ρ c with
  | some (_, c1) => .nx ρ c1
  | none => .no
theorem ds_expr {e : Expr} {f : EF} (h : DE X m e f) (hs : swapsWith e none pos.line X.env = pure false := by rfl) : DS X (.Expr e pos) (exprS f) := by
  obtain ⟨t, p, s⟩ := h
  refine ⟨_, ps_expr p hs, fun cup H0 O0 D σ H ρ c R q => ?_⟩
  unfold exprS at q
  split at q
  · rename_i e1
    have R' := R
    obtain ⟨s0, O, a, b, n, R0⟩ := R
    exact s cup O σ H ρ c _ _ _ R0 e1 fun v H1 h1 k1 r1 => q σ H1 (R'.step h1 k1)
  · exact q.elim
def retS (f : EF) : SF := fun ρ c => match f ρ c with
  | some (d, c1) => .rt d c1
  | none => .no
theorem ds_ret {e : Expr} {f : EF} (h : DE X true e f) : DS X (.Return (some e) pos) (retS f) := by
  obtain ⟨t, p, s⟩ := h
  refine ⟨_, ps_ret p, fun cup H0 O0 D σ H ρ c R q => ?_⟩
  unfold retS at q
  split at q
  · rename_i e1
    obtain ⟨s0, O, a, b, n, R0⟩ := R
    exact s cup O σ H ρ c _ _ _ R0 e1 fun v H1 h1 k1 r1 => q v H1 (s0.trans h1) k1 (dp_mono (hid_mono a) r1.kept)
  · exact q.elim
def retNoS : SF := fun ρ c => .rt .none c
theorem ds_retN : DS X (.Return none pos) retNoS := ⟨_, ps_retN, fun cup H0 O0 D σ H ρ c R q => by
  obtain ⟨s0, O, a, b, n, R0⟩ := R
  exact q _ H s0 R0.cupA .non⟩
/-- a slot's own thing given away -/
def owD : Ow → PyData
  | .lst xs => .list xs
  | .dK kvs => .dict kvs
  | .dT kvs => .dict kvs
theorem ow_da {K : PySem.W.Frag} {G : Hp} {a : Addr} {o : HO} {k : Ow} (h : G a = some o) (w : OwOk K G o k) : Da K G (.ref a) (owD k) := by
  cases o <;> cases k <;> first
    | exact w.elim
    | exact .lst h w
    | exact .dK h w
    | exact .dT h w
def retOwn (i : Nat) : SF := fun ρ c => match ρ[i]? with
  | some (.own k) => .rt (owD k) c
  | some (.d x) => .rt x c
  | _ => .no
theorem ds_retOwn (i : Nat) {x : Str} {p : Pos} (hN : X.N[i]? = some x := by rfl) (hv : Vis X.env.scope x := by first | exact Or.inl rfl | exact Or.inr (Or.inl rfl) | exact Or.inr (Or.inr rfl)) (hd : (x == ("__debug__" : Str)) = false := by decide)
    (hcd : (x == ("__classdict__" : Str)) = false := by decide) : DS X (.Return (some (.Name x p)) pos) (retOwn i) := by
  refine ⟨_, ps_ret (pe_var hN hv hd hcd), fun cup H0 O0 D σ H ρ c R q => ?_⟩
  obtain ⟨s0, O, a, b, n, R0⟩ := R
  unfold retOwn at q
  split at q
  · rename_i k e
    obtain ⟨ad, o, h1, h2, h3, h4, h5⟩ := R0.own i _ e
    refine ⟨_, h1, q _ H s0 R0.cupA (ow_da (hid_of (n i _ ad e h1) h4) (h5.mono (hid_mono a)))⟩
  · rename_i x e
    obtain ⟨v, h1, h2⟩ := R0.dat i _ e
    exact ⟨v, h1, q v H s0 R0.cupA (dp_mono (hid_mono a) h2)⟩
  · exact q.elim
/-- a slot's own thing becomes a kept value -/
def frz (i : Nat) (ρ : Rho) : Rho := match ρ[i]? with
  | some (.own k) => ρ.set i (.d (owD k))
  | _ => ρ
theorem RepS.frz {K : PySem.W.Frag} {H0 H : Hp} {O0 : Addr → Prop} {cup : Option Addr} {σ : L2.St} {ρ : Rho} {c : Cu} (R : RepS K H0 O0 cup H σ ρ c) (i : Nat) : RepS K H0 O0 cup H σ (PL.frz i ρ) c := by
  unfold PL.frz
  split
  · rename_i k e
    obtain ⟨s0, O, a, b, n, R0⟩ := R
    obtain ⟨ad, o, h1, h2, h3, h4, h5⟩ := R0.own i _ e
    have hi : i < ρ.length := by
      rcases Nat.lt_or_ge i ρ.length with z | z
      · exact z
      · rw [List.getElem?_eq_none z] at e; cases e
    have sub : ∀ b, (O b ∧ b ≠ ad) → O b := fun b h => h.1
    refine ⟨s0, fun b => O b ∧ b ≠ ad, fun b hb => ⟨a b hb, fun z => n i k ad e h1 (z ▸ hb)⟩, fun c hc => b c hc.1, fun j l bd e1 e2 => ?_, ?_⟩
    · rcases get_set e1 with ⟨rfl, z⟩ | ⟨ne, z⟩
      · cases z
      · exact n j l bd z e2
    · refine ⟨by rw [List.length_set]; exact R0.len, fun j x e1 => ?_, fun j l e1 => ?_, fun j j' l l' bd e1 e2 e3 e4 => ?_, fun j e1 => ?_, fun j w e1 => ?_, R0.cupA, fun b hb => ⟨R0.cupO b hb, fun z => h3 (z ▸ hb)⟩, fun b hb => R0.dom b hb.1⟩
      · rcases get_set e1 with ⟨rfl, z⟩ | ⟨ne, z⟩
        · cases z
          exact ⟨_, h1, ow_da (hid_of (fun z => z.2 rfl) h4) (h5.mono (hid_mono sub))⟩
        · obtain ⟨v, g1, g2⟩ := R0.dat j x z
          exact ⟨v, g1, dp_mono (hid_mono sub) g2⟩
      · rcases get_set e1 with ⟨rfl, z⟩ | ⟨ne, z⟩
        · cases z
        · obtain ⟨bd, u, g1, g2, g3, g4, g5⟩ := R0.own j l z
          refine ⟨bd, u, g1, ⟨g2, fun w => ?_⟩, g3, g4, g5.mono (hid_mono sub)⟩
          subst w
          exact ne (R0.dis i j k l _ e z h1 g1)
      · rcases get_set e1 with ⟨rfl, z⟩ | ⟨ne, z⟩
        · cases z
        rcases get_set e2 with ⟨rfl, z'⟩ | ⟨ne', z'⟩
        · cases z'
        exact R0.dis j j' l l' bd z z' e3 e4
      · rcases get_set e1 with ⟨rfl, z⟩ | ⟨ne, z⟩
        · cases z
        · exact R0.cp j z
      · rcases get_set e1 with ⟨rfl, z⟩ | ⟨ne, z⟩
        · cases z
        · exact R0.fx j w z
  · exact R
def frzS (i : Nat) (g : SF) : SF := fun ρ c => g (frz i ρ) c
theorem ds_frz (i : Nat) {st : Stmt} {g : SF} (h : DS X st g) : DS X st (frzS i g) := by
  obtain ⟨t, p, s⟩ := h
  exact ⟨t, p, fun cup H0 O0 D σ H ρ c R q => s cup H0 O0 D σ H _ c (R.frz i) q⟩
/-- if -/
def ifS (t : BF) (g h : SF) : SF := fun ρ c => match t ρ c with
  | none => .no
  | some (true, c1) => g ρ c1
  | some (false, c1) => h ρ c1
theorem ds_if {e : Expr} {a b : List Stmt} {t : BF} {g h : SF} (hc : DB X e t) (ha : DSs X a g) (hb : DSs X b h) : DS X (.If e a b pos) (ifS t g h) := by
  obtain ⟨t0, p0, s0⟩ := hc
  obtain ⟨t1, p1, s1⟩ := ha
  obtain ⟨t2, p2, s2⟩ := hb
  refine ⟨_, ps_if p0 p1 p2, fun cup H0 O0 D σ H ρ c R q => ?_⟩
  have R' := R
  obtain ⟨_, O, _, _, _, R0⟩ := R
  unfold ifS at q
  split at q
  · exact q.elim
  · rename_i c1 e1
    refine s0 cup O σ H ρ c _ _ _ R0 e1 fun H1 h1 k1 => ?_
    rw [if_pos rfl]
    exact s1 cup H0 O0 D σ H1 ρ c1 (R'.step h1 k1) q
  · rename_i c1 e1
    refine s0 cup O σ H ρ c _ _ _ R0 e1 fun H1 h1 k1 => ?_
    rw [if_neg Bool.false_ne_true]
    exact s2 cup H0 O0 D σ H1 ρ c1 (R'.step h1 k1) q
/-! ### assignments of kept values -/
def asgS (f : EF) (g : GF) : SF := fun ρ c => match f ρ c with
  | none => .no
  | some (d, c1) => match g d ρ with
    | some ρ' => .nx ρ' c1
    | none => .no
theorem RepS.tgt {K : PySem.W.Frag} {H0 H : Hp} {O0 O : Addr → Prop} {cup : Option Addr} {σ σ' : L2.St} {ρ ρ' : Rho} {c : Cu} (s0 : SameC cup H0 H) (a : ∀ a, O0 a → O a) (b : ∀ a, O a → O0 a ∨ H0 a = none)
    (n : ∀ (i : Nat) (k : Ow) (a : Addr), ρ[i]? = some (.own k) → σ[i]? = some (some (.ref a)) → ¬ O0 a) (R : Rep K O cup H σ' ρ' c) (k : OwnKept ρ σ ρ' σ') : RepS K H0 O0 cup H σ' ρ' c :=
  ⟨s0, O, a, b, fun i l ad e1 e2 => by
    obtain ⟨h1, h2⟩ := k i l e1
    exact n i l ad h1 (h2 ▸ e2), R⟩
theorem sat_asg {te : TE} {tg : TG} {f : EF} {g : GF} {S : List Nat} (s : SatE X.K true te f) (s2 : SatG X.K tg g S) : SatS X.K (tAsg te tg) (asgS f g) := by
  intro cup H0 O0 D σ H ρ c R q
  obtain ⟨s0, O, a, b, n, R0⟩ := R
  unfold asgS at q
  split at q
  · exact q.elim
  rename_i d c1 e1
  split at q
  · rename_i ρ' e2
    refine s cup O σ H ρ c _ _ _ R0 e1 fun v H1 h1 k1 r1 => ?_
    have R1 := R0.step h1 k1
    exact s2 cup O σ H1 ρ ρ' c1 v d _ R1 r1.kept e2 fun σ' R2 k2 _ => q σ' H1 (.tgt (s0.trans h1) a b n R2 k2)
  · exact q.elim
theorem ds_asg {tg e : Expr} {f : EF} {g : GF} {S : List Nat} (he : DE X true e f) (hg : DG X tg g S) (hs : swapsWithSole [tg] e pos.line X.env = pure false := by rfl) (hw : swappedStores [tg] e X.env = pure none := by rfl)
    (h1 : (assignEach [tg] X.env).map (·.2) = [assign tg X.env] := by rfl) : DS X (.Assign [tg] e pos) (asgS f g) := by
  obtain ⟨t, p, s⟩ := he
  obtain ⟨u, p2, s2⟩ := hg
  exact ⟨_, ps_asg p p2 hs hw h1, sat_asg s s2⟩
theorem sat_name (i : Nat) : SatG X.K (gName i) (nameG i) [i] := fun cup O σ H ρ ρ' c v d Q R hv hf q => by
  cases hf
  obtain ⟨a, b⟩ := R.setD hv i
  exact q _ a b (off_set i)
/-- x = e -/
theorem ds_set (i : Nat) {x : Str} {p : Pos} {e : Expr} {f : EF} (hN : X.N.Nodup) (he : DE X true e f) (hi : X.N[i]? = some x := by rfl) (hx : Loc X.env.scope x := by first | exact .inl rfl | exact .inr rfl) (hs : swapsWith e (some (.Name x p)) pos.line X.env = pure false := by rfl)
    (hf : X.fn x = true ∨ X.env.scope.names.lookup x = some .local := by first | exact .inl rfl | exact .inr rfl | assumption) : DS X (.Assign [.Name x p] e pos) (asgS f (nameG i)) := by
  obtain ⟨t, pe, s⟩ := he
  exact ⟨_, ps_set hN hi hx pe hs hf, sat_asg s (sat_name i)⟩

/-! ### new lists and dicts of a slot's own -/
def SatF (K : PySem.W.Frag) (t : TE) (f : Rho → Cu → Option (Ow × Cu)) : Prop := ∀ (cup : Option Addr) (O : Addr → Prop) (σ : L2.St) (H : Hp) (ρ : Rho) (c : Cu) (k : Ow) (c' : Cu) (Q : VK), Rep K O cup H σ ρ c → f ρ c = some (k, c') →
  (∀ a o H', SameC cup H H' → CupAt cup H' c' → H a = none → H' a = some o → OwOk K (hid H' (fun b => O b ∨ b = a)) o k → Q (.ref a) H') → t σ H Q
structure DF (X : Cx) (e : Expr) (f : Rho → Cu → Option (Ow × Cu)) : Prop where
  ex : ∃ t, PE X e t ∧ SatF X.K t f
theorem hid_add {O : Addr → Prop} {H : Hp} {p : Addr} {o : HO} (h : H p = none) : Same (hid H O) (hid (upd H p o) fun b => O b ∨ b = p) := fun b u e => by
  obtain ⟨n, e⟩ := of_hid e
  have : b ≠ p := ne_of_none e h
  exact hid_of (fun z => z.elim n this) (same_upd h _ _ e)
def lstF (f : AF) : Rho → Cu → Option (Ow × Cu) := fun ρ c => match f ρ c with
  | none => none
  | some (ds, c1) => if ds.length ≤ sizeLine then some (.lst ds, c1) else none
theorem none_of_sameC {cup : Option Addr} {H H' : Hp} {c : Cu} (s : SameC cup H H') (hc : CupAt cup H c) (hc' : ∀ a, cup = some a → H' a ≠ none) {p : Addr} (h : H' p = none) : H p = none := by
  cases q : H p with
  | none => rfl
  | some o =>
    by_cases z : cup = some p
    · exact absurd h (hc' p z)
    · have := s p o q z
      rw [h] at this; cases this
theorem CupAt.ne {cup : Option Addr} {H : Hp} {c : Cu} (h : CupAt cup H c) : ∀ a, cup = some a → H a ≠ none := fun a e z => by
  have := h a e
  rw [z] at this; cases this
theorem df_lst {es : List Expr} {f : AF} (h : DA X true es f) : DF X (.List es pos) (lstF f) := by
  obtain ⟨⟨t, p, s⟩, _⟩ := h
  refine ⟨_, pe_lst p, fun cup O σ H ρ c k c' Q R hf q => ?_⟩
  unfold lstF at hf
  split at hf
  · cases hf
  · rename_i ds c1 e1
    split at hf
    · rename_i hl
      cases hf
      refine s cup O σ H ρ c ds _ _ R e1 fun vs H1 s1 k1 r1 => ?_
      refine ⟨by rw [paired_len r1]; exact hl, fun p hp => ?_⟩
      exact q p _ _ (s1.trans (Same.toC (same_upd hp))) (k1.same (same_upd hp)) (none_of_sameC s1 R.cupA k1.ne hp) upd_same (dps_mono (hid_add hp) (all_of r1))
    · cases hf
/-- list(e) -/
def listF (f : EF) : Rho → Cu → Option (Ow × Cu) := fun ρ c => match f ρ c with
  | some (.list xs, c1) => some (.lst xs, c1)
  | some (.tuple xs, c1) => some (.lst xs, c1)
  | _ => none
theorem df_list {e : Expr} {f : EF} {p : Pos} (h : DE X m e f) (hm : X.mg "list" = none) (hgl : Gl X "list" := by rfl) (he : starEach [e] X.env = (false, eval e X.env) :: starEach [] X.env := by rfl) : DF X (.Call (.Name "list" p) [e] [] pos) (listF f) := by
  obtain ⟨t, pe, s⟩ := h
  refine ⟨_, pe_callTy call_list_of hgl hm PyProof.Rows.boot_list (pa_cons pe pa_nil he) (by decide) (by decide) he rfl, fun cup O σ H ρ c k c' Q R hf q => ?_⟩
  unfold listF at hf
  split at hf
  · rename_i xs c1 e1
    cases hf
    refine s cup O σ H ρ c _ _ _ R e1 fun v H1 s1 k1 r1 => ?_
    obtain ⟨a, vs, rfl, h1, a1⟩ := r1.list
    exact ⟨a, vs, rfl, .inl (.of h1), fun l hl => q l _ _ (s1.trans (Same.toC (same_upd hl))) (k1.same (same_upd hl)) (none_of_sameC s1 R.cupA k1.ne hl) upd_same (dps_mono (hid_add hl) a1)⟩
  · rename_i xs c1 e1
    cases hf
    refine s cup O σ H ρ c _ _ _ R e1 fun v H1 s1 k1 r1 => ?_
    obtain ⟨a, vs, rfl, h1, a1⟩ := r1.tup
    exact ⟨a, vs, rfl, .inr h1, fun l hl => q l _ _ (s1.trans (Same.toC (same_upd hl))) (k1.same (same_upd hl)) (none_of_sameC s1 R.cupA k1.ne hl) upd_same (dps_mono (hid_add hl) a1)⟩
  · cases hf
/-- a slot takes a new thing of its own -/
theorem Rep.setOwn {K : PySem.W.Frag} {O : Addr → Prop} {cup : Option Addr} {H H' : Hp} {σ : L2.St} {ρ : Rho} {c c' : Cu} (R : Rep K O cup H σ ρ c) (s : SameC cup H H') (hk : CupAt cup H' c') {a : Addr} {o : HO} {k : Ow}
    (hn : H a = none) (ha : H' a = some o) (hw : OwOk K (hid H' fun b => O b ∨ b = a) o k) (i : Nat) : Rep K (fun b => O b ∨ b = a) cup H' (σ.set i (some (.ref a))) (ρ.set i (.own k)) c' := by
  have R1 := R.step s hk
  have hl := R.len
  have nO : ¬ O a := fun z => R.dom a z hn
  have sub : Same (hid H O) (hid H' fun b => O b ∨ b = a) := fun b u e => by
    obtain ⟨n, e⟩ := of_hid e
    have ne : b ≠ a := ne_of_none e hn
    exact hid_of (fun z => z.elim n ne) (s b u e fun z => n (R.cupO b z))
  have hi : ∀ {x : Sl}, (ρ.set i (.own k))[i]? = some x → i < σ.length := fun {x} e => by
    rcases Nat.lt_or_ge i σ.length with z | z
    · exact z
    · rw [List.getElem?_eq_none (by rw [List.length_set]; omega)] at e
      cases e
  have nce : cup ≠ some a := fun z => nO (R.cupO a z)
  refine ⟨by rw [List.length_set, List.length_set]; exact hl, fun j x e => ?_, fun j l e => ?_, fun j j' l l' ad e1 e2 e3 e4 => ?_, fun j e => ?_, fun j w e => ?_, hk, fun b hb => .inl (R.cupO b hb), fun b hb => ?_⟩
  · rcases get_set e with ⟨rfl, e2⟩ | ⟨n, e2⟩
    · cases e2
    · rw [List.getElem?_set_ne n]
      obtain ⟨v, h1, h2⟩ := R.dat j x e2
      exact ⟨v, h1, dp_mono sub h2⟩
  · rcases get_set e with ⟨rfl, e2⟩ | ⟨n, e2⟩
    · cases e2
      exact ⟨a, o, List.getElem?_set_self (hi e), .inr rfl, nce, ha, hw⟩
    · rw [List.getElem?_set_ne n]
      obtain ⟨ad, u, h1, h2, h3, h4, h5⟩ := R.own j l e2
      exact ⟨ad, u, h1, .inl h2, h3, s _ _ h4 h3, h5.mono sub⟩
  · rcases get_set e1 with ⟨rfl, z⟩ | ⟨n1, z1⟩
    · rcases get_set e2 with ⟨rfl, z'⟩ | ⟨n2, z2⟩
      · rfl
      · rw [List.getElem?_set_self (hi e1)] at e3
        rw [List.getElem?_set_ne n2] at e4
        cases e3
        obtain ⟨ad', u, h1, h2, _⟩ := R.own j' l' z2
        rw [e4] at h1
        cases h1
        exact absurd h2 nO
    · rw [List.getElem?_set_ne n1] at e3
      rcases get_set e2 with ⟨rfl, z'⟩ | ⟨n2, z2⟩
      · rw [List.getElem?_set_self (hi e2)] at e4
        cases e4
        obtain ⟨ad', u, h1, h2, _⟩ := R.own j l z1
        rw [e3] at h1
        cases h1
        exact absurd h2 nO
      · rw [List.getElem?_set_ne n2] at e4
        exact R.dis j j' l l' ad z1 z2 e3 e4
  · rcases get_set e with ⟨rfl, e2⟩ | ⟨n, e2⟩
    · cases e2
    · rw [List.getElem?_set_ne n]
      exact R.cp j e2
  · rcases get_set e with ⟨rfl, e2⟩ | ⟨n, e2⟩
    · cases e2
    · rw [List.getElem?_set_ne n]
      exact R.fx j w e2
  · rcases hb with hb | rfl
    · exact R1.dom b hb
    · rw [ha]; exact fun z => nomatch z
theorem RepS.setOwn {K : PySem.W.Frag} {H0 H H' : Hp} {O0 O : Addr → Prop} {cup : Option Addr} {σ : L2.St} {ρ : Rho} {c c' : Cu} (s0 : SameC cup H0 H) (a0 : ∀ a, O0 a → O a) (b0 : ∀ a, O a → O0 a ∨ H0 a = none)
    (n0 : ∀ (i : Nat) (k : Ow) (a : Addr), ρ[i]? = some (.own k) → σ[i]? = some (some (.ref a)) → ¬ O0 a) (R : Rep K O cup H σ ρ c) (s : SameC cup H H') (hk : CupAt cup H' c') {a : Addr} {o : HO} {k : Ow}
    (hn : H a = none) (ha : H' a = some o) (hw : OwOk K (hid H' fun b => O b ∨ b = a) o k) (i : Nat) : RepS K H0 O0 cup H' (σ.set i (some (.ref a))) (ρ.set i (.own k)) c' := by
  refine ⟨s0.trans s, _, fun b hb => .inl (a0 b hb), fun b hb => ?_, fun j l ad e1 e2 => ?_, R.setOwn s hk hn ha hw i⟩
  · rcases hb with hb | rfl
    · exact b0 b hb
    · by_cases z : O0 b
      · exact .inl z
      · right
        cases q : H0 b with
        | none => rfl
        | some u =>
          by_cases zc : cup = some b
          · exact absurd (a0 b |> fun _ => R.cupO b zc) (fun zz => R.dom b zz hn)
          · have := s0 b u q zc
            rw [hn] at this; cases this
  · rcases get_set e1 with ⟨rfl, z⟩ | ⟨n1, z1⟩
    · have hi : i < σ.length := by
        rcases Nat.lt_or_ge i σ.length with z | z
        · exact z
        · rw [List.getElem?_eq_none (by rw [List.length_set]; exact z)] at e2
          cases e2
      rw [List.getElem?_set_self hi] at e2
      cases e2
      exact fun z => R.dom a (a0 a z) hn
    · rw [List.getElem?_set_ne n1] at e2
      exact n0 j l ad z1 e2
def ownS (i : Nat) (f : Rho → Cu → Option (Ow × Cu)) : SF := fun ρ c => match f ρ c with
  | some (k, c1) => .nx (ρ.set i (.own k)) c1
  | none => .no
theorem ds_own (i : Nat) {x : Str} {p : Pos} {e : Expr} {f : Rho → Cu → Option (Ow × Cu)} (hN : X.N.Nodup) (he : DF X e f) (hi : X.N[i]? = some x := by rfl) (hx : Loc X.env.scope x := by first | exact .inl rfl | exact .inr rfl) (hs : swapsWith e (some (.Name x p)) pos.line X.env = pure false := by rfl)
    (hf : X.fn x = true ∨ X.env.scope.names.lookup x = some .local := by first | exact .inl rfl | exact .inr rfl | assumption) : DS X (.Assign [.Name x p] e pos) (ownS i f) := by
  obtain ⟨t, pe, s⟩ := he
  refine ⟨_, ps_set hN hi hx pe hs hf, fun cup H0 O0 D σ H ρ c R q => ?_⟩
  obtain ⟨s0, O, a, b, n, R0⟩ := R
  unfold ownS at q
  split at q
  · rename_i k c1 e1
    exact s cup O σ H ρ c _ _ _ R0 e1 fun ad o H1 h1 k1 n1 g1 w1 => q _ H1 (.setOwn s0 a b n R0 h1 k1 n1 g1 w1 i)
  · exact q.elim
end
end PL

set_option Elab.async false
set_option linter.all false
set_option maxRecDepth 100000
namespace PL
open PySem PySem.Spec PyProof.Rows L2 RZ

/-! ### what is walked -/
def ItOk (K : PySem.W.Frag) (m : Bool) (cup : Option Addr) (H1 : Hp) (O : Addr → Prop) (J : It) (items : List PyData) : Prop :=
  ∀ (H : Hp) (O' : Addr → Prop), (m = false → SameC cup H1 H) → Same (hid H1 O) (hid H O') → (∀ a, O' a → H a ≠ none) →
    (∀ i, i < items.length → J.go i H) ∧ J.stop items.length H ∧
    ∀ i x H', i < items.length → J.yld i H x H' → Same H H' ∧ ∃ d, items[i]? = some d ∧ Da K (hid H' O') x d
def SatI (K : PySem.W.Frag) (m : Bool) (wi : TI) (h : AF) : Prop := ∀ (cup : Option Addr) (O : Addr → Prop) (σ : L2.St) (H : Hp) (ρ : Rho) (c : Cu) (items : List PyData) (c' : Cu) (R : It → Hp → Prop), Rep K O cup H σ ρ c → h ρ c = some (items, c') →
  (∀ J H', SameC cup H H' → CupAt cup H' c' → ItOk K m cup H' O J items → R J H') → wi σ H R
structure DI (X : Cx) (m : Bool) (tg iter : Expr) (h : AF) : Prop where
  ex : ∃ wi, PI X tg iter wi ∧ SatI X.K m wi h
theorem pi_or {X : Cx} {tg iter : Expr} {w1 w2 : TI} (h1 : PI X tg iter w1) (h2 : PI X tg iter w2) : PI X tg iter (fun σ H R => w1 σ H R ∨ w2 σ H R) :=
  ⟨fun pins s σ H R I h => h.elim (h1.run pins s σ H R I) (h2.run pins s σ H R I)⟩
/-- the list's place where it stands still -/
theorem list_still {m : Bool} {K : PySem.W.Frag} {cup : Option Addr} {H1 H : Hp} {O O' : Addr → Prop} {v : V} {ds : List PyData} (r : Res m K O cup H1 v (.list ds)) (hm : m = false → SameC cup H1 H) (hs : Same (hid H1 O) (hid H O')) :
    ∃ a vs, v = .ref a ∧ H a = some (.lst vs) ∧ DaAll K (hid H O') vs ds := by
  rcases r with r | ⟨e, a, vs, xs, h1, h2, h3, h4, h5, h6⟩
  · cases r with
    | lst h ha => exact ⟨_, _, rfl, hid_sub _ _ (hs _ _ h), dps_mono hs ha⟩
  · cases h2
    exact ⟨a, vs, h1, hm e _ _ h5 h4, dps_mono hs h6⟩
theorem tup_still {m : Bool} {K : PySem.W.Frag} {cup : Option Addr} {H1 H : Hp} {O O' : Addr → Prop} {v : V} {ds : List PyData} (r : Res m K O cup H1 v (.tuple ds)) (hs : Same (hid H1 O) (hid H O')) :
    ∃ a vs, v = .ref a ∧ SqT K H a vs ∧ DaAll K (hid H O') vs ds := by
  rcases r with r | ⟨e, a, vs, xs, h1, h2, h3, h4, h5, h6⟩
  · cases r with
    | tup h ha => exact ⟨_, _, rfl, seqT hid_sub (seqT hs h), dps_mono hs ha⟩
  · cases h2
theorem ref_inj {a b : Addr} (h : V.ref a = V.ref b) : a = b := by cases h; rfl
theorem itok_list {m : Bool} {K : PySem.W.Frag} {cup : Option Addr} {H1 : Hp} {O : Addr → Prop} {a : Addr} {ds : List PyData} (r : Res m K O cup H1 (.ref a) (.list ds)) : ItOk K m cup H1 O (Itl K a) ds := by
  intro H O' hm hs dom
  obtain ⟨a', vs, e, hv, av⟩ := list_still r hm hs
  cases ref_inj e
  have hl := dpall_len av
  refine ⟨fun i hi => ?_, ⟨vs, .of hv, by omega⟩, fun i x H' hi y => ?_⟩
  · have : i < vs.length := by omega
    exact ⟨vs, vs[i], .of hv, List.getElem?_eq_getElem this⟩
  · obtain ⟨rfl, f⟩ := y
    have g := f vs (.of hv)
    obtain ⟨w, g1, g2⟩ := da_get av (List.getElem?_eq_getElem hi)
    rw [g1] at g
    cases g
    exact ⟨.refl _, ds[i], List.getElem?_eq_getElem hi, g2⟩
theorem itok_tup {m : Bool} {K : PySem.W.Frag} {cup : Option Addr} {H1 : Hp} {O : Addr → Prop} {a : Addr} {ds : List PyData} (r : Res m K O cup H1 (.ref a) (.tuple ds)) : ItOk K m cup H1 O (Itt K a) ds := by
  intro H O' hm hs dom
  obtain ⟨a', vs, e, hv, av⟩ := tup_still r hs
  cases ref_inj e
  have hl := dpall_len av
  refine ⟨fun i hi => ?_, ⟨vs, hv, by omega⟩, fun i x H' hi y => ?_⟩
  · have : i < vs.length := by omega
    exact ⟨vs, vs[i], hv, List.getElem?_eq_getElem this⟩
  · obtain ⟨rfl, f⟩ := y
    have g := f vs hv
    obtain ⟨w, g1, g2⟩ := da_get av (List.getElem?_eq_getElem hi)
    rw [g1] at g
    cases g
    exact ⟨.refl _, ds[i], List.getElem?_eq_getElem hi, g2⟩
def seqI (f : EF) : AF := fun ρ c => match f ρ c with
  | some (.list xs, c1) => some (xs, c1)
  | some (.tuple xs, c1) => some (xs, c1)
  | _ => none
section
variable {X : Cx} {m : Bool} {tg e : Expr} {f : EF} {pos p : Pos}
theorem di_seq (h : DE X m e f) : DI X m tg e (seqI f) := by
  obtain ⟨t, pe, s⟩ := h
  refine ⟨_, pi_or (pi_list pe) (pi_tup pe), fun cup O σ H ρ c items c' R RR hf q => ?_⟩
  unfold seqI at hf
  split at hf
  · rename_i xs c1 e1
    cases hf
    refine .inl (s cup O σ H ρ c _ _ _ RR e1 fun v H1 h1 k1 r1 => ?_)
    obtain ⟨a, vs, rfl, hv, av⟩ := r1.list
    exact ⟨a, rfl, ⟨vs, .of hv⟩, q _ H1 h1 k1 (itok_list r1)⟩
  · rename_i xs c1 e1
    cases hf
    refine .inr (s cup O σ H ρ c _ _ _ RR e1 fun v H1 h1 k1 r1 => ?_)
    obtain ⟨a, vs, rfl, hv, av⟩ := r1.tup
    exact ⟨a, rfl, ⟨vs, hv⟩, q _ H1 h1 k1 (itok_tup r1)⟩
  · cases hf
/-! ranges -/
def intsD (lo : Int) (n : Nat) : List PyData := (List.range n).map fun k => .int (lo + (k : Nat))
theorem itok_rng {K : PySem.W.Frag} {cup : Option Addr} {H1 : Hp} {O : Addr → Prop} (lo : Int) (n : Nat) : ItOk K m cup H1 O (Itr lo n) (intsD lo n) := by
  intro H O' hm hs dom
  have hl : (intsD lo n).length = n := by unfold intsD; rw [List.length_map, List.length_range]
  refine ⟨fun i hi => by rw [hl] at hi; exact hi, by rw [hl]; exact Nat.le_refl _, fun i x H' hi y => ?_⟩
  obtain ⟨rfl, rfl⟩ := y
  refine ⟨.refl _, .int (lo + i), ?_, .int _⟩
  rw [hl] at hi
  unfold intsD
  rw [List.getElem?_map, List.getElem?_range hi]
  rfl
def range1I (f : AF) : AF := fun ρ c => match f ρ c with
  | some ([.int j], c1) => if -(2 ^ 62) ≤ j ∧ j < 2 ^ 62 then some (intsD 0 j.toNat, c1) else none
  | _ => none
def range2I (f : AF) : AF := fun ρ c => match f ρ c with
  | some ([.int i, .int j], c1) => if -(2 ^ 62) ≤ i ∧ i < 2 ^ 62 ∧ -(2 ^ 62) ≤ j ∧ j < 2 ^ 62 then some (intsD i (j - i).toNat, c1) else none
  | _ => none
theorem di_range1 {a : Expr} {f : AF} (ha : DA X true [a] f) (hm : X.mg "range" = none) (hg : Gl X "range" := by rfl) (hs : starEach [a] X.env = [(false, eval a X.env)] := by rfl) : DI X m tg (.Call (.Name "range" p) [a] [] pos) (range1I f) := by
  obtain ⟨⟨t, pa, s⟩, hlen⟩ := ha
  refine ⟨_, pi_range1 hg hm pa hs, fun cup O σ H ρ c items c' R RR hf q => ?_⟩
  unfold range1I at hf
  split at hf
  · rename_i j c1 e1
    split at hf
    · rename_i hb
      cases hf
      refine s cup O σ H ρ c _ _ _ RR e1 fun vs H1 h1 k1 r1 => ?_
      obtain ⟨v, rfl, r2⟩ := pair1 r1
      cases r2.int
      exact ⟨j, rfl, hb.1, hb.2, q _ H1 h1 k1 (itok_rng _ _)⟩
    · cases hf
  · cases hf
theorem di_range2 {a b : Expr} {f : AF} (ha : DA X true [a, b] f) (hm : X.mg "range" = none) (hg : Gl X "range" := by rfl) (hs : starEach [a, b] X.env = [(false, eval a X.env), (false, eval b X.env)] := by rfl) (hs2 : starEach [b] X.env = [(false, eval b X.env)] := by rfl) : DI X m tg (.Call (.Name "range" p) [a, b] [] pos) (range2I f) := by
  obtain ⟨⟨t, pa, s⟩, hlen⟩ := ha
  refine ⟨_, pi_range2 hg hm pa hs hs2, fun cup O σ H ρ c items c' R RR hf q => ?_⟩
  unfold range2I at hf
  split at hf
  · rename_i i j c1 e1
    split at hf
    · rename_i hb
      cases hf
      refine s cup O σ H ρ c _ _ _ RR e1 fun vs H1 h1 k1 r1 => ?_
      obtain ⟨v, w, rfl, r3, r2⟩ := pair2 r1
      cases r3.int
      cases r2.int
      exact ⟨i, j, rfl, hb, q _ H1 h1 k1 (itok_rng _ _)⟩
    · cases hf
  · cases hf
def stepsD (lo st : Int) (n : Nat) : List PyData := (List.range n).map fun k => .int (lo + (k : Nat) * st)
theorem itok_rngC {K : PySem.W.Frag} {cup : Option Addr} {H1 : Hp} {O : Addr → Prop} (lo st : Int) (n : Nat) : ItOk K m cup H1 O (Itc lo st n) (stepsD lo st n) := by
  intro H O' hm hs dom
  have hl : (stepsD lo st n).length = n := by unfold stepsD; rw [List.length_map, List.length_range]
  refine ⟨fun i hi => by rw [hl] at hi; exact hi, by rw [hl]; exact Nat.le_refl _, fun i x H' hi y => ?_⟩
  obtain ⟨rfl, rfl⟩ := y
  refine ⟨.refl _, .int (lo + (i : Nat) * st), ?_, .int _⟩
  rw [hl] at hi
  unfold stepsD
  rw [List.getElem?_map, List.getElem?_range hi]
  rfl
def range3I (f : AF) : AF := fun ρ c => match f ρ c with
  | some ([.int i, .int j, .int st], c1) => if st ≠ 0 ∧ st.natAbs < 1073741824 ∧ Builtin.Range.small i j st = true ∧ 0 ≤ Builtin.Range.rangeSize i j st then some (stepsD i st (Builtin.Range.rangeSize i j st).toNat, c1) else none
  | _ => none
theorem pair3 {α β : Type} {r : α → β → Prop} {xs : List α} {y z u : β} (h : Paired r xs [y, z, u]) : ∃ x w t, xs = [x, w, t] ∧ r x y ∧ r w z ∧ r t u := by
  cases h with
  | cons a b =>
    obtain ⟨w, t, rfl, h2, h3⟩ := pair2 b
    exact ⟨_, w, t, rfl, a, h2, h3⟩
theorem di_range3 {a b d : Expr} {f : AF} (ha : DA X true [a, b, d] f) (hm : X.mg "range" = none) (hg : Gl X "range" := by rfl)
    (hs : starEach [a, b, d] X.env = (false, eval a X.env) :: starEach [b, d] X.env := by rfl) (hs2 : (backTo pos (starEach [b, d] X.env)).any (·.1) = false := by rfl) : DI X m tg (.Call (.Name "range" p) [a, b, d] [] pos) (range3I f) := by
  obtain ⟨⟨t, pa, s⟩, hlen⟩ := ha
  refine ⟨_, pi_range3 hg hm pa hs hs2, fun cup O σ H ρ c items c' R RR hf q => ?_⟩
  unfold range3I at hf
  split at hf
  · rename_i i j st c1 e1
    split at hf
    · rename_i hb
      cases hf
      refine s cup O σ H ρ c _ _ _ RR e1 fun vs H1 h1 k1 r1 => ?_
      obtain ⟨v, w, u, rfl, r4, r2, r3⟩ := pair3 r1
      cases r4.int
      cases r2.int
      cases r3.int
      exact ⟨i, j, st, _, rfl, ⟨hb.1, hb.2.1, hb.2.2.1, (Int.toNat_of_nonneg hb.2.2.2).symm⟩, q _ H1 h1 k1 (itok_rngC _ _ _)⟩
    · cases hf
  · cases hf
/-! enumerate(list), zip -/
def enumD (xs : List PyData) : List PyData := (List.range xs.length).map fun k => .tuple [.int (k : Nat), xs.getD k .none]
def zipD (xs ys : List PyData) : List PyData := (xs.zip ys).map fun p => .tuple [p.1, p.2]
theorem enumD_get {xs : List PyData} {i : Nat} {d : PyData} (h : xs[i]? = some d) : (enumD xs)[i]? = some (.tuple [.int (i : Nat), d]) := by
  have hi : i < xs.length := (List.getElem?_eq_some_iff.mp h).1
  unfold enumD
  rw [List.getElem?_map, List.getElem?_range hi]
  simp [List.getD_eq_getElem?_getD, h]
theorem da_pair {K : PySem.W.Frag} {G : Hp} {x y : V} {d e : PyData} (h1 : Da K G x d) (h2 : Da K G y e) : DaAll K G [x, y] [d, e] := .cons h1 (.cons h2 .nil)
theorem itok_enum {K : PySem.W.Frag} {cup : Option Addr} {H1 : Hp} {O : Addr → Prop} {a : Addr} {ds : List PyData} (r : Res m K O cup H1 (.ref a) (.list ds)) : ItOk K m cup H1 O (Ite K a) (enumD ds) := by
  intro H O' hm hs dom
  obtain ⟨a', vs, e, hv, av⟩ := list_still r hm hs
  cases ref_inj e
  have hl := dpall_len av
  have hle : (enumD ds).length = ds.length := by unfold enumD; rw [List.length_map, List.length_range]
  rw [hle]
  refine ⟨fun i hi => ?_, ⟨vs, .of hv, by omega⟩, fun i x H' hi y => ?_⟩
  · have : i < vs.length := by omega
    exact ⟨vs, vs[i], .of hv, List.getElem?_eq_getElem this⟩
  · obtain ⟨T, x, rfl, hT, rfl, f⟩ := y
    have g := f vs (.of hv)
    obtain ⟨w, g1, g2⟩ := da_get av (List.getElem?_eq_getElem hi)
    rw [g1] at g
    cases g
    exact ⟨same_upd hT, _, enumD_get (List.getElem?_eq_getElem hi), new_tup dom hT (da_pair (.int _) g2)⟩
def enumI (f : EF) : AF := fun ρ c => match f ρ c with
  | some (.list xs, c1) => some (enumD xs, c1)
  | _ => none
theorem di_enum {k : Nat} {tpos : Pos} {elts : List Expr} (h : DE X m e f) (hm : X.mg "enumerate" = none) (hg : Gl X "enumerate" := by rfl) (hs : starEach [e] X.env = [(false, eval e X.env)] := by rfl) : DI X m (.Tuple elts k tpos) (.Call (.Name "enumerate" p) [e] [] pos) (enumI f) := by
  obtain ⟨t, pe, s⟩ := h
  refine ⟨_, pi_enum hg hm (pa_cons pe pa_nil (by rw [hs]; rfl)) hs, fun cup O σ H ρ c items c' R RR hf q => ?_⟩
  unfold enumI at hf
  split at hf
  · rename_i xs c1 e1
    cases hf
    refine s cup O σ H ρ c _ _ _ RR e1 fun v H1 h1 k1 r1 => ?_
    obtain ⟨a, vs, rfl, hv, av⟩ := r1.list
    exact ⟨a, vs, rfl, .of hv, q _ H1 h1 k1 (itok_enum r1)⟩
  · cases hf
theorem zipD_len (xs ys : List PyData) : (zipD xs ys).length = min xs.length ys.length := by unfold zipD; rw [List.length_map, List.length_zip]
theorem zipD_get {xs ys : List PyData} {i : Nat} {d e : PyData} (h : xs[i]? = some d) (h2 : ys[i]? = some e) : (zipD xs ys)[i]? = some (.tuple [d, e]) := by
  unfold zipD
  rw [List.getElem?_map, List.getElem?_zip_eq_some (z := (d, e)) |>.mpr ⟨h, h2⟩]
  rfl
theorem itok_zip {K : PySem.W.Frag} {cup : Option Addr} {H1 : Hp} {O : Addr → Prop} {a b : Addr} {ds es : List PyData} (r : Res m K O cup H1 (.ref a) (.list ds)) (r2 : Res m K O cup H1 (.ref b) (.list es)) : ItOk K m cup H1 O (Itz K a b) (zipD ds es) := by
  intro H O' hm hs dom
  obtain ⟨a', vs, e, hv, av⟩ := list_still r hm hs
  cases ref_inj e
  obtain ⟨b', ws, e, hw, aw⟩ := list_still r2 hm hs
  cases ref_inj e
  have hl := dpall_len av
  have hl2 := dpall_len aw
  rw [zipD_len]
  refine ⟨fun i hi => ?_, ⟨vs, ws, .of hv, .of hw, by omega⟩, fun i x H' hi y => ?_⟩
  · have i1 : i < vs.length := by omega
    have i2 : i < ws.length := by omega
    exact ⟨vs, ws, vs[i], ws[i], .of hv, .of hw, List.getElem?_eq_getElem i1, List.getElem?_eq_getElem i2⟩
  · obtain ⟨T, x, y, rfl, hT, rfl, f, f2⟩ := y
    have i1 : i < ds.length := by omega
    have i2 : i < es.length := by omega
    have g := f vs (.of hv)
    have g' := f2 ws (.of hw)
    obtain ⟨w, g1, g2⟩ := da_get av (List.getElem?_eq_getElem i1)
    obtain ⟨w', g1', g2'⟩ := da_get aw (List.getElem?_eq_getElem i2)
    rw [g1] at g
    cases g
    rw [g1'] at g'
    cases g'
    exact ⟨same_upd hT, _, zipD_get (List.getElem?_eq_getElem i1) (List.getElem?_eq_getElem i2), new_tup dom hT (da_pair g2 g2')⟩
theorem itok_zipT {K : PySem.W.Frag} {cup : Option Addr} {H1 : Hp} {O : Addr → Prop} {a b : Addr} {ds es : List PyData} (r : Res m K O cup H1 (.ref a) (.tuple ds)) (r2 : Res m K O cup H1 (.ref b) (.tuple es)) : ItOk K m cup H1 O (ItzT K a b) (zipD ds es) := by
  intro H O' hm hs dom
  obtain ⟨a', vs, e, hv, av⟩ := tup_still r hs
  cases ref_inj e
  obtain ⟨b', ws, e, hw, aw⟩ := tup_still r2 hs
  cases ref_inj e
  have hl := dpall_len av
  have hl2 := dpall_len aw
  rw [zipD_len]
  refine ⟨fun i hi => ?_, ⟨vs, ws, hv, hw, by omega⟩, fun i x H' hi y => ?_⟩
  · have i1 : i < vs.length := by omega
    have i2 : i < ws.length := by omega
    exact ⟨vs, ws, vs[i], ws[i], hv, hw, List.getElem?_eq_getElem i1, List.getElem?_eq_getElem i2⟩
  · obtain ⟨T, x, y, rfl, hT, rfl, f, f2⟩ := y
    have i1 : i < ds.length := by omega
    have i2 : i < es.length := by omega
    have g := f vs hv
    have g' := f2 ws hw
    obtain ⟨w, g1, g2⟩ := da_get av (List.getElem?_eq_getElem i1)
    obtain ⟨w', g1', g2'⟩ := da_get aw (List.getElem?_eq_getElem i2)
    rw [g1] at g
    cases g
    rw [g1'] at g'
    cases g'
    exact ⟨same_upd hT, _, zipD_get (List.getElem?_eq_getElem i1) (List.getElem?_eq_getElem i2), new_tup dom hT (da_pair g2 g2')⟩
def zipI (f : AF) : AF := fun ρ c => match f ρ c with
  | some ([.list xs, .list ys], c1) => some (zipD xs ys, c1)
  | some ([.tuple xs, .tuple ys], c1) => some (zipD xs ys, c1)
  | _ => none
theorem di_zip {k : Nat} {tpos : Pos} {elts : List Expr} {e2 : Expr} {f : AF} (h : DA X m [e, e2] f) (hm : X.mg "zip" = none) (hg : Gl X "zip" := by rfl)
    (hs : starEach [e, e2] X.env = (false, eval e X.env) :: starEach [e2] X.env := by rfl) (hpl : (backTo pos (starEach [e2] X.env)).any (·.1) = false := by rfl) : DI X m (.Tuple elts k tpos) (.Call (.Name "zip" p) [e, e2] [] pos) (zipI f) := by
  obtain ⟨⟨t, pa, s⟩, hlen⟩ := h
  refine ⟨_, pi_zipA hg hm pa hs hpl, fun cup O σ H ρ c items c' R RR hf q => ?_⟩
  unfold zipI at hf
  split at hf
  · rename_i xs ys c1 e1
    cases hf
    refine s cup O σ H ρ c _ _ _ RR e1 fun vs H1 h1 k1 r1 => ?_
    obtain ⟨v, w, rfl, r3, r2⟩ := pair2 r1
    obtain ⟨a, vs, rfl, hv, av⟩ := r3.list
    obtain ⟨b, ws, rfl, hw, aw⟩ := r2.list
    exact ⟨a, b, vs, ws, rfl, .inl ⟨.of hv, .of hw, q _ H1 h1 k1 (itok_zip r3 r2)⟩⟩
  · rename_i xs ys c1 e1
    cases hf
    refine s cup O σ H ρ c _ _ _ RR e1 fun vs H1 h1 k1 r1 => ?_
    obtain ⟨v, w, rfl, r3, r2⟩ := pair2 r1
    obtain ⟨a, vs, rfl, hv, av⟩ := r3.tup
    obtain ⟨b, ws, rfl, hw, aw⟩ := r2.tup
    exact ⟨a, b, vs, ws, rfl, .inr ⟨hv, hw, q _ H1 h1 k1 (itok_zipT r3 r2)⟩⟩
  · cases hf

/-! ### for -/
def forL (g : GF) (s : SF) : List PyData → Rho → Cu → Out
  | [], ρ, c => .nx ρ c
  | d :: r, ρ, c => match g d ρ with
    | none => .no
    | some ρ1 => match s ρ1 c with
      | .nx ρ' c' => forL g s r ρ' c'
      | .ct ρ' c' => forL g s r ρ' c'
      | .bk ρ' c' => .nx ρ' c'
      | .rt x c' => .rt x c'
      | .no => .no
def forS (h : AF) (g : GF) (s : SF) : SF := fun ρ c => match h ρ c with
  | none => .no
  | some (items, c1) => forL g s items ρ c1
/-- the heap as it stands at a loop's start, what this frame owns left out -/
noncomputable def reb (H1 : Hp) (O O0 : Addr → Prop) : Hp := hid H1 fun a => O a ∧ ¬ O0 a
theorem reb_to {K : PySem.W.Frag} {H0 H1 : Hp} {O O0 : Addr → Prop} {cup : Option Addr} {σ : L2.St} {ρ : Rho} {c : Cu} (a : ∀ a, O0 a → O a)
    (n : ∀ (i : Nat) (k : Ow) (a : Addr), ρ[i]? = some (.own k) → σ[i]? = some (some (.ref a)) → ¬ O0 a) (R : Rep K O cup H1 σ ρ c) : RepS K (reb H1 O O0) O0 cup H1 σ ρ c := by
  refine ⟨fun b o h _ => hid_sub _ _ h, O, a, fun b hb => ?_, n, R⟩
  by_cases z : O0 b
  · exact .inl z
  · right
    unfold reb hid
    rw [if_pos ⟨hb, z⟩]
theorem reb_same {H0 H1 : Hp} {O O0 : Addr → Prop} {cup : Option Addr} (s0 : SameC cup H0 H1) (b : ∀ a, O a → O0 a ∨ H0 a = none) {H : Hp} (s : SameC cup (reb H1 O O0) H) : SameC cup H0 H := fun x o h n => by
  refine s x o (hid_of (fun z => ?_) (s0 x o h n)) n
  rcases b x z.1 with y | y
  · exact z.2 y
  · rw [h] at y; cases y
theorem reb_back {K : PySem.W.Frag} {H0 H1 H : Hp} {O O0 : Addr → Prop} {cup : Option Addr} {σ : L2.St} {ρ : Rho} {c : Cu} (s0 : SameC cup H0 H1) (b : ∀ a, O a → O0 a ∨ H0 a = none) (cc : ∀ a, cup = some a → H1 a ≠ none)
    (R : RepS K (reb H1 O O0) O0 cup H σ ρ c) : RepS K H0 O0 cup H σ ρ c := by
  obtain ⟨s, O', a', b', n', R'⟩ := R
  refine ⟨reb_same s0 b s, O', a', fun x hx => ?_, n', R'⟩
  rcases b' x hx with y | y
  · exact .inl y
  · by_cases z : O x ∧ ¬ O0 x
    · exact b x z.1
    · right
      cases q : H0 x with
      | none => rfl
      | some o =>
        by_cases zc : cup = some x
        · have : H1 x = none := by
            unfold reb hid at y
            rw [if_neg z] at y
            exact y
          exact absurd this (cc x zc)
        · have h1 := s0 x o q zc
          have : reb H1 O O0 x = some o := hid_of z h1
          rw [y] at this; cases this
/-- what was seen at the loop's start is seen yet -/
theorem reb_seen {K : PySem.W.Frag} {H1 H : Hp} {O O0 O' : Addr → Prop} {cup : Option Addr} (a : ∀ a, O0 a → O a) (hc : ∀ a, cup = some a → O a) (s : SameC cup (reb H1 O O0) H) (b' : ∀ x, O' x → O0 x ∨ reb H1 O O0 x = none) : Same (hid H1 O) (hid H O') := fun x o h => by
  obtain ⟨n, h⟩ := of_hid h
  have e : reb H1 O O0 x = some o := hid_of (fun z => n z.1) h
  refine hid_of (fun z => ?_) (s x o e fun z => n (hc x z))
  rcases b' x z with y | y
  · exact n (a x y)
  · rw [e] at y; cases y
theorem ds_for {iter : Expr} {body : List Stmt} {h : AF} {g : GF} {b : SF} {S : List Nat} (hp : PassesOwn (model X.prog X.w) X.A X.env X.xe) (hc : X.calm = true) (hi : DI X true tg iter h) (hg : DG X tg g S) (hb : DSs X body b)
    (hs : ∀ x, foldedSetIterable iter X.env x = pure x := by intro _; rfl) : DS X (.For tg iter body [] pos) (forS h g b) := by
  obtain ⟨wi, p1, s1⟩ := hi
  obtain ⟨tgg, p2, s2⟩ := hg
  obtain ⟨tb, p3, s3⟩ := hb
  refine ⟨_, ps_for hp hc p1 p2 p3 hs, fun cup H0 O0 D σ H ρ c R q => ?_⟩
  obtain ⟨s0, O, a, bb, n, R0⟩ := R
  unfold forS at q
  split at q
  · exact q.elim
  rename_i items c1 e1
  refine s1 cup O σ H ρ c _ _ _ R0 e1 fun J H1 h1 k1 it => ?_
  have R1 := R0.step h1 k1
  have s01 := s0.trans h1
  have cc := k1.ne
  refine ⟨fun i m σ H => ∃ ρ c, RepS X.K (reb H1 O O0) O0 cup H σ ρ c ∧ i + m = items.length ∧ Post X.K H0 O0 cup D (forL g b (items.drop i) ρ c),
    ⟨items.length, ρ, c1, reb_to (K := X.K) (H0 := H0) a n R1, by omega, by rw [List.drop_zero]; exact q⟩, fun i m σ H hW => ?_⟩
  obtain ⟨ρ, c, R, em, q⟩ := hW
  have R' := R
  obtain ⟨s, O', a', b', n', R2⟩ := R
  obtain ⟨g1, g2, g3⟩ := it H O' (fun z => nomatch z) (reb_seen (K := X.K) a R0.cupO s b') R2.dom
  by_cases hi : i < items.length
  · refine .inr ⟨g1 i hi, fun σ' H' => ∃ ρ c, RepS X.K (reb H1 O O0) O0 cup H' σ' ρ c ∧ Post X.K H0 O0 cup D (forL g b (items.drop (i + 1)) ρ c), fun σ' H' hN => ?_, fun x H' hy => ?_⟩
    · obtain ⟨ρ', c', r', q'⟩ := hN
      exact ⟨m - 1, by omega, ρ', c', r', by omega, q'⟩
    · obtain ⟨sm, d, ed, hd⟩ := g3 i x H' hi hy
      rw [List.drop_eq_getElem_cons hi] at q
      have ed' : items[i] = d := by
        rw [List.getElem?_eq_getElem hi] at ed
        exact Option.some.inj ed
      rw [ed'] at q
      unfold forL at q
      split at q
      · exact q.elim
      rename_i ρ1 e2
      have Rx := R2.step (Same.toC sm) (R2.cupA.same sm)
      refine s2 cup O' σ H' ρ ρ1 c x d _ Rx hd e2 fun σ2 R3 k3 _ => ?_
      have RS3 : RepS X.K (reb H1 O O0) O0 cup H' σ2 ρ1 c := .tgt (s.trans (Same.toC sm)) a' b' n' R3 k3
      refine s3 cup (reb H1 O O0) O0 _ σ2 H' ρ1 c RS3 ?_
      cases eb : b ρ1 c with
      | nx ρ' c' =>
        rw [eb] at q
        exact fun σ' H' R' => ⟨ρ', c', R', q⟩
      | ct ρ' c' =>
        rw [eb] at q
        exact fun σ' H' R' => ⟨ρ', c', R', q⟩
      | bk ρ' c' =>
        rw [eb] at q
        exact fun σ' H' R' => q σ' H' (reb_back s01 bb cc R')
      | rt x c' =>
        rw [eb] at q
        exact fun v H' h1 h2 h3 => q v H' (reb_same s01 bb h1) h2 h3
      | no => rw [eb] at q; exact q.elim
  · have ei : i = items.length := by omega
    subst ei
    refine .inl ⟨g2, ?_⟩
    rw [List.drop_length] at q
    exact q σ H (reb_back s01 bb cc R')
/-! ### while -/
def whileL (t : BF) (s : SF) : Nat → Rho → Cu → Out
  | 0, _, _ => .no
  | n + 1, ρ, c => match t ρ c with
    | none => .no
    | some (false, c1) => .nx ρ c1
    | some (true, c1) => match s ρ c1 with
      | .nx ρ' c' => whileL t s n ρ' c'
      | .ct ρ' c' => whileL t s n ρ' c'
      | .bk ρ' c' => .nx ρ' c'
      | .rt x c' => .rt x c'
      | .no => .no
theorem ds_while (n : Nat) {body : List Stmt} {t : BF} {b : SF} (hp : PassesOwn (model X.prog X.w) X.A X.env X.xe) (hc : DB X e t) (hb : DSs X body b) : DS X (.While e body [] pos) (whileL t b n) := by
  obtain ⟨t1, p1, s1⟩ := hc
  obtain ⟨t2, p2, s2⟩ := hb
  refine ⟨_, ps_while hp p1 p2, fun cup H0 O0 D σ H ρ c R q => ?_⟩
  refine ⟨fun m σ H => ∃ ρ c, RepS X.K H0 O0 cup H σ ρ c ∧ Post X.K H0 O0 cup D (whileL t b m ρ c), ⟨n, ρ, c, R, q⟩, fun m σ H hW => ?_⟩
  obtain ⟨ρ, c, R, q⟩ := hW
  cases m with
  | zero => exact q.elim
  | succ m =>
    have R' := R
    obtain ⟨s, O', a', b', n', R2⟩ := R
    unfold whileL at q
    split at q
    · exact q.elim
    · rename_i c1 e1
      refine s1 cup O' σ H ρ c _ _ _ R2 e1 fun H1 h1 k1 => ?_
      rw [if_neg Bool.false_ne_true]
      exact q σ H1 (R'.step h1 k1)
    · rename_i c1 e1
      refine s1 cup O' σ H ρ c _ _ _ R2 e1 fun H1 h1 k1 => ?_
      rw [if_pos rfl]
      refine ⟨fun σ' H' => ∃ ρ c, RepS X.K H0 O0 cup H' σ' ρ c ∧ Post X.K H0 O0 cup D (whileL t b m ρ c), fun σ' H' hN => ⟨m, Nat.lt_succ_self _, hN⟩, ?_⟩
      refine s2 cup H0 O0 _ σ H1 ρ c1 (R'.step h1 k1) ?_
      cases eb : b ρ c1 with
      | nx ρ' c' =>
        rw [eb] at q
        exact fun σ' H' R' => ⟨ρ', c', R', q⟩
      | ct ρ' c' =>
        rw [eb] at q
        exact fun σ' H' R' => ⟨ρ', c', R', q⟩
      | bk ρ' c' => rw [eb] at q; exact q
      | rt x c' => rw [eb] at q; exact q
      | no => rw [eb] at q; exact q.elim
end
end PL

set_option Elab.async false
set_option linter.all false
set_option maxRecDepth 100000
namespace PL
open PySem PySem.Spec PyProof.Rows L2 RZ

/-! ### the weakest readings -/
def tOfE (K : PySem.W.Frag) (m : Bool) (f : EF) : TE := fun σ H Q => ∃ cup O ρ c d c', Rep K O cup H σ ρ c ∧ f ρ c = some (d, c') ∧ ∀ v H', SameC cup H H' → CupAt cup H' c' → Res m K O cup H' v d → Q v H'
def tOfB (K : PySem.W.Frag) (f : BF) : TT := fun σ H Q => ∃ cup O ρ c b c', Rep K O cup H σ ρ c ∧ f ρ c = some (b, c') ∧ ∀ H', SameC cup H H' → CupAt cup H' c' → Q b H'
def tOfG (K : PySem.W.Frag) (g : GF) (S : List Nat) : TG := fun v σ H Q => ∃ cup O ρ ρ' c d, Rep K O cup H σ ρ c ∧ Da K (hid H O) v d ∧ g d ρ = some ρ' ∧ ∀ σ', Rep K O cup H σ' ρ' c → OwnKept ρ σ ρ' σ' → Off S σ σ' → Q σ' H
section
variable {X : Cx} {m : Bool}
theorem DE.can {e : Expr} {f : EF} (h : DE X m e f) : PE X e (tOfE X.K m f) := by
  obtain ⟨t, p, s⟩ := h
  refine ⟨fun pins sh σ H Q I hw => ?_⟩
  obtain ⟨cup, O, ρ, c, d, c', R, hf, q⟩ := hw
  exact p.run pins sh σ H Q I (s cup O σ H ρ c d c' Q R hf q)
theorem DB.can {e : Expr} {f : BF} (h : DB X e f) : PT X e (tOfB X.K f) := by
  obtain ⟨t, p, s⟩ := h
  refine ⟨fun pins sh σ H Q I hw => ?_⟩
  obtain ⟨cup, O, ρ, c, d, c', R, hf, q⟩ := hw
  exact p.run pins sh σ H Q I (s cup O σ H ρ c d c' Q R hf q)
theorem DG.can {e : Expr} {g : GF} {S : List Nat} (h : DG X e g S) : PG X e (tOfG X.K g S) := by
  obtain ⟨t, p, s⟩ := h
  refine ⟨fun pins sh σ H v u Q I r hw => ?_⟩
  obtain ⟨cup, O, ρ, ρ', c, d, R, hv, hf, q⟩ := hw
  exact p.run pins sh σ H v u Q I r (s cup O σ H ρ ρ' c v d Q R hv hf q)
/-- a clause's tests -/
structure DT (X : Cx) (ifs : List Expr) (t : BF) : Prop where
  can : PTs X ifs (tOfB X.K t)
def yesB : BF := fun _ c => some (true, c)
theorem dt_nil : DT X [] yesB := by
  refine ⟨⟨fun pins s σ H Q I h => ?_⟩⟩
  obtain ⟨cup, O, ρ, c, d, c', R, hf, q⟩ := h
  cases hf
  exact pts_nil.run pins s σ H Q I (q H (.refl H) R.cupA)
theorem dt_one {e : Expr} {t : BF} (h : DB X e t) : DT X [e] t := ⟨pts_one h.can⟩
end

/-! ### slots forgotten -/
def wipeR (ρ : Rho) : List Nat → Rho
  | [] => ρ
  | v :: vs => (wipeR ρ vs).set v .un
theorem Rep.setU {K : PySem.W.Frag} {O : Addr → Prop} {cup : Option Addr} {H : Hp} {σ : L2.St} {ρ : Rho} {c : Cu} (R : Rep K O cup H σ ρ c) (i : Nat) : Rep K O cup H (σ.set i none) (ρ.set i .un) c := by
  have hl := R.len
  refine ⟨by rw [List.length_set, List.length_set]; exact hl, fun j x e => ?_, fun j k e => ?_, fun j j' k l a e1 e2 e3 e4 => ?_, fun j e => ?_, fun j w e => ?_, R.cupA, R.cupO, R.dom⟩
  · rcases get_set e with ⟨rfl, e2⟩ | ⟨n, e2⟩
    · cases e2
    · rw [List.getElem?_set_ne n]
      exact R.dat j x e2
  · rcases get_set e with ⟨rfl, e2⟩ | ⟨n, e2⟩
    · cases e2
    · rw [List.getElem?_set_ne n]
      exact R.own j k e2
  · rcases get_set e1 with ⟨rfl, z⟩ | ⟨n1, z1⟩
    · cases z
    rcases get_set e2 with ⟨rfl, z⟩ | ⟨n2, z2⟩
    · cases z
    rw [List.getElem?_set_ne n1] at e3
    rw [List.getElem?_set_ne n2] at e4
    exact R.dis j j' k l a z1 z2 e3 e4
  · rcases get_set e with ⟨rfl, e2⟩ | ⟨n, e2⟩
    · cases e2
    · rw [List.getElem?_set_ne n]
      exact R.cp j e2
  · rcases get_set e with ⟨rfl, e2⟩ | ⟨n, e2⟩
    · cases e2
    · rw [List.getElem?_set_ne n]
      exact R.fx j w e2
theorem Rep.wipe {K : PySem.W.Frag} {O : Addr → Prop} {cup : Option Addr} {H : Hp} {σ : L2.St} {ρ : Rho} {c : Cu} (R : Rep K O cup H σ ρ c) : ∀ vs : List Nat, Rep K O cup H (L2.wipe σ vs) (wipeR ρ vs) c
  | [] => R
  | v :: vs => (R.wipe vs).setU v
theorem wipe_get {σ : L2.St} {i : Nat} : ∀ {vs : List Nat}, i ∈ vs → (L2.wipe σ vs)[i]? = if i < σ.length then some none else none
  | v :: vs, h => by
    unfold L2.wipe
    by_cases e : v = i
    · subst e
      by_cases hl : v < σ.length
      · rw [List.getElem?_set_self (by rw [wipe_length]; exact hl), if_pos hl]
      · rw [List.getElem?_eq_none (by rw [List.length_set, wipe_length]; omega), if_neg hl]
    · rw [List.getElem?_set_ne e]
      rcases List.mem_cons.mp h with z | z
      · exact absurd z.symm e
      · exact wipe_get z
theorem wipe_off {σ σ' : L2.St} {S vs : List Nat} (h : Off S (L2.wipe σ vs) σ') (hs : ∀ i ∈ S, i ∈ vs) : L2.wipe σ' vs = L2.wipe σ vs := by
  have hl := h.1
  rw [wipe_length] at hl
  refine List.ext_getElem? fun i => ?_
  by_cases hi : i ∈ vs
  · rw [wipe_get hi, wipe_get hi, hl]
  · rw [wipe_out hi, wipe_out hi, h.2 i (fun z => hi (hs i z)), wipe_out hi]
/-- one more hidden thing -/
theorem Rep.grow {K : PySem.W.Frag} {O : Addr → Prop} {cup : Option Addr} {H H' : Hp} {σ : L2.St} {ρ : Rho} {c c' : Cu} (R : Rep K O cup H σ ρ c) (s : SameC cup H H') (hk : CupAt cup H' c') {a : Addr} (hn : H a = none) (ha : H' a ≠ none) : Rep K (fun b => O b ∨ b = a) cup H' σ ρ c' := by
  have R1 := R.step s hk
  have sub : Same (hid H O) (hid H' fun b => O b ∨ b = a) := fun b u e => by
    obtain ⟨n, e⟩ := of_hid e
    have ne : b ≠ a := ne_of_none e hn
    exact hid_of (fun z => z.elim n ne) (s b u e fun z => n (R.cupO b z))
  refine ⟨R.len, fun j x e => ?_, fun j l e => ?_, R.dis, R.cp, R.fx, hk, fun b hb => .inl (R.cupO b hb), fun b hb => ?_⟩
  · obtain ⟨v, h1, h2⟩ := R.dat j x e
    exact ⟨v, h1, dp_mono sub h2⟩
  · obtain ⟨ad, u, h1, h2, h3, h4, h5⟩ := R.own j l e
    exact ⟨ad, u, h1, .inl h2, h3, s _ _ h4 h3, h5.mono sub⟩
  · rcases hb with hb | rfl
    · exact R1.dom b hb
    · exact ha
theorem grow_seen {O : Addr → Prop} {cup : Option Addr} {H H' : Hp} (hc : ∀ a, cup = some a → O a) (s : SameC cup H H') {a : Addr} (hn : H a = none) : Same (hid H O) (hid H' fun b => O b ∨ b = a) := fun b u e => by
  obtain ⟨n, e⟩ := of_hid e
  have ne : b ≠ a := ne_of_none e hn
  exact hid_of (fun z => z.elim n ne) (s b u e fun z => n (hc b z))

/-! ### list comprehensions of one clause -/
def compL (g : GF) (t : BF) (f : EF) : List PyData → Rho → Cu → Option (List PyData × Cu)
  | [], _, c => some ([], c)
  | d :: r, ρ, c => match g d ρ with
    | none => none
    | some ρ1 => match t ρ1 c with
      | none => none
      | some (false, c1) => compL g t f r ρ c1
      | some (true, c1) => match f ρ1 c1 with
        | none => none
        | some (y, c2) => match compL g t f r ρ c2 with
          | none => none
          | some (ys, c3) => some (y :: ys, c3)
def compF (h : AF) (vs : List Nat) (g : GF) (t : BF) (f : EF) : Rho → Cu → Option (Ow × Cu) := fun ρ c => match h ρ c with
  | none => none
  | some (items, c1) => match compL g t f items (wipeR ρ vs) c1 with
    | none => none
    | some (ds, c2) => if ds.length ≤ sizeLine then some (.lst ds, c2) else none
def ofF (f : Rho → Cu → Option (Ow × Cu)) : EF := fun ρ c => match f ρ c with
  | none => none
  | some (k, c1) => some (owD k, c1)
theorem SatF.toE {K : PySem.W.Frag} {t : TE} {f : Rho → Cu → Option (Ow × Cu)} (h : SatF K t f) : SatE K true t (ofF f) := by
  intro cup O σ H ρ c d c' Q R hf q
  unfold ofF at hf
  split at hf
  · cases hf
  · rename_i k c1 e
    cases hf
    refine h cup O σ H ρ c k _ Q R e fun a o H' s k1 hn ha w => q _ H' s k1 (.inl (ow_da (hid_of (fun z => R.dom a z hn) ha) (w.mono (hid_mono fun b z => .inl z))))
theorem sat_comp {K : PySem.W.Frag} {m : Bool} {wi : TI} {h : AF} {g : GF} {S vs : List Nat} {t : BF} {f : EF} (hi : SatI K m wi h) (hS : ∀ i ∈ S, i ∈ vs) : SatF K (tLc wi (tOfG K g S) (tOfB K t) (tOfE K true f) vs) (compF h vs g t f) := by
  intro cup O σ H ρ c k c' Q R hf q
  unfold compF at hf
  split at hf
  · cases hf
  rename_i items c1 e1
  split at hf
  · cases hf
  rename_i total c2 e2
  split at hf
  · rename_i hlen
    cases hf
    refine hi cup O σ H ρ c _ _ _ R e1 fun J H1 h1 k1 it D hD => ?_
    have R1 := R.step h1 k1
    have nD : cup ≠ some D := fun z => R1.dom D (R1.cupO D z) hD
    refine ⟨fun i mm Hh => ∃ acc ds cc rest, i + mm = items.length ∧ SameC cup H1 Hh ∧ CupAt cup Hh cc ∧ Hh D = some (.lst acc) ∧ DaAll K (hid Hh fun b => O b ∨ b = D) acc ds ∧
      compL g t f (items.drop i) (wipeR ρ vs) cc = some (rest, c') ∧ ds ++ rest = total, ⟨items.length, [], [], c1, total, by omega, Same.toC (same_upd hD), k1.same (same_upd hD), upd_same, .nil, by rw [List.drop_zero]; exact e2, rfl⟩, fun i mm Hh hW => ?_⟩
    obtain ⟨acc, ds, cc, rest, em, s2, k2, hacc, hds, hcl, htot⟩ := hW
    have RR : Rep K (fun b => O b ∨ b = D) cup Hh (L2.wipe σ vs) (wipeR ρ vs) cc := (R1.wipe vs).grow s2 k2 hD (by rw [hacc]; exact fun z => nomatch z)
    obtain ⟨g1, g2, g3⟩ := it Hh (fun b => O b ∨ b = D) (fun _ => s2) (grow_seen R1.cupO s2 hD) RR.dom
    by_cases hlt : i < items.length
    · refine .inr ⟨g1 i hlt, fun H' => ∃ acc ds cc rest, SameC cup H1 H' ∧ CupAt cup H' cc ∧ H' D = some (.lst acc) ∧ DaAll K (hid H' fun b => O b ∨ b = D) acc ds ∧
        compL g t f (items.drop (i + 1)) (wipeR ρ vs) cc = some (rest, c') ∧ ds ++ rest = total, fun H' hN => ?_, fun x H' hy => ?_⟩
      · obtain ⟨a1, a2, a3, a4, a5, a6, a7, a8, a9, a10⟩ := hN
        exact ⟨mm - 1, by omega, a1, a2, a3, a4, by omega, a5, a6, a7, a8, a9, a10⟩
      · obtain ⟨sm, d, ed, hd⟩ := g3 i x H' hlt hy
        rw [List.drop_eq_getElem_cons hlt] at hcl
        have ed' : items[i] = d := by
          rw [List.getElem?_eq_getElem hlt] at ed
          exact Option.some.inj ed
        rw [ed'] at hcl
        unfold compL at hcl
        split at hcl
        · cases hcl
        rename_i ρ1 e3
        have Ry := RR.step (Same.toC sm) (RR.cupA.same sm)
        refine ⟨cup, _, _, ρ1, cc, d, Ry, hd, e3, fun σ2 R3 _ off => ⟨wipe_off off hS, ?_⟩⟩
        split at hcl
        · cases hcl
        · rename_i c3 e4
          refine ⟨cup, _, ρ1, cc, false, c3, R3, e4, fun H3 s3 k3 => ?_⟩
          refine iteF ?_
          have s13 : SameC cup Hh H3 := (Same.toC sm).trans s3
          refine ⟨acc, ds, c3, rest, s2.trans s13, k3, s13 _ _ hacc nD, ?_, hcl, htot⟩
          exact dps_mono (hid_same s13 RR.cupO) hds
        · rename_i c3 e4
          refine ⟨cup, _, ρ1, cc, true, c3, R3, e4, fun H3 s3 k3 => ?_⟩
          refine iteT ?_
          split at hcl
          · cases hcl
          rename_i y c4 e5
          split at hcl
          · cases hcl
          rename_i ys c5 e6
          cases hcl
          have R4 := R3.step s3 k3
          refine ⟨cup, _, ρ1, c3, y, c4, R4, e5, fun v H4 s4 k4 r4 => ?_⟩
          have s14 : SameC cup Hh H4 := ((Same.toC sm).trans s3).trans s4
          have hacc4 := s14 _ _ hacc nD
          have hds4 := dps_mono (hid_same s14 RR.cupO) hds
          have lacc := dpall_len hds
          have ltot : ds.length + (ys.length + 1) = total.length := by rw [← htot, List.length_append, List.length_cons]
          refine ⟨acc, hacc4, by omega, acc ++ [v], ds ++ [y], c4, ys, ?_, ?_, upd_same, ?_, e6, ?_⟩
          · intro b o hb nb
            have : b ≠ D := ne_of_none hb hD
            rw [upd_ne this]
            exact s14 b o (s2 b o hb nb) nb
          · intro a ha
            have : a ≠ D := fun z => nD (z ▸ ha)
            rw [upd_ne this]
            exact k4 a ha
          · refine dps_mono (G := hid H4 fun b => O b ∨ b = D) (fun b o hb => ?_) (da_append hds4 (.cons r4.kept .nil))
            obtain ⟨n, hb⟩ := of_hid hb
            exact hid_of n (by rw [upd_ne (fun z => n (.inr z))]; exact hb)
          · rw [List.append_assoc]
            exact htot
    · have ei : i = items.length := by omega
      subst ei
      rw [List.drop_length] at hcl
      unfold compL at hcl
      cases hcl
      rw [List.append_nil] at htot
      subst htot
      exact .inl ⟨g2, q D _ Hh (h1.trans s2) k2 (none_of_sameC h1 R.cupA k1.ne hD) hacc hds⟩
  · cases hf
section
variable {X : Cx} {m : Bool}
theorem df_comp {elt tg iter : Expr} {ifs : List Expr} {scope : Scope} {own : List (Str × Nat)} {pos : Pos} {h : AF} {g : GF} {S : List Nat} {t : BF} {f : EF} (hc : X.calm = true) (hN : X.N.Nodup) (hi : DI X m tg iter h) (ok : BlkOk X.N X.env.scope scope own)
    (hg : ∀ (s : Shared) (H : Hp) (C : Addr) (cl : List (Str × Addr)) (fp : List Addr), DG (X.blk s H scope (compEnvC scope cl C X.env) fp) tg g S) (ht : ∀ (s : Shared) (H : Hp) (C : Addr) (cl : List (Str × Addr)) (fp : List Addr), DT (X.blk s H scope (compEnvC scope cl C X.env) fp) ifs t)
    (he : ∀ (s : Shared) (H : Hp) (C : Addr) (cl : List (Str × Addr)) (fp : List Addr), DE (X.blk s H scope (compEnvC scope cl C X.env) fp) true elt f) (hS : ∀ i ∈ S, i ∈ own.map (·.2) := by decide) (hs : ∀ x, foldedSetIterable iter X.env x = pure x := by intro _; rfl) :
    DF X (.ListComp elt [⟨tg, iter, ifs, 0⟩] scope pos) (compF h (own.map (·.2)) g t f) := by
  obtain ⟨wi, p, s⟩ := hi
  exact ⟨_, pe_lc (g := tOfG X.K g S) (tt := tOfB X.K t) (te := tOfE X.K true f) hc hN p ok (fun s H C cl fp => (hg s H C cl fp).can) (fun s H C cl fp => (ht s H C cl fp).can) (fun s H C cl fp => (he s H C cl fp).can) hs, sat_comp s hS⟩
theorem DF.toE {e : Expr} {f : Rho → Cu → Option (Ow × Cu)} (h : DF X e f) : DE X true e (ofF f) := by
  obtain ⟨t, p, s⟩ := h
  exact ⟨t, p, s.toE⟩
/-- y = [..], the name a local -/
theorem ds_setLc (i : Nat) {y : Str} {py : Pos} {elt tg iter : Expr} {ifs : List Expr} {scope : Scope} {own : List (Str × Nat)} {pos spos : Pos} {h : AF} {g : GF} {S : List Nat} {t : BF} {f : EF} (hc : X.calm = true) (hN : X.N.Nodup)
    (hsw : swapsWith (.ListComp elt [⟨tg, iter, ifs, 0⟩] scope pos) (some (.Name y py)) spos.line X.env = pure true) (hi : DI X m tg iter h) (ok : BlkOk X.N X.env.scope scope own)
    (hg : ∀ (s : Shared) (H : Hp) (C : Addr) (cl : List (Str × Addr)) (fp : List Addr), DG (X.blk s H scope (compEnvC scope cl C X.env) fp) tg g S) (ht : ∀ (s : Shared) (H : Hp) (C : Addr) (cl : List (Str × Addr)) (fp : List Addr), DT (X.blk s H scope (compEnvC scope cl C X.env) fp) ifs t)
    (he : ∀ (s : Shared) (H : Hp) (C : Addr) (cl : List (Str × Addr)) (fp : List Addr), DE (X.blk s H scope (compEnvC scope cl C X.env) fp) true elt f) (hS : ∀ i ∈ S, i ∈ own.map (·.2) := by decide)
    (hy : X.N[i]? = some y := by rfl) (hyl : X.env.scope.names.lookup y = some .local := by rfl) (hs : ∀ x, foldedSetIterable iter X.env x = pure x := by intro _; rfl) :
    DS X (.Assign [.Name y py] (.ListComp elt [⟨tg, iter, ifs, 0⟩] scope pos) spos) (asgS (ofF (compF h (own.map (·.2)) g t f)) (nameG i)) := by
  obtain ⟨wi, p, s⟩ := hi
  exact ⟨_, ps_setLc (g := tOfG X.K g S) (tt := tOfB X.K t) (te := tOfE X.K true f) hc hN hy hyl hsw p ok (fun s H C cl fp => (hg s H C cl fp).can) (fun s H C cl fp => (ht s H C cl fp).can) (fun s H C cl fp => (he s H C cl fp).can) hs, sat_asg (sat_comp s hS).toE (sat_name i)⟩
/-- .. the name owns the list -/
theorem ds_ownLc (i : Nat) {y : Str} {py : Pos} {elt tg iter : Expr} {ifs : List Expr} {scope : Scope} {own : List (Str × Nat)} {pos spos : Pos} {h : AF} {g : GF} {S : List Nat} {t : BF} {f : EF} (hc : X.calm = true) (hN : X.N.Nodup)
    (hsw : swapsWith (.ListComp elt [⟨tg, iter, ifs, 0⟩] scope pos) (some (.Name y py)) spos.line X.env = pure true) (hi : DI X m tg iter h) (ok : BlkOk X.N X.env.scope scope own)
    (hg : ∀ (s : Shared) (H : Hp) (C : Addr) (cl : List (Str × Addr)) (fp : List Addr), DG (X.blk s H scope (compEnvC scope cl C X.env) fp) tg g S) (ht : ∀ (s : Shared) (H : Hp) (C : Addr) (cl : List (Str × Addr)) (fp : List Addr), DT (X.blk s H scope (compEnvC scope cl C X.env) fp) ifs t)
    (he : ∀ (s : Shared) (H : Hp) (C : Addr) (cl : List (Str × Addr)) (fp : List Addr), DE (X.blk s H scope (compEnvC scope cl C X.env) fp) true elt f) (hS : ∀ i ∈ S, i ∈ own.map (·.2) := by decide)
    (hy : X.N[i]? = some y := by rfl) (hyl : X.env.scope.names.lookup y = some .local := by rfl) (hs : ∀ x, foldedSetIterable iter X.env x = pure x := by intro _; rfl) :
    DS X (.Assign [.Name y py] (.ListComp elt [⟨tg, iter, ifs, 0⟩] scope pos) spos) (ownS i (compF h (own.map (·.2)) g t f)) := by
  obtain ⟨wi, p, s⟩ := hi
  refine ⟨_, ps_setLc (g := tOfG X.K g S) (tt := tOfB X.K t) (te := tOfE X.K true f) hc hN hy hyl hsw p ok (fun s H C cl fp => (hg s H C cl fp).can) (fun s H C cl fp => (ht s H C cl fp).can) (fun s H C cl fp => (he s H C cl fp).can) hs, fun cup H0 O0 D σ H ρ c R q => ?_⟩
  obtain ⟨s0, O, a, b, n, R0⟩ := R
  unfold ownS at q
  split at q
  · rename_i k c1 e1
    exact sat_comp s hS cup O σ H ρ c _ _ _ R0 e1 fun ad o H1 h1 k1 n1 g1 w1 => q _ H1 (.setOwn s0 a b n R0 h1 k1 n1 g1 w1 i)
  · exact q.elim
end

/-! ### stores into a slot's own list -/
/-- a slot's own thing has turned -/
theorem RepS.turn {K : PySem.W.Frag} {H0 H H' : Hp} {O0 O : Addr → Prop} {cup : Option Addr} {σ : L2.St} {ρ : Rho} {c c' : Cu} (s0 : SameC cup H0 H) (a0 : ∀ a, O0 a → O a) (b0 : ∀ a, O a → O0 a ∨ H0 a = none)
    (n0 : ∀ (i : Nat) (k : Ow) (a : Addr), ρ[i]? = some (.own k) → σ[i]? = some (some (.ref a)) → ¬ O0 a) (R : Rep K O cup H σ ρ c) {i : Nat} {a : Addr} {k k' : Ow} {o' : HO} (hi : ρ[i]? = some (.own k)) (hσ : σ[i]? = some (some (.ref a)))
    (hs : ∀ b o, H b = some o → cup ≠ some b → b ≠ a → H' b = some o) (hk : CupAt cup H' c') (ha : H' a = some o') (hw : Same (hid H O) (hid H' O) → OwOk K (hid H' O) o' k') : RepS K H0 O0 cup H' σ (ρ.set i (.own k')) c' := by
  obtain ⟨ad, o, h1, h2, h3, h4, h5⟩ := R.own i k hi
  rw [hσ] at h1
  cases h1
  have nO0 := n0 i k a hi hσ
  have hin : i < ρ.length := by
    rcases Nat.lt_or_ge i ρ.length with z | z
    · exact z
    · rw [List.getElem?_eq_none z] at hi; cases hi
  have sub : Same (hid H O) (hid H' O) := fun b u e => by
    obtain ⟨n, e⟩ := of_hid e
    exact hid_of n (hs b u e (fun z => n (R.cupO b z)) fun z => n (z ▸ h2))
  refine ⟨fun b u e n => hs b u (s0 b u e n) n fun z => ?_, O, a0, b0, fun j l bd e1 e2 => ?_, ⟨by rw [List.length_set]; exact R.len, fun j x e => ?_, fun j l e => ?_, fun j j' l l' bd e1 e2 e3 e4 => ?_, fun j e => ?_, fun j w e => ?_, hk, R.cupO, fun b hb => ?_⟩⟩
  · subst z
    rcases b0 b h2 with y | y
    · exact nO0 y
    · rw [e] at y; cases y
  · rcases get_set e1 with ⟨rfl, z⟩ | ⟨n, z⟩
    · rw [hσ] at e2; cases e2; exact nO0
    · exact n0 j l bd z e2
  · rcases get_set e with ⟨rfl, z⟩ | ⟨n, z⟩
    · cases z
    · obtain ⟨v, g1, g2⟩ := R.dat j x z
      exact ⟨v, g1, dp_mono sub g2⟩
  · rcases get_set e with ⟨rfl, z⟩ | ⟨n, z⟩
    · cases z
      exact ⟨a, o', hσ, h2, h3, ha, hw sub⟩
    · obtain ⟨bd, u, g1, g2, g3, g4, g5⟩ := R.own j l z
      refine ⟨bd, u, g1, g2, g3, hs _ _ g4 g3 fun y => ?_, g5.mono sub⟩
      subst y
      exact n (R.dis i j k l _ hi z hσ g1)
  · have ow : ∀ {j : Nat} {l : Ow}, (ρ.set i (.own k'))[j]? = some (.own l) → ∃ l0, ρ[j]? = some (.own l0) := fun {j l} e => by
      rcases get_set e with ⟨rfl, z⟩ | ⟨n, z⟩
      · exact ⟨_, hi⟩
      · exact ⟨_, z⟩
    obtain ⟨x1, y1⟩ := ow e1
    obtain ⟨x2, y2⟩ := ow e2
    exact R.dis j j' _ _ bd y1 y2 e3 e4
  · rcases get_set e with ⟨rfl, z⟩ | ⟨n, z⟩
    · cases z
    · exact R.cp j z
  · rcases get_set e with ⟨rfl, z⟩ | ⟨n, z⟩
    · cases z
    · exact R.fx j w z
  · intro z
    by_cases y : b = a
    · subst y; rw [ha] at z; cases z
    · cases q : H b with
      | none => exact R.dom b hb q
      | some u =>
        by_cases zc : cup = some b
        · exact hk.ne b zc z
        · rw [hs b u q zc y] at z; cases z
section
variable {X : Cx} {m : Bool} {pos : Pos}
def appS (i : Nat) (f : EF) : SF := fun ρ c => match f ρ c with
  | none => .no
  | some (d, c1) => match ρ[i]? with
    | some (.own (.lst xs)) => if xs.length < sizeLine then .nx (ρ.set i (.own (.lst (xs ++ [d])))) c1 else .no
    | _ => .no
/-- x.append(e) -/
theorem ds_append (i : Nat) {x : Str} {p apos cpos : Pos} {e : Expr} {f : EF} (he : DE X true e f) (hN : X.N[i]? = some x := by rfl) (hv : Vis X.env.scope x := by first | exact Or.inl rfl | exact Or.inr (Or.inl rfl) | exact Or.inr (Or.inr rfl)) (hd : (x == ("__debug__" : Str)) = false := by decide)
    (hcd : (x == ("__classdict__" : Str)) = false := by decide) (hbase : attributeBase (.Name x p) "append" X.env (eval (.Name x p) X.env) = eval (.Name x p) X.env := by rfl)
    (hfew : ((backTo cpos (starEach [e] X.env)).all (fun x => !x.1) && (backToKw cpos (keywordEach [] X.env)).all (fun x => x.1.isSome)
      && decide ([e].length + ([] : List Keyword).length + (if ([] : List Keyword).isEmpty then 0 else 1) < 30)) = true := by rfl)
    (hline : (apos.endLine == cpos.line) = true := by rfl) (hs : starEach [e] X.env = (false, eval e X.env) :: starEach [] X.env := by rfl) (hsw : swapsWith (.Call (.Attribute (.Name x p) "append" apos) [e] [] cpos) none pos.line X.env = pure false := by rfl) :
    DS X (.Expr (.Call (.Attribute (.Name x p) "append" apos) [e] [] cpos) pos) (appS i f) := by
  obtain ⟨t, pe, s⟩ := he
  refine ⟨_, ps_expr (pe_bm PySem.F.plainAttrs_list PySem.F.slot_list_append PySem.F.type_list_append mt_append (pe_var hN hv hd hcd) (pa_cons pe pa_nil hs) hbase hfew hline hs rfl) hsw, fun cup H0 O0 D σ H ρ c R q => ?_⟩
  obtain ⟨s0, O, a0, b0, n0, R0⟩ := R
  unfold appS at q
  split at q
  · exact q.elim
  rename_i d c1 e1
  split at q
  · rename_i xs e2
    split at q
    · rename_i hl
      obtain ⟨a, o, h1, h2, h3, h4, h5⟩ := R0.own i _ e2
      cases o <;> first | exact h5.elim | skip
      rename_i vs
      refine ⟨.ref a, h1, .inl ⟨rfl, _, .of h4⟩, ?_⟩
      refine s cup O σ H ρ c _ _ _ R0 e1 fun v H1 hs1 k1 r1 => ?_
      have g4 := hs1 _ _ h4 h3
      refine ⟨a, vs, v, rfl, rfl, g4, by rw [dpall_len h5]; exact hl, q σ _ ?_⟩
      refine .turn (s0.trans hs1) a0 b0 n0 (R0.step hs1 k1) (k' := .lst (xs ++ [d])) e2 h1 (fun b u hb _ n => by rw [upd_ne n]; exact hb) (fun b hb => ?_) upd_same fun sub => ?_
      · rw [upd_ne (fun z => h3 (by rw [hb, z]))]
        exact k1 b hb
      · exact da_append (dps_mono sub (dps_mono (hid_same hs1 R0.cupO) h5)) (.cons (dp_mono sub r1.kept) .nil)
    · exact q.elim
  · exact q.elim
end
end PL

set_option Elab.async false
set_option linter.all false
set_option maxRecDepth 100000
namespace PL
open PySem PySem.Spec PyProof.Rows L2 RZ

/-! ### several names at once -/
inductive It1 where
  | k (d : PyData)
  | o (w : Ow)
def ownVs : List V → List It1 → List V
  | v :: vs, .o _ :: r => v :: ownVs vs r
  | _ :: vs, .k _ :: r => ownVs vs r
  | _, _ => []
def IxAll (K : PySem.W.Frag) (O' : Addr → Prop) (cup : Option Addr) (H H' : Hp) : List V → List It1 → Prop
  | [], [] => True
  | v :: vs, .k d :: r => Da K (hid H' O') v d ∧ IxAll K O' cup H H' vs r
  | v :: vs, .o w :: r => (∃ a o, v = .ref a ∧ O' a ∧ cup ≠ some a ∧ H a = none ∧ H' a = some o ∧ OwOk K (hid H' O') o w) ∧ v ∉ ownVs vs r ∧ IxAll K O' cup H H' vs r
  | _, _ => False
abbrev XF := Rho → Cu → Option (List It1 × Cu)
def SatX (K : PySem.W.Frag) (t : TA) (f : XF) : Prop := ∀ (cup : Option Addr) (O : Addr → Prop) (σ : L2.St) (H : Hp) (ρ : Rho) (c : Cu) (items : List It1) (c' : Cu) (Q : List V → Hp → Prop), Rep K O cup H σ ρ c → f ρ c = some (items, c') →
  (∀ vs H' O', SameC cup H H' → (∀ a, O a → O' a) → (∀ a, O' a → O a ∨ H a = none) → Rep K O' cup H' σ ρ c' → IxAll K O' cup H H' vs items → Q vs H') → t σ H Q
structure DX (X : Cx) (es : List Expr) (f : XF) : Prop where
  ex : ∃ t, PA X es t ∧ SatX X.K t f
  len : ∀ ρ c ds c', f ρ c = some (ds, c') → ds.length = es.length
theorem ixall_len {K : PySem.W.Frag} {O' : Addr → Prop} {cup : Option Addr} {H H' : Hp} : ∀ {vs : List V} {is : List It1}, IxAll K O' cup H H' vs is → vs.length = is.length
  | [], [], _ => rfl
  | _ :: vs, .k _ :: r, h => by rw [List.length_cons, List.length_cons, ixall_len h.2]
  | _ :: vs, .o _ :: r, h => by rw [List.length_cons, List.length_cons, ixall_len h.2.2]
/-- what was found stays found -/
theorem ixall_own {K : PySem.W.Frag} {O' : Addr → Prop} {cup : Option Addr} {H H' : Hp} : ∀ {vs : List V} {is : List It1}, IxAll K O' cup H H' vs is → ∀ v ∈ ownVs vs is, ∃ a, v = .ref a ∧ H a = none
  | [], [], _, v, hv => by cases hv
  | _ :: vs, .k _ :: r, h, v, hv => ixall_own h.2 v hv
  | _ :: vs, .o _ :: r, h, v, hv => by
    rcases List.mem_cons.mp hv with rfl | hv
    · obtain ⟨a, o, e, _, _, n, _⟩ := h.1
      exact ⟨a, e, n⟩
    · exact ixall_own h.2.2 v hv
theorem ixall_mono {K : PySem.W.Frag} {O' : Addr → Prop} {cup : Option Addr} {H0 H H' : Hp} (f : ∀ a, H a = none → H0 a = none) : ∀ {vs : List V} {is : List It1}, IxAll K O' cup H H' vs is → IxAll K O' cup H0 H' vs is
  | [], [], _ => trivial
  | _ :: vs, .k _ :: r, h => ⟨h.1, ixall_mono f h.2⟩
  | _ :: vs, .o _ :: r, h => by
    obtain ⟨⟨a, o, e, h1, h2, n, h3⟩, h4, h5⟩ := h
    exact ⟨⟨a, o, e, h1, h2, f a n, h3⟩, h4, ixall_mono f h5⟩
section
variable {X : Cx} {m : Bool}
def nilX : XF := fun _ c => some ([], c)
def keepX (f : EF) (g : XF) : XF := fun ρ c => match f ρ c with
  | none => none
  | some (d, c1) => match g ρ c1 with
    | none => none
    | some (is, c2) => some (.k d :: is, c2)
def ownX (f : Rho → Cu → Option (Ow × Cu)) (g : XF) : XF := fun ρ c => match f ρ c with
  | none => none
  | some (w, c1) => match g ρ c1 with
    | none => none
    | some (is, c2) => some (.o w :: is, c2)
theorem dx_nil : DX X [] nilX := ⟨⟨_, pa_nil, fun cup O σ H ρ c items c' Q R hf q => by cases hf; exact q [] H O (.refl H) (fun _ h => h) (fun _ h => .inl h) R trivial⟩, fun ρ c ds c' h => by cases h; rfl⟩
theorem dx_keep {e : Expr} {es : List Expr} {f : EF} {g : XF} (he : DE X true e f) (hr : DX X es g) (hs : starEach (e :: es) X.env = (false, eval e X.env) :: starEach es X.env := by rfl) : DX X (e :: es) (keepX f g) := by
  obtain ⟨t, p, s⟩ := he
  obtain ⟨⟨u, pa, sa⟩, hlen⟩ := hr
  refine ⟨⟨_, pa_cons p pa hs, fun cup O σ H ρ c items c' Q R hf q => ?_⟩, fun ρ c ds c' hf => ?_⟩
  · unfold keepX at hf
    split at hf
    · cases hf
    rename_i d c1 e1
    split at hf
    · cases hf
    rename_i is c2 e2
    cases hf
    refine s cup O σ H ρ c d c1 _ R e1 fun v H1 s1 k1 r1 => ?_
    have R1 := R.step s1 k1
    refine sa cup O σ H1 ρ c1 is _ _ R1 e2 fun vs H2 O' s2 a b R2 ix => ?_
    have fr : ∀ a, H1 a = none → H a = none := fun a h => none_of_sameC s1 R.cupA k1.ne h
    refine q (v :: vs) H2 O' (s1.trans s2) a (fun x hx => (b x hx).imp id (fr x)) R2 ⟨?_, ixall_mono fr ix⟩
    refine dp_mono (fun x o h => ?_) r1.kept
    obtain ⟨n, h⟩ := of_hid h
    refine hid_of (fun z => ?_) (s2 x o h fun z => n (R.cupO x z))
    rcases b x z with y | y
    · exact n y
    · rw [h] at y; cases y
  · unfold keepX at hf
    split at hf
    · cases hf
    split at hf
    · cases hf
    rename_i e2
    cases hf
    rw [List.length_cons, List.length_cons, hlen _ _ _ _ e2]
theorem dx_own {e : Expr} {es : List Expr} {f : Rho → Cu → Option (Ow × Cu)} {g : XF} (he : DF X e f) (hr : DX X es g) (hs : starEach (e :: es) X.env = (false, eval e X.env) :: starEach es X.env := by rfl) : DX X (e :: es) (ownX f g) := by
  obtain ⟨t, p, s⟩ := he
  obtain ⟨⟨u, pa, sa⟩, hlen⟩ := hr
  refine ⟨⟨_, pa_cons p pa hs, fun cup O σ H ρ c items c' Q R hf q => ?_⟩, fun ρ c ds c' hf => ?_⟩
  · unfold ownX at hf
    split at hf
    · cases hf
    rename_i w c1 e1
    split at hf
    · cases hf
    rename_i is c2 e2
    cases hf
    refine s cup O σ H ρ c w c1 _ R e1 fun ad o H1 s1 k1 n1 g1 w1 => ?_
    have R1 := R.grow s1 k1 n1 (by rw [g1]; exact fun z => nomatch z)
    have nO : ¬ O ad := fun z => R.dom ad z n1
    have nce : cup ≠ some ad := fun z => nO (R.cupO ad z)
    refine sa cup _ σ H1 ρ c1 is _ _ R1 e2 fun vs H2 O' s2 a b R2 ix => ?_
    have fr : ∀ a, H1 a = none → H a = none := fun a h => none_of_sameC s1 R.cupA k1.ne h
    have sub : Same (hid H1 fun b => O b ∨ b = ad) (hid H2 O') := fun x u h => by
      obtain ⟨n, h⟩ := of_hid h
      refine hid_of (fun z => ?_) (s2 x u h fun z => n (.inl (R.cupO x z)))
      rcases b x z with y | y
      · exact n y
      · rw [h] at y; cases y
    refine q (.ref ad :: vs) H2 O' (s1.trans s2) (fun x hx => a x (.inl hx)) (fun x hx => ?_) R2 ⟨⟨ad, o, rfl, a ad (.inr rfl), nce, n1, s2 _ _ g1 nce, w1.mono sub⟩, fun z => ?_, ixall_mono fr ix⟩
    · rcases b x hx with (y | y) | y
      · exact .inl y
      · exact .inr (y ▸ n1)
      · exact .inr (fr x y)
    · obtain ⟨x, e, h⟩ := ixall_own ix _ z
      cases ref_inj e
      rw [g1] at h; cases h
  · unfold ownX at hf
    split at hf
    · cases hf
    split at hf
    · cases hf
    rename_i e2
    cases hf
    rw [List.length_cons, List.length_cons, hlen _ _ _ _ e2]
/-- a slot takes a thing that is hidden already -/
theorem Rep.setO {K : PySem.W.Frag} {O : Addr → Prop} {cup : Option Addr} {H : Hp} {σ : L2.St} {ρ : Rho} {c : Cu} (R : Rep K O cup H σ ρ c) {a : Addr} {o : HO} {k : Ow} (hO : O a) (hc : cup ≠ some a) (ha : H a = some o) (hw : OwOk K (hid H O) o k)
    (fr : ∀ (j : Nat) (l : Ow), ρ[j]? = some (.own l) → σ[j]? ≠ some (some (.ref a))) (i : Nat) : Rep K O cup H (σ.set i (some (.ref a))) (ρ.set i (.own k)) c := by
  have hl := R.len
  have hi : ∀ {x : Sl}, (ρ.set i (.own k))[i]? = some x → i < σ.length := fun {x} e => by
    rcases Nat.lt_or_ge i σ.length with z | z
    · exact z
    · rw [List.getElem?_eq_none (by rw [List.length_set]; omega)] at e
      cases e
  refine ⟨by rw [List.length_set, List.length_set]; exact hl, fun j x e => ?_, fun j l e => ?_, fun j j' l l' ad e1 e2 e3 e4 => ?_, fun j e => ?_, fun j w e => ?_, R.cupA, R.cupO, R.dom⟩
  · rcases get_set e with ⟨rfl, e2⟩ | ⟨n, e2⟩
    · cases e2
    · rw [List.getElem?_set_ne n]
      exact R.dat j x e2
  · rcases get_set e with ⟨rfl, e2⟩ | ⟨n, e2⟩
    · cases e2
      exact ⟨a, o, List.getElem?_set_self (hi e), hO, hc, ha, hw⟩
    · rw [List.getElem?_set_ne n]
      exact R.own j l e2
  · rcases get_set e1 with ⟨rfl, z⟩ | ⟨n1, z1⟩
    · rcases get_set e2 with ⟨rfl, z'⟩ | ⟨n2, z2⟩
      · rfl
      · rw [List.getElem?_set_self (hi e1)] at e3
        rw [List.getElem?_set_ne n2] at e4
        cases e3
        exact absurd e4 (fr j' l' z2)
    · rw [List.getElem?_set_ne n1] at e3
      rcases get_set e2 with ⟨rfl, z'⟩ | ⟨n2, z2⟩
      · rw [List.getElem?_set_self (hi e2)] at e4
        cases e4
        exact absurd e3 (fr j l z1)
      · rw [List.getElem?_set_ne n2] at e4
        exact R.dis j j' l l' ad z1 z2 e3 e4
  · rcases get_set e with ⟨rfl, e2⟩ | ⟨n, e2⟩
    · cases e2
    · rw [List.getElem?_set_ne n]
      exact R.cp j e2
  · rcases get_set e with ⟨rfl, e2⟩ | ⟨n, e2⟩
    · cases e2
    · rw [List.getElem?_set_ne n]
      exact R.fx j w e2
def setsR : Rho → List Nat → List It1 → Rho
  | ρ, i :: is, .k d :: r => setsR (ρ.set i (.d d)) is r
  | ρ, i :: is, .o w :: r => setsR (ρ.set i (.own w)) is r
  | ρ, _, _ => ρ
def setsS : L2.St → List Nat → List V → L2.St
  | σ, i :: is, v :: r => setsS (σ.set i (some v)) is r
  | σ, _, _ => σ
/-- the own things of the slots: older ones, or new -/
theorem sets_rep {K : PySem.W.Frag} {O : Addr → Prop} {cup : Option Addr} {H H' : Hp} {c : Cu} : ∀ {vs : List V} {items : List It1} {is : List Nat} {σ : L2.St} {ρ : Rho}, Rep K O cup H' σ ρ c → IxAll K O cup H H' vs items →
    (∀ v ∈ ownVs vs items, ∀ (j : Nat) (l : Ow), ρ[j]? = some (.own l) → σ[j]? ≠ some (some v)) → is.length = items.length →
    Rep K O cup H' (setsS σ is vs) (setsR ρ is items) c ∧ ∀ (j : Nat) (l : Ow) (a : Addr), (setsR ρ is items)[j]? = some (.own l) → (setsS σ is vs)[j]? = some (some (.ref a)) → (∃ l', ρ[j]? = some (.own l') ∧ σ[j]? = some (some (.ref a))) ∨ H a = none
  | [], [], [], σ, ρ, R, ix, fr, hl => ⟨R, fun j l a e1 e2 => .inl ⟨l, e1, e2⟩⟩
  | v :: vs, .k d :: r, i :: is, σ, ρ, R, ix, fr, hl => by
    obtain ⟨R1, ok⟩ := R.setD ix.1 i
    obtain ⟨R2, own2⟩ := sets_rep (is := is) R1 ix.2 (fun w hw j l e z => by
      obtain ⟨h1, h2⟩ := ok j l e
      exact fr w hw j l h1 (h2 ▸ z)) (by simpa using hl)
    refine ⟨R2, fun j l a e1 e2 => ?_⟩
    rcases own2 j l a e1 e2 with ⟨l', h1, h2⟩ | h
    · obtain ⟨g1, g2⟩ := ok j l' h1
      exact .inl ⟨l', g1, g2 ▸ h2⟩
    · exact .inr h
  | v :: vs, .o w :: r, i :: is, σ, ρ, R, ix, fr, hl => by
    obtain ⟨⟨a, o, rfl, h1, h2, h3, h4, h5⟩, nin, ixr⟩ := ix
    have R1 := R.setO h1 h2 h4 h5 (fun j l e => fr _ List.mem_cons_self j l e) i
    obtain ⟨R2, own2⟩ := sets_rep (is := is) R1 ixr (fun u hu j l e z => by
      rcases get_set e with ⟨rfl, e2⟩ | ⟨n, e2⟩
      · have hin : i < σ.length := by
          rcases Nat.lt_or_ge i σ.length with y | y
          · exact y
          · rw [List.getElem?_eq_none (by rw [List.length_set]; exact y)] at z; cases z
        rw [List.getElem?_set_self hin] at z
        cases z
        exact nin hu
      · rw [List.getElem?_set_ne n] at z
        exact fr u (List.mem_cons_of_mem _ hu) j l e2 z) (by simpa using hl)
    refine ⟨R2, fun j l b e1 e2 => ?_⟩
    rcases own2 j l b e1 e2 with ⟨l', g1, g2⟩ | h
    · rcases get_set g1 with ⟨rfl, e3⟩ | ⟨n, e3⟩
      · have hin : i < σ.length := by
          rcases Nat.lt_or_ge i σ.length with y | y
          · exact y
          · rw [List.getElem?_eq_none (by rw [List.length_set]; exact y)] at g2; cases g2
        rw [List.getElem?_set_self hin] at g2
        cases g2
        exact .inr h3
      · rw [List.getElem?_set_ne n] at g2
        exact .inl ⟨l', e3, g2⟩
    · exact .inr h
  | [], .k _ :: _, _, _, _, _, ix, _, _ => ix.elim
  | [], .o _ :: _, _, _, _, _, ix, _, _ => ix.elim
  | _ :: _, [], _, _, _, _, ix, _, _ => ix.elim
  | _ :: _, _ :: _, [], _, _, _, _, _, hl => by simp at hl
  | [], [], _ :: _, _, _, _, _, _, hl => by simp at hl
def parS (is : List Nat) (f : XF) : SF := fun ρ c => match f ρ c with
  | none => .no
  | some (items, c1) => .nx (setsR ρ is items) c1
theorem sat_par {ta : TA} {f : XF} {K : PySem.W.Frag} (is : List Nat) {n : Nat} (hf : ∀ ρ c ds c', f ρ c = some (ds, c') → ds.length = n) (hn : is.length = n) (s : SatX K ta f) :
    ∀ (cup : Option Addr) (H0 : Hp) (O0 : Addr → Prop) (D : Ends) (σ : L2.St) (H : Hp) (ρ : Rho) (c : Cu) (Kn : List V → Hp → Prop), (∀ vs H1, vs.length = n → D.nx (setsS σ is vs) H1 → Kn vs H1) → RepS K H0 O0 cup H σ ρ c → Post K H0 O0 cup D (parS is f ρ c) → ta σ H Kn := by
  intro cup H0 O0 D σ H ρ c Kn hK R q
  obtain ⟨s0, O, a0, b0, n0, R0⟩ := R
  unfold parS at q
  split at q
  · exact q.elim
  rename_i items c1 e1
  refine s cup O σ H ρ c items c1 _ R0 e1 fun vs H1 O' s1 a b R1 ix => ?_
  have hl := hf _ _ _ _ e1
  have old : ∀ (j : Nat) (l : Ow) (ad : Addr), ρ[j]? = some (.own l) → σ[j]? = some (some (.ref ad)) → H ad ≠ none := fun j l ad e e2 => by
    obtain ⟨bd, o, g1, g2, g3, g4, g5⟩ := R0.own j l e
    rw [e2] at g1
    cases g1
    rw [g4]
    exact fun z => nomatch z
  obtain ⟨R2, own2⟩ := sets_rep (is := is) R1 ix (fun v hv j l e z => by
    obtain ⟨ad, rfl, hn⟩ := ixall_own ix v hv
    exact old j l ad e z hn) (by omega)
  refine hK vs H1 ((ixall_len ix).trans hl) (q _ _ ⟨s0.trans s1, O', fun x hx => a x (a0 x hx), fun x hx => ?_, fun j l ad e1 e2 => ?_, R2⟩)
  · rcases b x hx with y | y
    · exact b0 x y
    · by_cases z : O0 x
      · exact .inl z
      · right
        cases q : H0 x with
        | none => rfl
        | some u =>
          by_cases zc : cup = some x
          · exact absurd y (R0.dom x (R0.cupO x zc))
          · have := s0 x u q zc
            rw [y] at this; cases this
  · rcases own2 j l ad e1 e2 with ⟨l', g1, g2⟩ | g
    · exact n0 j l' ad g1 g2
    · exact fun z => R0.dom ad (a0 ad z) g
theorem ds_par (i j : Nat) {x y : Str} {a b : Expr} {f : XF} {px py pt pos : Pos} {kt k2 pt2} (hc : X.calm = true) (hN : X.N.Nodup) (hx2 : DX X [a, b] f) (hi : X.N[i]? = some x := by rfl) (hj : X.N[j]? = some y := by rfl) (hij : i ≠ j := by decide)
    (hx : X.env.scope.names.lookup x = some .local := by rfl) (hy : X.env.scope.names.lookup y = some .local := by rfl)
    (hw : swappedStores [.Tuple [.Name x px, .Name y py] kt pt] (.Tuple [a, b] k2 pt2) X.env = pure (some [x, y]) := by rfl)
    (hs : swapsWithSole [.Tuple [.Name x px, .Name y py] kt pt] (.Tuple [a, b] k2 pt2) pos.line X.env = pure false := by rfl) :
    DS X (.Assign [.Tuple [.Name x px, .Name y py] kt pt] (.Tuple [a, b] k2 pt2) pos) (parS [i, j] f) := by
  obtain ⟨⟨t, p, s⟩, hlen⟩ := hx2
  refine ⟨_, ps_par hc hN hi hj hij hx hy p hw hs, fun cup H0 O0 D σ H ρ c R q => ?_⟩
  refine sat_par [i, j] (n := 2) hlen rfl s cup H0 O0 D σ H ρ c _ (fun vs H1 hl h => ?_) R q
  match vs, hl, h with
  | [v, w], _, h => exact ⟨v, w, rfl, h⟩
theorem ds_par3 (i j l : Nat) {x y z : Str} {a b d : Expr} {f : XF} {px py pz pt pos : Pos} {kt k2 pt2} (hc : X.calm = true) (hN : X.N.Nodup) (hx2 : DX X [a, b, d] f) (hi : X.N[i]? = some x := by rfl) (hj : X.N[j]? = some y := by rfl) (hl : X.N[l]? = some z := by rfl) (hij : i ≠ j := by decide) (hil : i ≠ l := by decide) (hjl : j ≠ l := by decide)
    (hx : X.env.scope.names.lookup x = some .local := by rfl) (hy : X.env.scope.names.lookup y = some .local := by rfl) (hz : X.env.scope.names.lookup z = some .local := by rfl)
    (hw : swappedStores [.Tuple [.Name x px, .Name y py, .Name z pz] kt pt] (.Tuple [a, b, d] k2 pt2) X.env = pure (some [x, y, z]) := by rfl)
    (hs : swapsWithSole [.Tuple [.Name x px, .Name y py, .Name z pz] kt pt] (.Tuple [a, b, d] k2 pt2) pos.line X.env = pure false := by rfl) :
    DS X (.Assign [.Tuple [.Name x px, .Name y py, .Name z pz] kt pt] (.Tuple [a, b, d] k2 pt2) pos) (parS [i, j, l] f) := by
  obtain ⟨⟨t, p, s⟩, hlen⟩ := hx2
  refine ⟨_, ps_par3 hc hN hi hj hl hij hil hjl hx hy hz p hw hs, fun cup H0 O0 D σ H ρ c R q => ?_⟩
  refine sat_par [i, j, l] (n := 3) hlen rfl s cup H0 O0 D σ H ρ c _ (fun vs H1 hl h => ?_) R q
  match vs, hl, h with
  | [u, v, w], _, h => exact ⟨u, v, w, rfl, h⟩

/-! ### xs[k] = e, the cup's stores -/
def setIxS (i : Nat) (fi fe : EF) : SF := fun ρ c => match fe ρ c with
  | none => .no
  | some (d, c1) => match fi ρ c1 with
    | some (.int k, c2) => (match ρ[i]? with
      | some (.own (.lst xs)) => (match ixN xs.length k with
        | some j => .nx (ρ.set i (.own (.lst (xs.set j d)))) c2
        | none => .no)
      | _ => .no)
    | _ => .no
theorem ds_setIx (i : Nat) {x : Str} {p pos tp : Pos} {e ix : Expr} {fe fi : EF} (he : DE X true e fe) (hix : DE X m ix fi) (hN : X.N[i]? = some x := by rfl) (hv : Vis X.env.scope x := by first | exact Or.inl rfl | exact Or.inr (Or.inl rfl) | exact Or.inr (Or.inr rfl)) (hd : (x == ("__debug__" : Str)) = false := by decide)
    (hcd : (x == ("__classdict__" : Str)) = false := by decide) (hs : swapsWithSole [.Subscript (.Name x p) ix tp] e pos.line X.env = pure false := by rfl) (hw : swappedStores [.Subscript (.Name x p) ix tp] e X.env = pure none := by rfl)
    (h1 : (assignEach [.Subscript (.Name x p) ix tp] X.env).map (·.2) = [assign (.Subscript (.Name x p) ix tp) X.env] := by rfl) (hsub : ∀ v, assign (.Subscript (.Name x p) ix tp) X.env v = (do
      let ov ← holding [v] (eval (.Name x p) X.env)
      let iv ← holding [v, ov] (eval ix X.env)
      standAt tp
      holding [v, ov, iv] (setItem ov iv v)
      release [v, ov, iv] []) := by intro _; rfl) :
    DS X (.Assign [.Subscript (.Name x p) ix tp] e pos) (setIxS i fi fe) := by
  obtain ⟨t, pe, s⟩ := he
  obtain ⟨u, pi, s2⟩ := hix
  refine ⟨_, ps_asg pe (pg_sub (pe_var hN hv hd hcd) pi set_list hsub) hs hw h1, fun cup H0 O0 D σ H ρ c R q => ?_⟩
  obtain ⟨s0, O, a0, b0, n0, R0⟩ := R
  unfold setIxS at q
  split at q
  · exact q.elim
  rename_i d c1 e1
  split at q
  · rename_i k c2 e2
    split at q
    · rename_i xs e3
      split at q
      · rename_i j e4
        refine s cup O σ H ρ c _ _ _ R0 e1 fun v H1 hs1 k1 r1 => ?_
        have R1 := R0.step hs1 k1
        obtain ⟨a, o, h1, h2, h3, h4, h5⟩ := R1.own i _ e3
        cases o <;> first | exact h5.elim | skip
        rename_i vs
        refine ⟨.ref a, h1, ?_⟩
        refine s2 cup O σ H1 ρ c1 _ _ _ R1 e2 fun w H2 hs2 k2 r2 => ?_
        cases r2.int
        have g4 := hs2 _ _ h4 h3
        refine ⟨a, vs, k, j, rfl, rfl, g4, by rw [dpall_len h5]; exact e4, q σ _ ?_⟩
        refine .turn ((s0.trans hs1).trans hs2) a0 b0 n0 (R1.step hs2 k2) (k' := .lst (xs.set j d)) e3 h1 (fun b u hb _ n => by rw [upd_ne n]; exact hb) (fun b hb => ?_) upd_same fun sub => ?_
        · rw [upd_ne (fun z => h3 (by rw [hb, z]))]
          exact k2 b hb
        · exact da_set (dp_mono sub (dp_mono (hid_same hs2 R0.cupO) r1.kept)) j (dps_mono sub (dps_mono (hid_same hs2 R0.cupO) h5))
      · exact q.elim
    · exact q.elim
  · exact q.elim
def cupS (i : Nat) (j : Int) (fe : EF) : SF := fun ρ c => match fe ρ c with
  | some (.int n, c1) => (match ρ[i]? with
    | some .cup => if j = 0 then .nx ρ (n, c1.2) else if j = 1 then .nx ρ (c1.1, n) else .no
    | _ => .no)
  | _ => .no
theorem ds_cup (i : Nat) {x : Str} {p pos tp p3 : Pos} {j : Int} {w : Nat} {e : Expr} {fe : EF} (he : DE X m e fe) (hN : X.N[i]? = some x := by rfl) (hv : Vis X.env.scope x := by first | exact Or.inl rfl | exact Or.inr (Or.inl rfl) | exact Or.inr (Or.inr rfl)) (hd : (x == ("__debug__" : Str)) = false := by decide)
    (hcd : (x == ("__classdict__" : Str)) = false := by decide) (hs : swapsWithSole [.Subscript (.Name x p) (.Constant (.int j) w p3) tp] e pos.line X.env = pure false := by rfl) (hw : swappedStores [.Subscript (.Name x p) (.Constant (.int j) w p3) tp] e X.env = pure none := by rfl)
    (h1 : (assignEach [.Subscript (.Name x p) (.Constant (.int j) w p3) tp] X.env).map (·.2) = [assign (.Subscript (.Name x p) (.Constant (.int j) w p3) tp) X.env] := by rfl)
    (hsub : ∀ v, assign (.Subscript (.Name x p) (.Constant (.int j) w p3) tp) X.env v = (do
      let ov ← holding [v] (eval (.Name x p) X.env)
      let iv ← holding [v, ov] (eval (.Constant (.int j) w p3) X.env)
      standAt tp
      holding [v, ov, iv] (setItem ov iv v)
      release [v, ov, iv] []) := by intro _; rfl) :
    DS X (.Assign [.Subscript (.Name x p) (.Constant (.int j) w p3) tp] e pos) (cupS i j fe) := by
  obtain ⟨t, pe, s⟩ := he
  refine ⟨_, ps_asg pe (pg_sub (pe_var hN hv hd hcd) pe_int set_list hsub) hs hw h1, fun cup H0 O0 D σ H ρ c R q => ?_⟩
  obtain ⟨s0, O, a0, b0, n0, R0⟩ := R
  unfold cupS at q
  split at q
  · rename_i n c1 e1
    split at q
    · rename_i e2
      refine s cup O σ H ρ c _ _ _ R0 e1 fun v H1 hs1 k1 r1 => ?_
      have R1 := R0.step hs1 k1
      cases r1.int
      obtain ⟨a, rfl, ea⟩ := R1.cp i e2
      have hc := R1.cupA a rfl
      refine ⟨.ref a, ea, ?_⟩
      split at q
      · rename_i e3
        subst e3
        refine ⟨a, _, 0, 0, rfl, rfl, hc, rfl, q σ _ ?_⟩
        have st : SameC (some a) H1 (upd H1 a (.lst [.int n, .int c1.2])) := fun b u hb nb => by
          rw [upd_ne (fun z => nb (by rw [z]))]
          exact hb
        refine ⟨(s0.trans hs1).trans st, O, a0, b0, n0, R1.step st fun b hb => ?_⟩
        cases hb
        exact upd_same
      · split at q
        · rename_i e3
          subst e3
          refine ⟨a, _, 1, 1, rfl, rfl, hc, rfl, q σ _ ?_⟩
          have st : SameC (some a) H1 (upd H1 a (.lst [.int c1.1, .int n])) := fun b u hb nb => by
            rw [upd_ne (fun z => nb (by rw [z]))]
            exact hb
          refine ⟨(s0.trans hs1).trans st, O, a0, b0, n0, R1.step st fun b hb => ?_⟩
          cases hb
          exact upd_same
        · exact q.elim
    · exact q.elim
  · exact q.elim
end

/-! ### defs -/
def startR (n : Nat) (ds : List PyData) : Rho := ds.map .d ++ List.replicate (n - ds.length) .un
def outD : Out → Option PyData
  | .rt d _ => some d
  | .nx _ _ => some .none
  | _ => none
def outC : Out → Option (PyData × Cu)
  | .rt d c => some (d, c)
  | .nx _ c => some (.none, c)
  | _ => none
/-- a def without the cup: n slots -/
def fnD (n : Nat) (g : SF) : List PyData → Option PyData := fun ds => outD (g (startR n ds) (0, 0))
/-- a def whose first parameter is the cup -/
def fnC (n : Nat) (g : SF) : List PyData → Cu → Option (PyData × Cu) := fun ds c => outC (g (.cup :: startR (n - 1) ds) c)
theorem startR_get {n : Nat} {ds : List PyData} {i : Nat} {x : Sl} (h : (startR n ds)[i]? = some x) : (∃ d, ds[i]? = some d ∧ x = .d d) ∨ x = .un := by
  unfold startR at h
  by_cases hi : i < ds.length
  · rw [List.getElem?_append_left (by rw [List.length_map]; exact hi), List.getElem?_map, List.getElem?_eq_getElem hi] at h
    exact .inl ⟨ds[i], List.getElem?_eq_getElem hi, (Option.some.inj h).symm⟩
  · rw [List.getElem?_append_right (by rw [List.length_map]; omega), List.getElem?_replicate] at h
    split at h
    · exact .inr (Option.some.inj h).symm
    · cases h
theorem start_get {N : List Str} {vs : List V} {i : Nat} {v : V} (h : vs[i]? = some v) : (start N vs)[i]? = some (some v) := by
  have hi : i < vs.length := (List.getElem?_eq_some_iff.mp h).1
  unfold L2.start
  rw [List.getElem?_append_left (by rw [List.length_map]; exact hi), List.getElem?_map, h]
  rfl
theorem start_len {N : List Str} {vs : List V} (h : vs.length ≤ N.length) : (start N vs).length = N.length := by
  unfold L2.start
  rw [List.length_append, List.length_map, List.length_replicate]
  omega
theorem startR_len {n : Nat} {ds : List PyData} (h : ds.length ≤ n) : (startR n ds).length = n := by
  unfold startR
  rw [List.length_append, List.length_map, List.length_replicate]
  omega
theorem rep_start {K : PySem.W.Frag} {O : Addr → Prop} {H : Hp} {N : List Str} {vs : List V} {ds : List PyData} (hv : DaAll K (hid H O) vs ds) (dom : ∀ a, O a → H a ≠ none) (hl : ds.length ≤ N.length) : Rep K O none H (start N vs) (startR N.length ds) (0, 0) := by
  have hlen := dpall_len hv
  refine ⟨by rw [start_len (by omega), startR_len hl], fun i x e => ?_, fun i k e => ?_, fun i j k l a e => ?_, fun i e => ?_, fun i v e => ?_, fun a e => (by cases e), fun a e => (by cases e), dom⟩
  · rcases startR_get e with ⟨d, h, e2⟩ | e2
    · cases e2
      obtain ⟨v, g1, g2⟩ := da_get hv h
      exact ⟨v, start_get g1, g2⟩
    · cases e2
  all_goals
    rcases startR_get e with ⟨d, h, e2⟩ | e2
    · cases e2
    · cases e2
theorem rep_startC {K : PySem.W.Frag} {O : Addr → Prop} {H : Hp} {N : List Str} {a : Addr} {vs : List V} {ds : List PyData} {c : Cu} (hv : DaAll K (hid H O) vs ds) (dom : ∀ a, O a → H a ≠ none) (hl : ds.length + 1 ≤ N.length) (ha : O a) (hc : CupAt (some a) H c) :
    Rep K O (some a) H (start N (.ref a :: vs)) (.cup :: startR (N.length - 1) ds) c := by
  have hlen := dpall_len hv
  have get : ∀ {i : Nat} {x : Sl}, (Sl.cup :: startR (N.length - 1) ds)[i]? = some x → (i = 0 ∧ x = .cup) ∨ (∃ j d, i = j + 1 ∧ ds[j]? = some d ∧ x = .d d) ∨ x = .un := fun {i x} e => by
    cases i with
    | zero => exact .inl ⟨rfl, (Option.some.inj e).symm⟩
    | succ j =>
      rcases startR_get (show (startR (N.length - 1) ds)[j]? = some x from e) with ⟨d, h, e2⟩ | e2
      · exact .inr (.inl ⟨j, d, rfl, h, e2⟩)
      · exact .inr (.inr e2)
  refine ⟨?_, fun i x e => ?_, fun i k e => ?_, fun i j k l a e => ?_, fun i e => ?_, fun i v e => ?_, hc, fun b e => (by cases e; exact ha), dom⟩
  · rw [start_len (by rw [List.length_cons]; omega), List.length_cons, startR_len (by omega)]
    omega
  · rcases get e with ⟨_, z⟩ | ⟨j, d, rfl, h, z⟩ | z
    · cases z
    · cases z
      obtain ⟨v, g1, g2⟩ := da_get hv h
      exact ⟨v, start_get (by simpa using g1), g2⟩
    · cases z
  · rcases get e with ⟨_, z⟩ | ⟨j, d, rfl, h, z⟩ | z <;> cases z
  · rcases get e with ⟨_, z⟩ | ⟨j, d, rfl, h, z⟩ | z <;> cases z
  · rcases get e with ⟨rfl, z⟩ | ⟨j, d, rfl, h, z⟩ | z
    · exact ⟨a, rfl, start_get rfl⟩
    · cases z
    · cases z
  · rcases get e with ⟨_, z⟩ | ⟨j, d, rfl, h, z⟩ | z <;> cases z
section
variable {P : Program} {w : World} {K : PySem.W.Frag} {mg : Str → Option Value} {base : Heap}
theorem ps_len {N ps : List Str} {sc : Scope} (S : FnScope N ps sc) : ps.length ≤ N.length := by
  have := congrArg List.length S.pre
  rw [List.length_take] at this
  omega
theorem def_ok {x qual : Str} {st : Stmt} {f : Addr} {fd : FuncData} {N ps : List Str} {k : Nat} {g : SF} (F : Fun K x qual st f fd) (S : FnScope N ps (defScope st))
    (body : ∀ (cdv : Value) (A : Around) (outer : List Env) (s : Shared) (H : Hp) (E : XK), Room k (A.deeper (envOfC qual (defScope st) s.heap.objs.size f cdv)) →
      DSs (cxOf CX0 P w K mg base N qual (defScope st) f cdv A outer s H E).nox (defBody st) g) : FnOk P w K mg base CX0 (k + 1) f fd ps (spD K ps.length (fnD N.length g)) := by
  refine F.ok S (fun vs H Q E h => ?_) (fun cdv A outer s H vs Q E hr h => ?_)
  · obtain ⟨O, ds, d, hl, _, hv, _⟩ := h
    exact (dpall_len hv).trans hl
  · obtain ⟨O, ds, d, hl, dom, hv, hf, q⟩ := h
    obtain ⟨t, p, sat⟩ := body cdv A outer s H E hr
    refine ⟨t, p, sat none H O _ _ H (startR N.length ds) (0, 0) ⟨.refl H, O, fun _ h => h, fun _ h => .inl h, fun i k a e => ?_, rep_start hv dom (by rw [hl]; exact ps_len S)⟩ ?_⟩
    · rcases startR_get e with ⟨d, h, e2⟩ | e2 <;> cases e2
    · unfold fnD outD at hf
      split at hf
      · rename_i e
        cases hf
        rw [e]
        exact fun v H' s1 _ h => q v H' (fun b o hb => s1 b o hb (fun z => nomatch z)) h
      · rename_i e
        cases hf
        rw [e]
        exact fun σ' H' R => q .non H' (fun b o hb => R.same b o hb (fun z => nomatch z)) .non
      · cases hf
theorem def_okC {x qual : Str} {st : Stmt} {f : Addr} {fd : FuncData} {N ps : List Str} {k n : Nat} {g : SF} (F : Fun K x qual st f fd) (S : FnScope N ps (defScope st)) (hn : ps.length = n + 1)
    (body : ∀ (cdv : Value) (A : Around) (outer : List Env) (s : Shared) (H : Hp) (E : XK), Room k (A.deeper (envOfC qual (defScope st) s.heap.objs.size f cdv)) →
      DSs (cxOf CX0 P w K mg base N qual (defScope st) f cdv A outer s H E).nox (defBody st) g) : FnOk P w K mg base CX0 (k + 1) f fd ps (spC K n (fnC N.length g)) := by
  refine F.ok S (fun vs H Q E h => ?_) (fun cdv A outer s H vs Q E hr h => ?_)
  · obtain ⟨O, a, ws, ds, c, d, c', rfl, hl, _, _, _, hv, _⟩ := h
    rw [List.length_cons, dpall_len hv, hl, hn]
  · obtain ⟨O, a, ws, ds, c, d, c', rfl, hl, dom, ha, hc, hv, hf, q⟩ := h
    obtain ⟨t, p, sat⟩ := body cdv A outer s H E hr
    have hN := ps_len S
    refine ⟨t, p, sat (some a) H O _ _ H (.cup :: startR (N.length - 1) ds) c ⟨.refl H, O, fun _ h => h, fun _ h => .inl h, fun i k b e => ?_, rep_startC hv dom (by omega) ha hc⟩ ?_⟩
    · cases i with
      | zero => cases e
      | succ j => rcases startR_get (show (startR (N.length - 1) ds)[j]? = some (.own k) from e) with ⟨d, h, e2⟩ | e2 <;> cases e2
    · unfold fnC outC at hf
      split at hf
      · rename_i e
        cases hf
        rw [e]
        exact q
      · rename_i e
        cases hf
        rw [e]
        exact fun σ' H' R => q .non H' R.same (by obtain ⟨O', _, _, _, R'⟩ := R.ex; exact R'.cupA) .non
      · cases hf
/-- a promise that nobody can ask -/
theorem fn_none {k : Nat} {f : Addr} {fd : FuncData} {ps : List Str} : FnOk P w K mg base CX0 k f fd ps (spD K ps.length fun _ => none) :=
  ⟨fun vs H Q E h => (by obtain ⟨_, _, _, _, _, _, e, _⟩ := h; cases e), fun A outer s H args us vs Q E hr he hb hv h => by obtain ⟨_, _, _, _, _, _, e, _⟩ := h; cases e⟩
end
end PL

set_option Elab.async false
set_option linter.all false
set_option maxRecDepth 100000
namespace PL
open PySem PySem.Spec PyProof.Rows L2 RZ

/-! ### a def of the text, what it is worth -/
structure DefAt (K : PySem.W.Frag) (mg : Str → Option Value) (x : Str) (st : Stmt) : Prop where
  ex : ∃ f fd, Fun K x x st f fd ∧ mg x = some (.ref f)
structure OkD (P : Program) (w : World) (K : PySem.W.Frag) (mg : Str → Option Value) (base : Heap) (k : Nat) (x : Str) (n : Nat) (F : List PyData → Option PyData) : Prop where
  ex : ∃ f fd ps, FnOk P w K mg base CX0 k f fd ps (spD K n F) ∧ mg x = some (.ref f) ∧ PySem.W.keepIn K (.ref f) = true ∧ Binds K fd ps []
structure OkC (P : Program) (w : World) (K : PySem.W.Frag) (mg : Str → Option Value) (base : Heap) (k : Nat) (x : Str) (n : Nat) (F : List PyData → Cu → Option (PyData × Cu)) : Prop where
  ex : ∃ f fd ps, FnOk P w K mg base CX0 k f fd ps (spC K n F) ∧ mg x = some (.ref f) ∧ PySem.W.keepIn K (.ref f) = true ∧ Binds K fd ps []
section
variable {P : Program} {w : World} {K : PySem.W.Frag} {mg : Str → Option Value} {base : Heap}
theorem defAt_mk {x : Str} {st : Stmt} {f : Addr} {oc : Value} {od an : Option Addr} {osl : Array (Option Value)} {kV doc pm cdv ct : Value} {h : Heap} (X : K.In h) (G : h.Ns mainGlobals mg) (a : PySem.W.nsIn K mainGlobals x = some (some (.ref f)))
    (l : K.lookup f = some ⟨oc, od, .func (PySem.W.fnOf x x (defArgs st) (defBody st) (defScope st) .none kV doc pm an cdv ct), osl⟩) (c : PySem.W.codeIn K cdv x = true) (k : PySem.W.keepIn K (.ref f) = true) : DefAt K mg x st :=
  ⟨f, _, fun_mk (st := st) l c k, PySem.W.mg_of X G a⟩
theorem okD_mk {x : Str} {st : Stmt} {f : Addr} {fd : FuncData} {N ps : List Str} {k : Nat} {g : SF} (F : Fun K x x st f fd) (hm : mg x = some (.ref f)) (S : FnScope N ps (defScope st))
    (hb : ∀ (kV doc pm : Value) (an : Option Addr) (cdv ct : Value) (us : List Value), us.length = ps.length → bindArgs (PySem.W.fnOf x x (defArgs st) (defBody st) (defScope st) .none kV doc pm an cdv ct) ⟨us, []⟩ = pure (ps.zip us))
    (body : ∀ (cdv : Value) (A : Around) (outer : List Env) (s : Shared) (H : Hp) (E : XK), Room k (A.deeper (envOfC x (defScope st) s.heap.objs.size f cdv)) →
      DSs (cxOf CX0 P w K mg base N x (defScope st) f cdv A outer s H E).nox (defBody st) g) : OkD P w K mg base (k + 1) x ps.length (fnD N.length g) :=
  ⟨f, fd, ps, def_ok F S body, hm, F.kp, F.binds hb⟩
theorem okC_mk {x : Str} {st : Stmt} {f : Addr} {fd : FuncData} {N ps : List Str} {k n : Nat} {g : SF} (F : Fun K x x st f fd) (hm : mg x = some (.ref f)) (S : FnScope N ps (defScope st)) (hn : ps.length = n + 1)
    (hb : ∀ (kV doc pm : Value) (an : Option Addr) (cdv ct : Value) (us : List Value), us.length = ps.length → bindArgs (PySem.W.fnOf x x (defArgs st) (defBody st) (defScope st) .none kV doc pm an cdv ct) ⟨us, []⟩ = pure (ps.zip us))
    (body : ∀ (cdv : Value) (A : Around) (outer : List Env) (s : Shared) (H : Hp) (E : XK), Room k (A.deeper (envOfC x (defScope st) s.heap.objs.size f cdv)) →
      DSs (cxOf CX0 P w K mg base N x (defScope st) f cdv A outer s H E).nox (defBody st) g) : OkC P w K mg base (k + 1) x n (fnC N.length g) :=
  ⟨f, fd, ps, def_okC F S hn body, hm, F.kp, F.binds hb⟩
end
section
variable {X : Cx} {m : Bool} {e : Expr} {es : List Expr} {f : AF} {p pos : Pos} {k n : Nat} {x : Str}
theorem de_callO {F : List PyData → Option PyData} (G : OkD X.prog X.w X.K X.mg X.base k x n F) (hr : Room k X.A) (ha : DA X true (e :: es) f) (hn : (e :: es).length = n := by rfl) (hgl : Gl X x := by rfl) (hdb : (x == ("__debug__" : Str)) = false := by decide)
    (he : starEach (e :: es) X.env = (false, eval e X.env) :: starEach es X.env := by rfl) (hpl : (backTo pos (starEach es X.env)).any (·.1) = false := by rfl) : DE X true (.Call (.Name x p) (e :: es) [] pos) (callB F f) := by
  obtain ⟨fa, fd, ps, h1, h2, h3, h4⟩ := G
  exact de_call h1 hr h2 h3 h4 ha hn hgl hdb he hpl
theorem de_callCO {i : Nat} {y : Str} {p2 : Pos} {F : List PyData → Cu → Option (PyData × Cu)} (G : OkC X.prog X.w X.K X.mg X.base k x n F) (hr : Room k X.A) (hN : X.N[i]? = some y) (hvs : Vis X.env.scope y) (ha : DA X true es f) (hn : es.length = n := by rfl) (hgl : Gl X x := by rfl) (hdb : (x == ("__debug__" : Str)) = false := by decide)
    (hdy : (y == ("__debug__" : Str)) = false := by decide) (hcd : (y == ("__classdict__" : Str)) = false := by decide)
    (he : starEach (.Name y p2 :: es) X.env = (false, eval (.Name y p2) X.env) :: starEach es X.env := by rfl) (hpl : (backTo pos (starEach es X.env)).any (·.1) = false := by rfl) : DE X true (.Call (.Name x p) (.Name y p2 :: es) [] pos) (callC i F f) := by
  obtain ⟨fa, fd, ps, h1, h2, h3, h4⟩ := G
  exact de_callC h1 hr h2 h3 h4 hN hvs ha hn hgl hdb hdy hcd he hpl
theorem de_globE {i : Int} (hm : ∃ t, X.mg x = some (.int i t)) (hg : Gl X x := by rfl) (hd : (x == ("__debug__" : Str)) = false := by decide) : DE X true (.Name x pos) (cE (.int i)) := by
  obtain ⟨t, hm⟩ := hm
  exact de_glob hm hg hd
theorem or_min (hc : X.calm = true) : CallR X (.builtin "min") (fun xs H Q => (∃ i j, xs = [.int i, .int j] ∧ Q (.int (if j < i then j else i)) H) ∨ rMin X.K xs H Q) := (call_min2 hc).or (cr_min hc)
theorem or_max (hc : X.calm = true) : CallR X (.builtin "max") (fun xs H Q => (∃ i j, xs = [.int i, .int j] ∧ Q (.int (if j > i then j else i)) H) ∨ rMax X.K xs H Q) := (call_max2 hc).or (cr_max hc)
theorem or_sum (hc : X.calm = true) : CallR X (.builtin "sum") (rSum X.K) := cr_sum hc
/-! ### comparisons as tests -/
theorem sat_tst {t : TE} {f : EF} (s : SatE X.K m t f) : SatB X.K (tTest t) (tstB f) := by
  intro cup O σ H ρ c b c' Q R hf q
  unfold tstB at hf
  split at hf
  · rename_i e1
    cases hf
    exact s cup O σ H ρ c _ _ _ R e1 fun v H1 h1 k1 r1 => ⟨_, r1.bool, q H1 h1 k1⟩
  · cases hf
theorem db_cmp {m1 m2 : Bool} {a b : Expr} {f1 f2 : EF} {op : CmpOp} {r : R2} {g : PyData → PyData → Option PyData} (ho : OpR X (compareOp op) r) (hg : OpD X m1 m2 r g) (ha : DE X m1 a f1) (hb : DE X m2 b f2) (hm : behindInMarks op b = false) : DB X (.Compare a [op] [b] pos) (tstB (opE g f1 f2)) := by
  obtain ⟨t1, p1, s1⟩ := ha
  obtain ⟨t2, p2, s2⟩ := hb
  exact ⟨_, pt_cmpR ho p1 p2 hm, sat_tst (sat_op hg s1 s2)⟩
theorem db_chain {a b cc : Expr} {f1 f2 f3 : EF} {op op' : CmpOp} {r r' : R2} {g g' : PyData → PyData → Option PyData} (ho : OpR X (compareOp op) r) (hg : OpD X true true r g) (ho' : OpR X (compareOp op') r') (hg' : OpD X true true r' g')
    (ha : DE X true a f1) (hb : DE X true b f2) (hc : DE X true cc f3) (hm : lastMarks [op, op'] [b, cc] = false := by with_unfolding_all rfl) : DB X (.Compare a [op, op'] [b, cc] pos) (tstB (chE g g' f1 f2 f3)) := by
  obtain ⟨t1, p1, s1⟩ := ha
  obtain ⟨t2, p2, s2⟩ := hb
  obtain ⟨t3, p3, s3⟩ := hc
  exact ⟨_, pt_chain ho ho' p1 p2 p3 hm, sat_tst (sat_chain hg hg' s1 s2 s3)⟩
end
end PL

set_option Elab.async false
set_option linter.all false
set_option maxRecDepth 100000
namespace PL
open PySem PySem.Spec PyProof.Rows L2 RZ

theorem hu65 {A : Around} {k : Nat} (hr : Room k A) : A.units + 65 < cLine := by
  have := hr.un
  omega
/-! ### the law's cup and its end -/
def CupOk (c : Cu) : Prop := 0 ≤ c.1 ∧ 0 ≤ c.2 ∧ c.2 < 4294967296
def spCup (K : PySem.W.Frag) : Sp := fun vs H Q _ => ∃ (a : Addr) (ns : List Int), vs = [.ref a] ∧ SqL K H a (ns.map V.int) ∧ ns.length ≤ 63 ∧
  ∀ (H' : Hp) (p : Addr) (x y : Int), Same H H' → H p = none → H' p = some (.lst [.int x, .int y]) → CupOk (x, y) → Q (.ref p) H'
def spLaw (K : PySem.W.Frag) : Sp := fun vs H Q _ => ∃ (a : Addr) (ns : List Int), vs = [.ref a] ∧ SqL K H a (ns.map V.int) ∧ ns.length ≤ 63 ∧ ∀ H', Q (.bl true) H'
def retX : List Stmt → Expr
  | [_, .Return (some e) _] => e
  | _ => .Constant .none 0 ⟨0, 0, 0, 0⟩
section
variable {K : PySem.W.Frag}
/-- the first row of the cup's def, by hand; behind it a new list by the layer -/
theorem cup_start {t : TE} {f : Rho → Cu → Option (Ow × Cu)} (s : SatF K t f) {H H3 : Hp} {v : V} {cell : Int} {Q : VK} (sm : Same H H3)
    (hf : ∃ x y, f [.un, .d (.int cell)] (0, 0) = some (.lst [.int x, .int y], (0, 0)) ∧ CupOk (x, y))
    (q : ∀ (H' : Hp) (p : Addr) (x y : Int), Same H H' → H p = none → H' p = some (.lst [.int x, .int y]) → CupOk (x, y) → Q (.ref p) H') : t [some v, some (.int cell)] H3 Q := by
  obtain ⟨x, y, e, ok⟩ := hf
  have R : Rep K (fun _ => False) none H3 [some v, some (V.int cell)] [.un, .d (.int cell)] (0, 0) := by
    refine ⟨rfl, fun i z e => ?_, fun i k e => ?_, fun i j k l a e => ?_, fun i e => ?_, fun i w e => ?_, fun a e => (by cases e), fun a e => (by cases e), fun a e => e.elim⟩
    all_goals
      match i, e with
      | 0, e => cases e
      | 1, e => first | (cases e; exact ⟨_, rfl, .int _⟩) | cases e
      | i + 2, e => cases e
  refine s none (fun _ => False) _ H3 _ _ _ _ Q R e fun a o H' s1 _ n1 g1 w1 => ?_
  cases o <;> first | exact w1.elim | skip
  rename_i vs
  have ev : vs = [V.int x, V.int y] := da_ints w1 rfl
  subst ev
  have s2 : Same H3 H' := fun b o h => s1 b o h (fun z => nomatch z)
  exact q H' a x y (sm.trans s2) (sm.free n1) g1 ok
/-- the law behind its first row -/
theorem law_start {t : TS} {g : SF} {n : Nat} (s : SatS K t g) {H1 : Hp} {p : Addr} {v : V} {x y : Int} {Q : VK} (hh : H1 p = some (.lst [.int x, .int y])) (ok : CupOk (x, y))
    (M : ∀ c, CupOk c → ∃ c', g (.un :: .cup :: List.replicate n .un) c = .rt (.bool true) c') (q : ∀ H', Q (.bl true) H') : t { nx := fun _ H' => Q .non H', rt := Q } (some v :: some (.ref p) :: List.replicate n none) H1 := by
  obtain ⟨c', e⟩ := M (x, y) ok
  have get : ∀ {i : Nat} {z : Sl}, (Sl.un :: Sl.cup :: List.replicate n Sl.un)[i]? = some z → (i = 1 ∧ z = .cup) ∨ z = .un := fun {i z} e => by
    match i, e with
    | 0, e => exact .inr (Option.some.inj e).symm
    | 1, e => exact .inl ⟨rfl, (Option.some.inj e).symm⟩
    | i + 2, e =>
      have e' : (List.replicate n Sl.un)[i]? = some z := e
      rw [List.getElem?_replicate] at e'
      split at e'
      · exact .inr (Option.some.inj e').symm
      · cases e'
  have cupA : CupAt (some p) H1 (x, y) := fun a e => by cases e; exact hh
  refine s (some p) H1 (fun b => b = p) _ _ H1 (.un :: .cup :: List.replicate n .un) (x, y) ⟨.refl H1, fun b => b = p, fun _ h => h, fun _ h => .inl h, fun i k a e => ?_, ⟨?_, fun i z e => ?_, fun i k e => ?_, fun i j k l a e => ?_, fun i e => ?_, fun i w e => ?_, cupA, fun a e => ?_, fun a e => ?_⟩⟩ ?_
  · rcases get e with ⟨_, z⟩ | z <;> cases z
  · rw [List.length_cons, List.length_cons, List.length_cons, List.length_cons, List.length_replicate, List.length_replicate]
  · rcases get e with ⟨_, z⟩ | z <;> cases z
  · rcases get e with ⟨_, z⟩ | z <;> cases z
  · rcases get e with ⟨_, z⟩ | z <;> cases z
  · rcases get e with ⟨rfl, z⟩ | z
    · exact ⟨p, rfl, rfl⟩
    · cases z
  · rcases get e with ⟨_, z⟩ | z <;> cases z
  · cases e; rfl
  · subst e
    rw [hh]
    exact fun z => nomatch z
  · rw [e]
    exact fun w H' _ _ h => by cases h; exact q H'
end
theorem cst_mk {K : PySem.W.Frag} {mg : Str → Option Value} {x : Str} {i : Int} {t : Tok} {h : Heap} (X : K.In h) (G : h.Ns mainGlobals mg) (a : PySem.W.nsIn K mainGlobals x = some (some (.int i t))) : ∃ t, mg x = some (.int i t) := ⟨t, PySem.W.mg_of X G a⟩
end PL

set_option Elab.async false
set_option linter.all false
set_option maxRecDepth 100000
namespace PL
open PySem PySem.Spec PyProof.Rows L2 RZ
/-! ### xs.index(i), ints -/
def indexD : PyData → PyData → Option PyData
  | .list xs, .int i => match intsOf xs with
    | some ns => if i ∈ ns then some (.int (ns.idxOf i : Nat)) else none
    | none => none
  | _, _ => none
theorem idx_before {ns : List Int} {i z : Int} {m : Nat} (h : m < ns.idxOf i) (hz : ns[m]? = some z) : z ≠ i := by
  induction ns generalizing m with
  | nil => cases hz
  | cons a r ih =>
    rw [List.idxOf_cons] at h
    by_cases q : a = i
    · subst q
      simp at h
    · have hb : (a == i) = false := by simpa using q
      rw [hb] at h
      cases m with
      | zero => cases hz; exact q
      | succ m => exact ih (Nat.lt_of_succ_lt_succ h) hz
section
variable {X : Cx} {m : Bool} {o e : Expr} {f1 f2 : EF} {apos cpos : Pos}
theorem de_index (ho : DE X m o f1) (he : DE X true e f2) (hbase : attributeBase o "index" X.env (eval o X.env) = eval o X.env := by rfl)
    (hfew : ((backTo cpos (starEach [e] X.env)).all (fun x => !x.1) && (backToKw cpos (keywordEach [] X.env)).all (fun x => x.1.isSome)
      && decide ([e].length + ([] : List Keyword).length + (if ([] : List Keyword).isEmpty then 0 else 1) < 30)) = true := by rfl)
    (hline : (apos.endLine == cpos.line) = true := by rfl) (hs : starEach [e] X.env = (false, eval e X.env) :: starEach [] X.env := by rfl) :
    DE X true (.Call (.Attribute o "index" apos) [e] [] cpos) (opE indexD f1 f2) := by
  obtain ⟨t1, p1, s1⟩ := ho
  obtain ⟨t2, p2, s2⟩ := he
  refine ⟨_, pe_bm PySem.F.plainAttrs_list PySem.F.slot_list_index PySem.F.type_list_index mt_index p1 (pa_cons p2 pa_nil hs) hbase hfew hline hs rfl, fun cup O σ H ρ c d c' Q R hf q => ?_⟩
  obtain ⟨a, c1, b, e1, e2, e3⟩ := opE_inv hf
  refine s1 cup O σ H ρ c a c1 _ R e1 fun v H1 h1 k1 r1 => ?_
  have R1 := R.step h1 k1
  unfold indexD at e3
  split at e3
  · rename_i xs i
    split at e3
    · rename_i ns en
      split at e3
      · rename_i hi
        cases e3
        obtain ⟨p, vs, rfl, g1, a1⟩ := r1.list
        refine ⟨.inl ⟨rfl, _, .of g1⟩, ?_⟩
        refine s2 cup O σ H1 ρ c1 _ _ _ R1 e2 fun w H2 h2 k2 r2 => ?_
        have R2 := R1.step h2 k2
        obtain ⟨p', vs', ep, g2, a2⟩ := (r1.step h2 R.cupO).list
        cases ep
        cases r2.int
        have ev := da_ints a2 en
        subst ev
        have hl : ns.idxOf i < ns.length := List.idxOf_lt_length_iff.mpr hi
        refine ⟨p, ns.map V.int, .int i, ns.idxOf i, .int i, rfl, rfl, .of g2, rfl, ?_, ?_, ?_, ?_, ?_⟩
        · rw [List.all_map]
          exact List.all_eq_true.mpr fun _ _ => rfl
        · rw [List.getElem?_map, List.getElem?_eq_getElem hl, List.getElem_idxOf hl]
          rfl
        · simp [eqV]
        · intro m z hm hz
          rw [List.getElem?_map] at hz
          cases hq : ns[m]? with
          | none => rw [hq] at hz; cases hz
          | some y =>
            rw [hq] at hz
            cases hz
            have := idx_before hm hq
            simp [eqV, this]
        · exact q _ H2 (h1.trans h2) k2 (.inl (.int _))
      · cases e3
    · cases e3
  · cases e3
end
end PL

set_option Elab.async false
set_option linter.all false
set_option maxRecDepth 100000
namespace PL
open PySem PySem.Spec PyProof.Rows L2 RZ
/-! ### min and max of a list of tuples of ints; sum of a tuple -/
abbrev tupP (t : List Int) : PyData := .tuple (t.map .int)
def tupsOf : List PyData → Option (List (List Int))
  | [] => some []
  | .tuple xs :: r => match intsOf xs, tupsOf r with
    | some ns, some q => some (ns :: q)
    | _, _ => none
  | _ => none
@[simp] theorem tupsOf_map : ∀ ts : List (List Int), tupsOf (ts.map tupP) = some ts
  | [] => rfl
  | t :: r => by
    rw [List.map_cons]
    unfold tupsOf
    rw [intsOf_map, tupsOf_map r]
theorem ints_eq : ∀ {xs : List PyData} {ns : List Int}, intsOf xs = some ns → xs = ns.map .int
  | [], ns, h => by
    cases h
    rfl
  | x :: r, ns, h => by
    unfold intsOf at h
    split at h
    · rename_i a
      cases a
    · rename_i i q e
      cases e
      split at h
      · rename_i m hm
        cases h
        rw [ints_eq hm]
        rfl
      · cases h
    · cases h
theorem tups_eq : ∀ {xs : List PyData} {ts : List (List Int)}, tupsOf xs = some ts → xs = ts.map tupP
  | [], ts, h => by
    cases h
    rfl
  | x :: r, ts, h => by
    unfold tupsOf at h
    split at h
    · rename_i a
      cases a
    · rename_i ys q e
      cases e
      split at h
      · rename_i m k h1 h2
        cases h
        rw [tups_eq h2, ints_eq h1]
        rfl
      · cases h
    · cases h
def leastT (t : List Int) (ts : List (List Int)) : List Int := ts.foldl (fun a y => if HT.lexLt y a then y else a) t
def mostT (t : List Int) (ts : List (List Int)) : List Int := ts.foldl (fun a y => if HT.lexLt a y then y else a) t
theorem lex_same : ∀ a b : List Int, PySem.W.listLt a b = HT.lexLt a b
  | [], [] => rfl
  | [], _ :: _ => rfl
  | _ :: _, [] => rfl
  | x :: xs, y :: ys => by
    rw [PySem.W.listLt, HT.lexLt_cons, lex_same xs ys]
    rfl
theorem least_data (t : List Int) (ts : List (List Int)) : PySem.W.minD (tupP t) (ts.map tupP) = tupP (leastT t ts) := by
  have e := PySem.W.minD_map (α := PySem.W.Tup Int) ⟨t⟩ (ts.map PySem.W.Tup.mk)
  rw [List.map_map] at e
  have e2 : (PySem.W.minOf (⟨t⟩ : PySem.W.Tup Int) (ts.map PySem.W.Tup.mk)).items = leastT t ts := by
    unfold PySem.W.minOf leastT
    clear e
    induction ts generalizing t with
    | nil => rfl
    | cons y r ih =>
      rw [List.map_cons, List.foldl_cons, List.foldl_cons, ← ih]
      have : PySem.W.DatumOrd.lt (⟨y⟩ : PySem.W.Tup Int) ⟨t⟩ = HT.lexLt y t := lex_same y t
      rw [this]
      cases HT.lexLt y t <;> rfl
  exact e.trans (congrArg tupP e2)
theorem most_data (t : List Int) (ts : List (List Int)) : PySem.W.maxD (tupP t) (ts.map tupP) = tupP (mostT t ts) := by
  have e := PySem.W.maxD_map (α := PySem.W.Tup Int) ⟨t⟩ (ts.map PySem.W.Tup.mk)
  rw [List.map_map] at e
  have e2 : (PySem.W.maxOf (⟨t⟩ : PySem.W.Tup Int) (ts.map PySem.W.Tup.mk)).items = mostT t ts := by
    unfold PySem.W.maxOf mostT
    clear e
    induction ts generalizing t with
    | nil => rfl
    | cons y r ih =>
      rw [List.map_cons, List.foldl_cons, List.foldl_cons, ← ih]
      have : PySem.W.DatumOrd.lt (⟨t⟩ : PySem.W.Tup Int) ⟨y⟩ = HT.lexLt t y := lex_same t y
      rw [this]
      cases HT.lexLt t y <;> rfl
  exact e.trans (congrArg tupP e2)
theorem lay_ints : ∀ t : List Int, PyData.canLayAll0 (t.map .int) = true
  | [] => rfl
  | _ :: r => by simp [PyData.canLayAll0, PyData.canLay0, lay_ints r]
theorem lay_tups : ∀ ts : List (List Int), PyData.canLayAll0 (ts.map tupP) = true
  | [] => rfl
  | t :: r => by simp [PyData.canLayAll0, PyData.canLay0, lay_tups r, lay_ints t]
theorem alike_tups (ts : List (List Int)) : PySem.W.AlikeAll (ts.map tupP) := by
  have := PySem.W.alikeAll_datum (α := PySem.W.Tup Int) (ts.map PySem.W.Tup.mk)
  rw [List.map_map] at this
  exact this
theorem depth_tups (ts : List (List Int)) : PyData.depthAll (ts.map tupP) ≤ 1 := by
  have := PySem.W.depthAll_map (α := PySem.W.Tup Int) (ts.map PySem.W.Tup.mk)
  rw [List.map_map] at this
  exact this
section
variable {X : Cx} {m : Bool}
def rBestT (f : List Int → List (List Int) → List Int) (K : PySem.W.Frag) : List V → Hp → VK → Prop := fun vs H Q => ∃ (a : Addr) (xs : List V) (t : List Int) (ts : List (List Int)), vs = [V.ref a] ∧ SqL K H a xs ∧ DpAll K H xs ((t :: ts).map tupP) ∧
  ∀ (i : Nat) (u : V), xs[i]? = some u → (t :: ts)[i]? = some (f t ts) → Q u H
theorem best_at {pins : List (Addr × Obj)} {σ : L2.St} {H : Hp} {s : Shared} {xs : List V} {its : List Value} {t b : List Int} {ts : List (List Int)} {as bs : List Addr} {h' : Heap} {i : Nat} {v : Value}
    (rv : Vals xs its) (h4 : ReadsAll s.heap its ((t :: ts).map tupP) as) (hi : its.toArray[i]? = some v) (rr : Reads h' v (tupP b) bs) (hk : ∀ b o, s.heap.get? b = some o → h'.get? b = some o) :
    ∃ u, xs[i]? = some u ∧ RelV u v ∧ (t :: ts)[i]? = some b := by
  have hi2 : its[i]? = some v := by simpa using hi
  obtain ⟨hlt, _⟩ := List.getElem?_eq_some_iff.mp hi2
  have hlen := rv.length
  have hx : i < xs.length := by omega
  obtain ⟨u, hu, ru⟩ := rv.get (List.getElem?_eq_getElem hx)
  rw [hi2] at hu
  cases hu
  refine ⟨_, List.getElem?_eq_getElem hx, ru, ?_⟩
  have hn : its.length = ((t :: ts).map tupP).length := SeqAt.ReadsAll.length _ its as h4
  rw [List.length_map] at hn
  have ht : i < (t :: ts).length := by omega
  obtain ⟨cs, r1, _⟩ := PySem.W.readsAll_at h4 i v hi2
  have e1 : ((t :: ts).map tupP).getD i .none = tupP ((t :: ts)[i]) := by
    rw [List.getD_eq_getElem?_getD, List.getElem?_map, List.getElem?_eq_getElem ht]
    rfl
  rw [e1] at r1
  have l1 : ∀ z : List Int, (tupP z).canLay0 = true := fun z => by
    show PyData.canLay0 (.tuple _) = true
    simp only [PyData.canLay0]
    exact lay_ints z
  have q1 := SeqAt.readOf_eq (l1 _) (Reads.keeps hk r1)
  have q2 := SeqAt.readOf_eq (l1 _) rr
  rw [q1] at q2
  have q3 : ((t :: ts)[i]).map PyData.int = b.map PyData.int := by
    injection q2
  have q4 : intsOf (((t :: ts)[i]).map PyData.int) = intsOf (b.map PyData.int) := by rw [q3]
  rw [intsOf_map, intsOf_map] at q4
  rw [List.getElem?_eq_getElem ht, Option.some.inj q4]
theorem cr_minT (hc : X.calm = true) (hu : X.A.units + 65 < cLine) : CallR X (.builtin "min") (rBestT leastT X.K) := by
  intro pins s σ H vs us Q I r h
  obtain ⟨a, xs, t, ts, rfl, hs, ha, q⟩ := h
  obtain ⟨its, rv, hl, _⟩ := I.list hs
  rw [Vals.ref1 r]
  obtain ⟨as, h4⟩ := Dp.readsAll I _ _ its ha rv
  have hd := depth_tups (t :: ts)
  refine PySem.W.min_list_data (I.ok.hd hc) hl.isList (x := tupP t) (xs := ts.map tupP) (by simpa using h4) (alike_tups (t :: ts)) (by rw [List.map_cons] at hd; omega) fun i v h' tk bs hi rr hk => ?_
  rw [least_data] at rr
  obtain ⟨u, e1, e2, e3⟩ := best_at (pins := pins) (σ := σ) (H := H) (s := s) rv h4 hi rr hk
  exact ⟨u, H, I.kept hk, e2, q i u e1 e3⟩
theorem cr_maxT (hc : X.calm = true) (hu : X.A.units + 65 < cLine) : CallR X (.builtin "max") (rBestT mostT X.K) := by
  intro pins s σ H vs us Q I r h
  obtain ⟨a, xs, t, ts, rfl, hs, ha, q⟩ := h
  obtain ⟨its, rv, hl, _⟩ := I.list hs
  rw [Vals.ref1 r]
  obtain ⟨as, h4⟩ := Dp.readsAll I _ _ its ha rv
  have hd := depth_tups (t :: ts)
  refine PySem.W.max_list_data (I.ok.hd hc) hl.isList (x := tupP t) (xs := ts.map tupP) (by simpa using h4) (alike_tups (t :: ts)) (by rw [List.map_cons] at hd; omega) fun i v h' tk bs hi rr hk => ?_
  rw [most_data] at rr
  obtain ⟨u, e1, e2, e3⟩ := best_at (pins := pins) (σ := σ) (H := H) (s := s) rv h4 hi rr hk
  exact ⟨u, H, I.kept hk, e2, q i u e1 e3⟩
def bestT (f : List Int → List (List Int) → List Int) : List PyData → Option PyData
  | [.list xs] => match tupsOf xs with
    | some (t :: ts) => some (tupP (f t ts))
    | _ => none
  | _ => none
theorem least_mem : ∀ (ts : List (List Int)) (t : List Int), leastT t ts ∈ t :: ts
  | [], t => List.mem_cons_self
  | y :: r, t => by
    unfold leastT
    rw [List.foldl_cons]
    have ih := least_mem r (if HT.lexLt y t then y else t)
    unfold leastT at ih
    rcases List.mem_cons.mp ih with e | e
    · rw [e]
      split <;> simp
    · exact List.mem_cons_of_mem _ (List.mem_cons_of_mem _ e)
theorem most_mem : ∀ (ts : List (List Int)) (t : List Int), mostT t ts ∈ t :: ts
  | [], t => List.mem_cons_self
  | y :: r, t => by
    unfold mostT
    rw [List.foldl_cons]
    have ih := most_mem r (if HT.lexLt t y then y else t)
    unfold mostT at ih
    rcases List.mem_cons.mp ih with e | e
    · rw [e]
      split <;> simp
    · exact List.mem_cons_of_mem _ (List.mem_cons_of_mem _ e)
theorem cd_bestT (f : List Int → List (List Int) → List Int) : CallD X m (rBestT f X.K) (bestT f) := by
  intro cup O H vs ds z Q dom rs hg q
  unfold bestT at hg
  split at hg
  · rename_i xs
    split at hg
    · rename_i t ts e
      cases hg
      obtain ⟨v, rfl, r1⟩ := pair1 rs
      obtain ⟨a, ys, rfl, h1, a1⟩ := r1.list
      have ex := tups_eq e
      subst ex
      refine ⟨a, ys, t, ts, rfl, .of h1, das_dp (dps_mono hid_sub a1) (lay_tups _), fun i u hu hi => ?_⟩
      obtain ⟨w, hw, hd⟩ := da_get (j := i) (d := tupP (f t ts)) a1 (by rw [List.getElem?_map, hi]; rfl)
      rw [hu] at hw
      cases hw
      exact q _ H (.refl H) hd
    · cases hg
  · cases hg
/-- either of two -/
def eitherD (g g2 : List PyData → Option PyData) (ds : List PyData) : Option PyData := match g ds with
  | some z => some z
  | none => g2 ds
theorem cd_either {r r2 : List V → Hp → VK → Prop} {g g2 : List PyData → Option PyData} (h : CallD X m r g) (h2 : CallD X m r2 g2) : CallD X m (fun xs H Q => r xs H Q ∨ r2 xs H Q) (eitherD g g2) := by
  intro cup O H vs ds z Q dom rs hg q
  unfold eitherD at hg
  split at hg
  · rename_i y e
    cases hg
    exact .inl (h cup O H vs ds _ Q dom rs e q)
  · exact .inr (h2 cup O H vs ds z Q dom rs hg q)
def minX : List PyData → Option PyData := eitherD minD (bestT leastT)
def maxX : List PyData → Option PyData := eitherD maxD (bestT mostT)
def rMinX (K : PySem.W.Frag) : List V → Hp → VK → Prop := fun xs H Q => ((∃ i j, xs = [.int i, .int j] ∧ Q (.int (if j < i then j else i)) H) ∨ rMin K xs H Q) ∨ rBestT leastT K xs H Q
def rMaxX (K : PySem.W.Frag) : List V → Hp → VK → Prop := fun xs H Q => ((∃ i j, xs = [.int i, .int j] ∧ Q (.int (if j > i then j else i)) H) ∨ rMax K xs H Q) ∨ rBestT mostT K xs H Q
theorem cd_minX : CallD X m (rMinX X.K) minX := cd_either cd_min (cd_bestT leastT)
theorem cd_maxX : CallD X m (rMaxX X.K) maxX := cd_either cd_max (cd_bestT mostT)
theorem or_minX (hc : X.calm = true) (hu : X.A.units + 65 < cLine) : CallR X (.builtin "min") (rMinX X.K) := cr_or (or_min hc) (cr_minT hc hu)
theorem or_maxX (hc : X.calm = true) (hu : X.A.units + 65 < cLine) : CallR X (.builtin "max") (rMaxX X.K) := cr_or (or_max hc) (cr_maxT hc hu)
/-! sum of a tuple -/
def rSumT (K : PySem.W.Frag) : List V → Hp → VK → Prop := fun vs H Q => ∃ (a : Addr) (ns : List Int), vs = [V.ref a] ∧ SqT K H a (ns.map V.int) ∧ Q (.int ns.sum) H
theorem sum_tup_raw {prog : Program} {w : World} {A : Around} {E : Value → Shared → Prop} {s : Shared} {t : Addr} {its : List Value} {ns : List Int} {Q : Value → Shared → Prop} (hh : A.handled = none) (ht : IsTup s.heap t its.toArray) (hi : IntsAre its ns)
    (h : ∀ h' tk t', (∀ b o, s.heap.get? b = some o → h'.get? b = some o) → Q (.int ns.sum t') { s with heap := h', toks := tk }) : wpAny (model prog w) A (call (.builtin "sum") [.ref t]) Q E s := by
  obtain ⟨xs, e⟩ := hi.allInts.items
  have hn : numsOf (intItems xs).toList = ns := by rw [← e]; exact hi.numsOf
  rw [nums_intItems] at hn
  rw [e] at ht
  refine PySem.call_sum_walkG (PySem.W.iter_tupleW (A := A.in1) hh (show s.heap.IsTuple t (intItems xs) from ht) fun s₂ e W st hfp hne hk => ?_)
  subst e
  have hlt : t < s.heap.objs.size := by obtain ⟨_, e, _⟩ := ht; exact Heap.lt_size e
  refine ⟨_, _, _, _, _, _, numAt xs, rfl, Walks.tuple (A := A.in1) hh _ t (Nat.ne_of_lt hlt) (intItems xs), st, hfp, (fun _ _ => intItems_at), fun h' tk t' hk2 => ?_⟩
  have := h h' tk t' fun b o q => hk2 b o (hne b o q) (hk b o q)
  rw [preSum_eq, List.take_of_length_le (by simp [intItems]), hn]
  exact this
theorem cr_sumT (hc : X.calm = true) : CallR X (.builtin "sum") (rSumT X.K) := by
  intro pins s σ H vs us Q I r h
  obtain ⟨a, ns, rfl, hs, q⟩ := h
  obtain ⟨its, rv, hl, _⟩ := I.tuple hs
  rw [Vals.ref1 r]
  exact sum_tup_raw (I.ok.hd hc) hl rv.ints fun h' tk t' hk => ⟨.int _, H, I.kept hk, ⟨_, rfl⟩, q⟩
def sumT : List PyData → Option PyData
  | [.tuple xs] => match intsOf xs with
    | some ns => some (.int ns.sum)
    | none => none
  | _ => none
theorem cd_sumT : CallD X m (rSumT X.K) sumT := by
  intro cup O H vs ds z Q dom rs hg q
  unfold sumT at hg
  split at hg
  · split at hg
    · rename_i ns e1
      cases hg
      obtain ⟨v, rfl, r1⟩ := pair1 rs
      obtain ⟨a, xs, rfl, h1, a1⟩ := r1.tup
      rw [da_ints a1 e1] at h1
      exact ⟨a, ns, rfl, h1, q _ H (.refl H) (.int _)⟩
    · cases hg
  · cases hg
def sumX : List PyData → Option PyData := eitherD sumD sumT
theorem cd_sumX : CallD X m (fun xs H Q => rSum X.K xs H Q ∨ rSumT X.K xs H Q) sumX := cd_either cd_sum cd_sumT
theorem or_sumX (hc : X.calm = true) : CallR X (.builtin "sum") (fun xs H Q => rSum X.K xs H Q ∨ rSumT X.K xs H Q) := cr_or (cr_sum hc) (cr_sumT hc)
end
theorem ints_tups (t : List Int) (ts : List (List Int)) : intsOf ((t :: ts).map tupP) = none := rfl
theorem minX_ints {ns : List Int} {v : Int} (h : minI ns = some v) : minX [.list (ns.map .int)] = some (.int v) := by
  unfold minX eitherD minD
  simp only [intsOf_map, h]
theorem maxX_ints {ns : List Int} {v : Int} (h : maxI ns = some v) : maxX [.list (ns.map .int)] = some (.int v) := by
  unfold maxX eitherD maxD
  simp only [intsOf_map, h]
theorem minX_tups (t : List Int) (ts : List (List Int)) : minX [.list ((t :: ts).map tupP)] = some (tupP (leastT t ts)) := by
  unfold minX eitherD minD
  simp only [ints_tups]
  unfold bestT
  simp only [tupsOf_map]
theorem maxX_tups (t : List Int) (ts : List (List Int)) : maxX [.list ((t :: ts).map tupP)] = some (tupP (mostT t ts)) := by
  unfold maxX eitherD maxD
  simp only [ints_tups]
  unfold bestT
  simp only [tupsOf_map]
theorem sumX_list (ns : List Int) : sumX [.list (ns.map .int)] = some (.int ns.sum) := by
  unfold sumX eitherD sumD
  simp only [intsOf_map]
theorem sumX_tuple (ns : List Int) : sumX [.tuple (ns.map .int)] = some (.int ns.sum) := by
  unfold sumX eitherD sumD sumT
  simp only [intsOf_map]
/-! ### the order of tuples -/
theorem lex_irr : ∀ a : List Int, HT.lexLt a a = false
  | [] => rfl
  | x :: xs => by rw [HT.lexLt_cons, if_pos rfl, lex_irr xs]
theorem lex_pair (a b c d : Int) : HT.lexLt [a, b] [c, d] = (decide (a < c) || (decide (a = c) && decide (b < d))) := by
  rw [HT.lexLt_cons, HT.lexLt_cons, HT.lexLt_nil_nil]
  by_cases h : a = c
  · subst h
    by_cases h2 : b = d
    · subst h2
      simp
    · simp [h2]
  · simp [h]
theorem least_pairs (P : Int × Int) (ps : List (Int × Int)) : ∃ Q, Q ∈ P :: ps ∧ leastT [P.1, P.2] (ps.map fun p => [p.1, p.2]) = [Q.1, Q.2] ∧ ∀ R ∈ P :: ps, Q.1 < R.1 ∨ Q.1 = R.1 ∧ Q.2 ≤ R.2 := by
  induction ps generalizing P with
  | nil => exact ⟨P, List.mem_cons_self, rfl, fun R h => by
      rcases List.mem_cons.mp h with rfl | h
      · exact .inr ⟨rfl, Int.le_refl _⟩
      · cases h⟩
  | cons q r ih =>
    have st : leastT [P.1, P.2] ((q :: r).map fun p => [p.1, p.2]) = leastT (if HT.lexLt [q.1, q.2] [P.1, P.2] then [q.1, q.2] else [P.1, P.2]) (r.map fun p => [p.1, p.2]) := rfl
    rw [st, lex_pair]
    by_cases h : q.1 < P.1 ∨ q.1 = P.1 ∧ q.2 < P.2
    · rw [if_pos (by simpa using h)]
      obtain ⟨Q, hQ, e, hm⟩ := ih q
      refine ⟨Q, List.mem_cons_of_mem _ hQ, e, fun R hR => ?_⟩
      rcases List.mem_cons.mp hR with rfl | hR
      · have := hm q List.mem_cons_self
        omega
      · exact hm R hR
    · rw [if_neg (by simpa using h)]
      obtain ⟨Q, hQ, e, hm⟩ := ih P
      refine ⟨Q, ?_, e, fun R hR => ?_⟩
      · rcases List.mem_cons.mp hQ with rfl | hQ
        · exact List.mem_cons_self
        · exact List.mem_cons_of_mem _ (List.mem_cons_of_mem _ hQ)
      · rcases List.mem_cons.mp hR with rfl | hR
        · exact hm R List.mem_cons_self
        · rcases List.mem_cons.mp hR with rfl | hR
          · have := hm P List.mem_cons_self
            omega
          · exact hm R (List.mem_cons_of_mem _ hR)
end PL

set_option Elab.async false
set_option linter.all false
set_option maxRecDepth 100000
namespace PL
open PySem PySem.Spec PyProof.Rows L2 RZ
/-! ### xs * k as a fresh list of one's own -/
def repF (f1 f2 : EF) : Rho → Cu → Option (Ow × Cu) := fun ρ c => match f1 ρ c with
  | some (.list xs, c1) => (match f2 ρ c1 with
    | some (.int k, c2) => if -(2 ^ 63) ≤ k ∧ k < 2 ^ 63 ∧ xs.length * k.toNat ≤ sizeLine then some (.lst (List.replicate k.toNat xs).flatten, c2) else none
    | _ => none)
  | _ => none
section
variable {X : Cx} {a b : Expr} {f1 f2 : EF} {pos : Pos}
theorem df_rep (ha : DE X true a f1) (hb : DE X true b f2) : DF X (.BinOp a .Mult b pos) (repF f1 f2) := by
  obtain ⟨t1, p1, s1⟩ := ha
  obtain ⟨t2, p2, s2⟩ := hb
  refine ⟨_, pe_op op_rep p1 p2, fun cup O σ H ρ c k c' Q R hf q => ?_⟩
  unfold repF at hf
  split at hf
  · rename_i xs c1 e1
    split at hf
    · rename_i n c2 e2
      split at hf
      · rename_i hc
        cases hf
        refine s1 cup O σ H ρ c _ _ _ R e1 fun v H1 h1 k1 r1 => ?_
        have R1 := R.step h1 k1
        refine s2 cup O σ H1 ρ c1 _ _ _ R1 e2 fun w H2 h2 k2 r2 => ?_
        have R2 := R1.step h2 k2
        obtain ⟨p, vs, rfl, g1, a1⟩ := (r1.step h2 R.cupO).list
        cases r2.kept
        refine ⟨p, n, vs, rfl, rfl, g1, hc.1, hc.2.1, by rw [dpall_len a1]; exact hc.2.2, fun l hl => ?_⟩
        exact q l _ _ ((h1.trans h2).trans (Same.toC (same_upd hl))) (k2.same (same_upd hl)) (none_of_sameC (h1.trans h2) R.cupA k2.ne hl) upd_same (dps_mono (hid_add hl) (da_rep a1 _))
      · cases hf
    · cases hf
  · cases hf
end
end PL

set_option Elab.async false
set_option linter.all false
set_option maxRecDepth 100000
namespace PL
open PySem PySem.Spec PyProof.Rows L2 RZ

/-! ### set(xs) of a list of ints -/
section
variable {P : Program} {w : World} {A : Around} {E : Value → Shared → Prop} {s : Shared}
/-- the object that an empty set is made as -/
abbrev eSet (w : World) : Obj := { cls := .type "set", dict := none, data := .set #[] 0 (.fresh 0 0 (!w.params.followText "set-order")) }
abbrev with1 (s : Shared) (w : World) : Shared := { s with heap := s.heap.push (eSet w) }
/-- what a filled set is: its place, its members, all else kept -/
def SetMade (w : World) (s : Shared) (ns : List Int) (s2 : Shared) : Prop := ∃ (hp : Heap) (tk c : Nat), s2 = { s with heap := hp, toks := tk } ∧ SetR w hp s.heap.objs.size (fun j => decide (j ∈ ns)) c ∧ c ≤ ns.length ∧ ∀ b o, s.heap.get? b = some o → hp.get? b = some o
theorem ints_at {us : List Value} {ns : List Int} (h : IntsAre us ns) {i : Nat} {v : Value} (hv : us[i]? = some v) : ∃ k t, ns[i]? = some k ∧ v = .int k t := by
  obtain ⟨t, e⟩ := IntsAre.int_at h i v hv
  have hi : i < ns.length := by
    rw [← IntsAre.length h]
    exact (List.getElem?_eq_some_iff.mp hv).1
  exact ⟨ns[i], t, List.getElem?_eq_getElem hi, by rw [e, List.getD_eq_getElem?_getD, List.getElem?_eq_getElem hi]; rfl⟩
set_option maxHeartbeats 4000000 in
theorem call_set_listI {l : Addr} {items : Array Value} (ns : List Int) {Q : Value → Shared → Prop} (hh : A.handled = none) (hl : s.heap.IsList l items) (hit : IntsAre items.toList ns) (hb : ns.length + 1 < scanBound)
    (h : ∀ s2, SetMade w s ns s2 → Q (.ref s.heap.objs.size) s2) : wpAny (model P w) A (call (.type "set") [.ref l]) Q E s := by
  obtain ⟨c, tl, hmro⟩ := F.called_set.mro
  have k1 := F.called_set.made
  have k2 := F.called_set.sub
  refine wpAny_call (codeAny_of_tree ?_)
  show wpAny _ _ (callAny (.type "set") ⟨[.ref l], []⟩) _ _ s
  refine wpAny_pure ⟨Code.quiet_builtin _ (by decide +kernel), codeAny_builtin F.entry_type_call ?_⟩
  rw [Around.under_plain (weight_type_call_type "set" [Value.ref l] []) (by rfl)]
  have k3 := F.called_set.notType
  have k4 := F.called_set.canCreate
  have k5 := F.typeCall_set_1 (Value.ref l)
  repeat (any_goals (first | assumption | wp_step))
  refine codeAny_mono (code_set_led1 (Value.ref l) (Q₁ := fun ob s1 => ob = .ref s.heap.objs.size ∧ s1 = with1 s w) (E := E) (by exact ⟨rfl, rfl⟩)) fun r s1 hr => ?_
  match r, hr with
  | .error e, hr => exact hr
  | .ok .next, hr => exact hr.elim
  | .ok .brk, hr => exact hr.elim
  | .ok .cont, hr => exact hr.elim
  | .ok (.ret ob), hr =>
    obtain ⟨rfl, rfl⟩ := hr
    have g0 : (with1 s w).heap.get? s.heap.objs.size = some (eSet w) := Heap.get?_push_size _ rfl
    have hT : (with1 s w).TypeIs (.ref s.heap.objs.size) "set" := ⟨_, g0, rfl⟩
    have k6 := F.called_set.init.lookup
    have k7 := F.called_set.init.bind (Value.ref s.heap.objs.size)
    repeat (any_goals (first | assumption | wp_step))
    refine codeAny_mono (codeAny_call_builtin (R := wants (fun r s2 => r = .none ∧ SetMade w s ns s2) E) F.called_set.init.plain F.entry_set_init (check_set_init_1 hT ?_)) fun r2 s2 hr2 => ?_
    · have l1 : (with1 s w).heap.IsList l items := hl.push _
      have hlS : l < s.heap.objs.size := by
        obtain ⟨ol, e, _⟩ := hl
        exact Heap.lt_size e
      obtain ⟨ol, e1, ec, nl, ed⟩ := id l1
      obtain ⟨ocls, odict, odata, osl⟩ := ol
      simp only at ec ed
      subst ec ed
      have m1 := F.sub_list_set
      have m2 := F.sub_list_frozenset
      have m3 : (Value.type "list" == Value.type "dict") = false := by decide
      unfold Builtin.«set.__init__» Builtin.Frozenset.updateFrom noKeywords
      generalize hPI : pyIter = PI
      wp_walk
      subst hPI
      refine wpAny_pyIter_list l1 (wpAny_bind (wpAny_runValue ?_))
      have z1 : (with1 s w).heap.objs.size = s.heap.objs.size + 1 := Heap.size_push ..
      have ne : l ≠ (with1 s w).heap.objs.size := by
        rw [z1]
        exact Nat.ne_of_lt (Nat.lt_succ_of_lt hlS)
      have nin : s.heap.objs.size ∉ [(with1 s w).heap.objs.size, l] := by
        rw [z1]
        simp only [List.mem_cons, List.not_mem_nil, or_false, not_or]
        exact ⟨Nat.ne_of_lt (Nat.lt_succ_self _), Nat.ne_of_gt hlS⟩
      have hz : items.size = ns.length := by
        rw [← IntsAre.length hit, Array.length_toList]
      refine set_update_ints ((Walks.list (A := A.in1.in1.in1) (by simp [hh]) _ l ne items).toS) s.heap.objs.size nin ns hz hb (fun i v hv => ints_at hit (by rw [Array.getElem?_toList]; exact hv)) items.size 0 _ rfl (Nat.zero_le _)
        ⟨⟨_, Heap.get?_push_size _ rfl, rfl, rfl⟩, l1.push _⟩ ⟨0, Nat.le_refl 0, setR_new_at (Heap.get?_push_of_some _ g0)⟩ fun s' c' hm hc' hS' => ?_
      obtain ⟨hp, g2, d2, t2, o2⟩ := s'
      have eg : g2 = s.gens := hm.gens
      have ed : d2 = s.drawn := hm.drawn
      have eo : o2 = s.os := hm.os
      subst eg ed eo
      show wpAny _ _ _ _ _ _
      refine wpAny_pure ?_
      show wpAny _ _ (ret Value.none) _ _ _
      rw [hz] at hc'
      refine wpAny_pure ⟨rfl, hp, t2, c', rfl, hS', hc', fun b o e => ?_⟩
      have b0 := Heap.lt_size e
      refine hm.heap b o ?_ (Heap.get?_push_of_some _ (Heap.get?_push_of_some _ e))
      rw [z1]
      simp only [List.mem_cons, List.not_mem_nil, or_false, not_or]
      exact ⟨Nat.ne_of_lt b0, Nat.ne_of_lt (Nat.lt_succ_of_lt b0)⟩
    · match r2, hr2 with
      | .error e, hr2 => exact hr2
      | .ok .next, hr2 => exact hr2.elim
      | .ok .brk, hr2 => exact hr2.elim
      | .ok .cont, hr2 => exact hr2.elim
      | .ok (.ret r), hr2 =>
        obtain ⟨rfl, hM⟩ := hr2
        repeat (any_goals (first | assumption | wp_step))
        exact h _ hM
end

/-! ### sorted(set(xs)) -/
def insS (k : Int) : List Int → List Int
  | [] => [k]
  | x :: r => if k < x then k :: x :: r else if k = x then x :: r else x :: insS k r
def sortSet (ns : List Int) : List Int := ns.foldr insS []
theorem mem_insS {k j : Int} : ∀ {xs : List Int}, j ∈ insS k xs ↔ j = k ∨ j ∈ xs
  | [] => by simp [insS]
  | x :: r => by
    unfold insS
    split
    · simp
    · split
      · rename_i e
        subst e
        simp
      · rw [List.mem_cons, mem_insS, List.mem_cons]
        constructor
        · rintro (h | h | h) <;> simp [h]
        · rintro (h | h | h) <;> simp [h]
theorem insS_sorted {k : Int} : ∀ {xs : List Int}, xs.Pairwise (· < ·) → (insS k xs).Pairwise (· < ·)
  | [], _ => List.pairwise_singleton _ _
  | x :: r, h => by
    unfold insS
    rw [List.pairwise_cons] at h
    split
    · rename_i hk
      refine List.pairwise_cons.mpr ⟨fun y hy => ?_, List.pairwise_cons.mpr h⟩
      rcases List.mem_cons.mp hy with rfl | hy
      · exact hk
      · exact Int.lt_trans hk (h.1 y hy)
    · split
      · exact List.pairwise_cons.mpr h
      · refine List.pairwise_cons.mpr ⟨fun y hy => ?_, insS_sorted h.2⟩
        rcases mem_insS.mp hy with rfl | hy
        · omega
        · exact h.1 y hy
theorem sortSet_sorted : ∀ ns : List Int, (sortSet ns).Pairwise (· < ·)
  | [] => List.Pairwise.nil
  | _ :: r => insS_sorted (sortSet_sorted r)
theorem mem_sortSet {j : Int} : ∀ {ns : List Int}, j ∈ sortSet ns ↔ j ∈ ns
  | [] => Iff.rfl
  | a :: r => by
    show j ∈ insS a (sortSet r) ↔ _
    rw [mem_insS, mem_sortSet, List.mem_cons]
/-- a strictly rising list is told by its members -/
theorem rising_uniq : ∀ {xs ys : List Int}, xs.Pairwise (· < ·) → ys.Pairwise (· < ·) → (∀ k, k ∈ xs ↔ k ∈ ys) → xs = ys
  | [], [], _, _, _ => rfl
  | [], y :: ys, _, _, h => by have := (h y).mpr List.mem_cons_self; cases this
  | x :: xs, [], _, _, h => by have := (h x).mp List.mem_cons_self; cases this
  | x :: xs, y :: ys, h1, h2, h => by
    rw [List.pairwise_cons] at h1 h2
    have e : x = y := by
      rcases List.mem_cons.mp ((h x).mp List.mem_cons_self) with e | a
      · exact e
      · rcases List.mem_cons.mp ((h y).mpr List.mem_cons_self) with e | b
        · exact e.symm
        · have := h2.1 x a
          have := h1.1 y b
          omega
    subst e
    refine congrArg _ (rising_uniq h1.2 h2.2 fun k => ⟨fun hk => ?_, fun hk => ?_⟩)
    · rcases List.mem_cons.mp ((h k).mp (List.mem_cons_of_mem _ hk)) with e | a
      · subst e
        exact absurd (h1.1 k hk) (Int.lt_irrefl _)
      · exact a
    · rcases List.mem_cons.mp ((h k).mpr (List.mem_cons_of_mem _ hk)) with e | a
      · subst e
        exact absurd (h2.1 k hk) (Int.lt_irrefl _)
      · exact a
section
variable {X : Cx} {m : Bool} {e : Expr} {f : EF} {p p2 q pos : Pos}
def rSetL (K : PySem.W.Frag) (w : World) : List V → Hp → VK → Prop := fun xs H Q => ∃ (a : Addr) (ns : List Int), xs = [.ref a] ∧ SqL K H a (ns.map V.int) ∧ ns.length < 64 ∧
  ∀ (p : Addr) (c : Nat), H p = none → c ≤ ns.length → Q (.ref p) (upd H p (SetO w p (fun j => decide (j ∈ ns)) c))
theorem cr_setL (hc : X.calm = true) : CallR X (.type "set") (rSetL X.K X.w) := by
  intro pins s σ H xs us Q I r h
  obtain ⟨a, ns, rfl, hs, h64, q⟩ := h
  obtain ⟨its, rv, hl, _⟩ := I.list hs
  rw [Vals.ref1 r]
  refine call_set_listI ns (I.ok.hd hc) hl.isList (by simpa using rv.ints) (by unfold scanBound; omega) fun s2 hM => ?_
  obtain ⟨hp, tk, c, rfl, hR, hc', k⟩ := hM
  have hn : H s.heap.objs.size = none := I.hok.fresh (Nat.le_refl _)
  have J : Inv X pins σ (upd H s.heap.objs.size (SetO X.w s.heap.objs.size (fun j => decide (j ∈ ns)) c)) { s with heap := hp, toks := tk } := I.laid k (Nat.le_refl _) (setO_new hR)
  exact ⟨.ref s.heap.objs.size, _, J, rfl, q _ c hn hc'⟩
def sortSetD : PyData → Option PyData
  | .list xs => match intsOf xs with
    | some ns => if ns.length < 64 then some (.list ((sortSet ns).map .int)) else none
    | none => none
  | _ => none
theorem da_map_int {K : PySem.W.Frag} {G : Hp} : ∀ ns : List Int, DaAll K G (ns.map V.int) (ns.map PyData.int)
  | [] => .nil
  | n :: r => .cons (.int n) (da_map_int r)
theorem de_sortedSet (hms : X.mg "sorted" = none) (hmt : X.mg "set" = none) (h : DE X m e f) (hc : X.calm = true := by rfl) (hgs : Gl X "sorted" := by rfl) (hgt : Gl X "set" := by rfl)
    (he : starEach [e] X.env = (false, eval e X.env) :: starEach [] X.env := by rfl)
    (he2 : starEach [.Call (.Name "set" p2) [e] [] q] X.env = (false, eval (.Call (.Name "set" p2) [e] [] q) X.env) :: starEach [] X.env := by rfl) :
    DE X true (.Call (.Name "sorted" p) [.Call (.Name "set" p2) [e] [] q] [] pos) (unE sortSetD f) := by
  obtain ⟨t, pe, s⟩ := h
  refine ⟨_, pe_callB (cr_sortedSet hc) hgs hms PyProof.Rows.boot_sorted (pa_cons (pe_callTy (cr_setL hc) hgt hmt PyProof.Rows.boot_set (pa_cons pe pa_nil he) (by decide) (by decide) he rfl) pa_nil he2) (by decide) (by decide) he2 rfl, fun cup O σ H ρ c d c' Q R hf q => ?_⟩
  unfold unE at hf
  split at hf
  · rename_i dd c1 e1
    split at hf
    · rename_i r e2
      cases hf
      unfold sortSetD at e2
      split at e2
      · rename_i xs
        split at e2
        · rename_i ns e3
          split at e2
          · rename_i h64
            cases e2
            refine s cup O σ H ρ c _ _ _ R e1 fun v H1 h1 k1 r1 => ?_
            have R1 := R.step h1 k1
            obtain ⟨a, vs, rfl, hv, av⟩ := r1.list
            rw [da_ints av e3] at hv
            refine ⟨a, ns, rfl, .of hv, h64, fun p cc hp hcc => ?_⟩
            refine ⟨p, _, cc, rfl, upd_same, by omega, fun ks p2 hr hmem hl hp2 => ?_⟩
            have ek : ks = sortSet ns := rising_uniq hr (sortSet_sorted ns) fun k => by rw [hmem k, mem_sortSet, decide_eq_true_eq]
            subst ek
            have st := (Same.toC (cup := cup) (same_upd (o := SetO X.w p (fun j => decide (j ∈ ns)) cc) hp)).trans (Same.toC (same_upd (o := .lst ((sortSet ns).map V.int)) hp2))
            have dom2 : ∀ b, O b → upd H1 p (SetO X.w p (fun j => decide (j ∈ ns)) cc) b ≠ none := fun b hb z => by
              cases q1 : H1 b with
              | none => exact R1.dom b hb q1
              | some u => rw [same_upd hp _ _ q1] at z; cases z
            exact q _ _ (h1.trans st) ((k1.same (same_upd hp)).same (same_upd hp2)) (.inl (new_list dom2 hp2 (da_map_int _)))
          · cases e2
        · cases e2
      · cases e2
    · cases hf
  · cases hf
end
end PL

set_option Elab.async false
set_option linter.all false
set_option maxRecDepth 100000
namespace PL
open PySem PySem.Spec PyProof.Rows L2 RZ
/-! ### items -/
theorem atI_0 {α : Type} (xs : List α) : atI xs 0 = xs[0]? := by
  cases xs <;> simp [atI, ixN]
theorem atI_1 {α : Type} (xs : List α) : atI xs 1 = xs[1]? := by
  match xs with
  | [] => rfl
  | [_] => rfl
  | x :: y :: r =>
    unfold atI ixN
    rw [if_pos (by decide), if_pos (by rw [List.length_cons, List.length_cons]; omega)]
    rfl
theorem atI_2 {α : Type} (xs : List α) : atI xs 2 = xs[2]? := by
  match xs with
  | [] => rfl
  | [_] => rfl
  | [_, _] => rfl
  | x :: y :: z :: r =>
    unfold atI ixN
    rw [if_pos (by decide), if_pos (by rw [List.length_cons, List.length_cons, List.length_cons]; omega)]
    rfl
theorem atI_of {α : Type} {xs : List α} {k : Nat} : atI xs (k : Int) = xs[k]? := by
  unfold atI ixN
  rw [if_pos (Int.natCast_nonneg k)]
  by_cases h : k < xs.length
  · rw [if_pos (by omega)]
    rfl
  · rw [if_neg (by omega), List.getElem?_eq_none (by omega)]
    rfl
theorem atI_pos {α : Type} {xs : List α} {i : Int} (h : 0 ≤ i) : atI xs i = xs[i.toNat]? := by
  have : i = ((i.toNat : Nat) : Int) := by omega
  conv => lhs; rw [this]
  exact atI_of
theorem atI_m1 {α : Type} (xs : List α) : atI xs (-1) = xs.getLast? := by
  cases h : xs.reverse with
  | nil =>
    have : xs = [] := List.reverse_eq_nil_iff.mp h
    subst this
    rfl
  | cons a r =>
    have : xs = r.reverse ++ [a] := by
      have := congrArg List.reverse h
      simpa using this
    subst this
    rw [L2.atI_last]
    simp
/-! ### data that == takes -/
theorem sh_int (i : Int) : SeqAt.shaped (.int i) = true := by simp [SeqAt.shaped, PyData.canLay0, PyData.depth]
theorem sh_bool (i : Bool) : SeqAt.shaped (.bool i) = true := by simp [SeqAt.shaped, PyData.canLay0, PyData.depth]
theorem sh_none : SeqAt.shaped .none = true := by simp [SeqAt.shaped, PyData.canLay0, PyData.depth]
theorem sh_str {x : Str} (h : PyData.canLay0 (.str x) = true) : SeqAt.shaped (.str x) = true := by simp [SeqAt.shaped, h, PyData.depth]
/-- plain data, at most n deep -/
def Pl : Nat → PyData → Prop
  | _, .none => True
  | _, .bool _ => True
  | _, .int _ => True
  | _, .str x => PyData.canLay0 (.str x) = true ∧ x.length ≤ sizeLine
  | n + 1, .list ds => ds.length ≤ 1000000 ∧ ∀ d ∈ ds, Pl n d
  | n + 1, .tuple ds => ds.length ≤ 1000000 ∧ ∀ d ∈ ds, Pl n d
  | _, _ => False
theorem canLayAll_of {ds : List PyData} (h : ∀ d ∈ ds, d.canLay0 = true) : PyData.canLayAll0 ds = true := by
  induction ds with
  | nil => simp [PyData.canLayAll0]
  | cons d r ih => simp [PyData.canLayAll0, h d List.mem_cons_self, ih fun e he => h e (List.mem_cons_of_mem _ he)]
theorem depthAll_of {n : Nat} {ds : List PyData} (h : ∀ d ∈ ds, d.depth ≤ n) : PyData.depthAll ds ≤ n := by
  induction ds with
  | nil => simp [PyData.depthAll]
  | cons d r ih =>
    have h1 := h d List.mem_cons_self
    have h2 := ih fun e he => h e (List.mem_cons_of_mem _ he)
    simp only [PyData.depthAll]
    omega
theorem pl_lay : ∀ (n : Nat) (d : PyData), Pl n d → d.canLay0 = true ∧ d.depth ≤ n
  | n, .none, _ => by simp [PyData.canLay0, PyData.depth]
  | n, .bool _, _ => by simp [PyData.canLay0, PyData.depth]
  | n, .int _, _ => by simp [PyData.canLay0, PyData.depth]
  | n, .str x, h => by
    have h : PyData.canLay0 (.str x) = true ∧ x.length ≤ sizeLine := by cases n <;> exact h
    simp [h.1, PyData.depth]
  | 0, .list _, h => h.elim
  | 0, .tuple _, h => h.elim
  | 0, .dict _, h => h.elim
  | n + 1, .dict _, h => h.elim
  | n + 1, .list ds, h => by
    have g := fun d hd => pl_lay n d (h.2 d hd)
    have a := canLayAll_of fun d hd => (g d hd).1
    have b := depthAll_of fun d hd => (g d hd).2
    simp only [PyData.canLay0, PyData.depth]
    exact ⟨a, by omega⟩
  | n + 1, .tuple ds, h => by
    have g := fun d hd => pl_lay n d (h.2 d hd)
    have a := canLayAll_of fun d hd => (g d hd).1
    have b := depthAll_of fun d hd => (g d hd).2
    simp only [PyData.canLay0, PyData.depth]
    exact ⟨a, by omega⟩
theorem pl_sh {n : Nat} {d : PyData} (h : Pl n d) (hn : n ≤ 64) : SeqAt.shaped d = true := by
  obtain ⟨a, b⟩ := pl_lay n d h
  unfold SeqAt.shaped
  rw [a, decide_eq_true (by omega)]
  rfl
theorem pl_int (n : Nat) (i : Int) : Pl n (.int i) := by cases n <;> trivial
theorem pl_bool (n : Nat) (i : Bool) : Pl n (.bool i) := by cases n <;> trivial
theorem pl_none (n : Nat) : Pl n .none := by cases n <;> trivial
theorem pl_mono : ∀ {n m : Nat} {d : PyData}, Pl n d → n ≤ m → Pl m d
  | _, m, .none, _, _ => pl_none m
  | _, m, .bool b, _, _ => pl_bool m b
  | _, m, .int i, _, _ => pl_int m i
  | n, m, .str x, h, _ => by
    have h : PyData.canLay0 (.str x) = true ∧ x.length ≤ sizeLine := by cases n <;> exact h
    cases m <;> exact h
  | 0, _, .list _, h, _ => h.elim
  | 0, _, .tuple _, h, _ => h.elim
  | 0, _, .dict _, h, _ => h.elim
  | n + 1, _, .dict _, h, _ => h.elim
  | n + 1, m + 1, .list ds, h, hn => ⟨h.1, fun d hd => pl_mono (h.2 d hd) (Nat.le_of_succ_le_succ hn)⟩
  | n + 1, m + 1, .tuple ds, h, hn => ⟨h.1, fun d hd => pl_mono (h.2 d hd) (Nat.le_of_succ_le_succ hn)⟩
  | n + 1, 0, .list ds, h, hn => absurd hn (Nat.not_succ_le_zero n)
  | n + 1, 0, .tuple ds, h, hn => absurd hn (Nat.not_succ_le_zero n)
theorem pl_ints (n : Nat) {ns : List Int} (h : ns.length ≤ 1000000) : Pl (n + 1) (.tuple (ns.map .int)) ∧ Pl (n + 1) (.list (ns.map .int)) := by
  refine ⟨⟨by rw [List.length_map]; exact h, fun d hd => ?_⟩, ⟨by rw [List.length_map]; exact h, fun d hd => ?_⟩⟩ <;>
  · obtain ⟨i, _, rfl⟩ := List.mem_map.mp hd
    exact pl_int n i
/-! ### eqv -/
theorem eqv_int (i j : Int) : PyData.eqv (.int i) (.int j) = decide (i = j) := by
  simp only [PyData.eqv]
  by_cases h : i = j <;> simp [h]
mutual
theorem eqv_self : ∀ d : PyData, d.canLay0 = true → PyData.eqv d d = true
  | .none, _ => by simp [PyData.eqv]
  | .bool _, _ => by simp [PyData.eqv]
  | .int _, _ => by simp [PyData.eqv]
  | .str _, _ => by simp [PyData.eqv]
  | .list ds, h => by
    simp only [PyData.eqv]
    exact eqv_selfAll ds (by simpa [PyData.canLay0] using h)
  | .tuple ds, h => by
    simp only [PyData.eqv]
    exact eqv_selfAll ds (by simpa [PyData.canLay0] using h)
  | .dict _, h => by simp [PyData.canLay0] at h
theorem eqv_selfAll : ∀ ds : List PyData, PyData.canLayAll0 ds = true → PyData.eqvAll ds ds = true
  | [], _ => by simp [PyData.eqvAll]
  | d :: r, h => by
    simp only [PyData.canLayAll0, Bool.and_eq_true] at h
    simp [PyData.eqvAll, eqv_self d h.1, eqv_selfAll r h.2]
end
theorem eqv_ints : ∀ {ns ms : List Int}, PyData.eqvAll (ns.map .int) (ms.map .int) = decide (ns = ms)
  | [], [] => by simp [PyData.eqvAll]
  | [], _ :: _ => by simp [PyData.eqvAll]
  | _ :: _, [] => by simp [PyData.eqvAll]
  | a :: r, b :: q => by
    simp only [List.map_cons, PyData.eqvAll, eqv_int, eqv_ints, List.cons.injEq]
    by_cases h : a = b <;> by_cases h2 : r = q <;> simp [h, h2]
/-! ### comprehensions that leave the cup -/
theorem compL_map {α : Type} {g : GF} {t : BF} {f : EF} {ρ : Rho} {c : Cu} (enc : α → PyData) (p : α → Bool) (φ : α → PyData) : ∀ (xs : List α),
    (∀ x ∈ xs, ∃ ρ1, g (enc x) ρ = some ρ1 ∧ t ρ1 c = some (p x, c) ∧ (p x = true → f ρ1 c = some (φ x, c))) → compL g t f (xs.map enc) ρ c = some ((xs.filter p).map φ, c)
  | [], _ => rfl
  | x :: xs, h => by
    obtain ⟨ρ1, h1, h2, h3⟩ := h x List.mem_cons_self
    have ih := compL_map (g := g) (t := t) (f := f) (ρ := ρ) (c := c) enc p φ xs fun y hy => h y (List.mem_cons_of_mem _ hy)
    rw [List.map_cons]
    unfold compL
    rw [h1]
    dsimp only
    rw [h2]
    cases hp : p x with
    | false =>
      rw [List.filter_cons_of_neg (by simp [hp])]
      exact ih
    | true =>
      dsimp only
      rw [h3 hp]
      dsimp only
      rw [ih, List.filter_cons_of_pos hp]
      rfl
/-- .. with each item kept as it is met -/
theorem compL_all {α : Type} {g : GF} {t : BF} {f : EF} {ρ : Rho} {c : Cu} (enc : α → PyData) (φ : α → PyData) (xs : List α)
    (h : ∀ x ∈ xs, ∃ ρ1, g (enc x) ρ = some ρ1 ∧ t ρ1 c = some (true, c) ∧ f ρ1 c = some (φ x, c)) : compL g t f (xs.map enc) ρ c = some (xs.map φ, c) := by
  have := compL_map (g := g) (t := t) (f := f) (ρ := ρ) (c := c) enc (fun _ => true) φ xs fun x hx => by
    obtain ⟨ρ1, h1, h2, h3⟩ := h x hx
    exact ⟨ρ1, h1, h2, fun _ => h3⟩
  rw [this, List.filter_eq_self.mpr fun _ _ => rfl]
/-! ### loops -/
theorem forL_rule {g : GF} {b : SF} (I : Nat → Rho → Cu → Prop) {items : List PyData} (h : ∀ (i : Nat) (d : PyData) (ρ : Rho) (c : Cu), items[i]? = some d → I i ρ c → ∃ ρ1, g d ρ = some ρ1 ∧ ∃ ρ' c', (b ρ1 c = .nx ρ' c' ∨ b ρ1 c = .ct ρ' c') ∧ I (i + 1) ρ' c')
    {ρ : Rho} {c : Cu} (h0 : I 0 ρ c) : ∃ ρ' c', forL g b items ρ c = .nx ρ' c' ∧ I items.length ρ' c' := by
  have key : ∀ (rest : List PyData) (i : Nat) (ρ : Rho) (c : Cu), items = items.take i ++ rest → i + rest.length = items.length → I i ρ c → ∃ ρ' c', forL g b rest ρ c = .nx ρ' c' ∧ I items.length ρ' c' := by
    intro rest
    induction rest with
    | nil =>
      intro i ρ c _ hl hI
      rw [List.length_nil] at hl
      exact ⟨ρ, c, rfl, (by rw [← hl]; exact hI)⟩
    | cons d r ih =>
      intro i ρ c e hl hI
      have hi : items[i]? = some d := by
        rw [e, List.getElem?_append_right (by rw [List.length_take]; omega), List.length_take]
        rw [List.length_cons] at hl
        rw [show i - min i items.length = 0 by omega]
        rfl
      obtain ⟨ρ1, h1, ρ', c', h2, h3⟩ := h i d ρ c hi hI
      unfold forL
      rw [h1]
      dsimp only
      have e' : items = items.take (i + 1) ++ r := by
        rw [List.take_add_one, hi]
        conv => lhs; rw [e]
        simp
      rcases h2 with h2 | h2
      · rw [h2]
        exact ih (i + 1) ρ' c' e' (by rw [List.length_cons] at hl; omega) h3
      · rw [h2]
        exact ih (i + 1) ρ' c' e' (by rw [List.length_cons] at hl; omega) h3
  exact key items 0 ρ c (by simp) (by simp) h0
theorem whileL_rule {t : BF} {b : SF} (I : Rho → Cu → Prop) (μ : Rho → Cu → Nat) (E : Rho → Cu → Prop)
    (h : ∀ ρ c, I ρ c → (∃ c1, t ρ c = some (false, c1) ∧ E ρ c1) ∨ ∃ c1 ρ' c', t ρ c = some (true, c1) ∧ b ρ c1 = .nx ρ' c' ∧ I ρ' c' ∧ μ ρ' c' < μ ρ c) :
    ∀ (n : Nat) (ρ : Rho) (c : Cu), I ρ c → μ ρ c < n → ∃ ρ' c', whileL t b n ρ c = .nx ρ' c' ∧ E ρ' c'
  | 0, _, _, _, hm => absurd hm (Nat.not_lt_zero _)
  | n + 1, ρ, c, hI, hm => by
    unfold whileL
    rcases h ρ c hI with ⟨c1, h1, h2⟩ | ⟨c1, ρ', c', h1, h2, h3, h4⟩
    · rw [h1]
      exact ⟨ρ, c1, rfl, h2⟩
    · rw [h1]
      dsimp only
      rw [h2]
      exact whileL_rule I μ E h n ρ' c' h3 (by omega)
end PL

set_option Elab.async false
set_option linter.all false
set_option maxRecDepth 100000
namespace PL
open PySem PySem.Spec PyProof.Rows L2 RZ
/-! ### how the functions are reckoned, step by step -/
section
variable {f f1 f2 f3 : EF} {t t2 : BF} {gf : GF} {a a2 : AF} {s s2 : SF} {o o2 : OF} {ρ : Rho} {c : Cu} {x y : PyData} {xs ys : List PyData} {b : Bool}
theorem ifc {α : Type} {p q : Prop} [Decidable p] [Decidable q] {x y : α} (h : p ↔ q) : (if p then x else y) = if q then x else y := by
  by_cases k : p
  · rw [if_pos k, if_pos (h.mp k)]
  · rw [if_neg k, if_neg fun z => k (h.mpr z)]
def varK : Option Sl → Cu → Option (PyData × Cu)
  | some (.d x), c => some (x, c)
  | _, _ => none
@[simp] theorem ev_var {i : Nat} : varE i ρ c = varK ρ[i]? c := by unfold varE varK; split <;> first | rfl | simp_all
@[simp] theorem ev_varK : varK (some (.d x)) c = some (x, c) := id rfl
def varTK : Option Sl → Cu → Option (PyData × Cu)
  | some (.d x), c => some (x, c)
  | some (.own (.lst xs)), c => some (.list xs, c)
  | _, _ => none
@[simp] theorem ev_varT {i : Nat} : varT i ρ c = varTK ρ[i]? c := by unfold varT varTK; split <;> first | rfl | simp_all
@[simp] theorem ev_varTK : varTK (some (.d x)) c = some (x, c) := id rfl
@[simp] theorem ev_varTK2 : varTK (some (.own (.lst xs))) c = some (.list xs, c) := id rfl
@[simp] theorem ev_c : cE x ρ c = some (x, c) := id rfl
@[simp] theorem ev_nilA : nilA ρ c = some ([], c) := id rfl
def consK (a : AF) (ρ : Rho) : Option (PyData × Cu) → Option (List PyData × Cu)
  | some (d, c1) => (match a ρ c1 with | some (ds, c2) => some (d :: ds, c2) | none => none)
  | none => none
def consK2 (d : PyData) : Option (List PyData × Cu) → Option (List PyData × Cu)
  | some (ds, c2) => some (d :: ds, c2)
  | none => none
@[simp] theorem ev_cons : consA f a ρ c = consK a ρ (f ρ c) := by
  unfold consA consK
  cases f ρ c with
  | none => rfl
  | some p =>
    obtain ⟨d, c1⟩ := p
    dsimp only
    cases a ρ c1 <;> rfl
@[simp] theorem ev_consK : consK a ρ (some (x, c)) = consK2 x (a ρ c) := by unfold consK consK2; first | rfl | (dsimp only; cases a ρ c <;> rfl)
@[simp] theorem ev_consK2 : consK2 x (some (xs, c)) = some (x :: xs, c) := id rfl
def tupK : Option (List PyData × Cu) → Option (PyData × Cu)
  | some (ds, c) => if ds.length ≤ sizeLine then some (.tuple ds, c) else none
  | none => none
@[simp] theorem ev_tup : tupE a ρ c = tupK (a ρ c) := by unfold tupE tupK; cases a ρ c <;> rfl
@[simp] theorem ev_tupK : tupK (some (xs, c)) = if xs.length ≤ sizeLine then some (.tuple xs, c) else none := id rfl
def lstK : Option (List PyData × Cu) → Option (PyData × Cu)
  | some (ds, c) => if ds.length ≤ sizeLine then some (.list ds, c) else none
  | none => none
@[simp] theorem ev_lst : lstE a ρ c = lstK (a ρ c) := by unfold lstE lstK; cases a ρ c <;> rfl
@[simp] theorem ev_lstK : lstK (some (xs, c)) = if xs.length ≤ sizeLine then some (.list xs, c) else none := id rfl
abbrev Op := PyData → PyData → Option PyData
variable {g g2 : Op}
def opK (g : Op) (f2 : EF) (ρ : Rho) : Option (PyData × Cu) → Option (PyData × Cu)
  | some (a, c1) => opE g (fun _ c => some (a, c)) f2 ρ c1
  | none => none
def opK2 (g : Op) (a : PyData) : Option (PyData × Cu) → Option (PyData × Cu)
  | some (b, c2) => (match g a b with | some r => some (r, c2) | none => none)
  | none => none
def retK : Option PyData → Cu → Option (PyData × Cu)
  | some r, c => some (r, c)
  | none, _ => none
@[simp] theorem ev_op : opE g f1 f2 ρ c = opK g f2 ρ (f1 ρ c) := by unfold opK; cases h : f1 ρ c with
  | none => unfold opE; rw [h]
  | some p => unfold opE; rw [h]
@[simp] theorem ev_opK : opK g f2 ρ (some (x, c)) = opK2 g x (f2 ρ c) := by unfold opK opK2 opE; dsimp only; cases f2 ρ c with
  | none => rfl
  | some p => dsimp only; cases g x p.1 <;> rfl
@[simp] theorem ev_opK2 : opK2 g x (some (y, c)) = retK (g x y) c := by unfold opK2 retK; dsimp only; cases g x y <;> rfl
@[simp] theorem ev_retK : retK (some x) c = some (x, c) := id rfl
def chK (g2 : Op) (y : PyData) (f3 : EF) (ρ : Rho) (c : Cu) : Option PyData → Option (PyData × Cu)
  | some (.bool true) => opK2 g2 y (f3 ρ c)
  | some (.bool false) => some (.bool false, c)
  | _ => none
def chK1 (g g2 : Op) (f2 f3 : EF) (ρ : Rho) : Option (PyData × Cu) → Option (PyData × Cu)
  | some (a, c1) => chE g g2 (fun _ c => some (a, c)) f2 f3 ρ c1
  | none => none
def chK2 (g g2 : Op) (x : PyData) (f3 : EF) (ρ : Rho) : Option (PyData × Cu) → Option (PyData × Cu)
  | some (b, c2) => chK g2 b f3 ρ c2 (g x b)
  | none => none
@[simp] theorem ev_ch : chE g g2 f1 f2 f3 ρ c = chK1 g g2 f2 f3 ρ (f1 ρ c) := by unfold chK1; cases h : f1 ρ c with
  | none => unfold chE; rw [h]
  | some p => unfold chE; rw [h]
@[simp] theorem ev_chK1 : chK1 g g2 f2 f3 ρ (some (x, c)) = chK2 g g2 x f3 ρ (f2 ρ c) := by
  unfold chK1 chK2 chE
  dsimp only
  cases f2 ρ c with
  | none => rfl
  | some p =>
    dsimp only
    unfold chK
    cases g x p.1 with
    | none => rfl
    | some r => cases r with
      | bool b =>
        cases b with
        | false => rfl
        | true =>
          dsimp only
          unfold opK2
          cases f3 ρ p.2 with
          | none => rfl
          | some q => dsimp only; cases g2 p.1 q.1 <;> rfl
      | _ => rfl
@[simp] theorem ev_chK2 : chK2 g g2 x f3 ρ (some (y, c)) = chK g2 y f3 ρ c (g x y) := id rfl
@[simp] theorem ev_chKt : chK g2 y f3 ρ c (some (.bool true)) = opK2 g2 y (f3 ρ c) := id rfl
@[simp] theorem ev_chKf : chK g2 y f3 ρ c (some (.bool false)) = some (.bool false, c) := id rfl
def tstK : Option (PyData × Cu) → Option (Bool × Cu)
  | some (.bool b, c) => some (b, c)
  | _ => none
@[simp] theorem ev_tst : tstB f ρ c = tstK (f ρ c) := by unfold tstB tstK; split <;> first | rfl | simp_all
@[simp] theorem ev_tstK : tstK (some (.bool b, c)) = some (b, c) := id rfl
def notK : Option (Bool × Cu) → Option (Bool × Cu)
  | some (b, c) => some (!b, c)
  | none => none
@[simp] theorem ev_not : notB t ρ c = notK (t ρ c) := by unfold notB notK; cases t ρ c <;> rfl
@[simp] theorem ev_notK : notK (some (b, c)) = some (!b, c) := id rfl
def andBK (t2 : BF) (ρ : Rho) : Option (Bool × Cu) → Option (Bool × Cu)
  | some (true, c) => t2 ρ c
  | some (false, c) => some (false, c)
  | none => none
@[simp] theorem ev_andB : andB t t2 ρ c = andBK t2 ρ (t ρ c) := by
  unfold andB andBK
  cases t ρ c with
  | none => rfl
  | some p =>
    obtain ⟨b, c1⟩ := p
    cases b <;> rfl
@[simp] theorem ev_andBt : andBK t2 ρ (some (true, c)) = t2 ρ c := id rfl
@[simp] theorem ev_andBf : andBK t2 ρ (some (false, c)) = some (false, c) := id rfl
def orBK (t2 : BF) (ρ : Rho) : Option (Bool × Cu) → Option (Bool × Cu)
  | some (true, c) => some (true, c)
  | some (false, c) => t2 ρ c
  | none => none
@[simp] theorem ev_orB : orB t t2 ρ c = orBK t2 ρ (t ρ c) := by
  unfold orB orBK
  cases t ρ c with
  | none => rfl
  | some p =>
    obtain ⟨b, c1⟩ := p
    cases b <;> rfl
@[simp] theorem ev_orBt : orBK t2 ρ (some (true, c)) = some (true, c) := id rfl
@[simp] theorem ev_orBf : orBK t2 ρ (some (false, c)) = t2 ρ c := id rfl
def andK (f2 : EF) (ρ : Rho) : Option (PyData × Cu) → Option (PyData × Cu)
  | some (.bool true, c) => f2 ρ c
  | some (.bool false, c) => some (.bool false, c)
  | _ => none
@[simp] theorem ev_and : andE f f2 ρ c = andK f2 ρ (f ρ c) := by unfold andE andK; split <;> first | rfl | simp_all
@[simp] theorem ev_andt : andK f2 ρ (some (.bool true, c)) = f2 ρ c := id rfl
@[simp] theorem ev_andf : andK f2 ρ (some (.bool false, c)) = some (.bool false, c) := id rfl
def orK (f2 : EF) (ρ : Rho) : Option (PyData × Cu) → Option (PyData × Cu)
  | some (.bool false, c) => f2 ρ c
  | some (.bool true, c) => some (.bool true, c)
  | _ => none
@[simp] theorem ev_or : orE f f2 ρ c = orK f2 ρ (f ρ c) := by unfold orE orK; split <;> first | rfl | simp_all
@[simp] theorem ev_ort : orK f2 ρ (some (.bool true, c)) = some (.bool true, c) := id rfl
@[simp] theorem ev_orf : orK f2 ρ (some (.bool false, c)) = f2 ρ c := id rfl
def notEK : Option (PyData × Cu) → Option (PyData × Cu)
  | some (.bool b, c) => some (.bool (!b), c)
  | _ => none
@[simp] theorem ev_notE : notE f ρ c = notEK (f ρ c) := by unfold notE notEK; split <;> first | rfl | simp_all
@[simp] theorem ev_notEK : notEK (some (.bool b, c)) = some (.bool (!b), c) := id rfl
def ifEK (f f2 : EF) (ρ : Rho) : Option (Bool × Cu) → Option (PyData × Cu)
  | some (true, c) => f ρ c
  | some (false, c) => f2 ρ c
  | none => none
@[simp] theorem ev_ifE : ifE t f f2 ρ c = ifEK f f2 ρ (t ρ c) := by
  unfold ifE ifEK
  cases t ρ c with
  | none => rfl
  | some p =>
    obtain ⟨b, c1⟩ := p
    cases b <;> rfl
@[simp] theorem ev_ifEt : ifEK f f2 ρ (some (true, c)) = f ρ c := id rfl
@[simp] theorem ev_ifEf : ifEK f f2 ρ (some (false, c)) = f2 ρ c := id rfl
def unK (h : PyData → Option PyData) : Option (PyData × Cu) → Option (PyData × Cu)
  | some (d, c) => retK (h d) c
  | none => none
variable {h : PyData → Option PyData}
@[simp] theorem ev_un : unE h f ρ c = unK h (f ρ c) := by
  unfold unE unK
  cases f ρ c with
  | none => rfl
  | some p => dsimp only; unfold retK; cases h p.1 <;> rfl
@[simp] theorem ev_unK : unK h (some (x, c)) = retK (h x) c := id rfl
@[simp] theorem ev_noO : noO ρ c = some (none, c) := id rfl
def someK : Option (PyData × Cu) → Option (Option Int × Cu)
  | some (.int i, c) => some (some i, c)
  | _ => none
@[simp] theorem ev_someO : someO f ρ c = someK (f ρ c) := by unfold someO someK; split <;> first | rfl | simp_all
@[simp] theorem ev_someK {i : Int} : someK (some (.int i, c)) = some (some i, c) := id rfl
def slK (o o2 : OF) (ρ : Rho) : Option (PyData × Cu) → Option (PyData × Cu)
  | some (d, c) => slE (fun _ c => some (d, c)) o o2 ρ c
  | none => none
def slK2 (d : PyData) (o2 : OF) (ρ : Rho) : Option (Option Int × Cu) → Option (PyData × Cu)
  | some (lo, c) => slE (fun _ c => some (d, c)) (fun _ c => some (lo, c)) o2 ρ c
  | none => none
def slK3 (d : PyData) (lo : Option Int) : Option (Option Int × Cu) → Option (PyData × Cu)
  | some (hi, c) => retK (slD d lo hi) c
  | none => none
@[simp] theorem ev_sl : slE f o o2 ρ c = slK o o2 ρ (f ρ c) := by unfold slK; cases e : f ρ c with
  | none => unfold slE; rw [e]
  | some p => unfold slE; rw [e]
@[simp] theorem ev_slK : slK o o2 ρ (some (x, c)) = slK2 x o2 ρ (o ρ c) := by unfold slK slK2; cases e : o ρ c with
  | none => unfold slE; dsimp only; rw [e]
  | some p => unfold slE; dsimp only; rw [e]
@[simp] theorem ev_slK2 {lo : Option Int} : slK2 x o2 ρ (some (lo, c)) = slK3 x lo (o2 ρ c) := by unfold slK2 slK3 slE; dsimp only; cases o2 ρ c with
  | none => rfl
  | some p => dsimp only; unfold retK; cases slD x lo p.1 <;> rfl
@[simp] theorem ev_slK3 {lo hi : Option Int} : slK3 x lo (some (hi, c)) = retK (slD x lo hi) c := id rfl
def callK (F : List PyData → Option PyData) : Option (List PyData × Cu) → Option (PyData × Cu)
  | some (ds, c) => retK (F ds) c
  | none => none
variable {F : List PyData → Option PyData} {FC : List PyData → Cu → Option (PyData × Cu)}
@[simp] theorem ev_call : callB F a ρ c = callK F (a ρ c) := by
  unfold callB callK
  cases a ρ c with
  | none => rfl
  | some p => dsimp only; unfold retK; cases F p.1 <;> rfl
@[simp] theorem ev_callK : callK F (some (xs, c)) = retK (F xs) c := id rfl
def callCK (FC : List PyData → Cu → Option (PyData × Cu)) : Option Sl → Option (List PyData × Cu) → Option (PyData × Cu)
  | some .cup, some (ds, c) => FC ds c
  | _, _ => none
@[simp] theorem ev_callC {i : Nat} : callC i FC a ρ c = callCK FC ρ[i]? (a ρ c) := by
  unfold callC callCK
  cases ρ[i]? with
  | none => rfl
  | some q => cases q <;> first | rfl | (cases a ρ c <;> rfl)
@[simp] theorem ev_callCK : callCK FC (some .cup) (some (xs, c)) = FC xs c := id rfl
def cupEK (j : Int) : Option Sl → Cu → Option (PyData × Cu)
  | some .cup, c => if j = 0 then some (.int c.1, c) else if j = 1 then some (.int c.2, c) else none
  | _, _ => none
@[simp] theorem ev_cup {i : Nat} {j : Int} : cupE i j ρ c = cupEK j ρ[i]? c := by unfold cupE cupEK; split <;> first | rfl | simp_all
@[simp] theorem ev_cup0 : cupEK 0 (some .cup) c = some (.int c.1, c) := id rfl
@[simp] theorem ev_cup1 : cupEK 1 (some .cup) c = some (.int c.2, c) := id rfl
@[simp] theorem ev_pow18 : powD (.int 10) (.int 18) = some (.int 1000000000000000000) := id rfl
@[simp] theorem ev_geD {i j : Int} : geD (.int i) (.int j) = some (.bool (decide (i ≥ j))) := id rfl
@[simp] theorem ev_gtD {i j : Int} : gtD (.int i) (.int j) = some (.bool (decide (i > j))) := id rfl
@[simp] theorem ev_leD {i j : Int} : leD (.int i) (.int j) = some (.bool (decide (i ≤ j))) := id rfl
@[simp] theorem ev_index {ns : List Int} {i : Int} : indexD (.list (ns.map .int)) (.int i) = if i ∈ ns then some (.int (ns.idxOf i : Nat)) else none := by simp [indexD]
@[simp] theorem ev_minX_i {i j : Int} : minX [.int i, .int j] = some (.int (min i j)) := id rfl
@[simp] theorem ev_maxX_i {i j : Int} : maxX [.int i, .int j] = some (.int (max i j)) := id rfl
@[simp] theorem ev_sumX_l {ns : List Int} : sumX [.list (ns.map .int)] = some (.int ns.sum) := sumX_list ns
@[simp] theorem ev_sumX_t {ns : List Int} : sumX [.tuple (ns.map .int)] = some (.int ns.sum) := sumX_tuple ns
def repK2 (xs : List PyData) : Option (PyData × Cu) → Option (Ow × Cu)
  | some (.int k, c2) => if -(2 ^ 63) ≤ k ∧ k < 2 ^ 63 ∧ xs.length * k.toNat ≤ sizeLine then some (.lst (List.replicate k.toNat xs).flatten, c2) else none
  | _ => none
def repK1 (f2 : EF) (ρ : Rho) : Option (PyData × Cu) → Option (Ow × Cu)
  | some (.list xs, c1) => repK2 xs (f2 ρ c1)
  | _ => none
def in63 (i : Int) : Bool := decide (-9223372036854775808 ≤ i ∧ i < 9223372036854775808)
theorem in63_of {i : Int} (h : -9223372036854775808 ≤ i) (h2 : i < 9223372036854775808) : in63 i = true := by
  unfold in63
  exact decide_eq_true ⟨h, h2⟩
theorem rep_one (z : PyData) : ∀ n : Nat, (List.replicate n [z]).flatten = List.replicate n z
  | 0 => id rfl
  | n + 1 => by rw [List.replicate_succ, List.flatten_cons, rep_one z n, List.replicate_succ]; exact id rfl
@[simp] theorem ev_repF : repF f f2 ρ c = repK1 f2 ρ (f ρ c) := by
  unfold repF repK1
  cases f ρ c with
  | none => rfl
  | some p =>
    obtain ⟨d, c1⟩ := p
    cases d <;> first | rfl | (dsimp only; unfold repK2; cases f2 ρ c1 <;> rfl)
@[simp] theorem ev_repK1 : repK1 f2 ρ (some (.list xs, c)) = repK2 xs (f2 ρ c) := id rfl
@[simp] theorem ev_repK2 {k : Int} : repK2 [x] (some (.int k, c)) = if in63 k = true ∧ k.toNat ≤ sizeLine then some (.lst (List.replicate k.toNat x), c) else none := by
  unfold repK2 in63
  dsimp only
  rw [rep_one]
  exact ifc (by simp [and_assoc])
def isiK (T : String) : Option (PyData × Cu) → Option (PyData × Cu)
  | some (d, c) => some (.bool (tyOf d == T || (T == "int" && tyOf d == "bool")), c)
  | none => none
@[simp] theorem ev_isi {T : String} : isiE T f ρ c = isiK T (f ρ c) := by unfold isiE isiK; cases f ρ c <;> rfl
@[simp] theorem ev_isi_int_non : isiK "int" (some (.none, c)) = some (.bool false, c) := id rfl
@[simp] theorem ev_isi_int_bool : isiK "int" (some ((.bool b), c)) = some (.bool true, c) := id rfl
@[simp] theorem ev_isi_int_int {i : Int} : isiK "int" (some ((.int i), c)) = some (.bool true, c) := id rfl
@[simp] theorem ev_isi_int_str {z : Str} : isiK "int" (some ((.str z), c)) = some (.bool false, c) := id rfl
@[simp] theorem ev_isi_int_list : isiK "int" (some ((.list xs), c)) = some (.bool false, c) := id rfl
@[simp] theorem ev_isi_int_tup : isiK "int" (some ((.tuple xs), c)) = some (.bool false, c) := id rfl
@[simp] theorem ev_isi_int_dic {kv : List (PyData × PyData)} : isiK "int" (some ((.dict kv), c)) = some (.bool false, c) := id rfl
@[simp] theorem ev_isi_bool_non : isiK "bool" (some (.none, c)) = some (.bool false, c) := id rfl
@[simp] theorem ev_isi_bool_bool : isiK "bool" (some ((.bool b), c)) = some (.bool true, c) := id rfl
@[simp] theorem ev_isi_bool_int {i : Int} : isiK "bool" (some ((.int i), c)) = some (.bool false, c) := id rfl
@[simp] theorem ev_isi_bool_str {z : Str} : isiK "bool" (some ((.str z), c)) = some (.bool false, c) := id rfl
@[simp] theorem ev_isi_bool_list : isiK "bool" (some ((.list xs), c)) = some (.bool false, c) := id rfl
@[simp] theorem ev_isi_bool_tup : isiK "bool" (some ((.tuple xs), c)) = some (.bool false, c) := id rfl
@[simp] theorem ev_isi_bool_dic {kv : List (PyData × PyData)} : isiK "bool" (some ((.dict kv), c)) = some (.bool false, c) := id rfl
@[simp] theorem ev_isi_str_non : isiK "str" (some (.none, c)) = some (.bool false, c) := id rfl
@[simp] theorem ev_isi_str_bool : isiK "str" (some ((.bool b), c)) = some (.bool false, c) := id rfl
@[simp] theorem ev_isi_str_int {i : Int} : isiK "str" (some ((.int i), c)) = some (.bool false, c) := id rfl
@[simp] theorem ev_isi_str_str {z : Str} : isiK "str" (some ((.str z), c)) = some (.bool true, c) := id rfl
@[simp] theorem ev_isi_str_list : isiK "str" (some ((.list xs), c)) = some (.bool false, c) := id rfl
@[simp] theorem ev_isi_str_tup : isiK "str" (some ((.tuple xs), c)) = some (.bool false, c) := id rfl
@[simp] theorem ev_isi_str_dic {kv : List (PyData × PyData)} : isiK "str" (some ((.dict kv), c)) = some (.bool false, c) := id rfl
@[simp] theorem ev_isi_list_non : isiK "list" (some (.none, c)) = some (.bool false, c) := id rfl
@[simp] theorem ev_isi_list_bool : isiK "list" (some ((.bool b), c)) = some (.bool false, c) := id rfl
@[simp] theorem ev_isi_list_int {i : Int} : isiK "list" (some ((.int i), c)) = some (.bool false, c) := id rfl
@[simp] theorem ev_isi_list_str {z : Str} : isiK "list" (some ((.str z), c)) = some (.bool false, c) := id rfl
@[simp] theorem ev_isi_list_list : isiK "list" (some ((.list xs), c)) = some (.bool true, c) := id rfl
@[simp] theorem ev_isi_list_tup : isiK "list" (some ((.tuple xs), c)) = some (.bool false, c) := id rfl
@[simp] theorem ev_isi_list_dic {kv : List (PyData × PyData)} : isiK "list" (some ((.dict kv), c)) = some (.bool false, c) := id rfl
@[simp] theorem ev_isi_tuple_non : isiK "tuple" (some (.none, c)) = some (.bool false, c) := id rfl
@[simp] theorem ev_isi_tuple_bool : isiK "tuple" (some ((.bool b), c)) = some (.bool false, c) := id rfl
@[simp] theorem ev_isi_tuple_int {i : Int} : isiK "tuple" (some ((.int i), c)) = some (.bool false, c) := id rfl
@[simp] theorem ev_isi_tuple_str {z : Str} : isiK "tuple" (some ((.str z), c)) = some (.bool false, c) := id rfl
@[simp] theorem ev_isi_tuple_list : isiK "tuple" (some ((.list xs), c)) = some (.bool false, c) := id rfl
@[simp] theorem ev_isi_tuple_tup : isiK "tuple" (some ((.tuple xs), c)) = some (.bool true, c) := id rfl
@[simp] theorem ev_isi_tuple_dic {kv : List (PyData × PyData)} : isiK "tuple" (some ((.dict kv), c)) = some (.bool false, c) := id rfl
@[simp] theorem ev_add_i {i j : Int} : addD (.int i) (.int j) = some (.int (i + j)) := id rfl
@[simp] theorem ev_sub_i {i j : Int} : subD (.int i) (.int j) = some (.int (i - j)) := id rfl
@[simp] theorem ev_neg_i {i : Int} : negD (.int i) = some (.int (-i)) := id rfl
@[simp] theorem ev_cmp_i {i j : Int} {p : Int → Int → Bool} : cmpD p (.int i) (.int j) = some (.bool (p i j)) := id rfl
@[simp] theorem ev_lt_i {i j : Int} : ltD (.int i) (.int j) = some (.bool (decide (i < j))) := id rfl
@[simp] theorem ev_is_b {b2 : Bool} : isD (.bool b) (.bool b2) = some (.bool (decide (b = b2))) := id rfl
@[simp] theorem ev_isn_b {b2 : Bool} : isNotD (.bool b) (.bool b2) = some (.bool (!decide (b = b2))) := id rfl
@[simp] theorem ev_len_l : lenD [.list xs] = some (.int xs.length) := id rfl
@[simp] theorem ev_len_t : lenD [.tuple xs] = some (.int xs.length) := id rfl
@[simp] theorem ev_abs_i {i : Int} : absD [.int i] = some (.int (if i < 0 then -i else i)) := id rfl
@[simp] theorem ev_min_i {i j : Int} : minD [.int i, .int j] = some (.int (min i j)) := id rfl
@[simp] theorem ev_max_i {i j : Int} : maxD [.int i, .int j] = some (.int (max i j)) := id rfl
@[simp] theorem ev_tuple_l : tupleD [.list xs] = some (.tuple xs) := id rfl
@[simp] theorem ev_tuple_t : tupleD [.tuple xs] = some (.tuple xs) := id rfl
@[simp] theorem ev_list_l : listD [.list xs] = some (.list xs) := id rfl
@[simp] theorem ev_list_t : listD [.tuple xs] = some (.list xs) := id rfl
@[simp] theorem ev_int_i {i : Int} : intD [.int i] = some (.int i) := id rfl
@[simp] theorem ev_int_b : intD [.bool b] = some (.int (if b then 1 else 0)) := id rfl
@[simp] theorem ev_str_s {z : Str} : strD [.str z] = some (.str z) := id rfl
@[simp] theorem ev_sl_l {lo hi : Option Int} : slD (.list xs) lo hi = some (.list (cut xs lo hi)) := id rfl
@[simp] theorem ev_sl_t {lo hi : Option Int} : slD (.tuple xs) lo hi = some (.tuple (cut xs lo hi)) := id rfl
@[simp] theorem ev_idx_l {i : Int} : idxD (.list xs) (.int i) = atI xs i := id rfl
@[simp] theorem ev_idx_t {i : Int} : idxD (.tuple xs) (.int i) = atI xs i := id rfl
@[simp] theorem ev_add_l : addD (.list xs) (.list ys) = if xs.length + ys.length ≤ sizeLine then some (.list (xs ++ ys)) else none := id rfl
@[simp] theorem ev_add_t : addD (.tuple xs) (.tuple ys) = if xs.length + ys.length ≤ sizeLine then some (.tuple (xs ++ ys)) else none := id rfl
@[simp] theorem ev_mod_i {i j : Int} : modD (.int i) (.int j) = if 0 < j then some (.int (i % j)) else none := id rfl
@[simp] theorem ev_fdiv_i {i j : Int} : fdivD (.int i) (.int j) = if 0 < j ∧ j < 1073741824 then some (.int (i / j)) else none := id rfl
@[simp] theorem ev_mul_i {i j : Int} : mulD (.int i) (.int j) = if mulOk i j = true then some (.int (i * j)) else none := id rfl
@[simp] theorem ev_pow_i {i j : Int} : powD (.int i) (.int j) = if 0 ≤ j ∧ j ≤ 1000000 ∧ i.natAbs < 2 ^ 64 then some (.int (i ^ j.toNat)) else none := id rfl
@[simp] theorem ev_in_l : inD b x (.list ys) = if SeqAt.shaped x = true ∧ SeqAt.shaped (.list ys) = true then some (.bool (b ^^ ys.any fun q => PyData.eqv q x)) else none := id rfl
@[simp] theorem ev_in_t : inD b x (.tuple ys) = if flatD x = true ∧ ys.all flatD = true then some (.bool (b ^^ ys.any fun q => PyData.eqv q x)) else none := id rfl
@[simp] theorem ev_is_n : isD x .none = some (.bool (nonD x)) := by unfold isD; split <;> first | rfl | simp_all
@[simp] theorem ev_isn_n : isNotD x .none = some (.bool (!nonD x)) := by unfold isNotD; split <;> first | rfl | simp_all
@[simp] theorem ev_non1 : nonD .none = true := id rfl
@[simp] theorem ev_non2 : nonD (.bool b) = false := id rfl
@[simp] theorem ev_non3 {i : Int} : nonD (.int i) = false := id rfl
@[simp] theorem ev_non4 {z : Str} : nonD (.str z) = false := id rfl
@[simp] theorem ev_non5 : nonD (.list xs) = false := id rfl
@[simp] theorem ev_non6 : nonD (.tuple xs) = false := id rfl
@[simp] theorem ev_flat1 : flatD .none = true := id rfl
@[simp] theorem ev_flat2 : flatD (.bool b) = true := id rfl
@[simp] theorem ev_flat3 {i : Int} : flatD (.int i) = true := id rfl
@[simp] theorem ev_flat4 {z : Str} : flatD (.str z) = true := id rfl
@[simp] theorem ev_eq : eqD x y = if SeqAt.shaped x = true ∧ SeqAt.shaped y = true then some (.bool (PyData.eqv x y)) else none := id rfl
@[simp] theorem ev_ne : neD x y = if SeqAt.shaped x = true ∧ SeqAt.shaped y = true then some (.bool (!PyData.eqv x y)) else none := id rfl
@[simp] theorem ev_sum {ns : List Int} : sumD [.list (ns.map .int)] = some (.int ns.sum) := by simp [sumD]
@[simp] theorem ev_all {bs : List Bool} : allD [.list (bs.map .bool)] = some (.bool (bs.all id)) := by simp [allD]
@[simp] theorem ev_any {bs : List Bool} : anyD [.list (bs.map .bool)] = some (.bool (bs.any id)) := by simp [anyD]
def outK (s : SF) : Out → Out
  | .nx ρ c => s ρ c
  | o => o
@[simp] theorem ev_seq : seqS s s2 ρ c = outK s2 (s ρ c) := by unfold seqS outK; cases s ρ c <;> rfl
@[simp] theorem ev_outn : outK s (.nx ρ c) = s ρ c := id rfl
@[simp] theorem ev_outr : outK s (.rt x c) = .rt x c := id rfl
@[simp] theorem ev_outb : outK s (.bk ρ c) = .bk ρ c := id rfl
@[simp] theorem ev_outc : outK s (.ct ρ c) = .ct ρ c := id rfl
@[simp] theorem ev_nop : nopS ρ c = .nx ρ c := id rfl
@[simp] theorem ev_brk : brkS ρ c = .bk ρ c := id rfl
@[simp] theorem ev_cnt : cntS ρ c = .ct ρ c := id rfl
def rtK : Option (PyData × Cu) → Out
  | some (d, c) => .rt d c
  | none => .no
@[simp] theorem ev_ret : retS f ρ c = rtK (f ρ c) := by unfold retS rtK; cases f ρ c <;> rfl
@[simp] theorem ev_rtK : rtK (some (x, c)) = .rt x c := id rfl
@[simp] theorem ev_retNo : retNoS ρ c = .rt .none c := id rfl
def retOK : Option Sl → Cu → Out
  | some (.own k), c => .rt (owD k) c
  | some (.d x), c => .rt x c
  | _, _ => .no
@[simp] theorem ev_retOwn {i : Nat} : retOwn i ρ c = retOK ρ[i]? c := by unfold retOwn retOK; split <;> first | rfl | simp_all
@[simp] theorem ev_retOK {k : Ow} : retOK (some (.own k)) c = .rt (owD k) c := id rfl
@[simp] theorem ev_retOK2 : retOK (some (.d x)) c = .rt x c := id rfl
@[simp] theorem ev_owl : owD (.lst xs) = .list xs := id rfl
def exK (ρ : Rho) : Option (PyData × Cu) → Out
  | some (_, c) => .nx ρ c
  | none => .no
@[simp] theorem ev_ex : exprS f ρ c = exK ρ (f ρ c) := by unfold exprS exK; cases f ρ c <;> rfl
@[simp] theorem ev_exK : exK ρ (some (x, c)) = .nx ρ c := id rfl
def ifSK (s s2 : SF) (ρ : Rho) : Option (Bool × Cu) → Out
  | some (true, c) => s ρ c
  | some (false, c) => s2 ρ c
  | none => .no
@[simp] theorem ev_ifS : ifS t s s2 ρ c = ifSK s s2 ρ (t ρ c) := by
  unfold ifS ifSK
  cases t ρ c with
  | none => rfl
  | some p =>
    obtain ⟨b, c1⟩ := p
    cases b <;> rfl
@[simp] theorem ev_ifSt : ifSK s s2 ρ (some (true, c)) = s ρ c := id rfl
@[simp] theorem ev_ifSf : ifSK s s2 ρ (some (false, c)) = s2 ρ c := id rfl
def asgK (gf : GF) (ρ : Rho) : Option (PyData × Cu) → Out
  | some (d, c) => (match gf d ρ with | some ρ' => .nx ρ' c | none => .no)
  | none => .no
@[simp] theorem ev_asg : asgS f gf ρ c = asgK gf ρ (f ρ c) := by unfold asgS asgK; cases f ρ c <;> rfl
def nxK : Option Rho → Cu → Out
  | some ρ, c => .nx ρ c
  | none, _ => .no
@[simp] theorem ev_asgK : asgK gf ρ (some (x, c)) = nxK (gf x ρ) c := by unfold asgK nxK; dsimp only; cases gf x ρ <;> rfl
@[simp] theorem ev_nxK : nxK (some ρ) c = .nx ρ c := id rfl
@[simp] theorem ev_nameG {i : Nat} : nameG i x ρ = some (ρ.set i (.d x)) := id rfl
@[simp] theorem ev_nilG : nilG [] ρ = some ρ := id rfl
def consGK (gs : GsF) (r : List PyData) : Option Rho → Option Rho
  | some ρ => gs r ρ
  | none => none
variable {gs : GsF}
@[simp] theorem ev_consG : consG gf gs (x :: xs) ρ = consGK gs xs (gf x ρ) := by show (match gf x ρ with | some ρ1 => gs xs ρ1 | none => none) = _; unfold consGK; cases gf x ρ <;> rfl
@[simp] theorem ev_consGK : consGK gs xs (some ρ) = gs xs ρ := id rfl
@[simp] theorem ev_tupG {n : Nat} : tupG n gs (.tuple xs) ρ = if xs.length = n then gs xs ρ else none := id rfl
abbrev FF := Rho → Cu → Option (Ow × Cu)
variable {ff : FF}
def ownK (i : Nat) (ρ : Rho) : Option (Ow × Cu) → Out
  | some (k, c) => .nx (ρ.set i (.own k)) c
  | none => .no
@[simp] theorem ev_own {i : Nat} : ownS i ff ρ c = ownK i ρ (ff ρ c) := by unfold ownS ownK; cases ff ρ c <;> rfl
@[simp] theorem ev_ownK {i : Nat} {k : Ow} : ownK i ρ (some (k, c)) = .nx (ρ.set i (.own k)) c := id rfl
def lstFK : Option (List PyData × Cu) → Option (Ow × Cu)
  | some (ds, c) => if ds.length ≤ sizeLine then some (.lst ds, c) else none
  | none => none
@[simp] theorem ev_lstF : lstF a ρ c = lstFK (a ρ c) := by unfold lstF lstFK; cases a ρ c <;> rfl
@[simp] theorem ev_lstFK : lstFK (some (xs, c)) = if xs.length ≤ sizeLine then some (.lst xs, c) else none := id rfl
def listFK : Option (PyData × Cu) → Option (Ow × Cu)
  | some (.list xs, c) => some (.lst xs, c)
  | some (.tuple xs, c) => some (.lst xs, c)
  | _ => none
@[simp] theorem ev_listF : listF f ρ c = listFK (f ρ c) := by unfold listF listFK; split <;> first | rfl | simp_all
@[simp] theorem ev_listFK : listFK (some (.list xs, c)) = some (.lst xs, c) := id rfl
@[simp] theorem ev_listFK2 : listFK (some (.tuple xs, c)) = some (.lst xs, c) := id rfl
def appK (i : Nat) (ρ : Rho) : Option Sl → Option (PyData × Cu) → Out
  | some (.own (.lst xs)), some (d, c) => if xs.length < sizeLine then .nx (ρ.set i (.own (.lst (xs ++ [d])))) c else .no
  | _, _ => .no
@[simp] theorem ev_app {i : Nat} : appS i f ρ c = appK i ρ ρ[i]? (f ρ c) := by
  unfold appS appK
  cases f ρ c with
  | none => split <;> first | rfl | simp_all
  | some p =>
    dsimp only
    cases ρ[i]? with
    | none => rfl
    | some q => cases q with
      | own k => cases k <;> rfl
      | _ => rfl
@[simp] theorem ev_appK {i : Nat} : appK i ρ (some (.own (.lst xs))) (some (x, c)) = if xs.length < sizeLine then .nx (ρ.set i (.own (.lst (xs ++ [x])))) c else .no := id rfl
def cupSK (ρ : Rho) (j : Int) : Option Sl → Option (PyData × Cu) → Out
  | some .cup, some (.int n, c) => if j = 0 then .nx ρ (n, c.2) else if j = 1 then .nx ρ (c.1, n) else .no
  | _, _ => .no
@[simp] theorem ev_cupS {i : Nat} {j : Int} : cupS i j f ρ c = cupSK ρ j ρ[i]? (f ρ c) := by
  unfold cupS cupSK
  cases f ρ c with
  | none => split <;> first | rfl | simp_all
  | some p =>
    obtain ⟨d, c1⟩ := p
    cases d with
    | int n => cases ρ[i]? with
      | none => rfl
      | some q => cases q <;> rfl
    | _ => split <;> first | rfl | simp_all
@[simp] theorem ev_cupS0 {j : Int} : cupSK ρ 0 (some .cup) (some (.int j, c)) = .nx ρ (j, c.2) := id rfl
@[simp] theorem ev_cupS1 {j : Int} : cupSK ρ 1 (some .cup) (some (.int j, c)) = .nx ρ (c.1, j) := id rfl
variable {xf : XF} {it1 : List It1}
def parK (is : List Nat) (ρ : Rho) : Option (List It1 × Cu) → Out
  | some (items, c) => .nx (setsR ρ is items) c
  | none => .no
@[simp] theorem ev_par {is : List Nat} : parS is xf ρ c = parK is ρ (xf ρ c) := by unfold parS parK; cases xf ρ c <;> rfl
@[simp] theorem ev_parK {is : List Nat} : parK is ρ (some (it1, c)) = .nx (setsR ρ is it1) c := id rfl
@[simp] theorem ev_sets0 : setsR ρ [] [] = ρ := id rfl
@[simp] theorem ev_setsk {i : Nat} {is : List Nat} : setsR ρ (i :: is) (.k x :: it1) = setsR (ρ.set i (.d x)) is it1 := id rfl
@[simp] theorem ev_setso {i : Nat} {is : List Nat} {k : Ow} : setsR ρ (i :: is) (.o k :: it1) = setsR (ρ.set i (.own k)) is it1 := id rfl
@[simp] theorem ev_nilX : nilX ρ c = some ([], c) := id rfl
def keepXK (xf : XF) (ρ : Rho) : Option (PyData × Cu) → Option (List It1 × Cu)
  | some (d, c) => (match xf ρ c with | some (r, c2) => some (.k d :: r, c2) | none => none)
  | none => none
def itK (q : It1) : Option (List It1 × Cu) → Option (List It1 × Cu)
  | some (r, c2) => some (q :: r, c2)
  | none => none
@[simp] theorem ev_keepX : keepX f xf ρ c = keepXK xf ρ (f ρ c) := by
  unfold keepX keepXK
  cases f ρ c with
  | none => rfl
  | some p => dsimp only; cases xf ρ p.2 <;> rfl
@[simp] theorem ev_keepXK : keepXK xf ρ (some (x, c)) = itK (.k x) (xf ρ c) := by unfold keepXK itK; first | rfl | (dsimp only; cases xf ρ c <;> rfl)
def ownXK (xf : XF) (ρ : Rho) : Option (Ow × Cu) → Option (List It1 × Cu)
  | some (d, c) => (match xf ρ c with | some (r, c2) => some (.o d :: r, c2) | none => none)
  | none => none
@[simp] theorem ev_ownX : ownX ff xf ρ c = ownXK xf ρ (ff ρ c) := by
  unfold ownX ownXK
  cases ff ρ c with
  | none => rfl
  | some p => dsimp only; cases xf ρ p.2 <;> rfl
@[simp] theorem ev_ownXK {k : Ow} : ownXK xf ρ (some (k, c)) = itK (.o k) (xf ρ c) := by unfold ownXK itK; first | rfl | (dsimp only; cases xf ρ c <;> rfl)
@[simp] theorem ev_itK {q : It1} : itK q (some (it1, c)) = some (q :: it1, c) := id rfl
@[simp] theorem ev_frzS {i : Nat} : frzS i s ρ c = s (frz i ρ) c := id rfl
def frzK (i : Nat) (ρ : Rho) : Option Sl → Rho
  | some (.own k) => ρ.set i (.d (owD k))
  | _ => ρ
@[simp] theorem ev_frz {i : Nat} : frz i ρ = frzK i ρ ρ[i]? := by unfold frz frzK; split <;> first | rfl | simp_all
@[simp] theorem ev_frzK {i : Nat} {k : Ow} : frzK i ρ (some (.own k)) = ρ.set i (.d (owD k)) := id rfl
@[simp] theorem ev_frzK2 {i : Nat} : frzK i ρ (some (.d x)) = ρ := id rfl
def forK (gf : GF) (s : SF) (ρ : Rho) : Option (List PyData × Cu) → Out
  | some (items, c) => forL gf s items ρ c
  | none => .no
@[simp] theorem ev_for : forS a gf s ρ c = forK gf s ρ (a ρ c) := by unfold forS forK; cases a ρ c <;> rfl
@[simp] theorem ev_forK : forK gf s ρ (some (xs, c)) = forL gf s xs ρ c := id rfl
def seqIK : Option (PyData × Cu) → Option (List PyData × Cu)
  | some (.list xs, c) => some (xs, c)
  | some (.tuple xs, c) => some (xs, c)
  | _ => none
@[simp] theorem ev_seqI : seqI f ρ c = seqIK (f ρ c) := by unfold seqI seqIK; split <;> first | rfl | simp_all
@[simp] theorem ev_seqIl : seqIK (some (.list xs, c)) = some (xs, c) := id rfl
@[simp] theorem ev_seqIt : seqIK (some (.tuple xs, c)) = some (xs, c) := id rfl
def in62 (i : Int) : Bool := decide (-4611686018427387904 ≤ i ∧ i < 4611686018427387904)

def r1K : Option (List PyData × Cu) → Option (List PyData × Cu)
  | some ([.int j], c) => if -(2 ^ 62) ≤ j ∧ j < 2 ^ 62 then some (intsD 0 j.toNat, c) else none
  | _ => none
@[simp] theorem ev_r1 : range1I a ρ c = r1K (a ρ c) := by unfold range1I r1K; split <;> first | rfl | simp_all
theorem in62_of {i : Int} (h : -4611686018427387904 ≤ i) (h2 : i < 4611686018427387904) : in62 i = true := by
  unfold in62
  exact decide_eq_true ⟨h, h2⟩
@[simp] theorem in62_nat (n : Nat) : in62 (OfNat.ofNat n) = Nat.ble n 4611686018427387903 := by
  by_cases h : n ≤ 4611686018427387903
  · rw [Nat.ble_eq_true_of_le h]
    exact in62_of (by have : (0 : Int) ≤ (n : Int) := Int.natCast_nonneg n; show _ ≤ (n : Int); omega) (by show (n : Int) < _; omega)
  · have e : Nat.ble n 4611686018427387903 = false := by
      cases q : Nat.ble n 4611686018427387903 with
      | false => rfl
      | true => exact absurd (Nat.le_of_ble_eq_true q) h
    rw [e]
    unfold in62
    refine decide_eq_false fun x => ?_
    have := x.2
    have k : (OfNat.ofNat n : Int) = (n : Int) := rfl
    omega
@[simp] theorem in62_neg (n : Nat) : in62 (-(OfNat.ofNat n)) = Nat.ble n 4611686018427387904 := by
  have k : (OfNat.ofNat n : Int) = (n : Int) := rfl
  by_cases h : n ≤ 4611686018427387904
  · rw [Nat.ble_eq_true_of_le h]
    exact in62_of (by omega) (by omega)
  · have e : Nat.ble n 4611686018427387904 = false := by
      cases q : Nat.ble n 4611686018427387904 with
      | false => rfl
      | true => exact absurd (Nat.le_of_ble_eq_true q) h
    rw [e]
    unfold in62
    refine decide_eq_false fun x => ?_
    have := x.1
    omega
theorem in62_cast {n : Nat} (h : n ≤ 1000000000000) : in62 (n : Int) = true := in62_of (by omega) (by omega)
@[simp] theorem ev_r1K {j : Int} : r1K (some ([.int j], c)) = if in62 j = true then some (intsD 0 j.toNat, c) else none := by unfold r1K in62; exact ifc (by simp)
def r2K : Option (List PyData × Cu) → Option (List PyData × Cu)
  | some ([.int i, .int j], c) => if -(2 ^ 62) ≤ i ∧ i < 2 ^ 62 ∧ -(2 ^ 62) ≤ j ∧ j < 2 ^ 62 then some (intsD i (j - i).toNat, c) else none
  | _ => none
@[simp] theorem ev_r2 : range2I a ρ c = r2K (a ρ c) := by unfold range2I r2K; split <;> first | rfl | simp_all
@[simp] theorem ev_r2K {i j : Int} : r2K (some ([.int i, .int j], c)) = if in62 i = true ∧ in62 j = true then some (intsD i (j - i).toNat, c) else none := by unfold r2K in62; exact ifc (by simp [and_assoc])
def r3K : Option (List PyData × Cu) → Option (List PyData × Cu)
  | some ([.int i, .int j, .int st], c) => if st ≠ 0 ∧ st.natAbs < 1073741824 ∧ Builtin.Range.small i j st = true ∧ 0 ≤ Builtin.Range.rangeSize i j st then some (stepsD i st (Builtin.Range.rangeSize i j st).toNat, c) else none
  | _ => none
@[simp] theorem ev_r3 : range3I a ρ c = r3K (a ρ c) := by unfold range3I r3K; split <;> first | rfl | simp_all
@[simp] theorem ev_r3K {i j st : Int} : r3K (some ([.int i, .int j, .int st], c)) = if st ≠ 0 ∧ st.natAbs < 1073741824 ∧ Builtin.Range.small i j st = true ∧ 0 ≤ Builtin.Range.rangeSize i j st then some (stepsD i st (Builtin.Range.rangeSize i j st).toNat, c) else none := id rfl
def enK : Option (PyData × Cu) → Option (List PyData × Cu)
  | some (.list xs, c) => some (enumD xs, c)
  | _ => none
@[simp] theorem ev_en : enumI f ρ c = enK (f ρ c) := by unfold enumI enK; split <;> first | rfl | simp_all
@[simp] theorem ev_enK : enK (some (.list xs, c)) = some (enumD xs, c) := id rfl
def zpK : Option (List PyData × Cu) → Option (List PyData × Cu)
  | some ([.list xs, .list ys], c) => some (zipD xs ys, c)
  | some ([.tuple xs, .tuple ys], c) => some (zipD xs ys, c)
  | _ => none
@[simp] theorem ev_zp : zipI a ρ c = zpK (a ρ c) := by unfold zipI zpK; split <;> first | rfl | simp_all
@[simp] theorem ev_zpl : zpK (some ([.list xs, .list ys], c)) = some (zipD xs ys, c) := id rfl
@[simp] theorem ev_zpt : zpK (some ([.tuple xs, .tuple ys], c)) = some (zipD xs ys, c) := id rfl
def cpK (vs : List Nat) (gf : GF) (t : BF) (f : EF) (ρ : Rho) : Option (List PyData × Cu) → Option (Ow × Cu)
  | some (items, c) => (match compL gf t f items (wipeR ρ vs) c with | none => none | some (ds, c2) => if ds.length ≤ sizeLine then some (.lst ds, c2) else none)
  | none => none
@[simp] theorem ev_cp {vs : List Nat} : compF a vs gf t f ρ c = cpK vs gf t f ρ (a ρ c) := by unfold compF cpK; cases a ρ c <;> rfl
def cpK2 : Option (List PyData × Cu) → Option (Ow × Cu)
  | some (ds, c2) => if ds.length ≤ sizeLine then some (.lst ds, c2) else none
  | none => none
@[simp] theorem ev_cpK {vs : List Nat} : cpK vs gf t f ρ (some (xs, c)) = cpK2 (compL gf t f xs (wipeR ρ vs) c) := by unfold cpK cpK2; dsimp only; cases compL gf t f xs (wipeR ρ vs) c <;> rfl
def clK4 (y : PyData) : Option (List PyData × Cu) → Option (List PyData × Cu)
  | some (ys, c3) => some (y :: ys, c3)
  | none => none
def clK3 (gf : GF) (t : BF) (f : EF) (xs : List PyData) (ρ : Rho) : Option (PyData × Cu) → Option (List PyData × Cu)
  | some (y, c2) => clK4 y (compL gf t f xs ρ c2)
  | none => none
def clK2 (gf : GF) (t : BF) (f : EF) (xs : List PyData) (ρ ρ1 : Rho) : Option (Bool × Cu) → Option (List PyData × Cu)
  | some (false, c1) => compL gf t f xs ρ c1
  | some (true, c1) => clK3 gf t f xs ρ (f ρ1 c1)
  | none => none
def clK1 (gf : GF) (t : BF) (f : EF) (xs : List PyData) (ρ : Rho) (c : Cu) : Option Rho → Option (List PyData × Cu)
  | some ρ1 => clK2 gf t f xs ρ ρ1 (t ρ1 c)
  | none => none
@[simp] theorem ev_cl0 : compL gf t f [] ρ c = some ([], c) := id rfl
@[simp] theorem ev_cl1 : compL gf t f (x :: xs) ρ c = clK1 gf t f xs ρ c (gf x ρ) := by
  unfold compL clK1
  cases gf x ρ with
  | none => rfl
  | some ρ1 =>
    dsimp only
    unfold clK2
    cases t ρ1 c with
    | none => rfl
    | some p =>
      obtain ⟨b, c1⟩ := p
      cases b with
      | false => rfl
      | true =>
        dsimp only
        unfold clK3
        cases f ρ1 c1 with
        | none => rfl
        | some q =>
          obtain ⟨y, c2⟩ := q
          dsimp only
          unfold clK4
          cases compL gf t f xs ρ c2 <;> rfl
@[simp] theorem ev_clK1 {ρ1 : Rho} : clK1 gf t f xs ρ c (some ρ1) = clK2 gf t f xs ρ ρ1 (t ρ1 c) := id rfl
@[simp] theorem ev_clK2f {ρ1 : Rho} : clK2 gf t f xs ρ ρ1 (some (false, c)) = compL gf t f xs ρ c := id rfl
@[simp] theorem ev_clK2t {ρ1 : Rho} : clK2 gf t f xs ρ ρ1 (some (true, c)) = clK3 gf t f xs ρ (f ρ1 c) := id rfl
@[simp] theorem ev_clK3 : clK3 gf t f xs ρ (some (y, c)) = clK4 y (compL gf t f xs ρ c) := id rfl
@[simp] theorem ev_clK4 : clK4 y (some (ys, c)) = some (y :: ys, c) := id rfl
@[simp] theorem ev_cpK2 : cpK2 (some (xs, c)) = if xs.length ≤ sizeLine then some (.lst xs, c) else none := id rfl
@[simp] theorem ev_yes : yesB ρ c = some (true, c) := id rfl
@[simp] theorem ev_wipe0 : wipeR ρ [] = ρ := id rfl
@[simp] theorem ev_wipe1 {i : Nat} {vs : List Nat} : wipeR ρ (i :: vs) = (wipeR ρ vs).set i .un := id rfl
def ofK : Option (Ow × Cu) → Option (PyData × Cu)
  | some (k, c) => some (owD k, c)
  | none => none
@[simp] theorem ev_of : ofF ff ρ c = ofK (ff ρ c) := by unfold ofF ofK; cases ff ρ c <;> rfl
@[simp] theorem ev_ofK {k : Ow} : ofK (some (k, c)) = some (owD k, c) := id rfl
@[simp] theorem ev_fnD {n : Nat} {ds : List PyData} : fnD n s ds = outD (s (startR n ds) (0, 0)) := id rfl
@[simp] theorem ev_fnC {n : Nat} {ds : List PyData} : fnC n s ds c = outC (s (.cup :: startR (n - 1) ds) c) := id rfl
@[simp] theorem ev_outD1 : outD (.rt x c) = some x := id rfl
@[simp] theorem ev_outD2 : outD (.nx ρ c) = some .none := id rfl
@[simp] theorem ev_outC1 : outC (.rt x c) = some (x, c) := id rfl
@[simp] theorem ev_outC2 : outC (.nx ρ c) = some (.none, c) := id rfl
@[simp] theorem ev_start {n : Nat} : startR n xs = xs.map .d ++ List.replicate (n - xs.length) .un := id rfl
@[simp] theorem ev_rep {n : Nat} {z : Sl} : List.replicate (n + 1) z = z :: List.replicate n z := id rfl
@[simp] theorem ev_size {n : Nat} : (n ≤ sizeLine) = (n ≤ 16777216) := by rw [sizeLine_eq]
@[simp] theorem ev_size2 {n : Nat} : (n < sizeLine) = (n < 16777216) := by rw [sizeLine_eq]
@[simp] theorem ev_atI_0 : atI xs 0 = xs[0]? := atI_0 xs
@[simp] theorem ev_atI_1 : atI xs 1 = xs[1]? := atI_1 xs
@[simp] theorem ev_atI_2 : atI xs 2 = xs[2]? := atI_2 xs
@[simp] theorem ev_atI_m1 : atI xs (-1) = xs.getLast? := atI_m1 xs
@[simp] theorem ev_sh_int {i : Int} {b : Bool} : SeqAt.shaped (.int i) = true := sh_int _
@[simp] theorem ev_sh_bool {i : Int} {b : Bool} : SeqAt.shaped (.bool b) = true := sh_bool _
@[simp] theorem ev_sh_none : SeqAt.shaped .none = true := sh_none
@[simp] theorem ev_eqv_int {i j : Int} : PyData.eqv (.int i) (.int j) = decide (i = j) := eqv_int i j
@[simp] theorem ev_eqv_bool {i j : Bool} : PyData.eqv (.bool i) (.bool j) = decide (i = j) := by
  simp only [PyData.eqv]
  cases i <;> cases j <;> rfl
end
end PL


set_option Elab.async false
set_option linter.all false
set_option maxRecDepth 100000
set_option maxHeartbeats 4000000
namespace PL
open PySem PySem.Spec PyProof.Rows L2 RZ
def topS (i : Nat) : Stmt := PySem.Challenge.pw_surveyyard_k68_whole_shifts_of_strips.main.body.getD i (.Pass ⟨0, 0, 0, 0⟩)
structure Tx (K : PySem.W.Frag) (mg : Str → Option Value) : Prop where
  d_is_whole : DefAt K mg "is_whole" (topS 7)
  d_fits_whole : DefAt K mg "fits_whole" (topS 8)
  d_is_tuple_of : DefAt K mg "is_tuple_of" (topS 9)
  d_fits_strip : DefAt K mg "fits_strip" (topS 16)
  d_need_strip : DefAt K mg "need_strip" (topS 17)
  d_need_two : DefAt K mg "need_two" (topS 18)
  d_fits_strips : DefAt K mg "fits_strips" (topS 19)
  d_need_spot : DefAt K mg "need_spot" (topS 20)
  d_need_range : DefAt K mg "need_range" (topS 21)
  d_divisor_in : DefAt K mg "divisor_in" (topS 22)
  d_multiple_in : DefAt K mg "multiple_in" (topS 23)
  d_has_mark : DefAt K mg "has_mark" (topS 24)
  d_homed : DefAt K mg "homed" (topS 25)
  d_common_in : DefAt K mg "common_in" (topS 26)
  d_round_in : DefAt K mg "round_in" (topS 27)
  d_need_strips : DefAt K mg "need_strips" (topS 28)
  d_marks_in : DefAt K mg "marks_in" (topS 29)
  d_common_of : DefAt K mg "common_of" (topS 30)
  d_best_shift : DefAt K mg "best_shift" (topS 31)
  d__law_cup : DefAt K mg "_law_cup" (topS 33)
  d__law_roll : DefAt K mg "_law_roll" (topS 34)
  d__law_some : DefAt K mg "_law_some" (topS 35)
  d__law_same : DefAt K mg "_law_same" (topS 36)
  d__law_strip : DefAt K mg "_law_strip" (topS 37)
  d__law_marks : DefAt K mg "_law_marks" (topS 38)
  d__law_multiple : DefAt K mg "_law_multiple" (topS 39)
  d__law_strips : DefAt K mg "_law_strips" (topS 40)
  d__law_round : DefAt K mg "_law_round" (topS 41)
  d__law_met : DefAt K mg "_law_met" (topS 42)
  d_law : DefAt K mg "law" (topS 43)
  m_abs : mg "abs" = none
  m_all : mg "all" = none
  m_bool : mg "bool" = none
  m_enumerate : mg "enumerate" = none
  m_int : mg "int" = none
  m_isinstance : mg "isinstance" = none
  m_len : mg "len" = none
  m_list : mg "list" = none
  m_min : mg "min" = none
  m_range : mg "range" = none
  m_str : mg "str" = none
  m_tuple : mg "tuple" = none
  c_FAR : ∃ t, mg "FAR" = some (.int 1000 t)
  c_STEP : ∃ t, mg "STEP" = some (.int 60 t)
  c_STRIPS : ∃ t, mg "STRIPS" = some (.int 6 t)
  c_LONG : ∃ t, mg "LONG" = some (.int 400 t)
  c_ROUND : ∃ t, mg "ROUND" = some (.int 5000 t)
theorem useT {K : PySem.W.Frag} {h : Heap} {mg : Str → Option Value} {R : Prop} (_ : K.In h) (T : Tx K mg) (r : Tx K mg → R) : R := r T
section
variable {P : Program} {w : World} {K : PySem.W.Frag} {mg : Str → Option Value} {base : Heap}
/-! ### is_whole -/
abbrev s_is_whole : Stmt := topS 7
theorem sc_is_whole : FnScope ["value"] ["value"] (defScope s_is_whole) := ⟨rfl, rfl, rfl, by decide +kernel, rfl, by decide +kernel, by decide +kernel⟩
def g_is_whole : SF :=
  (retS (andE (isiE "int" (varE 0)) (notE (isiE "bool" (varE 0)))))
def F_is_whole : List PyData → Option PyData := fnD 1 g_is_whole
theorem ok_is_whole (T : Tx K mg) : OkD P w K mg base 1 "is_whole" 1 F_is_whole := by
  obtain ⟨f, fd, F, hm⟩ := T.d_is_whole
  refine okD_mk (k := 0) F hm sc_is_whole (fun _ _ _ _ _ _ us hl => match us, hl with | [_], _ => rfl) fun cdv A outer s H E hr => ?_
  exact (dss_one (ds_ret (de_and (de_isi isi_int PyProof.Rows.boot_int T.m_isinstance T.m_int (de_var 0)) (de_one (de_not (de_isi isi_bool PyProof.Rows.boot_bool T.m_isinstance T.m_bool (de_var 0)))))))
/-! ### fits_whole -/
abbrev s_fits_whole : Stmt := topS 8
theorem sc_fits_whole : FnScope ["value", "low", "high"] ["value", "low", "high"] (defScope s_fits_whole) := ⟨rfl, rfl, rfl, by decide +kernel, rfl, by decide +kernel, by decide +kernel⟩
def g_fits_whole : SF :=
  (retS (andE (callB F_is_whole (consA (varE 0) nilA)) (chE leD leD (varE 1) (varE 0) (varE 2))))
def F_fits_whole : List PyData → Option PyData := fnD 3 g_fits_whole
theorem ok_fits_whole (T : Tx K mg) : OkD P w K mg base 2 "fits_whole" 3 F_fits_whole := by
  obtain ⟨f, fd, F, hm⟩ := T.d_fits_whole
  refine okD_mk (k := 1) F hm sc_fits_whole (fun _ _ _ _ _ _ us hl => match us, hl with | [_, _, _], _ => rfl) fun cdv A outer s H E hr => ?_
  exact (dss_one (ds_ret (de_and (de_callO (ok_is_whole T) (hr.mono (by decide)) (da_cons (de_var 0) da_nil)) (de_one (de_chain op_le od_cmp op_le od_cmp (de_var 1) (de_var 0) (de_var 2))))))
/-! ### is_tuple_of -/
abbrev s_is_tuple_of : Stmt := topS 9
theorem sc_is_tuple_of : FnScope ["value", "least", "most"] ["value", "least", "most"] (defScope s_is_tuple_of) := ⟨rfl, rfl, rfl, by decide +kernel, rfl, by decide +kernel, by decide +kernel⟩
def g_is_tuple_of : SF :=
  (retS (andE (isiE "tuple" (varE 0)) (chE leD leD (varE 1) (callB lenD (consA (varE 0) nilA)) (varE 2))))
def F_is_tuple_of : List PyData → Option PyData := fnD 3 g_is_tuple_of
theorem ok_is_tuple_of (T : Tx K mg) : OkD P w K mg base 1 "is_tuple_of" 3 F_is_tuple_of := by
  obtain ⟨f, fd, F, hm⟩ := T.d_is_tuple_of
  refine okD_mk (k := 0) F hm sc_is_tuple_of (fun _ _ _ _ _ _ us hl => match us, hl with | [_, _, _], _ => rfl) fun cdv A outer s H E hr => ?_
  exact (dss_one (ds_ret (de_and (de_isi isi_tuple PyProof.Rows.boot_tuple T.m_isinstance T.m_tuple (de_var 0)) (de_one (de_chain op_le od_cmp op_le od_cmp (de_var 1) (de_callB call_len cd_len PySem.boot_len T.m_len (da_cons (de_var 0) da_nil)) (de_var 2))))))
/-! ### fits_strip -/
abbrev s_fits_strip : Stmt := topS 16
theorem sc_fits_strip : FnScope ["value"] ["value"] (defScope s_fits_strip) := ⟨rfl, rfl, rfl, by decide +kernel, rfl, by decide +kernel, by decide +kernel⟩
def g_fits_strip : SF :=
  (retS (andE (callB F_is_tuple_of (consA (varE 0) (consA (cE (.int 2)) (consA (cE (.int 2)) nilA)))) (andE (callB F_fits_whole (consA (opE idxD (varE 0) (cE (.int 0))) (consA (unE negD (cE (.int 1000))) (consA (cE (.int 1000)) nilA)))) (callB F_fits_whole (consA (opE idxD (varE 0) (cE (.int 1))) (consA (cE (.int 1)) (consA (cE (.int 60)) nilA)))))))
def F_fits_strip : List PyData → Option PyData := fnD 1 g_fits_strip
theorem ok_fits_strip (T : Tx K mg) : OkD P w K mg base 3 "fits_strip" 1 F_fits_strip := by
  obtain ⟨f, fd, F, hm⟩ := T.d_fits_strip
  refine okD_mk (k := 2) F hm sc_fits_strip (fun _ _ _ _ _ _ us hl => match us, hl with | [_], _ => rfl) fun cdv A outer s H E hr => ?_
  exact (dss_one (ds_ret (de_and (de_callO (ok_is_tuple_of T) (hr.mono (by decide)) (da_cons (de_var 0) (da_cons de_int (da_cons de_int da_nil)))) (de_and (de_callO (ok_fits_whole T) (hr.mono (by decide)) (da_cons (de_ix ix_seq od_ix (de_var 0) de_int (fun _ _ => rfl)) (da_cons (de_neg (de_globE T.c_FAR)) (da_cons (de_globE T.c_FAR) da_nil)))) (de_one (de_callO (ok_fits_whole T) (hr.mono (by decide)) (da_cons (de_ix ix_seq od_ix (de_var 0) de_int (fun _ _ => rfl)) (da_cons de_int (da_cons (de_globE T.c_STEP) da_nil)))))))))
/-! ### need_strip -/
abbrev s_need_strip : Stmt := topS 17
theorem sc_need_strip : FnScope ["value"] ["value"] (defScope s_need_strip) := ⟨rfl, rfl, rfl, by decide +kernel, rfl, by decide +kernel, by decide +kernel⟩
def g_need_strip : SF :=
  (ifS (notB (tstB (callB F_fits_strip (consA (varE 0) nilA))))
    neverS
    nopS)
def F_need_strip : List PyData → Option PyData := fnD 1 g_need_strip
theorem ok_need_strip (T : Tx K mg) : OkD P w K mg base 4 "need_strip" 1 F_need_strip := by
  obtain ⟨f, fd, F, hm⟩ := T.d_need_strip
  refine okD_mk (k := 3) F hm sc_need_strip (fun _ _ _ _ _ _ us hl => match us, hl with | [_], _ => rfl) fun cdv A outer s H E hr => ?_
  exact (dss_one (ds_if (db_not (db_val (de_callO (ok_fits_strip T) (hr.mono (by decide)) (da_cons (de_var 0) da_nil))))
    (dss_one ds_never)
    dss_nil))
/-! ### need_two -/
abbrev s_need_two : Stmt := topS 18
theorem sc_need_two : FnScope ["one", "other"] ["one", "other"] (defScope s_need_two) := ⟨rfl, rfl, rfl, by decide +kernel, rfl, by decide +kernel, by decide +kernel⟩
def g_need_two : SF :=
  (seqS (exprS (callB F_need_strip (consA (varE 0) nilA)))
    (exprS (callB F_need_strip (consA (varE 1) nilA))))
def F_need_two : List PyData → Option PyData := fnD 2 g_need_two
theorem ok_need_two (T : Tx K mg) : OkD P w K mg base 5 "need_two" 2 F_need_two := by
  obtain ⟨f, fd, F, hm⟩ := T.d_need_two
  refine okD_mk (k := 4) F hm sc_need_two (fun _ _ _ _ _ _ us hl => match us, hl with | [_, _], _ => rfl) fun cdv A outer s H E hr => ?_
  exact (dss_cons (ds_expr (de_callO (ok_need_strip T) (hr.mono (by decide)) (da_cons (de_var 0) da_nil)))
    (dss_one (ds_expr (de_callO (ok_need_strip T) (hr.mono (by decide)) (da_cons (de_var 1) da_nil)))))
/-! ### fits_strips -/
abbrev s_fits_strips : Stmt := topS 19
theorem sc_fits_strips : FnScope ["value", "strip"] ["value"] (defScope s_fits_strips) := ⟨rfl, rfl, rfl, by decide +kernel, rfl, by decide +kernel, by decide +kernel⟩
def g_fits_strips : SF :=
  (retS (andE (callB F_is_tuple_of (consA (varE 0) (consA (cE (.int 1)) (consA (cE (.int 6)) nilA)))) (callB allD (consA (ofF (compF (seqI (varE 0)) [1] (nameG 1) yesB (callB F_fits_strip (consA (varE 1) nilA)))) nilA))))
def F_fits_strips : List PyData → Option PyData := fnD 2 g_fits_strips
theorem ok_fits_strips (T : Tx K mg) : OkD P w K mg base 4 "fits_strips" 1 F_fits_strips := by
  obtain ⟨f, fd, F, hm⟩ := T.d_fits_strips
  refine okD_mk (k := 3) F hm sc_fits_strips (fun _ _ _ _ _ _ us hl => match us, hl with | [_], _ => rfl) fun cdv A outer s H E hr => ?_
  exact (dss_one (ds_ret (de_and (de_callO (ok_is_tuple_of T) (hr.mono (by decide)) (da_cons (de_var 0) (da_cons de_int (da_cons (de_globE T.c_STRIPS) da_nil)))) (de_one (de_callB (cr_all rfl) cd_all PyProof.Rows.boot_all T.m_all (da_cons (DF.toE (df_comp (own := [("strip", 1)]) rfl sc_fits_strips.nd (di_seq (de_var 0)) (blkOk_by (N := ["value", "strip"]) (sc := defScope s_fits_strips) (own := [("strip", 1)]) (by decide +kernel)) (fun _ _ _ _ _ => (dg_name 1 sc_fits_strips.nd)) (fun _ _ _ _ _ => dt_nil) (fun _ _ _ _ _ => (de_callO (ok_fits_strip T) (hr.mono (by decide)) (da_cons (de_var 1) da_nil))))) da_nil))))))
/-! ### need_spot -/
abbrev s_need_spot : Stmt := topS 20
theorem sc_need_spot : FnScope ["value"] ["value"] (defScope s_need_spot) := ⟨rfl, rfl, rfl, by decide +kernel, rfl, by decide +kernel, by decide +kernel⟩
def g_need_spot : SF :=
  (ifS (notB (tstB (callB F_fits_whole (consA (varE 0) (consA (unE negD (cE (.int 1000))) (consA (cE (.int 1000)) nilA))))))
    neverS
    nopS)
def F_need_spot : List PyData → Option PyData := fnD 1 g_need_spot
theorem ok_need_spot (T : Tx K mg) : OkD P w K mg base 3 "need_spot" 1 F_need_spot := by
  obtain ⟨f, fd, F, hm⟩ := T.d_need_spot
  refine okD_mk (k := 2) F hm sc_need_spot (fun _ _ _ _ _ _ us hl => match us, hl with | [_], _ => rfl) fun cdv A outer s H E hr => ?_
  exact (dss_one (ds_if (db_not (db_val (de_callO (ok_fits_whole T) (hr.mono (by decide)) (da_cons (de_var 0) (da_cons (de_neg (de_globE T.c_FAR)) (da_cons (de_globE T.c_FAR) da_nil))))))
    (dss_one ds_never)
    dss_nil))
/-! ### need_range -/
abbrev s_need_range : Stmt := topS 21
theorem sc_need_range : FnScope ["low", "high"] ["low", "high"] (defScope s_need_range) := ⟨rfl, rfl, rfl, by decide +kernel, rfl, by decide +kernel, by decide +kernel⟩
def g_need_range : SF :=
  (seqS (exprS (callB F_need_spot (consA (varE 0) nilA)))
    (seqS (exprS (callB F_need_spot (consA (varE 1) nilA)))
    (ifS (orB (tstB (opE gtD (varE 0) (varE 1))) (tstB (opE gtD (opE subD (varE 1) (varE 0)) (cE (.int 400)))))
    neverS
    nopS)))
def F_need_range : List PyData → Option PyData := fnD 2 g_need_range
theorem ok_need_range (T : Tx K mg) : OkD P w K mg base 4 "need_range" 2 F_need_range := by
  obtain ⟨f, fd, F, hm⟩ := T.d_need_range
  refine okD_mk (k := 3) F hm sc_need_range (fun _ _ _ _ _ _ us hl => match us, hl with | [_, _], _ => rfl) fun cdv A outer s H E hr => ?_
  exact (dss_cons (ds_expr (de_callO (ok_need_spot T) (hr.mono (by decide)) (da_cons (de_var 0) da_nil)))
    (dss_cons (ds_expr (de_callO (ok_need_spot T) (hr.mono (by decide)) (da_cons (de_var 1) da_nil)))
    (dss_one (ds_if (DW.db (dw_or (db_cmp op_gt od_cmp (de_var 0) (de_var 1) (nomark _)) (dw_or1 (db_cmp op_gt od_cmp (de_op op_sub od_sub (de_var 1) (de_var 0)) (de_globE T.c_LONG) (nomark _)))))
    (dss_one ds_never)
    dss_nil))))
/-! ### divisor_in -/
abbrev s_divisor_in : Stmt := topS 22
theorem sc_divisor_in : FnScope ["one", "other"] ["one", "other"] (defScope s_divisor_in) := ⟨rfl, rfl, rfl, by decide +kernel, rfl, by decide +kernel, by decide +kernel⟩
def g_divisor_in : SF :=
  (seqS (whileL (tstB (opE gtD (varE 1) (cE (.int 0))))
    (parS [0, 1] (keepX (varE 1) (keepX (opE modD (varE 0) (varE 1)) nilX))) 100000)
    (retS (varE 0)))
def F_divisor_in : List PyData → Option PyData := fnD 2 g_divisor_in
theorem ok_divisor_in (T : Tx K mg) : OkD P w K mg base 1 "divisor_in" 2 F_divisor_in := by
  obtain ⟨f, fd, F, hm⟩ := T.d_divisor_in
  refine okD_mk (k := 0) F hm sc_divisor_in (fun _ _ _ _ _ _ us hl => match us, hl with | [_, _], _ => rfl) fun cdv A outer s H E hr => ?_
  exact (dss_cons (ds_while 100000 PassesOwn.never (db_cmp op_gt od_cmp (de_var 1) de_int (nomark _))
    (dss_one (ds_par 0 1 rfl sc_divisor_in.nd (dx_keep (de_var 1) (dx_keep (de_op op_mod od_mod (de_var 0) (de_var 1)) dx_nil)))))
    (dss_one (ds_ret (de_var 0))))
/-! ### multiple_in -/
abbrev s_multiple_in : Stmt := topS 23
theorem sc_multiple_in : FnScope ["one", "other"] ["one", "other"] (defScope s_multiple_in) := ⟨rfl, rfl, rfl, by decide +kernel, rfl, by decide +kernel, by decide +kernel⟩
def g_multiple_in : SF :=
  (retS (opE mulD (opE fdivD (varE 0) (callB F_divisor_in (consA (varE 0) (consA (varE 1) nilA)))) (varE 1)))
def F_multiple_in : List PyData → Option PyData := fnD 2 g_multiple_in
theorem ok_multiple_in (T : Tx K mg) : OkD P w K mg base 2 "multiple_in" 2 F_multiple_in := by
  obtain ⟨f, fd, F, hm⟩ := T.d_multiple_in
  refine okD_mk (k := 1) F hm sc_multiple_in (fun _ _ _ _ _ _ us hl => match us, hl with | [_, _], _ => rfl) fun cdv A outer s H E hr => ?_
  exact (dss_one (ds_ret (de_op or_mul od_mul (de_op op_fdiv od_fdiv (de_var 0) (de_callO (ok_divisor_in T) (hr.mono (by decide)) (da_cons (de_var 0) (da_cons (de_var 1) da_nil)))) (de_var 1))))
/-! ### has_mark -/
abbrev s_has_mark : Stmt := topS 24
theorem sc_has_mark : FnScope ["strip", "spot"] ["strip", "spot"] (defScope s_has_mark) := ⟨rfl, rfl, rfl, by decide +kernel, rfl, by decide +kernel, by decide +kernel⟩
def g_has_mark : SF :=
  (retS (opE eqD (opE modD (opE subD (varE 1) (opE idxD (varE 0) (cE (.int 0)))) (opE idxD (varE 0) (cE (.int 1)))) (cE (.int 0))))
def F_has_mark : List PyData → Option PyData := fnD 2 g_has_mark
theorem ok_has_mark (T : Tx K mg) : OkD P w K mg base 1 "has_mark" 2 F_has_mark := by
  obtain ⟨f, fd, F, hm⟩ := T.d_has_mark
  refine okD_mk (k := 0) F hm sc_has_mark (fun _ _ _ _ _ _ us hl => match us, hl with | [_, _], _ => rfl) fun cdv A outer s H E hr => ?_
  exact (dss_one (ds_ret (de_cmp (op_eqD hr.units) od_eq (de_op op_mod od_mod (de_op op_sub od_sub (de_var 1) (de_ix ix_seq od_ix (de_var 0) de_int (fun _ _ => rfl))) (de_ix ix_seq od_ix (de_var 0) de_int (fun _ _ => rfl))) de_int (nomark _))))
/-! ### homed -/
abbrev s_homed : Stmt := topS 25
theorem sc_homed : FnScope ["strip"] ["strip"] (defScope s_homed) := ⟨rfl, rfl, rfl, by decide +kernel, rfl, by decide +kernel, by decide +kernel⟩
def g_homed : SF :=
  (retS (tupE (consA (opE modD (opE idxD (varE 0) (cE (.int 0))) (opE idxD (varE 0) (cE (.int 1)))) (consA (opE idxD (varE 0) (cE (.int 1))) nilA))))
def F_homed : List PyData → Option PyData := fnD 1 g_homed
theorem ok_homed (T : Tx K mg) : OkD P w K mg base 1 "homed" 1 F_homed := by
  obtain ⟨f, fd, F, hm⟩ := T.d_homed
  refine okD_mk (k := 0) F hm sc_homed (fun _ _ _ _ _ _ us hl => match us, hl with | [_], _ => rfl) fun cdv A outer s H E hr => ?_
  exact (dss_one (ds_ret (de_tup (da_cons (de_op op_mod od_mod (de_ix ix_seq od_ix (de_var 0) de_int (fun _ _ => rfl)) (de_ix ix_seq od_ix (de_var 0) de_int (fun _ _ => rfl))) (da_cons (de_ix ix_seq od_ix (de_var 0) de_int (fun _ _ => rfl)) da_nil)))))
/-! ### common_in -/
abbrev s_common_in : Stmt := topS 26
theorem sc_common_in : FnScope ["one", "other", "step", "turn", "spot"] ["one", "other"] (defScope s_common_in) := ⟨rfl, rfl, rfl, by decide +kernel, rfl, by decide +kernel, by decide +kernel⟩
def g_common_in : SF :=
  (seqS (asgS (callB F_multiple_in (consA (opE idxD (varE 0) (cE (.int 1))) (consA (opE idxD (varE 1) (cE (.int 1))) nilA))) (nameG 2))
    (seqS (forS (range1I (consA (opE idxD (varE 1) (cE (.int 1))) nilA)) (nameG 3)
    (seqS (asgS (opE addD (opE idxD (varE 0) (cE (.int 0))) (opE mulD (varE 3) (opE idxD (varE 0) (cE (.int 1))))) (nameG 4))
    (ifS (tstB (callB F_has_mark (consA (varE 1) (consA (varE 4) nilA))))
    (retS (tupE (consA (opE modD (varE 4) (varE 2)) (consA (varE 2) nilA))))
    nopS)))
    (retS (cE .none))))
def F_common_in : List PyData → Option PyData := fnD 5 g_common_in
theorem ok_common_in (T : Tx K mg) : OkD P w K mg base 3 "common_in" 2 F_common_in := by
  obtain ⟨f, fd, F, hm⟩ := T.d_common_in
  refine okD_mk (k := 2) F hm sc_common_in (fun _ _ _ _ _ _ us hl => match us, hl with | [_, _], _ => rfl) fun cdv A outer s H E hr => ?_
  exact (dss_cons (ds_set 2 sc_common_in.nd (de_callO (ok_multiple_in T) (hr.mono (by decide)) (da_cons (de_ix ix_seq od_ix (de_var 0) de_int (fun _ _ => rfl)) (da_cons (de_ix ix_seq od_ix (de_var 1) de_int (fun _ _ => rfl)) da_nil))))
    (dss_cons (ds_for PassesOwn.never rfl (di_range1 (m := true) (da_cons (de_ix ix_seq od_ix (de_var 1) de_int (fun _ _ => rfl)) da_nil) T.m_range) (dg_name 3 sc_common_in.nd)
    (dss_cons (ds_set 4 sc_common_in.nd (de_op or_add od_add (de_ix ix_seq od_ix (de_var 0) de_int (fun _ _ => rfl)) (de_op or_mul od_mul (de_var 3) (de_ix ix_seq od_ix (de_var 0) de_int (fun _ _ => rfl)))))
    (dss_one (ds_if (db_val (de_callO (ok_has_mark T) (hr.mono (by decide)) (da_cons (de_var 1) (da_cons (de_var 4) da_nil))))
    (dss_one (ds_ret (de_tup (da_cons (de_op op_mod od_mod (de_var 4) (de_var 2)) (da_cons (de_var 2) da_nil)))))
    dss_nil))))
    (dss_one (ds_ret de_non))))
/-! ### round_in -/
abbrev s_round_in : Stmt := topS 27
theorem sc_round_in : FnScope ["strips", "found", "strip"] ["strips"] (defScope s_round_in) := ⟨rfl, rfl, rfl, by decide +kernel, rfl, by decide +kernel, by decide +kernel⟩
def g_round_in : SF :=
  (seqS (asgS (cE (.int 1)) (nameG 1))
    (seqS (forS (seqI (varE 0)) (nameG 2)
    (asgS (callB F_multiple_in (consA (varE 1) (consA (opE idxD (varE 2) (cE (.int 1))) nilA))) (nameG 1)))
    (seqS (ifS (tstB (opE gtD (varE 1) (cE (.int 5000))))
    neverS
    nopS)
    (retS (varE 1)))))
def F_round_in : List PyData → Option PyData := fnD 3 g_round_in
theorem ok_round_in (T : Tx K mg) : OkD P w K mg base 3 "round_in" 1 F_round_in := by
  obtain ⟨f, fd, F, hm⟩ := T.d_round_in
  refine okD_mk (k := 2) F hm sc_round_in (fun _ _ _ _ _ _ us hl => match us, hl with | [_], _ => rfl) fun cdv A outer s H E hr => ?_
  exact (dss_cons (ds_set 1 sc_round_in.nd de_int)
    (dss_cons (ds_for PassesOwn.never rfl (di_seq (de_var 0)) (dg_name 2 sc_round_in.nd)
    (dss_one (ds_set 1 sc_round_in.nd (de_callO (ok_multiple_in T) (hr.mono (by decide)) (da_cons (de_var 1) (da_cons (de_ix ix_seq od_ix (de_var 2) de_int (fun _ _ => rfl)) da_nil))))))
    (dss_cons (ds_if (db_cmp op_gt od_cmp (de_var 1) (de_globE T.c_ROUND) (nomark _))
    (dss_one ds_never)
    dss_nil)
    (dss_one (ds_ret (de_var 1))))))
/-! ### need_strips -/
abbrev s_need_strips : Stmt := topS 28
theorem sc_need_strips : FnScope ["strips"] ["strips"] (defScope s_need_strips) := ⟨rfl, rfl, rfl, by decide +kernel, rfl, by decide +kernel, by decide +kernel⟩
def g_need_strips : SF :=
  (seqS (ifS (notB (tstB (callB F_fits_strips (consA (varE 0) nilA))))
    neverS
    nopS)
    (retS (callB F_round_in (consA (varE 0) nilA))))
def F_need_strips : List PyData → Option PyData := fnD 1 g_need_strips
theorem ok_need_strips (T : Tx K mg) : OkD P w K mg base 5 "need_strips" 1 F_need_strips := by
  obtain ⟨f, fd, F, hm⟩ := T.d_need_strips
  refine okD_mk (k := 4) F hm sc_need_strips (fun _ _ _ _ _ _ us hl => match us, hl with | [_], _ => rfl) fun cdv A outer s H E hr => ?_
  exact (dss_cons (ds_if (db_not (db_val (de_callO (ok_fits_strips T) (hr.mono (by decide)) (da_cons (de_var 0) da_nil))))
    (dss_one ds_never)
    dss_nil)
    (dss_one (ds_ret (de_callO (ok_round_in T) (hr.mono (by decide)) (da_cons (de_var 0) da_nil)))))
/-! ### marks_in -/
abbrev s_marks_in : Stmt := topS 29
theorem sc_marks_in : FnScope ["strip", "low", "high", "spot"] ["strip", "low", "high"] (defScope s_marks_in) := ⟨rfl, rfl, rfl, by decide +kernel, rfl, by decide +kernel, by decide +kernel⟩
def g_marks_in : SF :=
  (seqS (exprS (callB F_need_strip (consA (varE 0) nilA)))
    (seqS (exprS (callB F_need_range (consA (varE 1) (consA (varE 2) nilA))))
    (retS (callB tupleD (consA (ofF (compF (range2I (consA (varE 1) (consA (opE addD (varE 2) (cE (.int 1))) nilA))) [3] (nameG 3) (tstB (callB F_has_mark (consA (varE 0) (consA (varE 3) nilA)))) (varE 3))) nilA)))))
def F_marks_in : List PyData → Option PyData := fnD 4 g_marks_in
theorem ok_marks_in (T : Tx K mg) : OkD P w K mg base 5 "marks_in" 3 F_marks_in := by
  obtain ⟨f, fd, F, hm⟩ := T.d_marks_in
  refine okD_mk (k := 4) F hm sc_marks_in (fun _ _ _ _ _ _ us hl => match us, hl with | [_, _, _], _ => rfl) fun cdv A outer s H E hr => ?_
  exact (dss_cons (ds_expr (de_callO (ok_need_strip T) (hr.mono (by decide)) (da_cons (de_var 0) da_nil)))
    (dss_cons (ds_expr (de_callO (ok_need_range T) (hr.mono (by decide)) (da_cons (de_var 1) (da_cons (de_var 2) da_nil))))
    (dss_one (ds_ret (de_callTy call_tuple_of cd_tuple PyProof.Rows.boot_tuple T.m_tuple (da_cons (DF.toE (df_comp (own := [("spot", 3)]) rfl sc_marks_in.nd (di_range2 (m := true) (da_cons (de_var 1) (da_cons (de_op or_add od_add (de_var 2) de_int) da_nil)) T.m_range) (blkOk_by (N := ["strip", "low", "high", "spot"]) (sc := defScope s_marks_in) (own := [("spot", 3)]) (by decide +kernel)) (fun _ _ _ _ _ => (dg_name 3 sc_marks_in.nd)) (fun _ _ _ _ _ => (dt_one (db_val (de_callO (ok_has_mark T) (hr.mono (by decide)) (da_cons (de_var 0) (da_cons (de_var 3) da_nil)))))) (fun _ _ _ _ _ => (de_var 3)))) da_nil))))))
/-! ### common_of -/
abbrev s_common_of : Stmt := topS 30
theorem sc_common_of : FnScope ["strips", "found", "strip"] ["strips"] (defScope s_common_of) := ⟨rfl, rfl, rfl, by decide +kernel, rfl, by decide +kernel, by decide +kernel⟩
def g_common_of : SF :=
  (seqS (exprS (callB F_need_strips (consA (varE 0) nilA)))
    (seqS (asgS (callB F_homed (consA (opE idxD (varE 0) (cE (.int 0))) nilA)) (nameG 1))
    (seqS (forS (seqI (slE (varE 0) (someO (cE (.int 1))) noO)) (nameG 2)
    (asgS (ifE (tstB (opE isNotD (varE 1) (cE .none))) (callB F_common_in (consA (varE 2) (consA (varE 1) nilA))) (cE .none)) (nameG 1)))
    (retS (varE 1)))))
def F_common_of : List PyData → Option PyData := fnD 3 g_common_of
theorem ok_common_of (T : Tx K mg) : OkD P w K mg base 6 "common_of" 1 F_common_of := by
  obtain ⟨f, fd, F, hm⟩ := T.d_common_of
  refine okD_mk (k := 5) F hm sc_common_of (fun _ _ _ _ _ _ us hl => match us, hl with | [_], _ => rfl) fun cdv A outer s H E hr => ?_
  exact (dss_cons (ds_expr (de_callO (ok_need_strips T) (hr.mono (by decide)) (da_cons (de_var 0) da_nil)))
    (dss_cons (ds_set 1 sc_common_of.nd (de_callO (ok_homed T) (hr.mono (by decide)) (da_cons (de_ix ix_seq od_ix (de_var 0) de_int (fun _ _ => rfl)) da_nil)))
    (dss_cons (ds_for PassesOwn.never rfl (di_seq (de_slice (de_var 0) (do_some de_int) do_none)) (dg_name 2 sc_common_of.nd)
    (dss_one (ds_set 1 sc_common_of.nd (de_if (db_cmp or_isNot od_isNot (de_var 1) de_non (nomark _)) (de_callO (ok_common_in T) (hr.mono (by decide)) (da_cons (de_var 2) (da_cons (de_var 1) da_nil))) de_non))))
    (dss_one (ds_ret (de_var 1))))))
/-! ### best_shift -/
abbrev s_best_shift : Stmt := topS 31
theorem sc_best_shift : FnScope ["one", "other", "low", "high", "spots", "rows", "shift", "moved", "spot"] ["one", "other", "low", "high"] (defScope s_best_shift) := ⟨rfl, rfl, rfl, by decide +kernel, rfl, by decide +kernel, by decide +kernel⟩
def g_best_shift : SF :=
  (seqS (exprS (callB F_need_two (consA (varE 0) (consA (varE 1) nilA))))
    (seqS (exprS (callB F_need_range (consA (varE 2) (consA (varE 3) nilA))))
    (seqS (asgS (ofF (compF (range2I (consA (varE 2) (consA (opE addD (varE 3) (cE (.int 1))) nilA))) [8] (nameG 8) (tstB (callB F_has_mark (consA (varE 0) (consA (varE 8) nilA)))) (varE 8))) (nameG 4))
    (seqS (ownS 5 (lstF nilA))
    (seqS (forS (range1I (consA (opE idxD (varE 1) (cE (.int 1))) nilA)) (nameG 6)
    (seqS (asgS (tupE (consA (opE addD (opE idxD (varE 1) (cE (.int 0))) (varE 6)) (consA (opE idxD (varE 1) (cE (.int 1))) nilA))) (nameG 7))
    (appS 5 (tupE (consA (unE negD (callB lenD (consA (ofF (compF (seqI (varE 4)) [8] (nameG 8) (tstB (callB F_has_mark (consA (varE 7) (consA (varE 8) nilA)))) (varE 8))) nilA))) (consA (varE 6) nilA))))))
    (retS (tupE (consA (unE negD (opE idxD (callB minX (consA (varT 5) nilA)) (cE (.int 0)))) (consA (opE idxD (callB minX (consA (varT 5) nilA)) (cE (.int 1))) nilA)))))))))
def F_best_shift : List PyData → Option PyData := fnD 9 g_best_shift
theorem ok_best_shift (T : Tx K mg) : OkD P w K mg base 6 "best_shift" 4 F_best_shift := by
  obtain ⟨f, fd, F, hm⟩ := T.d_best_shift
  refine okD_mk (k := 5) F hm sc_best_shift (fun _ _ _ _ _ _ us hl => match us, hl with | [_, _, _, _], _ => rfl) fun cdv A outer s H E hr => ?_
  exact (dss_cons (ds_expr (de_callO (ok_need_two T) (hr.mono (by decide)) (da_cons (de_var 0) (da_cons (de_var 1) da_nil))))
    (dss_cons (ds_expr (de_callO (ok_need_range T) (hr.mono (by decide)) (da_cons (de_var 2) (da_cons (de_var 3) da_nil))))
    (dss_cons (ds_setLc 4 (own := [("spot", 8)]) rfl sc_best_shift.nd (sw_true rfl rfl rfl (by decide +kernel)) (di_range2 (m := true) (da_cons (de_var 2) (da_cons (de_op or_add od_add (de_var 3) de_int) da_nil)) T.m_range) (blkOk_by (N := ["one", "other", "low", "high", "spots", "rows", "shift", "moved", "spot"]) (sc := defScope s_best_shift) (own := [("spot", 8)]) (by decide +kernel)) (fun _ _ _ _ _ => (dg_name 8 sc_best_shift.nd)) (fun _ _ _ _ _ => (dt_one (db_val (de_callO (ok_has_mark T) (hr.mono (by decide)) (da_cons (de_var 0) (da_cons (de_var 8) da_nil)))))) (fun _ _ _ _ _ => (de_var 8)))
    (dss_cons (ds_own 5 sc_best_shift.nd (df_lst da_nil))
    (dss_cons (ds_for PassesOwn.never rfl (di_range1 (m := true) (da_cons (de_ix ix_seq od_ix (de_var 1) de_int (fun _ _ => rfl)) da_nil) T.m_range) (dg_name 6 sc_best_shift.nd)
    (dss_cons (ds_set 7 sc_best_shift.nd (de_tup (da_cons (de_op or_add od_add (de_ix ix_seq od_ix (de_var 1) de_int (fun _ _ => rfl)) (de_var 6)) (da_cons (de_ix ix_seq od_ix (de_var 1) de_int (fun _ _ => rfl)) da_nil))))
    (dss_one (ds_append 5 (de_tup (da_cons (de_neg (de_callB call_len cd_len PySem.boot_len T.m_len (da_cons (DF.toE (df_comp (own := [("spot", 8)]) rfl sc_best_shift.nd (di_seq (de_var 4)) (blkOk_by (N := ["one", "other", "low", "high", "spots", "rows", "shift", "moved", "spot"]) (sc := defScope s_best_shift) (own := [("spot", 8)]) (by decide +kernel)) (fun _ _ _ _ _ => (dg_name 8 sc_best_shift.nd)) (fun _ _ _ _ _ => (dt_one (db_val (de_callO (ok_has_mark T) (hr.mono (by decide)) (da_cons (de_var 7) (da_cons (de_var 8) da_nil)))))) (fun _ _ _ _ _ => (de_var 8)))) da_nil))) (da_cons (de_var 6) da_nil)))))))
    (dss_one (ds_ret (de_tup (da_cons (de_neg (de_ix ix_seq od_ix (de_callB (or_minX rfl (hu65 hr)) cd_minX PyProof.Rows.boot_min T.m_min (da_cons (de_varT 5) da_nil)) de_int (fun _ _ => rfl))) (da_cons (de_ix ix_seq od_ix (de_callB (or_minX rfl (hu65 hr)) cd_minX PyProof.Rows.boot_min T.m_min (da_cons (de_varT 5) da_nil)) de_int (fun _ _ => rfl)) da_nil))))))))))
/-! ### _law_roll -/
abbrev s__law_roll : Stmt := topS 34
theorem sc__law_roll : FnScope ["cup", "many", "deep", "found"] ["cup", "many"] (defScope s__law_roll) := ⟨rfl, rfl, rfl, by decide +kernel, rfl, by decide +kernel, by decide +kernel⟩
def g__law_roll : SF :=
  (seqS (ifS (tstB (opE gtD (cupE 0 0) (cE (.int 0))))
    (seqS (asgS (opE modD (callB intD (consA (cupE 0 0) nilA)) (varE 1)) (nameG 3))
    (seqS (cupS 0 0 (opE fdivD (cupE 0 0) (varE 1)))
    (retS (varE 3))))
    nopS)
    (seqS (cupS 0 1 (opE modD (callB intD (consA (opE addD (opE mulD (cupE 0 1) (cE (.int 35743))) (cE (.int 8923))) nilA)) (cE (.int 2147483423))))
    (seqS (asgS (opE modD (callB intD (consA (opE mulD (cupE 0 1) (opE addD (cupE 0 1) (cE (.int 5927)))) nilA)) (cE (.int 2147483587))) (nameG 2))
    (retS (opE modD (callB intD (consA (opE fdivD (varE 2) (cE (.int 3253))) nilA)) (varE 1))))))
def F__law_roll : List PyData → Cu → Option (PyData × Cu) := fnC 4 g__law_roll
theorem ok__law_roll (T : Tx K mg) : OkC P w K mg base 1 "_law_roll" 1 F__law_roll := by
  obtain ⟨f, fd, F, hm⟩ := T.d__law_roll
  refine okC_mk (k := 0) F hm sc__law_roll rfl (fun _ _ _ _ _ _ us hl => match us, hl with | [_, _], _ => rfl) fun cdv A outer s H E hr => ?_
  exact (dss_cons (ds_if (db_cmp op_gt od_cmp (de_cup (i := 0)) de_int (nomark _))
    (dss_cons (ds_set 3 sc__law_roll.nd (de_op op_mod od_mod (de_callTy call_int1 cd_int PyProof.Rows.boot_int T.m_int (da_cons (de_cup (i := 0)) da_nil)) (de_var 1)))
    (dss_cons (ds_cup 0 (de_op op_fdiv od_fdiv (de_cup (i := 0)) (de_var 1)))
    (dss_one (ds_ret (de_var 3)))))
    dss_nil)
    (dss_cons (ds_cup 0 (de_op op_mod od_mod (de_callTy call_int1 cd_int PyProof.Rows.boot_int T.m_int (da_cons (de_op or_add od_add (de_op or_mul od_mul (de_cup (i := 0)) de_int) de_int) da_nil)) de_int))
    (dss_cons (ds_set 2 sc__law_roll.nd (de_op op_mod od_mod (de_callTy call_int1 cd_int PyProof.Rows.boot_int T.m_int (da_cons (de_op or_mul od_mul (de_cup (i := 0)) (de_op or_add od_add (de_cup (i := 0)) de_int)) da_nil)) de_int))
    (dss_one (ds_ret (de_op op_mod od_mod (de_callTy call_int1 cd_int PyProof.Rows.boot_int T.m_int (da_cons (de_op op_fdiv od_fdiv (de_var 2) de_int) da_nil)) (de_var 1)))))))
/-! ### _law_some -/
abbrev s__law_some : Stmt := topS 35
theorem sc__law_some : FnScope ["cup", "things"] ["cup", "things"] (defScope s__law_some) := ⟨rfl, rfl, rfl, by decide +kernel, rfl, by decide +kernel, by decide +kernel⟩
def g__law_some : SF :=
  (retS (opE idxD (varE 1) (callC 0 F__law_roll (consA (callB lenD (consA (varE 1) nilA)) nilA))))
def F__law_some : List PyData → Cu → Option (PyData × Cu) := fnC 2 g__law_some
theorem ok__law_some (T : Tx K mg) : OkC P w K mg base 2 "_law_some" 1 F__law_some := by
  obtain ⟨f, fd, F, hm⟩ := T.d__law_some
  refine okC_mk (k := 1) F hm sc__law_some rfl (fun _ _ _ _ _ _ us hl => match us, hl with | [_, _], _ => rfl) fun cdv A outer s H E hr => ?_
  exact (dss_one (ds_ret (de_ix ix_seq od_ix (de_var 1) (de_callCO (i := 0) (ok__law_roll T) (hr.mono (by decide)) rfl (by first | exact Or.inl rfl | exact Or.inr (Or.inl rfl) | exact Or.inr (Or.inr rfl)) (da_cons (de_callB call_len cd_len PySem.boot_len T.m_len (da_cons (de_var 1) da_nil)) da_nil)) (fun _ _ => rfl))))
/-! ### _law_same -/
abbrev s__law_same : Stmt := topS 36
theorem sc__law_same : FnScope ["told", "due", "at"] ["told", "due"] (defScope s__law_same) := ⟨rfl, rfl, rfl, by decide +kernel, rfl, by decide +kernel, by decide +kernel⟩
def g__law_same (rec : List PyData → Option PyData) : SF :=
  (seqS (ifS (orB (tstB (isiE "tuple" (varE 1))) (tstB (isiE "list" (varE 1))))
    (seqS (ifS (orB (tstB (opE neD (isiE "tuple" (varE 0)) (isiE "tuple" (varE 1)))) (orB (tstB (opE neD (isiE "list" (varE 0)) (isiE "list" (varE 1)))) (tstB (opE neD (callB lenD (consA (varE 0) nilA)) (callB lenD (consA (varE 1) nilA))))))
    (retS (cE (.bool false)))
    nopS)
    (retS (opE eqD (ofF (compF (range1I (consA (callB lenD (consA (varE 1) nilA)) nilA)) [2] (nameG 2) (notB (tstB (callB rec (consA (opE idxD (varE 0) (varE 2)) (consA (opE idxD (varE 1) (varE 2)) nilA))))) (cE (.int 1)))) (lstE nilA))))
    nopS)
    (seqS (ifS (tstB (opE isD (varE 1) (cE .none)))
    (retS (opE isD (varE 0) (cE .none)))
    nopS)
    (seqS (ifS (tstB (isiE "bool" (varE 1)))
    (retS (ifE (tstB (varE 1)) (opE isD (varE 0) (cE (.bool true))) (opE isD (varE 0) (cE (.bool false)))))
    nopS)
    (seqS (ifS (tstB (isiE "int" (varE 1)))
    (retS (andE (isiE "int" (varE 0)) (andE (notE (isiE "bool" (varE 0))) (opE eqD (callB intD (consA (varE 0) nilA)) (varE 1)))))
    nopS)
    (retS (andE (isiE "str" (varE 0)) (opE eqD (callB strD (consA (varE 0) nilA)) (varE 1))))))))
def F__law_same : Nat → List PyData → Option PyData
  | 0 => fun _ => none
  | n + 1 => fnD 3 (g__law_same (F__law_same n))
theorem ok__law_same (T : Tx K mg) : ∀ n : Nat, OkD P w K mg base (n + 1) "_law_same" 2 (F__law_same n)
  | 0 => by
    obtain ⟨f, fd, F, hm⟩ := T.d__law_same
    exact ⟨f, fd, ["told", "due"], fn_none (ps := ["told", "due"]), hm, F.kp, F.binds fun _ _ _ _ _ _ us hl => match us, hl with | [_, _], _ => rfl⟩
  | m + 1 => by
    obtain ⟨f, fd, F, hm⟩ := T.d__law_same
    have hrec := ok__law_same T m
    have hlev : m + 1 ≤ m + 1 := Nat.le_refl _
    have hl2 : 0 ≤ m + 1 := by omega
    refine okD_mk (k := m + 1) F hm sc__law_same (fun _ _ _ _ _ _ us hl => match us, hl with | [_, _], _ => rfl) fun cdv A outer s H E hr => ?_
    exact (dss_cons (ds_if (DW.db (dw_or (db_val (de_isi isi_tuple PyProof.Rows.boot_tuple T.m_isinstance T.m_tuple (de_var 1))) (dw_or1 (db_val (de_isi isi_list PyProof.Rows.boot_list T.m_isinstance T.m_list (de_var 1))))))
    (dss_cons (ds_if (DW.db (dw_or (db_cmp (op_neD hr.units) od_ne (de_isi isi_tuple PyProof.Rows.boot_tuple T.m_isinstance T.m_tuple (de_var 0)) (de_isi isi_tuple PyProof.Rows.boot_tuple T.m_isinstance T.m_tuple (de_var 1)) (nomark _)) (dw_or (db_cmp (op_neD hr.units) od_ne (de_isi isi_list PyProof.Rows.boot_list T.m_isinstance T.m_list (de_var 0)) (de_isi isi_list PyProof.Rows.boot_list T.m_isinstance T.m_list (de_var 1)) (nomark _)) (dw_or1 (db_cmp (op_neD hr.units) od_ne (de_callB call_len cd_len PySem.boot_len T.m_len (da_cons (de_var 0) da_nil)) (de_callB call_len cd_len PySem.boot_len T.m_len (da_cons (de_var 1) da_nil)) (nomark _))))))
    (dss_one (ds_ret de_bl))
    dss_nil)
    (dss_one (ds_ret (de_cmp (op_eqD hr.units) od_eq (DF.toE (df_comp (own := [("at", 2)]) rfl sc__law_same.nd (di_range1 (m := true) (da_cons (de_callB call_len cd_len PySem.boot_len T.m_len (da_cons (de_var 1) da_nil)) da_nil) T.m_range) (blkOk_by (N := ["told", "due", "at"]) (sc := defScope s__law_same) (own := [("at", 2)]) (by decide +kernel)) (fun _ _ _ _ _ => (dg_name 2 sc__law_same.nd)) (fun _ _ _ _ _ => (dt_one (db_not (db_val (de_callO hrec (hr.mono hlev) (da_cons (de_ix ix_seq od_ix (de_var 0) (de_var 2) (fun _ _ => rfl)) (da_cons (de_ix ix_seq od_ix (de_var 1) (de_var 2) (fun _ _ => rfl)) da_nil))))))) (fun _ _ _ _ _ => de_int))) (de_lst da_nil) (nomark _)))))
    dss_nil)
    (dss_cons (ds_if (db_cmp or_is od_is (de_var 1) de_non (nomark _))
    (dss_one (ds_ret (de_cmp or_is od_is (de_var 0) de_non (nomark _))))
    dss_nil)
    (dss_cons (ds_if (db_val (de_isi isi_bool PyProof.Rows.boot_bool T.m_isinstance T.m_bool (de_var 1)))
    (dss_one (ds_ret (de_if (db_val (de_var 1)) (de_cmp or_is od_is (de_var 0) de_bl (nomark _)) (de_cmp or_is od_is (de_var 0) de_bl (nomark _)))))
    dss_nil)
    (dss_cons (ds_if (db_val (de_isi isi_int PyProof.Rows.boot_int T.m_isinstance T.m_int (de_var 1)))
    (dss_one (ds_ret (de_and (de_isi isi_int PyProof.Rows.boot_int T.m_isinstance T.m_int (de_var 0)) (de_and (de_not (de_isi isi_bool PyProof.Rows.boot_bool T.m_isinstance T.m_bool (de_var 0))) (de_one (de_cmp (op_eqD hr.units) od_eq (de_callTy call_int1 cd_int PyProof.Rows.boot_int T.m_int (da_cons (de_var 0) da_nil)) (de_var 1) (nomark _)))))))
    dss_nil)
    (dss_one (ds_ret (de_and (de_isi isi_str PyProof.Rows.boot_str T.m_isinstance T.m_str (de_var 0)) (de_one (de_cmp (op_eqD hr.units) od_eq (de_callTy SkE.call_str_str cd_str PyProof.Rows.boot_str T.m_str (da_cons (de_var 0) da_nil)) (de_var 1) (nomark _))))))))))
/-! ### _law_strip -/
abbrev s__law_strip : Stmt := topS 37
theorem sc__law_strip : FnScope ["cup", "most"] ["cup", "most"] (defScope s__law_strip) := ⟨rfl, rfl, rfl, by decide +kernel, rfl, by decide +kernel, by decide +kernel⟩
def g__law_strip : SF :=
  (retS (tupE (consA (callC 0 F__law_some (consA (lstE (consA (opE subD (callC 0 F__law_roll (consA (cE (.int 30)) nilA)) (cE (.int 10))) (consA (opE subD (callC 0 F__law_roll (consA (cE (.int 2001)) nilA)) (cE (.int 1000))) nilA))) nilA)) (consA (opE addD (cE (.int 1)) (callC 0 F__law_roll (consA (varE 1) nilA))) nilA))))
def F__law_strip : List PyData → Cu → Option (PyData × Cu) := fnC 2 g__law_strip
theorem ok__law_strip (T : Tx K mg) : OkC P w K mg base 3 "_law_strip" 1 F__law_strip := by
  obtain ⟨f, fd, F, hm⟩ := T.d__law_strip
  refine okC_mk (k := 2) F hm sc__law_strip rfl (fun _ _ _ _ _ _ us hl => match us, hl with | [_, _], _ => rfl) fun cdv A outer s H E hr => ?_
  exact (dss_one (ds_ret (de_tup (da_cons (de_callCO (i := 0) (ok__law_some T) (hr.mono (by decide)) rfl (by first | exact Or.inl rfl | exact Or.inr (Or.inl rfl) | exact Or.inr (Or.inr rfl)) (da_cons (de_lst (da_cons (de_op op_sub od_sub (de_callCO (i := 0) (ok__law_roll T) (hr.mono (by decide)) rfl (by first | exact Or.inl rfl | exact Or.inr (Or.inl rfl) | exact Or.inr (Or.inr rfl)) (da_cons de_int da_nil)) de_int) (da_cons (de_op op_sub od_sub (de_callCO (i := 0) (ok__law_roll T) (hr.mono (by decide)) rfl (by first | exact Or.inl rfl | exact Or.inr (Or.inl rfl) | exact Or.inr (Or.inr rfl)) (da_cons de_int da_nil)) de_int) da_nil))) da_nil)) (da_cons (de_op or_add od_add de_int (de_callCO (i := 0) (ok__law_roll T) (hr.mono (by decide)) rfl (by first | exact Or.inl rfl | exact Or.inr (Or.inl rfl) | exact Or.inr (Or.inr rfl)) (da_cons (de_var 1) da_nil))) da_nil)))))
/-! ### _law_marks -/
abbrev s__law_marks : Stmt := topS 38
theorem sc__law_marks : FnScope ["strip", "low", "high", "spot", "found"] ["strip", "low", "high"] (defScope s__law_marks) := ⟨rfl, rfl, rfl, by decide +kernel, rfl, by decide +kernel, by decide +kernel⟩
def g__law_marks : SF :=
  (seqS (asgS (opE addD (varE 1) (opE modD (callB intD (consA (opE subD (opE idxD (varE 0) (cE (.int 0))) (varE 1)) nilA)) (opE idxD (varE 0) (cE (.int 1))))) (nameG 3))
    (seqS (asgS (lstE nilA) (nameG 4))
    (seqS (whileL (tstB (opE leD (varE 3) (varE 2)))
    (parS [4, 3] (keepX (opE addD (varE 4) (lstE (consA (varE 3) nilA))) (keepX (opE addD (varE 3) (opE idxD (varE 0) (cE (.int 1)))) nilX))) 100000)
    (retS (varE 4)))))
def F__law_marks : List PyData → Option PyData := fnD 5 g__law_marks
theorem ok__law_marks (T : Tx K mg) : OkD P w K mg base 1 "_law_marks" 3 F__law_marks := by
  obtain ⟨f, fd, F, hm⟩ := T.d__law_marks
  refine okD_mk (k := 0) F hm sc__law_marks (fun _ _ _ _ _ _ us hl => match us, hl with | [_, _, _], _ => rfl) fun cdv A outer s H E hr => ?_
  exact (dss_cons (ds_set 3 sc__law_marks.nd (de_op or_add od_add (de_var 1) (de_op op_mod od_mod (de_callTy call_int1 cd_int PyProof.Rows.boot_int T.m_int (da_cons (de_op op_sub od_sub (de_ix ix_seq od_ix (de_var 0) de_int (fun _ _ => rfl)) (de_var 1)) da_nil)) (de_ix ix_seq od_ix (de_var 0) de_int (fun _ _ => rfl)))))
    (dss_cons (ds_set 4 sc__law_marks.nd (de_lst da_nil))
    (dss_cons (ds_while 100000 PassesOwn.never (db_cmp op_le od_cmp (de_var 3) (de_var 2) (nomark _))
    (dss_one (ds_par 4 3 rfl sc__law_marks.nd (dx_keep (de_op or_add od_add (de_var 4) (de_lst (da_cons (de_var 3) da_nil))) (dx_keep (de_op or_add od_add (de_var 3) (de_ix ix_seq od_ix (de_var 0) de_int (fun _ _ => rfl))) dx_nil)))))
    (dss_one (ds_ret (de_var 4))))))
/-! ### _law_multiple -/
abbrev s__law_multiple : Stmt := topS 39
theorem sc__law_multiple : FnScope ["one", "other", "found"] ["one", "other"] (defScope s__law_multiple) := ⟨rfl, rfl, rfl, by decide +kernel, rfl, by decide +kernel, by decide +kernel⟩
def g__law_multiple : SF :=
  (seqS (asgS (varE 0) (nameG 2))
    (seqS (whileL (tstB (opE gtD (opE modD (callB intD (consA (varE 2) nilA)) (varE 1)) (cE (.int 0))))
    (asgS (opE addD (varE 2) (varE 0)) (nameG 2)) 100000)
    (retS (varE 2))))
def F__law_multiple : List PyData → Option PyData := fnD 3 g__law_multiple
theorem ok__law_multiple (T : Tx K mg) : OkD P w K mg base 1 "_law_multiple" 2 F__law_multiple := by
  obtain ⟨f, fd, F, hm⟩ := T.d__law_multiple
  refine okD_mk (k := 0) F hm sc__law_multiple (fun _ _ _ _ _ _ us hl => match us, hl with | [_, _], _ => rfl) fun cdv A outer s H E hr => ?_
  exact (dss_cons (ds_set 2 sc__law_multiple.nd (de_var 0))
    (dss_cons (ds_while 100000 PassesOwn.never (db_cmp op_gt od_cmp (de_op op_mod od_mod (de_callTy call_int1 cd_int PyProof.Rows.boot_int T.m_int (da_cons (de_var 2) da_nil)) (de_var 1)) de_int (nomark _))
    (dss_one (ds_set 2 sc__law_multiple.nd (de_op or_add od_add (de_var 2) (de_var 0)))))
    (dss_one (ds_ret (de_var 2)))))
/-! ### _law_strips -/
abbrev s__law_strips : Stmt := topS 40
theorem sc__law_strips : FnScope ["cup", "steps", "strip"] ["cup", "steps"] (defScope s__law_strips) := ⟨rfl, rfl, rfl, by decide +kernel, rfl, by decide +kernel, by decide +kernel⟩
def g__law_strips : SF :=
  (retS (callB tupleD (consA (ofF (compF (range1I (consA (opE addD (cE (.int 1)) (callC 0 F__law_roll (consA (cE (.int 4)) nilA))) nilA)) [2] (nameG 2) yesB (tupE (consA (opE subD (callC 0 F__law_roll (consA (cE (.int 30)) nilA)) (cE (.int 10))) (consA (callC 0 F__law_some (consA (varE 1) nilA)) nilA))))) nilA)))
def F__law_strips : List PyData → Cu → Option (PyData × Cu) := fnC 3 g__law_strips
theorem ok__law_strips (T : Tx K mg) : OkC P w K mg base 3 "_law_strips" 1 F__law_strips := by
  obtain ⟨f, fd, F, hm⟩ := T.d__law_strips
  refine okC_mk (k := 2) F hm sc__law_strips rfl (fun _ _ _ _ _ _ us hl => match us, hl with | [_, _], _ => rfl) fun cdv A outer s H E hr => ?_
  exact (dss_one (ds_ret (de_callTy call_tuple_of cd_tuple PyProof.Rows.boot_tuple T.m_tuple (da_cons (DF.toE (df_comp (own := [("strip", 2)]) rfl sc__law_strips.nd (di_range1 (m := true) (da_cons (de_op or_add od_add de_int (de_callCO (i := 0) (ok__law_roll T) (hr.mono (by decide)) rfl (by first | exact Or.inl rfl | exact Or.inr (Or.inl rfl) | exact Or.inr (Or.inr rfl)) (da_cons de_int da_nil))) da_nil) T.m_range) (blkOk_by (N := ["cup", "steps", "strip"]) (sc := defScope s__law_strips) (own := [("strip", 2)]) (by decide +kernel)) (fun _ _ _ _ _ => (dg_name 2 sc__law_strips.nd)) (fun _ _ _ _ _ => dt_nil) (fun _ _ _ _ _ => (de_tup (da_cons (de_op op_sub od_sub (de_callCO (i := 0) (ok__law_roll T) (hr.mono (by decide)) rfl (by first | exact Or.inl rfl | exact Or.inr (Or.inl rfl) | exact Or.inr (Or.inr rfl)) (da_cons de_int da_nil)) de_int) (da_cons (de_callCO (i := 0) (ok__law_some T) (hr.mono (by decide)) rfl (by first | exact Or.inl rfl | exact Or.inr (Or.inl rfl) | exact Or.inr (Or.inr rfl)) (da_cons (de_var 1) da_nil)) da_nil)))))) da_nil))))
/-! ### _law_round -/
abbrev s__law_round : Stmt := topS 41
theorem sc__law_round : FnScope ["strips", "found", "mark", "step"] ["strips"] (defScope s__law_round) := ⟨rfl, rfl, rfl, by decide +kernel, rfl, by decide +kernel, by decide +kernel⟩
def g__law_round : SF :=
  (seqS (asgS (cE (.int 1)) (nameG 1))
    (seqS (forS (seqI (varE 0)) (tupG 2 (consG (nameG 2) (consG (nameG 3) nilG)))
    (asgS (callB F__law_multiple (consA (varE 1) (consA (varE 3) nilA))) (nameG 1)))
    (retS (varE 1))))
def F__law_round : List PyData → Option PyData := fnD 4 g__law_round
theorem ok__law_round (T : Tx K mg) : OkD P w K mg base 2 "_law_round" 1 F__law_round := by
  obtain ⟨f, fd, F, hm⟩ := T.d__law_round
  refine okD_mk (k := 1) F hm sc__law_round (fun _ _ _ _ _ _ us hl => match us, hl with | [_], _ => rfl) fun cdv A outer s H E hr => ?_
  exact (dss_cons (ds_set 1 sc__law_round.nd de_int)
    (dss_cons (ds_for PassesOwn.never rfl (di_seq (de_var 0)) (dg_tup rfl (dgs_cons (dg_name 2 sc__law_round.nd) (dgs_cons (dg_name 3 sc__law_round.nd) dgs_nil)))
    (dss_one (ds_set 1 sc__law_round.nd (de_callO (ok__law_multiple T) (hr.mono (by decide)) (da_cons (de_var 1) (da_cons (de_var 3) da_nil))))))
    (dss_one (ds_ret (de_var 1)))))
/-! ### _law_met -/
abbrev s__law_met : Stmt := topS 42
theorem sc__law_met : FnScope ["strips", "size", "found", "strip", "spot"] ["strips", "size"] (defScope s__law_met) := ⟨rfl, rfl, rfl, by decide +kernel, rfl, by decide +kernel, by decide +kernel⟩
def g__law_met : SF :=
  (seqS (ownS 2 (repF (lstE (consA (cE (.int 0)) nilA)) (varE 1)))
    (seqS (forS (seqI (varE 0)) (nameG 3)
    (forS (seqI (callB F__law_marks (consA (varE 3) (consA (cE (.int 0)) (consA (opE subD (varE 1) (cE (.int 1))) nilA))))) (nameG 4)
    (setIxS 2 (varE 4) (opE addD (opE idxD (varT 2) (varE 4)) (cE (.int 1))))))
    (retOwn 2)))
def F__law_met : List PyData → Option PyData := fnD 5 g__law_met
theorem ok__law_met (T : Tx K mg) : OkD P w K mg base 2 "_law_met" 2 F__law_met := by
  obtain ⟨f, fd, F, hm⟩ := T.d__law_met
  refine okD_mk (k := 1) F hm sc__law_met (fun _ _ _ _ _ _ us hl => match us, hl with | [_, _], _ => rfl) fun cdv A outer s H E hr => ?_
  exact (dss_cons (ds_own 2 sc__law_met.nd (df_rep (de_lst (da_cons de_int da_nil)) (de_var 1)))
    (dss_cons (ds_for PassesOwn.never rfl (di_seq (de_var 0)) (dg_name 3 sc__law_met.nd)
    (dss_one (ds_for PassesOwn.never rfl (di_seq (de_callO (ok__law_marks T) (hr.mono (by decide)) (da_cons (de_var 3) (da_cons de_int (da_cons (de_op op_sub od_sub (de_var 1) de_int) da_nil))))) (dg_name 4 sc__law_met.nd)
    (dss_one (ds_setIx 2 (de_op or_add od_add (de_ix ix_seq od_ix (de_varT 2) (de_var 4) (fun _ _ => rfl)) de_int) (de_var 4))))))
    (dss_one (ds_retOwn 2))))
/-! ### _law_cup -/
abbrev s__law_cup : Stmt := topS 33
theorem sc__law_cup : FnScope ["script", "cell"] ["script"] (defScope s__law_cup) := ⟨rfl, rfl, rfl, by decide +kernel, rfl, by decide +kernel, by decide +kernel⟩
def f__law_cup : Rho → Cu → Option (Ow × Cu) := (lstF (consA (ifE (tstB (opE geD (varE 1) (opE powD (cE (.int 10)) (cE (.int 18))))) (opE fdivD (varE 1) (cE (.int 239))) (cE (.int 0))) (consA (opE addD (opE modD (callB intD (consA (opE addD (opE mulD (varE 1) (cE (.int 5273))) (cE (.int 7283))) nilA)) (cE (.int 2041227443))) (cE (.int 3851))) nilA)))
theorem cup_ok {cell : Int} (h : 0 ≤ cell) : ∃ x y, f__law_cup [.un, .d (.int cell)] (0, 0) = some (.lst [.int x, .int y], (0, 0)) ∧ CupOk (x, y) := by
  by_cases h2 : (1000000000000000000 : Int) ≤ cell
  all_goals
    refine ⟨_, _, by (simp [f__law_cup, lstF, h2, List.getElem?_set, mulOk, sizeLine_eq]; first | exact ⟨rfl, rfl⟩ | rfl), ?_⟩
    exact ⟨by first | exact Int.ediv_nonneg h (by omega) | exact Int.le_refl 0, by simp only; omega, by simp only; omega⟩
theorem ok__law_cup (T : Tx K mg) {f : Addr} {fd : FuncData} (F : Fun K "_law_cup" "_law_cup" s__law_cup f fd) : FnOk P w K mg base CX0 1 f fd ["script"] (spCup K) := by
  refine F.ok (k := 0) sc__law_cup (fun vs H Q E h => ?_) (fun cdv A outer s H vs Q E hr h => ?_)
  · obtain ⟨a, ns, rfl, _⟩ := h
    rfl
  · obtain ⟨a, ns, rfl, hS, hl, q⟩ := h
    have D : DF (cxOf CX0 P w K mg base ["script", "cell"] "_law_cup" (defScope s__law_cup) f cdv A outer s H E).nox (retX (defBody s__law_cup)) f__law_cup := by
      exact (df_lst (da_cons (de_if (db_cmp op_ge od_cmp (de_var 1) (de_op op_pow od_pow de_int de_int) (nomark _)) (de_op op_fdiv od_fdiv (de_var 1) de_int) de_int) (da_cons (de_op or_add od_add (de_op op_mod od_mod (de_callTy call_int1 cd_int PyProof.Rows.boot_int T.m_int (da_cons (de_op or_add od_add (de_op or_mul od_mul (de_var 1) de_int) de_int) da_nil)) de_int) de_int) da_nil)))
    obtain ⟨t, p, sat⟩ := D
    refine ⟨_, pss_cons (ps_set (i := 1) sc__law_cup.nd rfl (.inl rfl) (pe_callB call_abs (by rfl) T.m_abs PyProof.Rows.boot_abs (pa_cons (pe_ix ix_list (pe_op op_cat (pe_callTy call_list_of (by rfl) T.m_list PyProof.Rows.boot_list (pa_cons (pv 0) pa_nil)) (pe_lst (pa_cons pe_int pa_nil))) pe_int (fun _ _ => rfl)) pa_nil)))
      (pss_one (ps_ret p)), ?_⟩
    have h63 : (sizeLine : Nat) = 16777216 := sizeLine_eq
    refine ⟨.ref a, rfl, a, ns.map V.int, rfl, .inl hS, fun l1 n1 => ?_⟩
    refine ⟨Nat.le_trans (by decide : 1 ≤ 2) (by rw [h63]; decide), fun l2 n2 => ?_⟩
    have ne : l1 ≠ l2 := fun e => by rw [← e, upd_same] at n2; cases n2
    refine ⟨l1, l2, ns.map V.int, [.int 0], rfl, rfl, by rw [upd_ne ne, upd_same], upd_same, by rw [List.length_map, h63]; show ns.length + 1 ≤ 16777216; omega, fun l3 n3 => ?_⟩
    obtain ⟨z, r, hz⟩ : ∃ z r, ns.map V.int ++ [V.int 0] = V.int z :: r := by
      cases ns with
      | nil => exact ⟨0, [], rfl⟩
      | cons z r => exact ⟨z, r.map V.int ++ [.int 0], rfl⟩
    rw [hz]
    refine ⟨l3, _, 0, .int z, rfl, rfl, .of upd_same, atI_nat (j := 0) rfl, z, rfl, ?_⟩
    generalize hc : (if z < 0 then -z else z) = cell
    have h0 : 0 ≤ cell := by rw [← hc]; split <;> omega
    exact cup_start sat (((same_upd n1).trans (same_upd n2)).trans (same_upd n3)) (cup_ok h0) q
/-! ### law -/
abbrev s_law : Stmt := topS 43
theorem sc_law : FnScope ["script", "cup", "turn", "step", "told", "low", "high", "shift", "strips", "size", "spots", "one", "other", "best", "mine", "theirs", "many", "spot"] ["script"] (defScope s_law) := ⟨rfl, rfl, rfl, by decide +kernel, rfl, by decide +kernel, by decide +kernel⟩
def l_1 : SF := (parS [11, 12] (keepX (callC 1 F__law_strip (consA (callC 1 F__law_some (consA (lstE (consA (cE (.int 5)) (consA (cE (.int 30)) nilA))) nilA)) nilA)) (keepX (callC 1 F__law_strip (consA (callC 1 F__law_some (consA (lstE (consA (cE (.int 5)) (consA (cE (.int 30)) nilA))) nilA)) nilA)) nilX)))
def l_2 : SF := (asgS (opE subD (callC 1 F__law_roll (consA (cE (.int 301)) nilA)) (cE (.int 150))) (nameG 5))
def l_3 : SF := (asgS (opE addD (varE 5) (callC 1 F__law_roll (consA (cE (.int 80)) nilA))) (nameG 6))
def l_4 : SF := (parS [13, 14] (keepX (cE .none) (keepX (callB F__law_marks (consA (varE 11) (consA (varE 5) (consA (varE 6) nilA)))) nilX)))
def l_5 : SF := (asgS (callB F__law_marks (consA (tupE (consA (opE addD (opE idxD (varE 12) (cE (.int 0))) (varE 7)) (consA (opE idxD (varE 12) (cE (.int 1))) nilA))) (consA (varE 5) (consA (varE 6) nilA)))) (nameG 15))
def l_6 : SF := (asgS (callB lenD (consA (ofF (compF (seqI (varE 14)) [17] (nameG 17) (tstB (opE (inD false) (varE 17) (varE 15))) (varE 17))) nilA)) (nameG 16))
def l_7 : SF := (asgS (ifE (orB (tstB (opE isD (varE 13) (cE .none))) (tstB (opE gtD (varE 16) (opE idxD (varE 13) (cE (.int 0)))))) (tupE (consA (varE 16) (consA (varE 7) nilA))) (varE 13)) (nameG 13))
def lb_1 : SF :=
  (seqS l_5
    (seqS l_6
    l_7))
def l_8 : SF := (retS (cE (.bool false)))
def l_9 : SF := (ifS (notB (tstB (callB (F__law_same 8) (consA (callB F_best_shift (consA (varE 11) (consA (varE 12) (consA (varE 5) (consA (varE 6) nilA))))) (consA (varE 13) nilA)))))
    l_8
    nopS)
def l_10 : SF := (retS (cE (.bool false)))
def l_11 : SF := (ifS (tstB (opE gtD (opE idxD (varE 13) (cE (.int 0))) (callB lenD (consA (callB F_marks_in (consA (varE 11) (consA (varE 5) (consA (varE 6) nilA)))) nilA))))
    l_10
    nopS)
def l_12 : SF := (asgS (callC 1 F__law_strips (consA (callC 1 F__law_some (consA (lstE (consA (lstE (consA (cE (.int 2)) (consA (cE (.int 3)) (consA (cE (.int 4)) nilA)))) (consA (lstE (consA (cE (.int 2)) (consA (cE (.int 4)) (consA (cE (.int 8)) (consA (cE (.int 12)) nilA))))) (consA (lstE (consA (cE (.int 5)) (consA (cE (.int 7)) (consA (cE (.int 3)) nilA)))) nilA)))) nilA)) nilA)) (nameG 8))
def l_13 : SF := (asgS (callB F__law_round (consA (varE 8) nilA)) (nameG 9))
def l_14 : SF := (asgS (ofF (compF (enumI (callB F__law_met (consA (varE 8) (consA (varE 9) nilA)))) [17, 16] (tupG 2 (consG (nameG 17) (consG (nameG 16) nilG))) (tstB (opE eqD (varE 16) (callB lenD (consA (varE 8) nilA)))) (varE 17))) (nameG 10))
def l_15 : SF := (retS (cE (.bool false)))
def l_16 : SF := (ifS (orB (notB (tstB (callB (F__law_same 8) (consA (callB F_common_of (consA (varE 8) nilA)) (consA (ifE (tstB (opE neD (varE 10) (lstE nilA))) (tupE (consA (opE idxD (varE 10) (cE (.int 0))) (consA (varE 9) nilA))) (cE .none)) nilA))))) (tstB (opE gtD (callB lenD (consA (varE 10) nilA)) (cE (.int 1)))))
    l_15
    nopS)
def lb_2 : SF :=
  (seqS l_1
    (seqS l_2
    (seqS l_3
    (seqS l_4
    (seqS (forS (range1I (consA (opE idxD (varE 12) (cE (.int 1))) nilA)) (nameG 7)
    lb_1)
    (seqS l_9
    (seqS l_11
    (seqS l_12
    (seqS l_13
    (seqS l_14
    l_16))))))))))
def l_17 : SF := (asgS (opE addD (cE (.int 1)) (callC 1 F__law_roll (consA (cE (.int 60)) nilA))) (nameG 3))
def l_18 : SF := (asgS (tupE (consA (opE idxD (callB F_best_shift (consA (tupE (consA (cE (.int 0)) (consA (varE 3) nilA))) (consA (tupE (consA (cE (.int 7)) (consA (varE 3) nilA))) (consA (unE negD (cE (.int 200))) (consA (cE (.int 200)) nilA))))) (cE (.int 1))) (consA (callB F_common_of (consA (opE mulD (tupE (consA (tupE (consA (cE (.int 5)) (consA (varE 3) nilA))) nilA)) (cE (.int 6))) nilA)) (consA (callB F_common_of (consA (tupE (consA (tupE (consA (cE (.int 0)) (consA (cE (.int 2)) nilA))) (consA (tupE (consA (cE (.int 0)) (consA (cE (.int 3)) nilA))) (consA (tupE (consA (cE (.int 1)) (consA (cE (.int 2)) nilA))) nilA)))) nilA)) nilA)))) (nameG 4))
def l_19 : SF := (retS (callB (F__law_same 8) (consA (varE 4) (consA (tupE (consA (opE modD (callB intD (consA (unE negD (cE (.int 7))) nilA)) (varE 3)) (consA (tupE (consA (opE modD (callB intD (consA (cE (.int 5)) nilA)) (varE 3)) (consA (varE 3) nilA))) (consA (cE .none) nilA)))) nilA))))
def g_law : SF :=
  (seqS (forS (range1I (consA (cE (.int 5)) nilA)) (nameG 2)
    lb_2)
    (seqS l_17
    (seqS l_18
    l_19)))
def law0 : Rho := [.un, .cup, .un, .un, .un, .un, .un, .un, .un, .un, .un, .un, .un, .un, .un, .un, .un, .un]
def LawTrue : Prop := ∀ c, CupOk c → ∃ c', g_law law0 c = .rt (.bool true) c'
theorem ok_law (T : Tx K mg) (M : LawTrue) {f : Addr} {fd : FuncData} (F : Fun K "law" "law" s_law f fd) : FnOk P w K mg base CX0 10 f fd ["script"] (spLaw K) := by
  obtain ⟨fc, fdc, Fc, hmc⟩ := T.d__law_cup
  refine F.ok (k := 9) sc_law (fun vs H Q E h => ?_) (fun cdv A outer s H vs Q E hr h => ?_)
  · obtain ⟨a, ns, rfl, _⟩ := h
    rfl
  · obtain ⟨a, ns, rfl, hS, hlen, q⟩ := h
    have D : DSs (cxOf CX0 P w K mg base ["script", "cup", "turn", "step", "told", "low", "high", "shift", "strips", "size", "spots", "one", "other", "best", "mine", "theirs", "many", "spot"] "law" (defScope s_law) f cdv A outer s H E).nox (defBody s_law).tail g_law := by
      exact (dss_cons (ds_for PassesOwn.never rfl (di_range1 (m := true) (da_cons de_int da_nil) T.m_range) (dg_name 2 sc_law.nd)
    (dss_cons (ds_par 11 12 rfl sc_law.nd (dx_keep (de_callCO (i := 1) (ok__law_strip T) (hr.mono (by decide)) rfl (by first | exact Or.inl rfl | exact Or.inr (Or.inl rfl) | exact Or.inr (Or.inr rfl)) (da_cons (de_callCO (i := 1) (ok__law_some T) (hr.mono (by decide)) rfl (by first | exact Or.inl rfl | exact Or.inr (Or.inl rfl) | exact Or.inr (Or.inr rfl)) (da_cons (de_lst (da_cons de_int (da_cons de_int da_nil))) da_nil)) da_nil)) (dx_keep (de_callCO (i := 1) (ok__law_strip T) (hr.mono (by decide)) rfl (by first | exact Or.inl rfl | exact Or.inr (Or.inl rfl) | exact Or.inr (Or.inr rfl)) (da_cons (de_callCO (i := 1) (ok__law_some T) (hr.mono (by decide)) rfl (by first | exact Or.inl rfl | exact Or.inr (Or.inl rfl) | exact Or.inr (Or.inr rfl)) (da_cons (de_lst (da_cons de_int (da_cons de_int da_nil))) da_nil)) da_nil)) dx_nil)))
    (dss_cons (ds_set 5 sc_law.nd (de_op op_sub od_sub (de_callCO (i := 1) (ok__law_roll T) (hr.mono (by decide)) rfl (by first | exact Or.inl rfl | exact Or.inr (Or.inl rfl) | exact Or.inr (Or.inr rfl)) (da_cons de_int da_nil)) de_int))
    (dss_cons (ds_set 6 sc_law.nd (de_op or_add od_add (de_var 5) (de_callCO (i := 1) (ok__law_roll T) (hr.mono (by decide)) rfl (by first | exact Or.inl rfl | exact Or.inr (Or.inl rfl) | exact Or.inr (Or.inr rfl)) (da_cons de_int da_nil))))
    (dss_cons (ds_par 13 14 rfl sc_law.nd (dx_keep de_non (dx_keep (de_callO (ok__law_marks T) (hr.mono (by decide)) (da_cons (de_var 11) (da_cons (de_var 5) (da_cons (de_var 6) da_nil)))) dx_nil)))
    (dss_cons (ds_for PassesOwn.never rfl (di_range1 (m := true) (da_cons (de_ix ix_seq od_ix (de_var 12) de_int (fun _ _ => rfl)) da_nil) T.m_range) (dg_name 7 sc_law.nd)
    (dss_cons (ds_set 15 sc_law.nd (de_callO (ok__law_marks T) (hr.mono (by decide)) (da_cons (de_tup (da_cons (de_op or_add od_add (de_ix ix_seq od_ix (de_var 12) de_int (fun _ _ => rfl)) (de_var 7)) (da_cons (de_ix ix_seq od_ix (de_var 12) de_int (fun _ _ => rfl)) da_nil))) (da_cons (de_var 5) (da_cons (de_var 6) da_nil)))))
    (dss_cons (ds_set 16 sc_law.nd (de_callB call_len cd_len PySem.boot_len T.m_len (da_cons (DF.toE (df_comp (own := [("spot", 17)]) rfl sc_law.nd (di_seq (de_var 14)) (blkOk_by (N := ["script", "cup", "turn", "step", "told", "low", "high", "shift", "strips", "size", "spots", "one", "other", "best", "mine", "theirs", "many", "spot"]) (sc := defScope s_law) (own := [("spot", 17)]) (by decide +kernel)) (fun _ _ _ _ _ => (dg_name 17 sc_law.nd)) (fun _ _ _ _ _ => (dt_one (db_cmp (or_in (hu65 hr)) od_in (de_var 17) (de_var 15) (by rfl)))) (fun _ _ _ _ _ => (de_var 17)))) da_nil)))
    (dss_one (ds_set 13 sc_law.nd (de_if (DW.db (dw_or (db_cmp or_is od_is (de_var 13) de_non (nomark _)) (dw_or1 (db_cmp op_gt od_cmp (de_var 16) (de_ix ix_seq od_ix (de_var 13) de_int (fun _ _ => rfl)) (nomark _))))) (de_tup (da_cons (de_var 16) (da_cons (de_var 7) da_nil))) (de_var 13)))))))
    (dss_cons (ds_if (db_not (db_val (de_callO (ok__law_same T 8) (hr.mono (by decide)) (da_cons (de_callO (ok_best_shift T) (hr.mono (by decide)) (da_cons (de_var 11) (da_cons (de_var 12) (da_cons (de_var 5) (da_cons (de_var 6) da_nil))))) (da_cons (de_var 13) da_nil)))))
    (dss_one (ds_ret de_bl))
    dss_nil)
    (dss_cons (ds_if (db_cmp op_gt od_cmp (de_ix ix_seq od_ix (de_var 13) de_int (fun _ _ => rfl)) (de_callB call_len cd_len PySem.boot_len T.m_len (da_cons (de_callO (ok_marks_in T) (hr.mono (by decide)) (da_cons (de_var 11) (da_cons (de_var 5) (da_cons (de_var 6) da_nil)))) da_nil)) (nomark _))
    (dss_one (ds_ret de_bl))
    dss_nil)
    (dss_cons (ds_set 8 sc_law.nd (de_callCO (i := 1) (ok__law_strips T) (hr.mono (by decide)) rfl (by first | exact Or.inl rfl | exact Or.inr (Or.inl rfl) | exact Or.inr (Or.inr rfl)) (da_cons (de_callCO (i := 1) (ok__law_some T) (hr.mono (by decide)) rfl (by first | exact Or.inl rfl | exact Or.inr (Or.inl rfl) | exact Or.inr (Or.inr rfl)) (da_cons (de_lst (da_cons (de_lst (da_cons de_int (da_cons de_int (da_cons de_int da_nil)))) (da_cons (de_lst (da_cons de_int (da_cons de_int (da_cons de_int (da_cons de_int da_nil))))) (da_cons (de_lst (da_cons de_int (da_cons de_int (da_cons de_int da_nil)))) da_nil)))) da_nil)) da_nil)))
    (dss_cons (ds_set 9 sc_law.nd (de_callO (ok__law_round T) (hr.mono (by decide)) (da_cons (de_var 8) da_nil)))
    (dss_cons (ds_setLc 10 (own := [("spot", 17), ("many", 16)]) rfl sc_law.nd (sw_true rfl rfl rfl (by decide +kernel)) (di_enum (de_callO (ok__law_met T) (hr.mono (by decide)) (da_cons (de_var 8) (da_cons (de_var 9) da_nil))) T.m_enumerate) (blkOk_by (N := ["script", "cup", "turn", "step", "told", "low", "high", "shift", "strips", "size", "spots", "one", "other", "best", "mine", "theirs", "many", "spot"]) (sc := defScope s_law) (own := [("spot", 17), ("many", 16)]) (by decide +kernel)) (fun _ _ _ _ _ => (dg_tup rfl (dgs_cons (dg_name 17 sc_law.nd) (dgs_cons (dg_name 16 sc_law.nd) dgs_nil)))) (fun _ _ _ _ _ => (dt_one (db_cmp (op_eqD hr.units) od_eq (de_var 16) (de_callB call_len cd_len PySem.boot_len T.m_len (da_cons (de_var 8) da_nil)) (nomark _)))) (fun _ _ _ _ _ => (de_var 17)))
    (dss_one (ds_if (DW.db (dw_or (db_not (db_val (de_callO (ok__law_same T 8) (hr.mono (by decide)) (da_cons (de_callO (ok_common_of T) (hr.mono (by decide)) (da_cons (de_var 8) da_nil)) (da_cons (de_if (db_cmp (op_neD hr.units) od_ne (de_var 10) (de_lst da_nil) (nomark _)) (de_tup (da_cons (de_ix ix_seq od_ix (de_var 10) de_int (fun _ _ => rfl)) (da_cons (de_var 9) da_nil))) de_non) da_nil))))) (dw_or1 (db_cmp op_gt od_cmp (de_callB call_len cd_len PySem.boot_len T.m_len (da_cons (de_var 10) da_nil)) de_int (nomark _)))))
    (dss_one (ds_ret de_bl))
    dss_nil)))))))))))))
    (dss_cons (ds_set 3 sc_law.nd (de_op or_add od_add de_int (de_callCO (i := 1) (ok__law_roll T) (hr.mono (by decide)) rfl (by first | exact Or.inl rfl | exact Or.inr (Or.inl rfl) | exact Or.inr (Or.inr rfl)) (da_cons de_int da_nil))))
    (dss_cons (ds_set 4 sc_law.nd (de_tup (da_cons (de_ix ix_seq od_ix (de_callO (ok_best_shift T) (hr.mono (by decide)) (da_cons (de_tup (da_cons de_int (da_cons (de_var 3) da_nil))) (da_cons (de_tup (da_cons de_int (da_cons (de_var 3) da_nil))) (da_cons (de_neg de_int) (da_cons de_int da_nil))))) de_int (fun _ _ => rfl)) (da_cons (de_callO (ok_common_of T) (hr.mono (by decide)) (da_cons (de_op or_mul od_mul (de_tup (da_cons (de_tup (da_cons de_int (da_cons (de_var 3) da_nil))) da_nil)) de_int) da_nil)) (da_cons (de_callO (ok_common_of T) (hr.mono (by decide)) (da_cons (de_tup (da_cons (de_tup (da_cons de_int (da_cons de_int da_nil))) (da_cons (de_tup (da_cons de_int (da_cons de_int da_nil))) (da_cons (de_tup (da_cons de_int (da_cons de_int da_nil))) da_nil)))) da_nil)) da_nil)))))
    (dss_one (ds_ret (de_callO (ok__law_same T 8) (hr.mono (by decide)) (da_cons (de_var 4) (da_cons (de_tup (da_cons (de_op op_mod od_mod (de_callTy call_int1 cd_int PyProof.Rows.boot_int T.m_int (da_cons (de_neg de_int) da_nil)) (de_var 3)) (da_cons (de_tup (da_cons (de_op op_mod od_mod (de_callTy call_int1 cd_int PyProof.Rows.boot_int T.m_int (da_cons de_int da_nil)) (de_var 3)) (da_cons (de_var 3) da_nil))) (da_cons de_non da_nil)))) da_nil))))))))
    obtain ⟨t, p, sat⟩ := D
    refine ⟨_, pss_cons (ps_set (i := 1) sc_law.nd rfl (by first | exact .inl rfl | exact .inr rfl) (pe_call (ok__law_cup T Fc) (hr.mono (by decide)) (by rfl) hmc Fc.kp (Fc.binds fun _ _ _ _ _ _ us hl => match us, hl with | [_], _ => rfl) .nil pass0 (pa_cons (pv 0) pa_nil))) p, ?_⟩
    refine ⟨.ref a, rfl, a, ns, rfl, hS, by omega, fun H1 pc x y sm nn hh hx => ?_⟩
    exact law_start (n := 16) sat hh hx M q
end
end PL

set_option Elab.async false
set_option linter.all false
set_option maxRecDepth 100000
set_option maxHeartbeats 4000000
namespace PL
open PySem PySem.Spec PyProof.Rows L2 RZ
/-! ### steps -/
theorem seqS_nx {g h : SF} {ρ ρ' : Rho} {c c' : Cu} (e : g ρ c = .nx ρ' c') : seqS g h ρ c = h ρ' c' := by
  unfold seqS; rw [e]
theorem asg_nx {i : Nat} {f : EF} {ρ : Rho} {c c1 : Cu} {d : PyData} (e : f ρ c = some (d, c1)) : asgS f (nameG i) ρ c = .nx (ρ.set i (.d d)) c1 := by
  unfold asgS; rw [e]; rfl
theorem ifS_f {t : BF} {g h : SF} {ρ : Rho} {c c1 : Cu} (e : t ρ c = some (false, c1)) : ifS t g h ρ c = h ρ c1 := by
  unfold ifS; rw [e]
theorem ifS_t {t : BF} {g h : SF} {ρ : Rho} {c c1 : Cu} (e : t ρ c = some (true, c1)) : ifS t g h ρ c = g ρ c1 := by
  unfold ifS; rw [e]
theorem callB_ok {g : List PyData → Option PyData} {f : AF} {ρ : Rho} {c c1 : Cu} {ds : List PyData} {d : PyData} (e : f ρ c = some (ds, c1)) (e2 : g ds = some d) : callB g f ρ c = some (d, c1) := by
  unfold callB; rw [e]; dsimp only; rw [e2]
/-! ### the cup -/
theorem roll_spec {many : Int} {c : Cu} (h : 0 < many) (h2 : many < 1073741824) (hc : CupOk c) : ∃ k c', F__law_roll [.int many] c = some (.int k, c') ∧ 0 ≤ k ∧ k < many ∧ CupOk c' := by
  obtain ⟨x, y⟩ := c
  obtain ⟨hx, hy, hy2⟩ := hc
  by_cases h0 : 0 < x
  · refine ⟨x % many, (x / many, y), ?_, Int.emod_nonneg _ (by omega), Int.emod_lt_of_pos _ h, Int.ediv_nonneg hx (by omega), hy, hy2⟩
    simp [F__law_roll, g__law_roll, List.getElem?_set, -getElem?_pos, List.getElem?_cons_zero, List.getElem?_cons_succ, h0, h, h2]
  · have m1 : ∀ a b : Int, 0 < b → b < 4294967296 → CupOk (x, a % b) := fun a b hb hb2 => ⟨hx, Int.emod_nonneg _ (by omega), Int.lt_trans (Int.emod_lt_of_pos _ hb) hb2⟩
    have b1 : ∀ a b : Int, 0 < b → b < 4294967296 → mulOk (a % b) = fun _ => true := fun a b hb hb2 => by
      have q1 := Int.emod_nonneg a (show b ≠ 0 by omega)
      have q2 := Int.emod_lt_of_pos a hb
      funext z
      exact decide_eq_true (.inl ⟨by omega, by omega⟩)
    have b2 : mulOk y = fun _ => true := by
      funext z
      exact decide_eq_true (.inl ⟨by omega, by omega⟩)
    refine ⟨_, _, by (simp [F__law_roll, g__law_roll, List.getElem?_set, -getElem?_pos, List.getElem?_cons_zero, List.getElem?_cons_succ, h0, h, b1, b2]; exact ⟨rfl, rfl⟩), Int.emod_nonneg _ (by omega), Int.emod_lt_of_pos _ h, m1 _ _ (by decide) (by decide)⟩
theorem some_spec {ds : List PyData} {c : Cu} (h : ds ≠ []) (h2 : ds.length < 1073741824) (hc : CupOk c) : ∃ d c', F__law_some [.list ds] c = some (d, c') ∧ d ∈ ds ∧ CupOk c' := by
  have hl : 0 < ds.length := List.length_pos_iff.mpr h
  obtain ⟨k, c', e, k0, k1, hc'⟩ := roll_spec (many := ds.length) (by omega) (by omega) hc
  have hk : k.toNat < ds.length := by omega
  refine ⟨ds[k.toNat], c', ?_, List.getElem_mem hk, hc'⟩
  have e2 : atI ds k = some ds[k.toNat] := by rw [atI_pos k0, List.getElem?_eq_getElem hk]
  simp [F__law_some, g__law_some, List.getElem?_set, -getElem?_pos, List.getElem?_cons_zero, List.getElem?_cons_succ, e, e2]

/-! ### _law_same: told and due alike -/
theorem same_step (n : Nat) (a b : PyData) : F__law_same (n + 1) [a, b] = outD (g__law_same (F__law_same n) [.d a, .d b, .un] (0, 0)) := rfl
theorem same_non (n : Nat) : F__law_same (n + 1) [.none, .none] = some (.bool true) := by simp [F__law_same, g__law_same, List.getElem?_set, -getElem?_pos, List.getElem?_cons_zero, List.getElem?_cons_succ]
theorem same_bool (n : Nat) (b : Bool) : F__law_same (n + 1) [.bool b, .bool b] = some (.bool true) := by cases b <;> simp [F__law_same, g__law_same, List.getElem?_set, -getElem?_pos, List.getElem?_cons_zero, List.getElem?_cons_succ]
theorem same_int (n : Nat) (i : Int) : F__law_same (n + 1) [.int i, .int i] = some (.bool true) := by simp [F__law_same, g__law_same, List.getElem?_set, -getElem?_pos, List.getElem?_cons_zero, List.getElem?_cons_succ, sh_int, eqv_int]
theorem same_str (n : Nat) (x : Str) (h : PyData.canLay0 (.str x) = true) : F__law_same (n + 1) [.str x, .str x] = some (.bool true) := by simp [F__law_same, g__law_same, List.getElem?_set, -getElem?_pos, List.getElem?_cons_zero, List.getElem?_cons_succ, sh_str h, eqv_self _ h]
theorem same_empty {n k : Nat} {ds : List PyData} (ih : ∀ d ∈ ds, F__law_same (n + 1) [d, d] = some (.bool true)) {c : Cu} {ρ : Rho} {f : EF} {t : BF} (hk : k = ds.length)
    (ht : ∀ i : Nat, i < ds.length → t (ρ.set 2 (.d (.int (0 + (i : Nat))))) c = some (false, c)) : compL (nameG 2) t f (intsD 0 k) ρ c = some ([], c) := by
  subst hk
  have := compL_map (g := nameG 2) (t := t) (f := f) (ρ := ρ) (c := c) (fun k : Nat => PyData.int (0 + (k : Nat))) (fun _ => false) (fun _ => .none) (List.range ds.length) fun i hi => ⟨_, rfl, ht i (List.mem_range.mp hi), fun z => nomatch z⟩
  rw [List.filter_eq_nil_iff.mpr (fun _ _ => by simp)] at this
  exact this
theorem same_lst_empty {n : Nat} {ds : List PyData} (ih : ∀ d ∈ ds, F__law_same (n + 1) [d, d] = some (.bool true)) {i : Nat} (hi : i < ds.length) (c : Cu) : notB (tstB (callB (F__law_same (n + 1)) (consA (opE idxD (varE 0) (varE 2)) (consA (opE idxD (varE 1) (varE 2)) nilA)))) ([Sl.d (.list ds), .d (.list ds), .d (.int (0 + (i : Nat)))]) c = some (false, c) := by
  simp [List.getElem?_set, atI_of, ih, hi]
theorem same_lst {n : Nat} {ds : List PyData} (ih : ∀ d ∈ ds, F__law_same (n + 1) [d, d] = some (.bool true)) (hb : ds.length ≤ 1000000) : F__law_same (n + 2) [.list ds, .list ds] = some (.bool true) := by
  have e := fun c : Cu => same_empty (ρ := [Sl.d (.list ds), .d (.list ds), .un]) (f := cE (.int 1)) ih rfl (fun i hi => same_lst_empty ih hi c)
  have e0 : PyData.eqv (.list []) (.list []) = true := rfl
  have e1 : SeqAt.shaped (.list []) = true := by simp [SeqAt.shaped, PyData.canLay0, PyData.canLayAll0, PyData.depth, PyData.depthAll, sizeLine_eq]
  rw [same_step]
  simp [g__law_same, List.getElem?_set, -getElem?_pos, List.getElem?_cons_zero, List.getElem?_cons_succ, sh_int, sh_bool, eqv_int, eqv_self, PyData.canLay0, in62_cast (Nat.le_trans hb (by decide : 1000000 ≤ 1000000000000)), e, e0, e1]
theorem same_tup_empty {n : Nat} {ds : List PyData} (ih : ∀ d ∈ ds, F__law_same (n + 1) [d, d] = some (.bool true)) {i : Nat} (hi : i < ds.length) (c : Cu) : notB (tstB (callB (F__law_same (n + 1)) (consA (opE idxD (varE 0) (varE 2)) (consA (opE idxD (varE 1) (varE 2)) nilA)))) ([Sl.d (.tuple ds), .d (.tuple ds), .d (.int (0 + (i : Nat)))]) c = some (false, c) := by
  simp [List.getElem?_set, atI_of, ih, hi]
theorem same_tup {n : Nat} {ds : List PyData} (ih : ∀ d ∈ ds, F__law_same (n + 1) [d, d] = some (.bool true)) (hb : ds.length ≤ 1000000) : F__law_same (n + 2) [.tuple ds, .tuple ds] = some (.bool true) := by
  have e := fun c : Cu => same_empty (ρ := [Sl.d (.tuple ds), .d (.tuple ds), .un]) (f := cE (.int 1)) ih rfl (fun i hi => same_tup_empty ih hi c)
  have e0 : PyData.eqv (.list []) (.list []) = true := rfl
  have e1 : SeqAt.shaped (.list []) = true := by simp [SeqAt.shaped, PyData.canLay0, PyData.canLayAll0, PyData.depth, PyData.depthAll, sizeLine_eq]
  rw [same_step]
  simp [g__law_same, List.getElem?_set, -getElem?_pos, List.getElem?_cons_zero, List.getElem?_cons_succ, sh_int, sh_bool, eqv_int, eqv_self, PyData.canLay0, in62_cast (Nat.le_trans hb (by decide : 1000000 ≤ 1000000000000)), e, e0, e1]
theorem same_true : ∀ (n : Nat) (d : PyData), Pl n d → F__law_same (n + 1) [d, d] = some (.bool true) := by
  intro n
  induction n with
  | zero =>
    intro d h
    cases d with
    | none => exact same_non _
    | bool b => exact same_bool _ b
    | int i => exact same_int _ i
    | str x => exact same_str _ x h.1
    | list _ => exact h.elim
    | tuple _ => exact h.elim
    | dict _ => exact h.elim
  | succ n IH =>
    intro d h
    cases d with
    | none => exact same_non _
    | bool b => exact same_bool _ b
    | int i => exact same_int _ i
    | str x => exact same_str _ x h.1
    | dict _ => exact h.elim
    | list ds => exact same_lst (fun d hd => IH d (h.2 d hd)) h.1
    | tuple ds => exact same_tup (fun d hd => IH d (h.2 d hd)) h.1

/-! ### whole numbers within bounds -/
def isW : PyData → Bool
  | .int _ => true
  | _ => false
def fitsW (d : PyData) (lo hi : Int) : Bool := match d with
  | .int i => decide (lo ≤ i) && decide (i ≤ hi)
  | _ => false
theorem is_whole_v (d : PyData) : F_is_whole [d] = some (.bool (isW d)) := by
  cases d <;> simp [F_is_whole, g_is_whole, isW, List.getElem?_set, -getElem?_pos, List.getElem?_cons_zero, List.getElem?_cons_succ]
theorem fits_whole_v (d : PyData) (lo hi : Int) : F_fits_whole [d, .int lo, .int hi] = some (.bool (fitsW d lo hi)) := by
  cases d with
  | int i => by_cases h1 : lo ≤ i <;> by_cases h2 : i ≤ hi <;> simp [F_fits_whole, g_fits_whole, is_whole_v, isW, fitsW, List.getElem?_set, -getElem?_pos, List.getElem?_cons_zero, List.getElem?_cons_succ, h1, h2]
  | _ => simp [F_fits_whole, g_fits_whole, is_whole_v, isW, fitsW, List.getElem?_set, -getElem?_pos, List.getElem?_cons_zero, List.getElem?_cons_succ]
def tupN (d : PyData) (lo hi : Int) : Bool := match d with
  | .tuple ds => decide (lo ≤ ds.length) && decide ((ds.length : Int) ≤ hi)
  | _ => false
theorem is_tuple_of_v (d : PyData) (lo hi : Int) : F_is_tuple_of [d, .int lo, .int hi] = some (.bool (tupN d lo hi)) := by
  cases d with
  | tuple ds => by_cases h1 : lo ≤ ds.length <;> by_cases h2 : (ds.length : Int) ≤ hi <;> simp [F_is_tuple_of, g_is_tuple_of, tupN, List.getElem?_set, -getElem?_pos, List.getElem?_cons_zero, List.getElem?_cons_succ, h1, h2]
  | _ => simp [F_is_tuple_of, g_is_tuple_of, tupN, List.getElem?_set, -getElem?_pos, List.getElem?_cons_zero, List.getElem?_cons_succ]

/-! ### numbers a step apart -/
theorem em_shift {a d s : Int} (h : a % s = 0) (h0 : 0 < d) (h1 : d < s) : (a + d) % s ≠ 0 := by
  rw [Int.add_emod, h, Int.zero_add, Int.emod_emod_of_dvd _ (Int.dvd_refl s), Int.emod_eq_of_lt (by omega) h1]
  omega
theorem em_add {a s : Int} (h : a % s = 0) : (a + s) % s = 0 := by rw [Int.add_emod_right]; exact h
theorem em_sub {a s : Int} (h : a % s = 0) : (a - s) % s = 0 := by rw [Int.sub_emod_right]; exact h
def mk (m s lo : Int) (n : Nat) : List Int := ((List.range n).map fun k : Nat => lo + (k : Int)).filter fun t => decide ((t - m) % s = 0)
theorem mk_succ (m s lo : Int) (n : Nat) : mk m s lo (n + 1) = mk m s lo n ++ (if (lo + n - m) % s = 0 then [lo + (n : Int)] else []) := by
  unfold mk
  rw [List.range_succ, List.map_append, List.filter_append]
  congr 1
  by_cases h : (lo + n - m) % s = 0 <;> simp [h]
theorem mk_skip {m s lo : Int} {n : Nat} : ∀ j : Nat, (∀ i : Nat, n ≤ i → i < n + j → (lo + i - m) % s ≠ 0) → mk m s lo (n + j) = mk m s lo n
  | 0, _ => rfl
  | j + 1, h => by
    rw [← Nat.add_assoc, mk_succ, if_neg (h (n + j) (by omega) (by omega)), List.append_nil]
    exact mk_skip j fun i h1 h2 => h i h1 (by omega)
theorem mk_len (m s lo : Int) (n : Nat) : (mk m s lo n).length ≤ n := by
  have := List.length_filter_le (fun t => decide ((t - m) % s = 0)) ((List.range n).map fun k : Nat => lo + (k : Int))
  rw [List.length_map, List.length_range] at this
  exact this
theorem mk_mem {m s lo x : Int} {n : Nat} : x ∈ mk m s lo n ↔ lo ≤ x ∧ x < lo + n ∧ (x - m) % s = 0 := by
  unfold mk
  rw [List.mem_filter, List.mem_map]
  constructor
  · rintro ⟨⟨k, hk, rfl⟩, h⟩
    rw [List.mem_range] at hk
    exact ⟨by omega, by omega, of_decide_eq_true h⟩
  · rintro ⟨h1, h2, h3⟩
    exact ⟨⟨(x - lo).toNat, List.mem_range.mpr (by omega), by omega⟩, decide_eq_true h3⟩
theorem mk_rise (m s lo : Int) (n : Nat) : (mk m s lo n).Pairwise (· < ·) := by
  unfold mk
  refine List.Pairwise.filter _ ?_
  rw [List.pairwise_map]
  exact List.pairwise_lt_range.imp fun h => by omega
theorem div_step {x s : Int} (h : 0 < s) : x / s - (x - 1) / s = if x % s = 0 then 1 else 0 := by
  have e := Int.mul_ediv_add_emod x s
  generalize x / s = q at e ⊢
  have r0 := Int.emod_nonneg x (show s ≠ 0 by omega)
  have r1 := Int.emod_lt_of_pos x h
  generalize x % s = r at e r0 r1 ⊢
  subst e
  by_cases hr : r = 0
  · subst hr
    rw [if_pos rfl]
    have : s * q + 0 - 1 = (s - 1) + s * (q - 1) := by rw [Int.mul_sub]; omega
    rw [this, Int.add_mul_ediv_left _ _ (by omega), Int.ediv_eq_zero_of_lt (by omega) (by omega)]
    omega
  · rw [if_neg hr]
    have : s * q + r - 1 = (r - 1) + s * q := by omega
    rw [this, Int.add_mul_ediv_left _ _ (by omega), Int.ediv_eq_zero_of_lt (by omega) (by omega)]
    omega
theorem mk_count {m s lo : Int} (h : 0 < s) : ∀ n : Nat, ((mk m s lo n).length : Int) = (lo + n - 1 - m) / s - (lo - 1 - m) / s
  | 0 => by
    have : lo + ((0 : Nat) : Int) - 1 - m = lo - 1 - m := by omega
    rw [this]
    simp [mk]
  | n + 1 => by
    rw [mk_succ, List.length_append]
    have ih := mk_count (m := m) (lo := lo) h n
    have d := div_step (x := lo + n - m) h
    have e1 : lo + n - m - 1 = lo + n - 1 - m := by omega
    have e2 : lo + ((n + 1 : Nat) : Int) - 1 - m = lo + n - m := by omega
    rw [e1] at d
    rw [e2]
    by_cases q : (lo + n - m) % s = 0
    · rw [if_pos q] at d ⊢
      simp only [List.length_singleton]
      omega
    · rw [if_neg q] at d ⊢
      simp only [List.length_nil]
      omega
/-- the first number of the row at or past lo -/
theorem first_mark {m s lo : Int} : (lo + (m - lo) % s - m) % s = 0 := by
  have e := Int.mul_ediv_add_emod (m - lo) s
  have : lo + (m - lo) % s - m = s * (-((m - lo) / s)) := by rw [Int.mul_neg]; omega
  rw [this]
  exact Int.mul_emod_right _ _
theorem mk_first {m s lo : Int} {n : Nat} (h : 0 < s) (hn : (n : Int) ≤ (m - lo) % s) : mk m s lo n = [] := by
  have := mk_skip (m := m) (s := s) (lo := lo) (n := 0) n fun i _ h2 => by
    have r1 := Int.emod_lt_of_pos (m - lo) h
    have f := em_sub (first_mark (m := m) (s := s) (lo := lo))
    have := em_shift (d := s - ((m - lo) % s - i)) f (by omega) (by omega)
    rw [show lo + (m - lo) % s - m - s + (s - ((m - lo) % s - i)) = lo + i - m by omega] at this
    exact this
  rw [Nat.zero_add] at this
  rw [this]
  rfl

/-! ### strips -/
def fitsStrip (d : PyData) : Bool := match d with
  | .tuple [a, b] => fitsW a (-1000) 1000 && fitsW b 1 60
  | _ => false
theorem fits_strip_v (d : PyData) : F_fits_strip [d] = some (.bool (fitsStrip d)) := by
  match d with
  | .none | .bool _ | .int _ | .str _ | .list _ | .dict _ => simp [F_fits_strip, g_fits_strip, is_tuple_of_v, tupN, fitsStrip, List.getElem?_set, -getElem?_pos, List.getElem?_cons_zero, List.getElem?_cons_succ]
  | .tuple [] => simp [F_fits_strip, g_fits_strip, is_tuple_of_v, tupN, fitsStrip, List.getElem?_set, -getElem?_pos, List.getElem?_cons_zero, List.getElem?_cons_succ]
  | .tuple [a] => simp [F_fits_strip, g_fits_strip, is_tuple_of_v, tupN, fitsStrip, List.getElem?_set, -getElem?_pos, List.getElem?_cons_zero, List.getElem?_cons_succ]
  | .tuple [a, b] => cases h : fitsW a (-1000) 1000 <;> simp [F_fits_strip, g_fits_strip, is_tuple_of_v, fits_whole_v, tupN, fitsStrip, List.getElem?_set, -getElem?_pos, List.getElem?_cons_zero, List.getElem?_cons_succ, atI_0, atI_1, h]
  | .tuple (a :: b :: c :: r) =>
    have : ¬ ((r.length : Int) + 1 + 1 + 1 ≤ 2) := by omega
    simp [F_fits_strip, g_fits_strip, is_tuple_of_v, tupN, fitsStrip, List.getElem?_set, -getElem?_pos, List.getElem?_cons_zero, List.getElem?_cons_succ, this]
abbrev St (m s : Int) : PyData := .tuple [.int m, .int s]
structure IsSt (m s : Int) : Prop where
  a : -1000 ≤ m
  b : m ≤ 1000
  c : 1 ≤ s
  d : s ≤ 60
section
variable {m s : Int}
theorem IsSt.fits (h : IsSt m s) : fitsStrip (St m s) = true := by
  have := h.a; have := h.b; have := h.c; have := h.d
  simp [fitsStrip, fitsW, *]
theorem need_strip_v (h : IsSt m s) : F_need_strip [St m s] = some .none := by
  simp [F_need_strip, g_need_strip, fits_strip_v, h.fits, List.getElem?_set, -getElem?_pos, List.getElem?_cons_zero, List.getElem?_cons_succ]
theorem need_two_v {m2 s2 : Int} (h : IsSt m s) (h2 : IsSt m2 s2) : F_need_two [St m s, St m2 s2] = some .none := by
  simp [F_need_two, g_need_two, need_strip_v h, need_strip_v h2, List.getElem?_set, -getElem?_pos, List.getElem?_cons_zero, List.getElem?_cons_succ]
theorem has_mark_p {t : Int} (h : 0 < s) : F_has_mark [St m s, .int t] = some (.bool (decide ((t - m) % s = 0))) := by
  simp [F_has_mark, g_has_mark, List.getElem?_set, -getElem?_pos, List.getElem?_cons_zero, List.getElem?_cons_succ, atI_0, atI_1, sh_int, eqv_int, h]
theorem has_mark_v {t : Int} (h : IsSt m s) : F_has_mark [St m s, .int t] = some (.bool (decide ((t - m) % s = 0))) := by
  have := h.c
  simp [F_has_mark, g_has_mark, List.getElem?_set, -getElem?_pos, List.getElem?_cons_zero, List.getElem?_cons_succ, atI_0, atI_1, sh_int, eqv_int, show 0 < s by omega]
theorem st_sh (m s : Int) : SeqAt.shaped (St m s) = true := pl_sh (n := 1) (pl_ints 0 (ns := [m, s]) (by simp)).1 (by decide)
theorem marks_comp (h : IsSt m s) (lo : Int) (n : Nat) {i : Nat} {ρ : Rho} {c : Cu} {t : BF} (ht : ∀ k : Nat, t (ρ.set i (.d (.int (lo + (k : Int))))) c = some (decide ((lo + k - m) % s = 0), c)) {f : EF} (hf : ∀ k : Nat, f (ρ.set i (.d (.int (lo + (k : Int))))) c = some (.int (lo + (k : Int)), c)) :
    compL (nameG i) t f (intsD lo n) ρ c = some ((mk m s lo n).map .int, c) := by
  have := compL_map (g := nameG i) (t := t) (f := f) (ρ := ρ) (c := c) (fun k : Nat => PyData.int (lo + (k : Nat))) (fun k => decide ((lo + k - m) % s = 0)) (fun k : Nat => .int (lo + (k : Int))) (List.range n) fun k _ => ⟨_, rfl, ht k, fun _ => hf k⟩
  unfold intsD
  rw [this]
  unfold mk
  rw [List.filter_map, List.map_map]
  rfl
end

section
variable {m s : Int}
theorem need_spot_v {t : Int} (h : -1000 ≤ t) (h2 : t ≤ 1000) : F_need_spot [.int t] = some .none := by
  simp [F_need_spot, g_need_spot, fits_whole_v, fitsW, List.getElem?_set, -getElem?_pos, List.getElem?_cons_zero, List.getElem?_cons_succ, h, h2]
theorem need_range_v {lo hi : Int} (h : -1000 ≤ lo) (h2 : hi ≤ 1000) (h3 : lo ≤ hi) (h4 : hi - lo ≤ 400) : F_need_range [.int lo, .int hi] = some .none := by
  have a : ¬ hi < lo := by omega
  have b : ¬ 400 < hi - lo := by omega
  simp [F_need_range, g_need_range, need_spot_v h (show lo ≤ 1000 by omega), need_spot_v (show -1000 ≤ hi by omega) h2, List.getElem?_set, -getElem?_pos, List.getElem?_cons_zero, List.getElem?_cons_succ, a, b]
theorem homed_v (h : IsSt m s) : F_homed [St m s] = some (St (m % s) s) := by
  have := h.c
  simp [F_homed, g_homed, List.getElem?_set, -getElem?_pos, List.getElem?_cons_zero, List.getElem?_cons_succ, atI_0, atI_1, show 0 < s by omega, sizeLine_eq]
theorem marks_in_v {lo hi : Int} (h : IsSt m s) (h1 : -1000 ≤ lo) (h2 : hi ≤ 1000) (h3 : lo ≤ hi) (h4 : hi - lo ≤ 400) : F_marks_in [St m s, .int lo, .int hi] = some (.tuple ((mk m s lo (hi + 1 - lo).toNat).map .int)) := by
  have hl : (mk m s lo (hi + 1 - lo).toNat).length ≤ 16777216 := Nat.le_trans (mk_len ..) (by omega)
  have e := fun c : Cu => marks_comp h lo (hi + 1 - lo).toNat (i := 3) (ρ := [.d (St m s), .d (.int lo), .d (.int hi), .un]) (c := c) (t := tstB (callB F_has_mark (consA (varE 0) (consA (varE 3) nilA)))) (f := varE 3) (fun k => by simp [List.getElem?_set, -getElem?_pos, List.getElem?_cons_zero, List.getElem?_cons_succ, has_mark_v h]) (fun k => by simp [List.getElem?_set, -getElem?_pos, List.getElem?_cons_zero, List.getElem?_cons_succ])
  simp [F_marks_in, g_marks_in, need_strip_v h, need_range_v h1 h2 h3 h4, List.getElem?_set, -getElem?_pos, List.getElem?_cons_zero, List.getElem?_cons_succ, in62_of (i := lo) (by omega) (by omega), in62_of (i := hi + 1) (by omega) (by omega), e, sizeLine_eq, hl]
end

section
variable {m s : Int}
/-! ### the law's own strips and marks -/
theorem law_strip_v {most : Int} (h : 1 ≤ most) (h2 : most ≤ 60) {c : Cu} (hc : CupOk c) : ∃ m s c', F__law_strip [.int most] c = some (St m s, c') ∧ IsSt m s ∧ CupOk c' := by
  obtain ⟨a, c1, e1, a0, a1, k1⟩ := roll_spec (many := 30) (by decide) (by decide) hc
  obtain ⟨b, c2, e2, b0, b1, k2⟩ := roll_spec (many := 2001) (by decide) (by decide) k1
  obtain ⟨d, c3, e3, d1, k3⟩ := some_spec (ds := [.int (a - 10), .int (b - 1000)]) (by simp) (by simp) k2
  obtain ⟨y, c4, e4, y0, y1, k4⟩ := roll_spec (many := most) (by omega) (by omega) k3
  have hd : ∃ m : Int, d = .int m ∧ -1000 ≤ m ∧ m ≤ 1000 := by
    simp only [List.mem_cons, List.not_mem_nil, or_false] at d1
    rcases d1 with rfl | rfl
    · exact ⟨_, rfl, by omega, by omega⟩
    · exact ⟨_, rfl, by omega, by omega⟩
  obtain ⟨m, rfl, m0, m1⟩ := hd
  exact ⟨m, 1 + y, c4, by simp [F__law_strip, g__law_strip, List.getElem?_set, -getElem?_pos, List.getElem?_cons_zero, List.getElem?_cons_succ, e1, e2, e3, e4, sizeLine_eq], ⟨m0, m1, by omega, by omega⟩, k4⟩
theorem law_marks_v {lo hi : Int} (h : 0 < s) (h3 : lo ≤ hi + 1) (h4 : hi - lo ≤ 10000) : F__law_marks [St m s, .int lo, .int hi] = some (.list ((mk m s lo (hi + 1 - lo).toNat).map .int)) := by
  generalize hN : (hi + 1 - lo).toNat = N
  have r0 := Int.emod_nonneg (m - lo) (show s ≠ 0 by omega)
  let I : Rho → Cu → Prop := fun ρ c => c = (0, 0) ∧ ∃ q : Nat, (lo + q - m) % s = 0 ∧ ρ = [.d (St m s), .d (.int lo), .d (.int hi), .d (.int (lo + q)), .d (.list ((mk m s lo (min q N)).map .int))]
  obtain ⟨ρ', c', hw, c0, hE⟩ := whileL_rule (t := tstB (opE leD (varE 3) (varE 2))) (b := parS [4, 3] (keepX (opE addD (varE 4) (lstE (consA (varE 3) nilA))) (keepX (opE addD (varE 3) (opE idxD (varE 0) (cE (.int 1)))) nilX))) I
    (fun ρ c => match (ρ[3]? : Option Sl) with | some (Sl.d (PyData.int p)) => (hi + 1 - p).toNat | _ => 0)
    (fun ρ c => c = (0, 0) ∧ ∃ x, ρ = [.d (St m s), .d (.int lo), .d (.int hi), .d x, .d (.list ((mk m s lo N).map .int))]) (by
      rintro ρ c ⟨rfl, q, hq, rfl⟩
      by_cases hp : lo + (q : Int) ≤ hi
      · refine .inr ⟨(0, 0), [.d (St m s), .d (.int lo), .d (.int hi), .d (.int (lo + (q : Int) + s)), .d (.list ((mk m s lo (min q N)).map .int ++ [.int (lo + (q : Int))]))], (0, 0), by simp [List.getElem?_set, -getElem?_pos, List.getElem?_cons_zero, List.getElem?_cons_succ, hp], ?_, ⟨rfl, (q + s).toNat, ?_, ?_⟩, ?_⟩
        · have hl : (mk m s lo (min q N)).length + 1 ≤ 16777216 := by
            have := mk_len m s lo (min q N)
            omega
          simp [List.getElem?_set, -getElem?_pos, List.getElem?_cons_zero, List.getElem?_cons_succ, atI_1, sizeLine_eq, hl]
        · rw [show lo + (((q : Int) + s).toNat : Int) - m = lo + q - m + s by omega]
          exact em_add hq
        · have e1 : min q N = q := by omega
          have e2 : mk m s lo (min (q + s).toNat N) = mk m s lo (q + 1) := by
            have := mk_skip (m := m) (s := s) (lo := lo) (n := q + 1) (min (q + s).toNat N - (q + 1)) fun i i1 i2 => by
              have := em_shift (d := (i : Int) - q) hq (by omega) (by omega)
              rwa [show lo + (q : Int) - m + ((i : Int) - q) = lo + i - m by omega] at this
            rwa [show q + 1 + (min (q + s).toNat N - (q + 1)) = min (q + s).toNat N by omega] at this
          rw [e2, e1, mk_succ, if_pos hq, List.map_append, show lo + (((q : Int) + s).toNat : Int) = lo + q + s by omega]
          rfl
        · simp only [List.getElem?_cons_succ, List.getElem?_cons_zero]
          omega
      · refine .inl ⟨(0, 0), by simp [List.getElem?_set, -getElem?_pos, List.getElem?_cons_zero, List.getElem?_cons_succ, hp], rfl, .int (lo + q), ?_⟩
        rw [show min q N = N by omega]) 100000 [.d (St m s), .d (.int lo), .d (.int hi), .d (.int (lo + (m - lo) % s)), .d (.list [])] (0, 0)
    ⟨rfl, ((m - lo) % s).toNat, by rw [show lo + (((m - lo) % s).toNat : Int) = lo + (m - lo) % s by omega]; exact first_mark, by
      rw [mk_first h (by omega), show lo + (((m - lo) % s).toNat : Int) = lo + (m - lo) % s by omega]
      rfl⟩ (by simp only [List.getElem?_cons_succ, List.getElem?_cons_zero]; omega)
  obtain ⟨x, rfl⟩ := hE
  subst c0
  simp [F__law_marks, g__law_marks, List.getElem?_set, -getElem?_pos, List.getElem?_cons_zero, List.getElem?_cons_succ, atI_0, atI_1, h, sizeLine_eq, hw]
end

theorem some_ints {ns : List Int} {c : Cu} (h : ns ≠ []) (h2 : ns.length < 1073741824) (hc : CupOk c) : ∃ i c', F__law_some [.list (ns.map .int)] c = some (.int i, c') ∧ i ∈ ns ∧ CupOk c' := by
  obtain ⟨d, c', e, hd, k⟩ := some_spec (ds := ns.map .int) (by simpa using h) (by simpa using h2) hc
  obtain ⟨i, hi, rfl⟩ := List.mem_map.mp hd
  exact ⟨i, c', e, hi, k⟩
structure St5 (ρ : Rho) : Prop where
  len : ρ.length = law0.length
  cup : ρ[1]? = some .cup
theorem St5.set {ρ : Rho} (h : St5 ρ) {i : Nat} {x : Sl} (hi : i ≠ 1) : St5 (ρ.set i x) := ⟨by rw [List.length_set]; exact h.len, by rw [List.getElem?_set_ne hi]; exact h.cup⟩
theorem pl_pair {n : Nat} {a b : PyData} (ha : Pl n a) (hb : Pl n b) : Pl (n + 1) (.tuple [a, b]) := ⟨by simp, by simp [ha, hb]⟩

end PL

set_option Elab.async false
set_option linter.all false
set_option maxRecDepth 100000
set_option maxHeartbeats 4000000
namespace PL
open PySem PySem.Spec PyProof.Rows L2 RZ
/-! ### divisors and multiples -/
theorem bez : ∀ a b : Nat, ∃ u v : Int, ((Nat.gcd a b : Nat) : Int) = a * u + b * v := by
  intro a b
  induction a, b using Nat.gcd.induction with
  | H0 n => exact ⟨0, 1, by simp⟩
  | H1 m n _ ih =>
    obtain ⟨u, v, e⟩ := ih
    refine ⟨v - (n / m : Nat) * u, u, ?_⟩
    rw [Nat.gcd_rec, e]
    have h : (n : Int) = (m : Int) * ((n / m : Nat) : Int) + ((n % m : Nat) : Int) := by
      have := Nat.div_add_mod n m
      exact_mod_cast this.symm
    have h2 : ((n % m : Nat) : Int) = (n : Int) - (m : Int) * ((n / m : Nat) : Int) := by omega
    rw [h2, Int.sub_mul, Int.mul_sub, Int.mul_assoc]
    omega
/-- a number k steps of a past x that lies on the row of y by steps of b -/
theorem crt {a b : Nat} (hb : 0 < b) {x y : Int} (h : (y - x) % (Nat.gcd a b : Nat) = 0) : ∃ k : Nat, k < b ∧ (x + k * a - y) % b = 0 := by
  obtain ⟨u, v, e⟩ := bez a b
  obtain ⟨q, hq⟩ := Int.dvd_of_emod_eq_zero h
  have hb' : (0 : Int) < b := by omega
  refine ⟨((u * q) % b).toNat, ?_, ?_⟩
  · have := Int.emod_lt_of_pos (u * q) hb'
    have := Int.emod_nonneg (u * q) (show (b : Int) ≠ 0 by omega)
    omega
  · have n0 := Int.emod_nonneg (u * q) (show (b : Int) ≠ 0 by omega)
    rw [Int.toNat_of_nonneg n0, Int.emod_def (u * q) b]
    have : x + (u * q - b * (u * q / b)) * a - y = b * (-(v * q) - (u * q / b) * a) := by
      have e2 : y - x = (a * u + b * v) * q := by rw [← e]; exact hq
      have e3 : (a * u + b * v) * q = u * q * a + b * (v * q) := by
        rw [Int.add_mul, Int.mul_comm (a : Int) u, Int.mul_right_comm u, Int.mul_assoc (b : Int)]
      rw [Int.sub_mul, Int.mul_sub, Int.mul_neg, Int.mul_assoc (b : Int)]
      omega
    rw [this]
    exact Int.mul_emod_right _ _
theorem lcm_eq {a b : Nat} : a / Nat.gcd a b * b = Nat.lcm a b := by
  rw [Nat.lcm]
  rcases Nat.eq_zero_or_pos (Nat.gcd a b) with h | h
  · rw [h, Nat.div_zero, Nat.div_zero, Nat.zero_mul]
  · obtain ⟨q, hq⟩ := Nat.gcd_dvd_left a b
    have e : a / Nat.gcd a b = q := Nat.div_eq_of_eq_mul_right h hq
    refine (Nat.div_eq_of_eq_mul_right h ?_).symm
    rw [e, ← Nat.mul_assoc, ← hq]
theorem divisor_v : ∀ (n a b : Nat), b ≤ n → n ≤ 90000 → F_divisor_in [.int a, .int b] = some (.int (Nat.gcd a b : Nat)) := by
  intro n a b hb hn
  obtain ⟨ρ', c', hw, c0, hE⟩ := whileL_rule (t := tstB (opE gtD (varE 1) (cE (.int 0)))) (b := parS [0, 1] (keepX (varE 1) (keepX (opE modD (varE 0) (varE 1)) nilX)))
    (fun ρ c => c = (0, 0) ∧ ∃ x y : Nat, Nat.gcd x y = Nat.gcd a b ∧ ρ = [.d (.int x), .d (.int y)])
    (fun ρ c => match (ρ[1]? : Option Sl) with | some (Sl.d (PyData.int p)) => p.toNat | _ => 0)
    (fun ρ c => c = (0, 0) ∧ ∃ y : Int, ρ = [.d (.int (Nat.gcd a b : Nat)), .d (.int y)]) (by
      rintro ρ c ⟨rfl, x, y, g, rfl⟩
      by_cases hy : 0 < y
      · have hy' : (0 : Int) < (y : Int) := by omega
        refine .inr ⟨(0, 0), [.d (.int y), .d (.int ((x : Int) % (y : Int)))], (0, 0), by simp [List.getElem?_set, -getElem?_pos, List.getElem?_cons_zero, List.getElem?_cons_succ, hy], by simp [List.getElem?_set, -getElem?_pos, List.getElem?_cons_zero, List.getElem?_cons_succ, hy], ⟨rfl, y, x % y, ?_, ?_⟩, ?_⟩
        · rw [← g, Nat.gcd_comm y, ← Nat.gcd_rec, Nat.gcd_comm]
        · rw [Int.natCast_emod]
        · simp only [List.getElem?_cons_succ, List.getElem?_cons_zero]
          have := Nat.mod_lt x hy
          omega
      · have : y = 0 := by omega
        subst this
        refine .inl ⟨(0, 0), by simp [List.getElem?_set, -getElem?_pos, List.getElem?_cons_zero, List.getElem?_cons_succ], rfl, 0, ?_⟩
        rw [← g, Nat.gcd_zero_right]
        rfl) 100000 [.d (.int a), .d (.int b)] (0, 0) ⟨rfl, a, b, rfl, rfl⟩ (by simp only [List.getElem?_cons_succ, List.getElem?_cons_zero]; omega)
  obtain ⟨y, rfl⟩ := hE
  subst c0
  simp [F_divisor_in, g_divisor_in, List.getElem?_set, -getElem?_pos, List.getElem?_cons_zero, List.getElem?_cons_succ, hw]
theorem multiple_v {a b : Nat} (h : 1 ≤ a) (h2 : a ≤ 100000) (h3 : b ≤ 90000) : F_multiple_in [.int a, .int b] = some (.int (Nat.lcm a b : Nat)) := by
  have e := divisor_v b a b (Nat.le_refl _) h3
  have g0 : 0 < Nat.gcd a b := Nat.gcd_pos_of_pos_left _ h
  have g1 : Nat.gcd a b ≤ a := Nat.gcd_le_left _ h
  have m : mulOk ((a : Int) / (Nat.gcd a b : Nat)) (b : Int) = true := decide_eq_true (.inr ⟨by omega, by omega⟩)
  have l : (a : Int) / (Nat.gcd a b : Nat) * (b : Int) = (Nat.lcm a b : Nat) := by rw [← lcm_eq]; simp
  have g2 : ((Nat.gcd a b : Nat) : Int) < 1073741824 := by omega
  simp [F_multiple_in, g_multiple_in, List.getElem?_set, -getElem?_pos, List.getElem?_cons_zero, List.getElem?_cons_succ, e, g0, g2, m, l]
theorem law_multiple_v {a b : Nat} (h : 1 ≤ a) (h2 : a ≤ 5000) (h3 : 1 ≤ b) (h4 : b ≤ 60) : F__law_multiple [.int a, .int b] = some (.int (Nat.lcm a b : Nat)) := by
  have hl := Nat.lcm_pos h h3
  have hle : Nat.lcm a b ≤ a * b := Nat.le_of_dvd (Nat.mul_pos h h3) (Nat.lcm_dvd (Nat.dvd_mul_right _ _) (Nat.dvd_mul_left _ _))
  have hab : a * b ≤ 300000 := Nat.le_trans (Nat.mul_le_mul h2 h4) (by decide)
  obtain ⟨q, hq⟩ := Nat.dvd_lcm_left a b
  have hq0 : 0 < q := Nat.pos_of_ne_zero fun z => by rw [z] at hq; omega
  have hqb : q ≤ b := by
    have : a * q ≤ a * b := by rw [← hq]; exact hle
    exact Nat.le_of_mul_le_mul_left this h
  have meas : ∀ {j : Nat}, j ≤ q → (((a * q : Nat) : Int) - ((a * j : Nat) : Int)).toNat / a = q - j := fun {j} hj => by
    have : (((a * q : Nat) : Int) - ((a * j : Nat) : Int)).toNat = a * (q - j) := by
      have := Nat.mul_le_mul_left a hj
      rw [Nat.mul_sub]
      omega
    rw [this, Nat.mul_div_cancel_left _ h]
  obtain ⟨ρ', c', hw, c0, hE⟩ := whileL_rule (t := tstB (opE gtD (opE modD (callB intD (consA (varE 2) nilA)) (varE 1)) (cE (.int 0)))) (b := asgS (opE addD (varE 2) (varE 0)) (nameG 2))
    (fun ρ c => c = (0, 0) ∧ ∃ k : Nat, 1 ≤ k ∧ k ≤ q ∧ ρ = [.d (.int a), .d (.int b), .d (.int ((a * k : Nat) : Int))])
    (fun ρ c => match (ρ[2]? : Option Sl) with | some (Sl.d (PyData.int p)) => (((a * q : Nat) : Int) - p).toNat / a | _ => 0)
    (fun ρ c => c = (0, 0) ∧ ρ = [.d (.int a), .d (.int b), .d (.int (Nat.lcm a b : Nat))]) (by
      rintro ρ c ⟨rfl, k, k1, k2, rfl⟩
      have hb0 : (0 : Int) < b := by omega
      by_cases hz : (a * k) % b = 0
      · have hz' : ((a * k : Nat) : Int) % (b : Int) = 0 := by rw [← Int.natCast_emod, hz]; rfl
        have d1 : Nat.lcm a b ∣ a * k := Nat.lcm_dvd (Nat.dvd_mul_right _ _) (Nat.dvd_of_mod_eq_zero hz)
        have d2 : Nat.lcm a b ≤ a * k := Nat.le_of_dvd (Nat.mul_pos h k1) d1
        have d3 : a * k ≤ a * q := Nat.mul_le_mul_left a k2
        have d4 : a * k = Nat.lcm a b := by rw [← hq] at d3; omega
        refine .inl ⟨(0, 0), ?_, rfl, ?_⟩
        · simp [List.getElem?_set, -getElem?_pos, List.getElem?_cons_zero, List.getElem?_cons_succ, show 0 < b from h3, hz', -Int.natCast_mul]
        · rw [d4]
      · have hk : k < q := by
          rcases Nat.lt_or_ge k q with z | z
          · exact z
          · have : k = q := by omega
            subst this
            rw [← hq] at hz
            exact absurd (Nat.mod_eq_zero_of_dvd (Nat.dvd_lcm_right a b)) hz
        have hz' : (0 : Int) < ((a * k : Nat) : Int) % (b : Int) := by rw [← Int.natCast_emod]; omega
        have d3 : a * (k + 1) ≤ a * q := Nat.mul_le_mul_left a hk
        rw [Nat.mul_succ] at d3
        refine .inr ⟨(0, 0), [.d (.int a), .d (.int b), .d (.int (((a * k : Nat) : Int) + a))], (0, 0), ?_, by simp [List.getElem?_set, -getElem?_pos, List.getElem?_cons_zero, List.getElem?_cons_succ, -Int.natCast_mul], ⟨rfl, k + 1, by omega, hk, ?_⟩, ?_⟩
        · simp [List.getElem?_set, -getElem?_pos, List.getElem?_cons_zero, List.getElem?_cons_succ, show 0 < b from h3, hz', -Int.natCast_mul]
        · rw [Nat.mul_succ, Int.natCast_add]
        · simp only [List.getElem?_cons_succ, List.getElem?_cons_zero]
          rw [show ((a * k : Nat) : Int) + a = ((a * (k + 1) : Nat) : Int) by rw [Nat.mul_succ, Int.natCast_add], meas (by omega), meas k2]
          omega) 100000 [.d (.int a), .d (.int b), .d (.int a)] (0, 0) ⟨rfl, 1, Nat.le_refl _, hq0, by rw [Nat.mul_one]⟩ (by
            simp only [List.getElem?_cons_succ, List.getElem?_cons_zero]
            have := meas hq0
            rw [Nat.mul_one] at this
            rw [this]
            omega)
  subst hE
  subst c0
  simp [F__law_multiple, g__law_multiple, List.getElem?_set, -getElem?_pos, List.getElem?_cons_zero, List.getElem?_cons_succ, hw]

/-! ### rows and what two rows share -/
theorem forL_ret {g : GF} {b : SF} {c : Cu} (I : Rho → Prop) (stop : PyData → Bool) (val : PyData → PyData) : ∀ (items : List PyData) (ρ : Rho),
    (∀ d ∈ items, ∀ ρ, I ρ → stop d = false → ∃ ρ1 ρ', g d ρ = some ρ1 ∧ b ρ1 c = .nx ρ' c ∧ I ρ') → (∀ d ∈ items, ∀ ρ, I ρ → stop d = true → ∃ ρ1, g d ρ = some ρ1 ∧ b ρ1 c = .rt (val d) c) → I ρ →
    (∃ d ∈ items, stop d = true ∧ forL g b items ρ c = .rt (val d) c) ∨ ((∀ d ∈ items, stop d = false) ∧ ∃ ρ', forL g b items ρ c = .nx ρ' c ∧ I ρ')
  | [], ρ, _, _, h => .inr ⟨fun _ h => (nomatch h), ρ, rfl, h⟩
  | d :: r, ρ, h0, h1, h => by
    cases q : stop d with
    | true =>
      obtain ⟨ρ1, e1, e2⟩ := h1 d List.mem_cons_self ρ h q
      refine .inl ⟨d, List.mem_cons_self, q, ?_⟩
      unfold forL
      rw [e1]
      dsimp only
      rw [e2]
    | false =>
      obtain ⟨ρ1, ρ', e1, e2, h'⟩ := h0 d List.mem_cons_self ρ h q
      have st : forL g b (d :: r) ρ c = forL g b r ρ' c := by
        conv => lhs; unfold forL
        rw [e1]
        dsimp only
        rw [e2]
      rw [st]
      rcases forL_ret I stop val r ρ' (fun d hd => h0 d (List.mem_cons_of_mem _ hd)) (fun d hd => h1 d (List.mem_cons_of_mem _ hd)) h' with ⟨d2, hd, q2, e⟩ | ⟨q2, e⟩
      · exact .inl ⟨d2, List.mem_cons_of_mem _ hd, q2, e⟩
      · exact .inr ⟨fun d2 hd => by
          rcases List.mem_cons.mp hd with rfl | hd
          · exact q
          · exact q2 d2 hd, e⟩
theorem em_down {m x : Int} {a L : Nat} (h : a ∣ L) (e : (x - m) % a = 0) : (x % L - m) % a = 0 := by
  refine Int.emod_eq_zero_of_dvd ?_
  have d1 := Int.dvd_of_emod_eq_zero e
  have d2 : (a : Int) ∣ (L : Int) * (x / L) := Int.dvd_mul_of_dvd_left (Int.natCast_dvd_natCast.mpr h)
  rw [Int.emod_def, show x - L * (x / L) - m = (x - m) - L * (x / L) by omega]
  exact Int.dvd_sub d1 d2
theorem com_uniq {m1 m2 x y : Int} {a b : Nat} (x0 : 0 ≤ x) (x1 : x < Nat.lcm a b) (y0 : 0 ≤ y) (y1 : y < Nat.lcm a b) (h1 : (x - m1) % a = 0) (h2 : (x - m2) % b = 0) (g1 : (y - m1) % a = 0) (g2 : (y - m2) % b = 0) : x = y := by
  have d1 : (a : Int) ∣ x - y := by
    have := Int.dvd_sub (Int.dvd_of_emod_eq_zero h1) (Int.dvd_of_emod_eq_zero g1)
    rwa [show x - m1 - (y - m1) = x - y by omega] at this
  have d2 : (b : Int) ∣ x - y := by
    have := Int.dvd_sub (Int.dvd_of_emod_eq_zero h2) (Int.dvd_of_emod_eq_zero g2)
    rwa [show x - m2 - (y - m2) = x - y by omega] at this
  have n1 := Int.natAbs_dvd_natAbs.mpr d1
  have n2 := Int.natAbs_dvd_natAbs.mpr d2
  rw [Int.natAbs_natCast] at n1 n2
  have d3 := Nat.lcm_dvd n1 n2
  have := Nat.eq_zero_of_dvd_of_lt d3 (by omega)
  omega
theorem st_mod {x m : Int} {a : Nat} (k : Int) (h : (x - m) % a = 0) : (x + k * a - m) % a = 0 := by
  rw [show x + k * a - m = x - m + k * a by omega, Int.add_mul_emod_self_right]
  exact h
def rowL (m : Int) (a n : Nat) : List Int := (List.range n).map fun k : Nat => m % a + k * a
theorem mk_row {m : Int} {a n : Nat} (h : 0 < a) : mk m a 0 (a * n) = rowL m a n := by
  have ha : (0 : Int) < a := by omega
  have r0 := Int.emod_nonneg m (show (a : Int) ≠ 0 by omega)
  have r1 := Int.emod_lt_of_pos m ha
  refine rising_uniq (mk_rise ..) ?_ fun x => ?_
  · unfold rowL
    rw [List.pairwise_map]
    refine List.pairwise_lt_range.imp fun {i j} hij => ?_
    have : (i : Int) * a < (j : Int) * a := Int.mul_lt_mul_of_pos_right (by omega) ha
    omega
  · rw [mk_mem]
    unfold rowL
    rw [List.mem_map]
    constructor
    · rintro ⟨x0, x1, h3⟩
      have e := Int.emod_eq_emod_iff_emod_sub_eq_zero.mpr h3
      have d := Int.mul_ediv_add_emod x a
      have q0 : 0 ≤ x / a := Int.ediv_nonneg x0 (by omega)
      have q1 : x / a < n := Int.ediv_lt_of_lt_mul ha (by rw [Int.mul_comm]; simpa using x1)
      refine ⟨(x / a).toNat, List.mem_range.mpr (by omega), ?_⟩
      rw [Int.toNat_of_nonneg q0, Int.mul_comm, ← e]
      omega
    · rintro ⟨k, hk, rfl⟩
      rw [List.mem_range] at hk
      have k0 : 0 ≤ (k : Int) * a := Int.mul_nonneg (by omega) (by omega)
      have k1 : ((k : Int) + 1) * a ≤ (n : Int) * a := Int.mul_le_mul_of_nonneg_right (by omega) (by omega)
      rw [Int.add_mul, Int.one_mul] at k1
      have e1 : ((a * n : Nat) : Int) = (n : Int) * a := by rw [Int.natCast_mul, Int.mul_comm]
      refine ⟨by omega, by omega, ?_⟩
      have f := first_mark (m := m) (s := a) (lo := 0)
      rw [Int.sub_zero, Int.zero_add] at f
      exact st_mod k f
theorem fits_l {i : Int} (h : -1000000000 ≤ i) (h2 : i ≤ 1000000000) : Builtin.Range.rangeFitsLong i = true := by
  unfold Builtin.Range.rangeFitsLong
  rw [Bool.and_eq_true]
  exact ⟨decide_eq_true (by omega), decide_eq_true (by omega)⟩
theorem size_v {f : Int} {a n : Nat} (ha : 1 ≤ a) : Builtin.Range.rangeSize f (f + (a * n : Nat)) a = n := by
  unfold Builtin.Range.rangeSize
  rw [if_pos (by omega)]
  by_cases h : n = 0
  · subst h
    rw [if_neg (by simp)]
    rfl
  · have p : 0 < a * n := Nat.mul_pos ha (by omega)
    rw [if_pos (by omega)]
    have : f + ((a * n : Nat) : Int) - f - 1 = ((a : Int) - 1) + a * ((n : Int) - 1) := by
      rw [Int.mul_sub, Int.natCast_mul]
      omega
    rw [this, Int.add_mul_ediv_left _ _ (by omega), Int.ediv_eq_zero_of_lt (by omega) (by omega)]
    omega
theorem r3_v {f : Int} {a n : Nat} (ha : 1 ≤ a) (ha2 : a ≤ 10000) (f0 : -10000 ≤ f) (f1 : f ≤ 10000) (hn : a * n ≤ 100000000) {c : Cu} : r3K (some ([.int f, .int (f + (a * n : Nat)), .int a], c)) = some (stepsD f a n, c) := by
  have e := size_v (f := f) (n := n) ha
  have n1 : n ≤ a * n := Nat.le_mul_of_pos_left _ ha
  have sm : Builtin.Range.small f (f + (a * n : Nat)) a = true := by
    unfold Builtin.Range.small
    rw [e, fits_l (i := f) (by omega) (by omega), fits_l (i := f + (a * n : Nat)) (by omega) (by omega), fits_l (i := (a : Int)) (by omega) (by omega), fits_l (i := (n : Int)) (by omega) (by omega), if_pos (by omega), fits_l (by omega) (by omega)]
    simp
  rw [ev_r3K, e, if_pos ⟨by omega, by omega, sm, by omega⟩]
  rfl

section
variable {m1 m2 : Int} {a b : Nat}
theorem common_in_v (ha : 1 ≤ a) (ha2 : a ≤ 10000) (hb : 1 ≤ b) (hb2 : b ≤ 10000) : (∃ x : Int, 0 ≤ x ∧ x < Nat.lcm a b ∧ (x - m1) % a = 0 ∧ (x - m2) % b = 0 ∧ F_common_in [St m1 a, St m2 b] = some (St x (Nat.lcm a b))) ∨
    ((∀ x, (x - m1) % a = 0 → (x - m2) % b ≠ 0) ∧ F_common_in [St m1 a, St m2 b] = some .none) := by
  have l0 : 0 < Nat.lcm a b := Nat.lcm_pos ha hb
  have b0 : (0 : Int) < b := by omega
  have em := multiple_v (a := a) (b := b) (by omega) (by omega) (by omega)
  have mo : ∀ t : Int, mulOk t a = true := fun t => decide_eq_true (.inr ⟨by omega, by omega⟩)
  have hin : in62 (b : Int) = true := in62_of (by omega) (by omega)
  have a0 : (m1 - m1) % (a : Int) = 0 := by rw [Int.sub_self]; exact Int.zero_emod _
  generalize hL : Nat.lcm a b = L at *
  let body : SF := (seqS (asgS (opE addD (opE idxD (varE 0) (cE (.int 0))) (opE mulD (varE 3) (opE idxD (varE 0) (cE (.int 1))))) (nameG 4))
    (ifS (tstB (callB F_has_mark (consA (varE 1) (consA (varE 4) nilA))))
    (retS (tupE (consA (opE modD (varE 4) (varE 2)) (consA (varE 2) nilA))))
    nopS))
  have key := forL_ret (g := nameG 3) (b := body) (c := ((0, 0) : Cu)) (fun ρ => ∃ x y, ρ = [.d (St m1 a), .d (St m2 b), .d (.int L), x, y])
    (fun d => match d with | .int t => decide ((m1 + t * a - m2) % b = 0) | _ => false) (fun d => match d with | .int t => St ((m1 + t * a) % L) L | _ => .none) (intsD 0 b) [.d (St m1 a), .d (St m2 b), .d (.int L), .un, .un] (by
      rintro d hd ρ ⟨x, y, rfl⟩ hs
      obtain ⟨t, _, rfl⟩ := List.mem_map.mp hd
      have hs := of_decide_eq_false hs
      exact ⟨_, [.d (St m1 a), .d (St m2 b), .d (.int L), .d (.int (0 + (t : Int))), .d (.int (m1 + (0 + (t : Int)) * a))], rfl, by simp [body, List.getElem?_set, -getElem?_pos, List.getElem?_cons_zero, List.getElem?_cons_succ, atI_0, atI_1, mo, has_mark_p b0, -Int.zero_add, hs], ⟨_, _, rfl⟩⟩) (by
      rintro d hd ρ ⟨x, y, rfl⟩ hs
      obtain ⟨t, _, rfl⟩ := List.mem_map.mp hd
      have hs := of_decide_eq_true hs
      exact ⟨_, rfl, by simp [body, List.getElem?_set, -getElem?_pos, List.getElem?_cons_zero, List.getElem?_cons_succ, atI_0, atI_1, mo, has_mark_p b0, -Int.zero_add, hs, l0, sizeLine_eq]⟩) ⟨_, _, rfl⟩
  rcases key with ⟨d, hd, hs, e⟩ | ⟨hn, ρ', e, x, y, rfl⟩
  · obtain ⟨t, _, rfl⟩ := List.mem_map.mp hd
    have hs := of_decide_eq_true hs
    refine .inl ⟨(m1 + (0 + (t : Int)) * a) % L, Int.emod_nonneg _ (by omega), Int.emod_lt_of_pos _ (by omega), ?_, ?_, ?_⟩
    · exact em_down (by rw [← hL]; exact Nat.dvd_lcm_left _ _) (st_mod _ a0)
    · exact em_down (by rw [← hL]; exact Nat.dvd_lcm_right _ _) hs
    · simp only [body] at e
      simp [F_common_in, g_common_in, List.getElem?_set, -getElem?_pos, List.getElem?_cons_zero, List.getElem?_cons_succ, atI_0, atI_1, em, hin]
      rw [e]
      simp
  · refine .inr ⟨fun x h1 h3 => ?_, ?_⟩
    · obtain ⟨k, hk⟩ := Int.dvd_of_emod_eq_zero h1
      have hb0 : (b : Int) ≠ 0 := by omega
      have t0 := Int.emod_nonneg k hb0
      have t1 := Int.emod_lt_of_pos k (show (0 : Int) < b by omega)
      have := hn (.int (0 + ((k % b).toNat : Nat))) (List.mem_map.mpr ⟨(k % b).toNat, List.mem_range.mpr (by omega), rfl⟩)
      have := of_decide_eq_false this
      refine this ?_
      rw [Int.zero_add, Int.toNat_of_nonneg t0, Int.emod_def k]
      have e1 : m1 + (k - b * (k / b)) * a - m2 = (x - m2) + b * (-(k / b) * a) := by
        rw [Int.sub_mul, Int.mul_comm k, ← hk, Int.neg_mul, Int.mul_neg, Int.mul_assoc]
        omega
      rw [e1, Int.add_mul_emod_self_left]
      exact h3
    · simp only [body] at e
      simp [F_common_in, g_common_in, List.getElem?_set, -getElem?_pos, List.getElem?_cons_zero, List.getElem?_cons_succ, atI_0, atI_1, em, hin]
      rw [e]
      simp
end

end PL

set_option Elab.async false
set_option linter.all false
set_option maxRecDepth 100000
set_option maxHeartbeats 4000000
namespace PL
open PySem PySem.Spec PyProof.Rows L2 RZ
/-! ### several strips -/
theorem snoc_ind {α : Type} {motive : List α → Prop} (nil : motive []) (append_singleton : ∀ (r : List α) (q : α), motive r → motive (r ++ [q])) (xs : List α) : motive xs := by
  have key : ∀ ys : List α, motive ys.reverse := by
    intro ys
    induction ys with
    | nil => exact nil
    | cons a r ih =>
      rw [List.reverse_cons]
      exact append_singleton _ _ ih
  have := key xs.reverse
  rwa [List.reverse_reverse] at this
abbrev SD (p : Int × Nat) : PyData := St p.1 p.2
def lcmL (ss : List (Int × Nat)) : Nat := ss.foldl (fun L p => Nat.lcm L p.2) 1
def allc (ss : List (Int × Nat)) (y : Int) : Prop := ∀ p ∈ ss, (y - p.1) % p.2 = 0
theorem lcmL_snoc (ss : List (Int × Nat)) (p : Int × Nat) : lcmL (ss ++ [p]) = Nat.lcm (lcmL ss) p.2 := by
  unfold lcmL
  rw [List.foldl_append]
  rfl
theorem lcmL_dvd : ∀ (ss : List (Int × Nat)) (p : Int × Nat), p ∈ ss → p.2 ∣ lcmL ss := by
  intro ss
  induction ss using snoc_ind with
  | nil => intro p h; cases h
  | append_singleton r q ih =>
    intro p h
    rw [lcmL_snoc]
    rcases List.mem_append.mp h with h | h
    · exact Nat.dvd_trans (ih p h) (Nat.dvd_lcm_left _ _)
    · rw [List.mem_singleton.mp h]
      exact Nat.dvd_lcm_right _ _
theorem dvd_lcmL {n : Nat} : ∀ (ss : List (Int × Nat)), (∀ p ∈ ss, p.2 ∣ n) → lcmL ss ∣ n := by
  intro ss
  induction ss using snoc_ind with
  | nil => intro _; exact Nat.one_dvd _
  | append_singleton r q ih =>
    intro h
    rw [lcmL_snoc]
    exact Nat.lcm_dvd (ih fun p hp => h p (List.mem_append_left _ hp)) (h q (List.mem_append_right _ (List.mem_singleton.mpr rfl)))
theorem lcmL_pos : ∀ (ss : List (Int × Nat)), (∀ p ∈ ss, 0 < p.2) → 0 < lcmL ss := by
  intro ss
  induction ss using snoc_ind with
  | nil => intro _; exact Nat.one_pos
  | append_singleton r q ih =>
    intro h
    rw [lcmL_snoc]
    exact Nat.lcm_pos (ih fun p hp => h p (List.mem_append_left _ hp)) (h q (List.mem_append_right _ (List.mem_singleton.mpr rfl)))
theorem lcmL_take (ss : List (Int × Nat)) (i : Nat) : lcmL (ss.take i) ∣ lcmL ss := dvd_lcmL _ fun p hp => lcmL_dvd ss p (List.mem_of_mem_take hp)
/-- a number of the row of all, brought near zero -/
theorem allc_uniq {ss : List (Int × Nat)} {x y : Int} (x0 : 0 ≤ x) (x1 : x < lcmL ss) (y0 : 0 ≤ y) (y1 : y < lcmL ss) (hx : allc ss x) (hy : allc ss y) : x = y := by
  have d : lcmL ss ∣ (x - y).natAbs := dvd_lcmL _ fun p hp => by
    have := Int.dvd_sub (Int.dvd_of_emod_eq_zero (hx p hp)) (Int.dvd_of_emod_eq_zero (hy p hp))
    rw [show x - p.1 - (y - p.1) = x - y by omega] at this
    have n1 := Int.natAbs_dvd_natAbs.mpr this
    rwa [Int.natAbs_natCast] at n1
  have := Nat.eq_zero_of_dvd_of_lt d (by omega)
  omega
structure IsSs (ss : List (Int × Nat)) : Prop where
  ne : 1 ≤ ss.length
  le : ss.length ≤ 6
  st : ∀ p ∈ ss, IsSt p.1 p.2
  lcm : lcmL ss ≤ 5000
abbrev tupS (ss : List (Int × Nat)) : PyData := .tuple (ss.map SD)
theorem IsSs.pos {ss : List (Int × Nat)} (h : IsSs ss) : ∀ p ∈ ss, 0 < p.2 := fun p hp => by have := (h.st p hp).c; omega
theorem IsSs.pre {ss : List (Int × Nat)} (h : IsSs ss) (i : Nat) : 0 < lcmL (ss.take i) ∧ lcmL (ss.take i) ≤ 5000 := by
  have p := lcmL_pos ss h.pos
  exact ⟨lcmL_pos _ fun p hp => h.pos p (List.mem_of_mem_take hp), Nat.le_trans (Nat.le_of_dvd p (lcmL_take ss i)) h.lcm⟩
theorem fits_strips_v {ss : List (Int × Nat)} (h : IsSs ss) : F_fits_strips [tupS ss] = some (.bool true) := by
  have hn := h.ne; have hl := h.le
  have ec := fun c : Cu => compL_all (g := nameG 1) (t := yesB) (f := callB F_fits_strip (consA (varE 1) nilA)) (ρ := [.d (tupS ss), .un]) (c := c) SD (fun _ => .bool true) ss fun p hp => ⟨_, rfl, rfl, by simp [List.getElem?_set, -getElem?_pos, List.getElem?_cons_zero, List.getElem?_cons_succ, fits_strip_v, (h.st p hp).fits]⟩
  have ea : allD [.list (ss.map fun _ => PyData.bool true)] = some (.bool true) := by
    have : (ss.map fun _ => PyData.bool true) = (ss.map fun _ => true).map .bool := by rw [List.map_map]; rfl
    rw [this, ev_all]
    simp
  have e2 : F_is_tuple_of [tupS ss, .int 1, .int 6] = some (.bool true) := by
    rw [is_tuple_of_v]
    simp [tupN]
    omega
  have hl2 : ss.length ≤ 16777216 := by omega
  simp only [tupS] at *
  simp [F_fits_strips, g_fits_strips, List.getElem?_set, -getElem?_pos, List.getElem?_cons_zero, List.getElem?_cons_succ, e2, ec, sizeLine_eq, hl2, ea]
theorem round_in_v {ss : List (Int × Nat)} (h : IsSs ss) : F_round_in [tupS ss] = some (.int (lcmL ss)) := by
  obtain ⟨ρ', c', e, rfl, x, rfl⟩ := forL_rule (g := nameG 2) (b := asgS (callB F_multiple_in (consA (varE 1) (consA (opE idxD (varE 2) (cE (.int 1))) nilA))) (nameG 1)) (items := ss.map SD)
    (fun i ρ c => c = ((0, 0) : Cu) ∧ ∃ x, ρ = [.d (tupS ss), .d (.int (lcmL (ss.take i))), x]) (by
      rintro i d ρ c hd ⟨rfl, x, rfl⟩
      rw [List.getElem?_map] at hd
      obtain ⟨p, hp, rfl⟩ := Option.map_eq_some_iff.mp hd
      have hm := List.mem_of_getElem? hp
      have s := h.st p hm
      have s1 := s.c; have s2 := s.d
      obtain ⟨q0, q1⟩ := h.pre i
      have em := multiple_v (a := lcmL (ss.take i)) (b := p.2) q0 (by omega) (by omega)
      rw [← lcmL_snoc] at em
      have et : ss.take (i + 1) = ss.take i ++ [p] := by rw [List.take_add_one, hp]; rfl
      refine ⟨_, rfl, _, _, .inl (asg_nx (d := .int (lcmL (ss.take i ++ [p]) : Nat)) (c1 := (0, 0)) (by simp [List.getElem?_set, -getElem?_pos, List.getElem?_cons_zero, List.getElem?_cons_succ, atI_1, em])), rfl, .d (SD p), ?_⟩
      rw [et]
      rfl) (ρ := [.d (tupS ss), .d (.int 1), .un]) (c := ((0, 0) : Cu)) ⟨rfl, .un, rfl⟩
  rw [List.length_map, List.take_length] at e
  have hl : ¬ (5000 < (lcmL ss : Int)) := by have := h.lcm; omega
  simp only [tupS] at *
  simp [F_round_in, g_round_in, List.getElem?_set, -getElem?_pos, List.getElem?_cons_zero, List.getElem?_cons_succ, e, hl]
theorem need_strips_v {ss : List (Int × Nat)} (h : IsSs ss) : F_need_strips [tupS ss] = some (.int (lcmL ss)) := by
  have e1 := fits_strips_v h
  have e2 := round_in_v h
  simp only [tupS] at *
  simp [F_need_strips, g_need_strips, List.getElem?_set, -getElem?_pos, List.getElem?_cons_zero, List.getElem?_cons_succ, e1, e2]
/-- what holds of the rows met so far: no number in common, or the first one with the step -/
def CO (ss : List (Int × Nat)) (v : PyData) : Prop := (v = .none ∧ ∀ y, ¬ allc ss y) ∨ ∃ x : Int, v = St x (lcmL ss) ∧ 0 ≤ x ∧ x < lcmL ss ∧ allc ss x
theorem co_step {ss : List (Int × Nat)} {p : Int × Nat} {v : PyData} (hp : IsSt p.1 p.2) (h0 : 0 < lcmL ss) (h1 : lcmL ss ≤ 5000) (h : CO ss v) :
    ∃ v2, ((v = .none ∧ v2 = .none) ∨ (nonD v = false ∧ F_common_in [SD p, v] = some v2)) ∧ CO (ss ++ [p]) v2 := by
  have s1 := hp.c; have s2 := hp.d
  rcases h with ⟨rfl, hn⟩ | ⟨x, rfl, x0, x1, hx⟩
  · exact ⟨.none, .inl ⟨rfl, rfl⟩, .inl ⟨rfl, fun y hy => hn y fun q hq => hy q (List.mem_append_left _ hq)⟩⟩
  · have hc := common_in_v (m1 := p.1) (m2 := x) (a := p.2) (b := lcmL ss) (by omega) (by omega) h0 (by omega)
    rw [Nat.lcm_comm, ← lcmL_snoc] at hc
    rcases hc with ⟨z, z0, z1, z2, z3, e⟩ | ⟨hn, e⟩
    · refine ⟨_, .inr ⟨rfl, e⟩, .inr ⟨z, rfl, z0, z1, fun q hq => ?_⟩⟩
      rcases List.mem_append.mp hq with hq | hq
      · have d1 : ((q.2 : Nat) : Int) ∣ z - x := Int.dvd_trans (Int.natCast_dvd_natCast.mpr (lcmL_dvd ss q hq)) (Int.dvd_of_emod_eq_zero z3)
        have d2 := Int.dvd_add d1 (Int.dvd_of_emod_eq_zero (hx q hq))
        rw [show z - x + (x - q.1) = z - q.1 by omega] at d2
        exact Int.emod_eq_zero_of_dvd d2
      · rw [List.mem_singleton.mp hq]
        exact z2
    · refine ⟨.none, .inr ⟨rfl, e⟩, .inl ⟨rfl, fun y hy => ?_⟩⟩
      refine hn y (hy p (List.mem_append_right _ (List.mem_singleton.mpr rfl))) ?_
      have d : lcmL ss ∣ (y - x).natAbs := dvd_lcmL _ fun q hq => by
        have := Int.dvd_sub (Int.dvd_of_emod_eq_zero (hy q (List.mem_append_left _ hq))) (Int.dvd_of_emod_eq_zero (hx q hq))
        rw [show y - q.1 - (x - q.1) = y - x by omega] at this
        have n1 := Int.natAbs_dvd_natAbs.mpr this
        rwa [Int.natAbs_natCast] at n1
      exact Int.emod_eq_zero_of_dvd (Int.natAbs_dvd_natAbs.mp (by rw [Int.natAbs_natCast]; exact d))
theorem cut_one {α : Type} (a : α) (r : List α) : cut (a :: r) (some 1) none = r := by
  unfold cut
  have h1 : HT.sIx (a :: r).length 0 (some 1) = 1 := by
    unfold HT.sIx
    simp
  have h2 : HT.sIx (a :: r).length (a :: r).length none = (a :: r).length := rfl
  rw [h1, h2]
  simp
theorem common_of_v {ss : List (Int × Nat)} (h : IsSs ss) : ∃ v, F_common_of [tupS ss] = some v ∧ CO ss v := by
  obtain ⟨p0, r, rfl⟩ : ∃ p0 r, ss = p0 :: r := by
    cases ss with
    | nil => have := h.ne; simp at this
    | cons p r => exact ⟨p, r, rfl⟩
  have s0 := h.st p0 List.mem_cons_self
  have s1 := s0.c
  have en := need_strips_v h
  have eh := homed_v s0
  have c0 : CO [p0] (St (p0.1 % p0.2) p0.2) := by
    have l : lcmL [p0] = p0.2 := Nat.lcm_one_left _
    refine .inr ⟨p0.1 % p0.2, by rw [l], Int.emod_nonneg _ (by omega), by rw [l]; exact Int.emod_lt_of_pos _ (by omega), fun q hq => ?_⟩
    rw [List.mem_singleton.mp hq]
    have f := first_mark (m := p0.1) (s := p0.2) (lo := 0)
    rwa [Int.sub_zero, Int.zero_add] at f
  obtain ⟨ρ', c', e, rfl, v, x, rfl, hv⟩ := forL_rule (g := nameG 2) (b := asgS (ifE (tstB (opE isNotD (varE 1) (cE .none))) (callB F_common_in (consA (varE 2) (consA (varE 1) nilA))) (cE .none)) (nameG 1)) (items := r.map SD)
    (fun i ρ c => c = ((0, 0) : Cu) ∧ ∃ v x, ρ = [.d (tupS (p0 :: r)), .d v, x] ∧ CO (p0 :: r.take i) v) (by
      rintro i d ρ c hd ⟨rfl, v, x, rfl, hv⟩
      rw [List.getElem?_map] at hd
      obtain ⟨p, hp, rfl⟩ := Option.map_eq_some_iff.mp hd
      have hm := List.mem_of_getElem? hp
      have s := h.st p (List.mem_cons_of_mem _ hm)
      obtain ⟨q0, q1⟩ := h.pre (i + 1)
      rw [List.take_succ_cons] at q0 q1
      obtain ⟨v2, hv2, hc⟩ := co_step s q0 q1 hv
      have et : p0 :: r.take (i + 1) = (p0 :: r.take i) ++ [p] := by rw [List.take_add_one, hp]; rfl
      refine ⟨_, rfl, [.d (tupS (p0 :: r)), .d v2, .d (SD p)], _, .inl (asg_nx (d := v2) (c1 := (0, 0)) ?_), rfl, v2, .d (SD p), rfl, by rw [et]; exact hc⟩
      rcases hv2 with ⟨rfl, rfl⟩ | ⟨hn, e⟩
      · simp [List.getElem?_set, -getElem?_pos, List.getElem?_cons_zero, List.getElem?_cons_succ]
      · simp [List.getElem?_set, -getElem?_pos, List.getElem?_cons_zero, List.getElem?_cons_succ, hn, e]) (ρ := [.d (tupS (p0 :: r)), .d (St (p0.1 % p0.2) p0.2), .un]) (c := ((0, 0) : Cu)) ⟨rfl, _, .un, rfl, c0⟩
  rw [List.length_map, List.take_length] at hv
  refine ⟨v, ?_, hv⟩
  simp only [tupS, List.map_cons] at *
  simp [F_common_of, g_common_of, List.getElem?_set, -getElem?_pos, List.getElem?_cons_zero, List.getElem?_cons_succ, en, atI_0, eh, cut_one, e]

end PL

set_option Elab.async false
set_option linter.all false
set_option maxRecDepth 100000
set_option maxHeartbeats 4000000
namespace PL
open PySem PySem.Spec PyProof.Rows L2 RZ
/-! ### the law's strips, their round, how many strips meet a spot -/
theorem setIx_nx {i : Nat} {fi fe : EF} {ρ : Rho} {c c1 c2 : Cu} {d : PyData} {k : Int} {xs : List PyData} {j : Nat} (h1 : fe ρ c = some (d, c1)) (h2 : fi ρ c1 = some (.int k, c2)) (h3 : ρ[i]? = some (.own (.lst xs))) (h4 : ixN xs.length k = some j) :
    setIxS i fi fe ρ c = .nx (ρ.set i (.own (.lst (xs.set j d)))) c2 := by
  unfold setIxS
  rw [h1]
  dsimp only
  rw [h2]
  dsimp only
  rw [h3]
  dsimp only
  rw [h4]
theorem compL_cup {α : Type} {g : GF} {t : BF} {f : EF} {ρ : Rho} (enc : α → PyData) (P : α → Prop) (ht : ∀ ρ c, t ρ c = some (true, c)) : ∀ (items : List PyData) (c : Cu), CupOk c →
    (∀ d ∈ items, ∀ c, CupOk c → ∃ ρ1 x c', g d ρ = some ρ1 ∧ f ρ1 c = some (enc x, c') ∧ P x ∧ CupOk c') → ∃ (xs : List α) (c' : Cu), compL g t f items ρ c = some (xs.map enc, c') ∧ xs.length = items.length ∧ (∀ x ∈ xs, P x) ∧ CupOk c'
  | [], c, hc, _ => ⟨[], c, rfl, rfl, fun _ h => (nomatch h), hc⟩
  | d :: r, c, hc, h => by
    obtain ⟨ρ1, x, c1, h1, h2, h3, k1⟩ := h d List.mem_cons_self c hc
    obtain ⟨xs, c2, e, hl, hp, k2⟩ := compL_cup (g := g) (t := t) (f := f) (ρ := ρ) enc P ht r c1 k1 fun d hd => h d (List.mem_cons_of_mem _ hd)
    refine ⟨x :: xs, c2, ?_, by simp [hl], ?_, k2⟩
    · rw [ev_cl1, h1, ev_clK1, ht, ev_clK2t, h2, ev_clK3, e, ev_clK4]
      rfl
    · intro y hy
      rcases List.mem_cons.mp hy with rfl | hy
      · exact h3
      · exact hp y hy
theorem law_strips_v {ns : List Int} {N : Nat} (hne : ns ≠ []) (hl : ns.length < 1000) (hs : ∀ s ∈ ns, 1 ≤ s ∧ s ≤ 60 ∧ s.toNat ∣ N) (hN : 0 < N) (hN2 : N ≤ 5000) {c : Cu} (hc : CupOk c) :
    ∃ ss c', F__law_strips [.list (ns.map .int)] c = some (tupS ss, c') ∧ IsSs ss ∧ CupOk c' := by
  obtain ⟨k, c1, e1, k0, k1, hc1⟩ := roll_spec (many := 4) (by decide) (by decide) hc
  obtain ⟨ss, c2, e2, hlen, hp, hc2⟩ := compL_cup (g := nameG 2) (t := yesB) (f := tupE (consA (opE subD (callC 0 F__law_roll (consA (cE (.int 30)) nilA)) (cE (.int 10))) (consA (callC 0 F__law_some (consA (varE 1) nilA)) nilA))) (ρ := [.cup, .d (.list (ns.map .int)), .un]) SD
    (fun p => IsSt p.1 p.2 ∧ p.2 ∣ N) (fun _ _ => rfl) (intsD 0 (1 + k).toNat) c1 hc1 (fun d _ c hc => by
      obtain ⟨a, ca, ea, a0, a1, ka⟩ := roll_spec (many := 30) (by decide) (by decide) hc
      obtain ⟨s, cb, eb, hsm, kb⟩ := some_ints hne (by omega) ka
      obtain ⟨s0, s1, s2⟩ := hs s hsm
      refine ⟨_, (a - 10, s.toNat), cb, rfl, ?_, ⟨⟨?_, ?_, ?_, ?_⟩, s2⟩, kb⟩
      · simp [List.getElem?_set, -getElem?_pos, List.getElem?_cons_zero, List.getElem?_cons_succ, ea, eb, sizeLine_eq, Int.toNat_of_nonneg (show 0 ≤ s by omega)]
      · show -1000 ≤ a - 10; omega
      · show a - 10 ≤ 1000; omega
      · show 1 ≤ ((s.toNat : Nat) : Int); omega
      · show ((s.toNat : Nat) : Int) ≤ 60; omega)
  have hl2 : ss.length = (1 + k).toNat := by rw [hlen]; simp [intsD]
  refine ⟨ss, c2, ?_, ⟨by omega, by omega, fun p h => (hp p h).1, Nat.le_trans (Nat.le_of_dvd hN (dvd_lcmL ss fun p h => (hp p h).2)) hN2⟩, hc2⟩
  have hl3 : ss.length ≤ 16777216 := by omega
  have hin : in62 (1 + k) = true := in62_of (by omega) (by omega)
  simp only [tupS]
  simp [F__law_strips, g__law_strips, List.getElem?_set, -getElem?_pos, List.getElem?_cons_zero, List.getElem?_cons_succ, e1, hin, e2, sizeLine_eq, hl3]
theorem law_round_v {ss : List (Int × Nat)} (h : IsSs ss) : F__law_round [tupS ss] = some (.int (lcmL ss)) := by
  obtain ⟨ρ', c', e, rfl, x, y, rfl⟩ := forL_rule (g := tupG 2 (consG (nameG 2) (consG (nameG 3) nilG))) (b := asgS (callB F__law_multiple (consA (varE 1) (consA (varE 3) nilA))) (nameG 1)) (items := ss.map SD)
    (fun i ρ c => c = ((0, 0) : Cu) ∧ ∃ x y, ρ = [.d (tupS ss), .d (.int (lcmL (ss.take i))), x, y]) (by
      rintro i d ρ c hd ⟨rfl, x, y, rfl⟩
      rw [List.getElem?_map] at hd
      obtain ⟨p, hp, rfl⟩ := Option.map_eq_some_iff.mp hd
      have hm := List.mem_of_getElem? hp
      have s := h.st p hm
      have s1 := s.c; have s2 := s.d
      obtain ⟨q0, q1⟩ := h.pre i
      have em := law_multiple_v (a := lcmL (ss.take i)) (b := p.2) q0 (by omega) (by omega) (by omega)
      rw [← lcmL_snoc] at em
      have et : ss.take (i + 1) = ss.take i ++ [p] := by rw [List.take_add_one, hp]; rfl
      refine ⟨_, rfl, _, _, .inl (asg_nx (d := .int (lcmL (ss.take i ++ [p]) : Nat)) (c1 := (0, 0)) (by simp [List.getElem?_set, -getElem?_pos, List.getElem?_cons_zero, List.getElem?_cons_succ, em])), rfl, .d (.int p.1), .d (.int p.2), ?_⟩
      rw [et]
      rfl) (ρ := [.d (tupS ss), .d (.int 1), .un, .un]) (c := ((0, 0) : Cu)) ⟨rfl, .un, .un, rfl⟩
  rw [List.length_map, List.take_length] at e
  simp only [tupS] at *
  simp [F__law_round, g__law_round, List.getElem?_set, -getElem?_pos, List.getElem?_cons_zero, List.getElem?_cons_succ, e]
def cntL (L : Nat) (h : Nat → Int) : List PyData := (List.range L).map fun j => .int (h j)
theorem cntL_len {L : Nat} {h : Nat → Int} : (cntL L h).length = L := by unfold cntL; rw [List.length_map, List.length_range]
theorem cntL_get {L : Nat} {h : Nat → Int} {j : Nat} (hj : j < L) : (cntL L h)[j]? = some (.int (h j)) := by
  unfold cntL
  rw [List.getElem?_map, List.getElem?_range hj]
  rfl
theorem cntL_set {L : Nat} {h : Nat → Int} {k : Nat} (hk : k < L) (z : Int) : (cntL L h).set k (.int z) = cntL L fun j => if j = k then z else h j := by
  apply List.ext_getElem?
  intro i
  rw [List.getElem?_set]
  by_cases hi : i < L
  · rw [cntL_get hi, cntL_get hi, cntL_len]
    by_cases e : k = i
    · subst e
      simp [hk]
    · have e' : ¬ i = k := fun z => e z.symm
      simp [e, e']
  · rw [List.getElem?_eq_none (by rw [cntL_len]; omega), List.getElem?_eq_none (by rw [cntL_len]; omega), cntL_len]
    split
    · simp; omega
    · rfl

end PL

set_option Elab.async false
set_option linter.all false
set_option maxRecDepth 100000
set_option maxHeartbeats 4000000
namespace PL
open PySem PySem.Spec PyProof.Rows L2 RZ
theorem mk_nodup (m s lo : Int) (n : Nat) : (mk m s lo n).Nodup := (mk_rise m s lo n).imp fun h => by omega
theorem cnt_mk {m : Int} {a L : Nat} {j : Nat} (hj : j < L) : ((mk m a 0 L).count (j : Int) : Int) = if ((j : Int) - m) % a = 0 then 1 else 0 := by
  rw [(mk_nodup ..).count]
  by_cases h : ((j : Int) - m) % a = 0
  · rw [if_pos (mk_mem.mpr ⟨by omega, by omega, h⟩), if_pos h]
    rfl
  · rw [if_neg (fun z => h (mk_mem.mp z).2.2), if_neg h]
    rfl
/-- how many of the strips meet j -/
def meets (ss : List (Int × Nat)) (j : Nat) : Nat := ss.countP fun p => decide (((j : Int) - p.1) % p.2 = 0)
theorem law_met_v {ss : List (Int × Nat)} (h : IsSs ss) {L : Nat} (l1 : L ≤ 5000) (l0 : 0 < L) : F__law_met [tupS ss, .int L] = some (.list (cntL L fun j => (meets ss j : Nat))) := by
  have inner : ∀ (ms : List Int) (hd : Nat → Int) (x y : Sl), (∀ z ∈ ms, 0 ≤ z ∧ z < L) → ∃ y', forL (nameG 4) (setIxS 2 (varE 4) (opE addD (opE idxD (varT 2) (varE 4)) (cE (.int 1)))) (ms.map .int) [.d (tupS ss), .d (.int L), .own (.lst (cntL L hd)), x, y] ((0, 0) : Cu) =
      .nx [.d (tupS ss), .d (.int L), .own (.lst (cntL L fun j => hd j + (ms.count (j : Int) : Nat))), x, y'] (0, 0) := by
    intro ms hd x y hm
    obtain ⟨ρ', c', e, rfl, y', rfl⟩ := forL_rule (g := nameG 4) (b := setIxS 2 (varE 4) (opE addD (opE idxD (varT 2) (varE 4)) (cE (.int 1)))) (items := ms.map .int)
      (fun i ρ c => c = ((0, 0) : Cu) ∧ ∃ y', ρ = [.d (tupS ss), .d (.int L), .own (.lst (cntL L fun j => hd j + ((ms.take i).count (j : Int) : Nat))), x, y']) (by
        rintro i d ρ c hd' ⟨rfl, y', rfl⟩
        rw [List.getElem?_map] at hd'
        obtain ⟨z, hz, rfl⟩ := Option.map_eq_some_iff.mp hd'
        obtain ⟨z0, z1⟩ := hm z (List.mem_of_getElem? hz)
        obtain ⟨k, rfl⟩ : ∃ k : Nat, z = k := ⟨z.toNat, by omega⟩
        have hk : k < L := by omega
        have et : ms.take (i + 1) = ms.take i ++ [(k : Int)] := by rw [List.take_add_one, hz]; rfl
        refine ⟨_, rfl, _, _, .inl (setIx_nx (d := .int (hd k + ((ms.take i).count (k : Int) : Nat) + 1)) (c1 := (0, 0)) (c2 := (0, 0)) (k := (k : Int)) (j := k) (by simp [List.getElem?_set, -getElem?_pos, List.getElem?_cons_zero, List.getElem?_cons_succ, atI_of, cntL_get hk]) (by simp [List.getElem?_set, -getElem?_pos, List.getElem?_cons_zero, List.getElem?_cons_succ]) rfl ?_), rfl, .d (.int k), ?_⟩
        · rw [cntL_len]
          unfold ixN
          rw [if_pos (by omega), if_pos (by omega)]
          rfl
        · rw [cntL_set hk, et]
          simp only [List.set_cons_succ, List.set_cons_zero]
          congr 5
          refine congrArg (cntL L) (funext fun j => ?_)
          rw [List.count_append, List.count_singleton]
          by_cases q : j = k
          · subst q
            simp
            omega
          · have q' : ¬ (k : Int) = j := by omega
            simp [q, q']) (ρ := [.d (tupS ss), .d (.int L), .own (.lst (cntL L hd)), x, y]) (c := ((0, 0) : Cu)) ⟨rfl, y, by simp⟩
    rw [List.length_map, List.take_length] at e
    exact ⟨y', e⟩
  obtain ⟨ρ', c', e, rfl, x, y, rfl⟩ := forL_rule (g := nameG 3) (b := forS (seqI (callB F__law_marks (consA (varE 3) (consA (cE (.int 0)) (consA (opE subD (varE 1) (cE (.int 1))) nilA))))) (nameG 4)
    (setIxS 2 (varE 4) (opE addD (opE idxD (varT 2) (varE 4)) (cE (.int 1))))) (items := ss.map SD)
    (fun i ρ c => c = ((0, 0) : Cu) ∧ ∃ x y, ρ = [.d (tupS ss), .d (.int L), .own (.lst (cntL L fun j => (meets (ss.take i) j : Nat))), x, y]) (by
      rintro i d ρ c hd ⟨rfl, x, y, rfl⟩
      rw [List.getElem?_map] at hd
      obtain ⟨p, hp, rfl⟩ := Option.map_eq_some_iff.mp hd
      have hm := List.mem_of_getElem? hp
      have s := h.st p hm
      have s1 := s.c
      have em := law_marks_v (m := p.1) (s := p.2) (lo := 0) (hi := (L : Int) - 1) (by omega) (by omega) (by omega)
      rw [show ((L : Int) - 1 + 1 - 0).toNat = L by omega] at em
      have et : ss.take (i + 1) = ss.take i ++ [p] := by rw [List.take_add_one, hp]; rfl
      obtain ⟨y', ei⟩ := inner (mk p.1 p.2 0 L) (fun j => (meets (ss.take i) j : Nat)) (.d (SD p)) y fun z hz => by have := mk_mem.mp hz; omega
      refine ⟨_, rfl, _, (0, 0), .inl ?_, rfl, .d (SD p), y', rfl⟩
      have e1 : forS (seqI (callB F__law_marks (consA (varE 3) (consA (cE (.int 0)) (consA (opE subD (varE 1) (cE (.int 1))) nilA))))) (nameG 4)
        (setIxS 2 (varE 4) (opE addD (opE idxD (varT 2) (varE 4)) (cE (.int 1)))) [.d (tupS ss), .d (.int L), .own (.lst (cntL L fun j => (meets (ss.take i) j : Nat))), .d (SD p), y] ((0, 0) : Cu) = forL (nameG 4) (setIxS 2 (varE 4) (opE addD (opE idxD (varT 2) (varE 4)) (cE (.int 1)))) ((mk p.1 p.2 0 L).map .int) [.d (tupS ss), .d (.int L), .own (.lst (cntL L fun j => (meets (ss.take i) j : Nat))), .d (SD p), y] (0, 0) := by
        simp [List.getElem?_set, -getElem?_pos, List.getElem?_cons_zero, List.getElem?_cons_succ, em]
      refine (e1.trans ei).trans ?_
      have ef : (cntL L fun j => ((meets (ss.take i) j : Nat) : Int) + ((mk p.1 p.2 0 L).count (j : Int) : Nat)) = cntL L fun j => ((meets (ss.take (i + 1)) j : Nat) : Int) := by
        unfold cntL
        refine List.map_congr_left fun j hj => ?_
        dsimp only
        rw [cnt_mk (m := p.1) (a := p.2) (List.mem_range.mp hj), et]
        unfold meets
        rw [List.countP_append, List.countP_singleton]
        by_cases q : ((j : Int) - p.1) % p.2 = 0 <;> simp [q]
      rw [ef]) (ρ := [.d (tupS ss), .d (.int L), .own (.lst (cntL L fun _ => 0)), .un, .un]) (c := ((0, 0) : Cu)) ⟨rfl, .un, .un, by simp [meets]⟩
  rw [List.length_map, List.take_length] at e
  have er : List.replicate L (PyData.int 0) = cntL L fun _ => 0 := by
    unfold cntL
    apply List.ext_getElem <;> simp
  have hin : in63 (L : Int) = true := in63_of (by omega) (by omega)
  have hl : L ≤ 16777216 := by omega
  simp only [tupS] at *
  simp [F__law_met, g__law_met, List.getElem?_set, -getElem?_pos, List.getElem?_cons_zero, List.getElem?_cons_succ, hin, er, e, sizeLine_eq, hl]
/-- the spots that all meet -/
def spotsL (ss : List (Int × Nat)) (L : Nat) : List Int := ((List.range L).filter fun j => decide (meets ss j = ss.length)).map fun j : Nat => (j : Int)
theorem spots_mem {ss : List (Int × Nat)} {L : Nat} {y : Int} : y ∈ spotsL ss L ↔ (0 ≤ y ∧ y < L) ∧ allc ss y := by
  have hm : ∀ j : Nat, meets ss j = ss.length ↔ allc ss j := fun j => by
    unfold meets allc
    rw [List.countP_eq_length]
    simp
  unfold spotsL
  rw [List.mem_map]
  constructor
  · rintro ⟨j, hj, rfl⟩
    rw [List.mem_filter, List.mem_range, decide_eq_true_eq, hm] at hj
    exact ⟨⟨by omega, by omega⟩, hj.2⟩
  · rintro ⟨⟨y0, y1⟩, hy⟩
    refine ⟨y.toNat, ?_, by omega⟩
    rw [List.mem_filter, List.mem_range, decide_eq_true_eq, hm, Int.toNat_of_nonneg y0]
    exact ⟨by omega, hy⟩
theorem spots_rise (ss : List (Int × Nat)) (L : Nat) : (spotsL ss L).Pairwise (· < ·) := by
  unfold spotsL
  rw [List.pairwise_map]
  exact (List.Pairwise.filter _ List.pairwise_lt_range).imp fun h => by omega
theorem spots_v {ss : List (Int × Nat)} {v : PyData} (h : CO ss v) : (spotsL ss (lcmL ss) = [] ∧ v = .none) ∨ ∃ x, spotsL ss (lcmL ss) = [x] ∧ v = St x (lcmL ss) := by
  rcases h with ⟨rfl, hn⟩ | ⟨x, rfl, x0, x1, hx⟩
  · exact .inl ⟨List.eq_nil_iff_forall_not_mem.mpr fun y hy => hn y (spots_mem.mp hy).2, rfl⟩
  · refine .inr ⟨x, rising_uniq (spots_rise ..) (List.pairwise_singleton _ _) fun k => ?_, rfl⟩
    rw [spots_mem, List.mem_singleton]
    constructor
    · rintro ⟨⟨k0, k1⟩, hk⟩
      exact allc_uniq k0 k1 x0 x1 hk hx
    · rintro rfl
      exact ⟨⟨x0, x1⟩, hx⟩

end PL

set_option Elab.async false
set_option linter.all false
set_option maxRecDepth 100000
set_option maxHeartbeats 4000000
namespace PL
open PySem PySem.Spec PyProof.Rows L2 RZ
theorem least_rows {ps : List (Int × Int)} (h : ps ≠ []) : ∃ Q ∈ ps, minX [.list (ps.map fun p => tupP [p.1, p.2])] = some (tupP [Q.1, Q.2]) ∧ ∀ R ∈ ps, Q.1 < R.1 ∨ Q.1 = R.1 ∧ Q.2 ≤ R.2 := by
  cases ps with
  | nil => exact absurd rfl h
  | cons P r =>
    obtain ⟨Q, hQ, e, hm⟩ := least_pairs P r
    refine ⟨Q, hQ, ?_, hm⟩
    have := minX_tups [P.1, P.2] (r.map fun p => [p.1, p.2])
    rw [e, List.map_cons, List.map_map] at this
    exact this
def cnt (m1 : Int) (a : Nat) (m2 : Int) (b : Nat) (lo : Int) (n : Nat) (sh : Nat) : Nat := ((mk m1 a lo n).filter fun x => decide ((x - (m2 + sh)) % b = 0)).length
def Best (f : Nat → Nat) (b q : Nat) : Prop := q < b ∧ ∀ r, r < b → f r < f q ∨ f r = f q ∧ q ≤ r
theorem best_uniq {f : Nat → Nat} {b q r : Nat} (h : Best f b q) (h2 : Best f b r) : q = r := by
  have := h.2 r h2.1
  have := h2.2 q h.1
  omega
theorem best_shift_v {m1 m2 lo hi : Int} {a b : Nat} (h1 : IsSt m1 a) (h2 : IsSt m2 b) (l0 : -1000 ≤ lo) (l1 : hi ≤ 1000) (l2 : lo ≤ hi) (l3 : hi - lo ≤ 400) :
    ∃ q, Best (cnt m1 a m2 b lo (hi + 1 - lo).toNat) b q ∧ F_best_shift [St m1 a, St m2 b, .int lo, .int hi] = some (tupP [(cnt m1 a m2 b lo (hi + 1 - lo).toNat q : Nat), (q : Nat)]) := by
  have b0 := h2.c; have b1 := h2.d
  have b0' : (0 : Int) < b := by omega
  have i1 : in62 lo = true := in62_of (by omega) (by omega)
  have i2 : in62 (hi + 1) = true := in62_of (by omega) (by omega)
  have i3 : in62 (b : Int) = true := in62_of (by omega) (by omega)
  have en := need_two_v h1 h2
  have er := need_range_v l0 l1 l2 l3
  have ec := fun c : Cu => marks_comp h1 lo (hi + 1 - lo).toNat (i := 8) (ρ := [.d (St m1 a), .d (St m2 b), .d (.int lo), .d (.int hi), .un, .un, .un, .un, .un]) (c := c) (t := tstB (callB F_has_mark (consA (varE 0) (consA (varE 8) nilA)))) (f := varE 8) (fun k => by simp [List.getElem?_set, -getElem?_pos, List.getElem?_cons_zero, List.getElem?_cons_succ, has_mark_v h1]) (fun k => by simp [List.getElem?_set, -getElem?_pos, List.getElem?_cons_zero, List.getElem?_cons_succ])
  have hn : (hi + 1 - lo).toNat ≤ 401 := by omega
  generalize hN : (hi + 1 - lo).toNat = n at *
  have hl := mk_len m1 a lo n
  let f := cnt m1 a m2 b lo n
  let ps : Nat → List (Int × Int) := fun i => (List.range i).map fun sh : Nat => (-((f sh : Nat) : Int), (sh : Int))
  let rows : Nat → List PyData := fun i => (ps i).map fun p => tupP [p.1, p.2]
  obtain ⟨ρ', c', e, rfl, x, y, z, rfl⟩ := forL_rule (g := nameG 6) (b := (seqS (asgS (tupE (consA (opE addD (opE idxD (varE 1) (cE (.int 0))) (varE 6)) (consA (opE idxD (varE 1) (cE (.int 1))) nilA))) (nameG 7))
    (appS 5 (tupE (consA (unE negD (callB lenD (consA (ofF (compF (seqI (varE 4)) [8] (nameG 8) (tstB (callB F_has_mark (consA (varE 7) (consA (varE 8) nilA)))) (varE 8))) nilA))) (consA (varE 6) nilA)))))) (items := intsD 0 b)
    (fun i ρ c => c = ((0, 0) : Cu) ∧ ∃ x y z, ρ = [.d (St m1 a), .d (St m2 b), .d (.int lo), .d (.int hi), .d (.list ((mk m1 a lo n).map .int)), .own (.lst (rows i)), x, y, z]) (by
      rintro i d ρ c hd ⟨rfl, x, y, z, rfl⟩
      unfold intsD at hd
      rw [List.getElem?_map] at hd
      obtain ⟨k, hk, rfl⟩ := Option.map_eq_some_iff.mp hd
      obtain ⟨hi', hk'⟩ := List.getElem?_eq_some_iff.mp hk
      rw [List.length_range] at hi'
      rw [List.getElem_range] at hk'
      subst hk'
      have e1 := compL_map (g := nameG 8) (t := tstB (callB F_has_mark (consA (varE 7) (consA (varE 8) nilA)))) (f := varE 8) (ρ := [.d (St m1 a), .d (St m2 b), .d (.int lo), .d (.int hi), .d (.list ((mk m1 a lo n).map .int)), .own (.lst (rows i)), .d (.int (0 + (i : Int))), .d (St (m2 + (0 + (i : Int))) b), .un]) (c := ((0, 0) : Cu)) PyData.int (fun x => decide ((x - (m2 + i)) % b = 0)) .int (mk m1 a lo n) fun x _ => ⟨_, rfl, by simp [List.getElem?_set, -getElem?_pos, List.getElem?_cons_zero, List.getElem?_cons_succ, has_mark_p b0'], fun _ => by simp [List.getElem?_set, -getElem?_pos, List.getElem?_cons_zero, List.getElem?_cons_succ]⟩
      have hf := List.length_filter_le (fun x => decide ((x - (m2 + i)) % b = 0)) (mk m1 a lo n)
      have hf2 : ((mk m1 a lo n).filter fun x => decide ((x - (m2 + i)) % b = 0)).length ≤ 16777216 := by omega
      have hr : (rows i).length < 16777216 := by simp [rows, ps]; omega
      have er : rows (i + 1) = rows i ++ [tupP [-((f i : Nat) : Int), (i : Int)]] := by
        simp only [rows, ps]
        rw [List.range_succ, List.map_append, List.map_append]
        rfl
      refine ⟨_, rfl, [.d (St m1 a), .d (St m2 b), .d (.int lo), .d (.int hi), .d (.list ((mk m1 a lo n).map .int)), .own (.lst (rows (i + 1))), .d (.int (0 + (i : Int))), .d (St (m2 + (0 + (i : Int))) b), z], (0, 0), .inl ?_, rfl, _, _, _, rfl⟩
      rw [er]
      generalize rows i = R at *
      simp only [Int.zero_add] at e1 ⊢
      simp [appS, List.getElem?_set, -getElem?_pos, List.getElem?_cons_zero, List.getElem?_cons_succ, atI_0, atI_1, sizeLine_eq, e1, hf2, hr, f, cnt]) (ρ := [.d (St m1 a), .d (St m2 b), .d (.int lo), .d (.int hi), .d (.list ((mk m1 a lo n).map .int)), .own (.lst []), .un, .un, .un]) (c := ((0, 0) : Cu)) ⟨rfl, .un, .un, .un, rfl⟩
  rw [show (intsD 0 b).length = b by simp [intsD]] at e
  have hne : ps b ≠ [] := by
    intro z
    have := congrArg List.length z
    simp [ps] at this
    omega
  obtain ⟨Q, hQ, em, hm⟩ := least_rows hne
  obtain ⟨q, hq, rfl⟩ := List.mem_map.mp hQ
  rw [List.mem_range] at hq
  refine ⟨q, ⟨hq, fun r hr => ?_⟩, ?_⟩
  · have := hm (-((f r : Nat) : Int), (r : Int)) (List.mem_map.mpr ⟨r, List.mem_range.mpr hr, rfl⟩)
    simp only at this
    show f r < f q ∨ f r = f q ∧ q ≤ r
    omega
  · have hl2 : (mk m1 a lo n).length ≤ 16777216 := by omega
    have em : minX [.list (rows b)] = some (tupP [-((f q : Nat) : Int), (q : Int)]) := em
    generalize rows b = R at *
    simp [F_best_shift, g_best_shift, List.getElem?_set, -getElem?_pos, List.getElem?_cons_zero, List.getElem?_cons_succ, en, er, i1, i2, i3, ec, sizeLine_eq, hl2, lstF, ownS, e, em, atI_0, atI_1, f, hN]
end PL

set_option Elab.async false
set_option linter.all false
set_option maxRecDepth 100000
set_option maxHeartbeats 4000000
namespace PL
open PySem PySem.Spec PyProof.Rows L2 RZ
theorem strip_nat {most : Int} (h : 1 ≤ most) (h2 : most ≤ 60) {c : Cu} (hc : CupOk c) : ∃ (m : Int) (a : Nat) (c' : Cu), F__law_strip [.int most] c = some (St m a, c') ∧ IsSt m a ∧ CupOk c' := by
  obtain ⟨m, s, c', e, hS, k⟩ := law_strip_v h h2 hc
  have := hS.c
  refine ⟨m, s.toNat, c', ?_, ?_, k⟩
  · rw [e, Int.toNat_of_nonneg (by omega)]
  · rw [Int.toNat_of_nonneg (by omega)]
    exact hS
theorem any_eqv {x : Int} : ∀ ns : List Int, ((ns.map PyData.int).any fun q => PyData.eqv q (.int x)) = decide (x ∈ ns)
  | [] => by simp
  | a :: r => by
    have ih := any_eqv (x := x) r
    rw [List.map_cons, List.any_cons, ih, eqv_int]
    by_cases h : a = x
    · simp [h]
    · have h' : ¬ x = a := fun z => h z.symm
      simp [h, h']
theorem in_ints {x : Int} {ns : List Int} (h : ns.length ≤ 1000000) : inD false (.int x) (.list (ns.map .int)) = some (.bool (decide (x ∈ ns))) := by
  rw [ev_in_l, if_pos ⟨sh_int x, pl_sh (n := 1) (pl_ints 0 h).2 (by decide)⟩, any_eqv, Bool.false_xor]
theorem step1 {ρ : Rho} {c : Cu} (h : St5 ρ) (hc : CupOk c) :
    ∃ (m1 : Int) (a : Nat) (m2 : Int) (b : Nat) (c' : Cu), l_1 ρ c = .nx ((ρ.set 11 (.d (St m1 a))).set 12 (.d (St m2 b))) c' ∧ IsSt m1 a ∧ IsSt m2 b ∧ CupOk c' := by
  have hm2 : ∀ i : Int, i ∈ ([5, 30] : List Int) → 1 ≤ i ∧ i ≤ 60 := fun i hm => by simp only [List.mem_cons, List.not_mem_nil, or_false] at hm; omega
  obtain ⟨s1, c1, e1, q1, k1⟩ := some_ints (ns := [5, 30]) (by simp) (by simp) hc
  obtain ⟨m1, a, c2, e2, hS, k2⟩ := strip_nat (hm2 _ q1).1 (hm2 _ q1).2 k1
  obtain ⟨s2, c3, e3, q3, k3⟩ := some_ints (ns := [5, 30]) (by simp) (by simp) k2
  obtain ⟨m2, b, c4, e4, hS2, k4⟩ := strip_nat (hm2 _ q3).1 (hm2 _ q3).2 k3
  simp only [List.map_cons, List.map_nil] at e1 e3
  exact ⟨m1, a, m2, b, c4, by simp [l_1, List.getElem?_set, -getElem?_pos, List.getElem?_cons_zero, List.getElem?_cons_succ, h.cup, e1, e2, e3, e4, sizeLine_eq], hS, hS2, k4⟩
theorem step2 {ρ : Rho} {c : Cu} (h : St5 ρ) (hc : CupOk c) : ∃ lo c', l_2 ρ c = .nx (ρ.set 5 (.d (.int lo))) c' ∧ -150 ≤ lo ∧ lo ≤ 150 ∧ CupOk c' := by
  obtain ⟨a, c1, e1, a0, a1, k1⟩ := roll_spec (many := 301) (by decide) (by decide) hc
  exact ⟨a - 150, c1, asg_nx (by simp [List.getElem?_set, -getElem?_pos, List.getElem?_cons_zero, List.getElem?_cons_succ, h.cup, e1]), by omega, by omega, k1⟩
theorem step3 {ρ : Rho} {c : Cu} {lo : Int} (h : St5 ρ) (h5 : ρ[5]? = some (.d (.int lo))) (hc : CupOk c) : ∃ hi c', l_3 ρ c = .nx (ρ.set 6 (.d (.int hi))) c' ∧ lo ≤ hi ∧ hi ≤ lo + 80 ∧ CupOk c' := by
  obtain ⟨a, c2, e2, a0, a1, k2⟩ := roll_spec (many := 80) (by decide) (by decide) hc
  exact ⟨lo + a, c2, asg_nx (by simp [List.getElem?_set, -getElem?_pos, List.getElem?_cons_zero, List.getElem?_cons_succ, h.cup, h5, e2]), by omega, by omega, k2⟩
section
variable {ρ : Rho} {c : Cu} {m1 m2 lo hi : Int} {a b : Nat}
structure Kp (m1 : Int) (a : Nat) (m2 : Int) (b : Nat) (lo hi : Int) (ρ : Rho) : Prop where
  st : St5 ρ
  h5 : ρ[5]? = some (.d (.int lo))
  h6 : ρ[6]? = some (.d (.int hi))
  h11 : ρ[11]? = some (.d (St m1 a))
  h12 : ρ[12]? = some (.d (St m2 b))
  h14 : ρ[14]? = some (.d (.list ((mk m1 a lo (hi + 1 - lo).toNat).map .int)))
theorem Kp.set (h : Kp m1 a m2 b lo hi ρ) {i : Nat} {x : Sl} (q : i ≠ 1 ∧ i ≠ 5 ∧ i ≠ 6 ∧ i ≠ 11 ∧ i ≠ 12 ∧ i ≠ 14) : Kp m1 a m2 b lo hi (ρ.set i x) :=
  ⟨h.st.set q.1, by rw [List.getElem?_set_ne q.2.1]; exact h.h5, by rw [List.getElem?_set_ne q.2.2.1]; exact h.h6, by rw [List.getElem?_set_ne q.2.2.2.1]; exact h.h11, by rw [List.getElem?_set_ne q.2.2.2.2.1]; exact h.h12, by rw [List.getElem?_set_ne q.2.2.2.2.2]; exact h.h14⟩
theorem step4 (h : St5 ρ) (h5 : ρ[5]? = some (.d (.int lo))) (h6 : ρ[6]? = some (.d (.int hi))) (h11 : ρ[11]? = some (.d (St m1 a))) (hS : IsSt m1 a) (q0 : lo ≤ hi) (q1 : hi ≤ lo + 80) :
    l_4 ρ c = .nx ((ρ.set 13 (.d .none)).set 14 (.d (.list ((mk m1 a lo (hi + 1 - lo).toNat).map .int)))) c := by
  have e := law_marks_v (m := m1) (s := a) (lo := lo) (hi := hi) (by have := hS.c; omega) (by omega) (by omega)
  simp [l_4, List.getElem?_set, -getElem?_pos, List.getElem?_cons_zero, List.getElem?_cons_succ, h5, h6, h11, e]
def BestV (f : Nat → Nat) (i : Nat) (v : PyData) : Prop := (i = 0 ∧ v = .none) ∨ ∃ q : Nat, Best f i q ∧ v = tupP [(f q : Nat), (q : Nat)]
theorem turn1 (h1 : IsSt m1 a) (h2 : IsSt m2 b) (q0 : lo ≤ hi) (q1 : hi ≤ lo + 80) {i : Nat} {v : PyData} (hk : Kp m1 a m2 b lo hi ρ) (h7 : ρ[7]? = some (.d (.int (i : Nat)))) (h13 : ρ[13]? = some (.d v)) (hv : BestV (cnt m1 a m2 b lo (hi + 1 - lo).toNat) i v) :
    ∃ ρ' v', lb_1 ρ c = .nx ρ' c ∧ Kp m1 a m2 b lo hi ρ' ∧ ρ'[13]? = some (.d v') ∧ BestV (cnt m1 a m2 b lo (hi + 1 - lo).toNat) (i + 1) v' := by
  have b0 := h2.c
  have hL : ρ.length = 18 := hk.st.len
  have e := law_marks_v (m := m2 + i) (s := b) (lo := lo) (hi := hi) (by omega) (by omega) (by omega)
  have hn : (hi + 1 - lo).toNat ≤ 81 := by omega
  have k14 := hk.h14
  generalize hN : (hi + 1 - lo).toNat = n at *
  have l1 := mk_len m1 a lo n
  have l2 := mk_len (m2 + i) b lo n
  have s5 : l_5 ρ c = .nx (ρ.set 15 (.d (.list ((mk (m2 + i) b lo n).map .int)))) c := asg_nx (by simp [List.getElem?_set, -getElem?_pos, List.getElem?_cons_zero, List.getElem?_cons_succ, hk.h12, hk.h5, hk.h6, h7, atI_0, atI_1, e, sizeLine_eq])
  have ei := fun x : Int => in_ints (x := x) (ns := mk (m2 + i) b lo n) (by omega)
  have ec := compL_map (g := nameG 17) (t := tstB (opE (inD false) (varE 17) (varE 15))) (f := varE 17) (ρ := (ρ.set 15 (.d (.list ((mk (m2 + i) b lo n).map .int)))).set 17 .un) (c := c) PyData.int (fun x => decide (x ∈ mk (m2 + i) b lo n)) .int (mk m1 a lo n) fun x _ => ⟨_, rfl, by simp [List.getElem?_set, -getElem?_pos, List.getElem?_cons_zero, List.getElem?_cons_succ, hL, ei, -ev_in_l], fun _ => by simp [List.getElem?_set, -getElem?_pos, List.getElem?_cons_zero, List.getElem?_cons_succ, hL]⟩
  have ef : (mk m1 a lo n).filter (fun x => decide (x ∈ mk (m2 + i) b lo n)) = (mk m1 a lo n).filter fun x => decide ((x - (m2 + i)) % b = 0) := by
    refine List.filter_congr fun x hx => ?_
    rw [decide_eq_decide, mk_mem]
    obtain ⟨x0, x1, _⟩ := mk_mem.mp hx
    exact ⟨fun z => z.2.2, fun z => ⟨x0, x1, z⟩⟩
  rw [ef] at ec
  have hf := List.length_filter_le (fun x => decide ((x - (m2 + i)) % b = 0)) (mk m1 a lo n)
  have hf2 : ((mk m1 a lo n).filter fun x => decide ((x - (m2 + i)) % b = 0)).length ≤ 16777216 := by omega
  have s6 : l_6 (ρ.set 15 (.d (.list ((mk (m2 + i) b lo n).map .int)))) c = .nx ((ρ.set 15 (.d (.list ((mk (m2 + i) b lo n).map .int)))).set 16 (.d (.int (cnt m1 a m2 b lo n i : Nat)))) c := asg_nx (by
    have k2 : (ρ.set 15 (.d (.list ((mk (m2 + i) b lo n).map .int))))[14]? = some (.d (.list ((mk m1 a lo n).map .int))) := by simp [List.getElem?_set, -getElem?_pos, List.getElem?_cons_zero, List.getElem?_cons_succ, k14]
    generalize ρ.set 15 (.d (.list ((mk (m2 + i) b lo n).map .int))) = r at *
    simp [List.getElem?_set, -getElem?_pos, List.getElem?_cons_zero, List.getElem?_cons_succ, k2, ec, sizeLine_eq, hf2, cnt])
  have K2 := (hk.set (i := 15) (x := .d (.list ((mk (m2 + i) b lo n).map .int))) (by decide)).set (i := 16) (x := .d (.int (cnt m1 a m2 b lo n i : Nat))) (by decide)
  have g7 : ((ρ.set 15 (.d (.list ((mk (m2 + i) b lo n).map .int)))).set 16 (.d (.int (cnt m1 a m2 b lo n i : Nat))))[7]? = some (.d (.int (i : Nat))) := by simp [List.getElem?_set, -getElem?_pos, List.getElem?_cons_zero, List.getElem?_cons_succ, h7]
  have g13 : ((ρ.set 15 (.d (.list ((mk (m2 + i) b lo n).map .int)))).set 16 (.d (.int (cnt m1 a m2 b lo n i : Nat))))[13]? = some (.d v) := by simp [List.getElem?_set, -getElem?_pos, List.getElem?_cons_zero, List.getElem?_cons_succ, h13]
  have g16 : ((ρ.set 15 (.d (.list ((mk (m2 + i) b lo n).map .int)))).set 16 (.d (.int (cnt m1 a m2 b lo n i : Nat))))[16]? = some (.d (.int (cnt m1 a m2 b lo n i : Nat))) := by simp [List.getElem?_set, -getElem?_pos, List.getElem?_cons_zero, List.getElem?_cons_succ, hL]
  unfold lb_1
  rw [seqS_nx s5, seqS_nx s6]
  generalize (ρ.set 15 (.d (.list ((mk (m2 + i) b lo n).map .int)))).set 16 (.d (.int (cnt m1 a m2 b lo n i : Nat))) = r at *
  have hLr : r.length = 18 := K2.st.len
  generalize cnt m1 a m2 b lo n = f at *
  have fin : ∀ v' : PyData, l_7 r c = .nx (r.set 13 (.d v')) c → BestV f (i + 1) v' → ∃ ρ' v', l_7 r c = .nx ρ' c ∧ Kp m1 a m2 b lo hi ρ' ∧ ρ'[13]? = some (.d v') ∧ BestV f (i + 1) v' := fun v' e hb =>
    ⟨_, v', e, K2.set (by decide), by rw [List.getElem?_set_self (by rw [hLr]; decide)], hb⟩
  rcases hv with ⟨rfl, rfl⟩ | ⟨q, hq, rfl⟩
  · refine fin (tupP [(f 0 : Nat), ((0 : Nat) : Int)]) (asg_nx (by simp [List.getElem?_set, -getElem?_pos, List.getElem?_cons_zero, List.getElem?_cons_succ, g7, g13, g16, sizeLine_eq])) (.inr ⟨0, ⟨by omega, fun r hr => ?_⟩, rfl⟩)
    have : r = 0 := by omega
    subst this
    omega
  · by_cases hb : f q < f i
    · refine fin (tupP [(f i : Nat), (i : Nat)]) (asg_nx (by simp [List.getElem?_set, -getElem?_pos, List.getElem?_cons_zero, List.getElem?_cons_succ, g7, g13, g16, atI_0, hb, sizeLine_eq])) (.inr ⟨i, ⟨by omega, fun r hr => ?_⟩, rfl⟩)
      rcases Nat.lt_or_ge r i with z | z
      · have := hq.2 r z
        omega
      · have : r = i := by omega
        subst this
        omega
    · refine fin (tupP [(f q : Nat), (q : Nat)]) (asg_nx (by simp [List.getElem?_set, -getElem?_pos, List.getElem?_cons_zero, List.getElem?_cons_succ, g7, g13, g16, atI_0, hb, sizeLine_eq])) (.inr ⟨q, ⟨by have := hq.1; omega, fun r hr => ?_⟩, rfl⟩)
      rcases Nat.lt_or_ge r i with z | z
      · exact hq.2 r z
      · have : r = i := by omega
        subst this
        have := hq.1
        omega
end
end PL

set_option Elab.async false
set_option linter.all false
set_option maxRecDepth 100000
set_option maxHeartbeats 4000000
namespace PL
open PySem PySem.Spec PyProof.Rows L2 RZ
section
variable {ρ : Rho} {c : Cu} {m1 m2 lo hi : Int} {a b : Nat}
theorem loop1 (h1 : IsSt m1 a) (h2 : IsSt m2 b) (q0 : lo ≤ hi) (q1 : hi ≤ lo + 80) (hk : Kp m1 a m2 b lo hi ρ) (h13 : ρ[13]? = some (.d .none)) :
    ∃ ρ' q, forS (range1I (consA (opE idxD (varE 12) (cE (.int 1))) nilA)) (nameG 7) lb_1 ρ c = .nx ρ' c ∧ Kp m1 a m2 b lo hi ρ' ∧ Best (cnt m1 a m2 b lo (hi + 1 - lo).toNat) b q ∧ ρ'[13]? = some (.d (tupP [(cnt m1 a m2 b lo (hi + 1 - lo).toNat q : Nat), (q : Nat)])) := by
  have b0 := h2.c; have b1 := h2.d
  obtain ⟨ρ', c', e, rfl, K, v, hv, hb⟩ := forL_rule (g := nameG 7) (b := lb_1) (items := intsD 0 b) (fun i ρ c' => c' = c ∧ Kp m1 a m2 b lo hi ρ ∧ ∃ v, ρ[13]? = some (.d v) ∧ BestV (cnt m1 a m2 b lo (hi + 1 - lo).toNat) i v) (by
    rintro i d ρ c' hd ⟨rfl, K, v, hv, hb⟩
    unfold intsD at hd
    rw [List.getElem?_map] at hd
    obtain ⟨k, hk, rfl⟩ := Option.map_eq_some_iff.mp hd
    obtain ⟨hi', hk'⟩ := List.getElem?_eq_some_iff.mp hk
    rw [List.getElem_range] at hk'
    subst hk'
    obtain ⟨ρ', v', e, K', hv', hb'⟩ := turn1 (c := c') h1 h2 q0 q1 (i := i) (v := v) (ρ := ρ.set 7 (.d (.int (0 + (i : Nat))))) (K.set (by decide)) (by rw [List.getElem?_set_self (by rw [K.st.len]; decide), Int.zero_add]) (by rw [List.getElem?_set_ne (by decide)]; exact hv) hb
    exact ⟨_, rfl, ρ', c', .inl e, rfl, K', v', hv', hb'⟩) (ρ := ρ) (c := c) ⟨rfl, hk, .none, h13, .inl ⟨rfl, rfl⟩⟩
  rw [show (intsD 0 b).length = b by simp [intsD]] at hb
  have hin : in62 (b : Int) = true := in62_of (by omega) (by omega)
  rcases hb with ⟨z, _⟩ | ⟨q, hq, rfl⟩
  · omega
  · refine ⟨ρ', q, ?_, K, hq, hv⟩
    simp [List.getElem?_set, -getElem?_pos, List.getElem?_cons_zero, List.getElem?_cons_succ, hk.h12, atI_1, hin]
    exact e
theorem step9 (h1 : IsSt m1 a) (h2 : IsSt m2 b) (l0 : -150 ≤ lo) (l1 : lo ≤ 150) (q0 : lo ≤ hi) (q1 : hi ≤ lo + 80) (hk : Kp m1 a m2 b lo hi ρ) {q : Nat} (hq : Best (cnt m1 a m2 b lo (hi + 1 - lo).toNat) b q) (h13 : ρ[13]? = some (.d (tupP [(cnt m1 a m2 b lo (hi + 1 - lo).toNat q : Nat), (q : Nat)]))) :
    l_9 ρ c = .nx ρ c := by
  obtain ⟨q', hq', e⟩ := best_shift_v h1 h2 (lo := lo) (hi := hi) (by omega) (by omega) q0 (by omega)
  rw [best_uniq hq' hq] at e
  have hs := same_true 7 (tupP [(cnt m1 a m2 b lo (hi + 1 - lo).toNat q : Nat), (q : Nat)]) (pl_ints 6 (by simp)).1
  generalize cnt m1 a m2 b lo (hi + 1 - lo).toNat q = n at *
  simp only [tupP, List.map_cons, List.map_nil] at *
  exact ifS_f (by simp [List.getElem?_set, -getElem?_pos, List.getElem?_cons_zero, List.getElem?_cons_succ, hk.h11, hk.h12, hk.h5, hk.h6, h13, e, hs])
theorem step11 (h1 : IsSt m1 a) (l0 : -150 ≤ lo) (l1 : lo ≤ 150) (q0 : lo ≤ hi) (q1 : hi ≤ lo + 80) (hk : Kp m1 a m2 b lo hi ρ) {q : Nat} (h13 : ρ[13]? = some (.d (tupP [(cnt m1 a m2 b lo (hi + 1 - lo).toNat q : Nat), (q : Nat)]))) :
    l_11 ρ c = .nx ρ c := by
  have e := marks_in_v h1 (lo := lo) (hi := hi) (by omega) (by omega) q0 (by omega)
  have hf := List.length_filter_le (fun x => decide ((x - (m2 + q)) % b = 0)) (mk m1 a lo (hi + 1 - lo).toNat)
  have hc : ¬ ((mk m1 a lo (hi + 1 - lo).toNat).length < cnt m1 a m2 b lo (hi + 1 - lo).toNat q) := by unfold cnt; omega
  generalize cnt m1 a m2 b lo (hi + 1 - lo).toNat q = n at *
  simp only [tupP, List.map_cons, List.map_nil] at *
  exact ifS_f (by simp [List.getElem?_set, -getElem?_pos, List.getElem?_cons_zero, List.getElem?_cons_succ, hk.h11, hk.h5, hk.h6, h13, e, atI_0]; omega)
end
theorem step12 {ρ : Rho} {c : Cu} (h : St5 ρ) (hc : CupOk c) : ∃ ss c', l_12 ρ c = .nx (ρ.set 8 (.d (tupS ss))) c' ∧ IsSs ss ∧ CupOk c' := by
  obtain ⟨d, c1, e1, hd, k1⟩ := some_spec (ds := [.list [.int 2, .int 3, .int 4], .list [.int 2, .int 4, .int 8, .int 12], .list [.int 5, .int 7, .int 3]]) (by simp) (by simp) hc
  have hd2 : ∃ (ns : List Int) (N : Nat), d = .list (ns.map .int) ∧ ns ≠ [] ∧ ns.length < 1000 ∧ (∀ s ∈ ns, 1 ≤ s ∧ s ≤ 60 ∧ s.toNat ∣ N) ∧ 0 < N ∧ N ≤ 5000 := by
    simp only [List.mem_cons, List.not_mem_nil, or_false] at hd
    rcases hd with rfl | rfl | rfl
    · exact ⟨[2, 3, 4], 12, rfl, by decide, by decide, by decide, by decide, by decide⟩
    · exact ⟨[2, 4, 8, 12], 24, rfl, by decide, by decide, by decide, by decide, by decide⟩
    · exact ⟨[5, 7, 3], 105, rfl, by decide, by decide, by decide, by decide, by decide⟩
  obtain ⟨ns, N, rfl, n0, n1, n2, n3, n4⟩ := hd2
  obtain ⟨ss, c2, e2, hS, k2⟩ := law_strips_v n0 n1 n2 n3 n4 k1
  exact ⟨ss, c2, asg_nx (by simp [List.getElem?_set, -getElem?_pos, List.getElem?_cons_zero, List.getElem?_cons_succ, h.cup, e1, e2, sizeLine_eq]), hS, k2⟩
section
variable {ρ : Rho} {c : Cu} {ss : List (Int × Nat)}
theorem step13 (h : IsSs ss) (h8 : ρ[8]? = some (.d (tupS ss))) : l_13 ρ c = .nx (ρ.set 9 (.d (.int (lcmL ss : Nat)))) c := by
  have e := law_round_v h
  simp only [tupS] at *
  exact asg_nx (by simp [List.getElem?_set, -getElem?_pos, List.getElem?_cons_zero, List.getElem?_cons_succ, h8, e])
theorem step14 (h : IsSs ss) (hL : ρ.length = law0.length) (h8 : ρ[8]? = some (.d (tupS ss))) (h9 : ρ[9]? = some (.d (.int (lcmL ss : Nat)))) : l_14 ρ c = .nx (ρ.set 10 (.d (.list ((spotsL ss (lcmL ss)).map .int)))) c := by
  have e := law_met_v h h.lcm (lcmL_pos ss h.pos)
  have hl := h.lcm
  generalize lcmL ss = L at *
  have hL' : ρ.length = 18 := hL
  have ee : enumD (cntL L fun j => ((meets ss j : Nat) : Int)) = (List.range L).map fun k : Nat => .tuple [.int (k : Nat), .int (meets ss k : Nat)] := by
    unfold enumD
    rw [cntL_len]
    refine List.map_congr_left fun k hk => ?_
    rw [List.getD_eq_getElem?_getD, cntL_get (List.mem_range.mp hk)]
    rfl
  have ec := compL_map (g := tupG 2 (consG (nameG 17) (consG (nameG 16) nilG))) (t := tstB (opE eqD (varE 16) (callB lenD (consA (varE 8) nilA)))) (f := varE 17) (ρ := (ρ.set 16 .un).set 17 .un) (c := c) (fun k : Nat => PyData.tuple [.int (k : Nat), .int (meets ss k : Nat)]) (fun k => decide (meets ss k = ss.length)) (fun k : Nat => .int (k : Nat)) (List.range L) fun k _ => ⟨_, rfl, by
    simp only [tupS] at h8
    simp [List.getElem?_set, -getElem?_pos, List.getElem?_cons_zero, List.getElem?_cons_succ, hL', h8, sh_int, eqv_int]
    omega, fun _ => by simp [List.getElem?_set, -getElem?_pos, List.getElem?_cons_zero, List.getElem?_cons_succ, hL']⟩
  have es : ((List.range L).filter fun k => decide (meets ss k = ss.length)).map (fun k : Nat => PyData.int (k : Nat)) = (spotsL ss L).map .int := by
    unfold spotsL
    rw [List.map_map]
    rfl
  rw [es] at ec
  have hl2 : (spotsL ss L).length ≤ 16777216 := by
    unfold spotsL
    rw [List.length_map]
    have := List.length_filter_le (fun k => decide (meets ss k = ss.length)) (List.range L)
    rw [List.length_range] at this
    omega
  simp only [tupS] at *
  refine asg_nx ?_
  simp [List.getElem?_set, -getElem?_pos, List.getElem?_cons_zero, List.getElem?_cons_succ, h8, h9, e, ee, ec, sizeLine_eq, hl2]
theorem step16 (h : IsSs ss) (h8 : ρ[8]? = some (.d (tupS ss))) (h9 : ρ[9]? = some (.d (.int (lcmL ss : Nat)))) (h10 : ρ[10]? = some (.d (.list ((spotsL ss (lcmL ss)).map .int)))) : l_16 ρ c = .nx ρ c := by
  obtain ⟨v, e, hv⟩ := common_of_v h
  have s0 : SeqAt.shaped (.list []) = true := pl_sh (n := 1) (pl_ints 0 (ns := []) (by simp)).2 (by decide)
  rcases spots_v hv with ⟨eb, rfl⟩ | ⟨x, eb, rfl⟩
  · rw [eb] at h10
    have s2 : PyData.eqv (.list []) (.list []) = true := rfl
    have hs := same_true 7 .none trivial
    simp only [tupS] at *
    exact ifS_f (by simp [List.getElem?_set, -getElem?_pos, List.getElem?_cons_zero, List.getElem?_cons_succ, h8, h9, h10, e, s0, s2, hs, sizeLine_eq])
  · rw [eb] at h10
    have s1 : SeqAt.shaped (.list [.int x]) = true := pl_sh (n := 1) (pl_ints 0 (ns := [x]) (by simp)).2 (by decide)
    have s2 : PyData.eqv (.list [.int x]) (.list []) = false := by simp [PyData.eqv, PyData.eqvAll]
    have hs := same_true 7 (St x (lcmL ss)) (pl_ints 6 (ns := [x, lcmL ss]) (by simp)).1
    simp only [tupS] at *
    exact ifS_f (by simp [List.getElem?_set, -getElem?_pos, List.getElem?_cons_zero, List.getElem?_cons_succ, h8, h9, h10, e, s0, s1, s2, atI_0, hs, sizeLine_eq])
end
end PL

set_option Elab.async false
set_option linter.all false
set_option maxRecDepth 100000
set_option maxHeartbeats 4000000
namespace PL
open PySem PySem.Spec PyProof.Rows L2 RZ
theorem turn_ok {ρ : Rho} {c : Cu} (h : St5 ρ) (hc : CupOk c) : ∃ ρ' c', lb_2 ρ c = .nx ρ' c' ∧ St5 ρ' ∧ CupOk c' := by
  obtain ⟨m1, a, m2, b, c1, e1, S1, S2, k1⟩ := step1 h hc
  have H1 := (h.set (i := 11) (x := .d (St m1 a)) (by decide)).set (i := 12) (x := .d (St m2 b)) (by decide)
  have L : ρ.length = 18 := h.len
  have g11 : ((ρ.set 11 (.d (St m1 a))).set 12 (.d (St m2 b)))[11]? = some (.d (St m1 a)) := by simp [List.getElem?_set, -getElem?_pos, List.getElem?_cons_zero, List.getElem?_cons_succ, L]
  have g12 : ((ρ.set 11 (.d (St m1 a))).set 12 (.d (St m2 b)))[12]? = some (.d (St m2 b)) := by simp [List.getElem?_set, -getElem?_pos, List.getElem?_cons_zero, List.getElem?_cons_succ, L]
  generalize (ρ.set 11 (.d (St m1 a))).set 12 (.d (St m2 b)) = r1 at *
  have L1 : r1.length = 18 := H1.len
  obtain ⟨lo, c2, e2, p0, p1, k2⟩ := step2 H1 k1
  have H2 := H1.set (i := 5) (x := .d (.int lo)) (by decide)
  obtain ⟨hi, c3, e3, q0, q1, k3⟩ := step3 (lo := lo) H2 (by simp [List.getElem?_set, -getElem?_pos, List.getElem?_cons_zero, List.getElem?_cons_succ, L1]) k2
  have H3 := H2.set (i := 6) (x := .d (.int hi)) (by decide)
  have j5 : ((r1.set 5 (.d (.int lo))).set 6 (.d (.int hi)))[5]? = some (.d (.int lo)) := by simp [List.getElem?_set, -getElem?_pos, List.getElem?_cons_zero, List.getElem?_cons_succ, L1]
  have j6 : ((r1.set 5 (.d (.int lo))).set 6 (.d (.int hi)))[6]? = some (.d (.int hi)) := by simp [List.getElem?_set, -getElem?_pos, List.getElem?_cons_zero, List.getElem?_cons_succ, L1]
  have j11 : ((r1.set 5 (.d (.int lo))).set 6 (.d (.int hi)))[11]? = some (.d (St m1 a)) := by simp [List.getElem?_set, -getElem?_pos, List.getElem?_cons_zero, List.getElem?_cons_succ, g11]
  have j12 : ((r1.set 5 (.d (.int lo))).set 6 (.d (.int hi)))[12]? = some (.d (St m2 b)) := by simp [List.getElem?_set, -getElem?_pos, List.getElem?_cons_zero, List.getElem?_cons_succ, g12]
  generalize (r1.set 5 (.d (.int lo))).set 6 (.d (.int hi)) = r3 at *
  have L3 : r3.length = 18 := H3.len
  have e4 := step4 (c := c3) H3 j5 j6 j11 S1 q0 q1
  have H4 := (H3.set (i := 13) (x := .d .none) (by decide)).set (i := 14) (x := .d (.list ((mk m1 a lo (hi + 1 - lo).toNat).map .int))) (by decide)
  have K4 : Kp m1 a m2 b lo hi ((r3.set 13 (.d .none)).set 14 (.d (.list ((mk m1 a lo (hi + 1 - lo).toNat).map .int)))) := ⟨H4, by simp [List.getElem?_set, -getElem?_pos, List.getElem?_cons_zero, List.getElem?_cons_succ, j5], by simp [List.getElem?_set, -getElem?_pos, List.getElem?_cons_zero, List.getElem?_cons_succ, j6], by simp [List.getElem?_set, -getElem?_pos, List.getElem?_cons_zero, List.getElem?_cons_succ, j11], by simp [List.getElem?_set, -getElem?_pos, List.getElem?_cons_zero, List.getElem?_cons_succ, j12], by simp [List.getElem?_set, -getElem?_pos, List.getElem?_cons_zero, List.getElem?_cons_succ, L3]⟩
  have j13 : ((r3.set 13 (.d .none)).set 14 (.d (.list ((mk m1 a lo (hi + 1 - lo).toNat).map .int))))[13]? = some (.d .none) := by simp [List.getElem?_set, -getElem?_pos, List.getElem?_cons_zero, List.getElem?_cons_succ, L3]
  generalize (r3.set 13 (.d .none)).set 14 (.d (.list ((mk m1 a lo (hi + 1 - lo).toNat).map .int))) = r4 at *
  obtain ⟨r5, q, e5, K5, hq, j13'⟩ := loop1 (c := c3) S1 S2 q0 q1 K4 j13
  have e9 := step9 (c := c3) S1 S2 p0 p1 q0 q1 K5 hq j13'
  have e11 := step11 (c := c3) S1 p0 p1 q0 q1 K5 j13'
  obtain ⟨ss, c12, e12, hS, k12⟩ := step12 K5.st k3
  have H12 := K5.st.set (i := 8) (x := .d (tupS ss)) (by decide)
  have L5 : r5.length = 18 := K5.st.len
  have i8 : (r5.set 8 (.d (tupS ss)))[8]? = some (.d (tupS ss)) := by rw [List.getElem?_set_self (by rw [L5]; decide)]
  generalize r5.set 8 (.d (tupS ss)) = r6 at *
  have L6 : r6.length = 18 := H12.len
  have e13 := step13 (c := c12) hS i8
  have H13 := H12.set (i := 9) (x := .d (.int (lcmL ss : Nat))) (by decide)
  have i8' : (r6.set 9 (.d (.int (lcmL ss : Nat))))[8]? = some (.d (tupS ss)) := by rw [List.getElem?_set_ne (by decide)]; exact i8
  have i9 : (r6.set 9 (.d (.int (lcmL ss : Nat))))[9]? = some (.d (.int (lcmL ss : Nat))) := by rw [List.getElem?_set_self (by rw [L6]; decide)]
  generalize r6.set 9 (.d (.int (lcmL ss : Nat))) = r7 at *
  have L7 : r7.length = 18 := H13.len
  have e14 := step14 (c := c12) hS H13.len i8' i9
  have H14 := H13.set (i := 10) (x := .d (.list ((spotsL ss (lcmL ss)).map .int))) (by decide)
  have e16 := step16 (ρ := r7.set 10 (.d (.list ((spotsL ss (lcmL ss)).map .int)))) (c := c12) hS (by rw [List.getElem?_set_ne (by decide)]; exact i8') (by rw [List.getElem?_set_ne (by decide)]; exact i9) (by rw [List.getElem?_set_self (by rw [L7]; decide)])
  refine ⟨_, c12, ?_, H14, k12⟩
  unfold lb_2
  rw [seqS_nx e1, seqS_nx e2, seqS_nx e3, seqS_nx e4, seqS_nx e5, seqS_nx e9, seqS_nx e11, seqS_nx e12, seqS_nx e13, seqS_nx e14, e16]
theorem law_true : LawTrue := by
  intro c hc
  obtain ⟨ρ, c1, e, H, k⟩ := forL_rule (g := nameG 2) (b := lb_2) (items := intsD 0 5) (fun _ ρ c => St5 ρ ∧ CupOk c) (fun i d ρ c _ h => by
    obtain ⟨ρ', c', e, H, k⟩ := turn_ok (h.1.set (i := 2) (x := .d d) (by decide)) h.2
    exact ⟨_, rfl, ρ', c', .inl e, H, k⟩) (ρ := law0) (c := c) ⟨⟨rfl, rfl⟩, hc⟩
  have e0 : forS (range1I (consA (cE (.int 5)) nilA)) (nameG 2) lb_2 law0 c = .nx ρ c1 := by
    simp
    exact e
  have L0 : ρ.length = 18 := H.len
  obtain ⟨s1, c2, f1, s10, s11, k2⟩ := roll_spec (many := 60) (by decide) (by decide) k
  obtain ⟨s, hs⟩ : ∃ s : Nat, 1 + s1 = s := ⟨(1 + s1).toNat, by omega⟩
  have e17 : l_17 ρ c1 = .nx (ρ.set 3 (.d (.int s))) c2 := asg_nx (by simp [List.getElem?_set, -getElem?_pos, List.getElem?_cons_zero, List.getElem?_cons_succ, H.cup, f1, hs])
  have S0 : IsSt 0 s := ⟨by omega, by omega, by omega, by omega⟩
  have S7 : IsSt 7 s := ⟨by omega, by omega, by omega, by omega⟩
  have S5 : IsSt 5 s := ⟨by omega, by omega, by omega, by omega⟩
  have hs0 : 0 < s := by omega
  obtain ⟨q, hq, b1⟩ := best_shift_v S0 S7 (lo := -200) (hi := 200) (by decide) (by decide) (by decide) (by decide)
  have hq2 : (q : Int) = (-7) % (s : Int) := by
    have hz : ((200 : Int) + 1 - -200).toNat = 401 := by decide
    rw [hz] at hq
    have r0 := Int.emod_nonneg (-7) (show (s : Int) ≠ 0 by omega)
    have r1 := Int.emod_lt_of_pos (-7) (show (0 : Int) < s by omega)
    have hd : ((7 : Int) + (-7) % s) % s = 0 := by
      have e := Int.mul_ediv_add_emod (-7) s
      rw [show (7 : Int) + (-7) % (s : Int) = s * (-(-7 / (s : Int))) by rw [Int.mul_neg]; omega]
      exact Int.mul_emod_right _ _
    obtain ⟨t, ht⟩ : ∃ t : Nat, (-7) % (s : Int) = t := ⟨((-7) % (s : Int)).toNat, by omega⟩
    rw [ht] at hd r0 r1 ⊢
    have hin : (0 : Int) ∈ mk 0 s (-200) 401 := mk_mem.mpr ⟨by decide, by decide, by simp⟩
    have full : cnt 0 s 7 s (-200) 401 t = (mk 0 s (-200) 401).length := by
      unfold cnt
      rw [List.filter_eq_self.mpr]
      intro x hx
      have := (mk_mem.mp hx).2.2
      rw [Int.sub_zero] at this
      refine decide_eq_true ?_
      rw [Int.sub_emod, this, hd]
      simp
    have none_ : ∀ r : Nat, r < s → r ≠ t → cnt 0 s 7 s (-200) 401 r = 0 := fun r hr hne => by
      unfold cnt
      rw [List.length_eq_zero_iff, List.filter_eq_nil_iff]
      intro x hx hy
      have h1 := (mk_mem.mp hx).2.2
      have h2 := of_decide_eq_true hy
      rw [Int.sub_zero] at h1
      have d1 := Int.dvd_sub (Int.dvd_of_emod_eq_zero h1) (Int.dvd_of_emod_eq_zero h2)
      have d2 := Int.dvd_sub d1 (Int.dvd_of_emod_eq_zero hd)
      rw [show x - (x - (7 + (r : Int))) - (7 + (t : Int)) = (r : Int) - t by omega] at d2
      have n1 := Int.natAbs_dvd_natAbs.mpr d2
      rw [Int.natAbs_natCast] at n1
      have := Nat.eq_zero_of_dvd_of_lt n1 (by omega)
      omega
    have hb : Best (cnt 0 s 7 s (-200) 401) s t := by
      refine ⟨by omega, fun r hr => ?_⟩
      by_cases e : r = t
      · subst e
        exact .inr ⟨rfl, Nat.le_refl _⟩
      · rw [none_ r hr e, full]
        exact .inl (List.length_pos_of_mem hin)
    rw [best_uniq hq hb]
  have b2 : F_common_of [tupS (List.replicate 6 (5, s))] = some (St (5 % s) s) := by
    have hl : lcmL (List.replicate 6 ((5 : Int), s)) = s := by
      refine Nat.dvd_antisymm (dvd_lcmL _ fun p hp => ?_) (lcmL_dvd _ (5, s) (by simp))
      rw [List.eq_of_mem_replicate hp]
      exact Nat.dvd_refl s
    have hS : IsSs (List.replicate 6 ((5 : Int), s)) := ⟨by simp, by simp, fun p hp => by rw [List.eq_of_mem_replicate hp]; exact S5, by rw [hl]; omega⟩
    obtain ⟨v, e, hv⟩ := common_of_v hS
    have f := first_mark (m := 5) (s := s) (lo := 0)
    rw [Int.sub_zero, Int.zero_add] at f
    have r0 := Int.emod_nonneg 5 (show (s : Int) ≠ 0 by omega)
    have r1 := Int.emod_lt_of_pos 5 (show (0 : Int) < s by omega)
    have ha : allc (List.replicate 6 ((5 : Int), s)) (5 % s) := fun p hp => by rw [List.eq_of_mem_replicate hp]; exact f
    rcases hv with ⟨_, hn⟩ | ⟨x, rfl, x0, x1, hx⟩
    · exact absurd ha (hn _)
    · rw [e, allc_uniq x0 x1 r0 (by rw [hl]; exact r1) hx ha, hl]
  have b3 : F_common_of [tupS [(0, 2), (0, 3), (1, 2)]] = some .none := by
    have hS : IsSs [(0, 2), (0, 3), (1, 2)] := ⟨by decide, by decide, fun p hp => by
      simp only [List.mem_cons, List.not_mem_nil, or_false] at hp
      rcases hp with rfl | rfl | rfl <;> exact ⟨by decide, by decide, by decide, by decide⟩, by decide⟩
    obtain ⟨v, e, hv⟩ := common_of_v hS
    rcases hv with ⟨rfl, _⟩ | ⟨x, rfl, x0, x1, hx⟩
    · exact e
    · have h1 := hx (0, 2) (by simp)
      have h2 := hx (1, 2) (by simp)
      simp only at h1 h2
      omega
  rw [hq2] at b1
  generalize cnt 0 s 7 s (-200) (200 + 1 - -200 : Int).toNat q = z at b1
  have em0 : ∀ z : Int, (if 0 < s then some (PyData.int (z % s)) else none) = some (.int (z % s)) := fun z => if_pos hs0
  let X : PyData := .tuple [.int ((-7) % (s : Int)), St (5 % s) s, .none]
  have bm : mulD (.tuple [St 5 s]) (.int 6) = some (tupS (List.replicate 6 (5, s))) := rfl
  have e18 : l_18 (ρ.set 3 (.d (.int s))) c2 = .nx ((ρ.set 3 (.d (.int s))).set 4 (.d X)) c2 := by
    refine asg_nx ?_
    generalize tupS (List.replicate 6 (5, s)) = T at b2 bm
    simp only [tupP, tupS, List.map_cons, List.map_nil] at b1 b3 ⊢
    have b3' : F_common_of [.tuple [.tuple [.int 0, .int 2], .tuple [.int 0, .int 3], .tuple [.int 1, .int 2]]] = some .none := b3
    simp [List.getElem?_set, -getElem?_pos, List.getElem?_cons_zero, List.getElem?_cons_succ, L0, b1, b2, b3', bm, atI_1, sizeLine_eq, X]
  have hX : Pl 7 X := ⟨by simp, by
    intro d hd
    simp only [List.mem_cons, List.not_mem_nil, or_false] at hd
    rcases hd with rfl | rfl | rfl
    · exact pl_int _ _
    · exact (pl_ints 5 (ns := [5 % s, s]) (by simp)).1
    · exact pl_none _⟩
  have hsm : F__law_same 8 [X, X] = some (.bool true) := same_true 7 X hX
  refine ⟨c2, ?_⟩
  unfold g_law
  rw [seqS_nx e0, seqS_nx e17, seqS_nx e18]
  simp only [X] at hsm ⊢
  simp [l_19, List.getElem?_set, -getElem?_pos, List.getElem?_cons_zero, List.getElem?_cons_succ, L0, hs0, hsm, sizeLine_eq]
end PL

set_option maxHeartbeats 0 in
theorem PySem.Challenge.cw_surveyyard_k68_whole_shifts_of_strips_holds : PySem.Challenge.rw_surveyyard_k68_whole_shifts_of_strips.Holds := by
  w_on; o_law; k_head; (case hw => w_witness2)
  k_fill
  refine L2.walk_of (l := PySem.Challenge.rw_surveyyard_k68_whole_shifts_of_strips) (n := 63) (k := 10) (x := "script") (CX := fun _ => L2.CX0) (sp := fun w => PL.spLaw _) rfl (by decide) rfl ⟨rfl, by decide, by decide⟩ (fun w h Y => PySem.W.kIn_of Y) ?F (fun _ _ a ns hl _ hS => ⟨a, ns, rfl, hS, hl, fun _ => rfl⟩) (fun _ _ _ _ _ h => h)
  case F =>
    intro w mg fa h KX G hmg
    refine PL.useT (mg := mg) KX ?_ fun T => ?_
    · clear hmg
      refine' ⟨(PL.defAt_mk KX G ?_ ?_ ?_ ?_), (PL.defAt_mk KX G ?_ ?_ ?_ ?_), (PL.defAt_mk KX G ?_ ?_ ?_ ?_), (PL.defAt_mk KX G ?_ ?_ ?_ ?_), (PL.defAt_mk KX G ?_ ?_ ?_ ?_), (PL.defAt_mk KX G ?_ ?_ ?_ ?_), (PL.defAt_mk KX G ?_ ?_ ?_ ?_), (PL.defAt_mk KX G ?_ ?_ ?_ ?_), (PL.defAt_mk KX G ?_ ?_ ?_ ?_), (PL.defAt_mk KX G ?_ ?_ ?_ ?_), (PL.defAt_mk KX G ?_ ?_ ?_ ?_), (PL.defAt_mk KX G ?_ ?_ ?_ ?_), (PL.defAt_mk KX G ?_ ?_ ?_ ?_), (PL.defAt_mk KX G ?_ ?_ ?_ ?_), (PL.defAt_mk KX G ?_ ?_ ?_ ?_), (PL.defAt_mk KX G ?_ ?_ ?_ ?_), (PL.defAt_mk KX G ?_ ?_ ?_ ?_), (PL.defAt_mk KX G ?_ ?_ ?_ ?_), (PL.defAt_mk KX G ?_ ?_ ?_ ?_), (PL.defAt_mk KX G ?_ ?_ ?_ ?_), (PL.defAt_mk KX G ?_ ?_ ?_ ?_), (PL.defAt_mk KX G ?_ ?_ ?_ ?_), (PL.defAt_mk KX G ?_ ?_ ?_ ?_), (PL.defAt_mk KX G ?_ ?_ ?_ ?_), (PL.defAt_mk KX G ?_ ?_ ?_ ?_), (PL.defAt_mk KX G ?_ ?_ ?_ ?_), (PL.defAt_mk KX G ?_ ?_ ?_ ?_), (PL.defAt_mk KX G ?_ ?_ ?_ ?_), (PL.defAt_mk KX G ?_ ?_ ?_ ?_), (PL.defAt_mk KX G ?_ ?_ ?_ ?_), (PySem.W.mg_none_of KX G ?_), (PySem.W.mg_none_of KX G ?_), (PySem.W.mg_none_of KX G ?_), (PySem.W.mg_none_of KX G ?_), (PySem.W.mg_none_of KX G ?_), (PySem.W.mg_none_of KX G ?_), (PySem.W.mg_none_of KX G ?_), (PySem.W.mg_none_of KX G ?_), (PySem.W.mg_none_of KX G ?_), (PySem.W.mg_none_of KX G ?_), (PySem.W.mg_none_of KX G ?_), (PySem.W.mg_none_of KX G ?_), (PL.cst_mk KX G ?_), (PL.cst_mk KX G ?_), (PL.cst_mk KX G ?_), (PL.cst_mk KX G ?_), (PL.cst_mk KX G ?_)⟩
      all_goals (try k_is)
    obtain ⟨f, fd, F, hm⟩ := T.d_law
    cases hm.symm.trans hmg
    obtain ⟨oc, od, kV, doc, pm, an, cdv, ct, osl, rfl, lk, hcd⟩ := id F.ex
    exact ⟨_, fun s v => .of_eq rfl, fun base _ _ => PL.ok_law T PL.law_true F⟩

