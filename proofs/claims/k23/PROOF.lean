import PyProof.Rows.All
import Wide.All
import OpenK.AllK
import Wide.FinOn
import PySem.Challenge.RW_slitdiscs_k23_twins_by_all_discs
import HandS.ForMost
import HandS.Exc
import HandS.ExcOwn
import HandS.CallSlots
import HandS.WordsExc
import HandS.Wide
import HandS.WideBits
import KE.KStar
import HandS.IsInst
import HandS.RaiseMore
import HandS.Style
import HandS.Deep
import HandS.Conv
import KE.KEqDeep
import KE.DataMinMax
import HandS.SortInts
import KE.SortData
import HandS.Text
import HandS.Codes
import HandS.TryOnly
import PyProof.ExcBaseAll.ValueError
import HandS.SetFor
import HandS.Strs
import HandS.TupLen
import HandS.WordsDict
import HandS.Property
import HandS.SlotsOwn
import HandS.TupSets
import KE.BitLaws
set_option Elab.async false
set_option linter.all false
set_option maxRecDepth 100000
set_option maxHeartbeats 1234567
/-! Sd: a value semantics over the hand layer. -/
namespace Sd
open PySem L2 PySem.Spec PyProof.Rows

abbrev PD := PyData
/-- a slot of the frame: nothing told, a value that is read in the frozen part, a list that this slot alone holds -/
inductive Cl where
  | no
  | fr (d : PD)
  | ow (ds : List PD)
inductive Rv where
  | fr (d : PD)
  | ow (ds : List PD)
abbrev Rho := List Cl
def Rv.d : Rv → PD
  | .fr d => d
  | .ow ds => .list ds
def Rv.cl : Rv → Cl
  | .fr d => .fr d
  | .ow ds => .ow ds
inductive Rz (α : Type) where
  | ok (a : α) (ρ : Rho)
  | exc (c : Str) (f : Option (Str × PD)) (ρ : Rho)
  | stuck
def Rz.bind {α β : Type} (r : Rz α) (f : α → Rho → Rz β) : Rz β :=
  match r with
  | .ok a ρ => f a ρ
  | .exc c f ρ => .exc c f ρ
  | .stuck => .stuck
/-- what a whole step leaves: the frozen part grows by what is new or was one's own, all else of the heap stays -/
structure Ext (O : Addr → Prop) (F H : Hp) (O' : Addr → Prop) (F' H' : Hp) : Prop where
  fz : ∀ a o, F a = some o → F' a = some o
  nw : ∀ a, F' a ≠ none → F a ≠ none ∨ H a = none ∨ O a
  kp : ∀ a o, H a = some o → ¬ O a → H' a = some o
  st : ∀ a, H a ≠ none → H' a ≠ none
  ow : ∀ a, O' a → O a ∨ H a = none
theorem Ext.refl {O : Addr → Prop} {F H : Hp} : Ext O F H O F H := ⟨fun _ _ h => h, fun _ h => .inl h, fun _ _ h _ => h, fun _ h => h, fun _ h => .inl h⟩
theorem Ext.back {O O' : Addr → Prop} {F H F' H' : Hp} (e : Ext O F H O' F' H') {a : Addr} (h : H' a = none) : H a = none := Classical.byContradiction fun z => e.st a z h
theorem Ext.trans {O O1 O2 : Addr → Prop} {F H F1 H1 F2 H2 : Hp} (a : Ext O F H O1 F1 H1) (b : Ext O1 F1 H1 O2 F2 H2) : Ext O F H O2 F2 H2 where
  fz := fun x o h => b.fz x o (a.fz x o h)
  nw := fun x h => by
    rcases b.nw x h with q | q | q
    · exact a.nw x q
    · exact .inr (.inl (a.back q))
    · rcases a.ow x q with z | z
      · exact .inr (.inr z)
      · exact .inr (.inl z)
  kp := fun x o h n => b.kp x o (a.kp x o h n) fun q => by
    rcases a.ow x q with z | z
    · exact n z
    · rw [h] at z; cases z
  st := fun x h => b.st x (a.st x h)
  ow := fun x h => by
    rcases b.ow x h with q | q
    · exact a.ow x q
    · exact .inr (a.back q)
/-! ### readings grow -/
theorem rd_mono {F F' : Hp} {a : Addr} {u : HO} (e : ∀ a o, F a = some o → F' a = some o) (h : Rd F a u) : Rd F' a u := by
  rcases h with h | ⟨o, h⟩
  · exact .inl (e _ _ h)
  · exact .inr ⟨o, e _ _ h⟩
theorem sql_mono {K : PySem.W.Frag} {F F' : Hp} {a : Addr} {xs : List V} (e : ∀ a o, F a = some o → F' a = some o) (h : SqL K F a xs) : SqL K F' a xs := by
  rcases h with h | h
  · exact .inl (rd_mono e h)
  · exact .inr h
/-- the script as data -/
def scr (ns : List Int) : PD := .dict [(.none, .list (ns.map PyData.int))]
mutual
/-- a value is read as data: its lists and tuples stand in the heap -/
inductive Rp (K : PySem.W.Frag) (F : Hp) : V → PyData → Prop
  | non : Rp K F .non .none
  | bl (b : Bool) : Rp K F (.bl b) (.bool b)
  | int (i : Int) : Rp K F (.int i) (.int i)
  | str (x : Str) : Rp K F (.str x) (.str x)
  | lst {a : Addr} {xs : List V} {ds : List PyData} : F a = some (.lst xs) → RpAll K F xs ds → Rp K F (.ref a) (.list ds)
  | tup {a : Addr} {xs : List V} {ds : List PyData} : F a = some (.tup xs) → RpAll K F xs ds → Rp K F (.ref a) (.tuple ds)
  | scr {a : Addr} {ns : List Int} : SqL K F a (ns.map V.int) → Rp K F (.ref a) (.dict [(.none, .list (ns.map PyData.int))])
  | dct {a : Addr} : F a = some (.dK []) → Rp K F (.ref a) (.dict [])
inductive RpAll (K : PySem.W.Frag) (F : Hp) : List V → List PyData → Prop
  | nil : RpAll K F [] []
  | cons {v : V} {vs : List V} {d : PyData} {ds : List PyData} : Rp K F v d → RpAll K F vs ds → RpAll K F (v :: vs) (d :: ds)
end
mutual
theorem rp_mono {K : PySem.W.Frag} {F F' : Hp} (e : ∀ a o, F a = some o → F' a = some o) : ∀ (d : PD) (v : V), Rp K F v d → Rp K F' v d
  | .none, _, h => by cases h; exact .non
  | .bool b, _, h => by cases h; exact .bl b
  | .int i, _, h => by cases h; exact .int i
  | .str x, _, h => by cases h; exact .str x
  | .list ds, _, h => by
    cases h with
    | lst hs ha => exact .lst (e _ _ hs) (rpa_mono e ds _ ha)
  | .tuple ds, _, h => by
    cases h with
    | tup hs ha => exact .tup (e _ _ hs) (rpa_mono e ds _ ha)
  | .dict _, _, h => by
    cases h with
    | scr hs => exact .scr (sql_mono e hs)
    | dct hs => exact .dct (e _ _ hs)
theorem rpa_mono {K : PySem.W.Frag} {F F' : Hp} (e : ∀ a o, F a = some o → F' a = some o) : ∀ (ds : List PD) (vs : List V), RpAll K F vs ds → RpAll K F' vs ds
  | [], _, h => by cases h; exact .nil
  | d :: ds, _, h => by
    cases h with
    | cons h1 h2 => exact .cons (rp_mono e d _ h1) (rpa_mono e ds _ h2)
end
theorem RpAll.len {K : PySem.W.Frag} {F : Hp} : ∀ {vs : List V} {ds : List PD}, RpAll K F vs ds → vs.length = ds.length
  | _, _, .nil => rfl
  | _, _, .cons _ t => congrArg (· + 1) (RpAll.len t)
theorem RpAll.app {K : PySem.W.Frag} {F : Hp} : ∀ {vs us : List V} {ds es : List PD}, RpAll K F vs ds → RpAll K F us es → RpAll K F (vs ++ us) (ds ++ es)
  | _, _, _, _, .nil, h => h
  | _, _, _, _, .cons a t, h => .cons a (RpAll.app t h)
theorem RpAll.at {K : PySem.W.Frag} {F : Hp} : ∀ {vs : List V} {ds : List PD} {i : Nat} {d : PD}, RpAll K F vs ds → ds[i]? = some d → ∃ v, vs[i]? = some v ∧ Rp K F v d
  | _, _, _, _, .nil, h => by simp at h
  | _, _, 0, _, .cons a _, h => by simp at h; subst h; exact ⟨_, rfl, a⟩
  | _, _, i + 1, d, .cons _ t, h => RpAll.at (i := i) (d := d) t (by simpa using h)
theorem RpAll.at2 {K : PySem.W.Frag} {F : Hp} : ∀ {vs : List V} {ds : List PD} {i : Nat} {v : V}, RpAll K F vs ds → vs[i]? = some v → ∃ d, ds[i]? = some d ∧ Rp K F v d
  | _, _, _, _, .nil, h => by simp at h
  | _, _, 0, _, .cons a _, h => by simp at h; subst h; exact ⟨_, rfl, a⟩
  | _, _, i + 1, d, .cons _ t, h => RpAll.at2 (i := i) (v := d) t (by simpa using h)
theorem RpAll.set {K : PySem.W.Frag} {F : Hp} {v : V} {d : PD} (r : Rp K F v d) : ∀ {vs : List V} {ds : List PD} (i : Nat), RpAll K F vs ds → RpAll K F (vs.set i v) (ds.set i d)
  | _, _, _, .nil => .nil
  | _, _, 0, .cons _ q => .cons r q
  | _, _, i + 1, .cons a t => .cons a (RpAll.set r i t)
theorem RpAll.take {K : PySem.W.Frag} {F : Hp} : ∀ {vs : List V} {ds : List PD} (n : Nat), RpAll K F vs ds → RpAll K F (vs.take n) (ds.take n)
  | _, _, 0, _ => .nil
  | _, _, _ + 1, .nil => .nil
  | _, _, n + 1, .cons a t => .cons a (RpAll.take n t)
theorem RpAll.drop {K : PySem.W.Frag} {F : Hp} : ∀ {vs : List V} {ds : List PD} (n : Nat), RpAll K F vs ds → RpAll K F (vs.drop n) (ds.drop n)
  | _, _, 0, h => h
  | _, _, _ + 1, .nil => .nil
  | _, _, n + 1, .cons _ t => RpAll.drop n t
theorem RpAll.erase {K : PySem.W.Frag} {F : Hp} : ∀ {vs : List V} {ds : List PD} (n : Nat), RpAll K F vs ds → RpAll K F (vs.eraseIdx n) (ds.eraseIdx n)
  | _, _, _, .nil => .nil
  | _, _, 0, .cons _ r => r
  | _, _, n + 1, .cons a t => .cons a (RpAll.erase n t)
theorem RpAll.rev {K : PySem.W.Frag} {F : Hp} : ∀ {vs : List V} {ds : List PD}, RpAll K F vs ds → RpAll K F vs.reverse ds.reverse
  | _, _, .nil => .nil
  | _, _, .cons a t => by
    (rw [List.reverse_cons, List.reverse_cons])
    exact RpAll.app (RpAll.rev t) (.cons a .nil)
theorem RpAll.rep {K : PySem.W.Frag} {F : Hp} {vs : List V} {ds : List PD} (h : RpAll K F vs ds) : ∀ n : Nat, RpAll K F (List.replicate n vs).flatten (List.replicate n ds).flatten
  | 0 => .nil
  | n + 1 => by
    rw [List.replicate_succ, List.replicate_succ]
    exact RpAll.app h (RpAll.rep h n)
theorem RpAll.ints {K : PySem.W.Frag} {F : Hp} : ∀ {vs : List V} {ns : List Int}, RpAll K F vs (ns.map PyData.int) → vs = ns.map V.int
  | _, [], h => by cases h; rfl
  | _, n :: ns, h => by
    cases h with
    | cons a t => cases a; rw [RpAll.ints t]; rfl
theorem RpAll.bools {K : PySem.W.Frag} {F : Hp} : ∀ {vs : List V} {ns : List Bool}, RpAll K F vs (ns.map PyData.bool) → vs = ns.map V.bl
  | _, [], h => by cases h; rfl
  | _, n :: ns, h => by
    cases h with
    | cons a t => cases a; rw [RpAll.bools t]; rfl
theorem RpAll.strs {K : PySem.W.Frag} {F : Hp} : ∀ {vs : List V} {ns : List Str}, RpAll K F vs (ns.map PyData.str) → vs = ns.map V.str
  | _, [], h => by cases h; rfl
  | _, n :: ns, h => by
    cases h with
    | cons a t => cases a; rw [RpAll.strs t]; rfl
theorem RpAll.ofInts {K : PySem.W.Frag} {F : Hp} : ∀ ns : List Int, RpAll K F (ns.map V.int) (ns.map PyData.int)
  | [] => .nil
  | n :: ns => .cons (.int n) (RpAll.ofInts ns)

theorem nj {i : Nat} {J : List Nat} (h : J.elem i = false) : i ∉ J := fun z => by
  rw [List.elem_eq_true_of_mem z] at h
  cases h
theorem njs {vs J : List Nat} (h : (vs.all fun v => !J.elem v) = true) : ∀ v ∈ vs, v ∉ J := fun v hv => nj (by simpa using List.all_eq_true.mp h v hv)
/-! ### the state -/
structure Sx where
  K : PySem.W.Frag
  mg : Str → Option Value
  J : List Nat
  ad : Nat → Addr
  W : WX
  T : Nat → Option (List V → HO → Prop)
/-- neither a list nor a tuple, nothing frozen, no dict of texts -/
def Ob (o : HO) : Prop := (∀ xs, o ≠ .lst xs) ∧ (∀ xs, o ≠ .tup xs) ∧ ∀ a b, o ≠ .frz a b
/-- what stands at the address of one's own: a list, or a thing of the slot's kind -/
def FamH (t : Option (List V → HO → Prop)) (H : Hp) (p : Addr) (vs : List V) : Prop := match t with
  | none => H p = some (.lst vs)
  | some φ => ∃ o, H p = some o ∧ φ vs o ∧ Ob o
theorem FamH.mono {t : Option (List V → HO → Prop)} {H H' : Hp} {p : Addr} {vs : List V} (h : FamH t H p vs) (e : ∀ o, H p = some o → H' p = some o) : FamH t H' p vs := by
  cases t with
  | none => exact e _ h
  | some φ => exact ⟨h.choose, e _ h.choose_spec.1, h.choose_spec.2⟩
theorem FamH.ne {t : Option (List V → HO → Prop)} {H : Hp} {p : Addr} {vs : List V} (h : FamH t H p vs) : H p ≠ none := fun z => by
  cases t with
  | none =>
    have h : H p = some (.lst vs) := h
    rw [z] at h
    cases h
  | some φ =>
    obtain ⟨o, h1, _⟩ := h
    rw [z] at h1
    cases h1
theorem FamH.has {t : Option (List V → HO → Prop)} {H : Hp} {p : Addr} {vs : List V} (h : FamH t H p vs) : ∃ o, H p = some o ∧ (∀ xs, o ≠ .tup xs) ∧ ∀ a b, o ≠ .frz a b := by
  cases t with
  | none => exact ⟨_, h, fun xs z => (by cases z), fun a b z => by cases z⟩
  | some φ =>
    obtain ⟨o, h1, _, h2⟩ := h
    exact ⟨o, h1, h2.2⟩
theorem FamH.lst {t : Option (List V → HO → Prop)} {H : Hp} {p : Addr} {vs : List V} (h : FamH t H p vs) (e : t = none) : H p = some (.lst vs) := by
  subst e
  exact h
theorem FamH.of {t : Option (List V → HO → Prop)} {H : Hp} {p : Addr} {vs : List V} (e : t = none) (h : H p = some (.lst vs)) : FamH t H p vs := by
  subst e
  exact h
def Own (ρ : Rho) (σ : L2.St) (a : Addr) : Prop := ∃ (i : Nat) (ds : List PD), ρ[i]? = some (.ow ds) ∧ σ[i]? = some (some (.ref a))
/-- sys.modules stands apart: no list or dict of ours lies there -/
def SmF (F : Hp) : Prop := ∃ ob φ, F sysModules = some (.frz ob (.ext φ))
theorem SmF.up {F F' : Hp} (h : SmF F) (e : ∀ a o, F a = some o → F' a = some o) : SmF F' := by
  obtain ⟨ob, φ, h⟩ := h
  exact ⟨ob, φ, e _ _ h⟩
structure Rs (S : Sx) (F : Hp) (ρ : Rho) (σ : L2.St) (H : Hp) : Prop where
  ex : ∀ a o, F a = some o → H a = some o
  len : ρ.length = σ.length
  fr : ∀ (i : Nat) (d : PD), ρ[i]? = some (.fr d) → ∃ v, σ[i]? = some (some v) ∧ Rp S.K F v d
  ow : ∀ (i : Nat) (ds : List PD), ρ[i]? = some (.ow ds) → ∃ p vs, σ[i]? = some (some (.ref p)) ∧ F p = none ∧ FamH (S.T i) H p vs ∧ RpAll S.K F vs ds
  sep : ∀ (i j : Nat) (di dj : List PD) (p : Addr), ρ[i]? = some (.ow di) → ρ[j]? = some (.ow dj) → σ[i]? = some (some (.ref p)) → σ[j]? = some (some (.ref p)) → i = j
  pin : ∀ j ∈ S.J, σ[j]? = some (some (.ref (S.ad j)))
  sm : SmF F
/-- an exception: the class's name in the module, its one field -/
def ExR (S : Sx) (F H : Hp) (cls : Value) (dd : Option Addr) (c : Str) (f : Option (Str × PD)) : Prop :=
  S.mg c = some cls ∧ match f with
    | none => dd = none
    | some (n, d) => ∃ a v, dd = some a ∧ H a = some (.xd [(n, v)]) ∧ Rp S.K F v d
/-- a value by its result: read in the frozen part, or a list that nobody holds yet -/
def RvR (S : Sx) (O0 : Addr → Prop) (H0 : Hp) (O : Addr → Prop) (Fh Hh : Hp) (v : V) : Rv → Prop
  | .fr d => Rp S.K Fh v d
  | .ow ds => ∃ p vs, v = .ref p ∧ Fh p = none ∧ Hh p = some (.lst vs) ∧ RpAll S.K Fh vs ds ∧ ¬ O p ∧ (H0 p = none ∨ O0 p)
end Sd
namespace Sd
open PySem L2 PySem.Spec PyProof.Rows
def PostE {α : Type} (S : Sx) (σ : L2.St) (F : Hp) (ρ : Rho) (H : Hp) (r : Rz α) (k : Hp → Rho → Hp → α → Prop) : Prop :=
  match r with
  | .ok a ρ' => ∀ F' H', Ext (Own ρ σ) F H (Own ρ' σ) F' H' → Rs S F' ρ' σ H' → k F' ρ' H' a
  | .exc c f ρ' => ∀ F' H' cls dd, Ext (Own ρ σ) F H (Own ρ' σ) F' H' → Rs S F' ρ' σ H' → ExR S F' H' cls dd c f → S.W cls dd σ H'
  | .stuck => False
section
variable {S : Sx} {σ : L2.St} {F F1 : Hp} {ρ ρ1 : Rho} {H H1 : Hp}
theorem PostE.mono {α : Type} {r : Rz α} {k k' : Hp → Rho → Hp → α → Prop} (h : PostE S σ F ρ H r k) (hk : ∀ F' ρ' H' a, Ext (Own ρ σ) F H (Own ρ' σ) F' H' → Rs S F' ρ' σ H' → k F' ρ' H' a → k' F' ρ' H' a) : PostE S σ F ρ H r k' := by
  cases r with
  | ok a ρ' => exact fun F' H' e R => hk F' ρ' H' a e R (h F' H' e R)
  | exc c f ρ' => exact h
  | stuck => exact h
theorem PostE.from {α : Type} {r : Rz α} {k : Hp → Rho → Hp → α → Prop} (h : PostE S σ F ρ H r k) (e : Ext (Own ρ σ) F H (Own ρ1 σ) F1 H1) : PostE S σ F1 ρ1 H1 r k := by
  cases r with
  | ok a ρ' => exact fun F' H' e' R => h F' H' (e.trans e') R
  | exc c f ρ' => exact fun F' H' cls dd e' R x => h F' H' cls dd (e.trans e') R x
  | stuck => exact h
theorem PostE.bind {α β : Type} {r : Rz α} {f : α → Rho → Rz β} {k : Hp → Rho → Hp → β → Prop} (h : PostE S σ F ρ H (r.bind f) k) :
    PostE S σ F ρ H r fun F1 ρ1 H1 a => ∀ F2, Ext (Own ρ σ) F H (Own ρ1 σ) F2 H1 → PostE S σ F2 ρ1 H1 (f a ρ1) k := by
  cases r with
  | ok a ρ' => exact fun F1 H1 _ _ F2 e2 => PostE.from (show PostE S σ F ρ H (f a ρ') k from h) e2
  | exc c f ρ' => exact h
  | stuck => exact h
theorem PostE.ok {α : Type} {a : α} {k : Hp → Rho → Hp → α → Prop} (h : PostE S σ F ρ H (.ok a ρ) k) (R : Rs S F ρ σ H) : k F ρ H a := h F H Ext.refl R
theorem RvR.mono {O0 O1 : Addr → Prop} {H0 H1' : Hp} {F1' : Hp} {F0 : Hp} {O : Addr → Prop} {v : V} {r : Rv} (e : Ext O0 F0 H0 O1 F1' H1') (h : RvR S O1 H1' O F H v r) : RvR S O0 H0 O F H v r := by
  cases r with
  | fr d => exact h
  | ow ds =>
    obtain ⟨p, vs, a, b, c, d, e1, e2⟩ := h
    refine ⟨p, vs, a, b, c, d, e1, ?_⟩
    rcases e2 with e2 | e2
    · exact .inl (e.back e2)
    · exact (e.ow p e2).symm
/-- a list that nobody holds goes into the frozen part -/
theorem Rs.freeze {O0 : Addr → Prop} {F0 H0 : Hp} {v : V} {r : Rv} (R : Rs S F ρ σ H) (e : Ext O0 F0 H0 (Own ρ σ) F H) (h : RvR S O0 H0 (Own ρ σ) F H v r) :
    ∃ F', Ext O0 F0 H0 (Own ρ σ) F' H ∧ Rs S F' ρ σ H ∧ Rp S.K F' v r.d := by
  cases r with
  | fr d => exact ⟨F, e, R, h⟩
  | ow ds =>
    obtain ⟨p, vs, rfl, hF, hH, ha, hO, h0⟩ := h
    have up : ∀ a o, F a = some o → upd F p (.lst vs) a = some o := fun a o q => by rw [upd_ne (ne_of_none q hF)]; exact q
    refine ⟨upd F p (.lst vs), ⟨fun a o q => up a o (e.fz a o q), fun a q => ?_, e.kp, e.st, e.ow⟩, ⟨fun a o q => ?_, R.len, fun i d q => ?_, fun i ds' q => ?_, R.sep, R.pin, R.sm.up up⟩, .lst upd_same (rpa_mono up _ _ ha)⟩
    · by_cases z : a = p
      · subst z; exact .inr h0
      · rw [upd_ne z] at q; exact e.nw a q
    · by_cases z : a = p
      · subst z; rw [upd_same] at q; cases q; exact hH
      · rw [upd_ne z] at q; exact R.ex a o q
    · obtain ⟨w, q1, q2⟩ := R.fr i d q
      exact ⟨w, q1, rp_mono up _ _ q2⟩
    · obtain ⟨p', vs', q1, q2, q3, q4⟩ := R.ow i ds' q
      have z : p' ≠ p := fun z => hO ⟨i, ds', q, by rw [← z]; exact q1⟩
      exact ⟨p', vs', q1, by rw [upd_ne z]; exact q2, q3, rpa_mono up _ _ q4⟩
/-- an expression's reading by its mirror -/
def tE (S : Sx) (m : Rho → Rz Rv) : TE := fun σ H Q => ∃ F ρ, Rs S F ρ σ H ∧ PostE S σ F ρ H (m ρ) fun F' ρ' H' r => ∀ v, RvR S (Own ρ σ) H (Own ρ' σ) F' H' v r → Q v H'
/-- its value goes into the frozen part -/
theorem tE.use {β : Type} {m : Rho → Rz Rv} {g : PD → Rho → Rz β} {k : Hp → Rho → Hp → β → Prop} {Q : VK} (R : Rs S F ρ σ H) (P : PostE S σ F ρ H ((m ρ).bind fun r ρ1 => g r.d ρ1) k)
    (go : ∀ v d F1 ρ1 H1, Ext (Own ρ σ) F H (Own ρ1 σ) F1 H1 → Rs S F1 ρ1 σ H1 → Rp S.K F1 v d → PostE S σ F1 ρ1 H1 (g d ρ1) k → Q v H1) : tE S m σ H Q := by
  refine ⟨F, ρ, R, PostE.mono (PostE.bind P) fun F1 ρ1 H1 r e1 R1 P1 v hv => ?_⟩
  obtain ⟨F2, e2, R2, d2⟩ := R1.freeze e1 hv
  exact go v r.d F2 ρ1 H1 e2 R2 d2 (P1 F2 e2)
/-- its value as it is -/
theorem tE.keep {β : Type} {m : Rho → Rz Rv} {g : Rv → Rho → Rz β} {k : Hp → Rho → Hp → β → Prop} {Q : VK} (R : Rs S F ρ σ H) (P : PostE S σ F ρ H ((m ρ).bind g) k)
    (go : ∀ v r F1 ρ1 H1, Ext (Own ρ σ) F H (Own ρ1 σ) F1 H1 → Rs S F1 ρ1 σ H1 → RvR S (Own ρ σ) H (Own ρ1 σ) F1 H1 v r → PostE S σ F1 ρ1 H1 (g r ρ1) k → Q v H1) : tE S m σ H Q :=
  ⟨F, ρ, R, PostE.mono (PostE.bind P) fun F1 ρ1 H1 r e1 R1 P1 v hv => go v r F1 ρ1 H1 e1 R1 hv (P1 F1 e1)⟩
end
/-- what a context is known for -/
structure Okx (X : Cx) (S : Sx) (k : Nat) : Prop where
  hK : S.K = X.K
  hM : S.mg = X.mg
  calm : X.calm = true
  nd : X.N.Nodup
  po : PassesOwn (model X.prog X.w) X.A X.env X.xe
  tk : Takes X S.W
  rm : Room k X.A
  gd : X.A.guards = some []
def XE (X : Cx) (S : Sx) (e : Expr) (m : Rho → Rz Rv) : Prop := PE X e (tE S m)
theorem PE.imp {X : Cx} {e : Expr} {t t' : TE} (h : PE X e t) (hi : ∀ σ H Q, t' σ H Q → t σ H Q) : PE X e t' := ⟨fun pn s σ H Q I q => h.run pn s σ H Q I (hi σ H Q q)⟩
section
variable {X : Cx} {S : Sx} {k : Nat}
/-- a constant, or what is known to be a value wherever it stands -/
def mC (d : PD) : Rho → Rz Rv := fun ρ => .ok (.fr d) ρ
theorem xe_c {e : Expr} {v : V} {d : PD} (h : PE X e (tC v)) (hd : ∀ F, Rp S.K F v d) : XE X S e (mC d) := PE.imp h fun σ H Q q => by
  obtain ⟨F, ρ, R, P⟩ := q
  exact PostE.ok P R v (hd F)
theorem xe_int {i j pos} : XE X S (.Constant (.int i) j pos) (mC (.int i)) := xe_c pe_int fun _ => .int i
theorem xe_bl {b j pos} : XE X S (.Constant (.bool b) j pos) (mC (.bool b)) := xe_c pe_bl fun _ => .bl b
theorem xe_non {j pos} : XE X S (.Constant .none j pos) (mC .none) := xe_c pe_non fun _ => .non
theorem xe_str {x j pos} : XE X S (.Constant (.str x) j pos) (mC (.str x)) := xe_c pe_str fun _ => .str x
/-- a name: a list of one's own goes into the frozen part -/
def Rho.val (ρ : Rho) (i : Nat) : Rz Rv :=
  match ρ[i]? with
  | some (.fr d) => .ok (.fr d) ρ
  | some (.ow ds) => .ok (.fr (.list ds)) (ρ.set i (.fr (.list ds)))
  | _ => .stuck
def mV (i : Nat) : Rho → Rz Rv := fun ρ => ρ.val i
/-- .. handed on -/
def mMv (i : Nat) : Rho → Rz Rv := fun ρ =>
  match ρ[i]? with
  | some (.fr d) => .ok (.fr d) ρ
  | some (.ow ds) => .ok (.ow ds) (ρ.set i .no)
  | _ => .stuck
/-- .. only looked at -/
def Rho.peek (ρ : Rho) (i : Nat) : Option PD :=
  match ρ[i]? with
  | some (.fr d) => some d
  | some (.ow ds) => some (.list ds)
  | _ => none
theorem own_set {ρ : Rho} {σ : L2.St} {i : Nat} {c : Cl} (hc : ∀ ds, c ≠ .ow ds) {a : Addr} (h : Own (ρ.set i c) σ a) : Own ρ σ a := by
  obtain ⟨j, ds, h1, h2⟩ := h
  by_cases z : i = j
  · subst z
    by_cases hl : i < ρ.length
    · rw [List.getElem?_set_self hl] at h1
      exact absurd (Option.some.inj h1) (hc ds)
    · rw [List.getElem?_eq_none (by simpa using hl)] at h1; cases h1
  · rw [List.getElem?_set_ne z] at h1
    exact ⟨j, ds, h1, h2⟩
theorem Rs.freezeSlot {F : Hp} {ρ : Rho} {σ : L2.St} {H : Hp} {i : Nat} {ds : List PD} (R : Rs S F ρ σ H) (h : ρ[i]? = some (.ow ds)) (hT : S.T i = none) :
    ∃ F' v, σ[i]? = some (some v) ∧ Ext (Own ρ σ) F H (Own (ρ.set i (.fr (.list ds))) σ) F' H ∧ Rs S F' (ρ.set i (.fr (.list ds))) σ H ∧ Rp S.K F' v (.list ds) := by
  obtain ⟨p, vs, e1, e2, e3, e4⟩ := R.ow i ds h
  replace e3 := e3.lst hT
  have up : ∀ a o, F a = some o → upd F p (.lst vs) a = some o := fun a o q => by rw [upd_ne (ne_of_none q e2)]; exact q
  have hi : i < ρ.length := (List.getElem?_eq_some_iff.mp h).1
  have dd : Rp S.K (upd F p (.lst vs)) (.ref p) (.list ds) := .lst upd_same (rpa_mono up _ _ e4)
  refine ⟨upd F p (.lst vs), .ref p, e1, ⟨up, fun a q => ?_, fun a o q _ => q, fun a q => q, fun a q => .inl (own_set (by intro ds z; cases z) q)⟩, ⟨fun a o q => ?_, by rw [List.length_set]; exact R.len, fun j d q => ?_, fun j ds' q => ?_, fun j l dj dl a q1 q2 q3 q4 => ?_, R.pin, R.sm.up up⟩, dd⟩
  · by_cases z : a = p
    · subst z; exact .inr (.inr ⟨i, ds, h, e1⟩)
    · rw [upd_ne z] at q; exact .inl q
  · by_cases z : a = p
    · subst z; rw [upd_same] at q; cases q; exact e3
    · rw [upd_ne z] at q; exact R.ex a o q
  · by_cases z : i = j
    · subst z
      rw [List.getElem?_set_self hi] at q
      cases q
      exact ⟨.ref p, e1, dd⟩
    · rw [List.getElem?_set_ne z] at q
      obtain ⟨w, q1, q2⟩ := R.fr j d q
      exact ⟨w, q1, rp_mono up _ _ q2⟩
  · by_cases z : i = j
    · subst z
      rw [List.getElem?_set_self hi] at q
      cases q
    · rw [List.getElem?_set_ne z] at q
      obtain ⟨p', vs', q1, q2, q3, q4⟩ := R.ow j ds' q
      have z' : p' ≠ p := fun z' => z (R.sep i j ds ds' p h q e1 (by rw [← z']; exact q1))
      exact ⟨p', vs', q1, by rw [upd_ne z']; exact q2, q3, rpa_mono up _ _ q4⟩
  · have nz : ∀ (l : Nat) (dl : List PD), (ρ.set i (.fr (.list ds)))[l]? = some (.ow dl) → ρ[l]? = some (.ow dl) := fun l dl q => by
      by_cases z : i = l
      · subst z; rw [List.getElem?_set_self hi] at q; cases q
      · rw [List.getElem?_set_ne z] at q; exact q
    exact R.sep j l dj dl a (nz _ _ q1) (nz _ _ q2) q3 q4
theorem Rs.dropSlot {F : Hp} {ρ : Rho} {σ : L2.St} {H : Hp} {i : Nat} (R : Rs S F ρ σ H) : Rs S F (ρ.set i .no) σ H := by
  have fr : ∀ (l : Nat) (d : PD), (ρ.set i .no)[l]? = some (.fr d) → ρ[l]? = some (.fr d) := fun l dl q => by
    by_cases z : i = l
    · subst z
      by_cases hl : i < ρ.length
      · rw [List.getElem?_set_self hl] at q; cases q
      · rw [List.getElem?_eq_none (by simpa using hl)] at q; cases q
    · rw [List.getElem?_set_ne z] at q; exact q
  have ow : ∀ (l : Nat) (d : List PD), (ρ.set i .no)[l]? = some (.ow d) → ρ[l]? = some (.ow d) := fun l dl q => by
    by_cases z : i = l
    · subst z
      by_cases hl : i < ρ.length
      · rw [List.getElem?_set_self hl] at q; cases q
      · rw [List.getElem?_eq_none (by simpa using hl)] at q; cases q
    · rw [List.getElem?_set_ne z] at q; exact q
  exact ⟨R.ex, by rw [List.length_set]; exact R.len, fun j d q => R.fr j d (fr j d q), fun j d q => R.ow j d (ow j d q), fun j l dj dl a q1 q2 => R.sep j l dj dl a (ow _ _ q1) (ow _ _ q2), R.pin, R.sm⟩
variable {x : Str} {pos : Pos}
theorem xe_v (i : Nat) (hN : X.N[i]? = some x := by rfl) (hv : Vis X.env.scope x := by first | exact Or.inl rfl | exact Or.inr (Or.inl rfl) | exact Or.inr (Or.inr rfl)) (hd : (x == ("__debug__" : Str)) = false := by decide)
    (hcd : (x == ("__classdict__" : Str)) = false := by decide) (hT : S.T i = none := by first | rfl | assumption) : XE X S (.Name x pos) (mV i) := PE.imp (pe_var (i := i) hN hv hd hcd) fun σ H Q q => by
  obtain ⟨F, ρ, R, P⟩ := q
  unfold mV Rho.val at P
  cases e : ρ[i]? with
  | none => rw [e] at P; exact P.elim
  | some c =>
    rw [e] at P
    cases c with
    | no => exact P.elim
    | fr d =>
      obtain ⟨v, e1, e2⟩ := R.fr i d e
      exact ⟨v, e1, PostE.ok P R v e2⟩
    | ow ds =>
      obtain ⟨F', v, e1, e2, e3, e4⟩ := R.freezeSlot e hT
      exact ⟨v, e1, P F' H e2 e3 v e4⟩
theorem xe_mv (i : Nat) (hN : X.N[i]? = some x := by rfl) (hv : Vis X.env.scope x := by first | exact Or.inl rfl | exact Or.inr (Or.inl rfl) | exact Or.inr (Or.inr rfl)) (hd : (x == ("__debug__" : Str)) = false := by decide)
    (hcd : (x == ("__classdict__" : Str)) = false := by decide) (hT : S.T i = none := by first | rfl | assumption) : XE X S (.Name x pos) (mMv i) := PE.imp (pe_var (i := i) hN hv hd hcd) fun σ H Q q => by
  obtain ⟨F, ρ, R, P⟩ := q
  unfold mMv at P
  cases e : ρ[i]? with
  | none => rw [e] at P; exact P.elim
  | some c =>
    rw [e] at P
    cases c with
    | no => exact P.elim
    | fr d =>
      obtain ⟨v, e1, e2⟩ := R.fr i d e
      exact ⟨v, e1, PostE.ok P R v e2⟩
    | ow ds =>
      obtain ⟨p, vs, e1, e2, e3, e4⟩ := R.ow i ds e
      replace e3 := e3.lst hT
      have hi : i < ρ.length := (List.getElem?_eq_some_iff.mp e).1
      refine ⟨.ref p, e1, P F H ⟨fun _ _ q => q, fun _ q => .inl q, fun _ _ q _ => q, fun _ q => q, fun a q => .inl (own_set (by intro ds z; cases z) q)⟩ R.dropSlot _ ⟨p, vs, rfl, e2, e3, e4, fun z => ?_, .inr ⟨i, ds, e, e1⟩⟩⟩
      obtain ⟨j, dj, z1, z2⟩ := z
      by_cases q : i = j
      · subst q; rw [List.getElem?_set_self hi] at z1; cases z1
      · rw [List.getElem?_set_ne q] at z1
        exact q (R.sep i j ds dj p e z1 e1 z2)
/-- two places: both values frozen, then a rule -/
def mOp2 (g : PD → PD → Option Rv) (a b : Rho → Rz Rv) : Rho → Rz Rv := fun ρ => (a ρ).bind fun x ρ1 => (b ρ1).bind fun y ρ2 => match g x.d y.d with
  | some r => .ok r ρ2
  | none => .stuck
/-- what a rule must do for g -/
def Sim2 (X : Cx) (S : Sx) (r : R2) (g : PD → PD → Option Rv) : Prop := ∀ F ρ σ H x y dx dy z (Q : VK), Rs S F ρ σ H → Rp S.K F x dx → Rp S.K F y dy → g dx dy = some z →
  (∀ F' H' v, Ext (Own ρ σ) F H (Own ρ σ) F' H' → Rs S F' ρ σ H' → RvR S (Own ρ σ) H (Own ρ σ) F' H' v z → Q v H') → r x y H Q
theorem sim_bin {r : R2} {g : PD → PD → Option Rv} (hs : Sim2 X S r g) {ma mb : Rho → Rz Rv} {σ : L2.St} {H : Hp} {Q : VK} (q : tE S (mOp2 g ma mb) σ H Q) : tOp r (tE S ma) (tE S mb) σ H Q := by
  obtain ⟨F, ρ, R, P⟩ := q
  refine tE.use (g := fun x ρ1 => (mb ρ1).bind fun y ρ2 => match g x y.d with
    | some r => .ok r ρ2
    | none => .stuck) R P fun v1 d1 F1 ρ1 H1 e1 R1 D1 P1 => ?_
  refine tE.use (g := fun y ρ2 => match g d1 y with
    | some r => .ok r ρ2
    | none => .stuck) R1 P1 fun v2 d2 F2 ρ2 H2 e2 R2 D2 P2 => ?_
  cases hz : g d1 d2 with
  | none => rw [hz] at P2; exact P2.elim
  | some z =>
    rw [hz] at P2
    exact hs F2 ρ2 σ H2 v1 v2 d1 d2 z Q R2 (rp_mono e2.fz _ _ D1) D2 hz fun F' H' v e' R' hv => P2 F' H' e' R' v (hv.mono (e1.trans e2))
theorem xe_op {a b : Expr} {ma mb : Rho → Rz Rv} {op : Operator} {r : R2} {g : PD → PD → Option Rv} (ho : OpR X (binaryOp op) r) (hs : Sim2 X S r g) (ha : XE X S a ma) (hb : XE X S b mb) : XE X S (.BinOp a op b pos) (mOp2 g ma mb) :=
  PE.imp (pe_op ho ha hb) fun _ _ _ q => sim_bin hs q
theorem xe_cmp {a b : Expr} {ma mb : Rho → Rz Rv} {op : CmpOp} {r : R2} {g : PD → PD → Option Rv} (ho : OpR X (compareOp op) r) (hs : Sim2 X S r g) (ha : XE X S a ma) (hb : XE X S b mb) (hm : behindInMarks op b = false := by first | exact nomark _ | with_unfolding_all rfl) :
    XE X S (.Compare a [op] [b] pos) (mOp2 g ma mb) := PE.imp (pe_cmpR ho ha hb hm) fun _ _ _ q => sim_bin hs q
/-- no new object -/
theorem Sim2.pure {r : R2} {g : PD → PD → Option PD} (h : ∀ F H x y dx dy z, (∀ a o, F a = some o → H a = some o) → Rp S.K F x dx → Rp S.K F y dy → g dx dy = some z → ∃ v, Rp S.K F v z ∧ ∀ Q : VK, Q v H → r x y H Q) : Sim2 X S r fun x y => (g x y).map .fr := by
  intro F ρ σ H x y dx dy z Q R hx hy hz q
  have hz : (g dx dy).map Rv.fr = some z := hz
  cases e : g dx dy with
  | none => rw [e] at hz; cases hz
  | some w =>
    rw [e] at hz
    cases hz
    obtain ⟨v, hv, hr⟩ := h F H x y dx dy w R.ex hx hy e
    exact hr Q (q F H v Ext.refl R hv)
theorem Sim2.or {r r' : R2} {g g' : PD → PD → Option Rv} (h : Sim2 X S r g) (h' : Sim2 X S r' g') : Sim2 X S (fun x y H Q => r x y H Q ∨ r' x y H Q) fun x y => (g x y).orElse fun _ => g' x y := by
  intro F ρ σ H x y dx dy z Q R hx hy hz q
  have hz : ((g dx dy).orElse fun _ => g' dx dy) = some z := hz
  cases e : g dx dy with
  | none =>
    rw [e] at hz
    exact .inr (h' F ρ σ H x y dx dy z Q R hx hy hz q)
  | some w =>
    rw [e] at hz
    have hz' : w = z := Option.some.inj hz
    subst hz'
    exact .inl (h F ρ σ H x y dx dy w Q R hx hy e q)
/-- a new list -/
theorem Ext.new {F : Hp} {ρ : Rho} {σ : L2.St} {H : Hp} {p : Addr} {vs : List V} (R : Rs S F ρ σ H) (hp : H p = none) : Ext (Own ρ σ) F H (Own ρ σ) F (upd H p (.lst vs)) ∧ Rs S F ρ σ (upd H p (.lst vs)) ∧ F p = none ∧ ¬ Own ρ σ p := by
  have hF : F p = none := by
    cases e : F p with
    | none => rfl
    | some o => rw [R.ex p o e] at hp; cases hp
  have up : ∀ a o, H a = some o → upd H p (.lst vs) a = some o := fun a o q => by rw [upd_ne (ne_of_none q hp)]; exact q
  refine ⟨⟨fun _ _ q => q, fun _ q => .inl q, fun a o q _ => up a o q, fun a q => ?_, fun _ q => .inl q⟩, ⟨fun a o q => up a o (R.ex a o q), R.len, R.fr, fun i ds q => ?_, R.sep, R.pin, R.sm⟩, hF, fun z => ?_⟩
  · cases e : H a with
    | none => exact absurd e q
    | some o => rw [up a o e]; simp
  · obtain ⟨p', vs', q1, q2, q3, q4⟩ := R.ow i ds q
    exact ⟨p', vs', q1, q2, q3.mono (up _), q4⟩
  · obtain ⟨i, ds, z1, z2⟩ := z
    obtain ⟨p', vs', q1, q2, q3, q4⟩ := R.ow i ds z1
    rw [q1] at z2
    have z3 : p' = p := by injection z2 with z2; injection z2 with z2; injection z2
    rw [z3] at q3; exact q3.ne hp
theorem Rs.newL {F : Hp} {ρ : Rho} {σ : L2.St} {H : Hp} {p : Addr} {vs : List V} {ds : List PD} {Q : VK} (R : Rs S F ρ σ H) (hp : H p = none) (ha : RpAll S.K F vs ds)
    (q : ∀ F' H' v, Ext (Own ρ σ) F H (Own ρ σ) F' H' → Rs S F' ρ σ H' → RvR S (Own ρ σ) H (Own ρ σ) F' H' v (.ow ds) → Q v H') : Q (.ref p) (upd H p (.lst vs)) := by
  obtain ⟨e, R', hF, hO⟩ := Ext.new (vs := vs) R hp
  exact q F _ _ e R' ⟨p, vs, rfl, hF, upd_same, ha, hO, .inl hp⟩
/-- a new tuple, frozen at once -/
theorem Rs.newT {F : Hp} {ρ : Rho} {σ : L2.St} {H : Hp} {p : Addr} {vs : List V} {ds : List PD} {Q : VK} (R : Rs S F ρ σ H) (hp : H p = none) (ha : RpAll S.K F vs ds)
    (q : ∀ F' H' v, Ext (Own ρ σ) F H (Own ρ σ) F' H' → Rs S F' ρ σ H' → RvR S (Own ρ σ) H (Own ρ σ) F' H' v (.fr (.tuple ds)) → Q v H') : Q (.ref p) (upd H p (.tup vs)) := by
  have hF : F p = none := by
    cases e : F p with
    | none => rfl
    | some o => rw [R.ex p o e] at hp; cases hp
  have up : ∀ a o, H a = some o → upd H p (.tup vs) a = some o := fun a o q => by rw [upd_ne (ne_of_none q hp)]; exact q
  have upF : ∀ a o, F a = some o → upd F p (.tup vs) a = some o := fun a o q => by rw [upd_ne (ne_of_none q hF)]; exact q
  refine q (upd F p (.tup vs)) _ _ ⟨upF, fun a q => ?_, fun a o q _ => up a o q, fun a q => ?_, fun _ q => .inl q⟩ ⟨fun a o q => ?_, R.len, fun i d q => ?_, fun i ds q => ?_, R.sep, R.pin, R.sm.up upF⟩ (.tup upd_same (rpa_mono upF _ _ ha))
  · by_cases z : a = p
    · subst z; exact .inr (.inl hp)
    · rw [upd_ne z] at q; exact .inl q
  · cases e : H a with
    | none => exact absurd e q
    | some o => rw [up a o e]; simp
  · by_cases z : a = p
    · subst z; rw [upd_same] at q ⊢; exact q
    · rw [upd_ne z] at q ⊢; exact R.ex a o q
  · obtain ⟨w, q1, q2⟩ := R.fr i d q
    exact ⟨w, q1, rp_mono upF _ _ q2⟩
  · obtain ⟨p', vs', q1, q2, q3, q4⟩ := R.ow i ds q
    have z : p' ≠ p := fun z => by rw [z] at q3; exact q3.ne hp
    exact ⟨p', vs', q1, by rw [upd_ne z]; exact q2, q3.mono (up _), rpa_mono upF _ _ q4⟩
end
end Sd
namespace Sd
open PySem L2 PySem.Spec PyProof.Rows
/-! ### ints -/
def lg (i : Int) : Nat := i.natAbs.log2
theorem bits_lg (x : Int) : Builtin.Int.intBits x ≤ lg x + 1 := by
  unfold Builtin.Int.intBits lg
  split <;> omega
def okMul (i j : Int) : Bool := decide (lg i + lg j < 100000000)
def okPow (i n : Int) : Bool := decide (0 ≤ n) && decide ((lg i + 1) * n.toNat ≤ 100000000)
def okDiv (j : Int) : Bool := decide (j ≠ 0) && decide (lg j < 9000)
def okShl (i n : Int) : Bool := decide (0 ≤ n) && decide (lg i + 1 + n.toNat ≤ 100000000)
theorem okMul.ok {i j : Int} (h : okMul i j = true) : IntMulOk i j := by
  have h1 := of_decide_eq_true h
  have a := bits_lg i
  have b := bits_lg j
  have e : bitsLine = 134217728 := (by decide)
  unfold IntMulOk
  intro z
  rw [Bool.and_eq_true] at z
  have z2 := z.2
  (unfold Builtin.Int.intTooBig at z2)
  have z3 := (of_decide_eq_true z2)
  rw [e] at z3
  omega
section
variable {X : Cx} {S : Sx} {k : Nat}
def ii (C : Int → Int → Bool) (g : Int → Int → PD) : PD → PD → Option PD := fun x y => match x, y with
  | .int i, .int j => if C i j = true then some (g i j) else none
  | _, _ => none
theorem ii_inv {C : Int → Int → Bool} {g : Int → Int → PD} {x y : PD} {z : PD} (h : ii C g x y = some z) : ∃ i j, x = .int i ∧ y = .int j ∧ C i j = true ∧ z = g i j := by
  unfold ii at h
  split at h
  · split at h
    · rename_i i j c
      exact ⟨i, j, rfl, rfl, c, (Option.some.inj h).symm⟩
    · cases h
  · cases h
theorem sim_int {C' : Int → Int → Prop} {f : Int → Int → V} {C : Int → Int → Bool} {g : Int → Int → PD} (hc : ∀ i j, C i j = true → C' i j) (hf : ∀ i j F, Rp S.K F (f i j) (g i j)) : Sim2 X S (rI C' f) fun x y => (ii C g x y).map .fr :=
  Sim2.pure fun F H x y dx dy z _ hx hy h => by
    obtain ⟨i, j, rfl, rfl, c, rfl⟩ := ii_inv h
    cases hx
    cases hy
    exact ⟨f i j, hf i j F, fun Q q => ⟨i, j, rfl, rfl, hc i j c, q⟩⟩
theorem rI_of0 {f : Int → Int → V} : rI0 f = rI (fun _ _ => True) f := by
  funext x y H Q
  simp [rI0, rI]
def yes2 : Int → Int → Bool := fun _ _ => true
def gAddI := ii yes2 fun i j => .int (i + j)
def gSubI := ii yes2 fun i j => .int (i - j)
def gMulI := ii okMul fun i j => .int (i * j)
def gDivI := ii (fun _ j => okDiv j) fun i j => .int (i.fdiv j)
def gModI := ii (fun _ j => decide (j ≠ 0)) fun i j => .int (i.fmod j)
def gPowI := ii okPow fun i j => .int (i ^ j.toNat)
def gShlI := ii okShl fun i j => .int (i * 2 ^ j.toNat)
def gShrI := ii (fun _ j => decide (0 ≤ j)) fun i j => .int (i / 2 ^ j.toNat)
def gAndI := ii yes2 fun i j => .int (Builtin.bitAnd i j)
theorem op_fdivG : OpR X (binaryOp .FloorDiv) (rI (fun _ j => okDiv j = true) fun i j => .int (i.fdiv j)) := opI fun i j _ _ _ _ _ hc q => by
  have h := Bool.and_eq_true_iff.mp hc
  exact floordiv_int (of_decide_eq_true h.1) q (.inl (PyProof.noPylong_of_log2 (of_decide_eq_true h.2)))
theorem op_mulG : OpR X (binaryOp .Mult) (rI (fun i j => okMul i j = true) fun i j => .int (i * j)) := opI fun _ _ _ _ _ _ _ hc q => mul_int q (okMul.ok hc)
theorem op_powG : OpR X (binaryOp .Pow) (rI (fun i j => okPow i j = true) fun i j => .int (i ^ j.toNat)) := opI fun i j _ _ _ _ _ hc q => by
  have h := Bool.and_eq_true_iff.mp hc
  have h1 : (0 : Int) ≤ j := of_decide_eq_true h.1
  have h2 : (lg i + 1) * j.toNat ≤ 100000000 := of_decide_eq_true h.2
  refine pow_int h1 ?_ q
  have h3 : Builtin.Int.intBits i * j.toNat ≤ 100000000 := Nat.le_trans (Nat.mul_le_mul_right _ (bits_lg i)) h2
  obtain ⟨m, rfl⟩ := Int.eq_ofNat_of_zero_le h1
  have h4 : ((Builtin.Int.intBits i * m : Nat) : Int) ≤ 100000000 := by
    have h5 : Builtin.Int.intBits i * m ≤ 100000000 := h3
    omega
  rw [Int.natCast_mul] at h4
  omega
theorem op_shlG : OpR X (binaryOp .LShift) (rI (fun i j => okShl i j = true) fun i j => .int (i * 2 ^ j.toNat)) := opI fun i j _ _ _ _ _ hc q => by
  have h := Bool.and_eq_true_iff.mp hc
  have h1 : (0 : Int) ≤ j := of_decide_eq_true h.1
  have h2 : lg i + 1 + j.toNat ≤ 100000000 := of_decide_eq_true h.2
  have h3 := bits_lg i
  exact lshift_int h1 (by omega) q
theorem sim_addI : Sim2 X S (rI0 fun i j => .int (i + j)) fun x y => (gAddI x y).map .fr := rI_of0 ▸ sim_int (fun _ _ _ => trivial) fun i j _ => .int _
theorem sim_subI : Sim2 X S (rI0 fun i j => .int (i - j)) fun x y => (gSubI x y).map .fr := rI_of0 ▸ sim_int (fun _ _ _ => trivial) fun i j _ => .int _
theorem sim_andI : Sim2 X S (rI0 fun i j => .int (Builtin.bitAnd i j)) fun x y => (gAndI x y).map .fr := rI_of0 ▸ sim_int (fun _ _ _ => trivial) fun i j _ => .int _
theorem sim_mulI : Sim2 X S (rI (fun i j => okMul i j = true) fun i j => .int (i * j)) fun x y => (gMulI x y).map .fr := sim_int (fun _ _ h => h) fun i j _ => .int _
theorem sim_divI : Sim2 X S (rI (fun _ j => okDiv j = true) fun i j => .int (i.fdiv j)) fun x y => (gDivI x y).map .fr := sim_int (fun _ _ h => h) fun i j _ => .int _
theorem sim_modI : Sim2 X S (rI (fun _ j => j ≠ 0) fun i j => .int (i.fmod j)) fun x y => (gModI x y).map .fr := sim_int (fun _ _ h => of_decide_eq_true h) fun i j _ => .int _
theorem sim_powI : Sim2 X S (rI (fun i j => okPow i j = true) fun i j => .int (i ^ j.toNat)) fun x y => (gPowI x y).map .fr := sim_int (fun _ _ h => h) fun i j _ => .int _
theorem sim_shlI : Sim2 X S (rI (fun i j => okShl i j = true) fun i j => .int (i * 2 ^ j.toNat)) fun x y => (gShlI x y).map .fr := sim_int (fun _ _ h => h) fun i j _ => .int _
theorem sim_shrI : Sim2 X S (rI (fun _ j => 0 ≤ j) fun i j => .int (i / 2 ^ j.toNat)) fun x y => (gShrI x y).map .fr := sim_int (fun _ _ h => of_decide_eq_true h) fun i j _ => .int _
/-! ### lists and texts under + and * -/
def okLen (n : Nat) : Bool := decide (n ≤ 1000000)
theorem okLen.ok {n : Nat} (h : okLen n = true) : n ≤ sizeLine := Nat.le_trans (of_decide_eq_true h) (by decide)
def gCatL : PD → PD → Option Rv := fun x y => match x, y with
  | .list a, .list b => if okLen (a.length + b.length) = true then some (.ow (a ++ b)) else none
  | _, _ => none
theorem sim_cat : Sim2 X S rCat gCatL := by
  intro F ρ σ H x y dx dy z Q R hx hy hz q
  unfold gCatL at hz
  split at hz
  · split at hz
    · rename_i a b c
      cases hz
      cases hx with
      | lst h1 a1 =>
        cases hy with
        | lst h2 a2 =>
          refine ⟨_, _, _, _, rfl, rfl, R.ex _ _ h1, R.ex _ _ h2, ?_, fun p hp => Rs.newL R hp (a1.app a2) q⟩
          rw [a1.len, a2.len]
          exact okLen.ok c
    · cases hz
  · cases hz
def gRepL : PD → PD → Option Rv := fun x y => match x, y with
  | .list a, .int n => if (okLen (a.length * n.toNat) && decide (-(2 ^ 62) ≤ n) && decide (n < 2 ^ 62)) = true then some (.ow (List.replicate n.toNat a).flatten) else none
  | _, _ => none
theorem sim_rep : Sim2 X S rRep gRepL := by
  intro F ρ σ H x y dx dy z Q R hx hy hz q
  unfold gRepL at hz
  split at hz
  · split at hz
    · rename_i a b c
      cases hz
      simp only [Bool.and_eq_true, decide_eq_true_eq] at c
      cases hx with
      | lst h1 a1 =>
        cases hy
        refine ⟨_, _, _, rfl, rfl, R.ex _ _ h1, by omega, by omega, ?_, fun p hp => Rs.newL R hp (a1.rep _) q⟩
        rw [a1.len]
        exact okLen.ok c.1.1
    · cases hz
  · cases hz
def gCatS : PD → PD → Option PD := fun x y => match x, y with
  | .str a, .str b => if okLen (a.length + b.length) = true then some (.str (a ++ b)) else none
  | _, _ => none
theorem sim_catS : Sim2 X S (fun x y H Q => ∃ i j, x = .str i ∧ y = .str j ∧ i.length + j.length ≤ sizeLine ∧ Q (.str (i ++ j)) H) fun x y => (gCatS x y).map .fr :=
  Sim2.pure fun F H x y dx dy z _ hx hy h => by
    unfold gCatS at h
    split at h
    · split at h
      · rename_i a b c
        cases h
        cases hx
        cases hy
        exact ⟨.str (a ++ b), .str _, fun Q q => ⟨a, b, rfl, rfl, okLen.ok c, q⟩⟩
      · cases h
    · cases h
def gAdd : PD → PD → Option Rv := fun x y => ((gAddI x y).map Rv.fr).orElse fun _ => (gCatL x y).orElse fun _ => (gCatS x y).map Rv.fr
def gMul : PD → PD → Option Rv := fun x y => ((gMulI x y).map Rv.fr).orElse fun _ => gRepL x y
variable {a b : Expr} {ma mb : Rho → Rz Rv} {pos : Pos}
theorem xe_add (ha : XE X S a ma) (hb : XE X S b mb) : XE X S (.BinOp a .Add b pos) (mOp2 gAdd ma mb) := xe_op (op_add.or (op_cat.or op_add_str)) (sim_addI.or (sim_cat.or sim_catS)) ha hb
theorem xe_mul (ha : XE X S a ma) (hb : XE X S b mb) : XE X S (.BinOp a .Mult b pos) (mOp2 gMul ma mb) := xe_op (op_mulG.or op_rep) (sim_mulI.or sim_rep) ha hb
theorem xe_sub (ha : XE X S a ma) (hb : XE X S b mb) : XE X S (.BinOp a .Sub b pos) (mOp2 (fun x y => (gSubI x y).map .fr) ma mb) := xe_op op_sub sim_subI ha hb
theorem xe_div (ha : XE X S a ma) (hb : XE X S b mb) : XE X S (.BinOp a .FloorDiv b pos) (mOp2 (fun x y => (gDivI x y).map .fr) ma mb) := xe_op op_fdivG sim_divI ha hb
theorem xe_mod (ha : XE X S a ma) (hb : XE X S b mb) : XE X S (.BinOp a .Mod b pos) (mOp2 (fun x y => (gModI x y).map .fr) ma mb) := xe_op op_modN sim_modI ha hb
theorem xe_pow (ha : XE X S a ma) (hb : XE X S b mb) : XE X S (.BinOp a .Pow b pos) (mOp2 (fun x y => (gPowI x y).map .fr) ma mb) := xe_op op_powG sim_powI ha hb
theorem xe_shl (ha : XE X S a ma) (hb : XE X S b mb) : XE X S (.BinOp a .LShift b pos) (mOp2 (fun x y => (gShlI x y).map .fr) ma mb) := xe_op op_shlG sim_shlI ha hb
theorem xe_shr (ha : XE X S a ma) (hb : XE X S b mb) : XE X S (.BinOp a .RShift b pos) (mOp2 (fun x y => (gShrI x y).map .fr) ma mb) := xe_op op_shr sim_shrI ha hb
theorem xe_band (ha : XE X S a ma) (hb : XE X S b mb) : XE X S (.BinOp a .BitAnd b pos) (mOp2 (fun x y => (gAndI x y).map .fr) ma mb) := xe_op op_and sim_andI ha hb
/-! ### one place -/
def mOp1 (g : PD → Option PD) (a : Rho → Rz Rv) : Rho → Rz Rv := fun ρ => (a ρ).bind fun x ρ1 => match g x.d with
  | some r => .ok (.fr r) ρ1
  | none => .stuck
def gNeg : PD → Option PD
  | .int i => some (.int (-i))
  | _ => none
theorem xe_neg (ha : XE X S a ma) : XE X S (.UnaryOp .USub a pos) (mOp1 gNeg ma) := PE.imp (pe_un un_neg ha) fun σ H Q q => by
  obtain ⟨F, ρ, R, P⟩ := q
  refine tE.use (β := Rv) (g := fun x ρ1 => match gNeg x with
    | some r => .ok (.fr r) ρ1
    | none => .stuck) R P fun v d F1 ρ1 H1 e1 R1 D1 P1 => ?_
  cases D1 with
  | int i => exact ⟨i, rfl, PostE.ok P1 R1 _ (.int _)⟩
  | _ => exact P1.elim
/-! ### == of data -/
mutual
theorem rp_dp {K : PySem.W.Frag} {F : Hp} : ∀ (d : PD) (v : V), d.canLay0 = true → Rp K F v d → Dp K F v d
  | .none, _, _, h => by cases h; exact .non
  | .bool b, _, _, h => by cases h; exact .bl b
  | .int i, _, _, h => by cases h; exact .int i
  | .str x, _, _, h => by cases h; exact .str x
  | .list ds, _, c, h => by
    cases h with
    | lst hs ha => exact .lst (.inl (.inl hs)) (rpa_dp ds _ (by simpa [PyData.canLay0] using c) ha)
  | .tuple ds, _, c, h => by
    cases h with
    | tup hs ha => exact .tup (.inl (.inl hs)) (rpa_dp ds _ (by simpa [PyData.canLay0] using c) ha)
  | .dict _, _, c, _ => by simp [PyData.canLay0] at c
theorem rpa_dp {K : PySem.W.Frag} {F : Hp} : ∀ (ds : List PD) (vs : List V), PyData.canLayAll0 ds = true → RpAll K F vs ds → DpAll K F vs ds
  | [], _, _, h => by cases h; exact .nil
  | d :: ds, _, c, h => by
    have c' : d.canLay0 = true ∧ PyData.canLayAll0 ds = true := by simpa [PyData.canLayAll0] using c
    cases h with
    | cons h1 h2 => exact .cons (rp_dp d _ c'.1 h1) (rpa_dp ds _ c'.2 h2)
end
def gEq : PD → PD → Option PD := fun x y => if (SeqAt.shaped x && SeqAt.shaped y) = true then some (.bool (PyData.eqv x y)) else none
def gNe : PD → PD → Option PD := fun x y => if (SeqAt.shaped x && SeqAt.shaped y) = true then some (.bool (!PyData.eqv x y)) else none
theorem sim_eq (hK : S.K = X.K) : Sim2 X S (rEqD X.K) fun x y => (gEq x y).map .fr := Sim2.pure fun F H x y dx dy z up hx hy h => by
  unfold gEq at h
  split at h
  · rename_i c
    cases h
    have c' := Bool.and_eq_true_iff.mp c
    have l1 := SeqAt.canLay_of_shaped c'.1
    have l2 := SeqAt.canLay_of_shaped c'.2
    rw [hK] at hx hy
    exact ⟨.bl _, .bl _, fun Q q => ⟨dx, dy, rp_dp _ _ l1 (rp_mono up _ _ hx), rp_dp _ _ l2 (rp_mono up _ _ hy), c'.1, c'.2, q⟩⟩
  · cases h
theorem sim_ne (hK : S.K = X.K) : Sim2 X S (rNeD X.K) fun x y => (gNe x y).map .fr := Sim2.pure fun F H x y dx dy z up hx hy h => by
  unfold gNe at h
  split at h
  · rename_i c
    cases h
    have c' := Bool.and_eq_true_iff.mp c
    have l1 := SeqAt.canLay_of_shaped c'.1
    have l2 := SeqAt.canLay_of_shaped c'.2
    rw [hK] at hx hy
    exact ⟨.bl _, .bl _, fun Q q => ⟨dx, dy, rp_dp _ _ l1 (rp_mono up _ _ hx), rp_dp _ _ l2 (rp_mono up _ _ hy), c'.1, c'.2, q⟩⟩
  · cases h
def gLt := ii yes2 fun i j => .bool (decide (i < j))
def gLe := ii yes2 fun i j => .bool (decide (i ≤ j))
def gGt := ii yes2 fun i j => .bool (decide (j < i))
def gGe := ii yes2 fun i j => .bool (decide (j ≤ i))
theorem sim_lt : Sim2 X S (rI0 fun i j => .bl (decide (i < j))) fun x y => (gLt x y).map .fr := rI_of0 ▸ sim_int (fun _ _ _ => trivial) fun i j _ => .bl _
theorem sim_le : Sim2 X S (rI0 fun i j => .bl (decide (i ≤ j))) fun x y => (gLe x y).map .fr := rI_of0 ▸ sim_int (fun _ _ _ => trivial) fun i j _ => .bl _
theorem sim_gt : Sim2 X S (rI0 fun i j => .bl (decide (j < i))) fun x y => (gGt x y).map .fr := rI_of0 ▸ sim_int (fun _ _ _ => trivial) fun i j _ => .bl _
theorem sim_ge : Sim2 X S (rI0 fun i j => .bl (decide (j ≤ i))) fun x y => (gGe x y).map .fr := rI_of0 ▸ sim_int (fun _ _ _ => trivial) fun i j _ => .bl _
def isNone : PD → Bool
  | .none => true
  | _ => false
def gIs : PD → PD → Option PD := fun x y => match y with
  | .none => some (.bool (isNone x))
  | _ => none
def gIsNot : PD → PD → Option PD := fun x y => match y with
  | .none => some (.bool (!isNone x))
  | _ => none
theorem isNone_rp {K : PySem.W.Frag} {F : Hp} {x : V} {d : PD} (h : Rp K F x d) : decide (x = .non) = isNone d := by
  cases h <;> rfl
theorem sim_is : Sim2 X S (fun x y H Q => y = .non ∧ Q (.bl (decide (x = .non))) H) fun x y => (gIs x y).map .fr := Sim2.pure fun F H x y dx dy z up hx hy h => by
  unfold gIs at h
  split at h
  · cases h
    cases hy
    exact ⟨.bl _, .bl _, fun Q q => ⟨rfl, by rw [isNone_rp hx]; exact q⟩⟩
  · cases h
theorem sim_isnot : Sim2 X S (fun x y H Q => y = .non ∧ Q (.bl (!decide (x = .non))) H) fun x y => (gIsNot x y).map .fr := Sim2.pure fun F H x y dx dy z up hx hy h => by
  unfold gIsNot at h
  split at h
  · cases h
    cases hy
    exact ⟨.bl _, .bl _, fun Q q => ⟨rfl, by rw [isNone_rp hx]; exact q⟩⟩
  · cases h
theorem Okx.un {k : Nat} (o : Okx X S k) : X.A.units + 64 < cLine := o.rm.units
/-! ### tests -/
def tT (S : Sx) (m : Rho → Rz Bool) : TT := fun σ H Q => ∃ F ρ, Rs S F ρ σ H ∧ PostE S σ F ρ H (m ρ) fun _ _ H' b => Q b H'
def XT (X : Cx) (S : Sx) (e : Expr) (m : Rho → Rz Bool) : Prop := PT X e (tT S m)
def XW (X : Cx) (S : Sx) (e : Expr) (m : Rho → Rz Bool) : Prop := PW X e (tT S m)
theorem PT.imp {X : Cx} {e : Expr} {t t' : TT} (h : PT X e t) (hi : ∀ σ H Q, t' σ H Q → t σ H Q) : PT X e t' := ⟨fun pn s σ H Q I q => h.run pn s σ H Q I (hi σ H Q q)⟩
theorem PW.imp {X : Cx} {e : Expr} {t t' : TT} (h : PW X e t) (hi : ∀ σ H Q, t' σ H Q → t σ H Q) : PW X e t' := ⟨fun w pn s σ H Q I q => h.run w pn s σ H Q I (hi σ H Q q)⟩
/-- a value that is a bool, as a test -/
def mB (m : Rho → Rz Rv) : Rho → Rz Bool := fun ρ => (m ρ).bind fun r ρ1 => match r.d with
  | .bool b => .ok b ρ1
  | _ => .stuck
theorem tT_B {m : Rho → Rz Rv} {σ : L2.St} {H : Hp} {Q : Bool → Hp → Prop} (q : tT S (mB m) σ H Q) : tE S m σ H fun x H' => ∃ c, x = .bl c ∧ Q c H' := by
  obtain ⟨F, ρ, R, P⟩ := q
  refine tE.use (g := fun x ρ1 => match x with
    | .bool b => .ok b ρ1
    | _ => .stuck) R P fun v d F1 ρ1 H1 e1 R1 D1 P1 => ?_
  cases D1 with
  | bl b => exact ⟨b, rfl, PostE.ok P1 R1⟩
  | _ => exact P1.elim
theorem xt_cmp {op : CmpOp} {r : R2} {g : PD → PD → Option Rv} (ho : OpR X (compareOp op) r) (hs : Sim2 X S r g) (ha : XE X S a ma) (hb : XE X S b mb) (hm : behindInMarks op b = false := by first | exact nomark _ | with_unfolding_all rfl) :
    XT X S (.Compare a [op] [b] pos) (mB (mOp2 g ma mb)) := PT.imp (pt_cmpR ho ha hb hm) fun σ H Q q => by
  have h := tT_B q
  exact sim_bin hs h
theorem xt_B {e : Expr} {m : Rho → Rz Rv} (h : XE X S e m) (he : ∀ whole, isTrue e X.env whole = (do let v ← whole; standAt e.pos; holding [v] (truthy v)) := by intro _; rfl) : XT X S e (mB m) := PT.imp (pt_val h he) fun σ H Q q => tT_B q
def gTru : PD → Option Bool
  | .none => some false
  | .bool b => some b
  | .int i => some (i != 0)
  | .str x => if okLen x.length = true then some ((x.length : Int) != 0) else none
  | .list xs => some (!xs.isEmpty)
  | .tuple xs => some (!xs.isEmpty)
  | .dict _ => none
def mTr (m : Rho → Rz Rv) : Rho → Rz Bool := fun ρ => (m ρ).bind fun r ρ1 => match gTru r.d with
  | some b => .ok b ρ1
  | none => .stuck
theorem RpAll.empty {K : PySem.W.Frag} {F : Hp} {vs : List V} {ds : List PD} (h : RpAll K F vs ds) : vs.isEmpty = ds.isEmpty := by
  cases h <;> rfl
theorem tru_rp {K : PySem.W.Frag} {F H : Hp} {x : V} {d : PD} {b : Bool} (up : ∀ a o, F a = some o → H a = some o) (h : Rp K F x d) (hb : gTru d = some b) : TruV K x H b := by
  cases h with
  | non => exact (Option.some.inj hb).symm
  | bl c => exact (Option.some.inj hb).symm
  | int i => exact (Option.some.inj hb).symm
  | str y =>
    have hb : (if okLen y.length = true then some ((y.length : Int) != 0) else none) = some b := hb
    split at hb
    · rename_i c
      exact ⟨okLen.ok c, (Option.some.inj hb).symm⟩
    · cases hb
  | lst h1 h2 => exact .inl ⟨_, .inl (.inl (up _ _ h1)), by rw [h2.empty]; exact (Option.some.inj hb).symm⟩
  | tup h1 h2 => exact .inr (.inl ⟨_, .inl (.inl (up _ _ h1)), by rw [h2.empty]; exact (Option.some.inj hb).symm⟩)
  | scr h1 => cases hb
  | dct h1 => cases hb
theorem xt_tr {e : Expr} {m : Rho → Rz Rv} (hK : S.K = X.K) (h : XE X S e m) (he : ∀ whole, isTrue e X.env whole = (do let v ← whole; standAt e.pos; holding [v] (truthy v)) := by intro _; rfl) : XT X S e (mTr m) := PT.imp (pt_truth h he) fun σ H Q q => by
  obtain ⟨F, ρ, R, P⟩ := q
  refine tE.use (g := fun x ρ1 => match gTru x with
    | some b => .ok b ρ1
    | none => .stuck) R P fun v d F1 ρ1 H1 e1 R1 D1 P1 => ?_
  cases hb : gTru d with
  | none => rw [hb] at P1; exact P1.elim
  | some b =>
    rw [hb] at P1
    exact ⟨b, hK ▸ tru_rp R1.ex D1 hb, PostE.ok P1 R1⟩
def mNotT (m : Rho → Rz Bool) : Rho → Rz Bool := fun ρ => (m ρ).bind fun b ρ1 => .ok (!b) ρ1
theorem xt_not {m : Rho → Rz Bool} (h : XT X S a m) : XT X S (.UnaryOp .Not a pos) (mNotT m) := PT.imp (pt_not h) fun σ H Q q => by
  obtain ⟨F, ρ, R, P⟩ := q
  exact ⟨F, ρ, R, PostE.mono (PostE.bind P) fun F1 ρ1 H1 b e1 R1 P1 => PostE.ok (P1 F1 e1) R1⟩
def mAndT (m n : Rho → Rz Bool) : Rho → Rz Bool := fun ρ => (m ρ).bind fun b ρ1 => if b = true then n ρ1 else .ok false ρ1
def mOrT (m n : Rho → Rz Bool) : Rho → Rz Bool := fun ρ => (m ρ).bind fun b ρ1 => if b = true then .ok true ρ1 else n ρ1
variable {rest : List Expr} {m n : Rho → Rz Bool}
theorem xw_and1 (h : XT X S a m) : XW X S (.BoolOp .And [a] pos) m := pw_and1 h
theorem xw_or1 (h : XT X S a m) : XW X S (.BoolOp .Or [a] pos) m := pw_or1 h
theorem xw_and (h : XT X S a m) (h' : XW X S (.BoolOp .And (b :: rest) pos) n) : XW X S (.BoolOp .And (a :: b :: rest) pos) (mAndT m n) := PW.imp (pw_and h h') fun σ H Q q => by
  obtain ⟨F, ρ, R, P⟩ := q
  refine ⟨F, ρ, R, PostE.mono (PostE.bind P) fun F1 ρ1 H1 c e1 R1 P1 => ?_⟩
  have P2 := P1 F1 e1
  cases c with
  | true => exact ⟨F1, ρ1, R1, P2⟩
  | false => exact PostE.ok P2 R1
theorem xw_or (h : XT X S a m) (h' : XW X S (.BoolOp .Or (b :: rest) pos) n) : XW X S (.BoolOp .Or (a :: b :: rest) pos) (mOrT m n) := PW.imp (pw_or h h') fun σ H Q q => by
  obtain ⟨F, ρ, R, P⟩ := q
  refine ⟨F, ρ, R, PostE.mono (PostE.bind P) fun F1 ρ1 H1 c e1 R1 P1 => ?_⟩
  have P2 := P1 F1 e1
  cases c with
  | true => exact PostE.ok P2 R1
  | false => exact ⟨F1, ρ1, R1, P2⟩
theorem XW.t {e : Expr} (h : XW X S e m) : XT X S e m := PW.pt h
/-! ### .. as values -/
def mIf (t : Rho → Rz Bool) (ma mb : Rho → Rz Rv) : Rho → Rz Rv := fun ρ => (t ρ).bind fun c ρ1 => if c = true then ma ρ1 else mb ρ1
theorem xe_if {c : Expr} (hc : XT X S c m) (ha : XE X S a ma) (hb : XE X S b mb) : XE X S (.IfExp c a b pos) (mIf m ma mb) := PE.imp (pe_ifExp hc ha hb) fun σ H Q q => by
  obtain ⟨F, ρ, R, P⟩ := q
  refine ⟨F, ρ, R, PostE.mono (PostE.bind P) fun F1 ρ1 H1 c e1 R1 P1 => ?_⟩
  have P2 := P1 F1 e1
  cases c with
  | true => exact ⟨F1, ρ1, R1, PostE.mono P2 fun F' ρ' H' r e R' q v hv => q v (hv.mono e1)⟩
  | false => exact ⟨F1, ρ1, R1, PostE.mono P2 fun F' ρ' H' r e R' q v hv => q v (hv.mono e1)⟩
def mNotV (ma : Rho → Rz Rv) : Rho → Rz Rv := fun ρ => (ma ρ).bind fun x ρ1 => match x.d with
  | .bool b => .ok (.fr (.bool (!b))) ρ1
  | _ => .stuck
theorem xe_not (ha : XE X S a ma) : XE X S (.UnaryOp .Not a pos) (mNotV ma) := PE.imp (pe_not ha) fun σ H Q q => by
  obtain ⟨F, ρ, R, P⟩ := q
  refine tE.use (β := Rv) (g := fun x ρ1 => match x with
    | .bool b => .ok (.fr (.bool (!b))) ρ1
    | _ => .stuck) R P fun v d F1 ρ1 H1 e1 R1 D1 P1 => ?_
  cases D1 with
  | bl b => exact ⟨b, rfl, PostE.ok P1 R1 _ (.bl _)⟩
  | _ => exact P1.elim
def mAndV (ma mb : Rho → Rz Rv) : Rho → Rz Rv := fun ρ => (ma ρ).bind fun x ρ1 => match x.d with
  | .bool b => if b = true then mb ρ1 else .ok (.fr (.bool false)) ρ1
  | _ => .stuck
def mOrV (ma mb : Rho → Rz Rv) : Rho → Rz Rv := fun ρ => (ma ρ).bind fun x ρ1 => match x.d with
  | .bool b => if b = true then .ok (.fr (.bool true)) ρ1 else mb ρ1
  | _ => .stuck
theorem xe_one {op} (ha : XE X S a ma) : XE X S (.BoolOp op [a] pos) ma := pe_one ha
theorem xe_and (ha : XE X S a ma) (hb : XE X S (.BoolOp .And (b :: rest) pos) mb) : XE X S (.BoolOp .And (a :: b :: rest) pos) (mAndV ma mb) := PE.imp (pe_and ha hb) fun σ H Q q => by
  obtain ⟨F, ρ, R, P⟩ := q
  refine tE.use (g := fun x ρ1 => match x with
    | .bool b => if b = true then mb ρ1 else .ok (.fr (.bool false)) ρ1
    | _ => .stuck) R P fun v d F1 ρ1 H1 e1 R1 D1 P1 => ?_
  cases D1 with
  | bl b =>
    refine ⟨b, rfl, ?_⟩
    cases b with
    | true => exact ⟨F1, ρ1, R1, PostE.mono P1 fun F' ρ' H' r e R' q v hv => q v (hv.mono e1)⟩
    | false => exact PostE.ok P1 R1 _ (.bl _)
  | _ => exact P1.elim
theorem xe_or (ha : XE X S a ma) (hb : XE X S (.BoolOp .Or (b :: rest) pos) mb) : XE X S (.BoolOp .Or (a :: b :: rest) pos) (mOrV ma mb) := PE.imp (pe_or ha hb) fun σ H Q q => by
  obtain ⟨F, ρ, R, P⟩ := q
  refine tE.use (g := fun x ρ1 => match x with
    | .bool b => if b = true then .ok (.fr (.bool true)) ρ1 else mb ρ1
    | _ => .stuck) R P fun v d F1 ρ1 H1 e1 R1 D1 P1 => ?_
  cases D1 with
  | bl b =>
    refine ⟨b, rfl, ?_⟩
    cases b with
    | true => exact PostE.ok P1 R1 _ (.bl _)
    | false => exact ⟨F1, ρ1, R1, PostE.mono P1 fun F' ρ' H' r e R' q v hv => q v (hv.mono e1)⟩
  | _ => exact P1.elim
end
end Sd
namespace Sd
open PySem L2 PySem.Spec PyProof.Rows
section
variable {X : Cx} {S : Sx} {k : Nat} {e : Expr} {es : List Expr} {pos : Pos}
/-! ### arguments, displays -/
def tA (S : Sx) (m : Rho → Rz (List PD)) : TA := fun σ H Q => ∃ F ρ, Rs S F ρ σ H ∧ PostE S σ F ρ H (m ρ) fun F' ρ' H' ds => ∀ vs, RpAll S.K F' vs ds → Q vs H'
def XA (X : Cx) (S : Sx) (es : List Expr) (m : Rho → Rz (List PD)) : Prop := PA X es (tA S m)
theorem PA.imp {X : Cx} {e : List Expr} {t t' : TA} (h : PA X e t) (hi : ∀ σ H Q, t' σ H Q → t σ H Q) : PA X e t' := ⟨fun p pn s σ H Q I q => h.run p pn s σ H Q I (hi σ H Q q)⟩
def mNil : Rho → Rz (List PD) := fun ρ => .ok [] ρ
def mCons (m : Rho → Rz Rv) (n : Rho → Rz (List PD)) : Rho → Rz (List PD) := fun ρ => (m ρ).bind fun x ρ1 => (n ρ1).bind fun xs ρ2 => .ok (x.d :: xs) ρ2
theorem xa_nil : XA X S [] mNil := PA.imp pa_nil fun σ H Q q => by
  obtain ⟨F, ρ, R, P⟩ := q
  exact PostE.ok P R [] .nil
theorem tA_cons {m : Rho → Rz Rv} {n : Rho → Rz (List PD)} {σ : L2.St} {H : Hp} {Q : List V → Hp → Prop} (q : tA S (mCons m n) σ H Q) : tCons (tE S m) (tA S n) σ H Q := by
  obtain ⟨F, ρ, R, P⟩ := q
  refine tE.use (β := List PD) (g := fun x ρ1 => (n ρ1).bind fun xs ρ2 => .ok (x :: xs) ρ2) R P fun v d F1 ρ1 H1 e1 R1 D1 P1 => ?_
  refine ⟨F1, ρ1, R1, PostE.mono (PostE.bind P1) fun F2 ρ2 H2 ds e2 R2 P2 vs hv => ?_⟩
  exact PostE.ok (P2 F2 e2) R2 (v :: vs) (.cons (rp_mono e2.fz _ _ D1) hv)
theorem xa_cons {m : Rho → Rz Rv} {n : Rho → Rz (List PD)} (ha : XE X S e m) (hr : XA X S es n) (hs : starEach (e :: es) X.env = (false, eval e X.env) :: starEach es X.env := by rfl) : XA X S (e :: es) (mCons m n) :=
  PA.imp (pa_cons ha hr hs) fun _ _ _ q => tA_cons q
theorem xa_one {m : Rho → Rz Rv} (ha : XE X S e m) (hs : starEach [e] X.env = [(false, eval e X.env)] := by rfl) : XA X S [e] (mCons m mNil) := xa_cons ha xa_nil hs
/-- *e among arguments, e a list -/
def mStar (m : Rho → Rz Rv) (n : Rho → Rz (List PD)) : Rho → Rz (List PD) := fun ρ => (m ρ).bind fun x ρ1 => match x.d with
  | .list ys => (n ρ1).bind fun xs ρ2 => .ok (ys ++ xs) ρ2
  | _ => .stuck
theorem gList_len {K : PySem.W.Frag} {F : Hp} {xs : List V} {ds : List PD} {a : Addr} (h : RpAll K F xs ds) : xs.length = ds.length := h.len
def mLst (m : Rho → Rz (List PD)) : Rho → Rz Rv := fun ρ => (m ρ).bind fun ds ρ1 => if okLen ds.length = true then .ok (.ow ds) ρ1 else .stuck
def mTup (m : Rho → Rz (List PD)) : Rho → Rz Rv := fun ρ => (m ρ).bind fun ds ρ1 => if okLen ds.length = true then .ok (.fr (.tuple ds)) ρ1 else .stuck
theorem xe_lst {m : Rho → Rz (List PD)} (h : XA X S es m) : XE X S (.List es pos) (mLst m) := PE.imp (pe_lst h) fun σ H Q q => by
  obtain ⟨F, ρ, R, P⟩ := q
  refine ⟨F, ρ, R, PostE.mono (PostE.bind P) fun F1 ρ1 H1 ds e1 R1 P1 vs hv => ?_⟩
  have P2 := P1 F1 e1
  by_cases c : okLen ds.length = true
  · rw [if_pos c] at P2
    exact ⟨by rw [hv.len]; exact okLen.ok c, fun p hp => Rs.newL R1 hp hv fun F' H' v e' R' h' => P2 F' H' e' R' v (h'.mono e1)⟩
  · rw [if_neg c] at P2; exact P2.elim
theorem xe_tup {m : Rho → Rz (List PD)} {j : Nat} (h : XA X S es m) : XE X S (.Tuple es j pos) (mTup m) := PE.imp (pe_tup h) fun σ H Q q => by
  obtain ⟨F, ρ, R, P⟩ := q
  refine ⟨F, ρ, R, PostE.mono (PostE.bind P) fun F1 ρ1 H1 ds e1 R1 P1 vs hv => ?_⟩
  have P2 := P1 F1 e1
  by_cases c : okLen ds.length = true
  · rw [if_pos c] at P2
    exact ⟨by rw [hv.len]; exact okLen.ok c, fun p hp => Rs.newT R1 hp hv fun F' H' v e' R' h' => P2 F' H' e' R' v (h'.mono e1)⟩
  · rw [if_neg c] at P2; exact P2.elim
/-! ### what a name holds, only looked at -/
/-- as peek tells, the heap itself -/
def Pk (S : Sx) (F H : Hp) (v : V) (d : PD) : Prop := Rp S.K F v d ∨ ∃ p vs ds, v = .ref p ∧ d = .list ds ∧ H p = some (.lst vs) ∧ RpAll S.K F vs ds
theorem Rs.peek {F : Hp} {ρ : Rho} {σ : L2.St} {H : Hp} {i : Nat} {d : PD} (R : Rs S F ρ σ H) (h : ρ.peek i = some d) (hT : S.T i = none) : ∃ v, σ[i]? = some (some v) ∧ Pk S F H v d := by
  unfold Rho.peek at h
  cases e : ρ[i]? with
  | none => (rw [e] at h; cases h)
  | some c =>
    rw [e] at h
    cases c with
    | no => cases h
    | fr d' =>
      cases h
      obtain ⟨v, e1, e2⟩ := R.fr i _ e
      exact ⟨v, e1, .inl e2⟩
    | ow ds =>
      cases h
      obtain ⟨p, vs, e1, e2, e3, e4⟩ := R.ow i _ e
      exact ⟨_, e1, .inr ⟨p, vs, ds, rfl, rfl, e3.lst hT, e4⟩⟩
/-- an item -/
def gIx (c i : PD) : Option PD := match c, i with
  | .list ds, .int n => atI ds n
  | .tuple ds, .int n => atI ds n
  | .str z, .int n => if okLen z.length = true then (atI z.cps.toList n).map fun c => .str ⟨#[c]⟩ else none
  | .dict [(.none, .list ds)], .int n => atI ds n
  | _, _ => none
theorem RpAll.atI {K : PySem.W.Frag} {F : Hp} {vs : List V} {ds : List PD} {n : Int} {d : PD} (h : RpAll K F vs ds) (e : atI ds n = some d) : ∃ v, L2.atI vs n = some v ∧ Rp K F v d := by
  unfold L2.atI at e ⊢
  rw [h.len]
  cases q : ixN ds.length n with
  | none => (rw [q] at e; cases e)
  | some j =>
    rw [q] at e
    exact h.at (i := j) e
theorem ix_run (hK : S.K = X.K) {F H : Hp} {x y : V} {c i d : PD} (up : ∀ a o, F a = some o → H a = some o) (hc : Pk S F H x c) (hi : Rp S.K F y i) (h : gIx c i = some d) : ∃ v, Rp S.K F v d ∧ ∀ Q : VK, Q v H → rIx X.K x y H Q := by
  unfold gIx at h
  split at h
  · rename_i ds n
    cases hi
    rcases hc with hc | ⟨p, vs, ds', rfl, e, h1, h2⟩
    · cases hc with
      | lst h1 h2 =>
        obtain ⟨v, e1, e2⟩ := h2.atI h
        exact ⟨v, e2, fun Q q => .inl ⟨_, _, _, v, rfl, rfl, .inl (.inl (up _ _ h1)), e1, q⟩⟩
    · cases e
      obtain ⟨v, e1, e2⟩ := h2.atI h
      exact ⟨v, e2, fun Q q => .inl ⟨_, _, _, v, rfl, rfl, .inl (.inl h1), e1, q⟩⟩
  · rename_i ds n
    cases hi
    rcases hc with hc | ⟨p, vs, ds', rfl, e, h1, h2⟩
    · cases hc with
      | tup h1 h2 =>
        obtain ⟨v, e1, e2⟩ := h2.atI h
        exact ⟨v, e2, fun Q q => .inr (.inl ⟨_, _, _, v, rfl, rfl, .inl (.inl (up _ _ h1)), e1, q⟩)⟩
    · cases e
  · rename_i z n
    split at h
    · rename_i c
      cases hi
      rcases hc with hc | ⟨p, vs, ds', rfl, e, h1, h2⟩
      · cases hc
        cases q : L2.atI z.cps.toList n with
        | none => rw [q] at h; cases h
        | some c' =>
          rw [q] at h
          cases h
          exact ⟨_, .str _, fun Q q' => .inr (.inr ⟨z, n, c', rfl, rfl, okLen.ok c, q, q'⟩)⟩
      · cases e
    · cases h
  · rename_i ds n
    cases hi
    rcases hc with hc | ⟨p, vs, ds', rfl, e, h1, h2⟩
    · cases hc with
      | @scr a ns h1 =>
        obtain ⟨v, e1, e2⟩ := (RpAll.ofInts (K := S.K) (F := F) ns).atI h
        exact ⟨v, e2, fun Q q => .inl ⟨_, _, _, v, rfl, rfl, hK ▸ sql_mono up h1, e1, q⟩⟩
    · cases e
  · cases h
/-- x[i], x a name: there is a value there; what it holds is told behind the index -/
def mIxN (j : Nat) (mi : Rho → Rz Rv) : Rho → Rz Rv := fun ρ => match ρ.peek j with
  | none => .stuck
  | some _ => (mi ρ).bind fun i ρ1 => match ρ1.peek j with
    | some c => (match gIx c i.d with
      | some d => .ok (.fr d) ρ1
      | none => .stuck)
    | none => .stuck
theorem slot_inj {σ : L2.St} {j : Nat} {v v' : V} (h : σ[j]? = some (some v)) (h' : σ[j]? = some (some v')) : v = v' := by
  rw [h] at h'
  injection h' with h'
  injection h'
variable {x : Str} {b : Expr} {px : Pos} {mi ma : Rho → Rz Rv}
theorem xe_ixN (o : Okx X S k) (j : Nat) (hb : XE X S b mi) (hs : PlainIx b := by intro _ _; rfl) (hN : X.N[j]? = some x := by rfl) (hv : Vis X.env.scope x := by first | exact Or.inl rfl | exact Or.inr (Or.inl rfl) | exact Or.inr (Or.inr rfl)) (hd : (x == ("__debug__" : Str)) = false := by decide)
    (hcd : (x == ("__classdict__" : Str)) = false := by decide) (hT : S.T j = none := by first | rfl | assumption) : XE X S (.Subscript (.Name x px) b pos) (mIxN j mi) := PE.imp (pe_ix ix_seq (pe_var (i := j) hN hv hd hcd) hb hs) fun σ H Q q => by
  obtain ⟨F, ρ, R, P⟩ := q
  unfold mIxN at P
  cases hp0 : ρ.peek j with
  | none => rw [hp0] at P; exact P.elim
  | some c0 =>
    rw [hp0] at P
    obtain ⟨v, ev, _⟩ := R.peek hp0 hT
    refine ⟨v, ev, ?_⟩
    refine tE.use (β := Rv) (g := fun i ρ1 => match ρ1.peek j with
      | some c => (match gIx c i with
        | some d => .ok (.fr d) ρ1
        | none => .stuck)
      | none => .stuck) R P fun y i F1 ρ1 H1 e1 R1 D1 P1 => ?_
    cases hp : ρ1.peek j with
    | none => rw [hp] at P1; exact P1.elim
    | some c =>
      rw [hp] at P1
      simp only at P1
      cases hg : gIx c i with
      | none => rw [hg] at P1; exact P1.elim
      | some d =>
        rw [hg] at P1
        obtain ⟨v', ev', pk⟩ := R1.peek hp hT
        have := slot_inj ev ev'
        subst this
        obtain ⟨w, hw, run⟩ := ix_run o.hK R1.ex pk D1 hg
        exact run Q (PostE.ok P1 R1 w hw)
/-- any container -/
def mIx (ma mi : Rho → Rz Rv) : Rho → Rz Rv := mOp2 (fun c i => (gIx c i).map .fr) ma mi
theorem xe_ix (o : Okx X S k) {a : Expr} (ha : XE X S a ma) (hb : XE X S b mi) (hs : PlainIx b := by intro _ _; rfl) : XE X S (.Subscript a b pos) (mIx ma mi) := PE.imp (pe_ix ix_seq ha hb hs) fun _ _ _ q =>
  sim_bin (X := X) (Sim2.pure (X := X) fun F H x y dx dy z up hx hy h => by
    obtain ⟨w, hw, run⟩ := ix_run o.hK up (.inl hx) hy h
    exact ⟨w, hw, run⟩) q
/-! ### slices by ones -/
def cutL {α : Type} (xs : List α) (lo hi : Option Int) : List α := (xs.drop (HT.sIx xs.length 0 lo)).take (HT.sIx xs.length xs.length hi - HT.sIx xs.length 0 lo)
theorem RpAll.cut {K : PySem.W.Frag} {F : Hp} {vs : List V} {ds : List PD} (h : RpAll K F vs ds) (lo hi : Option Int) : RpAll K F (cutV vs lo hi) (cutL ds lo hi) := by
  unfold cutV cutL
  rw [h.len]
  exact (h.drop _).take _
theorem cut_map {α β : Type} (f : α → β) (xs : List α) (lo hi : Option Int) : cutL (xs.map f) lo hi = (cutL xs lo hi).map f := by
  unfold cutL
  rw [List.length_map, List.map_take, List.map_drop]
def tO (S : Sx) (m : Rho → Rz (Option Int)) : TO := fun σ H Q => ∃ F ρ, Rs S F ρ σ H ∧ PostE S σ F ρ H (m ρ) fun _ _ H' o => Q o H'
def XO (X : Cx) (S : Sx) (e : Option Expr) (m : Rho → Rz (Option Int)) : Prop := PO X e (tO S m)
theorem PO.imp {X : Cx} {e : Option Expr} {t t' : TO} (h : PO X e t) (hi : ∀ σ H Q, t' σ H Q → t σ H Q) : PO X e t' := ⟨fun pn s σ H Q I q => h.run pn s σ H Q I (hi σ H Q q)⟩
def mNo : Rho → Rz (Option Int) := fun ρ => .ok none ρ
def mSo (m : Rho → Rz Rv) : Rho → Rz (Option Int) := fun ρ => (m ρ).bind fun x ρ1 => match x.d with
  | .int i => .ok (some i) ρ1
  | _ => .stuck
theorem xo_no : XO X S none mNo := PO.imp po_none fun σ H Q q => by
  obtain ⟨F, ρ, R, P⟩ := q
  exact PostE.ok P R
theorem xo_so {m : Rho → Rz Rv} (h : XE X S e m) : XO X S (some e) (mSo m) := PO.imp (po_some h) fun σ H Q q => by
  obtain ⟨F, ρ, R, P⟩ := q
  refine tE.use (β := Option Int) (g := fun x ρ1 => match x with
    | .int i => .ok (some i) ρ1
    | _ => .stuck) R P fun v d F1 ρ1 H1 e1 R1 D1 P1 => ?_
  cases D1 with
  | int i => exact ⟨i, rfl, PostE.ok P1 R1⟩
  | _ => exact P1.elim
/-- the script may be cut, too -/
def gCut (c : PD) (lo hi : Option Int) : Option Rv := match c with
  | .list ds => some (.ow (cutL ds lo hi))
  | .str z => if okLen z.length = true then some (.fr (.str (cutS z lo hi))) else none
  | .dict [(.none, .list ds)] => some (.ow (cutL ds lo hi))
  | _ => none
def rSlA (K : PySem.W.Frag) : V → Option Int → Option Int → Hp → VK → Prop := fun x lo hi H Q => rSlL K x lo hi H Q ∨ rSlS x lo hi H Q
theorem sl_any : SlR X (rSlA X.K) := sl_list.or sl_str
theorem cut_run (hK : S.K = X.K) {F : Hp} {ρ : Rho} {σ : L2.St} {H : Hp} {x : V} {c : PD} {lo hi : Option Int} {z : Rv} {Q : VK} (R : Rs S F ρ σ H) (hc : Pk S F H x c) (h : gCut c lo hi = some z)
    (q : ∀ F' H' v, Ext (Own ρ σ) F H (Own ρ σ) F' H' → Rs S F' ρ σ H' → RvR S (Own ρ σ) H (Own ρ σ) F' H' v z → Q v H') : rSlA X.K x lo hi H Q := by
  unfold gCut at h
  split at h
  · rename_i ds
    cases h
    rcases hc with hc | ⟨p, vs, ds', rfl, e, h1, h2⟩
    · cases hc with
      | lst h1 h2 => exact .inl ⟨_, _, rfl, .inl (.inl (R.ex _ _ h1)), fun p hp => Rs.newL R hp (h2.cut lo hi) q⟩
    · cases e
      exact .inl ⟨_, _, rfl, .inl (.inl h1), fun p hp => Rs.newL R hp (h2.cut lo hi) q⟩
  · rename_i z
    split at h
    · rename_i c
      cases h
      rcases hc with hc | ⟨p, vs, ds', rfl, e, h1, h2⟩
      · cases hc
        exact .inr ⟨z, rfl, okLen.ok c, q F H _ Ext.refl R (.str _)⟩
      · cases e
    · cases h
  · rename_i ds
    cases h
    rcases hc with hc | ⟨p, vs, ds', rfl, e, h1, h2⟩
    · cases hc with
      | @scr a ns h1 => exact .inl ⟨_, _, rfl, hK ▸ sql_mono R.ex h1, fun p hp => Rs.newL R hp ((RpAll.ofInts (K := S.K) (F := F) ns).cut lo hi) q⟩
    · cases e
  · cases h
def mCutN (j : Nat) (ml mh : Rho → Rz (Option Int)) : Rho → Rz Rv := fun ρ => match ρ.peek j with
  | none => .stuck
  | some _ => (ml ρ).bind fun lo ρ1 => (mh ρ1).bind fun hi ρ2 => match ρ2.peek j with
    | some c => (match gCut c lo hi with
      | some d => .ok d ρ2
      | none => .stuck)
    | none => .stuck
variable {lo hi : Option Expr} {p2 : Pos} {ml mh : Rho → Rz (Option Int)}
theorem xe_cutN (o : Okx X S k) (j : Nat) (hl : XO X S lo ml) (hh : XO X S hi mh) (hN : X.N[j]? = some x := by rfl) (hv : Vis X.env.scope x := by first | exact Or.inl rfl | exact Or.inr (Or.inl rfl) | exact Or.inr (Or.inr rfl)) (hd : (x == ("__debug__" : Str)) = false := by decide)
    (hcd : (x == ("__classdict__" : Str)) = false := by decide) (hT : S.T j = none := by first | rfl | assumption) : XE X S (.Subscript (.Name x px) (.Slice lo hi none p2) pos) (mCutN j ml mh) := PE.imp (pe_slice sl_any (pe_var (i := j) hN hv hd hcd) hl hh) fun σ H Q q => by
  obtain ⟨F, ρ, R, P⟩ := q
  unfold mCutN at P
  cases hp0 : ρ.peek j with
  | none => rw [hp0] at P; exact P.elim
  | some c0 =>
    rw [hp0] at P
    obtain ⟨v, ev, _⟩ := R.peek hp0 hT
    refine ⟨v, ev, F, ρ, R, PostE.mono (PostE.bind P) fun F1 ρ1 H1 l e1 R1 P1 => ?_⟩
    refine ⟨F1, ρ1, R1, PostE.mono (PostE.bind (P1 F1 e1)) fun F2 ρ2 H2 u e2 R2 P2 => ?_⟩
    have P3 := P2 F2 e2
    cases hp : ρ2.peek j with
    | none => rw [hp] at P3; exact P3.elim
    | some c =>
      rw [hp] at P3
      simp only at P3
      cases hg : gCut c l u with
      | none => rw [hg] at P3; exact P3.elim
      | some d =>
        rw [hg] at P3
        obtain ⟨v', ev', pk⟩ := R2.peek hp hT
        have := slot_inj ev ev'
        subst this
        exact cut_run o.hK R2 pk hg fun F' H' v e' R' h' => P3 F' H' e' R' v (h'.mono (e1.trans e2))
def mCut (ma : Rho → Rz Rv) (ml mh : Rho → Rz (Option Int)) : Rho → Rz Rv := fun ρ => (ma ρ).bind fun c ρ0 => (ml ρ0).bind fun lo ρ1 => (mh ρ1).bind fun hi ρ2 => match gCut c.d lo hi with
  | some d => .ok d ρ2
  | none => .stuck
theorem xe_cut (o : Okx X S k) {a : Expr} (ha : XE X S a ma) (hl : XO X S lo ml) (hh : XO X S hi mh) : XE X S (.Subscript a (.Slice lo hi none p2) pos) (mCut ma ml mh) := PE.imp (pe_slice sl_any ha hl hh) fun σ H Q q => by
  obtain ⟨F, ρ, R, P⟩ := q
  refine tE.use (β := Rv) (g := fun c ρ0 => (ml ρ0).bind fun lo ρ1 => (mh ρ1).bind fun hi ρ2 => match gCut c lo hi with
    | some d => .ok d ρ2
    | none => .stuck) R P fun v c F0 ρ0 H0 e0 R0 D0 P0 => ?_
  refine ⟨F0, ρ0, R0, PostE.mono (PostE.bind P0) fun F1 ρ1 H1 l e1 R1 P1 => ?_⟩
  refine ⟨F1, ρ1, R1, PostE.mono (PostE.bind (P1 F1 e1)) fun F2 ρ2 H2 u e2 R2 P2 => ?_⟩
  have P3 := P2 F2 e2
  cases hg : gCut c l u with
  | none => rw [hg] at P3; exact P3.elim
  | some d =>
    rw [hg] at P3
    exact cut_run o.hK R2 (.inl (rp_mono (e1.trans e2).fz _ _ D0)) hg fun F' H' v e' R' h' => P3 F' H' e' R' v (h'.mono (e0.trans (e1.trans e2)))
end
end Sd
namespace Sd
open PySem L2 PySem.Spec PyProof.Rows
section
variable {X : Cx} {S : Sx} {k : Nat} {e : Expr} {es : List Expr} {pos p : Pos} {x : Str}
/-! ### built-in functions by frozen arguments -/
def SimC (X : Cx) (S : Sx) (r : List V → Hp → VK → Prop) (g : List PD → Option Rv) : Prop := ∀ F ρ σ H vs ds z (Q : VK), Rs S F ρ σ H → RpAll S.K F vs ds → g ds = some z →
  (∀ F' H' v, Ext (Own ρ σ) F H (Own ρ σ) F' H' → Rs S F' ρ σ H' → RvR S (Own ρ σ) H (Own ρ σ) F' H' v z → Q v H') → r vs H Q
def mCB (g : List PD → Option Rv) (m : Rho → Rz (List PD)) : Rho → Rz Rv := fun ρ => (m ρ).bind fun ds ρ1 => match g ds with
  | some r => .ok r ρ1
  | none => .stuck
theorem sim_cb {r : List V → Hp → VK → Prop} {g : List PD → Option Rv} (hs : SimC X S r g) {m : Rho → Rz (List PD)} {σ : L2.St} {H : Hp} {Q : VK} (q : tE S (mCB g m) σ H Q) : tCB r (tA S m) σ H Q := by
  obtain ⟨F, ρ, R, P⟩ := q
  refine ⟨F, ρ, R, PostE.mono (PostE.bind P) fun F1 ρ1 H1 ds e1 R1 P1 vs hv => ?_⟩
  have P2 := P1 F1 e1
  cases hz : g ds with
  | none => rw [hz] at P2; exact P2.elim
  | some z =>
    rw [hz] at P2
    exact hs F1 ρ1 σ H1 vs ds z Q R1 hv hz fun F' H' v e' R' h' => P2 F' H' e' R' v (h'.mono e1)
theorem xe_cb {id : String} {r : List V → Hp → VK → Prop} {g : List PD → Option Rv} {m : Rho → Rz (List PD)} (o : Okx X S k) (hc : CallR X (.builtin id) r) (hs : SimC X S r g) (hm : S.mg x = none) (ha : XA X S (e :: es) m) (hg : Gl X x := by rfl) (hv : bootBuiltins x = some (.builtin id) := by decide +kernel)
    (hn : x ≠ "__name__" := by decide) (ndb : (x == ("__debug__" : Str)) = false := by decide) (he : starEach (e :: es) X.env = (false, eval e X.env) :: starEach es X.env := by rfl) (npl : (backTo pos (starEach es X.env)).any (·.1) = false := by rfl) :
    XE X S (.Call (.Name x p) (e :: es) [] pos) (mCB g m) := PE.imp (pe_callB hc hg (o.hM ▸ hm) hv ha hn ndb he npl) fun _ _ _ q => sim_cb hs q
theorem xe_ct {T : String} {r : List V → Hp → VK → Prop} {g : List PD → Option Rv} {m : Rho → Rz (List PD)} (o : Okx X S k) (hc : CallR X (.type T) r) (hs : SimC X S r g) (hm : S.mg x = none) (ha : XA X S (e :: es) m) (hg : Gl X x := by rfl) (hv : bootBuiltins x = some (.type T) := by decide +kernel)
    (hn : x ≠ "__name__" := by decide) (ndb : (x == ("__debug__" : Str)) = false := by decide) (he : starEach (e :: es) X.env = (false, eval e X.env) :: starEach es X.env := by rfl) (npl : (backTo pos (starEach es X.env)).any (·.1) = false := by rfl) :
    XE X S (.Call (.Name x p) (e :: es) [] pos) (mCB g m) := PE.imp (pe_callTy hc hg (o.hM ▸ hm) hv ha hn ndb he npl) fun _ _ _ q => sim_cb hs q
theorem SimC.pure {r : List V → Hp → VK → Prop} {g : List PD → Option PD} (h : ∀ F H vs ds z, (∀ a o, F a = some o → H a = some o) → RpAll S.K F vs ds → g ds = some z → ∃ v, Rp S.K F v z ∧ ∀ Q : VK, Q v H → r vs H Q) : SimC X S r fun ds => (g ds).map .fr := by
  intro F ρ σ H vs ds z Q R hv hz q
  have hz : (g ds).map Rv.fr = some z := hz
  cases e : g ds with
  | none => rw [e] at hz; cases hz
  | some w =>
    rw [e] at hz
    cases hz
    obtain ⟨v, h1, h2⟩ := h F H vs ds w R.ex hv e
    exact h2 Q (q F H v Ext.refl R h1)
theorem SimC.or {r r' : List V → Hp → VK → Prop} {g g' : List PD → Option Rv} (h : SimC X S r g) (h' : SimC X S r' g') : SimC X S (fun xs H Q => r xs H Q ∨ r' xs H Q) fun ds => (g ds).orElse fun _ => g' ds := by
  intro F ρ σ H vs ds z Q R hv hz q
  have hz : ((g ds).orElse fun _ => g' ds) = some z := hz
  cases e : g ds with
  | none =>
    rw [e] at hz
    exact .inr (h' F ρ σ H vs ds z Q R hv hz q)
  | some w =>
    rw [e] at hz
    have hz' : w = z := Option.some.inj hz
    subst hz'
    exact .inl (h F ρ σ H vs ds w Q R hv e q)
/-! ### len -/
def gLen : PD → Option PD
  | .list ds => some (.int ds.length)
  | .tuple ds => some (.int ds.length)
  | .str z => if okLen z.length = true then some (.int z.length) else none
  | .dict [(.none, .list ds)] => some (.int ds.length)
  | _ => none
theorem len_run (hK : S.K = X.K) {F H : Hp} {x : V} {c d : PD} (up : ∀ a o, F a = some o → H a = some o) (hc : Pk S F H x c) (h : gLen c = some d) : ∃ n : Nat, d = .int n ∧ LenV X.K x H n := by
  unfold gLen at h
  split at h
  · rename_i ds
    cases h
    rcases hc with hc | ⟨p, vs, ds', rfl, e, h1, h2⟩
    · cases hc with
      | lst h1 h2 => exact ⟨_, rfl, .inl ⟨_, .inl (.inl (up _ _ h1)), h2.len.symm⟩⟩
    · cases e
      exact ⟨_, rfl, .inl ⟨_, .inl (.inl h1), h2.len.symm⟩⟩
  · rename_i ds
    cases h
    rcases hc with hc | ⟨p, vs, ds', rfl, e, h1, h2⟩
    · cases hc with
      | tup h1 h2 => exact ⟨_, rfl, .inr ⟨_, .inl (.inl (up _ _ h1)), h2.len.symm⟩⟩
    · cases e
  · rename_i z
    split at h
    · rename_i c
      cases h
      rcases hc with hc | ⟨p, vs, ds', rfl, e, h1, h2⟩
      · cases hc
        exact ⟨_, rfl, okLen.ok c, rfl⟩
      · cases e
    · cases h
  · rename_i ds
    cases h
    rcases hc with hc | ⟨p, vs, ds', rfl, e, h1, h2⟩
    · cases hc with
      | @scr a ns h1 => exact ⟨_, rfl, .inl ⟨_, hK ▸ sql_mono up h1, by rw [List.length_map, List.length_map]⟩⟩
    · cases e
  · cases h
def g1 (g : PD → Option PD) : List PD → Option PD
  | [d] => g d
  | _ => none
theorem RpAll.one {K : PySem.W.Frag} {F : Hp} {vs : List V} {d : PD} (h : RpAll K F vs [d]) : ∃ v, vs = [v] ∧ Rp K F v d := by
  cases h with
  | cons a t => cases t; exact ⟨_, rfl, a⟩
theorem RpAll.two {K : PySem.W.Frag} {F : Hp} {vs : List V} {c d : PD} (h : RpAll K F vs [c, d]) : ∃ u v, vs = [u, v] ∧ Rp K F u c ∧ Rp K F v d := by
  cases h with
  | cons a t =>
    cases t with
    | cons b t => cases t; exact ⟨_, _, rfl, a, b⟩
theorem SimC.pure1 {r : List V → Hp → VK → Prop} {g : PD → Option PD} (h : ∀ F H v d z, (∀ a o, F a = some o → H a = some o) → Rp S.K F v d → g d = some z → ∃ w, Rp S.K F w z ∧ ∀ Q : VK, Q w H → r [v] H Q) : SimC X S r fun ds => (g1 g ds).map .fr :=
  SimC.pure fun F H vs ds z up hv hz => by
    unfold g1 at hz
    split at hz
    · rename_i d
      obtain ⟨v, rfl, hd⟩ := hv.one
      exact h F H v d z up hd hz
    · cases hz
theorem sim_len (hK : S.K = X.K) : SimC X S (fun xs H Q => ∃ x n, xs = [x] ∧ LenV X.K x H n ∧ Q (.int n) H) fun ds => (g1 gLen ds).map .fr := SimC.pure1 fun F H v d z up hd hz => by
  obtain ⟨n, rfl, h⟩ := len_run hK up (.inl hd) hz
  exact ⟨_, .int _, fun Q q => ⟨_, n, rfl, h, q⟩⟩
theorem xe_len (o : Okx X S k) {m : Rho → Rz Rv} (hm : S.mg "len" = none) (ha : XE X S e m) (hg : Gl X "len" := by rfl) (he : starEach [e] X.env = [(false, eval e X.env)] := by rfl) : XE X S (.Call (.Name "len" p) [e] [] pos) (mCB (fun ds => (g1 gLen ds).map .fr) (mCons m mNil)) :=
  xe_cb o call_len (sim_len o.hK) hm (xa_one ha he) hg PySem.boot_len (by decide) (by decide) he (by rfl)
/-- len of what a name holds -/
def mLenN (j : Nat) : Rho → Rz Rv := fun ρ => match ρ.peek j with
  | some c => (match gLen c with
    | some d => .ok (.fr d) ρ
    | none => .stuck)
  | none => .stuck
theorem xe_lenN (o : Okx X S k) (j : Nat) {y : Str} {py : Pos} (hm : S.mg "len" = none) (hg : Gl X "len" := by rfl) (hN : X.N[j]? = some y := by rfl) (hv : Vis X.env.scope y := by first | exact Or.inl rfl | exact Or.inr (Or.inl rfl) | exact Or.inr (Or.inr rfl)) (hd : (y == ("__debug__" : Str)) = false := by decide)
    (hcd : (y == ("__classdict__" : Str)) = false := by decide) (hT : S.T j = none := by first | rfl | assumption) : XE X S (.Call (.Name "len" p) [.Name y py] [] pos) (mLenN j) :=
  PE.imp (pe_callB call_len hg (o.hM ▸ hm) PySem.boot_len (pa_cons (pe_var (i := j) hN hv hd hcd) pa_nil)) fun σ H Q q => by
    obtain ⟨F, ρ, R, P⟩ := q
    unfold mLenN at P
    cases hp : ρ.peek j with
    | none => rw [hp] at P; exact P.elim
    | some c =>
      rw [hp] at P
      simp only at P
      cases hg : gLen c with
      | none => rw [hg] at P; exact P.elim
      | some d =>
        rw [hg] at P
        obtain ⟨v, ev, pk⟩ := R.peek hp hT
        obtain ⟨n, rfl, h⟩ := len_run o.hK R.ex pk hg
        exact ⟨v, ev, v, n, rfl, h, PostE.ok P R _ (.int _)⟩
/-! ### numbers -/
def gAbs : PD → Option PD
  | .int n => some (.int (if n < 0 then -n else n))
  | _ => none
theorem sim_abs : SimC X S (fun xs H Q => ∃ i, xs = [.int i] ∧ Q (.int (if i < 0 then -i else i)) H) fun ds => (g1 gAbs ds).map .fr := SimC.pure1 fun F H v d z up hd hz => by
  cases hd with
  | int i => cases hz; exact ⟨_, .int _, fun Q q => ⟨i, rfl, q⟩⟩
  | _ => cases hz
theorem xe_abs (o : Okx X S k) {m : Rho → Rz (List PD)} (hm : S.mg "abs" = none) (ha : XA X S [e] m) (hg : Gl X "abs" := by rfl) (he : starEach [e] X.env = [(false, eval e X.env)] := by rfl) : XE X S (.Call (.Name "abs" p) [e] [] pos) (mCB (fun ds => (g1 gAbs ds).map .fr) m) :=
  xe_cb o call_abs sim_abs hm ha hg (by decide +kernel) (by decide) (by decide) he (by rfl)
def gInt : PD → Option PD
  | .int i => some (.int i)
  | .bool t => some (.int (if t then 1 else 0))
  | _ => none
theorem sim_intc : SimC X S (fun xs H Q => (∃ i, xs = [.int i] ∧ Q (.int i) H) ∨ ∃ k, xs = [.bl k] ∧ Q (.int (if k then 1 else 0)) H) fun ds => (g1 gInt ds).map .fr := SimC.pure1 fun F H v d z up hd hz => by
  cases hd with
  | int i => cases hz; exact ⟨_, .int _, fun Q q => .inl ⟨i, rfl, q⟩⟩
  | bl b => cases hz; exact ⟨_, .int _, fun Q q => .inr ⟨b, rfl, q⟩⟩
  | _ => cases hz
theorem xe_intc (o : Okx X S k) {m : Rho → Rz (List PD)} (hm : S.mg "int" = none) (ha : XA X S [e] m) (hg : Gl X "int" := by rfl) (he : starEach [e] X.env = [(false, eval e X.env)] := by rfl) : XE X S (.Call (.Name "int" p) [e] [] pos) (mCB (fun ds => (g1 gInt ds).map .fr) m) :=
  xe_ct o call_int1 sim_intc hm ha hg (by decide +kernel) (by decide) (by decide) he (by rfl)
def ints? : List PD → Option (List Int)
  | [] => some []
  | .int i :: r => (ints? r).map (i :: ·)
  | _ :: _ => none
theorem ints?_map : ∀ ns : List Int, ints? (ns.map PyData.int) = some ns
  | [] => rfl
  | n :: ns => by
    show (ints? (ns.map PyData.int)).map (n :: ·) = _
    rw [ints?_map ns]; rfl
theorem ints?_eq : ∀ {ds : List PD} {ns : List Int}, ints? ds = some ns → ds = ns.map PyData.int
  | [], ns, h => by cases h; rfl
  | d :: r, ns, h => by
    cases d with
    | int i =>
      have h : (ints? r).map (i :: ·) = some ns := h
      cases q : ints? r with
      | none => rw [q] at h; cases h
      | some ms =>
        rw [q] at h
        cases h
        rw [ints?_eq q]; rfl
    | _ => cases h
def gSumL : PD → Option PD
  | .list ds => (ints? ds).map fun ns => .int ns.sum
  | _ => none
theorem sim_sum (hK : S.K = X.K) : SimC X S (rSum X.K) fun ds => (g1 gSumL ds).map .fr := SimC.pure1 fun F H v d z up hd hz => by
  cases hd with
  | @lst a xs ds h1 h2 =>
    have hz : (ints? ds).map (fun ns => PyData.int ns.sum) = some z := hz
    cases q : ints? ds with
    | none => rw [q] at hz; cases hz
    | some ns =>
      rw [q] at hz
      cases hz
      obtain rfl := ints?_eq q
      have e := h2.ints
      subst e
      exact ⟨_, .int _, fun Q q => ⟨_, ns, rfl, .inl (.inl (up _ _ h1)), q⟩⟩
  | _ => cases hz
theorem xe_sum (o : Okx X S k) {m : Rho → Rz (List PD)} (hm : S.mg "sum" = none) (ha : XA X S [e] m) (hg : Gl X "sum" := by rfl) (he : starEach [e] X.env = [(false, eval e X.env)] := by rfl) : XE X S (.Call (.Name "sum" p) [e] [] pos) (mCB (fun ds => (g1 gSumL ds).map .fr) m) :=
  xe_cb o (cr_sum o.calm) (sim_sum o.hK) hm ha hg (by decide +kernel) (by decide) (by decide) he (by rfl)
/-- max, min of two ints, of a list of ints -/
def gMax2 : List PD → Option PD
  | [.int i, .int j] => some (.int (if j > i then j else i))
  | _ => none
def gMin2 : List PD → Option PD
  | [.int i, .int j] => some (.int (if j < i then j else i))
  | _ => none
theorem sim_max2 : SimC X S (fun xs H Q => ∃ i j, xs = [.int i, .int j] ∧ Q (.int (if j > i then j else i)) H) fun ds => (gMax2 ds).map .fr := SimC.pure fun F H vs ds z up hv hz => by
  unfold gMax2 at hz
  split at hz
  · cases hz
    obtain ⟨u, v, rfl, h1, h2⟩ := hv.two
    cases h1
    cases h2
    exact ⟨_, .int _, fun Q q => ⟨_, _, rfl, q⟩⟩
  · cases hz
theorem sim_min2 : SimC X S (fun xs H Q => ∃ i j, xs = [.int i, .int j] ∧ Q (.int (if j < i then j else i)) H) fun ds => (gMin2 ds).map .fr := SimC.pure fun F H vs ds z up hv hz => by
  unfold gMin2 at hz
  split at hz
  · cases hz
    obtain ⟨u, v, rfl, h1, h2⟩ := hv.two
    cases h1
    cases h2
    exact ⟨_, .int _, fun Q q => ⟨_, _, rfl, q⟩⟩
  · cases hz
theorem xe_max2 (o : Okx X S k) {f : Expr} {m : Rho → Rz (List PD)} (hm : S.mg "max" = none) (ha : XA X S [e, f] m) (hg : Gl X "max" := by rfl) (he : starEach [e, f] X.env = (false, eval e X.env) :: starEach [f] X.env := by rfl) (npl : (backTo pos (starEach [f] X.env)).any (·.1) = false := by rfl) :
    XE X S (.Call (.Name "max" p) [e, f] [] pos) (mCB (fun ds => (gMax2 ds).map .fr) m) := xe_cb o (call_max2 o.calm) sim_max2 hm ha hg (by decide +kernel) (by decide) (by decide) he npl
theorem xe_min2 (o : Okx X S k) {f : Expr} {m : Rho → Rz (List PD)} (hm : S.mg "min" = none) (ha : XA X S [e, f] m) (hg : Gl X "min" := by rfl) (he : starEach [e, f] X.env = (false, eval e X.env) :: starEach [f] X.env := by rfl) (npl : (backTo pos (starEach [f] X.env)).any (·.1) = false := by rfl) :
    XE X S (.Call (.Name "min" p) [e, f] [] pos) (mCB (fun ds => (gMin2 ds).map .fr) m) := xe_cb o (call_min2 o.calm) sim_min2 hm ha hg (by decide +kernel) (by decide) (by decide) he npl
/-! ### list(..), tuple(..) -/
def gListOf : List PD → Option Rv
  | [.list ds] => some (.ow ds)
  | [.tuple ds] => some (.ow ds)
  | _ => none
theorem sim_listOf : SimC X S (fun xs H Q => ∃ p ys, xs = [.ref p] ∧ (SqL X.K H p ys ∨ SqT X.K H p ys) ∧ ∀ l, H l = none → Q (.ref l) (upd H l (.lst ys))) gListOf := by
  intro F ρ σ H vs ds z Q R hv hz q
  unfold gListOf at hz
  split at hz
  · cases hz
    obtain ⟨v, rfl, hd⟩ := hv.one
    cases hd with
    | lst h1 h2 => exact ⟨_, _, rfl, .inl (.inl (.inl (R.ex _ _ h1))), fun l hl => Rs.newL R hl h2 q⟩
  · cases hz
    obtain ⟨v, rfl, hd⟩ := hv.one
    cases hd with
    | tup h1 h2 => exact ⟨_, _, rfl, .inr (.inl (.inl (R.ex _ _ h1))), fun l hl => Rs.newL R hl h2 q⟩
  · cases hz
theorem xe_listOf (o : Okx X S k) {m : Rho → Rz (List PD)} (hm : S.mg "list" = none) (ha : XA X S [e] m) (hg : Gl X "list" := by rfl) (he : starEach [e] X.env = [(false, eval e X.env)] := by rfl) : XE X S (.Call (.Name "list" p) [e] [] pos) (mCB gListOf m) :=
  xe_ct o call_list_of sim_listOf hm ha hg (by decide +kernel) (by decide) (by decide) he (by rfl)
def gTupleOf : List PD → Option Rv
  | [.list ds] => some (.fr (.tuple ds))
  | [.tuple ds] => some (.fr (.tuple ds))
  | _ => none
theorem sim_tupleOf : SimC X S (fun xs H Q => ∃ p ys, xs = [.ref p] ∧ ((SqL X.K H p ys ∧ ∀ l, H l = none → Q (.ref l) (upd H l (.tup ys))) ∨ (SqT X.K H p ys ∧ Q (.ref p) H))) gTupleOf := by
  intro F ρ σ H vs ds z Q R hv hz q
  unfold gTupleOf at hz
  split at hz
  · cases hz
    obtain ⟨v, rfl, hd⟩ := hv.one
    cases hd with
    | lst h1 h2 => exact ⟨_, _, rfl, .inl ⟨.inl (.inl (R.ex _ _ h1)), fun l hl => Rs.newT R hl h2 q⟩⟩
  · cases hz
    obtain ⟨v, rfl, hd⟩ := hv.one
    cases hd with
    | tup h1 h2 => exact ⟨_, _, rfl, .inr ⟨.inl (.inl (R.ex _ _ h1)), q F H _ Ext.refl R (.tup h1 h2)⟩⟩
  · cases hz
theorem xe_tupleOf (o : Okx X S k) {m : Rho → Rz (List PD)} (hm : S.mg "tuple" = none) (ha : XA X S [e] m) (hg : Gl X "tuple" := by rfl) (he : starEach [e] X.env = [(false, eval e X.env)] := by rfl) : XE X S (.Call (.Name "tuple" p) [e] [] pos) (mCB gTupleOf m) :=
  xe_ct o call_tuple_of sim_tupleOf hm ha hg (by decide +kernel) (by decide) (by decide) he (by rfl)
/-! ### isinstance of the built-in types -/
inductive Ty5 where
  | int | bool | str | list | tuple
def Ty5.name : Ty5 → String
  | .int => "int"
  | .bool => "bool"
  | .str => "str"
  | .list => "list"
  | .tuple => "tuple"
inductive Tg where
  | non | bl | int | str | lst | tup | dct
def Tg.name : Tg → String
  | .non => "NoneType"
  | .bl => "bool"
  | .int => "int"
  | .str => "str"
  | .lst => "list"
  | .tup => "tuple"
  | .dct => "dict"
def tag : PD → Tg
  | .none => .non
  | .bool _ => .bl
  | .int _ => .int
  | .str _ => .str
  | .list _ => .lst
  | .tuple _ => .tup
  | .dict _ => .dct
def isTg : Ty5 → Tg → Bool
  | .int, .int => true
  | .int, .bl => true
  | .bool, .bl => true
  | .str, .str => true
  | .list, .lst => true
  | .tuple, .tup => true
  | _, _ => false
def pdTy (d : PD) : String := (tag d).name
def isTy (T : Ty5) (d : PD) : Bool := isTg T (tag d)
theorem isTg_ok (T : Ty5) (t : Tg) : kitB t.name T.name = some (isTg T t) := by
  cases T <;> cases t <;> decide +kernel
theorem isTy_ok (T : Ty5) (d : PD) : kitB (pdTy d) T.name = some (isTy T d) := isTg_ok T (tag d)
def gIsi (T : Ty5) : PD → Option PD
  | .dict (_ :: _) => none
  | d => some (.bool (isTy T d))
theorem gIsi_inv {T : Ty5} {d z : PD} (h : gIsi T d = some z) : z = .bool (isTy T d) ∧ ∀ kv r, d ≠ .dict (kv :: r) := by
  unfold gIsi at h
  split at h
  · cases h
  · rename_i hn
    exact ⟨(Option.some.inj h).symm, fun kv r z => hn _ _ z⟩
def mIsi (T : Ty5) (m : Rho → Rz Rv) : Rho → Rz Rv := mOp1 (gIsi T) m
theorem ty_rp {K : PySem.W.Frag} {F H : Hp} {x : V} {d : PD} (up : ∀ a o, F a = some o → H a = some o) (h : Rp K F x d) (hn : ∀ kv r, d ≠ .dict (kv :: r)) : TyX K H x (.type (pdTy d)) := by
  cases h with
  | non => exact .base .non
  | bl b => exact .base (.bl b)
  | int i => exact .base (.int i)
  | str y => exact .base (.str y)
  | lst h1 h2 => exact .base (.lst (up _ _ h1))
  | tup h1 h2 => exact .base (.tup (up _ _ h1))
  | scr h1 => exact absurd rfl (hn _ _)
  | dct h1 => exact .base (.dK (up _ _ h1))
theorem xe_isi (o : Okx X S k) (T : Ty5) {y : Str} {py : Pos} {m : Rho → Rz Rv} (hm : S.mg "isinstance" = none) (hy : S.mg y = none) (ha : XE X S e m) (hg : Gl X "isinstance" := by rfl) (hgy : Gl X y := by rfl) (hvy : bootBuiltins y = some (.type T.name) := by decide +kernel)
    (hny : y ≠ "__name__" := by decide) (hdy : (y == ("__debug__" : Str)) = false := by decide)
    (he : starEach [e, .Name y py] X.env = (false, eval e X.env) :: starEach [.Name y py] X.env := by rfl) (npl : (backTo pos (starEach [.Name y py] X.env)).any (·.1) = false := by rfl) : XE X S (.Call (.Name "isinstance" p) [e, .Name y py] [] pos) (mIsi T m) :=
  PE.imp (pe_callB call_isi hg (o.hM ▸ hm) (by decide +kernel) (pa_cons ha (pa_cons (pe_bltn hgy (o.hM ▸ hy) hvy (v := .ty T.name) rfl hny hdy) pa_nil) he) (by decide) (by decide) he npl) fun σ H Q q => by
    obtain ⟨F, ρ, R, P⟩ := q
    refine tE.use (β := Rv) (g := fun x ρ1 => match gIsi T x with
      | some r => .ok (Rv.fr r) ρ1
      | none => .stuck) R P fun v d F1 ρ1 H1 e1 R1 D1 P1 => ?_
    cases hz : gIsi T d with
    | none => rw [hz] at P1; exact P1.elim
    | some z =>
      rw [hz] at P1
      obtain ⟨rfl, hn⟩ := gIsi_inv hz
      exact ⟨v, .ty T.name, .type (pdTy d), .type T.name, isTy T d, rfl, .ty _, o.hK ▸ ty_rp R1.ex D1 hn, kit_ty (isTy_ok T d), PostE.ok P1 R1 _ (.bl _)⟩
/-! ### repr -/
variable {pn : List (Addr × Obj)} {σ : L2.St} {H : Hp} {s : Shared}
mutual
theorem rp_reads (I : Inv X pn σ H s) {K : PySem.W.Frag} : ∀ (d : PD) (v : V) (u : Value), d.hasDict = false → Rp K H v d → RelV v u → ∃ as, Reads s.heap u d as
  | .none, _, _, _, h, r => by
    cases h
    cases r
    exact ⟨_, Reads.none⟩
  | .bool b, _, _, _, h, r => by
    cases h
    cases r
    exact ⟨_, Reads.bool b⟩
  | .int i, _, _, _, h, r => by
    cases h
    obtain ⟨t, rfl⟩ := r
    exact ⟨_, Reads.int i t⟩
  | .str z, _, _, _, h, r => by
    cases h
    obtain ⟨t, rfl⟩ := r
    exact ⟨_, Reads.str z t⟩
  | .list ds, _, _, c, h, r => by
    cases h with
    | lst hs ha =>
      cases r
      obtain ⟨its, rv, ⟨o, n, ho, hc, _, hd⟩, _⟩ := I.list (.inl (.inl hs))
      obtain ⟨as, hr⟩ := rpa_reads I ds _ its (by simpa [PyData.hasDict] using c) ha rv
      (exact ⟨_, Reads.list ho hc hd hr⟩)
  | .tuple ds, _, _, c, h, r => by
    cases h with
    | tup hs ha =>
      cases r
      obtain ⟨its, rv, ⟨o, ho, hc, n, hd⟩, _⟩ := I.tuple (.inl (.inl hs))
      obtain ⟨as, hr⟩ := rpa_reads I ds _ its (by simpa [PyData.hasDict] using c) ha rv
      (exact ⟨_, Reads.tuple ho hc hd hr⟩)
  | .dict _, _, _, c, _, _ => by simp [PyData.hasDict] at c
theorem rpa_reads (I : Inv X pn σ H s) {K : PySem.W.Frag} : ∀ (ds : List PD) (vs : List V) (us : List Value), PyData.hasDictAll ds = false → RpAll K H vs ds → Vals vs us → ∃ as, ReadsAll s.heap us ds as
  | [], _, _, _, h, r => by
    cases h
    cases r
    exact ⟨_, ReadsAll.nil⟩
  | d :: ds, _, _, c, h, r => by
    have c' : d.hasDict = false ∧ PyData.hasDictAll ds = false := by simpa [PyData.hasDictAll] using c
    cases h with
    | cons h1 h2 =>
      cases r with
      | cons r1 r2 =>
        obtain ⟨as, q1⟩ := rp_reads I d _ _ c'.1 h1 r1
        obtain ⟨bs, q2⟩ := rpa_reads I ds _ _ c'.2 h2 r2
        (exact ⟨_, ReadsAll.cons q1 q2⟩)
end
mutual
/-- no dict but empty ones -/
def okDct : PD → Bool
  | .dict (_ :: _) => false
  | .list ds => okDcts ds
  | .tuple ds => okDcts ds
  | _ => true
def okDcts : List PD → Bool
  | [] => true
  | d :: ds => okDct d && okDcts ds
end
mutual
theorem okDct_of : ∀ d : PD, d.hasDict = false → okDct d = true
  | .none, _ => rfl
  | .bool _, _ => rfl
  | .int _, _ => rfl
  | .str _, _ => rfl
  | .list ds, h => okDcts_of ds (by simpa [PyData.hasDict] using h)
  | .tuple ds, h => okDcts_of ds (by simpa [PyData.hasDict] using h)
  | .dict _, h => by simp [PyData.hasDict] at h
theorem okDcts_of : ∀ ds : List PD, PyData.hasDictAll ds = false → okDcts ds = true
  | [], _ => rfl
  | d :: ds, h => by
    have h' : d.hasDict = false ∧ PyData.hasDictAll ds = false := by simpa [PyData.hasDictAll] using h
    show (okDct d && okDcts ds) = true
    rw [okDct_of d h'.1, okDcts_of ds h'.2]; rfl
end
mutual
theorem rp_readsD (I : Inv X pn σ H s) (sm : SmF H) {K : PySem.W.Frag} : ∀ (d : PD) (v : V) (u : Value), okDct d = true → Rp K H v d → RelV v u → ∃ as, Reads s.heap u d as ∧ sysModules ∉ as
  | .none, _, _, _, h, r => by
    cases h
    cases r
    exact ⟨_, Reads.none, by simp⟩
  | .bool b, _, _, _, h, r => by
    cases h
    cases r
    exact ⟨_, Reads.bool b, by simp⟩
  | .int i, _, _, _, h, r => by
    cases h
    obtain ⟨t, rfl⟩ := r
    exact ⟨_, Reads.int i t, by simp⟩
  | .str z, _, _, _, h, r => by
    cases h
    obtain ⟨t, rfl⟩ := r
    exact ⟨_, Reads.str z t, by simp⟩
  | .list ds, _, _, c, h, r => by
    cases h with
    | @lst a xs _ hs ha =>
      cases r
      obtain ⟨its, rv, ⟨o, n, ho, hc, _, hd⟩, _⟩ := I.list (.inl (.inl hs))
      obtain ⟨as, hr, na⟩ := rpa_readsD I sm ds _ its c ha rv
      refine ⟨_, Reads.list ho hc hd hr, fun z => ?_⟩
      (rcases List.mem_cons.mp z with z | z)
      · obtain ⟨ob, φ, q⟩ := sm
        rw [z, hs] at q
        cases q
      · exact na z
  | .tuple ds, _, _, c, h, r => by
    cases h with
    | tup hs ha =>
      cases r
      obtain ⟨its, rv, ⟨o, ho, hc, n, hd⟩, _⟩ := I.tuple (.inl (.inl hs))
      obtain ⟨as, hr, na⟩ := rpa_readsD I sm ds _ its c ha rv
      exact ⟨_, Reads.tuple ho hc hd hr, na⟩
  | .dict [], _, _, _, h, r => by
    cases h with
    | @dct a ha =>
      cases r
      obtain ⟨_, lo, vs, kv, o, es, ep, ho, hx, hd, _, hp, _⟩ := dk_of I.hok ha
      have ev : vs = [] := by cases kv; rfl
      subst ev
      have ee : es.toList = [] := by
        cases q : es.toList with
        | nil => rfl
        | cons z zs => rw [q] at hp; cases hp
      refine ⟨_, Reads.dict (kvs := []) ho hx.1 hd (by rw [ee]; exact ReadsAll.nil) (by rw [ee]; exact ReadsAll.nil), fun z => ?_⟩
      have z : sysModules = a := by simpa using z
      rw [← z] at lo
      exact absurd lo (by decide)
  | .dict (_ :: _), _, _, c, _, _ => by cases c
theorem rpa_readsD (I : Inv X pn σ H s) (sm : SmF H) {K : PySem.W.Frag} : ∀ (ds : List PD) (vs : List V) (us : List Value), okDcts ds = true → RpAll K H vs ds → Vals vs us → ∃ as, ReadsAll s.heap us ds as ∧ sysModules ∉ as
  | [], _, _, _, h, r => by
    cases h
    cases r
    exact ⟨_, ReadsAll.nil, by simp⟩
  | d :: ds, _, _, c, h, r => by
    have c' : okDct d = true ∧ okDcts ds = true := by
      have c : (okDct d && okDcts ds) = true := c
      exact Bool.and_eq_true_iff.mp c
    cases h with
    | cons h1 h2 =>
      cases r with
      | cons r1 r2 =>
        obtain ⟨as, q1, n1⟩ := rp_readsD I sm d _ _ c'.1 h1 r1
        obtain ⟨bs, q2, n2⟩ := rpa_readsD I sm ds _ _ c'.2 h2 r2
        exact ⟨_, ReadsAll.cons q1 q2, fun z => (List.mem_append.mp z).elim n1 n2⟩
end
def okShow (d : PD) : Bool := d.showable && okDct d && decide (d.shown.length ≤ 10000000) && decide (d.depth ≤ 50)
theorem okShow.inv {d : PD} (h : okShow d = true) : d.showable = true ∧ okDct d = true ∧ d.shown.length ≤ sizeLine ∧ d.depth ≤ 50 := by
  unfold okShow at h
  (simp only [Bool.and_eq_true, decide_eq_true_eq] at h)
  exact ⟨h.1.1.1, h.1.1.2, Nat.le_trans h.1.2 (by decide), h.2⟩
def gRepr : PD → Option PD := fun d => if okShow d = true then some (.str d.shown) else none
def rRepr (K : PySem.W.Frag) : List V → Hp → VK → Prop := fun xs H Q => ∃ v d, xs = [v] ∧ Rp K H v d ∧ SmF H ∧ okShow d = true ∧ Q (.str d.shown) H
theorem call_repr (o : Okx X S k) : CallR X (.builtin "repr") (rRepr X.K) := by
  intro pn s σ H xs us Q I r h
  obtain ⟨v, d, rfl, hd, sm, c, q⟩ := h
  obtain ⟨u, rfl, r1⟩ := vals1 r
  obtain ⟨c1, c2, c3, c4⟩ := okShow.inv c
  have hu := o.rm.un
  cases d with
  | none =>
    cases hd
    cases r1
    exact PySem.P.repr_of_none ⟨.str _, H, I.tok _, ⟨_, rfl⟩, q⟩
  | bool b =>
    cases hd
    cases r1
    refine PySem.P.repr_of_bool ⟨.str _, H, I.tok _, ⟨_, rfl⟩, ?_⟩
    cases b <;> exact q
  | int i =>
    cases hd
    obtain ⟨t, rfl⟩ := r1
    exact PySem.P.repr_of_int (of_decide_eq_true c1) ⟨.str _, H, I.tok _, ⟨_, rfl⟩, q⟩
  | str z =>
    cases hd
    obtain ⟨t, rfl⟩ := r1
    exact PySem.P.repr_of_str ⟨.str _, H, I.tok _, ⟨_, rfl⟩, q⟩ c3
  | list ds =>
    obtain ⟨as, hr, na⟩ := rp_readsD I sm _ _ _ c2 hd r1
    cases hd with
    | lst h1 h2 =>
      cases r1
      exact repr_of_reads' hr c1 (fun _ => na) o.gd (by omega) (fun _ _ e => e) (fun h' u tk kp => ⟨.str _, H, I.kept (t' := tk) kp, ⟨_, rfl⟩, q⟩) c3
  | tuple ds =>
    obtain ⟨as, hr, na⟩ := rp_readsD I sm _ _ _ c2 hd r1
    cases hd with
    | tup h1 h2 =>
      cases r1
      exact repr_of_reads' hr c1 (fun _ => na) o.gd (by omega) (fun _ _ e => e) (fun h' u tk kp => ⟨.str _, H, I.kept (t' := tk) kp, ⟨_, rfl⟩, q⟩) c3
  | dict kvs =>
    obtain ⟨as, hr, na⟩ := rp_readsD I sm _ _ _ c2 hd r1
    cases hd with
    | scr h1 => cases c2
    | dct h1 =>
      cases r1
      exact repr_of_reads' hr c1 (fun _ => na) o.gd (by omega) (fun _ _ e => e) (fun h' u tk kp => ⟨.str _, H, I.kept (t' := tk) kp, ⟨_, rfl⟩, q⟩) c3
theorem sim_repr (hK : S.K = X.K) : SimC X S (rRepr X.K) fun ds => (g1 gRepr ds).map .fr := by
  intro F ρ σ H vs ds z Q R hv hz q
  cases ds with
  | nil => cases hz
  | cons d ds =>
    cases ds with
    | cons _ _ => cases hz
    | nil =>
      cases hv with
      | cons hd hv =>
        cases hv
        have hz : (gRepr d).map Rv.fr = some z := hz
        unfold gRepr at hz
        split at hz
        · rename_i c
          cases hz
          exact ⟨_, d, rfl, hK ▸ rp_mono R.ex _ _ hd, R.sm.up R.ex, c, q F H _ Ext.refl R (.str _)⟩
        · cases hz
theorem xe_repr (o : Okx X S k) {m : Rho → Rz (List PD)} (hm : S.mg "repr" = none) (ha : XA X S [e] m) (hg : Gl X "repr" := by rfl) (he : starEach [e] X.env = [(false, eval e X.env)] := by rfl) : XE X S (.Call (.Name "repr" p) [e] [] pos) (mCB (fun ds => (g1 gRepr ds).map .fr) m) :=
  xe_cb o (call_repr o) (sim_repr o.hK) hm ha hg (by decide +kernel) (by decide) (by decide) he (by rfl)
/-- repr of what a name holds (the list stays one's own) -/
def mReprN (j : Nat) : Rho → Rz Rv := fun ρ => match ρ.peek j with
  | some c => (match gRepr c with
    | some d => .ok (.fr d) ρ
    | none => .stuck)
  | none => .stuck
theorem Pk.rp {F H : Hp} {v : V} {d : PD} (up : ∀ a o, F a = some o → H a = some o) (h : Pk S F H v d) : Rp S.K H v d := by
  rcases h with h | ⟨p, vs, ds, rfl, rfl, h1, h2⟩
  · exact rp_mono up _ _ h
  · exact .lst h1 (rpa_mono up _ _ h2)
theorem xe_reprN (o : Okx X S k) (j : Nat) {y : Str} {py : Pos} (hm : S.mg "repr" = none) (hg : Gl X "repr" := by rfl) (hN : X.N[j]? = some y := by rfl) (hv : Vis X.env.scope y := by first | exact Or.inl rfl | exact Or.inr (Or.inl rfl) | exact Or.inr (Or.inr rfl)) (hd : (y == ("__debug__" : Str)) = false := by decide)
    (hcd : (y == ("__classdict__" : Str)) = false := by decide) (hT : S.T j = none := by first | rfl | assumption) : XE X S (.Call (.Name "repr" p) [.Name y py] [] pos) (mReprN j) :=
  PE.imp (pe_callB (call_repr o) hg (o.hM ▸ hm) (by decide +kernel) (pa_cons (pe_var (i := j) hN hv hd hcd) pa_nil)) fun σ H Q q => by
    obtain ⟨F, ρ, R, P⟩ := q
    unfold mReprN at P
    cases hp : ρ.peek j with
    | none => rw [hp] at P; exact P.elim
    | some c =>
      rw [hp] at P
      simp only at P
      cases hg : gRepr c with
      | none => rw [hg] at P; exact P.elim
      | some d =>
        rw [hg] at P
        obtain ⟨v, ev, pk⟩ := R.peek hp hT
        unfold gRepr at hg
        split at hg
        · rename_i cc
          cases hg
          exact ⟨v, ev, v, c, rfl, o.hK ▸ pk.rp R.ex, R.sm.up R.ex, cc, PostE.ok P R _ (.str _)⟩
        · cases hg
end
end Sd
namespace Sd
open PySem L2 PySem.Spec PyProof.Rows
/-! ### statements -/
inductive Fl where
  | nx | bk | ct
  | rt (r : Rv)
def FlP (S : Sx) (O0 : Addr → Prop) (H0 : Hp) (O : Addr → Prop) (F : Hp) (σ : L2.St) (H : Hp) (D : Ends) : Fl → Prop
  | .nx => D.nx σ H
  | .bk => D.bk σ H
  | .ct => D.ct σ H
  | .rt r => ∀ v, RvR S O0 H0 O F H v r → D.rt v H
def PostS (S : Sx) (F : Hp) (ρ : Rho) (σ : L2.St) (H : Hp) (r : Rz Fl) (D : Ends) : Prop :=
  match r with
  | .ok fl ρ' => ∀ F' σ' H', Ext (Own ρ σ) F H (Own ρ' σ') F' H' → Rs S F' ρ' σ' H' → FlP S (Own ρ σ) H (Own ρ' σ') F' σ' H' D fl
  | .exc c f ρ' => ∀ F' σ' H' cls dd, Ext (Own ρ σ) F H (Own ρ' σ') F' H' → Rs S F' ρ' σ' H' → ExR S F' H' cls dd c f → S.W cls dd σ' H'
  | .stuck => False
def tS (S : Sx) (m : Rho → Rz Fl) : TS := fun D σ H => ∃ F ρ, Rs S F ρ σ H ∧ PostS S F ρ σ H (m ρ) D
def XS (X : Cx) (S : Sx) (st : Stmt) (m : Rho → Rz Fl) : Prop := PS X st (tS S m)
def XSs (X : Cx) (S : Sx) (st : List Stmt) (m : Rho → Rz Fl) : Prop := PSs X st (tS S m)
theorem PS.imp {X : Cx} {e : Stmt} {t t' : TS} (h : PS X e t) (hi : ∀ D σ H, t' D σ H → t D σ H) : PS X e t' := ⟨fun pn s σ H D I q => h.run pn s σ H D I (hi D σ H q)⟩
theorem PSs.imp {X : Cx} {e : List Stmt} {t t' : TS} (h : PSs X e t) (hi : ∀ D σ H, t' D σ H → t D σ H) : PSs X e t' := ⟨fun pn s σ H D I q => h.run pn s σ H D I (hi D σ H q)⟩
section
variable {S : Sx} {F F1 : Hp} {ρ ρ1 : Rho} {σ σ1 : L2.St} {H H1 : Hp} {D : Ends}
theorem PostS.from {r : Rz Fl} (h : PostS S F ρ σ H r D) (e : Ext (Own ρ σ) F H (Own ρ1 σ1) F1 H1) : PostS S F1 ρ1 σ1 H1 r D := by
  cases r with
  | ok fl ρ' =>
    intro F' σ' H' e' R'
    have q := h F' σ' H' (e.trans e') R'
    cases fl with
    | rt r => exact fun v hv => q v (hv.mono e)
    | nx => exact q
    | bk => exact q
    | ct => exact q
  | exc c f ρ' => exact fun F' σ' H' cls dd e' R' x => h F' σ' H' cls dd (e.trans e') R' x
  | stuck => exact h
theorem PostS.ok {fl : Fl} (h : PostS S F ρ σ H (.ok fl ρ) D) (R : Rs S F ρ σ H) : FlP S (Own ρ σ) H (Own ρ σ) F σ H D fl := h F σ H Ext.refl R
/-- behind an expression's step -/
theorem PostS.bindE {α : Type} {r : Rz α} {f : α → Rho → Rz Fl} (h : PostS S F ρ σ H (r.bind f) D) : PostE S σ F ρ H r fun F1 ρ1 H1 a => ∀ F2, Ext (Own ρ σ) F H (Own ρ1 σ) F2 H1 → PostS S F2 ρ1 σ H1 (f a ρ1) D := by
  cases r with
  | ok a ρ' => exact fun F1 H1 _ _ F2 e2 => PostS.from (show PostS S F ρ σ H (f a ρ') D from h) e2
  | exc c f' ρ' => exact fun F' H' cls dd e R x => h F' σ H' cls dd e R x
  | stuck => exact h
theorem tE.useS {m : Rho → Rz Rv} {g : PD → Rho → Rz Fl} {Q : VK} (R : Rs S F ρ σ H) (P : PostS S F ρ σ H ((m ρ).bind fun r ρ1 => g r.d ρ1) D)
    (go : ∀ v d F1 ρ1 H1, Ext (Own ρ σ) F H (Own ρ1 σ) F1 H1 → Rs S F1 ρ1 σ H1 → Rp S.K F1 v d → PostS S F1 ρ1 σ H1 (g d ρ1) D → Q v H1) : tE S m σ H Q := by
  refine ⟨F, ρ, R, PostE.mono (PostS.bindE P) fun F1 ρ1 H1 r e1 R1 P1 v hv => ?_⟩
  obtain ⟨F2, e2, R2, d2⟩ := R1.freeze e1 hv
  exact go v r.d F2 ρ1 H1 e2 R2 d2 (P1 F2 e2)
theorem tE.keepS {m : Rho → Rz Rv} {g : Rv → Rho → Rz Fl} {Q : VK} (R : Rs S F ρ σ H) (P : PostS S F ρ σ H ((m ρ).bind g) D)
    (go : ∀ v r F1 ρ1 H1, Ext (Own ρ σ) F H (Own ρ1 σ) F1 H1 → Rs S F1 ρ1 σ H1 → RvR S (Own ρ σ) H (Own ρ1 σ) F1 H1 v r → PostS S F1 ρ1 σ H1 (g r ρ1) D → PostS S F ρ σ H (g r ρ1) D → Q v H1) : tE S m σ H Q := by
  refine ⟨F, ρ, R, ?_⟩
  cases hm : m ρ with
  | ok a ρ' =>
    rw [hm] at P
    intro F1 H1 e1 R1 v hv
    exact go v a F1 ρ' H1 e1 R1 hv (PostS.from (show PostS S F ρ σ H (g a ρ') D from P) e1) P
  | exc c f' ρ' =>
    rw [hm] at P
    exact fun F' H' cls dd e R x => P F' σ H' cls dd e R x
  | stuck => rw [hm] at P; exact P
theorem tE.keepS2 {F0 : Hp} {ρ0 : Rho} {H0 : Hp} {m : Rho → Rz Rv} {g : Rv → Rho → Rz Fl} {Q : VK} (R : Rs S F ρ σ H) (e0 : Ext (Own ρ0 σ) F0 H0 (Own ρ σ) F H) (P : PostS S F0 ρ0 σ H0 ((m ρ).bind g) D)
    (go : ∀ v r F1 ρ1 H1, Ext (Own ρ σ) F H (Own ρ1 σ) F1 H1 → Rs S F1 ρ1 σ H1 → RvR S (Own ρ σ) H (Own ρ1 σ) F1 H1 v r → PostS S F0 ρ0 σ H0 (g r ρ1) D → Q v H1) : tE S m σ H Q := by
  refine ⟨F, ρ, R, ?_⟩
  cases hm : m ρ with
  | ok a ρ' =>
    rw [hm] at P
    exact fun F1 H1 e1 R1 v hv => go v a F1 ρ' H1 e1 R1 hv P
  | exc c f' ρ' =>
    rw [hm] at P
    exact fun F' H' cls dd e R x => P F' σ H' cls dd (e0.trans e) R x
  | stuck => rw [hm] at P; exact P
theorem Rv.cl_ow {r : Rv} {ds : List PD} (h : r.cl = .ow ds) : r = .ow ds := by
  cases r with
  | fr d => cases h
  | ow ds' => cases h; rfl
theorem Rv.cl_fr {r : Rv} {d : PD} (h : r.cl = .fr d) : r = .fr d := by
  cases r with
  | fr d' => cases h; rfl
  | ow ds' => cases h
/-- a value comes into a slot -/
theorem Rs.setSlot {O0 : Addr → Prop} {H0 : Hp} {v : V} {r : Rv} {i : Nat} (R : Rs S F ρ σ H) (h : RvR S O0 H0 (Own ρ σ) F H v r) (hi : i < ρ.length) (hJ : i ∉ S.J) (hT : S.T i = none ∨ ∃ d, r = .fr d) :
    Rs S F (ρ.set i r.cl) (σ.set i (some v)) H ∧ ∀ a, Own (ρ.set i r.cl) (σ.set i (some v)) a → Own ρ σ a ∨ H0 a = none ∨ O0 a := by
  have hσ : i < σ.length := by rw [← R.len]; exact hi
  have new : ∀ ds, r.cl = .ow ds → ∃ p vs, v = .ref p ∧ F p = none ∧ H p = some (.lst vs) ∧ RpAll S.K F vs ds ∧ ¬ Own ρ σ p ∧ (H0 p = none ∨ O0 p) := fun ds e => by
    have := Rv.cl_ow e
    subst this
    exact h
  have old : ∀ (j : Nat) (ds : List PD), i ≠ j → (ρ.set i r.cl)[j]? = some (.ow ds) → ρ[j]? = some (.ow ds) := fun j ds z q => by rw [List.getElem?_set_ne z] at q; exact q
  refine ⟨⟨R.ex, by rw [List.length_set, List.length_set]; exact R.len, fun j d q => ?_, fun j ds q => ?_, fun j l dj dl p q1 q2 q3 q4 => ?_, fun j hj => ?_, R.sm⟩, fun a z => ?_⟩
  · by_cases z : i = j
    · subst z
      rw [List.getElem?_set_self hi] at q
      have e := Rv.cl_fr (Option.some.inj q)
      subst e
      exact ⟨v, List.getElem?_set_self hσ, h⟩
    · rw [List.getElem?_set_ne z] at q ⊢
      exact R.fr j d q
  · by_cases z : i = j
    · subst z
      rw [List.getElem?_set_self hi] at q
      obtain ⟨p, vs, rfl, h1, h2, h3, _⟩ := new ds (Option.some.inj q)
      refine ⟨p, vs, List.getElem?_set_self hσ, h1, ?_, h3⟩
      rcases hT with e | ⟨d, rfl⟩
      · exact .of e h2
      · cases q
    · rw [List.getElem?_set_ne z] at q ⊢
      exact R.ow j ds q
  · by_cases z : i = j
    · by_cases z' : i = l
      · exact z.symm.trans z'
      · subst z
        rw [List.getElem?_set_self hi] at q1
        rw [List.getElem?_set_self hσ] at q3
        rw [List.getElem?_set_ne z'] at q2 q4
        obtain ⟨p', vs, e, h1, h2, h3, h4, _⟩ := new dj (Option.some.inj q1)
        have e3 : v = .ref p := by injection q3 with q3; injection q3
        rw [e] at e3
        cases e3
        exact absurd ⟨l, dl, q2, q4⟩ h4
    · by_cases z' : i = l
      · subst z'
        rw [List.getElem?_set_self hi] at q2
        rw [List.getElem?_set_self hσ] at q4
        rw [List.getElem?_set_ne z] at q1 q3
        obtain ⟨p', vs, e, h1, h2, h3, h4, _⟩ := new dl (Option.some.inj q2)
        have e3 : v = .ref p := by injection q4 with q4; injection q4
        rw [e] at e3
        cases e3
        exact absurd ⟨j, dj, q1, q3⟩ h4
      · rw [List.getElem?_set_ne z] at q1 q3
        rw [List.getElem?_set_ne z'] at q2 q4
        exact R.sep j l dj dl p q1 q2 q3 q4
  · have z : i ≠ j := fun z => hJ (z ▸ hj)
    rw [List.getElem?_set_ne z]
    exact R.pin j hj
  · obtain ⟨j, ds, q1, q2⟩ := z
    by_cases z : i = j
    · subst z
      rw [List.getElem?_set_self hi] at q1
      rw [List.getElem?_set_self hσ] at q2
      obtain ⟨p', vs, e, h1, h2, h3, h4, h5⟩ := new ds (Option.some.inj q1)
      have e3 : v = .ref a := by injection q2 with q2; injection q2
      rw [e] at e3
      cases e3
      exact .inr h5
    · rw [List.getElem?_set_ne z] at q1 q2
      exact .inl ⟨j, ds, q1, q2⟩
/-- a step, then a slot set: all in all a step -/
theorem Ext.setSlot {v : V} {r : Rv} {i : Nat} (e : Ext (Own ρ σ) F H (Own ρ1 σ) F1 H1) (h : ∀ a, Own (ρ1.set i r.cl) (σ.set i (some v)) a → Own ρ1 σ a ∨ H a = none ∨ Own ρ σ a) :
    Ext (Own ρ σ) F H (Own (ρ1.set i r.cl) (σ.set i (some v))) F1 H1 := ⟨e.fz, e.nw, e.kp, e.st, fun a q => by
  rcases h a q with z | z | z
  · exact e.ow a z
  · exact .inr z
  · exact .inl z⟩
end
section
variable {X : Cx} {S : Sx} {k : Nat} {st : Stmt} {rest : List Stmt} {pos : Pos} {e : Expr} {x : Str}
def mNx : Rho → Rz Fl := fun ρ => .ok .nx ρ
def mSeq (m n : Rho → Rz Fl) : Rho → Rz Fl := fun ρ => (m ρ).bind fun fl ρ1 => match fl with
  | .nx => n ρ1
  | .bk => .ok .bk ρ1
  | .ct => .ok .ct ρ1
  | .rt r => .ok (.rt r) ρ1
theorem xs_nil : XSs X S [] mNx := PSs.imp pss_nil fun D σ H q => by
  obtain ⟨F, ρ, R, P⟩ := q
  exact PostS.ok P R
theorem PostS.seq {F : Hp} {ρ : Rho} {σ : L2.St} {H : Hp} {D : Ends} {r : Rz Fl} {n : Rho → Rz Fl} (h : PostS S F ρ σ H (r.bind fun fl ρ1 => match fl with
    | .nx => n ρ1
    | .bk => .ok .bk ρ1
    | .ct => .ok .ct ρ1
    | .rt r => .ok (.rt r) ρ1) D) : PostS S F ρ σ H r { D with nx := tS S n D } := by
  cases r with
  | ok fl ρ' =>
    cases fl with
    | nx => exact fun F' σ' H' e R => ⟨F', ρ', R, PostS.from (show PostS S F ρ σ H (n ρ') D from h) e⟩
    | bk => exact h
    | ct => exact h
    | rt r => exact h
  | exc c f ρ' => exact h
  | stuck => exact h
theorem xs_cons {m n : Rho → Rz Fl} (h : XS X S st m) (h' : XSs X S rest n) : XSs X S (st :: rest) (mSeq m n) := PSs.imp (pss_cons h h') fun D σ H q => by
  obtain ⟨F, ρ, R, P⟩ := q
  exact ⟨F, ρ, R, PostS.seq P⟩
theorem xs_one {m : Rho → Rz Fl} (h : XS X S st m) : XSs X S [st] m := pss_one h
theorem xs_pass : XS X S (.Pass pos) mNx := PS.imp ps_pass fun D σ H q => by
  obtain ⟨F, ρ, R, P⟩ := q
  exact PostS.ok P R
theorem xs_break : XS X S (.Break pos) (fun ρ => .ok .bk ρ) := PS.imp ps_break fun D σ H q => by
  obtain ⟨F, ρ, R, P⟩ := q
  exact PostS.ok P R
theorem xs_cont : XS X S (.Continue pos) (fun ρ => .ok .ct ρ) := PS.imp ps_continue fun D σ H q => by
  obtain ⟨F, ρ, R, P⟩ := q
  exact PostS.ok P R
/-- what is never walked -/
theorem xs_never : XS X S st (fun _ => .stuck) := PS.imp ps_never fun D σ H q => by
  obtain ⟨F, ρ, R, P⟩ := q
  exact P
def mSet (i : Nat) (m : Rho → Rz Rv) : Rho → Rz Fl := fun ρ => (m ρ).bind fun r ρ1 => if i < ρ1.length then .ok .nx (ρ1.set i r.cl) else .stuck
theorem xs_set (o : Okx X S k) (i : Nat) {m : Rho → Rz Rv} {pos' : Pos} (he : XE X S e m) (hJ : i ∉ S.J := by first | exact nj rfl | decide) (hi : X.N[i]? = some x := by rfl) (hx : Loc X.env.scope x := by first | exact Or.inl rfl | exact Or.inr rfl) (hs : swapsWith e (some (.Name x pos')) pos.line X.env = pure false := by rfl)
    (hf : X.fn x = true ∨ X.env.scope.names.lookup x = some .local := by first | exact .inl rfl | exact .inr rfl | assumption) (hT : S.T i = none := by first | rfl | assumption) : XS X S (.Assign [.Name x pos'] e pos) (mSet i m) :=
  PS.imp (ps_set o.nd hi hx he hs hf) fun D σ H q => by
    obtain ⟨F, ρ, R, P⟩ := q
    refine tE.keepS (g := fun r ρ1 => if i < ρ1.length then .ok .nx (ρ1.set i r.cl) else .stuck) R P fun v r F1 ρ1 H1 e1 R1 hv _ P1 => ?_
    by_cases hl : i < ρ1.length
    · rw [if_pos hl] at P1
      obtain ⟨R2, h2⟩ := R1.setSlot hv hl hJ (.inl hT)
      exact P1 F1 _ H1 (e1.setSlot h2) R2
    · rw [if_neg hl] at P1; exact P1.elim
def mRet (m : Rho → Rz Rv) : Rho → Rz Fl := fun ρ => (m ρ).bind fun r ρ1 => .ok (.rt r) ρ1
theorem xs_ret {m : Rho → Rz Rv} (he : XE X S e m) : XS X S (.Return (some e) pos) (mRet m) := PS.imp (ps_ret he) fun D σ H q => by
  obtain ⟨F, ρ, R, P⟩ := q
  refine tE.keepS (g := fun r ρ1 => .ok (.rt r) ρ1) R P fun v r F1 ρ1 H1 e1 R1 hv _ P1 => ?_
  exact P1 F1 σ H1 e1 R1 v hv
def mRetN : Rho → Rz Fl := fun ρ => .ok (.rt (.fr .none)) ρ
theorem xs_retN : XS X S (.Return none pos) mRetN := PS.imp ps_retN fun D σ H q => by
  obtain ⟨F, ρ, R, P⟩ := q
  exact PostS.ok P R .non .non
def mDrop (m : Rho → Rz Rv) : Rho → Rz Fl := fun ρ => (m ρ).bind fun r ρ1 => .ok .nx ρ1
theorem xs_expr {m : Rho → Rz Rv} (he : XE X S e m) (hs : swapsWith e none pos.line X.env = pure false := by rfl) : XS X S (.Expr e pos) (mDrop m) := PS.imp (ps_expr he hs) fun D σ H q => by
  obtain ⟨F, ρ, R, P⟩ := q
  refine tE.keepS (g := fun r ρ1 => .ok .nx ρ1) R P fun v r F1 ρ1 H1 e1 R1 hv P1 _ => ?_
  exact PostS.ok P1 R1
def mIfS (t : Rho → Rz Bool) (m n : Rho → Rz Fl) : Rho → Rz Fl := fun ρ => (t ρ).bind fun c ρ1 => if c = true then m ρ1 else n ρ1
theorem xs_if {c : Expr} {a b : List Stmt} {t : Rho → Rz Bool} {m n : Rho → Rz Fl} (hc : XT X S c t) (ha : XSs X S a m) (hb : XSs X S b n) : XS X S (.If c a b pos) (mIfS t m n) := PS.imp (ps_if hc ha hb) fun D σ H q => by
  obtain ⟨F, ρ, R, P⟩ := q
  refine ⟨F, ρ, R, PostE.mono (PostS.bindE P) fun F1 ρ1 H1 c e1 R1 P1 => ?_⟩
  have P2 := P1 F1 e1
  cases c with
  | true => exact ⟨F1, ρ1, R1, P2⟩
  | false => exact ⟨F1, ρ1, R1, P2⟩
/-! ### a, b = e1, e2 -/
theorem RvR.step {O0 : Addr → Prop} {H0 : Hp} {O1 O2 : Addr → Prop} {F1 F2 H1 H2 : Hp} {v : V} {r : Rv} (h : RvR S O0 H0 O1 F1 H1 v r) (e : Ext O1 F1 H1 O2 F2 H2) : RvR S O0 H0 O2 F2 H2 v r := by
  cases r with
  | fr d => exact rp_mono e.fz _ _ h
  | ow ds =>
    obtain ⟨p, vs, a, b, c, d, e1, e2⟩ := h
    refine ⟨p, vs, a, ?_, e.kp p _ c e1, rpa_mono e.fz _ _ d, fun z => ?_, e2⟩
    · cases q : F2 p with
      | none => rfl
      | some o =>
        rcases e.nw p (by rw [q]; simp) with z | z | z
        · exact absurd b z
        · rw [c] at z; cases z
        · exact absurd z e1
    · rcases e.ow p z with z | z
      · exact e1 z
      · rw [c] at z; cases z
def mPar (i j : Nat) (ma mb : Rho → Rz Rv) : Rho → Rz Fl := fun ρ => (ma ρ).bind fun r ρ1 => (mb ρ1).bind fun q ρ2 => if i < ρ2.length ∧ j < ρ2.length then .ok .nx ((ρ2.set i r.cl).set j q.cl) else .stuck
theorem xs_par (o : Okx X S k) (i j : Nat) {ma mb : Rho → Rz Rv} {a b : Expr} {y : Str} {px py pt : Pos} {kt k2 : Nat} {pt2 : Pos} (ha : XE X S a ma) (hb : XE X S b mb) (hJ : i ∉ S.J ∧ j ∉ S.J := by first | exact ⟨nj rfl, nj rfl⟩ | decide) (hij : i ≠ j := by decide) (hi : X.N[i]? = some x := by rfl) (hj : X.N[j]? = some y := by rfl)
    (hx : X.env.scope.names.lookup x = some .local := by rfl) (hy : X.env.scope.names.lookup y = some .local := by rfl)
    (hw : swappedStores [.Tuple [.Name x px, .Name y py] kt pt] (.Tuple [a, b] k2 pt2) X.env = pure (some [x, y]) := by rfl)
    (hs : swapsWithSole [.Tuple [.Name x px, .Name y py] kt pt] (.Tuple [a, b] k2 pt2) pos.line X.env = pure false := by rfl)
    (he : starEach [a, b] X.env = (false, eval a X.env) :: starEach [b] X.env := by rfl) (he2 : starEach [b] X.env = [(false, eval b X.env)] := by rfl) (hT : S.T i = none := by first | rfl | assumption) (hT1 : S.T j = none := by first | rfl | assumption) :
    XS X S (.Assign [.Tuple [.Name x px, .Name y py] kt pt] (.Tuple [a, b] k2 pt2) pos) (mPar i j ma mb) :=
  PS.imp (ps_par o.calm o.nd hi hj hij hx hy (pa_cons ha (pa_cons hb pa_nil he2) he) hw hs) fun D σ H q => by
    obtain ⟨F, ρ, R, P⟩ := q
    refine tE.keepS2 (g := fun r ρ1 => (mb ρ1).bind fun q ρ2 => if i < ρ2.length ∧ j < ρ2.length then .ok .nx ((ρ2.set i r.cl).set j q.cl) else .stuck) R Ext.refl P fun v r F1 ρ1 H1 e1 R1 hv P1 => ?_
    refine tE.keepS2 (g := fun q ρ2 => if i < ρ2.length ∧ j < ρ2.length then .ok .nx ((ρ2.set i r.cl).set j q.cl) else .stuck) R1 e1 P1 fun w q F2 ρ2 H2 e2 R2 hw P2 => ?_
    by_cases hl : i < ρ2.length ∧ j < ρ2.length
    · rw [if_pos hl] at P2
      refine ⟨v, w, rfl, ?_⟩
      have hv2 := hv.step e2
      -- the first value, then the second one
      obtain ⟨Ra, ha⟩ := R2.setSlot hv2 hl.1 hJ.1 (.inl hT)
      have hw' : RvR S (Own ρ1 σ) H1 (Own (ρ2.set i r.cl) (σ.set i (some v))) F2 H2 w q := by
        cases q with
        | fr d => exact hw
        | ow ds =>
          obtain ⟨p, vs, h1, h2, h3, h4, h5, h6⟩ := hw
          refine ⟨p, vs, h1, h2, h3, h4, fun z => ?_, h6⟩
          obtain ⟨l, dl, z1, z2⟩ := z
          by_cases c : i = l
          · subst c
            rw [List.getElem?_set_self hl.1] at z1
            rw [List.getElem?_set_self (by rw [← R2.len]; exact hl.1)] at z2
            have z3 := Rv.cl_ow (Option.some.inj z1)
            subst z3
            obtain ⟨p', vs', q1, q2, q3, q4, q5, q6⟩ := hv
            have e3 : v = .ref p := by injection z2 with z2; injection z2
            rw [q1] at e3
            cases e3
            rcases h6 with h6 | h6
            · rw [q3] at h6; cases h6
            · exact q5 h6
          · rw [List.getElem?_set_ne c] at z1 z2
            exact h5 ⟨l, dl, z1, z2⟩
      obtain ⟨Rb, hb⟩ := Ra.setSlot hw' (by rw [List.length_set]; exact hl.2) hJ.2 (.inl hT1)
      have e3 := e1.trans e2
      refine P2 F2 _ H2 ⟨e3.fz, e3.nw, e3.kp, e3.st, fun a z => ?_⟩ Rb
      rcases hb a z with z | z | z
      · rcases ha a z with z | z | z
        · exact e3.ow a z
        · exact .inr z
        · exact .inl z
      · exact .inr (e1.back z)
      · exact e1.ow a z
    · rw [if_neg hl] at P2; exact P2.elim
end
end Sd
namespace Sd
open PySem L2 PySem.Spec PyProof.Rows
section
variable {S : Sx} {F : Hp} {ρ : Rho} {σ : L2.St} {H : Hp}
/-- what a slot holds changes -/
theorem Rs.mutG {i : Nat} {ds ds' : List PD} {vs' : List V} {p : Addr} {u : HO} (R : Rs S F ρ σ H) (h : ρ[i]? = some (.ow ds)) (hp : σ[i]? = some (some (.ref p))) (ha : RpAll S.K F vs' ds') (hu : FamH (S.T i) (upd H p u) p vs') :
    Rs S F (ρ.set i (.ow ds')) σ (upd H p u) ∧ Ext (Own ρ σ) F H (Own (ρ.set i (.ow ds')) σ) F (upd H p u) := by
  have hi : i < ρ.length := (List.getElem?_eq_some_iff.mp h).1
  obtain ⟨p', vs, e1, e2, e3, e4⟩ := R.ow i ds h
  have ep : p = p' := by have := slot_inj hp e1; injection this
  subst ep
  have isow : ∀ (l : Nat) (dl : List PD), (ρ.set i (.ow ds'))[l]? = some (.ow dl) → ∃ dl', ρ[l]? = some (.ow dl') := fun l dl q => by
    by_cases z : i = l
    · subst z; exact ⟨ds, h⟩
    · rw [List.getElem?_set_ne z] at q; exact ⟨dl, q⟩
  refine ⟨⟨fun a o q => ?_, by rw [List.length_set]; exact R.len, fun j d q => ?_, fun j dj q => ?_, fun j l dj dl a q1 q2 q3 q4 => ?_, R.pin, R.sm⟩, ⟨fun _ _ q => q, fun _ q => .inl q, fun a o q n => ?_, fun a q => ?_, fun a q => .inl ?_⟩⟩
  · have z : a ≠ p := fun z => by rw [z, e2] at q; cases q
    rw [upd_ne z]
    exact R.ex a o q
  · by_cases z : i = j
    · subst z; rw [List.getElem?_set_self hi] at q; cases q
    · rw [List.getElem?_set_ne z] at q; exact R.fr j d q
  · by_cases z : i = j
    · subst z
      rw [List.getElem?_set_self hi] at q
      cases q
      exact ⟨p, vs', hp, e2, hu, ha⟩
    · rw [List.getElem?_set_ne z] at q
      obtain ⟨p2, vs2, q1, q2, q3, q4⟩ := R.ow j dj q
      have n : p2 ≠ p := fun n => z (R.sep i j ds dj p h q hp (by rw [← n]; exact q1))
      exact ⟨p2, vs2, q1, q2, q3.mono fun o z => by rw [upd_ne n]; exact z, q4⟩
  · obtain ⟨_, q1⟩ := isow j dj q1
    obtain ⟨_, q2⟩ := isow l dl q2
    exact R.sep j l _ _ a q1 q2 q3 q4
  · have z : a ≠ p := fun z => n ⟨i, ds, h, by rw [z]; exact hp⟩
    rw [upd_ne z]
    exact q
  · by_cases z : a = p
    · subst z; rw [upd_same]; simp
    · rw [upd_ne z]; exact q
  · obtain ⟨j, dj, z1, z2⟩ := q
    obtain ⟨_, z1⟩ := isow j dj z1
    exact ⟨j, _, z1, z2⟩
theorem Rs.mut {i : Nat} {ds ds' : List PD} {vs' : List V} {p : Addr} (R : Rs S F ρ σ H) (h : ρ[i]? = some (.ow ds)) (hp : σ[i]? = some (some (.ref p))) (ha : RpAll S.K F vs' ds') (hT : S.T i = none) :
    Rs S F (ρ.set i (.ow ds')) σ (upd H p (.lst vs')) ∧ Ext (Own ρ σ) F H (Own (ρ.set i (.ow ds')) σ) F (upd H p (.lst vs')) := R.mutG h hp ha (.of hT upd_same)
theorem Rs.owAt {i : Nat} {ds : List PD} {p : Addr} (R : Rs S F ρ σ H) (h : ρ[i]? = some (.ow ds)) (hp : σ[i]? = some (some (.ref p))) (hT : S.T i = none) : ∃ vs, H p = some (.lst vs) ∧ RpAll S.K F vs ds := by
  obtain ⟨p', vs, e1, e2, e3, e4⟩ := R.ow i ds h
  have ep : p = p' := by have := slot_inj hp e1; injection this
  subst ep
  exact ⟨vs, e3.lst hT, e4⟩
end
/-- the list of one's own in a slot -/
def Rho.owL (ρ : Rho) (i : Nat) : Option (List PD) := match ρ[i]? with
  | some (.ow ds) => some ds
  | _ => none
theorem Rho.owL_eq {ρ : Rho} {i : Nat} {ds : List PD} (h : ρ.owL i = some ds) : ρ[i]? = some (.ow ds) := by
  unfold Rho.owL at h
  split at h
  · rename_i ds' e; cases h; exact e
  · cases h
section
variable {X : Cx} {S : Sx} {k : Nat} {e b : Expr} {pos p px cpos apos : Pos} {x : Str} {mi me : Rho → Rz Rv}
/-- x.append(e) -/
def mApp (i : Nat) (m : Rho → Rz Rv) : Rho → Rz Rv := fun ρ => match ρ.owL i with
  | none => .stuck
  | some _ => (m ρ).bind fun r ρ1 => match ρ1.owL i with
    | some ds => if okLen (ds.length + 1) = true then .ok (.fr .none) (ρ1.set i (.ow (ds ++ [r.d]))) else .stuck
    | none => .stuck
theorem okLen.lt {n : Nat} (h : okLen (n + 1) = true) : n < sizeLine := Nat.lt_of_lt_of_le (Nat.lt_succ_self n) (okLen.ok h)
theorem xe_append (i : Nat) (hp : PE X e (tBM X.K "list" rAppend (tVar i) (tCons (tE S me) tNil))) (hT : S.T i = none := by first | rfl | assumption) : XE X S e (mApp i me) := PE.imp hp fun σ H Q q => by
    obtain ⟨F, ρ, R, P⟩ := q
    unfold mApp at P
    cases h0 : ρ.owL i with
    | none => rw [h0] at P; exact P.elim
    | some ds0 =>
      rw [h0] at P
      obtain ⟨p, vs, e1, e2, e3, e4⟩ := R.ow i ds0 (Rho.owL_eq h0)
      replace e3 := e3.lst hT
      refine ⟨.ref p, e1, .inl ⟨rfl, _, .inl (.inl e3)⟩, ?_⟩
      refine tE.use (β := Rv) (g := fun d ρ1 => match ρ1.owL i with
        | some ds => if okLen (ds.length + 1) = true then .ok (.fr .none) (ρ1.set i (.ow (ds ++ [d]))) else .stuck
        | none => .stuck) R P fun v d F1 ρ1 H1 x1 R1 D1 P1 => ?_
      cases h1 : ρ1.owL i with
      | none => rw [h1] at P1; exact P1.elim
      | some ds =>
        rw [h1] at P1
        simp only at P1
        by_cases c : okLen (ds.length + 1) = true
        · rw [if_pos c] at P1
          obtain ⟨vs1, q1, q2⟩ := R1.owAt (Rho.owL_eq h1) e1 hT
          obtain ⟨R2, x2⟩ := R1.mut (Rho.owL_eq h1) e1 (q2.app (.cons D1 .nil)) hT
          exact ⟨p, vs1, v, rfl, rfl, q1, by rw [q2.len]; exact okLen.lt c, P1 F1 _ x2 R2 .non .non⟩
        · rw [if_neg c] at P1; exact P1.elim
/-- x.pop(i), x.pop() -/
def mPopAt (i : Nat) (m : Rho → Rz Rv) : Rho → Rz Rv := fun ρ => match ρ.owL i with
  | none => .stuck
  | some _ => (m ρ).bind fun r ρ1 => match ρ1.owL i, r.d with
    | some ds, .int n => (match ixN ds.length n with
      | some j => (match ds[j]? with
        | some d => if decide (ds.length ≤ 1000000) = true then .ok (.fr d) (ρ1.set i (.ow (ds.eraseIdx j))) else .stuck
        | none => .stuck)
      | none => .stuck)
    | _, _ => .stuck
theorem xe_popAt (i : Nat) (hp : PE X e (tBM X.K "list" rPopAt (tVar i) (tCons (tE S me) tNil))) (hT : S.T i = none := by first | rfl | assumption) : XE X S e (mPopAt i me) := PE.imp hp fun σ H Q q => by
    obtain ⟨F, ρ, R, P⟩ := q
    unfold mPopAt at P
    cases h0 : ρ.owL i with
    | none => rw [h0] at P; exact P.elim
    | some ds0 =>
      rw [h0] at P
      obtain ⟨p, vs, e1, e2, e3, e4⟩ := R.ow i ds0 (Rho.owL_eq h0)
      replace e3 := e3.lst hT
      refine ⟨.ref p, e1, .inl ⟨rfl, _, .inl (.inl e3)⟩, ?_⟩
      refine tE.use (β := Rv) (g := fun d ρ1 => match ρ1.owL i, d with
        | some ds, .int n => (match ixN ds.length n with
          | some j => (match ds[j]? with
            | some d => if decide (ds.length ≤ 1000000) = true then .ok (Rv.fr d) (ρ1.set i (.ow (ds.eraseIdx j))) else .stuck
            | none => .stuck)
          | none => .stuck)
        | _, _ => .stuck) R P fun v d F1 ρ1 H1 x1 R1 D1 P1 => ?_
      cases h1 : ρ1.owL i with
      | none => rw [h1] at P1; exact P1.elim
      | some ds =>
        rw [h1] at P1
        cases D1 with
        | int n =>
          simp only at P1
          cases h2 : ixN ds.length n with
          | none => rw [h2] at P1; exact P1.elim
          | some j =>
            rw [h2] at P1
            simp only at P1
            cases h3 : ds[j]? with
            | none => rw [h3] at P1; exact P1.elim
            | some y =>
              rw [h3] at P1
              simp only at P1
              by_cases c : decide (ds.length ≤ 1000000) = true
              · rw [if_pos c] at P1
                have c' : ds.length ≤ 1000000 := of_decide_eq_true c
                obtain ⟨vs1, q1, q2⟩ := R1.owAt (Rho.owL_eq h1) e1 hT
                obtain ⟨R2, x2⟩ := R1.mut (Rho.owL_eq h1) e1 (q2.erase j) hT
                obtain ⟨w, w1, w2⟩ := q2.at h3
                obtain ⟨s1, s2, s3, s4⟩ := ixN_seq h2
                exact ⟨p, vs1, n, j, w, rfl, rfl, q1, by omega, by omega, by rw [q2.len]; exact s1, w1, P1 F1 _ x2 R2 w w2⟩
              · rw [if_neg c] at P1; exact P1.elim
        | _ => exact P1.elim
def mPop (i : Nat) : Rho → Rz Rv := fun ρ => match ρ.owL i with
  | some ds => (match ds[ds.length - 1]? with
    | some d => .ok (.fr d) (ρ.set i (.ow ds.dropLast))
    | none => .stuck)
  | none => .stuck
theorem RpAll.dropLast {K : PySem.W.Frag} {F : Hp} {vs : List V} {ds : List PD} (h : RpAll K F vs ds) : RpAll K F vs.dropLast ds.dropLast := by
  rw [List.dropLast_eq_take, List.dropLast_eq_take, h.len]
  exact h.take _
theorem xe_pop (i : Nat) (hp : PE X e (tBM0 X.K "list" rPop (tVar i))) (hT : S.T i = none := by first | rfl | assumption) : XE X S e (mPop i) := PE.imp hp fun σ H Q q => by
    obtain ⟨F, ρ, R, P⟩ := q
    unfold mPop at P
    cases h0 : ρ.owL i with
    | none => rw [h0] at P; exact P.elim
    | some ds =>
      rw [h0] at P
      simp only at P
      cases h3 : ds[ds.length - 1]? with
      | none => rw [h3] at P; exact P.elim
      | some y =>
        rw [h3] at P
        obtain ⟨p, vs, e1, e2, e3, e4⟩ := R.ow i ds (Rho.owL_eq h0)
        replace e3 := e3.lst hT
        obtain ⟨R2, x2⟩ := R.mut (Rho.owL_eq h0) e1 e4.dropLast hT
        obtain ⟨w, w1, w2⟩ := e4.at h3
        exact ⟨.ref p, e1, .inl ⟨rfl, _, .inl (.inl e3)⟩, p, vs, w, rfl, rfl, e3, by rw [e4.len]; exact w1, P F _ x2 R2 w w2⟩
/-- x[i] = e -/
def mSetIx (i : Nat) (mi me : Rho → Rz Rv) : Rho → Rz Fl := fun ρ => (me ρ).bind fun r ρ1 => match ρ1.owL i with
  | none => .stuck
  | some _ => (mi ρ1).bind fun ix ρ2 => match ρ2.owL i, ix.d with
    | some ds, .int n => (match ixN ds.length n with
      | some j => .ok .nx (ρ2.set i (.ow (ds.set j r.d)))
      | none => .stuck)
    | _, _ => .stuck
theorem xs_setIx (o : Okx X S k) (i : Nat) (hi : XE X S b mi) (he : XE X S e me) (hN : X.N[i]? = some x := by rfl) (hv : Vis X.env.scope x := by first | exact Or.inl rfl | exact Or.inr (Or.inl rfl) | exact Or.inr (Or.inr rfl)) (hd : (x == ("__debug__" : Str)) = false := by decide)
    (hcd : (x == ("__classdict__" : Str)) = false := by decide)
    (ha : ∀ v, assign (.Subscript (.Name x px) b p) X.env v = (do
      let ov ← holding [v] (eval (.Name x px) X.env)
      let iv ← holding [v, ov] (eval b X.env)
      standAt p
      (holding [v, ov, iv] (setItem ov iv v))
      release [v, ov, iv] []) := by intro _; rfl)
    (hs : swapsWithSole [.Subscript (.Name x px) b p] e pos.line X.env = pure false := by rfl) (hw : swappedStores [.Subscript (.Name x px) b p] e X.env = pure none := by rfl)
    (h1 : (assignEach [.Subscript (.Name x px) b p] X.env).map (·.2) = [assign (.Subscript (.Name x px) b p) X.env] := by rfl) (hT : S.T i = none := by first | rfl | assumption) :
    XS X S (.Assign [.Subscript (.Name x px) b p] e pos) (mSetIx i mi me) :=
  PS.imp (ps_asg he (pg_sub (pe_var (i := i) hN hv hd hcd) hi set_list ha) hs hw h1) fun D σ H q => by
    obtain ⟨F, ρ, R, P⟩ := q
    refine tE.useS (g := fun d ρ1 => match ρ1.owL i with
      | none => .stuck
      | some _ => (mi ρ1).bind fun ix ρ2 => match ρ2.owL i, ix.d with
        | some ds, .int n => (match ixN ds.length n with
          | some j => .ok .nx (ρ2.set i (.ow (ds.set j d)))
          | none => .stuck)
        | _, _ => .stuck) R P fun v d F1 ρ1 H1 x1 R1 D1 P1 => ?_
    cases h0 : ρ1.owL i with
    | none => rw [h0] at P1; exact P1.elim
    | some ds0 =>
      rw [h0] at P1
      obtain ⟨p, vs, e1, e2, e3, e4⟩ := R1.ow i ds0 (Rho.owL_eq h0)
      replace e3 := e3.lst hT
      refine ⟨.ref p, e1, ?_⟩
      refine tE.useS (g := fun ix ρ2 => match ρ2.owL i, ix with
        | some ds, .int n => (match ixN ds.length n with
          | some j => .ok .nx (ρ2.set i (.ow (ds.set j d)))
          | none => .stuck)
        | _, _ => .stuck) R1 P1 fun y ix F2 ρ2 H2 x2 R2 D2 P2 => ?_
      cases h1 : ρ2.owL i with
      | none => rw [h1] at P2; exact P2.elim
      | some ds =>
        rw [h1] at P2
        cases D2 with
        | int n =>
          simp only at P2
          cases h2 : ixN ds.length n with
          | none => rw [h2] at P2; exact P2.elim
          | some j =>
            rw [h2] at P2
            obtain ⟨vs1, q1, q2⟩ := R2.owAt (Rho.owL_eq h1) e1 hT
            obtain ⟨R3, x3⟩ := R2.mut (Rho.owL_eq h1) e1 (RpAll.set (rp_mono x2.fz _ _ D1) j q2) hT
            exact ⟨p, vs1, n, j, rfl, rfl, q1, by rw [q2.len]; exact h2, P2 F2 σ _ x3 R3⟩
        | _ => exact P2.elim
/-- x[i] += e, -= of ints -/
theorem get_list : PGet X (rIxL X.K) := by
  intro pn s σ H o i ov iv Q I r1 r2 h
  obtain ⟨p, xs, n, w, rfl, rfl, hq, ha, q⟩ := h
  cases r1
  obtain ⟨t, rfl⟩ := r2
  (obtain ⟨its, rv, pl, hz⟩ := I.list hq)
  obtain ⟨j, a1, a2, a3, a4, a5⟩ := atI_get ha
  obtain ⟨y, b1, b2⟩ := rv.get a2
  have len1 := rv.length
  have big := line63
  by_cases c : 0 ≤ n
  · rw [seqIndex_of c a5] at a1
    have ej := Option.some.inj a1
    exact wpAny_getItem_list pl.isList c (by omega) (by rw [ej]; simpa using b1) ⟨w, H, I, b2, q⟩
  · rw [seqIndex_neg (by omega) a4] at a1
    have ej := Option.some.inj a1
    exact wpAny_getItem_list_neg pl.isList (by omega) (by rw [List.size_toArray]; omega) (by omega) (by rw [List.size_toArray, ← len1, ej]; simpa using b1) ⟨w, H, I, b2, q⟩
def mAugIx (i : Nat) (f : Int → Int → Int) (mi me : Rho → Rz Rv) : Rho → Rz Fl := fun ρ => match ρ.owL i with
  | none => .stuck
  | some _ => (mi ρ).bind fun ix ρ1 => match ρ1.owL i, ix.d with
    | some ds, .int n => (match atI ds n with
      | some (.int y) => (me ρ1).bind fun r ρ2 => (match ρ2.owL i, r.d with
        | some ds2, .int z => (match ixN ds2.length n with
          | some j => .ok .nx (ρ2.set i (.ow (ds2.set j (.int (f y z)))))
          | none => .stuck)
        | _, _ => .stuck)
      | _ => .stuck)
    | _, _ => .stuck
theorem xs_augIx {op : Operator} {f : Int → Int → Int} (o : Okx X S k) (i : Nat) (ho : PIp X op (ipI f)) (hi : XE X S b mi) (he : XE X S e me) (hN : X.N[i]? = some x := by rfl) (hv : Vis X.env.scope x := by first | exact Or.inl rfl | exact Or.inr (Or.inl rfl) | exact Or.inr (Or.inr rfl)) (hd : (x == ("__debug__" : Str)) = false := by decide)
    (hcd : (x == ("__classdict__" : Str)) = false := by decide)
    (haug : ∀ ov iv new, augStore b ov iv new = (do holding [new, ov, iv] (setItem ov iv new); release [new, ov, iv] []; pure .next) := by intros; rfl) (hT : S.T i = none := by first | rfl | assumption) :
    XS X S (.AugAssign (.Subscript (.Name x px) b p) op e pos) (mAugIx i f mi me) :=
  PS.imp (ps_augS (pe_var (i := i) hN hv hd hcd) hi get_list he ho set_list haug) fun D σ H q => by
    obtain ⟨F, ρ, R, P⟩ := q
    unfold mAugIx at P
    cases h0 : ρ.owL i with
    | none => rw [h0] at P; exact P.elim
    | some ds0 =>
      rw [h0] at P
      obtain ⟨p, vs, e1, e2, e3, e4⟩ := R.ow i ds0 (Rho.owL_eq h0)
      replace e3 := e3.lst hT
      refine ⟨.ref p, e1, ?_⟩
      refine tE.useS (g := fun ix ρ1 => match ρ1.owL i, ix with
        | some ds, .int n => (match atI ds n with
          | some (.int y) => (me ρ1).bind fun r ρ2 => (match ρ2.owL i, r.d with
            | some ds2, .int z => (match ixN ds2.length n with
              | some j => .ok .nx (ρ2.set i (.ow (ds2.set j (.int (f y z)))))
              | none => .stuck)
            | _, _ => .stuck)
          | _ => .stuck)
        | _, _ => .stuck) R P fun y ix F1 ρ1 H1 x1 R1 D1 P1 => ?_
      cases h1 : ρ1.owL i with
      | none => rw [h1] at P1; exact P1.elim
      | some ds =>
        rw [h1] at P1
        cases D1 with
        | int n =>
          simp only at P1
          cases h2 : atI ds n with
          | none => rw [h2] at P1; exact P1.elim
          | some w =>
            rw [h2] at P1
            cases w with
            | int y =>
              simp only at P1
              obtain ⟨vs1, q1, q2⟩ := R1.owAt (Rho.owL_eq h1) e1 hT
              obtain ⟨u, u1, u2⟩ := q2.atI h2
              cases u2
              refine ⟨p, vs1, n, .int y, rfl, rfl, .inl (.inl q1), u1, ?_⟩
              refine tE.useS (g := fun r ρ2 => match ρ2.owL i, r with
                | some ds2, .int z => (match ixN ds2.length n with
                  | some j => .ok .nx (ρ2.set i (.ow (ds2.set j (.int (f y z)))))
                  | none => .stuck)
                | _, _ => .stuck) R1 P1 fun w dw F2 ρ2 H2 x2 R2 D2 P2 => ?_
              cases h3 : ρ2.owL i with
              | none => rw [h3] at P2; exact P2.elim
              | some ds2 =>
                rw [h3] at P2
                cases D2 with
                | int z =>
                  simp only at P2
                  cases h4 : ixN ds2.length n with
                  | none => rw [h4] at P2; exact P2.elim
                  | some j =>
                    rw [h4] at P2
                    obtain ⟨vs2, q3, q4⟩ := R2.owAt (Rho.owL_eq h3) e1 hT
                    obtain ⟨R3, x3⟩ := R2.mut (Rho.owL_eq h3) e1 (RpAll.set (.int (f y z)) j q4) hT
                    exact ⟨y, z, rfl, rfl, p, vs2, n, j, rfl, rfl, q3, by rw [q4.len]; exact h4, P2 F2 σ _ x3 R3⟩
                | _ => exact P2.elim
            | _ => exact P1.elim
        | _ => exact P1.elim
end
end Sd
namespace Sd
open PySem L2 PySem.Spec PyProof.Rows
section
variable {S : Sx} {F : Hp} {ρ : Rho} {σ : L2.St} {H : Hp}
/-! ### targets: a value that is read in the frozen part -/
/-- the slots of these places are the target's: all else stands -/
def gRel (is : List Nat) (σ σ' : L2.St) : Prop := σ'.length = σ.length ∧ ∀ i, i ∉ is → σ'[i]? = σ[i]?
def tG (S : Sx) (is : List Nat) (g : PD → Rho → Option Rho) : TG := fun v σ H Q => ∃ F ρ d, Rs S F ρ σ H ∧ Rp S.K F v d ∧ match g d ρ with
  | some ρ' => ∀ F' σ' H', Ext (Own ρ σ) F H (Own ρ' σ') F' H' → Rs S F' ρ' σ' H' → gRel is σ σ' → Q σ' H'
  | none => False
def XG (X : Cx) (S : Sx) (tg : Expr) (is : List Nat) (g : PD → Rho → Option Rho) : Prop := PG X tg (tG S is g)
theorem PG.imp {X : Cx} {e : Expr} {t t' : TG} (h : PG X e t) (hi : ∀ v σ H Q, t' v σ H Q → t v σ H Q) : PG X e t' := ⟨fun pn s σ H v u Q I r q => h.run pn s σ H v u Q I r (hi v σ H Q q)⟩
def tGs (S : Sx) (is : List Nat) (g : List PD → Rho → Option Rho) : TGs := fun vs σ H Q => ∃ F ρ ds, Rs S F ρ σ H ∧ RpAll S.K F vs ds ∧ match g ds ρ with
  | some ρ' => ∀ F' σ' H', Ext (Own ρ σ) F H (Own ρ' σ') F' H' → Rs S F' ρ' σ' H' → gRel is σ σ' → Q σ' H'
  | none => False
def XGs (X : Cx) (S : Sx) (tg : List Expr) (is : List Nat) (g : List PD → Rho → Option Rho) : Prop := PGs X tg (tGs S is g)
theorem PGs.imp {X : Cx} {e : List Expr} {t t' : TGs} (h : PGs X e t) (hi : ∀ v σ H Q, t' v σ H Q → t v σ H Q) : PGs X e t' := ⟨fun pn s σ H v u Q I r q => h.run pn s σ H v u Q I r (hi v σ H Q q)⟩
end
section
variable {X : Cx} {S : Sx} {k : Nat} {e : Expr} {es : List Expr} {pos p : Pos} {x : Str}
def gN (i : Nat) : PD → Rho → Option Rho := fun d ρ => if i < ρ.length then some (ρ.set i (.fr d)) else none
theorem xg_name (nd : X.N.Nodup) (i : Nat) (hJ : i ∉ S.J := by first | exact nj rfl | decide) (hi : X.N[i]? = some x := by rfl) (hx : Loc X.env.scope x := by first | exact Or.inl rfl | exact Or.inr rfl) (hf : X.fn x = true ∨ X.env.scope.names.lookup x = some .local := by first | exact .inl rfl | exact .inr rfl | assumption) :
    XG X S (.Name x pos) [i] (gN i) := PG.imp (pg_name nd hi hx hf) fun v σ H Q q => by
  obtain ⟨F, ρ, d, R, D, P⟩ := q
  unfold gN at P
  by_cases hl : i < ρ.length
  · rw [if_pos hl] at P
    obtain ⟨R2, h2⟩ := R.setSlot (O0 := Own ρ σ) (H0 := H) (r := .fr d) D hl hJ (.inr ⟨_, rfl⟩)
    refine P F _ H ⟨fun _ _ q => q, fun _ q => .inl q, fun _ _ q _ => q, fun _ q => q, fun a z => ?_⟩ R2 ⟨by rw [List.length_set], fun j hj => List.getElem?_set_ne (fun z => hj (by simp [z]))⟩
    rcases h2 a z with z | z | z
    · exact .inl z
    · exact .inr z
    · exact .inl z
  · rw [if_neg hl] at P; exact P.elim
def gsNil : List PD → Rho → Option Rho := fun ds ρ => match ds with
  | [] => some ρ
  | _ => none
theorem xgs_nil : XGs X S [] [] gsNil := PGs.imp pgs_nil fun vs σ H Q q => by
  obtain ⟨F, ρ, ds, R, D, P⟩ := q
  cases ds with
  | nil =>
    cases D
    exact ⟨rfl, P F σ H Ext.refl R ⟨rfl, fun _ _ => rfl⟩⟩
  | cons d ds => exact P.elim
def gsCons (g : PD → Rho → Option Rho) (h : List PD → Rho → Option Rho) : List PD → Rho → Option Rho := fun ds ρ => match ds with
  | d :: r => (g d ρ).bind fun ρ1 => h r ρ1
  | [] => none
theorem xgs_cons {is js : List Nat} {g : PD → Rho → Option Rho} {h : List PD → Rho → Option Rho} (h1 : XG X S e is g) (h2 : XGs X S es js h) (hs : (assignEach (e :: es) X.env).map (·.2) = assign e X.env :: (assignEach es X.env).map (·.2) := by rfl) :
    XGs X S (e :: es) (is ++ js) (gsCons g h) := PGs.imp (pgs_cons h1 h2 hs) fun vs σ H Q q => by
  obtain ⟨F, ρ, ds, R, D, P⟩ := q
  cases ds with
  | nil => exact P.elim
  | cons d r =>
    cases D with
    | cons D1 D2 =>
      have P : (match (g d ρ).bind fun ρ1 => h r ρ1 with
        | some ρ' => ∀ F' σ' H', Ext (Own ρ σ) F H (Own ρ' σ') F' H' → Rs S F' ρ' σ' H' → gRel (is ++ js) σ σ' → Q σ' H'
        | none => False) := P
      refine ⟨_, _, rfl, F, ρ, d, R, D1, ?_⟩
      cases hg : g d ρ with
      | some ρ1 =>
        rw [hg] at P
        intro F1 σ1 H1 e1 R1 g1
        refine ⟨F1, ρ1, r, R1, rpa_mono e1.fz _ _ D2, ?_⟩
        have P : (match h r ρ1 with
          | some ρ' => ∀ F' σ' H', Ext (Own ρ σ) F H (Own ρ' σ') F' H' → Rs S F' ρ' σ' H' → gRel (is ++ js) σ σ' → Q σ' H'
          | none => False) := P
        cases hh : h r ρ1 with
        | some ρ2 =>
          rw [hh] at P
          exact fun F2 σ2 H2 e2 R2 g2 => P F2 σ2 H2 (e1.trans e2) R2 ⟨g2.1.trans g1.1, fun i hi => (g2.2 i fun z => hi (List.mem_append_right _ z)).trans (g1.2 i fun z => hi (List.mem_append_left _ z))⟩
        | none => rw [hh] at P; exact P.elim
      | none => rw [hg] at P; exact P.elim
def gTp (n : Nat) (h : List PD → Rho → Option Rho) : PD → Rho → Option Rho := fun d ρ => match d with
  | .tuple ds => if ds.length = n then h ds ρ else none
  | _ => none
theorem xg_tup {j n : Nat} {is : List Nat} {h : List PD → Rho → Option Rho} (hc : X.calm = true) (hK : S.K = X.K) (hs : XGs X S es is h) (hn : (assignEach es X.env).length = n := by rfl) (hst : (assignEach es X.env).findIdx? (·.1) = none := by rfl) :
    XG X S (.Tuple es j pos) is (gTp n h) := PG.imp (pg_tup hc hs hn hst) fun v σ H Q q => by
  obtain ⟨F, ρ, d, R, D, P⟩ := q
  cases D with
  | tup h1 h2 =>
    rename_i a xs ds
    have P : (match (if ds.length = n then h ds ρ else none) with
      | some ρ' => ∀ F' σ' H', Ext (Own ρ σ) F H (Own ρ' σ') F' H' → Rs S F' ρ' σ' H' → gRel is σ σ' → Q σ' H'
      | none => False) := P
    by_cases c : ds.length = n
    · rw [if_pos c] at P
      exact ⟨a, xs, rfl, .inl (.inl (R.ex _ _ h1)), by rw [h2.len]; exact c, F, ρ, ds, R, h2, P⟩
    · rw [if_neg c] at P; exact P.elim
  | _ => exact P.elim
/-- target = e, any target of names -/
def mAsg (g : PD → Rho → Option Rho) (m : Rho → Rz Rv) : Rho → Rz Fl := fun ρ => (m ρ).bind fun r ρ1 => match g r.d ρ1 with
  | some ρ2 => .ok .nx ρ2
  | none => .stuck
theorem xs_asg {tg : Expr} {is : List Nat} {g : PD → Rho → Option Rho} {m : Rho → Rz Rv} (he : XE X S e m) (hg : XG X S tg is g) (hs : swapsWithSole [tg] e pos.line X.env = pure false := by rfl) (hw : swappedStores [tg] e X.env = pure none := by rfl)
    (h1 : (assignEach [tg] X.env).map (·.2) = [assign tg X.env] := by rfl) : XS X S (.Assign [tg] e pos) (mAsg g m) := PS.imp (ps_asg he hg hs hw h1) fun D σ H q => by
  obtain ⟨F, ρ, R, P⟩ := q
  refine tE.useS (g := fun d ρ1 => match g d ρ1 with
    | some ρ2 => .ok .nx ρ2
    | none => .stuck) R P fun v d F1 ρ1 H1 x1 R1 D1 P1 => ?_
  refine ⟨F1, ρ1, d, R1, D1, ?_⟩
  cases hg : g d ρ1 with
  | some ρ2 =>
    rw [hg] at P1
    exact fun F2 σ2 H2 e2 R2 _ => P1 F2 σ2 H2 e2 R2
  | none => rw [hg] at P1; exact P1.elim
/-! ### what is walked -/
theorem sqt_mono {K : PySem.W.Frag} {F F' : Hp} {a : Addr} {xs : List V} (e : ∀ a o, F a = some o → F' a = some o) (h : SqT K F a xs) : SqT K F' a xs := by
  rcases h with h | h
  · exact .inl (rd_mono e h)
  · exact .inr h
structure Walk (K : PySem.W.Frag) (F : Hp) (J : It) (ds : List PD) : Prop where
  go : ∀ i H, (∀ a o, F a = some o → H a = some o) → i < ds.length → J.go i H
  stop : ∀ i H, (∀ a o, F a = some o → H a = some o) → ds.length ≤ i → J.stop i H
  yld : ∀ i H x H' d, (∀ a o, F a = some o → H a = some o) → ds[i]? = some d → J.yld i H x H' → (H' = H ∧ Rp K F x d) ∨ ∃ T xs es, H T = none ∧ H' = upd H T (.tup xs) ∧ x = .ref T ∧ d = .tuple es ∧ RpAll K F xs es
def tI (S : Sx) (m : Rho → Rz (List PD)) : TI := fun σ H R => ∃ F ρ, Rs S F ρ σ H ∧ PostE S σ F ρ H (m ρ) fun F' _ H' ds => ∀ J, Walk S.K F' J ds → R J H'
def XI (X : Cx) (S : Sx) (tg e : Expr) (m : Rho → Rz (List PD)) : Prop := PI X tg e (tI S m)
theorem PI.imp {X : Cx} {tg e : Expr} {t t' : TI} (h : PI X tg e t) (hi : ∀ σ H R, t' σ H R → t σ H R) : PI X tg e t' := ⟨fun pn s σ H R I q => h.run pn s σ H R I (hi σ H R q)⟩
variable {tg : Expr} {tpos : Pos}
theorem walk_list {K : PySem.W.Frag} {F : Hp} {a : Addr} {xs : List V} {ds : List PD} (h : SqL K F a xs) (hd : RpAll K F xs ds) : Walk K F (Itl K a) ds where
  go := fun i H up hi => by
    obtain ⟨v, e, _⟩ := hd.at (List.getElem?_eq_getElem hi)
    exact ⟨xs, v, sql_mono up h, e⟩
  stop := fun i H up hi => ⟨xs, sql_mono up h, by rw [hd.len]; exact hi⟩
  yld := fun i H x H' d up hi hy => by
    obtain ⟨rfl, hy⟩ := hy
    obtain ⟨v, e, dv⟩ := hd.at hi
    have e2 := hy xs (sql_mono up h)
    rw [e] at e2
    cases e2
    exact .inl ⟨rfl, dv⟩
theorem walk_tup {K : PySem.W.Frag} {F : Hp} {a : Addr} {xs : List V} {ds : List PD} (h : SqT K F a xs) (hd : RpAll K F xs ds) : Walk K F (Itt K a) ds where
  go := fun i H up hi => by
    obtain ⟨v, e, _⟩ := hd.at (List.getElem?_eq_getElem hi)
    exact ⟨xs, v, sqt_mono up h, e⟩
  stop := fun i H up hi => ⟨xs, sqt_mono up h, by rw [hd.len]; exact hi⟩
  yld := fun i H x H' d up hi hy => by
    obtain ⟨rfl, hy⟩ := hy
    obtain ⟨v, e, dv⟩ := hd.at hi
    have e2 := hy xs (sqt_mono up h)
    rw [e] at e2
    cases e2
    exact .inl ⟨rfl, dv⟩
def signs (z : Str) : List PD := z.cps.toList.map fun c => .str ⟨#[c]⟩
theorem walk_str {K : PySem.W.Frag} {F : Hp} {z : Str} : Walk K F (Its z) (signs z) where
  go := fun i H up hi => by show i < z.cps.size; simpa [signs] using hi
  stop := fun i H up hi => by show z.cps.size ≤ i; simpa [signs] using hi
  yld := fun i H x H' d up hi hy => by
    obtain ⟨rfl, c, hc, rfl⟩ := hy
    have e : z.cps.toList[i]? = some c := by simpa using hc
    simp only [signs, List.getElem?_map, e] at hi
    cases hi
    exact .inl ⟨rfl, .str _⟩
theorem walk_range {K : PySem.W.Frag} {F : Hp} {lo c : Int} {n : Nat} : Walk K F (Itc lo c n) ((List.range n).map fun (i : Nat) => PyData.int (lo + (i : Int) * c)) where
  go := fun i H up hi => by show i < n; simpa using hi
  stop := fun i H up hi => by show n ≤ i; simpa using hi
  yld := fun i H x H' d up hi hy => by
    obtain ⟨rfl, rfl⟩ := hy
    rw [List.getElem?_map] at hi
    cases q : (List.range n)[i]? with
    | none => rw [q] at hi; cases hi
    | some j =>
      rw [q] at hi
      have e : j = i := by
        have := List.getElem?_eq_some_iff.mp q
        obtain ⟨h1, h2⟩ := this
        simpa using h2.symm
      subst e
      cases hi
      exact .inl ⟨rfl, .int _⟩
theorem walk_range1 {K : PySem.W.Frag} {F : Hp} {lo : Int} {n : Nat} : Walk K F (Itr lo n) ((List.range n).map fun (i : Nat) => PyData.int (lo + (i : Int))) where
  go := fun i H up hi => by show i < n; simpa using hi
  stop := fun i H up hi => by show n ≤ i; simpa using hi
  yld := fun i H x H' d up hi hy => by
    obtain ⟨rfl, rfl⟩ := hy
    rw [List.getElem?_map] at hi
    cases q : (List.range n)[i]? with
    | none => rw [q] at hi; cases hi
    | some j =>
      rw [q] at hi
      have e : j = i := by
        obtain ⟨h1, h2⟩ := List.getElem?_eq_some_iff.mp q
        simpa using h2.symm
      subst e
      cases hi
      exact .inl ⟨rfl, .int _⟩
def enumD (n : Nat) : List PD → List PD
  | [] => []
  | d :: r => .tuple [.int n, d] :: enumD (n + 1) r
theorem enumD_len : ∀ (ds : List PD) (n : Nat), (enumD n ds).length = ds.length
  | [], _ => rfl
  | _ :: r, n => congrArg (· + 1) (enumD_len r (n + 1))
theorem enumD_at : ∀ (ds : List PD) (n i : Nat), (enumD n ds)[i]? = ds[i]?.map fun d => PyData.tuple [.int ((n + i : Nat) : Int), d]
  | [], _, _ => by simp [enumD]
  | d :: r, n, 0 => by simp [enumD]
  | d :: r, n, i + 1 => by
    have h := enumD_at r (n + 1) i
    simp only [enumD, List.getElem?_cons_succ]
    rw [h, show n + 1 + i = n + (i + 1) by omega]
theorem walk_enum {K : PySem.W.Frag} {F : Hp} {a : Addr} {xs : List V} {ds : List PD} (h : SqL K F a xs) (hd : RpAll K F xs ds) : Walk K F (Ite K a) (enumD 0 ds) where
  go := fun i H up hi => by
    rw [enumD_len] at hi
    obtain ⟨v, e, _⟩ := hd.at (List.getElem?_eq_getElem hi)
    exact ⟨xs, v, sql_mono up h, e⟩
  stop := fun i H up hi => ⟨xs, sql_mono up h, by rw [hd.len]; rw [enumD_len] at hi; exact hi⟩
  yld := fun i H x H' d up hi hy => by
    obtain ⟨T, y, rfl, hT, rfl, hy⟩ := hy
    rw [enumD_at, Nat.zero_add] at hi
    cases q : ds[i]? with
    | none => rw [q] at hi; cases hi
    | some d0 =>
      rw [q] at hi
      cases hi
      obtain ⟨v, e, dv⟩ := hd.at q
      have e2 := hy xs (sql_mono up h)
      rw [e] at e2
      cases e2
      exact .inr ⟨T, _, _, hT, rfl, rfl, rfl, .cons (.int _) (.cons dv .nil)⟩
def zipD : List PD → List PD → List PD
  | a :: r, b :: s => .tuple [a, b] :: zipD r s
  | _, _ => []
theorem zipD_len : ∀ as bs : List PD, (zipD as bs).length = min as.length bs.length
  | [], _ => by simp [zipD]
  | _ :: _, [] => by simp [zipD]
  | a :: r, b :: s => by simp [zipD, zipD_len r s]
theorem zipD_at : ∀ (as bs : List PD) (i : Nat) (d : PD), (zipD as bs)[i]? = some d → ∃ a b, as[i]? = some a ∧ bs[i]? = some b ∧ d = .tuple [a, b]
  | [], _, _, _, h => by simp [zipD] at h
  | _ :: _, [], _, _, h => by simp [zipD] at h
  | a :: r, b :: s, 0, d, h => by simp [zipD] at h; exact ⟨a, b, rfl, rfl, h.symm⟩
  | a :: r, b :: s, i + 1, d, h => by
    have h' : (zipD r s)[i]? = some d := by simpa [zipD] using h
    simpa using zipD_at r s i d h'
theorem walk_zip {K : PySem.W.Frag} {F : Hp} {a b : Addr} {xs ys : List V} {ds es : List PD} (h : SqL K F a xs) (hd : RpAll K F xs ds) (h' : SqL K F b ys) (hd' : RpAll K F ys es) : Walk K F (Itz K a b) (zipD ds es) where
  go := fun i H up hi => by
    rw [zipD_len] at hi
    obtain ⟨v, e, _⟩ := hd.at (List.getElem?_eq_getElem (show i < ds.length by omega))
    obtain ⟨v', e', _⟩ := hd'.at (List.getElem?_eq_getElem (show i < es.length by omega))
    exact ⟨xs, ys, v, v', sql_mono up h, sql_mono up h', e, e'⟩
  stop := fun i H up hi => ⟨xs, ys, sql_mono up h, sql_mono up h', by rw [hd.len, hd'.len]; rw [zipD_len] at hi; omega⟩
  yld := fun i H x H' d up hi hy => by
    obtain ⟨T, y, z, rfl, hT, rfl, hy, hz⟩ := hy
    obtain ⟨p, q, hp, hq, rfl⟩ := zipD_at _ _ _ _ hi
    obtain ⟨v, e, dv⟩ := hd.at hp
    obtain ⟨v', e', dv'⟩ := hd'.at hq
    have e2 := hy xs (sql_mono up h)
    have e3 := hz ys (sql_mono up h')
    rw [e] at e2
    rw [e'] at e3
    cases e2
    cases e3
    exact .inr ⟨T, _, _, hT, rfl, rfl, rfl, .cons dv (.cons dv' .nil)⟩
/-- the items of a list, a tuple, a text, the script -/
def itemsOf : PD → Option (List PD)
  | .list ds => some ds
  | .tuple ds => some ds
  | .str z => some (signs z)
  | .dict [(.none, .list ds)] => some ds
  | _ => none
def mItems (m : Rho → Rz Rv) : Rho → Rz (List PD) := fun ρ => (m ρ).bind fun r ρ1 => match itemsOf r.d with
  | some ds => .ok ds ρ1
  | none => .stuck
theorem xi_any (o : Okx X S k) {m : Rho → Rz Rv} (h : XE X S e m) : XI X S tg e (mItems m) := ⟨fun pn s σ H R I q => by
  obtain ⟨F, ρ, Rr, P⟩ := q
  unfold mItems at P
  cases hm : m ρ with
  | stuck => rw [hm] at P; exact P.elim
  | exc c f ρ' =>
    rw [hm] at P
    exact (pi_list (tg := tg) h).run pn s σ H R I ⟨F, ρ, Rr, by rw [hm]; exact P⟩
  | ok r ρ' =>
    rw [hm] at P
    have P : PostE S σ F ρ H (match itemsOf r.d with
      | some ds => .ok ds ρ'
      | none => .stuck) fun F' _ H' ds => ∀ J, Walk S.K F' J ds → R J H' := P
    have go : ∀ Q : VK, (∀ v F1 H1, Ext (Own ρ σ) F H (Own ρ' σ) F1 H1 → Rs S F1 ρ' σ H1 → Rp S.K F1 v r.d → Q v H1) → tE S m σ H Q := fun Q go => ⟨F, ρ, Rr, by
      rw [hm]
      intro F1 H1 e1 R1 v hv
      obtain ⟨F2, e2, R2, d2⟩ := R1.freeze e1 hv
      exact go v F2 H1 e2 R2 d2⟩
    cases hd : r.d with
    | list ds =>
      rw [hd] at P
      refine (pi_list (tg := tg) h).run pn s σ H R I (go _ fun v F1 H1 e1 R1 D1 => ?_)
      rw [hd] at D1
      cases D1 with
      | lst h1 h2 => exact ⟨_, rfl, ⟨_, .inl (.inl (R1.ex _ _ h1))⟩, P F1 H1 e1 R1 _ (o.hK ▸ walk_list (.inl (.inl h1)) h2)⟩
    | tuple ds =>
      rw [hd] at P
      refine (pi_tup (tg := tg) h).run pn s σ H R I (go _ fun v F1 H1 e1 R1 D1 => ?_)
      rw [hd] at D1
      cases D1 with
      | tup h1 h2 => exact ⟨_, rfl, ⟨_, .inl (.inl (R1.ex _ _ h1))⟩, P F1 H1 e1 R1 _ (o.hK ▸ walk_tup (.inl (.inl h1)) h2)⟩
    | str z =>
      rw [hd] at P
      refine (pi_str (tg := tg) h).run pn s σ H R I (go _ fun v F1 H1 e1 R1 D1 => ?_)
      rw [hd] at D1
      cases D1
      exact ⟨z, rfl, P F1 H1 e1 R1 _ walk_str⟩
    | dict kvs =>
      rw [hd] at P
      refine (pi_list (tg := tg) h).run pn s σ H R I (go _ fun v F1 H1 e1 R1 D1 => ?_)
      rw [hd] at D1
      cases D1 with
      | @scr a ns h1 => exact ⟨_, rfl, ⟨_, o.hK ▸ sql_mono R1.ex h1⟩, P F1 H1 e1 R1 _ (o.hK ▸ walk_list h1 (RpAll.ofInts ns))⟩
      | dct h1 => exact (show False from P).elim
    | none => rw [hd] at P; exact (show False from P).elim
    | bool b => rw [hd] at P; exact (show False from P).elim
    | int i => rw [hd] at P; exact (show False from P).elim⟩
/-! ### range, enumerate, zip -/
def rangeD (lo : Int) (n : Nat) : List PD := (List.range n).map fun (i : Nat) => PyData.int (lo + (i : Int))
def rangeC (lo c : Int) (n : Nat) : List PD := (List.range n).map fun (i : Nat) => PyData.int (lo + (i : Int) * c)
def big62 (i : Int) : Bool := decide (-(2 ^ 62) ≤ i) && decide (i < 2 ^ 62)
theorem big62.ok {i : Int} (h : big62 i = true) : -(2 ^ 62) ≤ i ∧ i < 2 ^ 62 := by
  unfold big62 at h
  simpa using h
def gRange1 : List PD → Option (List PD)
  | [.int j] => if big62 j = true then some (rangeD 0 j.toNat) else none
  | _ => none
def gRange2 : List PD → Option (List PD)
  | [.int i, .int j] => if (big62 i && big62 j) = true then some (rangeD i (j - i).toNat) else none
  | _ => none
def gRange3 : List PD → Option (List PD)
  | [.int i, .int j, .int c] => if (big62 i && big62 j && decide (c = -1)) = true then some (rangeC i (-1) (i - j).toNat) else none
  | _ => none
def gEnum : List PD → Option (List PD)
  | [.list ds] => some (enumD 0 ds)
  | _ => none
def gZip : List PD → Option (List PD)
  | [.list ds, .list es] => some (zipD ds es)
  | _ => none
def mG (g : List PD → Option (List PD)) (m : Rho → Rz (List PD)) : Rho → Rz (List PD) := fun ρ => (m ρ).bind fun ds ρ1 => match g ds with
  | some r => .ok r ρ1
  | none => .stuck
variable {a b c : Expr} {m : Rho → Rz (List PD)}
theorem RpAll.three {K : PySem.W.Frag} {F : Hp} {vs : List V} {c d e : PD} (h : RpAll K F vs [c, d, e]) : ∃ u v w, vs = [u, v, w] ∧ Rp K F u c ∧ Rp K F v d ∧ Rp K F w e := by
  cases h with
  | cons a t =>
    obtain ⟨v, w, rfl, h1, h2⟩ := t.two
    exact ⟨_, _, _, rfl, a, h1, h2⟩
theorem mG.use {g : List PD → Option (List PD)} {σ : L2.St} {H : Hp} {R : It → Hp → Prop} (q : tI S (mG g m) σ H R) {T : List V → Hp → Prop}
    (go : ∀ F1 H1 vs ds z, (∀ a o, F1 a = some o → H1 a = some o) → RpAll S.K F1 vs ds → g ds = some z → (∀ J, Walk S.K F1 J z → R J H1) → T vs H1) : tA S m σ H T := by
  obtain ⟨F, ρ, Rr, P⟩ := q
  refine ⟨F, ρ, Rr, PostE.mono (PostE.bind P) fun F1 ρ1 H1 ds e1 R1 P1 vs hv => ?_⟩
  have P2 := P1 F1 e1
  cases hz : g ds with
  | none => rw [hz] at P2; exact P2.elim
  | some z =>
    rw [hz] at P2
    exact go F1 H1 vs ds z R1.ex hv hz (PostE.ok P2 R1)
theorem xi_range1 (o : Okx X S k) (hm : S.mg "range" = none) (ha : XA X S [a] m) (hg : Gl X "range" := by rfl) (hs : starEach [a] X.env = [(false, eval a X.env)] := by rfl) : XI X S tg (.Call (.Name "range" p) [a] [] pos) (mG gRange1 m) :=
  PI.imp (pi_range1 hg (o.hM ▸ hm) ha hs) fun σ H R q => mG.use q fun F1 H1 vs ds z up hv hz w => by
    unfold gRange1 at hz
    split at hz
    · split at hz
      · rename_i j c
        cases hz
        obtain ⟨v, rfl, hd⟩ := hv.one
        cases hd
        exact ⟨j, rfl, (big62.ok c).1, (big62.ok c).2, w _ walk_range1⟩
      · cases hz
    · cases hz
theorem xi_range2 (o : Okx X S k) (hm : S.mg "range" = none) (ha : XA X S [a, b] m) (hg : Gl X "range" := by rfl) (hs : starEach [a, b] X.env = [(false, eval a X.env), (false, eval b X.env)] := by rfl) (hs2 : starEach [b] X.env = [(false, eval b X.env)] := by rfl) :
    XI X S tg (.Call (.Name "range" p) [a, b] [] pos) (mG gRange2 m) :=
  PI.imp (pi_range2 hg (o.hM ▸ hm) ha hs hs2) fun σ H R q => mG.use q fun F1 H1 vs ds z up hv hz w => by
    unfold gRange2 at hz
    split at hz
    · split at hz
      · rename_i i j c
        cases hz
        obtain ⟨u, v, rfl, h1, h2⟩ := hv.two
        cases h1
        cases h2
        have c' := Bool.and_eq_true_iff.mp c
        exact ⟨i, j, rfl, ⟨(big62.ok c'.1).1, (big62.ok c'.1).2, (big62.ok c'.2).1, (big62.ok c'.2).2⟩, w _ walk_range1⟩
      · cases hz
    · cases hz
theorem xi_range3 (o : Okx X S k) (hm : S.mg "range" = none) (ha : XA X S [a, b, c] m) (hg : Gl X "range" := by rfl) (hs : starEach [a, b, c] X.env = (false, eval a X.env) :: starEach [b, c] X.env := by rfl) (npl : (backTo pos (starEach [b, c] X.env)).any (·.1) = false := by rfl) :
    XI X S tg (.Call (.Name "range" p) [a, b, c] [] pos) (mG gRange3 m) :=
  PI.imp (pi_range3 hg (o.hM ▸ hm) ha hs npl) fun σ H R q => mG.use q fun F1 H1 vs ds z up hv hz w => by
    unfold gRange3 at hz
    split at hz
    · split at hz
      · rename_i i j c cc
        cases hz
        obtain ⟨u, v, x, rfl, h1, h2, h3⟩ := hv.three
        cases h1
        cases h2
        cases h3
        simp only [Bool.and_eq_true, decide_eq_true_eq] at cc
        obtain ⟨⟨c1, c2⟩, rfl⟩ := cc
        exact ⟨i, j, -1, _, rfl, RgC.neg (big62.ok c1).1 (big62.ok c1).2 (big62.ok c2).1 (big62.ok c2).2, w _ walk_range⟩
      · cases hz
    · cases hz
theorem xi_enum (o : Okx X S k) {kk : Nat} (hm : S.mg "enumerate" = none) (ha : XA X S [a] m) (hg : Gl X "enumerate" := by rfl) (hs : starEach [a] X.env = [(false, eval a X.env)] := by rfl) : XI X S (.Tuple es kk tpos) (.Call (.Name "enumerate" p) [a] [] pos) (mG gEnum m) :=
  PI.imp (pi_enum hg (o.hM ▸ hm) ha hs) fun σ H R q => mG.use q fun F1 H1 vs ds z up hv hz w => by
    unfold gEnum at hz
    split at hz
    · cases hz
      obtain ⟨v, rfl, hd⟩ := hv.one
      cases hd with
      | lst h1 h2 => exact ⟨_, _, rfl, .inl (.inl (up _ _ h1)), w _ (o.hK ▸ walk_enum (.inl (.inl h1)) h2)⟩
    · cases hz
theorem xi_zip (o : Okx X S k) {kk : Nat} (hm : S.mg "zip" = none) (ha : XA X S [a, b] m) (hg : Gl X "zip" := by rfl) (hs : starEach [a, b] X.env = (false, eval a X.env) :: starEach [b] X.env := by rfl) (npl : (backTo pos (starEach [b] X.env)).any (·.1) = false := by rfl) :
    XI X S (.Tuple es kk tpos) (.Call (.Name "zip" p) [a, b] [] pos) (mG gZip m) :=
  PI.imp (pi_zip hg (o.hM ▸ hm) ha hs npl) fun σ H R q => mG.use q fun F1 H1 vs ds z up hv hz w => by
    unfold gZip at hz
    split at hz
    · cases hz
      obtain ⟨u, v, rfl, d1, d2⟩ := hv.two
      cases d1 with
      | lst h1 h2 =>
        cases d2 with
        | lst h3 h4 => exact ⟨_, _, _, _, rfl, .inl (.inl (up _ _ h1)), .inl (.inl (up _ _ h3)), w _ (o.hK ▸ walk_zip (.inl (.inl h1)) h2 (.inl (.inl h3)) h4)⟩
    · cases hz
end
end Sd
namespace Sd
open PySem L2 PySem.Spec PyProof.Rows
/-- the turns of a for loop -/
def forR (body : PD → Rho → Rz Fl) : List PD → Rho → Rz Fl
  | [], ρ => .ok .nx ρ
  | d :: ds, ρ => (body d ρ).bind fun fl ρ1 => match fl with
    | .nx => forR body ds ρ1
    | .ct => forR body ds ρ1
    | .bk => .ok .nx ρ1
    | .rt r => .ok (.rt r) ρ1
def turnF (g : PD → Rho → Option Rho) (mb : Rho → Rz Fl) : PD → Rho → Rz Fl := fun d ρ => match g d ρ with
  | some ρ' => mb ρ'
  | none => .stuck
def mFor (mi : Rho → Rz (List PD)) (g : PD → Rho → Option Rho) (mb : Rho → Rz Fl) : Rho → Rz Fl := fun ρ => (mi ρ).bind fun ds ρ1 => forR (turnF g mb) ds ρ1
/-- a while loop: fuel that never ends -/
def whR (c : Rho → Rz Bool) (b : Rho → Rz Fl) : Nat → Rho → Rz Fl
  | 0, _ => .stuck
  | n + 1, ρ => (c ρ).bind fun t ρ1 => if t = true then (b ρ1).bind fun fl ρ2 => (match fl with
      | .nx => whR c b n ρ2
      | .ct => whR c b n ρ2
      | .bk => .ok .nx ρ2
      | .rt r => .ok (.rt r) ρ2) else .ok .nx ρ1
section
variable {X : Cx} {S : Sx} {k : Nat} {tg iter : Expr} {body : List Stmt} {pos : Pos} {is : List Nat} {g : PD → Rho → Option Rho} {mi : Rho → Rz (List PD)} {mb : Rho → Rz Fl}
/-- a new tuple goes into the frozen part -/
theorem Rs.withTup {F : Hp} {ρ : Rho} {σ : L2.St} {H : Hp} {T : Addr} {xs : List V} {es : List PD} (R : Rs S F ρ σ H) (hT : H T = none) (ha : RpAll S.K F xs es) :
    ∃ F', Ext (Own ρ σ) F H (Own ρ σ) F' (upd H T (.tup xs)) ∧ Rs S F' ρ σ (upd H T (.tup xs)) ∧ Rp S.K F' (.ref T) (.tuple es) := by
  have key := Rs.newT (Q := fun v H' => ∃ F', Ext (Own ρ σ) F H (Own ρ σ) F' H' ∧ Rs S F' ρ σ H' ∧ Rp S.K F' v (.tuple es)) R hT ha fun F' H' v e R' hv => ⟨F', e, R', hv⟩
  exact key
theorem xs_for (o : Okx X S k) (hi : XI X S tg iter mi) (hg : XG X S tg is g) (hb : XSs X S body mb) (hs : ∀ x, foldedSetIterable iter X.env x = pure x := by intro _; rfl) : XS X S (.For tg iter body [] pos) (mFor mi g mb) :=
  PS.imp (ps_for o.po o.calm hi hg hb hs) fun D σ H q => by
    obtain ⟨F, ρ, R, P⟩ := q
    refine ⟨F, ρ, R, PostE.mono (PostS.bindE P) fun F1 ρ1 H1 ds e1 R1 P1 J w => ?_⟩
    have P2 := P1 F1 e1
    refine ⟨fun i m σ' H' => m = ds.length - i ∧ i ≤ ds.length ∧ ∃ F' ρ', (∀ a o, F1 a = some o → F' a = some o) ∧ Rs S F' ρ' σ' H' ∧ PostS S F' ρ' σ' H' (forR (turnF g mb) (ds.drop i) ρ') D,
      ⟨ds.length, rfl, Nat.zero_le _, F1, ρ1, fun _ _ h => h, R1, P2⟩, ?_⟩
    rintro i m σ' H' ⟨rfl, hle, F', ρ', up, R', P'⟩
    have upH : ∀ a o, F1 a = some o → H' a = some o := fun a o h => R'.ex a o (up a o h)
    by_cases hlt : i < ds.length
    · refine .inr ⟨w.go i H' upH hlt, fun σ2 H2 => (∃ F2 ρ2, (∀ a o, F1 a = some o → F2 a = some o) ∧ Rs S F2 ρ2 σ2 H2 ∧ PostS S F2 ρ2 σ2 H2 (forR (turnF g mb) (ds.drop (i + 1)) ρ2) D), fun σ2 H2 h => ⟨ds.length - (i + 1), by omega, rfl, hlt, h⟩, fun x H3 hy => ?_⟩
      have hd : ds[i]? = some ds[i] := List.getElem?_eq_getElem hlt
      rw [List.drop_eq_getElem_cons hlt] at P'
      -- the item, read in the frozen part
      have item : ∃ F3, Ext (Own ρ' σ') F' H' (Own ρ' σ') F3 H3 ∧ Rs S F3 ρ' σ' H3 ∧ Rp S.K F3 x ds[i] := by
        rcases w.yld i H' x H3 _ upH hd hy with ⟨rfl, hx⟩ | ⟨T, xs, es, hT, rfl, rfl, hds, ha⟩
        · exact ⟨F', Ext.refl, R', rp_mono up _ _ hx⟩
        · rw [hds]
          exact R'.withTup hT (rpa_mono up _ _ ha)
      obtain ⟨F3, e3, R3, D3⟩ := item
      refine ⟨F3, ρ', ds[i], R3, D3, ?_⟩
      have P3 : PostS S F3 ρ' σ' H3 ((turnF g mb ds[i] ρ').bind fun fl ρ1 => match fl with
        | .nx => forR (turnF g mb) (ds.drop (i + 1)) ρ1
        | .ct => forR (turnF g mb) (ds.drop (i + 1)) ρ1
        | .bk => .ok .nx ρ1
        | .rt r => .ok (.rt r) ρ1) D := PostS.from P' e3
      cases hgv : g ds[i] ρ' with
      | none =>
        have et : turnF g mb ds[i] ρ' = .stuck := by unfold turnF; rw [hgv]
        rw [et] at P3
        exact P3.elim
      | some ρ4 =>
        have et : turnF g mb ds[i] ρ' = mb ρ4 := by unfold turnF; rw [hgv]
        rw [et] at P3
        intro F4 σ4 H4 e4 R4 _
        refine ⟨F4, ρ4, R4, ?_⟩
        have P4 := PostS.from P3 e4
        cases hm : mb ρ4 with
        | stuck => rw [hm] at P4; exact P4
        | exc c f ρ5 => rw [hm] at P4; exact P4
        | ok fl ρ5 =>
          rw [hm] at P4
          intro F5 σ5 H5 e5 R5
          have up5 : ∀ a o, F1 a = some o → F5 a = some o := fun a o h => e5.fz a o (e4.fz a o (e3.fz a o (up a o h)))
          cases fl with
          | nx => exact ⟨F5, ρ5, up5, R5, PostS.from (show PostS S F4 ρ4 σ4 H4 (forR (turnF g mb) (ds.drop (i + 1)) ρ5) D from P4) e5⟩
          | ct => exact ⟨F5, ρ5, up5, R5, PostS.from (show PostS S F4 ρ4 σ4 H4 (forR (turnF g mb) (ds.drop (i + 1)) ρ5) D from P4) e5⟩
          | bk => exact P4 F5 σ5 H5 e5 R5
          | rt r => exact P4 F5 σ5 H5 e5 R5
    · have e : i = ds.length := by omega
      subst e
      rw [List.drop_length] at P'
      exact .inl ⟨w.stop _ H' upH (Nat.le_refl _), PostS.ok P' R'⟩
theorem xs_while (o : Okx X S k) (fuel : Nat) {c : Expr} {mc : Rho → Rz Bool} (hc : XT X S c mc) (hb : XSs X S body mb) : XS X S (.While c body [] pos) (whR mc mb fuel) :=
  PS.imp (ps_while o.po hc hb) fun D σ H q => by
    obtain ⟨F, ρ, R, P⟩ := q
    refine ⟨fun n σ' H' => ∃ F' ρ', Rs S F' ρ' σ' H' ∧ PostS S F' ρ' σ' H' (whR mc mb n ρ') D, ⟨fuel, F, ρ, R, P⟩, ?_⟩
    rintro n σ' H' ⟨F', ρ', R', P'⟩
    cases n with
    | zero => exact P'.elim
    | succ n =>
      refine ⟨F', ρ', R', PostE.mono (PostS.bindE P') fun F1 ρ1 H1 t e1 R1 P1 => ?_⟩
      have P2 := P1 F1 e1
      cases t with
      | false => exact PostS.ok P2 R1
      | true =>
        refine ⟨fun σ2 H2 => ∃ F2 ρ2, Rs S F2 ρ2 σ2 H2 ∧ PostS S F2 ρ2 σ2 H2 (whR mc mb n ρ2) D, fun σ2 H2 h => ⟨n, Nat.lt_succ_self n, h⟩, F1, ρ1, R1, ?_⟩
        have P3 : PostS S F1 ρ1 σ' H1 ((mb ρ1).bind fun fl ρ2 => match fl with
          | .nx => whR mc mb n ρ2
          | .ct => whR mc mb n ρ2
          | .bk => .ok .nx ρ2
          | .rt r => .ok (.rt r) ρ2) D := P2
        cases hm : mb ρ1 with
        | stuck => rw [hm] at P3; exact P3
        | exc c f ρ5 => rw [hm] at P3; exact P3
        | ok fl ρ5 =>
          rw [hm] at P3
          intro F5 σ5 H5 e5 R5
          cases fl with
          | nx => exact ⟨F5, ρ5, R5, PostS.from (show PostS S F1 ρ1 σ' H1 (whR mc mb n ρ5) D from P3) e5⟩
          | ct => exact ⟨F5, ρ5, R5, PostS.from (show PostS S F1 ρ1 σ' H1 (whR mc mb n ρ5) D from P3) e5⟩
          | bk => exact P3 F5 σ5 H5 e5 R5
          | rt r => exact P3 F5 σ5 H5 e5 R5
/-! ### comprehensions -/
def wipeR (ρ : Rho) : List Nat → Rho
  | [] => ρ
  | v :: vs => (wipeR ρ vs).set v .no
def backR (ρ0 ρ : Rho) : List Nat → Rho
  | [] => ρ
  | v :: vs => (backR ρ0 ρ vs).set v (match ρ0[v]? with
    | some (.fr d) => .fr d
    | _ => .no)
def lcR (turn : PD → Rho → Rz (Option PD)) : List PD → List PD → Rho → Rz (List PD)
  | [], acc, ρ => .ok acc ρ
  | d :: ds, acc, ρ => (turn d ρ).bind fun o ρ1 => lcR turn ds (acc ++ o.toList) ρ1
def turnL (g : PD → Rho → Option Rho) (mt : Rho → Rz Bool) (me : Rho → Rz Rv) (vs : List Nat) : PD → Rho → Rz (Option PD) := fun d ρ => match g d ρ with
  | none => .stuck
  | some ρ1 => (mt ρ1).bind fun b ρ2 => if b = true then (me ρ2).bind fun r ρ3 => .ok (some r.d) (wipeR ρ3 vs) else .ok none (wipeR ρ2 vs)
/-- nothing is raised here -/
def Rz.calm {α : Type} (r : Rz α) : Rz α := match r with
  | .ok a ρ => .ok a ρ
  | _ => .stuck
def mLc (mi : Rho → Rz (List PD)) (g : PD → Rho → Option Rho) (mt : Rho → Rz Bool) (me : Rho → Rz Rv) (vs : List Nat) : Rho → Rz Rv := fun ρ => (mi ρ).bind fun ds ρ1 => if okLen ds.length = true then
    (lcR (turnL g mt me vs) ds [] (wipeR ρ1 vs)).calm.bind fun acc ρ2 => .ok (.ow acc) (backR ρ1 ρ2 vs)
  else .stuck
variable {ρ0 : Rho}
theorem wipeR_len (ρ : Rho) : ∀ vs, (wipeR ρ vs).length = ρ.length
  | [] => rfl
  | v :: vs => by unfold wipeR; rw [List.length_set, wipeR_len ρ vs]
theorem backR_len (ρ0 ρ : Rho) : ∀ vs, (backR ρ0 ρ vs).length = ρ.length
  | [] => rfl
  | v :: vs => by unfold backR; rw [List.length_set, backR_len ρ0 ρ vs]
theorem wipeR_at {ρ : Rho} {i : Nat} {c : Cl} (hc : c ≠ .no) : ∀ {vs : List Nat}, (wipeR ρ vs)[i]? = some c → ρ[i]? = some c ∧ i ∉ vs
  | [], h => ⟨h, by simp⟩
  | v :: vs, h => by
    unfold wipeR at h
    by_cases z : v = i
    · subst z
      by_cases hl : v < (wipeR ρ vs).length
      · rw [List.getElem?_set_self hl] at h; exact absurd (Option.some.inj h).symm hc
      · rw [List.getElem?_eq_none (by simpa using hl)] at h; cases h
    · rw [List.getElem?_set_ne z] at h
      obtain ⟨h1, h2⟩ := wipeR_at hc h
      exact ⟨h1, by simp only [List.mem_cons, not_or]; exact ⟨fun e => z e.symm, h2⟩⟩
theorem backR_at {ρ0 ρ : Rho} {i : Nat} {c : Cl} (hc : c ≠ .no) : ∀ {vs : List Nat}, (backR ρ0 ρ vs)[i]? = some c → (i ∉ vs ∧ ρ[i]? = some c) ∨ (i ∈ vs ∧ ∃ d, c = .fr d ∧ ρ0[i]? = some (.fr d))
  | [], h => .inl ⟨by simp, h⟩
  | v :: vs, h => by
    unfold backR at h
    by_cases z : v = i
    · subst z
      by_cases hl : v < (backR ρ0 ρ vs).length
      · rw [List.getElem?_set_self hl] at h
        refine .inr ⟨by simp, ?_⟩
        split at h
        · rename_i d e
          cases h
          exact ⟨d, rfl, e⟩
        · exact absurd (Option.some.inj h).symm hc
      · rw [List.getElem?_eq_none (by simpa using hl)] at h; cases h
    · rw [List.getElem?_set_ne z] at h
      rcases backR_at hc h with ⟨h1, h2⟩ | ⟨h1, h2⟩
      · exact .inl ⟨by simp only [List.mem_cons, not_or]; exact ⟨fun e => z e.symm, h1⟩, h2⟩
      · (exact .inr ⟨List.mem_cons_of_mem _ h1, h2⟩)
theorem wipe_out' {σ : L2.St} {i : Nat} {vs : List Nat} (h : i ∉ vs) : (wipe σ vs)[i]? = σ[i]? := wipe_out h
theorem own_wipe {ρ : Rho} {σ : L2.St} {vs : List Nat} {a : Addr} (h : Own (wipeR ρ vs) (wipe σ vs) a) : Own ρ σ a := by
  obtain ⟨i, ds, h1, h2⟩ := h
  obtain ⟨h3, h4⟩ := wipeR_at (by intro z; cases z) h1
  exact ⟨i, ds, h3, by rw [wipe_out h4] at h2; exact h2⟩
theorem Rs.wipe {F : Hp} {ρ : Rho} {σ : L2.St} {H : Hp} {vs : List Nat} (R : Rs S F ρ σ H) (hJ : ∀ v ∈ vs, v ∉ S.J) : Rs S F (wipeR ρ vs) (wipe σ vs) H where
  ex := R.ex
  len := by rw [wipeR_len, wipe_length]; exact R.len
  fr := fun i d h => by
    obtain ⟨h1, h2⟩ := wipeR_at (by intro z; cases z) h
    rw [wipe_out h2]
    exact R.fr i d h1
  ow := fun i d h => by
    obtain ⟨h1, h2⟩ := wipeR_at (by intro z; cases z) h
    rw [wipe_out h2]
    exact R.ow i d h1
  sep := fun i j di dj p h1 h2 h3 h4 => by
    obtain ⟨a1, a2⟩ := wipeR_at (by intro z; cases z) h1
    obtain ⟨b1, b2⟩ := wipeR_at (by intro z; cases z) h2
    rw [wipe_out a2] at h3
    rw [wipe_out b2] at h4
    exact R.sep i j di dj p a1 b1 h3 h4
  pin := fun j hj => by
    rw [wipe_out fun z => hJ j z hj]
    exact R.pin j hj
  sm := R.sm
/-- the block's slots are wiped: a step within is a step of the whole -/
theorem Rs.rewipe {F : Hp} {ρ : Rho} {σ σ2 : L2.St} {H : Hp} {vs : List Nat} (R : Rs S F ρ σ2 H) (hw : L2.wipe σ2 vs = L2.wipe σ vs) (hJ : ∀ v ∈ vs, v ∉ S.J) : Rs S F (wipeR ρ vs) (L2.wipe σ vs) H := hw ▸ R.wipe hJ
theorem gRel.wipe {is vs : List Nat} {σ σ' : L2.St} (h : gRel is σ σ') (hi : ∀ i ∈ is, i ∈ vs) : L2.wipe σ' vs = L2.wipe σ vs := by
  apply List.ext_getElem?
  intro i
  by_cases z : i ∈ vs
  · have none_at : ∀ (τ : L2.St), (L2.wipe τ vs)[i]? = if i < τ.length then some none else none := fun τ => by
      clear h hi
      induction vs with
      | nil => simp at z
      | cons v vs ih =>
        unfold L2.wipe
        by_cases e : v = i
        · subst e
          by_cases hl : v < τ.length
          · rw [if_pos hl, List.getElem?_set_self (by rw [wipe_length]; exact hl)]
          · rw [if_neg hl, List.getElem?_eq_none (by rw [List.length_set, wipe_length]; omega)]
        · rw [List.getElem?_set_ne e]
          exact ih (by simpa [Ne.symm e] using z)
    rw [none_at, none_at, h.1]
  · rw [wipe_out z, wipe_out z]
    exact h.2 i fun q => z (hi i q)
/-- the new list of a comprehension: in the heap, out of all else's reach -/
structure Acc (S : Sx) (D : Addr) (F : Hp) (O : Addr → Prop) (H : Hp) (ds : List PD) : Prop where
  fF : F D = none
  fO : ¬ O D
  at' : ∃ vs, H D = some (.lst vs) ∧ RpAll S.K F vs ds
theorem Acc.step {D : Addr} {F F' H H' : Hp} {O O' : Addr → Prop} {ds : List PD} (a : Acc S D F O H ds) (e : Ext O F H O' F' H') : Acc S D F' O' H' ds := by
  obtain ⟨vs, h1, h2⟩ := a.at'
  refine ⟨?_, fun z => ?_, vs, e.kp D _ h1 a.fO, rpa_mono e.fz _ _ h2⟩
  · cases q : F' D with
    | none => rfl
    | some o =>
      rcases e.nw D (by rw [q]; simp) with z | z | z
      · exact absurd a.fF z
      · rw [h1] at z; cases z
      · exact absurd z a.fO
  · rcases e.ow D z with z | z
    · exact a.fO z
    · rw [h1] at z; cases z
/-- the new list grows -/
theorem Rs.grow {D : Addr} {F : Hp} {ρ : Rho} {σ : L2.St} {H : Hp} {ds : List PD} {vs' : List V} (R : Rs S F ρ σ H) (a : Acc S D F (Own ρ σ) H ds) : Rs S F ρ σ (upd H D (.lst vs')) := by
  refine ⟨fun b o h => ?_, R.len, R.fr, fun i di h => ?_, R.sep, R.pin, R.sm⟩
  · have z : b ≠ D := fun z => by rw [z, a.fF] at h; cases h
    rw [upd_ne z]
    exact R.ex b o h
  · obtain ⟨p, vs, q1, q2, q3, q4⟩ := R.ow i di h
    have z : p ≠ D := fun z => a.fO ⟨i, di, h, by rw [← z]; exact q1⟩
    exact ⟨p, vs, q1, q2, q3.mono fun o y => by rw [upd_ne z]; exact y, q4⟩
/-- an own list of the block's slots stays out of the way: what is kept is what was one's own ahead -/
def Sx.quiet (S : Sx) : Sx := { S with W := fun _ _ _ _ => False }
theorem Okx.blk {scope : Scope} (o : Okx X S k) (s : Shared) (H : Hp) (C : Addr) (cl : List (Str × Addr)) (fp : List Addr) : Okx (X.blk s H scope (compEnvC scope cl C X.env) fp) S.quiet k :=
  ⟨o.hK, o.hM, o.calm, o.nd, .never, takes0, o.rm, o.gd⟩
theorem Ext.shrink {O O' : Addr → Prop} {F H : Hp} (h : ∀ a, O' a → O a) : Ext O F H O' F H := ⟨fun _ _ q => q, fun _ q => .inl q, fun _ _ q _ => q, fun _ q => q, fun a q => .inl (h a q)⟩
theorem Rs.toQuiet {F : Hp} {ρ : Rho} {σ : L2.St} {H : Hp} (R : Rs S F ρ σ H) : Rs S.quiet F ρ σ H := ⟨R.ex, R.len, R.fr, R.ow, R.sep, R.pin, R.sm⟩
theorem Rs.unquiet {F : Hp} {ρ : Rho} {σ : L2.St} {H : Hp} (R : Rs S.quiet F ρ σ H) : Rs S F ρ σ H := ⟨R.ex, R.len, R.fr, R.ow, R.sep, R.pin, R.sm⟩
theorem Rs.back {F0 F : Hp} {ρ0 ρ : Rho} {σ : L2.St} {H0 H : Hp} {vs : List Nat} (R0 : Rs S F0 ρ0 σ H0) (R : Rs S F ρ (L2.wipe σ vs) H) (up : ∀ a o, F0 a = some o → F a = some o) : Rs S F (backR ρ0 ρ vs) σ H ∧ ∀ a, Own (backR ρ0 ρ vs) σ a → Own ρ (L2.wipe σ vs) a := by
  have ow : ∀ (i : Nat) (ds : List PD), (backR ρ0 ρ vs)[i]? = some (.ow ds) → i ∉ vs ∧ ρ[i]? = some (.ow ds) := fun i ds h => by
    rcases backR_at (by intro z; cases z) h with q | ⟨_, d, z, _⟩
    · exact q
    · cases z
  refine ⟨⟨R.ex, by rw [backR_len, R.len, wipe_length], fun i d h => ?_, fun i ds h => ?_, fun i j di dj p h1 h2 h3 h4 => ?_, R0.pin, R.sm⟩, fun a ⟨i, ds, h1, h2⟩ => ?_⟩
  · rcases backR_at (by intro z; cases z) h with ⟨q1, q2⟩ | ⟨_, d', z, q⟩
    · have r := R.fr i d q2
      rw [wipe_out q1] at r
      exact r
    · cases z
      obtain ⟨v, e1, e2⟩ := R0.fr i d q
      exact ⟨v, e1, rp_mono up _ _ e2⟩
  · obtain ⟨q1, q2⟩ := ow i ds h
    have r := R.ow i ds q2
    rw [wipe_out q1] at r
    exact r
  · obtain ⟨a1, a2⟩ := ow i di h1
    obtain ⟨b1, b2⟩ := ow j dj h2
    exact R.sep i j di dj p a2 b2 (by rw [wipe_out a1]; exact h3) (by rw [wipe_out b1]; exact h4)
  · obtain ⟨q1, q2⟩ := ow i ds h1
    exact ⟨i, ds, q2, by rw [wipe_out q1]; exact h2⟩
theorem lcR_cons {turn : PD → Rho → Rz (Option PD)} {d : PD} {ds acc accF : List PD} {ρ ρF : Rho} (h : lcR turn (d :: ds) acc ρ = .ok accF ρF) : ∃ o ρ1, turn d ρ = .ok o ρ1 ∧ lcR turn ds (acc ++ o.toList) ρ1 = .ok accF ρF := by
  have h : (turn d ρ).bind (fun o ρ1 => lcR turn ds (acc ++ o.toList) ρ1) = .ok accF ρF := h
  cases q : turn d ρ with
  | ok o ρ1 => rw [q] at h; exact ⟨o, ρ1, rfl, h⟩
  | exc c f ρ' => rw [q] at h; cases h
  | stuck => rw [q] at h; cases h
theorem turnL_ok {mt : Rho → Rz Bool} {me : Rho → Rz Rv} {vs : List Nat} {d : PD} {ρ ρ1 : Rho} {o : Option PD} (h : turnL g mt me vs d ρ = .ok o ρ1) :
    ∃ ρa b ρb, g d ρ = some ρa ∧ mt ρa = .ok b ρb ∧ ((b = true ∧ ∃ r ρc, me ρb = .ok r ρc ∧ o = some r.d ∧ ρ1 = wipeR ρc vs) ∨ (b = false ∧ o = none ∧ ρ1 = wipeR ρb vs)) := by
  unfold turnL at h
  cases h1 : g d ρ with
  | none => (rw [h1] at h; cases h)
  | some ρa =>
    rw [h1] at h
    have h : ((mt ρa).bind fun b ρ2 => if b = true then (me ρ2).bind fun r ρ3 => Rz.ok (some r.d) (wipeR ρ3 vs) else Rz.ok none (wipeR ρ2 vs)) = .ok o ρ1 := h
    cases h2 : mt ρa with
    | exc c f ρ' => rw [h2] at h; cases h
    | stuck => rw [h2] at h; cases h
    | ok b ρb =>
      rw [h2] at h
      have h : (if b = true then (me ρb).bind fun r ρ3 => Rz.ok (some r.d) (wipeR ρ3 vs) else Rz.ok none (wipeR ρb vs)) = .ok o ρ1 := h
      refine ⟨ρa, b, ρb, rfl, h2, ?_⟩
      cases b with
      | false =>
        (rw [if_neg Bool.false_ne_true] at h)
        cases h
        exact .inr ⟨rfl, rfl, rfl⟩
      | true =>
        rw [if_pos rfl] at h
        cases h3 : me ρb with
        | exc c f ρ' => rw [h3] at h; cases h
        | stuck => rw [h3] at h; cases h
        | ok r ρc =>
          rw [h3] at h
          cases h
          exact .inl ⟨rfl, r, ρc, rfl, rfl, rfl⟩
theorem lc_sound {vs : List Nat} {mt : Rho → Rz Bool} {me : Rho → Rz Rv} (his : ∀ i ∈ is, i ∈ vs) (hJ : ∀ v ∈ vs, v ∉ S.J) {σ : L2.St} {H : Hp} {Q : VK} (q : tE S (mLc mi g mt me vs) σ H Q) :
    tLc (tI S mi) (tG S.quiet is g) (tT S.quiet mt) (tE S.quiet me) vs σ H Q := by
  obtain ⟨F, ρ, R, P⟩ := q
  refine ⟨F, ρ, R, PostE.mono (PostE.bind P) fun F1 ρ1 H1 ds e1 R1 P1 J w D hD => ?_⟩
  have P2 := P1 F1 e1
  by_cases c : okLen ds.length = true
  · rw [if_pos c] at P2
    have size : ds.length ≤ 1000000 := of_decide_eq_true c
    cases hl : lcR (turnL g mt me vs) ds [] (wipeR ρ1 vs) with
    | exc c f ρ' => rw [hl] at P2; exact P2.elim
    | stuck => rw [hl] at P2; exact P2.elim
    | ok accF ρF =>
      rw [hl] at P2
      have fin : PostE S σ F1 ρ1 H1 (.ok (.ow accF) (backR ρ1 ρF vs)) fun F' ρ' H' r => ∀ v, RvR S (Own ρ σ) H (Own ρ' σ) F' H' v r → Q v H' := P2
      have R1q : Rs S.quiet F1 (wipeR ρ1 vs) (wipe σ vs) H1 := (R1.wipe hJ).toQuiet
      have hF1 : F1 D = none := by
        cases e : F1 D with
        | none => rfl
        | some o => rw [R1.ex D o e] at hD; cases hD
      have hO1 : ¬ Own (wipeR ρ1 vs) (wipe σ vs) D := fun z => by
        obtain ⟨i, di, z1, z2⟩ := z
        obtain ⟨p, us, y1, y2, y3, y4⟩ := R1q.ow i di z1
        rw [y1] at z2
        have : p = D := by injection z2 with z2; injection z2 with z2; injection z2
        rw [this] at y3; exact y3.ne hD
      refine ⟨fun i m H' => m = ds.length - i ∧ i ≤ ds.length ∧ ∃ F' ρ' acc, (∀ a o, F1 a = some o → F' a = some o) ∧ Ext (Own ρ1 σ) F1 H1 (Own ρ' (wipe σ vs)) F' H' ∧ Rs S.quiet F' ρ' (wipe σ vs) H' ∧
          Acc S.quiet D F' (Own ρ' (wipe σ vs)) H' acc ∧ acc.length ≤ i ∧ lcR (turnL g mt me vs) (ds.drop i) acc ρ' = .ok accF ρF,
        ⟨ds.length, rfl, Nat.zero_le _, F1, wipeR ρ1 vs, [], fun _ _ h => h, ?_, ?_, ⟨hF1, hO1, [], upd_same, .nil⟩, Nat.le_refl _, hl⟩, ?_⟩
      · refine ⟨fun _ _ h => h, fun _ h => .inl h, fun a o h _ => ?_, fun a h => ?_, fun a h => .inl (own_wipe h)⟩
        · rw [upd_ne (ne_of_none h hD)]; exact h
        · by_cases z : a = D
          · subst z; rw [upd_same]; simp
          · rw [upd_ne z]; exact h
      · exact (Ext.new (vs := []) R1q hD).2.1
      · rintro i m H' ⟨rfl, hle, F', ρ', acc, up, eX, R', A', hacc, hrun⟩
        have upH : ∀ a o, F1 a = some o → H' a = some o := fun a o h => R'.ex a o (up a o h)
        by_cases hlt : i < ds.length
        · refine .inr ⟨w.go i H' upH hlt, fun H2 => ∃ F2 ρ2 acc2, (∀ a o, F1 a = some o → F2 a = some o) ∧ Ext (Own ρ1 σ) F1 H1 (Own ρ2 (wipe σ vs)) F2 H2 ∧ Rs S.quiet F2 ρ2 (wipe σ vs) H2 ∧
            Acc S.quiet D F2 (Own ρ2 (wipe σ vs)) H2 acc2 ∧ acc2.length ≤ i + 1 ∧ lcR (turnL g mt me vs) (ds.drop (i + 1)) acc2 ρ2 = .ok accF ρF, fun H2 h => ⟨ds.length - (i + 1), by omega, rfl, hlt, h⟩, fun x H3 hy => ?_⟩
          have hd : ds[i]? = some ds[i] := List.getElem?_eq_getElem hlt
          rw [List.drop_eq_getElem_cons hlt] at hrun
          obtain ⟨o, ρn, ht, hrest⟩ := lcR_cons hrun
          obtain ⟨ρa, b, ρb, ga, gb, gc⟩ := turnL_ok ht
          have item : ∃ F3, Ext (Own ρ' (wipe σ vs)) F' H' (Own ρ' (wipe σ vs)) F3 H3 ∧ Rs S.quiet F3 ρ' (wipe σ vs) H3 ∧ Rp S.K F3 x ds[i] := by
            rcases w.yld i H' x H3 _ upH hd hy with ⟨rfl, hx⟩ | ⟨T, xs, es, hT, rfl, rfl, hds, ha⟩
            · exact ⟨F', Ext.refl, R', rp_mono up _ _ hx⟩
            · rw [hds]
              exact R'.withTup hT (rpa_mono up _ _ ha)
          obtain ⟨F3, e3, R3, D3⟩ := item
          refine ⟨F3, ρ', ds[i], R3, D3, ?_⟩
          rw [ga]
          intro F4 σ4 H4 e4 R4 g4
          have hw := g4.wipe his
          rw [show wipe (wipe σ vs) vs = wipe σ vs from (gRel.wipe (is := vs) ⟨by rw [wipe_length], fun i hi => wipe_out hi⟩ fun _ h => h)] at hw
          refine ⟨hw, F4, ρa, R4, ?_⟩
          rw [gb]
          intro F5 H5 e5 R5
          have e35 := (e3.trans e4).trans e5
          rcases gc with ⟨rfl, r, ρc, hme, rfl, rfl⟩ | ⟨rfl, rfl, rfl⟩
          · refine iteT ?_
            refine ⟨F5, ρb, R5, ?_⟩
            rw [hme]
            intro F6 H6 e6 R6 v hv
            obtain ⟨F7, e7, R7, D7⟩ := R6.freeze e6 hv
            have e37 := e35.trans e7
            have A7 := A'.step e37
            obtain ⟨us, u1, u2⟩ := A7.at'
            have total := eX.trans e37
            have ow7 : ∀ a, Own (wipeR ρc vs) (wipe σ vs) a → Own ρc σ4 a := fun a h => own_wipe (hw ▸ h)
            refine ⟨us, u1, ?_, F7, wipeR ρc vs, acc ++ [r.d], fun a o h => e37.fz a o (up a o h), ?_, (R7.rewipe hw hJ).grow ⟨A7.fF, fun z => A7.fO (ow7 _ z), us, u1, u2⟩, ⟨A7.fF, fun z => A7.fO (ow7 _ z), us ++ [v], upd_same, u2.app (.cons D7 .nil)⟩, ?_, hrest⟩
            · rw [u2.len]
              exact Nat.lt_of_le_of_lt (Nat.le_trans hacc hle) (Nat.lt_of_le_of_lt size (by decide))
            · refine ⟨total.fz, total.nw, fun a o h n => ?_, fun a h => ?_, fun a h => total.ow a (ow7 a h)⟩
              · rw [upd_ne (ne_of_none h hD)]
                exact total.kp a o h n
              · by_cases z : a = D
                · subst z; rw [upd_same]; simp
                · rw [upd_ne z]; exact total.st a h
            · rw [List.length_append]
              exact Nat.succ_le_succ hacc
          · refine iteF ?_
            have A7 := A'.step e35
            have total := eX.trans e35
            have ow7 : ∀ a, Own (wipeR ρb vs) (wipe σ vs) a → Own ρb σ4 a := fun a h => own_wipe (hw ▸ h)
            have hrest' : lcR (turnL g mt me vs) (ds.drop (i + 1)) acc (wipeR ρb vs) = .ok accF ρF := by
              simpa using hrest
            exact ⟨F5, wipeR ρb vs, acc, fun a o h => e35.fz a o (up a o h), ⟨total.fz, total.nw, total.kp, total.st, fun a h => total.ow a (ow7 a h)⟩, R5.rewipe hw hJ, ⟨A7.fF, fun z => A7.fO (ow7 _ z), A7.at'⟩, Nat.le_succ_of_le hacc, hrest'⟩
        · have e : i = ds.length := by omega
          subst e
          rw [List.drop_length] at hrun
          have hrun : Rz.ok acc ρ' = .ok accF ρF := hrun
          cases hrun
          obtain ⟨Rb, hb⟩ := R1.back R'.unquiet up
          obtain ⟨us, u1, u2⟩ := A'.at'
          refine .inl ⟨w.stop _ H' upH (Nat.le_refl _), fin F' H' ⟨eX.fz, eX.nw, eX.kp, eX.st, fun a h => eX.ow a (hb a h)⟩ Rb (.ref D) ⟨D, us, rfl, A'.fF, u1, u2, fun z => A'.fO (hb _ z), .inl (e1.back hD)⟩⟩
  · rw [if_neg c] at P2; exact P2.elim
def XTs (X : Cx) (S : Sx) (ifs : List Expr) (m : Rho → Rz Bool) : Prop := PTs X ifs (tT S m)
def mYes : Rho → Rz Bool := fun ρ => .ok true ρ
theorem xts_nil : XTs X S [] mYes := ⟨fun pn s σ H Q I h => pts_nil.run pn s σ H Q I (by
  obtain ⟨F, ρ, R, P⟩ := h
  exact PostE.ok P R)⟩
theorem xts_one {c : Expr} {m : Rho → Rz Bool} (h : XT X S c m) : XTs X S [c] m := pts_one h
variable {elt : Expr} {ifs : List Expr} {scope : Scope} {own : List (Str × Nat)} {mt : Rho → Rz Bool} {me : Rho → Rz Rv}
theorem xe_lc (o : Okx X S k) (hi : XI X S tg iter mi) (ok : BlkOk X.N X.env.scope scope own)
    (hg : ∀ (s : Shared) (H : Hp) (C : Addr) (cl : List (Str × Addr)) (fp : List Addr), XG (X.blk s H scope (compEnvC scope cl C X.env) fp) S.quiet tg is g)
    (ht : ∀ (s : Shared) (H : Hp) (C : Addr) (cl : List (Str × Addr)) (fp : List Addr), Okx (X.blk s H scope (compEnvC scope cl C X.env) fp) S.quiet k → XTs (X.blk s H scope (compEnvC scope cl C X.env) fp) S.quiet ifs mt)
    (he : ∀ (s : Shared) (H : Hp) (C : Addr) (cl : List (Str × Addr)) (fp : List Addr), Okx (X.blk s H scope (compEnvC scope cl C X.env) fp) S.quiet k → XE (X.blk s H scope (compEnvC scope cl C X.env) fp) S.quiet elt me)
    (his : ∀ i ∈ is, i ∈ own.map (·.2) := by decide) (hJ : ∀ v ∈ own.map (·.2), v ∉ S.J := by first | exact njs rfl | decide) (hs : ∀ x, foldedSetIterable iter X.env x = pure x := by intro _; rfl) :
    XE X S (.ListComp elt [⟨tg, iter, ifs, 0⟩] scope pos) (mLc mi g mt me (own.map (·.2))) :=
  PE.imp (pe_lc o.calm o.nd hi ok hg (fun s H C cl fp => ht s H C cl fp (o.blk s H C cl fp)) (fun s H C cl fp => he s H C cl fp (o.blk s H C cl fp)) hs) fun σ H Q q => lc_sound his hJ q
/-- y = [..] -/
theorem xs_setLc (o : Okx X S k) (i : Nat) {y : Str} {py spos : Pos} (hsw : swapsWith (.ListComp elt [⟨tg, iter, ifs, 0⟩] scope pos) (some (.Name y py)) spos.line X.env = pure true) (hi : XI X S tg iter mi) (ok : BlkOk X.N X.env.scope scope own)
    (hg : ∀ (s : Shared) (H : Hp) (C : Addr) (cl : List (Str × Addr)) (fp : List Addr), XG (X.blk s H scope (compEnvC scope cl C X.env) fp) S.quiet tg is g)
    (ht : ∀ (s : Shared) (H : Hp) (C : Addr) (cl : List (Str × Addr)) (fp : List Addr), Okx (X.blk s H scope (compEnvC scope cl C X.env) fp) S.quiet k → XTs (X.blk s H scope (compEnvC scope cl C X.env) fp) S.quiet ifs mt)
    (he : ∀ (s : Shared) (H : Hp) (C : Addr) (cl : List (Str × Addr)) (fp : List Addr), Okx (X.blk s H scope (compEnvC scope cl C X.env) fp) S.quiet k → XE (X.blk s H scope (compEnvC scope cl C X.env) fp) S.quiet elt me)
    (his : ∀ i ∈ is, i ∈ own.map (·.2) := by decide) (hJ : ∀ v ∈ own.map (·.2), v ∉ S.J := by first | exact njs rfl | decide) (hiJ : i ∉ S.J := by first | exact nj rfl | decide) (hy : X.N[i]? = some y := by rfl) (hyl : X.env.scope.names.lookup y = some .local := by rfl) (hs : ∀ x, foldedSetIterable iter X.env x = pure x := by intro _; rfl) (hT : S.T i = none := by first | rfl | assumption) :
    XS X S (.Assign [.Name y py] (.ListComp elt [⟨tg, iter, ifs, 0⟩] scope pos) spos) (mSet i (mLc mi g mt me (own.map (·.2)))) :=
  PS.imp (ps_setLc o.calm o.nd hy hyl hsw hi ok hg (fun s H C cl fp => ht s H C cl fp (o.blk s H C cl fp)) (fun s H C cl fp => he s H C cl fp (o.blk s H C cl fp)) hs) fun D σ H q => by
    obtain ⟨F, ρ, R, P⟩ := q
    refine lc_sound his hJ ?_
    refine tE.keepS (g := fun r ρ1 => if i < ρ1.length then .ok .nx (ρ1.set i r.cl) else .stuck) R P fun v r F1 ρ1 H1 e1 R1 hv _ P1 => ?_
    by_cases hl : i < ρ1.length
    · rw [if_pos hl] at P1
      obtain ⟨R2, h2⟩ := R1.setSlot hv hl hiJ (.inl hT)
      exact P1 F1 _ H1 (e1.setSlot h2) R2
    · rw [if_neg hl] at P1; exact P1.elim
end
end Sd
namespace Sd
open PySem L2 PySem.Spec PyProof.Rows
/-! ### what a def promises, where repr may be asked -/
structure FnG (P : Program) (w : World) (K : PySem.W.Frag) (mg : Str → Option Value) (base : Heap) (k : Nat) (f : Addr) (fd : FuncData) (ps : List Str) (sp : Sp) : Prop where
  len : ∀ us H Q E, sp us H Q E → us.length = ps.length
  run : ∀ (A : Around) (outer : List Env) (s : Shared) (H : Hp) (args : Args) (us : List Value) (vs : List V) (Q : VK) (E : XK), A.guards = some [] → Room k A → Env0 P w K mg base A outer s H → BindsTo s fd args (ps.zip us) → Vals vs us → sp vs H Q E →
    codeAny (model P w) A (.call (.ref f) args) (CR (L2.CX P w) outer P w H s Q E) s
theorem FnG.mono {P : Program} {w : World} {K : PySem.W.Frag} {mg : Str → Option Value} {base : Heap} {j k : Nat} {f : Addr} {fd : FuncData} {ps : List Str} {sp : Sp} (F : FnG P w K mg base j f fd ps sp) (h : j ≤ k) : FnG P w K mg base k f fd ps sp :=
  ⟨F.len, fun A outer s H args us vs Q E hg hr => F.run A outer s H args us vs Q E hg (hr.mono h)⟩
section
variable {X : Cx} {k : Nat} {f : Addr} {fd : FuncData} {ps : List Str} {sp : Sp} {W : WX} {x : Str} {p pos : Pos} {e : Expr} {es : List Expr} {t : TA}
/-- the callee runs; what it raises is wished for at the caller's slots -/
theorem run_g {pn : List (Addr × Obj)} {σ : L2.St} {H : Hp} {s : Shared} {Q : VK} {us : List Value} {vs : List V} (F : FnG X.prog X.w X.K X.mg X.base k f fd ps sp) (hg : X.A.guards = some []) (hr : Room k X.A) (hb : Binds X.K fd ps []) (tk : Takes X W)
    (I : Inv X pn σ H s) (r : Vals vs us) (h : sp vs H Q fun cls d H' => W cls d σ H') : wpAny (model X.prog X.w) X.A (call (.ref f) us) (EP X pn σ Q) X.xe s := by
  have same : (us ++ []).length = ps.length := by rw [List.append_nil, ← r.length]; exact F.len _ _ _ _ h
  have bind := hb s us I.kIn same
  rw [List.append_nil] at bind
  refine wpAny_call (codeAny_mono (F.run X.A X.stack s H ⟨us, []⟩ us vs Q _ hg hr I.env0 bind r h) fun res s' hq => ?_)
  cases res with
  | error e => exact tk e s' (XE.of_call I (fun cls d H' z => z) hq)
  | ok fl =>
    cases fl with
    | ret u => exact I.after hq
    | next => exact hq.elim
    | brk => exact hq.elim
    | cont => exact hq.elim
def tCallG (sp : Sp) (W : WX) (t : TA) : TE := fun σ H Q => t σ H fun vs H1 => sp vs H1 Q fun cls d H' => W cls d σ H'
theorem pe_callG (F : FnG X.prog X.w X.K X.mg X.base k f fd ps sp) (hgd : X.A.guards = some []) (hr : Room k X.A) (hg : Gl X x) (hm : X.mg x = some (.ref f)) (hk : PySem.W.keepIn X.K (.ref f) = true) (hb : Binds X.K fd ps []) (tk : Takes X W)
    (ha : PA X (e :: es) t) (ndb : (x == ("__debug__" : Str)) = false := by decide) (he : starEach (e :: es) X.env = (false, eval e X.env) :: starEach es X.env := by rfl) (npl : (backTo pos (starEach es X.env)).any (·.1) = false := by rfl) :
    PE X (.Call (.Name x p) (e :: es) [] pos) (tCallG sp W t) := ⟨fun pn s σ H Q I h =>
  wpAny_Call_Name_kw (ld_glob I hg hm (PySem.W.callWith_K (h₀ := X.base) I.ok.mod.kin hk (thn (ha.run pos pn s σ H _ I h) fun us s1 ⟨vs, H1, I1, r, q⟩ => ⟨I1.kIn, run_g F hgd hr hb tk I1 r q⟩) he npl) ndb)⟩
theorem pe_callG0 (F : FnG X.prog X.w X.K X.mg X.base k f fd ps sp) (hgd : X.A.guards = some []) (hr : Room k X.A) (hg : Gl X x) (hm : X.mg x = some (.ref f)) (hk : PySem.W.keepIn X.K (.ref f) = true) (hb : Binds X.K fd ps []) (tk : Takes X W)
    (ndb : (x == ("__debug__" : Str)) = false := by decide) : PE X (.Call (.Name x p) [] [] pos) (tCallG sp W tNil) := ⟨fun pn s σ H Q I h =>
  wpAny_Call_Name_kw (ld_glob I hg hm (PySem.W.callWith_K0 I.kIn hk (run_g (us := []) F hgd hr hb tk I .nil h)) ndb)⟩
/-- a def of the text, by its body -/
theorem fn_ofG {P : Program} {w : World} {K : PySem.W.Frag} {mg : Str → Option Value} {base : Heap} {nm qual : Str} {params : Arguments} {body : List Stmt} {scope : Scope} {dV kV doc pm cdv ct oc : Value} {an od : Option Addr}
    {osl : Array (Option Value)} {N : List Str} (lk : K.lookup f = some ⟨oc, od, .func (PySem.W.fnOf nm qual params body scope dV kV doc pm an cdv ct), osl⟩) (hcd : PySem.W.codeIn K cdv qual = true) (Sc : FnScope N ps scope)
    (len : ∀ us H Q E, sp us H Q E → us.length = ps.length)
    (hbody : ∀ (A : Around) (outer : List Env) (s : Shared) (H : Hp) (vs : List V) (Q : VK) (E : XK), A.guards = some [] → Room k (A.deeper (envOfC qual scope s.heap.objs.size f cdv)) → sp vs H Q E →
      ∃ t, PSs (cxOf (L2.CX P w) P w K mg base N qual scope f cdv A outer s H E) body t ∧ t { nx := fun _ H' => Q .non H', rt := Q } (L2.start N vs) H) :
    FnG P w K mg base (k + 1) f (PySem.W.fnOf nm qual params body scope dV kV doc pm an cdv ct) ps sp := ⟨len, fun A outer s H args us vs Q E hg hr e0 hb r hsp => by
  have same := len _ _ _ _ hsp
  have KX : K.In s.heap := (e0.mod.kin.keeps fun b o e => (e0.bs b o e).1)
  have roomy : s.heap.NoLimit := e0.mod.nolimit.keeps fun b o e => (e0.bs b o e).1
  have kinds : ∀ y ∈ ps.zip us, scope.names.lookup y.1 = some .local ∨ (scope.names.lookup y.1 = some .cell ∧ ((cellsFrom (s.heap.objs.size + 1) scope.names []).lookup y.1).isSome = true) := fun ⟨n, v⟩ hy => by
    rcases Sc.par n (List.of_mem_zip hy).1 with c | c
    · exact .inl c
    · exact .inr ⟨c, PySem.W.cellsFrom_some _ _ _ (.inl c)⟩
  refine codeAny_call_function hr.depth (KX _ _ lk) rfl Sc.co Sc.gen rfl (PySem.W.codeRec_of KX hcd) (hb _ _ _ _ (wpAny_newFunctionEnv_cells Sc.kind kinds fun env he s1 y => ?_))
  subst he
  refine ⟨roomy.keeps y.toInCall.keep, codeAny_func ?_⟩
  obtain ⟨t, ht, hq⟩ := hbody A outer s H vs Q E hg (hr.deeper _) hsp
  have I := inv_start (CX := L2.CX P w) (E := E) Sc hr.hd e0 same r y
  refine wpAny_mono (ht.run [] s1 (L2.start N vs) H _ I hq) (fun fl s' z => ?_) fun _ _ z => z
  cases fl with
  | ret u =>
    obtain ⟨v, σ', H', J, rv, q⟩ := z
    exact ⟨v, H', J.os, J.bare, J.base, J.hok, rv, q⟩
  | next =>
    obtain ⟨σ', H', J, q⟩ := z
    exact ⟨.non, H', J.os, J.bare, J.base, J.hok, rfl, q⟩
  | brk => exact z.elim fun _ z => z.elim fun _ z => z.2.elim
  | cont => exact z.elim fun _ z => z.elim fun _ z => z.2.elim⟩
end
/-- a def's promise by its mirror: the arguments are a frame of their own -/
def spMT (K : PySem.W.Frag) (mg : Str → Option Value) (T : Nat → Option (List V → HO → Prop)) (n : Nat) (m : Rho → Rz Rv) : Sp := fun vs H Q E => vs.length = n ∧ tE ⟨K, mg, [], fun _ => 0, fun cls d _ H' => E cls d H', T⟩ m (vs.map some) H Q
abbrev spM (K : PySem.W.Frag) (mg : Str → Option Value) (n : Nat) (m : Rho → Rz Rv) : Sp := spMT K mg (fun _ => none) n m
/-- the mirror of a def by its body's: J the parameters that are lists which the def changes -/
def okArgs (J : List Nat) (n : Nat) (ρ : Rho) : Bool := decide (ρ.length = n) && (List.range n).all fun i => match ρ[i]? with
  | some (.ow _) => decide (i ∈ J)
  | some (.fr _) => decide (i ∉ J)
  | _ => false
def outs (J : List Nat) (ρ0 ρ : Rho) : Option Rho := J.foldlM (fun (a : Rho) (j : Nat) => match (ρ[j]? : Option Cl) with
  | some (Cl.ow ds) => some (a.set j (Cl.ow ds))
  | _ => none) ρ0
def fnM (J : List Nat) (n N : Nat) (m : Rho → Rz Fl) : Rho → Rz Rv := fun ρ => if okArgs J n ρ = true then
    match m (ρ ++ List.replicate (N - n) .no) with
    | .ok (.rt r) ρ' => (match outs J ρ ρ' with
      | some ρ2 => .ok r ρ2
      | none => .stuck)
    | .ok .nx ρ' => (match outs J ρ ρ' with
      | some ρ2 => .ok (.fr .none) ρ2
      | none => .stuck)
    | .exc c f _ => if J = [] then .exc c f ρ else .stuck
    | _ => .stuck
  else .stuck
theorem outs_at {ρ' : Rho} : ∀ {J : List Nat} {ρ0 ρ2 : Rho}, outs J ρ0 ρ' = some ρ2 → ρ2.length = ρ0.length ∧ (∀ i, i ∉ J → ρ2[i]? = ρ0[i]?) ∧ ∀ i ∈ J, i < ρ0.length → ∃ ds, ρ'[i]? = some (.ow ds) ∧ ρ2[i]? = some (.ow ds)
  | [], ρ0, ρ2, h => by
    have e : ρ0 = ρ2 := Option.some.inj h
    subst e
    exact ⟨rfl, fun _ _ => rfl, fun _ h => nomatch h⟩
  | j :: J, ρ0, ρ2, h => by
    unfold outs at h
    rw [List.foldlM_cons] at h
    cases e : ρ'[j]? with
    | none => (rw [e] at h; cases h)
    | some c =>
      rw [e] at h
      cases c with
      | no => cases h
      | fr d => cases h
      | ow ds =>
        have h : outs J (ρ0.set j (.ow ds)) ρ' = some ρ2 := h
        obtain ⟨h1, h2, h3⟩ := outs_at h
        rw [List.length_set] at h1
        refine ⟨h1, fun i hi => ?_, fun i hi hl => ?_⟩
        · rw [h2 i fun z => hi (List.mem_cons_of_mem _ z), List.getElem?_set_ne fun z => hi (by simp [z])]
        · by_cases c : i ∈ J
          · exact h3 i c (by rw [List.length_set]; exact hl)
          · have : i = j := by simpa [c] using hi
            subst this
            refine ⟨ds, e, ?_⟩
            rw [h2 i c, List.getElem?_set_self hl]
theorem okArgs.at {J : List Nat} {n : Nat} {ρ : Rho} (h : okArgs J n ρ = true) : ρ.length = n ∧ ∀ (i : Nat) (c : Cl), ρ[i]? = some c → (∃ ds, c = .ow ds ∧ i ∈ J) ∨ ∃ d, c = .fr d ∧ i ∉ J := by
  unfold okArgs at h
  simp only [Bool.and_eq_true, decide_eq_true_eq, List.all_eq_true] at h
  refine ⟨h.1, fun i c hc => ?_⟩
  have hi : i < n := by rw [← h.1]; exact (List.getElem?_eq_some_iff.mp hc).1
  have q := h.2 i (List.mem_range.mpr hi)
  rw [hc] at q
  cases c with
  | no => cases q
  | fr d => exact .inr ⟨d, rfl, of_decide_eq_true q⟩
  | ow ds => exact .inl ⟨ds, rfl, of_decide_eq_true q⟩
def adOf (vs : List V) (j : Nat) : Addr := match vs[j]? with
  | some (.ref a) => a
  | _ => 0
def sxOfT (K : PySem.W.Frag) (mg : Str → Option Value) (T : Nat → Option (List V → HO → Prop)) (J : List Nat) (vs : List V) (E : XK) : Sx := ⟨K, mg, J, adOf vs, fun cls d _ H => E cls d H, T⟩
abbrev sxOf (K : PySem.W.Frag) (mg : Str → Option Value) (J : List Nat) (vs : List V) (E : XK) : Sx := sxOfT K mg (fun _ => none) J vs E
theorem start_at {N : List Str} {vs : List V} {i : Nat} (h : i < vs.length) : (L2.start N vs)[i]? = vs[i]?.map some := by
  unfold L2.start
  rw [List.getElem?_append_left (by simpa using h), List.getElem?_map]
theorem start_len {N : List Str} {vs : List V} (h : vs.length ≤ N.length) : (L2.start N vs).length = N.length := by
  unfold L2.start
  simp
  omega
theorem def_soundT {K : PySem.W.Frag} {mg : Str → Option Value} {T : Nat → Option (List V → HO → Prop)} {J : List Nat} {n : Nat} {N : List Str} {m : Rho → Rz Fl} {vs : List V} {H : Hp} {Q : VK} {E : XK} (hn : n ≤ N.length) (hJ : ∀ j ∈ J, j < n) (h : spMT K mg T n (fnM J n N.length m) vs H Q E) :
    tS (sxOfT K mg T J vs E) m { nx := fun _ H' => Q .non H', rt := Q } (L2.start N vs) H := by
  obtain ⟨hv, F, ρ, R, P⟩ := h
  unfold fnM at P
  by_cases c : okArgs J n ρ = true
  · rw [if_pos c] at P
    obtain ⟨hl, hat⟩ := okArgs.at c
    have at0 : ∀ (i : Nat) (c : Cl), c ≠ .no → (ρ ++ List.replicate (N.length - n) Cl.no)[i]? = some c → ρ[i]? = some c ∧ i < n := fun i c hc h => by
      by_cases hi : i < ρ.length
      · rw [List.getElem?_append_left hi] at h
        exact ⟨h, by rw [← hl]; exact hi⟩
      · rw [List.getElem?_append_right (by omega), List.getElem?_replicate] at h
        split at h
        · exact absurd (Option.some.inj h).symm hc
        · cases h
    have slot : ∀ i, i < n → (L2.start N vs)[i]? = (vs.map some)[i]? := fun i hi => by rw [start_at (by omega), List.getElem?_map]
    have own0 : ∀ a, Own (ρ ++ List.replicate (N.length - n) Cl.no) (L2.start N vs) a → Own ρ (vs.map some) a := fun a ⟨i, ds, h1, h2⟩ => by
      obtain ⟨h3, h4⟩ := at0 i _ (by intro z; cases z) h1
      exact ⟨i, ds, h3, by rw [← slot i h4]; exact h2⟩
    have own1 : ∀ a, Own ρ (vs.map some) a → Own (ρ ++ List.replicate (N.length - n) Cl.no) (L2.start N vs) a := fun a ⟨i, ds, h1, h2⟩ => by
      have hi := (List.getElem?_eq_some_iff.mp h1).1
      exact ⟨i, ds, by rw [List.getElem?_append_left hi]; exact h1, by rw [slot i (by omega)]; exact h2⟩
    have oweq : Own (ρ ++ List.replicate (N.length - n) Cl.no) (L2.start N vs) = Own ρ (vs.map some) := funext fun a => propext ⟨own0 a, own1 a⟩
    have adr : ∀ j ∈ J, ∃ ds, ρ[j]? = some (.ow ds) ∧ vs[j]? = some (.ref (adOf vs j)) := fun j hj => by
      have hjn := hJ j hj
      have hc := List.getElem?_eq_getElem (show j < ρ.length by omega)
      rcases hat j _ hc with ⟨ds, e, _⟩ | ⟨d, _, z⟩
      · rw [e] at hc
        obtain ⟨p, us, q1, _⟩ := R.ow j ds hc
        rw [List.getElem?_map] at q1
        cases hvj : vs[j]? with
        | none => rw [hvj] at q1; cases q1
        | some v =>
          rw [hvj] at q1
          have e : v = .ref p := by injection q1 with q1; injection q1
          subst e
          refine ⟨ds, hc, ?_⟩
          unfold adOf
          rw [hvj]
      · exact absurd hj z
    have R0 : Rs (sxOfT K mg T J vs E) F (ρ ++ List.replicate (N.length - n) Cl.no) (L2.start N vs) H := by
      refine ⟨R.ex, ?_, fun i d h => ?_, fun i ds h => ?_, fun i j di dj p h1 h2 h3 h4 => ?_, fun j hj => ?_, R.sm⟩
      · rw [start_len (by omega), List.length_append, List.length_replicate]
        omega
      · obtain ⟨h1, h2⟩ := at0 i _ (by intro z; cases z) h
        rw [slot i h2]
        exact R.fr i d h1
      · obtain ⟨h1, h2⟩ := at0 i _ (by intro z; cases z) h
        rw [slot i h2]
        exact R.ow i ds h1
      · obtain ⟨a1, a2⟩ := at0 i _ (by intro z; cases z) h1
        obtain ⟨b1, b2⟩ := at0 j _ (by intro z; cases z) h2
        rw [slot i a2] at h3
        rw [slot j b2] at h4
        exact R.sep i j di dj p a1 b1 h3 h4
      · obtain ⟨ds, q1, q2⟩ := adr j hj
        rw [start_at (by rw [hv]; exact hJ j hj), q2]
        rfl
    -- the frame goes: what is left is the arguments' own
    have leave : ∀ (ρ' ρ2 : Rho) (F' : Hp) (σ' : L2.St) (H' : Hp), outs J ρ ρ' = some ρ2 → Ext (Own (ρ ++ List.replicate (N.length - n) Cl.no) (L2.start N vs)) F H (Own ρ' σ') F' H' → Rs (sxOfT K mg T J vs E) F' ρ' σ' H' →
        Ext (Own ρ (vs.map some)) F H (Own ρ2 (vs.map some)) F' H' ∧ Rs ⟨K, mg, [], fun _ => 0, fun cls d _ H' => E cls d H', T⟩ F' ρ2 (vs.map some) H' ∧ ∀ a, Own ρ2 (vs.map some) a → Own ρ' σ' a := fun ρ' ρ2 F' σ' H' ho e R' => by
      obtain ⟨o1, o2, o3⟩ := outs_at ho
      have ow2 : ∀ (i : Nat) (ds : List PD), ρ2[i]? = some (.ow ds) → i ∈ J ∧ ρ'[i]? = some (.ow ds) ∧ σ'[i]? = (vs.map some)[i]? := fun i ds h => by
        have hi : i < ρ.length := by rw [← o1]; exact (List.getElem?_eq_some_iff.mp h).1
        by_cases c : i ∈ J
        · obtain ⟨ds', z1, z2⟩ := o3 i c hi
          rw [h] at z2
          cases z2
          obtain ⟨_, _, q2⟩ := adr i c
          refine ⟨c, z1, ?_⟩
          rw [List.getElem?_map, q2]
          exact R'.pin i c
        · rw [o2 i c] at h
          rcases hat i _ h with ⟨_, _, z⟩ | ⟨d, z, _⟩
          · exact absurd z c
          · cases z
      have sub : ∀ a, Own ρ2 (vs.map some) a → Own ρ' σ' a := fun a ⟨i, ds, h1, h2⟩ => by
        obtain ⟨_, z2, z3⟩ := ow2 i ds h1
        exact ⟨i, ds, z2, by rw [z3]; exact h2⟩
      rw [oweq] at e
      refine ⟨⟨e.fz, e.nw, e.kp, e.st, fun a h => e.ow a (sub a h)⟩, ⟨R'.ex, by rw [o1]; exact R.len, fun i d h => ?_, fun i ds h => ?_, fun i j di dj p h1 h2 h3 h4 => ?_, (fun j hj => nomatch hj), R'.sm⟩, sub⟩
      · have hi : i < ρ.length := by rw [← o1]; exact (List.getElem?_eq_some_iff.mp h).1
        by_cases c : i ∈ J
        · obtain ⟨ds', z1, z2⟩ := o3 i c hi
          rw [h] at z2; cases z2
        · rw [o2 i c] at h
          obtain ⟨v, q1, q2⟩ := R.fr i d h
          exact ⟨v, q1, rp_mono e.fz _ _ q2⟩
      · obtain ⟨_, z2, z3⟩ := ow2 i ds h
        rw [← z3]
        exact R'.ow i ds z2
      · obtain ⟨_, a2, a3⟩ := ow2 i di h1
        obtain ⟨_, b2, b3⟩ := ow2 j dj h2
        exact R'.sep i j di dj p a2 b2 (by rw [a3]; exact h3) (by rw [b3]; exact h4)
    refine ⟨F, _, R0, ?_⟩
    cases hm : m (ρ ++ List.replicate (N.length - n) Cl.no) with
    | stuck => rw [hm] at P; exact P
    | exc cc f ρ' =>
      rw [hm] at P
      by_cases cJ : J = []
      · have P : PostE ⟨K, mg, [], fun _ => 0, fun cls d _ H' => E cls d H', T⟩ (vs.map some) F ρ H (if J = [] then Rz.exc cc f ρ else .stuck) _ := P
        rw [if_pos cJ] at P
        subst cJ
        intro F' σ' H' cls dd e R' x
        obtain ⟨e1, e2, _⟩ := leave ρ' ρ F' σ' H' rfl e R'
        exact P F' H' cls dd e1 e2 x
      · have P : PostE ⟨K, mg, [], fun _ => 0, fun cls d _ H' => E cls d H', T⟩ (vs.map some) F ρ H (if J = [] then Rz.exc cc f ρ else .stuck) _ := P
        rw [if_neg cJ] at P
        exact P.elim
    | ok fl ρ' =>
      rw [hm] at P
      cases fl with
      | bk => exact (show False from P).elim
      | ct => exact (show False from P).elim
      | nx =>
        cases ho : outs J ρ ρ' with
        | none => simp only [ho] at P; exact P.elim
        | some ρ2 =>
          simp only [ho] at P
          intro F' σ' H' e R'
          obtain ⟨e1, e2, _⟩ := leave ρ' ρ2 F' σ' H' ho e R'
          exact P F' H' e1 e2 .non .non
      | rt r =>
        cases ho : outs J ρ ρ' with
        | none => simp only [ho] at P; exact P.elim
        | some ρ2 =>
          simp only [ho] at P
          intro F' σ' H' e R' v hv
          obtain ⟨e1, e2, e3⟩ := leave ρ' ρ2 F' σ' H' ho e R'
          refine P F' H' e1 e2 v ?_
          rw [oweq] at hv
          cases r with
          | fr d => exact hv
          | ow ds =>
            obtain ⟨p, us, a1, a2, a3, a4, a5, a6⟩ := hv
            exact ⟨p, us, a1, a2, a3, a4, fun z => a5 (e3 p z), a6⟩
  · rw [if_neg c] at P; exact P.elim
theorem def_sound {K : PySem.W.Frag} {mg : Str → Option Value} {J : List Nat} {n : Nat} {N : List Str} {m : Rho → Rz Fl} {vs : List V} {H : Hp} {Q : VK} {E : XK} (hn : n ≤ N.length) (hJ : ∀ j ∈ J, j < n) (h : spM K mg n (fnM J n N.length m) vs H Q E) :
    tS (sxOf K mg J vs E) m { nx := fun _ H' => Q .non H', rt := Q } (L2.start N vs) H := def_soundT hn hJ h
/-- THE RULE for a def -/
theorem def_ok {P : Program} {w : World} {K : PySem.W.Frag} {mg : Str → Option Value} {base : Heap} {x qual : Str} {st : Stmt} {f : Addr} {fd : FuncData} {N ps : List Str} {k : Nat} {J : List Nat} {m : Rho → Rz Fl} (Fn : Fun K x qual st f fd) (Sc : FnScope N ps (defScope st))
    (hJ : ∀ j ∈ J, j < ps.length) (hbody : ∀ (X : Cx) (S : Sx), Okx X S k → S.J = J → S.K = K → S.mg = mg → X.N = N → X.prog = P → X.w = w → X.base = base → (∃ (f0 : Addr) (s0 : Shared) (cd : Value), X.env = envOfC qual (defScope st) s0.heap.objs.size f0 cd) → XSs X S (defBody st) m) :
    FnG P w K mg base (k + 1) f fd ps (spM K mg ps.length (fnM J ps.length N.length m)) := by
  obtain ⟨oc, od, kV, doc, pm, an, cdv, ct, osl, rfl, lk, hcd⟩ := Fn.ex
  refine fn_ofG lk hcd Sc (fun vs H Q E h => h.1) fun A outer s H vs Q E hg hr hsp => ⟨_, hbody _ (sxOf K mg J vs E) ?_ rfl rfl rfl rfl rfl rfl rfl ⟨_, _, _, rfl⟩, def_sound ?_ hJ hsp⟩
  · exact ⟨rfl, rfl, rfl, Sc.nd, passes_of rfl, takes_of rfl rfl rfl rfl, hr, hg⟩
  · have e := congrArg List.length Sc.pre
    rw [List.length_take] at e
    omega
end Sd
namespace Sd
open PySem L2 PySem.Spec PyProof.Rows
/-! ### calls of the text's own defs -/
theorem at_map_fr {ds : List PD} {i : Nat} {c : Cl} (h : (ds.map Cl.fr)[i]? = some c) : ∃ d, ds[i]? = some d ∧ c = .fr d := by
  rw [List.getElem?_map] at h
  cases e : ds[i]? with
  | none => (rw [e] at h; cases h)
  | some d => rw [e] at h; exact ⟨d, rfl, (Option.some.inj h).symm⟩
theorem RpAll.get {K : PySem.W.Frag} {F : Hp} : ∀ {vs : List V} {ds : List PD} {i : Nat} {d : PD}, RpAll K F vs ds → ds[i]? = some d → ∃ v, vs[i]? = some v ∧ Rp K F v d
  | _, _, 0, _, .cons a _, h => ⟨_, rfl, by rw [← Option.some.inj h]; exact a⟩
  | _, _, i + 1, _, .cons _ t, h => RpAll.get (i := i) t h
  | _, _, _, _, .nil, h => by cases h
/-- all arguments are read -/
def callR (m : Rho → Rz Rv) (ds : List PD) (ρ : Rho) : Rz Rv :=
  match m (ds.map .fr) with
  | .ok r _ => .ok r ρ
  | .exc c f _ => .exc c f ρ
  | .stuck => .stuck
theorem call_sp {K : PySem.W.Frag} {mg : Str → Option Value} {n N : Nat} {mb : Rho → Rz Fl} {m : Rho → Rz Rv} {S : Sx} {F : Hp} {ρ : Rho} {σ : L2.St} {H : Hp} {vs : List V} {ds : List PD} {Q : VK} (hm : m = fnM [] n N mb) (R : Rs S F ρ σ H) (hv : RpAll S.K F vs ds)
    (P : PostE S σ F ρ H (callR m ds ρ) fun F' ρ' H' r => ∀ v, RvR S (Own ρ σ) H (Own ρ' σ) F' H' v r → Q v H') : spM S.K S.mg n m vs H Q fun cls d H' => S.W cls d σ H' := by
  have no : ∀ a, ¬ Own (ds.map Cl.fr) (vs.map some) a := fun a ⟨i, es, h, _⟩ => by
    obtain ⟨d, _, z⟩ := at_map_fr h
    cases z
  have R0 : Rs ⟨S.K, S.mg, [], fun _ => 0, fun cls d _ H' => S.W cls d σ H', fun _ => none⟩ F (ds.map .fr) (vs.map some) H := by
    refine ⟨R.ex, by simp [hv.len], fun i d h => ?_, fun i es h => ?_, fun i j di dj p h => ?_, (fun j h => nomatch h), R.sm⟩
    · obtain ⟨d', h1, h2⟩ := at_map_fr h
      cases h2
      obtain ⟨v, q1, q2⟩ := RpAll.get hv h1
      exact ⟨v, by rw [List.getElem?_map, q1]; rfl, q2⟩
    · obtain ⟨d', _, h2⟩ := at_map_fr h; cases h2
    · obtain ⟨d', _, h2⟩ := at_map_fr h; cases h2
  -- what holds behind the call
  have back : ∀ F' H' ρ', Ext (Own (ds.map Cl.fr) (vs.map some)) F H (Own ρ' (vs.map some)) F' H' → Rs ⟨S.K, S.mg, [], fun _ => 0, fun cls d _ H' => S.W cls d σ H', fun _ => none⟩ F' ρ' (vs.map some) H' → Ext (Own ρ σ) F H (Own ρ σ) F' H' ∧ Rs S F' ρ σ H' := fun F' H' ρ' e R' => by
    refine ⟨⟨e.fz, fun a h => ?_, fun a o h _ => e.kp a o h (no a), e.st, fun a h => .inl h⟩, ⟨R'.ex, R.len, fun i d h => ?_, fun i es h => ?_, R.sep, R.pin, R'.sm⟩⟩
    · rcases e.nw a h with q | q | q
      · exact .inl q
      · exact .inr (.inl q)
      · exact absurd q (no a)
    · obtain ⟨v, q1, q2⟩ := R.fr i d h
      exact ⟨v, q1, rp_mono e.fz _ _ q2⟩
    · obtain ⟨p, us, q1, q2, q3, q4⟩ := R.ow i es h
      refine ⟨p, us, q1, ?_, q3.mono fun o y => e.kp p o y (no p), rpa_mono e.fz _ _ q4⟩
      refine Classical.byContradiction fun z => ?_
      rcases e.nw p z with q | q | q
      · exact q q2
      · exact q3.ne q
      · exact no p q
  have hlen : (match m (ds.map .fr) with
    | .stuck => True
    | _ => vs.length = n) := by
    subst hm
    unfold fnM
    by_cases c : okArgs [] n (ds.map .fr) = true
    · have := (okArgs.at c).1
      rw [List.length_map, ← hv.len] at this
      split <;> trivial
    · rw [if_neg c]; trivial
  have keep : ∀ r ρ', m (ds.map .fr) = .ok r ρ' → ρ' = ds.map .fr := fun r ρ' h => by
    subst hm
    unfold fnM at h
    split at h
    · split at h
      · simp only [outs, List.foldlM_nil] at h
        cases h; rfl
      · simp only [outs, List.foldlM_nil] at h
        cases h; rfl
      · rw [if_pos rfl] at h; cases h
      · cases h
    · cases h
  unfold callR at P
  cases e : m (ds.map .fr) with
  | stuck => rw [e] at P; exact P.elim
  | exc c f ρ' =>
    rw [e] at P hlen
    refine ⟨hlen, F, _, R0, ?_⟩
    rw [e]
    intro F' H' cls dd e1 R1 x
    obtain ⟨e2, R2⟩ := back F' H' ρ' e1 R1
    exact P F' H' cls dd e2 R2 x
  | ok r ρ' =>
    rw [e] at P hlen
    obtain rfl := keep r ρ' e
    refine ⟨hlen, F, _, R0, ?_⟩
    rw [e]
    intro F' H' e1 R1 v hvv
    obtain ⟨e2, R2⟩ := back F' H' _ e1 R1
    refine P F' H' e2 R2 v ?_
    cases r with
    | fr d => exact hvv
    | ow es =>
      obtain ⟨p, us, a1, a2, a3, a4, a5, a6⟩ := hvv
      have hp : H p = none := a6.elim id fun z => absurd z (no p)
      refine ⟨p, us, a1, a2, a3, a4, fun ⟨i, es', q1, q2⟩ => ?_, .inl hp⟩
      obtain ⟨p', us', z1, z2, z3, _⟩ := R.ow i es' q1
      rw [q2] at z1
      cases z1
      exact z3.ne hp
/-- the list at slot i is lent, all other arguments are read -/
def callR0 (i : Nat) (m : Rho → Rz Rv) (ds : List PD) (ρ : Rho) : Rz Rv :=
  match ρ[i]? with
  | some (.ow ts) =>
    match m (.ow ts :: ds.map .fr) with
    | .ok r (.ow ts' :: _) => .ok r (ρ.set i (.ow ts'))
    | _ => .stuck
  | _ => .stuck
theorem outs0 {ρ0 ρ' ρ2 : Rho} (h : outs [0] ρ0 ρ' = some ρ2) : ∃ ts, ρ'[0]? = some (.ow ts) ∧ ρ2 = ρ0.set 0 (.ow ts) := by
  unfold outs at h
  rw [List.foldlM_cons] at h
  cases e : ρ'[0]? with
  | none => (rw [e] at h; cases h)
  | some c =>
    rw [e] at h
    cases c with
    | no => cases h
    | fr d => cases h
    | ow ts => exact ⟨ts, rfl, (Option.some.inj h).symm⟩
theorem call_sp0T {T : Nat → Option (List V → HO → Prop)} {i n N : Nat} {mb : Rho → Rz Fl} {m : Rho → Rz Rv} {S : Sx} {F : Hp} {ρ : Rho} {σ : L2.St} {H : Hp} {v0 : V} {vs : List V} {ds : List PD} {Q : VK} (hm : m = fnM [0] n N mb) (R : Rs S F ρ σ H) (h0 : σ[i]? = some (some v0)) (hT : T 0 = S.T i) (hv : RpAll S.K F vs ds)
    (P : PostE S σ F ρ H (callR0 i m ds ρ) fun F' ρ' H' r => ∀ v, RvR S (Own ρ σ) H (Own ρ' σ) F' H' v r → Q v H') : spMT S.K S.mg T n m (v0 :: vs) H Q fun cls d H' => S.W cls d σ H' := by
  unfold callR0 at P
  cases hi : ρ[i]? with
  | none => rw [hi] at P; exact P.elim
  | some cc =>
  rw [hi] at P
  cases cc with
  | no => exact P.elim
  | fr d => exact P.elim
  | ow ts =>
  obtain ⟨p, us, s1, s2, s3, s4⟩ := R.ow i ts hi
  rw [← hT] at s3
  rw [h0] at s1
  have e0 : v0 = .ref p := by injection s1 with s1; injection s1
  subst e0
  have il : i < ρ.length := (List.getElem?_eq_some_iff.mp hi).1
  have own0 : ∀ ts' a, Own (Cl.ow ts' :: ds.map Cl.fr) ((V.ref p :: vs).map some) a ↔ a = p := fun ts' a => by
    constructor
    · rintro ⟨j, es, h1, h2⟩
      cases j with
      | zero =>
        simp at h2
        exact h2.symm
      | succ j =>
        obtain ⟨d, _, z⟩ := at_map_fr (show (ds.map Cl.fr)[j]? = some (.ow es) from h1)
        cases z
    · rintro rfl
      exact ⟨0, ts', rfl, rfl⟩
  have R0 : Rs ⟨S.K, S.mg, [], fun _ => 0, fun cls d _ H' => S.W cls d σ H', T⟩ F (Cl.ow ts :: ds.map .fr) ((V.ref p :: vs).map some) H := by
    refine ⟨R.ex, by simp [hv.len], fun j d h => ?_, fun j es h => ?_, fun j l dj dl q h1 h2 h3 h4 => ?_, (fun j h => nomatch h), R.sm⟩
    · cases j with
      | zero => cases h
      | succ j =>
        obtain ⟨d', h1, h2⟩ := at_map_fr (show (ds.map Cl.fr)[j]? = some (.fr d) from h)
        cases h2
        obtain ⟨v, q1, q2⟩ := RpAll.get hv h1
        exact ⟨v, by show (vs.map some)[j]? = _; rw [List.getElem?_map, q1]; rfl, q2⟩
    · cases j with
      | zero => cases h; exact ⟨p, us, rfl, s2, s3, s4⟩
      | succ j =>
        obtain ⟨d', _, h2⟩ := at_map_fr (show (ds.map Cl.fr)[j]? = some (.ow es) from h)
        cases h2
    · cases j with
      | succ j =>
        obtain ⟨d', _, z⟩ := at_map_fr (show (ds.map Cl.fr)[j]? = some (.ow dj) from h1)
        cases z
      | zero =>
        cases l with
        | zero => rfl
        | succ l =>
          obtain ⟨d', _, z⟩ := at_map_fr (show (ds.map Cl.fr)[l]? = some (.ow dl) from h2)
          cases z
  have sh : ∀ r ρ', m (.ow ts :: ds.map .fr) = .ok r ρ' → (V.ref p :: vs).length = n ∧ ∃ ts', ρ' = .ow ts' :: ds.map .fr := fun r ρ' h => by
    subst hm
    unfold fnM at h
    by_cases c : okArgs [0] n (.ow ts :: ds.map .fr) = true
    · have hl := (okArgs.at c).1
      rw [List.length_cons, List.length_map, ← hv.len] at hl
      rw [if_pos c] at h
      refine ⟨hl, ?_⟩
      split at h
      · split at h
        · rename_i ho
          obtain ⟨ts', _, z⟩ := outs0 ho
          cases h
          exact ⟨ts', z⟩
        · cases h
      · split at h
        · rename_i ho
          obtain ⟨ts', _, z⟩ := outs0 ho
          cases h
          exact ⟨ts', z⟩
        · cases h
      · split at h
        · cases h
        · cases h
      · cases h
    · rw [if_neg c] at h; cases h
  cases e : m (.ow ts :: ds.map .fr) with
  | stuck => simp only [e] at P; exact P.elim
  | exc c f ρ' => simp only [e] at P; exact P.elim
  | ok r ρ' =>
    obtain ⟨hlen, ts', rfl⟩ := sh r ρ' e
    simp only [e] at P
    refine ⟨hlen, F, _, R0, ?_⟩
    rw [e]
    intro F' H' e1 R1 v hvv
    have ownS : ∀ a, Own (ρ.set i (.ow ts')) σ a ↔ Own ρ σ a := fun a => by
      constructor
      · rintro ⟨j, es, h1, h2⟩
        by_cases z : i = j
        · subst z
          exact ⟨i, ts, hi, h2⟩
        · rw [List.getElem?_set_ne z] at h1
          exact ⟨j, es, h1, h2⟩
      · rintro ⟨j, es, h1, h2⟩
        by_cases z : i = j
        · subst z
          exact ⟨i, ts', List.getElem?_set_self il, h2⟩
        · exact ⟨j, es, by rw [List.getElem?_set_ne z]; exact h1, h2⟩
    have ownP : Own ρ σ p := ⟨i, ts, hi, h0⟩
    have e2 : Ext (Own ρ σ) F H (Own (ρ.set i (.ow ts')) σ) F' H' := by
      refine ⟨e1.fz, fun a h => ?_, fun a o h n => e1.kp a o h fun z => n ?_, e1.st, fun a h => .inl ((ownS a).mp h)⟩
      · rcases e1.nw a h with q | q | q
        · exact .inl q
        · exact .inr (.inl q)
        · rw [(own0 ts a).mp q]; exact .inr (.inr ownP)
      · rw [(own0 ts a).mp z]; exact ownP
    have R2 : Rs S F' (ρ.set i (.ow ts')) σ H' := by
      refine ⟨R1.ex, by rw [List.length_set]; exact R.len, fun j d h => ?_, fun j es h => ?_, fun j l dj dl q h1 h2 h3 h4 => ?_, R.pin, R1.sm⟩
      · by_cases z : i = j
        · subst z
          rw [List.getElem?_set_self il] at h; cases h
        · rw [List.getElem?_set_ne z] at h
          obtain ⟨v, q1, q2⟩ := R.fr j d h
          exact ⟨v, q1, rp_mono e1.fz _ _ q2⟩
      · by_cases z : i = j
        · subst z
          rw [List.getElem?_set_self il] at h
          cases h
          obtain ⟨p', us', q1, q2, q3, q4⟩ := R1.ow 0 ts' rfl
          simp at q1
          subst q1
          exact ⟨p, us', h0, q2, hT ▸ q3, q4⟩
        · rw [List.getElem?_set_ne z] at h
          obtain ⟨p', us', q1, q2, q3, q4⟩ := R.ow j es h
          have np : p' ≠ p := fun y => z (R.sep i j ts es p hi h h0 (by rw [← y]; exact q1))
          have no : ¬ Own (Cl.ow ts :: ds.map Cl.fr) ((V.ref p :: vs).map some) p' := fun y => np ((own0 ts p').mp y)
          refine ⟨p', us', q1, ?_, q3.mono fun o y => e1.kp p' o y no, rpa_mono e1.fz _ _ q4⟩
          refine Classical.byContradiction fun y => ?_
          rcases e1.nw p' y with q | q | q
          · exact q q2
          · exact q3.ne q
          · exact no q
      · have back : ∀ (j : Nat) (dj : List PD), (ρ.set i (.ow ts'))[j]? = some (.ow dj) → ∃ d', ρ[j]? = some (.ow d') := fun j dj h => by
          by_cases z : i = j
          · subst z; exact ⟨ts, hi⟩
          · rw [List.getElem?_set_ne z] at h; exact ⟨dj, h⟩
        obtain ⟨a1, b1⟩ := back j dj h1
        obtain ⟨a2, b2⟩ := back l dl h2
        exact R.sep j l a1 a2 q b1 b2 h3 h4
    refine P F' H' e2 R2 v ?_
    cases r with
    | fr d => exact hvv
    | ow es =>
      obtain ⟨p', us', a1, a2, a3, a4, a5, a6⟩ := hvv
      have np : p' ≠ p := fun z => a5 ((own0 ts' p').mpr z)
      have hp : H p' = none := a6.elim id fun z => absurd ((own0 ts p').mp z) np
      refine ⟨p', us', a1, a2, a3, a4, fun z => ?_, .inl hp⟩
      obtain ⟨j, es', q1, q2⟩ := (ownS p').mp z
      obtain ⟨p2, us2, z1, z2, z3, _⟩ := R.ow j es' q1
      rw [q2] at z1
      cases z1
      exact z3.ne hp
theorem call_sp0 {i n N : Nat} {mb : Rho → Rz Fl} {m : Rho → Rz Rv} {S : Sx} {F : Hp} {ρ : Rho} {σ : L2.St} {H : Hp} {v0 : V} {vs : List V} {ds : List PD} {Q : VK} (hm : m = fnM [0] n N mb) (R : Rs S F ρ σ H) (h0 : σ[i]? = some (some v0)) (hT : S.T i = none) (hv : RpAll S.K F vs ds)
    (P : PostE S σ F ρ H (callR0 i m ds ρ) fun F' ρ' H' r => ∀ v, RvR S (Own ρ σ) H (Own ρ' σ) F' H' v r → Q v H') : spM S.K S.mg n m (v0 :: vs) H Q fun cls d H' => S.W cls d σ H' := call_sp0T hm R h0 hT.symm hv P
section
variable {X : Cx} {S : Sx} {k kk n N : Nat} {mb : Rho → Rz Fl} {m : Rho → Rz Rv} {f : Addr} {fd : FuncData} {ps : List Str} {x y : Str} {p pos pp : Pos} {e : Expr} {es : List Expr} {ma : Rho → Rz (List PD)}
/-- what a def of the text is known for -/
structure Dk (K : PySem.W.Frag) (mg : Str → Option Value) (P : Program) (w : World) (base : Heap) (k : Nat) (x : Str) (J : List Nat) (ps : List Str) (n N : Nat) (mb : Rho → Rz Fl) : Prop where
  ex : ∃ (f : Addr) (fd : FuncData), ps.length = n ∧ FnG P w K mg base k f fd ps (spM K mg n (fnM J n N mb)) ∧ mg x = some (.ref f) ∧ PySem.W.keepIn K (.ref f) = true ∧ Binds K fd ps [] ∧ ∃ o : Obj, K.lookup f = some o ∧ o.data = .func fd
def mCall (m : Rho → Rz Rv) (ma : Rho → Rz (List PD)) : Rho → Rz Rv := fun ρ => (ma ρ).bind fun ds ρ1 => callR m ds ρ1
theorem xe_call (o : Okx X S k) (D : Dk X.K X.mg X.prog X.w X.base k x [] ps n N mb) (hg : Gl X x) (ha : XA X S (e :: es) ma) (ndb : (x == ("__debug__" : Str)) = false := by decide) (he : starEach (e :: es) X.env = (false, eval e X.env) :: starEach es X.env := by rfl) (npl : (backTo pos (starEach es X.env)).any (·.1) = false := by rfl) :
    XE X S (.Call (.Name x p) (e :: es) [] pos) (mCall (fnM [] n N mb) ma) := by
  obtain ⟨f, fd, hn, F, hm, hk, hb, _⟩ := D.ex
  refine PE.imp (pe_callG F o.gd o.rm hg hm hk hb o.tk ha ndb he npl) fun σ H Q q => ?_
  obtain ⟨F1, ρ, R, P⟩ := q
  refine ⟨F1, ρ, R, PostE.mono (PostE.bind P) fun F2 ρ2 H2 ds e2 R2 P2 vs hv => ?_⟩
  rw [← o.hK, ← o.hM]
  exact call_sp (K := S.K) (mg := S.mg) rfl R2 hv ((P2 F2 e2).mono fun _ _ _ _ _ _ q => fun v hv => q v (hv.mono e2))
theorem xe_call0 (o : Okx X S k) (D : Dk X.K X.mg X.prog X.w X.base k x [] ps n N mb) (hg : Gl X x) (ndb : (x == ("__debug__" : Str)) = false := by decide) :
    XE X S (.Call (.Name x p) [] [] pos) (mCall (fnM [] n N mb) mNil) := by
  obtain ⟨f, fd, hn, F, hm, hk, hb, _⟩ := D.ex
  refine PE.imp (pe_callG0 F o.gd o.rm hg hm hk hb o.tk ndb) fun σ H Q q => ?_
  obtain ⟨F1, ρ, R, P⟩ := q
  show spM _ _ _ _ [] H Q _
  rw [← o.hK, ← o.hM]
  exact call_sp (K := S.K) (mg := S.mg) rfl R .nil P
/-- the first argument is a list of one's own, lent for the call -/
def mCall0 (i : Nat) (m : Rho → Rz Rv) (ma : Rho → Rz (List PD)) : Rho → Rz Rv := fun ρ =>
  match ρ[i]? with
  | some (.ow _) => (ma ρ).bind fun ds ρ1 => callR0 i m ds ρ1
  | _ => .stuck
theorem xe_callT (o : Okx X S k) (D : Dk X.K X.mg X.prog X.w X.base k x [0] ps n N mb) (hg : Gl X x) (i : Nat) (ha : XA X S es ma) (hN : X.N[i]? = some y := by rfl) (hy : Vis X.env.scope y := by first | exact Or.inl rfl | exact Or.inr (Or.inl rfl) | exact Or.inr (Or.inr rfl)) (hdy : (y == ("__debug__" : Str)) = false := by decide) (hcd : (y == ("__classdict__" : Str)) = false := by decide)
    (ndb : (x == ("__debug__" : Str)) = false := by decide) (hs : starEach (.Name y pp :: es) X.env = (false, eval (.Name y pp) X.env) :: starEach es X.env := by rfl) (npl : (backTo pos (starEach es X.env)).any (·.1) = false := by rfl) (hT : S.T i = none := by first | rfl | assumption) :
    XE X S (.Call (.Name x p) (.Name y pp :: es) [] pos) (mCall0 i (fnM [0] n N mb) ma) := by
  obtain ⟨f, fd, hn, F, hm, hk, hb, _⟩ := D.ex
  refine PE.imp (pe_callG F o.gd o.rm hg hm hk hb o.tk (pa_cons (pe_var hN hy hdy hcd) ha hs) ndb hs npl) fun σ H Q q => ?_
  obtain ⟨F1, ρ, R, P⟩ := q
  unfold mCall0 at P
  cases hi : ρ[i]? with
  | none => rw [hi] at P; exact P.elim
  | some cc =>
    rw [hi] at P
    cases cc with
    | no => exact P.elim
    | fr d => exact P.elim
    | ow ts =>
      obtain ⟨pt, us, s1, _⟩ := R.ow i ts hi
      refine ⟨.ref pt, s1, F1, ρ, R, PostE.mono (PostE.bind P) fun F2 ρ2 H2 ds e2 R2 P2 vs hv => ?_⟩
      rw [← o.hK, ← o.hM]
      exact call_sp0 rfl R2 s1 hT hv ((P2 F2 e2).mono fun _ _ _ _ _ _ q => fun v hv => q v (hv.mono e2))
end
end Sd
namespace Sd
open PySem L2 PySem.Spec PyProof.Rows
/-! ### calls by keyword -/
def perm {α : Type} (ix : List Nat) (l : List α) : List α := ix.filterMap fun i => l[i]?
theorem vals_at {vs : List V} {us : List Value} (r : Vals vs us) (i : Nat) : (vs[i]? = none ∧ us[i]? = none) ∨ ∃ v u, vs[i]? = some v ∧ us[i]? = some u ∧ RelV v u := by
  induction r generalizing i with
  | nil => exact Or.inl ⟨rfl, rfl⟩
  | cons a t ih =>
    cases i with
    | zero => exact .inr ⟨_, _, rfl, rfl, a⟩
    | succ i => exact ih i
theorem vals_perm {vs : List V} {us : List Value} (r : Vals vs us) : ∀ ix : List Nat, Vals (perm ix vs) (perm ix us)
  | [] => .nil
  | i :: ix => by
    unfold perm
    rcases vals_at r i with ⟨a, b⟩ | ⟨v, u, a, b, c⟩
    · rw [List.filterMap_cons, List.filterMap_cons, a, b]; exact vals_perm r ix
    · rw [List.filterMap_cons, List.filterMap_cons, a, b]; exact .cons c (vals_perm r ix)
theorem rp_at {K : PySem.W.Frag} {F : Hp} : ∀ {vs : List V} {ds : List PD} (i : Nat), RpAll K F vs ds → (vs[i]? = none ∧ ds[i]? = none) ∨ ∃ v d, vs[i]? = some v ∧ ds[i]? = some d ∧ Rp K F v d
  | _, _, _, .nil => .inl ⟨rfl, rfl⟩
  | _, _, 0, .cons a _ => .inr ⟨_, _, rfl, rfl, a⟩
  | _, _, i + 1, .cons _ t => rp_at i t
theorem rp_perm {K : PySem.W.Frag} {F : Hp} {vs : List V} {ds : List PD} (r : RpAll K F vs ds) : ∀ ix : List Nat, RpAll K F (perm ix vs) (perm ix ds)
  | [] => .nil
  | i :: ix => by
    unfold perm
    rcases rp_at i r with ⟨a, b⟩ | ⟨v, u, a, b, c⟩
    · rw [List.filterMap_cons, List.filterMap_cons, a, b]; exact rp_perm r ix
    · rw [List.filterMap_cons, List.filterMap_cons, a, b]; exact .cons c (rp_perm r ix)
def KBi (K : PySem.W.Frag) (fd : FuncData) (ps : List Str) (n : Nat) (ks : List Str) (ix : List Nat) : Prop :=
  ∀ (s : Shared) (us ws : List Value), us.length = n → ws.length = ks.length → BindsTo s fd ⟨us, ks.zip ws⟩ (ps.zip (perm ix (us ++ ws)))
section
variable {X : Cx} {S : Sx} {k kk n N j : Nat} {mb : Rho → Rz Fl} {m : Rho → Rz Rv} {f : Addr} {fd : FuncData} {ps ks : List Str} {sp : Sp} {W : WX} {x y : Str} {p pos pp kpos : Pos} {e : Expr} {es : List Expr} {kws : List Keyword} {ma mk : Rho → Rz (List PD)} {t tk : TA} {ix : List Nat} {nm : Option Str}
def XK (X : Cx) (S : Sx) (kws : List Keyword) (m : Rho → Rz (List PD)) : Prop := PK X kws (tA S m)
theorem PK.imp {X : Cx} {e : List Keyword} {t t' : TA} (h : PK X e t) (hi : ∀ σ H Q, t' σ H Q → t σ H Q) : PK X e t' := ⟨fun p pn s σ H Q I q => h.run p pn s σ H Q I (hi σ H Q q)⟩
theorem xk_nil : XK X S [] mNil := PK.imp pk_nil fun σ H Q q => by
  obtain ⟨F, ρ, R, P⟩ := q
  exact PostE.ok P R [] .nil
theorem xk_cons {m : Rho → Rz Rv} {n : Rho → Rz (List PD)} (ha : XE X S e m) (hr : XK X S kws n) : XK X S (⟨nm, e, kpos⟩ :: kws) (mCons m n) := PK.imp (pk_cons ha hr) fun _ _ _ q => tA_cons q
theorem run_gk {pn : List (Addr × Obj)} {σ : L2.St} {H : Hp} {s : Shared} {Q : VK} {us ws : List Value} {vs zs : List V} (F : FnG X.prog X.w X.K X.mg X.base k f fd ps sp) (hg : X.A.guards = some []) (hr : Room k X.A) (hb : KBi X.K fd ps j ks ix) (tk : Takes X W)
    (I : Inv X pn σ H s) (l1 : us.length = j) (l2 : ws.length = ks.length) (r : Vals (vs ++ zs) (us ++ ws)) (h : sp (perm ix (vs ++ zs)) H Q fun cls d H' => W cls d σ H') : wpAny (model X.prog X.w) X.A (call (.ref f) us (ks.zip ws)) (EP X pn σ Q) X.xe s := by
  refine wpAny_call (codeAny_mono (F.run X.A X.stack s H ⟨us, ks.zip ws⟩ _ _ Q _ hg hr I.env0 (hb s us ws l1 l2) (vals_perm r ix) h) fun res s' hq => ?_)
  cases res with
  | error e => exact tk e s' (XE.of_call I (fun cls d H' z => z) hq)
  | ok fl =>
    cases fl with
    | ret u => exact I.after hq
    | next => exact hq.elim
    | brk => exact hq.elim
    | cont => exact hq.elim
/-- what a def of the text is known for, called with j values and the keywords ks -/
structure Dkw (K : PySem.W.Frag) (mg : Str → Option Value) (P : Program) (w : World) (base : Heap) (k : Nat) (x : Str) (n N : Nat) (mb : Rho → Rz Fl) (j : Nat) (ks : List Str) (ix : List Nat) : Prop where
  ex : ∃ (f : Addr) (fd : FuncData) (ps : List Str), FnG P w K mg base k f fd ps (spM K mg n (fnM [] n N mb)) ∧ mg x = some (.ref f) ∧ PySem.W.keepIn K (.ref f) = true ∧ KBi K fd ps j ks ix
def mCallK (ix : List Nat) (j : Nat) (nk : Nat) (m : Rho → Rz Rv) (ma mk : Rho → Rz (List PD)) : Rho → Rz Rv := fun ρ => (ma ρ).bind fun ds ρ1 => (mk ρ1).bind fun es ρ2 => if ds.length = j ∧ es.length = nk then callR m (perm ix (ds ++ es)) ρ2 else .stuck
theorem xe_callK (o : Okx X S k) (D : Dkw X.K X.mg X.prog X.w X.base k x n N mb j ks ix) (hg : Gl X x) (ha : XA X S (e :: es) ma) (hkw : XK X S kws mk) (hall : (backToKw pos (keywordEach kws X.env)).all (·.1.isSome) = true := by rfl) (hks : (backToKw pos (keywordEach kws X.env)).filterMap (·.1) = ks := by rfl)
    (ndb : (x == ("__debug__" : Str)) = false := by decide) (he : starEach (e :: es) X.env = (false, eval e X.env) :: starEach es X.env := by rfl)
    (npl : ((backTo pos (starEach (e :: es) X.env)).any (·.1) || (backToKw pos (keywordEach kws X.env)).any (·.1.isNone)) = false := by rfl) :
    XE X S (.Call (.Name x p) (e :: es) kws pos) (mCallK ix j ks.length (fnM [] n N mb) ma mk) := by
  obtain ⟨f, fd, ps, F, hm, hk, hb⟩ := D.ex
  refine ⟨fun pn s σ H Q I h => ?_⟩
  obtain ⟨F1, ρ, R, P⟩ := h
  refine wpAny_Call_Name_kw (ld_glob I hg hm ?_ ndb)
  have t1 : tA S ma σ H fun vs H1 => tA S mk σ H1 fun zs H2 => vs.length = j ∧ zs.length = ks.length ∧ spM S.K S.mg n (fnM [] n N mb) (perm ix (vs ++ zs)) H2 Q fun cls d H' => S.W cls d σ H' := by
    refine ⟨F1, ρ, R, PostE.mono (PostE.bind P) fun F2 ρ2 H2 ds e2 R2 P2 vs hv => ?_⟩
    refine ⟨F2, ρ2, R2, PostE.mono (PostE.bind (P2 F2 e2)) fun F3 ρ3 H3 es e3 R3 P3 zs hz => ?_⟩
    have P3 := P3 F3 e3
    by_cases c : ds.length = j ∧ es.length = ks.length
    · rw [if_pos c] at P3
      exact ⟨hv.len.trans c.1, hz.len.trans c.2, call_sp (K := S.K) (mg := S.mg) rfl R3 (rp_perm (RpAll.app (rpa_mono e3.fz _ _ hv) hz) ix) (P3.mono fun _ _ _ _ _ _ q => fun v hv => q v (hv.mono (e2.trans e3)))⟩
    · rw [if_neg c] at P3
      exact P3.elim
  refine PySem.W.callWith_KW (h₀ := X.base) I.ok.mod.kin hk hall (thn (ha.run pos pn s σ H _ I t1) fun us s1 ⟨vs, H1, I1, r, q⟩ => ?_) npl he
  refine thn (hkw.run pos pn s1 σ H1 _ I1 q) fun ws s2 ⟨zs, H2, I2, rz, q1, q2, q3⟩ => ⟨I2.kIn, ?_⟩
  rw [hks]
  rw [o.hK, o.hM] at q3
  exact run_gk F o.gd o.rm hb o.tk I2 (r.length.symm.trans q1) (rz.length.symm.trans q2) (r.append rz) q3
theorem xe_callK0 (o : Okx X S k) (D : Dkw X.K X.mg X.prog X.w X.base k x n N mb 0 ks ix) (hg : Gl X x) (hkw : XK X S kws mk) (hall : (backToKw pos (keywordEach kws X.env)).all (·.1.isSome) = true := by rfl) (hks : (backToKw pos (keywordEach kws X.env)).filterMap (·.1) = ks := by rfl)
    (ndb : (x == ("__debug__" : Str)) = false := by decide)
    (npl : ((backTo pos (starEach [] X.env)).any (·.1) || (backToKw pos (keywordEach kws X.env)).any (·.1.isNone)) = false := by rfl) :
    XE X S (.Call (.Name x p) [] kws pos) (mCallK ix 0 ks.length (fnM [] n N mb) mNil mk) := by
  obtain ⟨f, fd, ps, F, hm, hk, hb⟩ := D.ex
  refine ⟨fun pn s σ H Q I h => ?_⟩
  obtain ⟨F1, ρ, R, P⟩ := h
  refine wpAny_Call_Name_kw (ld_glob I hg hm ?_ ndb)
  have t1 : tA S mk σ H fun zs H2 => zs.length = ks.length ∧ spM S.K S.mg n (fnM [] n N mb) (perm ix ([] ++ zs)) H2 Q fun cls d H' => S.W cls d σ H' := by
    have P : PostE S σ F1 ρ H ((mk ρ).bind fun es ρ2 => if ([] : List PD).length = 0 ∧ es.length = ks.length then callR (fnM [] n N mb) (perm ix ([] ++ es)) ρ2 else .stuck) _ := P
    refine ⟨F1, ρ, R, PostE.mono (PostE.bind P) fun F3 ρ3 H3 es e3 R3 P3 zs hz => ?_⟩
    have P3 := P3 F3 e3
    by_cases c : ([] : List PD).length = 0 ∧ es.length = ks.length
    · rw [if_pos c] at P3
      exact ⟨hz.len.trans c.2, call_sp (K := S.K) (mg := S.mg) rfl R3 (rp_perm hz ix) (P3.mono fun _ _ _ _ _ _ q => fun v hv => q v (hv.mono e3))⟩
    · rw [if_neg c] at P3
      exact P3.elim
  refine PySem.W.callWith_KW0 (h₀ := X.base) I.ok.mod.kin hk hall (thn (hkw.run pos pn s σ H _ I t1) fun ws s2 ⟨zs, H2, I2, rz, q2, q3⟩ => ⟨I2.kIn, ?_⟩) npl
  rw [hks]
  rw [o.hK, o.hM] at q3
  exact run_gk (us := []) (vs := []) F o.gd o.rm hb o.tk I2 rfl (rz.length.symm.trans q2) rz q3
/-! ### the module's constants -/
theorem xe_gint {i : Int} (hg : Gl X x) (h : ∃ u, X.mg x = some u ∧ RelV (.int i) u) (hd : (x == ("__debug__" : Str)) = false := by decide) : XE X S (.Name x pos) (mC (.int i)) := xe_c (let ⟨_, a, b⟩ := h; pe_glob hg a b hd) fun _ => .int i
theorem xe_gstr {i : Str} (hg : Gl X x) (h : ∃ u, X.mg x = some u ∧ RelV (.str i) u) (hd : (x == ("__debug__" : Str)) = false := by decide) : XE X S (.Name x pos) (mC (.str i)) := xe_c (let ⟨_, a, b⟩ := h; pe_glob hg a b hd) fun _ => .str i
end
theorem loose_int {lv : List (Str × PySem.W.WData)} {mg : Str → Option Value} {h : Heap} {x : Str} {i : Int} (V : PySem.W.LooseAre lv mg h) (hm : (x, PySem.W.WData.int i) ∈ lv) : ∃ u, mg x = some u ∧ RelV (.int i) u := by
  obtain ⟨v, h1, h2⟩ := V.val _ hm
  obtain ⟨t, rfl, -⟩ := PySem.W.readsW_int_inv h2
  exact ⟨_, h1, t, rfl⟩
/-! ### the law's ends -/
/-- where the law is asked: the top is written, the script lies at a -/
structure Gd (K : PySem.W.Frag) (mg mb : Str → Option Value) (s : Shared) (a : Addr) (us : List Value) (ns : List Int) : Prop where
  kin : K.In s.heap
  main : s.heap.Ns mainGlobals mg
  blt : s.heap.Ns builtinsNs mb
  boot : ∀ n : Str, n ≠ "__name__" → mb n = bootBuiltins n
  free : s.heap.NoLimit
  still : s.gens = #[]
  obj : s.heap.get? a = some { cls := .type "list", data := .seq us.toArray }
  nums : IntsAre us ns
  short : ns.length ≤ sizeLine
  sys : ∃ mm, s.heap.Ns sysModules mm
  nos : K.lookup sysModules = none
section
variable {P : Program} {w : World} {K : PySem.W.Frag} {mg mb : Str → Option Value} {s : Shared} {a : Addr} {us : List Value} {ns : List Int} {T : Hp}
/-- T tells of the script alone, or of nothing, and of sys.modules -/
structure Alone (K : PySem.W.Frag) (a : Addr) (T : Hp) : Prop where
  one : ∀ b, T b ≠ none → b = a ∨ b = sysModules
  out : ∀ b, T b ≠ none → K.lookup b = none
def OnlyF (T : Hp) : Prop := ∀ b, T b = none ∨ ∃ ob u, T b = some (.frz ob u)
theorem Gd.notDict (g : Gd K mg mb s a us ns) (t : Alone K a T) {b : Addr} {ob : Obj} {es : Array DictEntry} {n : Nat} (e : s.heap.get? b = some ob) (hd : ob.data = .dict es n) (nb : b ≠ sysModules) : T b = none := by
  refine Classical.byContradiction fun z => ?_
  have hb := (t.one b z).resolve_right nb
  rw [hb, g.obj] at e
  cases e
  cases (show Data.seq us.toArray _ = Data.dict es n from hd)
theorem Gd.space (g : Gd K mg mb s a us ns) (t : Alone K a T) {b : Addr} {m : Str → Option Value} (h : s.heap.Ns b m) (nb : b ≠ sysModules) : (hidT s.heap T).Ns b m := by
  obtain ⟨ob, es, n, e, hd, r⟩ := h
  exact ⟨ob, es, n, hidT_get e (g.notDict t e hd nb), hd, r⟩
theorem Gd.frag (g : Gd K mg mb s a us ns) (t : Alone K a T) : K.In (hidT s.heap T) := fun b ob e => by
  refine hidT_get (g.kin b ob e) (Classical.byContradiction fun z => ?_)
  rw [t.out b z] at e
  cases e
theorem Gd.env (g : Gd K mg mb s a us ns) (t : Alone K a T) (ok : HOk P w T s.heap) : Env0 P w K mg (hidT s.heap T) callerA [] s T := by
  obtain ⟨mc, c1, c2⟩ := g.free
  have M : Mod K mg (hidT s.heap T) := ⟨g.frag t, g.space t g.main (by decide), ⟨mb, g.space t g.blt (by decide), g.boot⟩, mc, g.space t c1 (by decide), c2⟩
  refine ⟨rfl, M, fun _ _ e => of_hidT e, Nat.le_of_eq (hidT_size _ _), trivial, ?_, ok, .of_eq g.still⟩
  intro b hb
  cases (show b ∈ ([] : List Addr) from hb)
/-- what is asked of the law's call -/
abbrev Good (s : Shared) (r : Result) (s' : Shared) : Prop := r = .ok (.ret (.bool true)) ∧ OldK s.heap s'.heap ∧ s'.os = s.os ∧ AllBare s'.gens
theorem Gd.ask {k : Nat} {fa : Addr} {fd : FuncData} {x : Str} {sp : Sp} (g : Gd K mg mb s a us ns) (t : Alone K a T) (ok : HOk P w T s.heap) (tell : OnlyF T) (at' : SqL K T a (ns.map V.int)) (room : Room k callerA)
    (F : ∀ base : Heap, K.In base → base.Ns mainGlobals mg → FnG P w K mg base k fa fd [x] sp) (bind : ∀ (z : Shared) (u : Value), BindsTo z fd ⟨[u], []⟩ [(x, u)])
    (yes : sp [.ref a] T (fun v _ => v = .bl true) fun _ _ _ => False) : codeAny (model P w) callerA (.call (.ref fa) ⟨[.ref a], []⟩) (Good s) s := by
  have G := F _ (g.frag t) (g.space t g.main (by decide))
  refine codeAny_mono (G.run callerA [] s T ⟨[.ref a], []⟩ [.ref a] [.ref a] _ _ rfl room (g.env t ok) (bind s (.ref a)) (.cons rfl .nil) yes) fun r s' h => ?_
  cases r with
  | error e =>
    obtain ⟨_, _, _, _, _, q⟩ := h
    exact q.2.2.2.2.2.2.2.elim
  | ok fl =>
    cases fl with
    | ret u =>
      obtain ⟨v, T', sameOs, bare, kept, ok', hv, q⟩ := h
      have q : v = .bl true := q
      rw [q] at hv
      refine ⟨by rw [show u = Value.bool true from hv], OldK.of_keep fun b ob e => ?_, sameOs, bare⟩
      rcases tell b with z | ⟨ob', xs, z⟩
      · exact kept.keep b ob e z (fun y => by cases (show b ∈ ([] : List Addr) from y)) (by simp)
      · obtain ⟨p1, _⟩ := ok b _ z
        obtain ⟨p2, _⟩ := ok' b _ (kept.frzs b ob' _ z)
        rw [e] at p1
        cases p1
        exact p2
    | next => exact h.elim
    | brk => exact h.elim
    | cont => exact h.elim
theorem Gd.call {k : Nat} {fa : Addr} {fd : FuncData} {x : Str} {sp : Sp} (g : Gd K mg mb s a us ns) (room : Room k callerA)
    (F : ∀ base : Heap, K.In base → base.Ns mainGlobals mg → FnG P w K mg base k fa fd [x] sp) (bind : ∀ (z : Shared) (u : Value), BindsTo z fd ⟨[u], []⟩ [(x, u)])
    (yes : ∀ T : Hp, SmF T → SqL K T a (ns.map V.int) → sp [.ref a] T (fun v _ => v = .bl true) fun _ _ _ => False) : codeAny (model P w) callerA (.call (.ref fa) ⟨[.ref a], []⟩) (Good s) s := by
  have rel := vals_ints g.nums
  have short := g.short
  have size := g.nums.length
  obtain ⟨mm, so, ses, sn, hso, hsd, _⟩ := g.sys
  have nas : a ≠ sysModules := fun z => by
    have e := g.obj
    rw [z, hso] at e
    have e := Option.some.inj e
    subst e
    cases hsd
  have sys : ∀ T : Hp, ObjOk P w T s.heap sysModules (.frz so (.ext fun _ => True)) := fun T => ⟨hso, trivial, ⟨so, hso⟩, fun _ _ _ _ => trivial⟩
  cases held : K.lookup a with
  | some ob =>
    have e := g.kin a ob held
    rw [g.obj] at e
    cases e
    let T : Hp := fun b => if b = sysModules then some (.frz so (.ext fun _ => True)) else none
    have hit : T sysModules = some (.frz so (.ext fun _ => True)) := if_pos rfl
    have miss : ∀ {b}, b ≠ sysModules → T b = none := fun {b} n => if_neg n
    have only : ∀ {b}, T b ≠ none → b = sysModules := fun {b} z => Classical.byContradiction fun y => z (miss y)
    have tell : OnlyF T := fun b => (Classical.em (b = sysModules)).elim (fun y => .inr ⟨_, _, (congrArg T y).trans hit⟩) fun y => .inl (miss y)
    have seq : SqL K T a (ns.map V.int) := .inr ⟨_, us.toArray, _, held, rfl, rfl, rfl, by rw [List.size_toArray, size]; exact short, by simpa using rel⟩
    refine g.ask (T := T) ⟨fun b z => .inr (only z), fun b z => by rw [only z]; exact g.nos⟩ (fun b u z => ?_) tell seq room F bind (yes _ ⟨_, _, hit⟩ seq)
    rcases Classical.em (b = sysModules) with y | y
    · subst y
      rw [hit] at z
      cases z
      exact sys T
    · rw [miss y] at z
      cases z
  | none =>
    let T : Hp := fun b => if b = a then some (.frz { cls := .type "list", data := .seq us.toArray } (.lst (ns.map V.int))) else if b = sysModules then some (.frz so (.ext fun _ => True)) else none
    have hit : T a = some (.frz { cls := .type "list", data := .seq us.toArray } (.lst (ns.map V.int))) := if_pos rfl
    have hit2 : T sysModules = some (.frz so (.ext fun _ => True)) := (if_neg fun z => nas z.symm).trans (if_pos rfl)
    have miss : ∀ {b}, b ≠ a → b ≠ sysModules → T b = none := fun {b} n n2 => (if_neg n).trans (if_neg n2)
    have only : ∀ {b}, T b ≠ none → b = a ∨ b = sysModules := fun {b} z => Classical.byContradiction fun y => z (miss (fun q => y (.inl q)) fun q => y (.inr q))
    have tell : OnlyF T := fun b => by
      by_cases y : b = a
      · exact .inr ⟨_, _, (congrArg T y).trans hit⟩
      · by_cases y2 : b = sysModules
        · exact .inr ⟨_, _, (congrArg T y2).trans hit2⟩
        · exact .inl (miss y y2)
    have seq : SqL K T a (ns.map V.int) := .inl (.inr ⟨_, hit⟩)
    refine g.ask (T := T) ⟨fun b z => only z, fun b z => by
      rcases only z with q | q
      · rw [q]; exact held
      · rw [q]; exact g.nos⟩ (fun b u z => ?_) tell seq room F bind (yes _ ⟨_, _, hit2⟩ seq)
    by_cases y : b = a
    · subst y
      rw [hit] at z
      cases z
      exact ⟨g.obj, by rw [List.length_map]; exact short, us, _, rel, g.obj⟩
    · by_cases y2 : b = sysModules
      · subst y2
        rw [hit2] at z
        cases z
        exact sys T
      · rw [miss y y2] at z
        cases z
end
/-- what the mirror of the law's def must be -/
def LawM (n : Nat) (m : Rho → Rz Rv) : Prop := ∀ ns : List Int, ns.length ≤ n → ∃ ρ', m [.fr (scr ns)] = .ok (.fr (.bool true)) ρ'
theorem law_sp {K : PySem.W.Frag} {mg : Str → Option Value} {n : Nat} {m : Rho → Rz Rv} (L : LawM n m) {ns : List Int} (hl : ns.length ≤ n) {H : Hp} {a : Addr} (hsm : SmF H) (hS : SqL K H a (ns.map V.int)) : spM K mg 1 m [.ref a] H (fun v _ => v = .bl true) fun _ _ _ => False := by
  obtain ⟨ρ', e⟩ := L ns hl
  refine ⟨rfl, H, [.fr (scr ns)], ⟨fun _ _ h => h, rfl, fun i d h => ?_, fun i ds h => ?_, fun i j di dj p h => ?_, (fun j h => nomatch h), hsm⟩, ?_⟩
  · cases i with
    | zero => cases h; exact ⟨_, rfl, .scr hS⟩
    | succ i => cases h
  · cases i with
    | zero => cases h
    | succ i => cases h
  · cases i with
    | zero => cases h
    | succ i => cases h
  · rw [e]
    intro F' H' _ _ v hv
    cases hv
    rfl
theorem walk_ofG {l : PySem.W.OpenLaw} {most k : Nat} {prog : Program} {loose : List Str} {XP : (Str → Option Value) → Heap → Prop} {YP : World → Heap → Prop} {dr : DefRec} {K : Params → PySem.W.Frag} {x : Str} {m : Rho → Rz Rv}
    (hm : l.most = some most) (small : most ≤ sizeLine) (bare : dr.params.defaults = []) (imp : importsNone prog = true) (nos : ∀ w : World, (K w.params).lookup sysModules = none) (room : Room k callerA) (inn : ∀ (w : World) (h : Heap), YP w h → (K w.params).In h)
    (F : ∀ (w : World) (mg : Str → Option Value) (fa : Addr) (h : Heap), (K w.params).In h → h.Ns mainGlobals mg → XP mg h → mg dr.name = some (.ref fa) →
      ∃ fd : FuncData, (∀ (z : Shared) (u : Value), BindsTo z fd ⟨[u], []⟩ [(x, u)]) ∧ ∀ base : Heap, (K w.params).In base → base.Ns mainGlobals mg → FnG l.prog w (K w.params) mg base k fa fd [x] (spM (K w.params) mg 1 m))
    (L : LawM most m) : PySem.W.WalkO prog loose XP YP l.row.toRowW dr [] (fun f vs => PySem.call f vs) :=
  Att.attach_call hm bare fun w s₀ s mg mb fa o pm cd doc a us ns gr yp ho hd hcd hmg hobj hints hlen hg => by
    obtain ⟨fd, bind, hF⟩ := F w mg fa _ (inn w _ yp) gr.T.g gr.X hmg
    have g : Gd (K w.params) mg mb s a us ns := ⟨inn w _ yp, gr.T.g, gr.T.b, gr.T.builtins, gr.T.nolimit, hg, hobj, hints, Nat.le_trans hlen small, let ⟨mm, h, _⟩ := (gr.T.seer imp).mods; ⟨mm, h⟩, nos w⟩
    exact g.call room hF bind fun T hsm seq => law_sp L hlen hsm seq
end Sd
namespace Sd
open PySem L2 PySem.Spec PyProof.Rows
/-! ### a def, said over its own context -/
section
variable {P : Program} {w : World} {mg : Str → Option Value} {base : Heap} {K : PySem.W.Frag}
abbrev dX (P : Program) (w : World) (K : PySem.W.Frag) (mg : Str → Option Value) (base : Heap) (N : List Str) (qual : Str) (scope : Scope) (f : Addr) (cdv : Value) (A : Around) (outer : List Env) (s : Shared) (H : Hp) (E : L2.XK) : Cx := cxOf (L2.CX P w) P w K mg base N qual scope f cdv A outer s H E
theorem def_okX {x qual : Str} {st : Stmt} {f : Addr} {fd : FuncData} {N ps : List Str} {k : Nat} (J : List Nat) {m : Rho → Rz Fl} (Fn : Fun K x qual st f fd) (Sc : FnScope N ps (defScope st))
    (hJ : ∀ j ∈ J, j < ps.length) (hbody : ∀ (cdv : Value) (A : Around) (outer : List Env) (s : Shared) (H : Hp) (vs : List V) (E : L2.XK), Okx (dX P w K mg base N qual (defScope st) f cdv A outer s H E) (sxOf K mg J vs E) k → XSs (dX P w K mg base N qual (defScope st) f cdv A outer s H E) (sxOf K mg J vs E) (defBody st) m) :
    FnG P w K mg base (k + 1) f fd ps (spM K mg ps.length (fnM J ps.length N.length m)) := by
  obtain ⟨oc, od, kV, doc, pm, an, cdv, ct, osl, rfl, lk, hcd⟩ := Fn.ex
  refine fn_ofG lk hcd Sc (fun vs H Q E h => h.1) fun A outer s H vs Q E hg hr hsp => ⟨_, hbody cdv A outer s H vs E ?_, def_sound ?_ hJ hsp⟩
  · exact ⟨rfl, rfl, rfl, Sc.nd, passes_of rfl, takes_of rfl rfl rfl rfl, hr, hg⟩
  · have e := congrArg List.length Sc.pre
    rw [List.length_take] at e
    omega
theorem Dk.mono {x : Str} {J : List Nat} {ps : List Str} {n N j k : Nat} {mb : Rho → Rz Fl} (D : Dk K mg P w base j x J ps n N mb) (h : j ≤ k) : Dk K mg P w base k x J ps n N mb := by
  obtain ⟨f, fd, a, b, c⟩ := D.ex
  exact ⟨f, fd, a, b.mono h, c⟩
theorem Dkw.mono {x : Str} {n N j k i : Nat} {ks : List Str} {ix : List Nat} {mb : Rho → Rz Fl} (D : Dkw K mg P w base j x n N mb i ks ix) (h : j ≤ k) : Dkw K mg P w base k x n N mb i ks ix := by
  obtain ⟨f, fd, ps, b, c⟩ := D.ex
  exact ⟨f, fd, ps, b.mono h, c⟩
/-- what stands behind the top: a def by its statement -/
structure Df (K : PySem.W.Frag) (mg : Str → Option Value) (x : Str) (st : Stmt) (ps : List Str) : Prop where
  ex : ∃ (f : Addr) (fd : FuncData), Fun K x x st f fd ∧ mg x = some (.ref f) ∧ Binds K fd ps []
theorem Df.dk {x : Str} {st : Stmt} {N ps : List Str} {k : Nat} {m : Rho → Rz Fl} (D : Df K mg x st ps) (J : List Nat) (Sc : FnScope N ps (defScope st)) (hJ : ∀ j ∈ J, j < ps.length)
    (hbody : ∀ (f : Addr) (cdv : Value) (A : Around) (outer : List Env) (s : Shared) (H : Hp) (vs : List V) (E : L2.XK), Okx (dX P w K mg base N x (defScope st) f cdv A outer s H E) (sxOf K mg J vs E) k → XSs (dX P w K mg base N x (defScope st) f cdv A outer s H E) (sxOf K mg J vs E) (defBody st) m) :
    Dk K mg P w base (k + 1) x J ps ps.length N.length m := by
  obtain ⟨f, fd, Fn, hm, hb⟩ := D.ex
  have G := def_okX (P := P) (w := w) (base := base) J Fn Sc hJ (hbody f)
  obtain ⟨oc, od, kV, doc, pm, an, cdv, ct, osl, e, lk, hcd⟩ := Fn.ex
  exact ⟨f, fd, rfl, G, hm, Fn.kp, hb, _, lk, rfl⟩
theorem Dk.kw {x : Str} {st : Stmt} {ps : List Str} {n N k i : Nat} {m : Rho → Rz Fl} (ks : List Str) (ix : List Nat) (D : Df K mg x st ps) (G : Dk K mg P w base k x [] ps n N m)
    (h : ∀ (kV doc pm : Value) (an : Option Addr) (cdv ct : Value) (us ws : List Value), us.length = i → ws.length = ks.length → bindArgs (PySem.W.fnOf x x (defArgs st) (defBody st) (defScope st) .none kV doc pm an cdv ct) ⟨us, ks.zip ws⟩ = pure (ps.zip (perm ix (us ++ ws)))) : Dkw K mg P w base k x n N m i ks ix := by
  obtain ⟨f, fd, Fn, hm, hb⟩ := D.ex
  obtain ⟨f', fd', a, F, hm', hk, hb', o, lo, od⟩ := G.ex
  rw [hm] at hm'
  cases hm'
  obtain ⟨oc, od', kV, doc, pm, an, cdv, ct, osl, e, lk, hcd⟩ := Fn.ex
  rw [lk] at lo
  cases lo
  cases od
  subst e
  exact ⟨f, _, ps, F, hm, hk, fun s us ws l1 l2 => .of_eq (h kV doc pm an cdv ct us ws l1 l2)⟩
end
end Sd
namespace Sd
open PySem L2 PySem.Spec PyProof.Rows
/-! ### calls that only look at one's own lists -/
mutual
/-- no list inside -/
def hard : PD → Bool
  | .list _ => false
  | .dict _ => false
  | .tuple ds => hardAll ds
  | _ => true
def hardAll : List PD → Bool
  | [] => true
  | d :: ds => hard d && hardAll ds
end
def Rv.hard : Rv → Bool
  | .fr d => Sd.hard d
  | .ow ds => hardAll ds
mutual
theorem rp_hard {K : PySem.W.Frag} {F F' : Hp} (e : ∀ a xs, F a = some (.tup xs) → F' a = some (.tup xs)) : ∀ (d : PD) (v : V), Rp K F v d → hard d = true → Rp K F' v d
  | .none, _, h, _ => by cases h; exact .non
  | .bool b, _, h, _ => by cases h; exact .bl b
  | .int i, _, h, _ => by cases h; exact .int i
  | .str x, _, h, _ => by cases h; exact .str x
  | .list ds, _, h, z => by simp [hard] at z
  | .dict ds, _, h, z => by simp [hard] at z
  | .tuple ds, _, h, z => by
    cases h with
    | tup hs ha => exact .tup (e _ _ hs) (rpa_hard e ds _ ha (by simpa [hard] using z))
theorem rpa_hard {K : PySem.W.Frag} {F F' : Hp} (e : ∀ a xs, F a = some (.tup xs) → F' a = some (.tup xs)) : ∀ (ds : List PD) (vs : List V), RpAll K F vs ds → hardAll ds = true → RpAll K F' vs ds
  | [], _, h, _ => by cases h; exact .nil
  | d :: ds, _, h, z => by
    cases h with
    | cons h1 h2 =>
      simp only [hardAll, Bool.and_eq_true] at z
      exact .cons (rp_hard e d _ h1 z.1) (rpa_hard e ds _ h2 z.2)
end
open Classical in
noncomputable def lent (F : Hp) (ρ : Rho) (σ : L2.St) (H : Hp) : Hp := fun a => if Own ρ σ a then H a else F a
section
variable {S : Sx} {F : Hp} {ρ : Rho} {σ : L2.St} {H : Hp}
theorem Rs.ownF (R : Rs S F ρ σ H) {a : Addr} (h : Own ρ σ a) : F a = none ∧ ∃ o, H a = some o ∧ (∀ xs, o ≠ .tup xs) ∧ ∀ a b, o ≠ .frz a b := by
  obtain ⟨i, ds, h1, h2⟩ := h
  obtain ⟨p, us, e1, e2, e3, _⟩ := R.ow i ds h1
  rw [h2] at e1
  cases e1
  exact ⟨e2, e3.has⟩
theorem Rs.lentUp (R : Rs S F ρ σ H) : ∀ a o, F a = some o → lent F ρ σ H a = some o := fun a o h => by
  unfold lent
  rw [if_neg fun z => by rw [(R.ownF z).1] at h; cases h]
  exact h
theorem Rs.lentEx (R : Rs S F ρ σ H) : ∀ a o, lent F ρ σ H a = some o → H a = some o := fun a o h => by
  unfold lent at h
  split at h
  · exact h
  · exact R.ex a o h
theorem Rs.lentPeek (R : Rs S F ρ σ H) {i : Nat} {d : PD} (h : ρ.peek i = some d) (hT : S.T i = none) : ∃ v, σ[i]? = some (some v) ∧ Rp S.K (lent F ρ σ H) v d := by
  unfold Rho.peek at h
  cases e : ρ[i]? with
  | none => (rw [e] at h; cases h)
  | some c =>
    rw [e] at h
    cases c with
    | no => cases h
    | fr d' =>
      cases h
      obtain ⟨v, e1, e2⟩ := R.fr i _ e
      exact ⟨v, e1, rp_mono R.lentUp _ _ e2⟩
    | ow ds =>
      cases h
      obtain ⟨p, vs, e1, e2, e3, e4⟩ := R.ow i _ e
      exact ⟨_, e1, .lst (by unfold lent; rw [if_pos ⟨i, ds, e, e1⟩]; exact e3.lst hT) (rpa_mono R.lentUp _ _ e4)⟩
end
def hardF : Option (Str × PD) → Bool
  | none => true
  | some (_, d) => hard d
def callRP (m : Rho → Rz Rv) (ds : List PD) (ρ : Rho) : Rz Rv :=
  match m (ds.map .fr) with
  | .ok r _ => if r.hard = true then .ok r ρ else .stuck
  | .exc c f _ => if hardF f = true then .exc c f ρ else .stuck
  | .stuck => .stuck
theorem call_spP {K : PySem.W.Frag} {mg : Str → Option Value} {n N : Nat} {mb : Rho → Rz Fl} {m : Rho → Rz Rv} {S : Sx} {F : Hp} {ρ : Rho} {σ : L2.St} {H : Hp} {vs : List V} {ds : List PD} {Q : VK} (hm : m = fnM [] n N mb) (R : Rs S F ρ σ H) (hv : RpAll S.K (lent F ρ σ H) vs ds)
    (P : PostE S σ F ρ H (callRP m ds ρ) fun F' ρ' H' r => ∀ v, RvR S (Own ρ σ) H (Own ρ' σ) F' H' v r → Q v H') : spM S.K S.mg n m vs H Q fun cls d H' => S.W cls d σ H' := by
  have no : ∀ a, ¬ Own (ds.map Cl.fr) (vs.map some) a := fun a ⟨i, es, h, _⟩ => by
    obtain ⟨d, _, z⟩ := at_map_fr h
    cases z
  have R0 : Rs ⟨S.K, S.mg, [], fun _ => 0, fun cls d _ H' => S.W cls d σ H', fun _ => none⟩ (lent F ρ σ H) (ds.map .fr) (vs.map some) H := by
    refine ⟨R.lentEx, by simp [hv.len], fun i d h => ?_, fun i es h => ?_, fun i j di dj p h => ?_, (fun j h => nomatch h), R.sm.up R.lentUp⟩
    · obtain ⟨d', h1, h2⟩ := at_map_fr h
      cases h2
      obtain ⟨v, q1, q2⟩ := RpAll.get hv h1
      exact ⟨v, by rw [List.getElem?_map, q1]; rfl, q2⟩
    · obtain ⟨d', _, h2⟩ := at_map_fr h; cases h2
    · obtain ⟨d', _, h2⟩ := at_map_fr h; cases h2
  have back : ∀ F' H' ρ', Ext (Own (ds.map Cl.fr) (vs.map some)) (lent F ρ σ H) H (Own ρ' (vs.map some)) F' H' → Rs ⟨S.K, S.mg, [], fun _ => 0, fun cls d _ H' => S.W cls d σ H', fun _ => none⟩ F' ρ' (vs.map some) H' →
      ∃ F2, Ext (Own ρ σ) F H (Own ρ σ) F2 H' ∧ Rs S F2 ρ σ H' ∧ (∀ a xs, F' a = some (.tup xs) → F2 a = some (.tup xs)) ∧ ∀ a, F' a = none → F2 a = none := fun F' H' ρ' e R' => by
    classical
    have kp : ∀ a o, H a = some o → H' a = some o := fun a o h => e.kp a o h (no a)
    have upF : ∀ a o, F a = some o → (fun a => if Own ρ σ a then none else F' a : Hp) a = some o := fun a o h => by
      show (if Own ρ σ a then none else F' a) = some o
      rw [if_neg fun z => by rw [(R.ownF z).1] at h; cases h]
      exact e.fz a o (R.lentUp a o h)
    refine ⟨fun a => if Own ρ σ a then none else F' a, ⟨upF, fun a h => ?_, fun a o h _ => kp a o h, e.st, fun a h => .inl h⟩, ⟨fun a o h => ?_, R.len, fun i d h => ?_, fun i es h => ?_, R.sep, R.pin, R.sm.up upF⟩, fun a xs h => ?_, fun a h => ?_⟩
    · by_cases c : Own ρ σ a
      · exact .inr (.inr c)
      · have h : F' a ≠ none := by rw [if_neg c] at h; exact h
        rcases e.nw a h with q | q | q
        · unfold lent at q
          rw [if_neg c] at q
          exact .inl q
        · exact .inr (.inl q)
        · exact absurd q (no a)
    · by_cases c : Own ρ σ a
      · rw [if_pos c] at h; cases h
      · rw [if_neg c] at h
        exact R'.ex a o h
    · obtain ⟨v, q1, q2⟩ := R.fr i d h
      exact ⟨v, q1, rp_mono upF _ _ q2⟩
    · obtain ⟨p, us, q1, q2, q3, q4⟩ := R.ow i es h
      exact ⟨p, us, q1, if_pos ⟨i, es, h, q1⟩, q3.mono (kp p), rpa_mono upF _ _ q4⟩
    · show (if Own ρ σ a then none else F' a) = _
      rw [if_neg fun c => ?_]
      · exact h
      · obtain ⟨_, o, z, z2, _⟩ := R.ownF c
        have z1 := kp a _ z
        rw [R'.ex a _ h] at z1
        exact z2 xs (Option.some.inj z1).symm
    · show (if Own ρ σ a then none else F' a) = _
      split
      · rfl
      · exact h
  have hlen : (match m (ds.map .fr) with
    | .stuck => True
    | _ => vs.length = n) := by
    subst hm
    unfold fnM
    by_cases c : okArgs [] n (ds.map .fr) = true
    · have := (okArgs.at c).1
      rw [List.length_map, ← hv.len] at this
      split <;> trivial
    · rw [if_neg c]; trivial
  have keep : ∀ r ρ', m (ds.map .fr) = .ok r ρ' → ρ' = ds.map .fr := fun r ρ' h => by
    subst hm
    unfold fnM at h
    split at h
    · split at h
      · simp only [outs, List.foldlM_nil] at h
        cases h; rfl
      · simp only [outs, List.foldlM_nil] at h
        cases h; rfl
      · rw [if_pos rfl] at h; cases h
      · cases h
    · cases h
  unfold callRP at P
  cases e : m (ds.map .fr) with
  | stuck => rw [e] at P; exact P.elim
  | exc c f ρ' =>
    rw [e] at P hlen
    simp only at P
    by_cases hf : hardF f = true
    · rw [if_pos hf] at P
      refine ⟨hlen, _, _, R0, ?_⟩
      rw [e]
      intro F' H' cls dd e1 R1 x
      obtain ⟨F2, e2, R2, ht, _⟩ := back F' H' ρ' e1 R1
      refine P F2 H' cls dd e2 R2 ?_
      cases f with
      | none => exact x
      | some nd =>
        obtain ⟨nm, d⟩ := nd
        obtain ⟨x1, a, v, x2, x3, x4⟩ := x
        exact ⟨x1, a, v, x2, x3, rp_hard ht _ _ x4 hf⟩
    · rw [if_neg hf] at P; exact P.elim
  | ok r ρ' =>
    rw [e] at P hlen
    simp only at P
    by_cases hf : r.hard = true
    · rw [if_pos hf] at P
      obtain rfl := keep r ρ' e
      refine ⟨hlen, _, _, R0, ?_⟩
      rw [e]
      intro F' H' e1 R1 v hvv
      obtain ⟨F2, e2, R2, ht, hn⟩ := back F' H' _ e1 R1
      refine P F2 H' e2 R2 v ?_
      cases r with
      | fr d => exact rp_hard ht _ _ hvv hf
      | ow es =>
        obtain ⟨p, us, a1, a2, a3, a4, a5, a6⟩ := hvv
        have hp : H p = none := a6.elim id fun z => absurd z (no p)
        refine ⟨p, us, a1, hn p a2, a3, rpa_hard ht _ _ a4 hf, fun z => ?_, .inl hp⟩
        obtain ⟨_, us', z3, _⟩ := R.ownF z
        rw [hp] at z3; cases z3
    · rw [if_neg hf] at P; exact P.elim
/-! ### arguments that are only looked at -/
section
variable {X : Cx} {S : Sx} {k kk n N j : Nat} {mb : Rho → Rz Fl} {m : Rho → Rz Rv} {f : Addr} {fd : FuncData} {ps ks : List Str} {x y : Str} {p pos pp kpos : Pos} {e : Expr} {es : List Expr} {kws : List Keyword} {ma mk : Rho → Rz (List PD)} {ix : List Nat} {nm : Option Str}
def tAP (S : Sx) (m : Rho → Rz (List PD)) : TA := fun σ H Q => ∃ F ρ, Rs S F ρ σ H ∧ PostE S σ F ρ H (m ρ) fun F' ρ' H' ds => ∀ vs, RpAll S.K (lent F' ρ' σ H') vs ds → Q vs H'
def XAP (X : Cx) (S : Sx) (es : List Expr) (m : Rho → Rz (List PD)) : Prop := PA X es (tAP S m)
def XKP (X : Cx) (S : Sx) (es : List Keyword) (m : Rho → Rz (List PD)) : Prop := PK X es (tAP S m)
theorem xap_nil : XAP X S [] mNil := PA.imp pa_nil fun σ H Q q => by
  obtain ⟨F, ρ, R, P⟩ := q
  exact PostE.ok P R [] .nil
theorem xkp_nil : XKP X S [] mNil := PK.imp pk_nil fun σ H Q q => by
  obtain ⟨F, ρ, R, P⟩ := q
  exact PostE.ok P R [] .nil
theorem tAP_cons {m : Rho → Rz Rv} {n : Rho → Rz (List PD)} {σ : L2.St} {H : Hp} {Q : List V → Hp → Prop} (q : tAP S (mCons m n) σ H Q) : tCons (tE S m) (tAP S n) σ H Q := by
  obtain ⟨F, ρ, R, P⟩ := q
  refine tE.use (β := List PD) (g := fun x ρ1 => (n ρ1).bind fun xs ρ2 => .ok (x :: xs) ρ2) R P fun v d F1 ρ1 H1 e1 R1 D1 P1 => ?_
  refine ⟨F1, ρ1, R1, PostE.mono (PostE.bind P1) fun F2 ρ2 H2 ds e2 R2 P2 vs hv => ?_⟩
  exact PostE.ok (P2 F2 e2) R2 (v :: vs) (.cons (rp_mono R2.lentUp _ _ (rp_mono e2.fz _ _ D1)) hv)
def mPkA (i : Nat) (n : Rho → Rz (List PD)) : Rho → Rz (List PD) := fun ρ => match ρ.peek i with
  | none => .stuck
  | some _ => (n ρ).bind fun xs ρ1 => match ρ1.peek i with
    | some d => .ok (d :: xs) ρ1
    | none => .stuck
theorem tAP_pk {i : Nat} {n : Rho → Rz (List PD)} {σ : L2.St} {H : Hp} {Q : List V → Hp → Prop} (hT : S.T i = none) (q : tAP S (mPkA i n) σ H Q) : tCons (tVar i) (tAP S n) σ H Q := by
  obtain ⟨F, ρ, R, P⟩ := q
  unfold mPkA at P
  cases hp : ρ.peek i with
  | none => rw [hp] at P; exact P.elim
  | some d0 =>
    rw [hp] at P
    obtain ⟨v, ev, _⟩ := R.lentPeek hp hT
    refine ⟨v, ev, F, ρ, R, PostE.mono (PostE.bind P) fun F1 ρ1 H1 xs e1 R1 P1 vs hv => ?_⟩
    have P1 := P1 F1 e1
    cases hp1 : ρ1.peek i with
    | none => rw [hp1] at P1; exact P1.elim
    | some d =>
      rw [hp1] at P1
      obtain ⟨v', ev', D⟩ := R1.lentPeek hp1 hT
      have := slot_inj ev ev'
      subst this
      exact PostE.ok P1 R1 _ (.cons D hv)
theorem xap_cons {m : Rho → Rz Rv} {n : Rho → Rz (List PD)} (ha : XE X S e m) (hr : XAP X S es n) (hs : starEach (e :: es) X.env = (false, eval e X.env) :: starEach es X.env := by rfl) : XAP X S (e :: es) (mCons m n) := PA.imp (pa_cons ha hr hs) fun _ _ _ q => tAP_cons q
theorem xkp_cons {m : Rho → Rz Rv} {n : Rho → Rz (List PD)} (ha : XE X S e m) (hr : XKP X S kws n) : XKP X S (⟨nm, e, kpos⟩ :: kws) (mCons m n) := PK.imp (pk_cons ha hr) fun _ _ _ q => tAP_cons q
theorem xap_pk (i : Nat) {n : Rho → Rz (List PD)} (hr : XAP X S es n) (hN : X.N[i]? = some y := by rfl) (hy : Vis X.env.scope y := by first | exact Or.inl rfl | exact Or.inr (Or.inl rfl) | exact Or.inr (Or.inr rfl)) (hdy : (y == ("__debug__" : Str)) = false := by decide) (hcd : (y == ("__classdict__" : Str)) = false := by decide)
    (hs : starEach (.Name y pp :: es) X.env = (false, eval (.Name y pp) X.env) :: starEach es X.env := by rfl) (hT : S.T i = none := by first | rfl | assumption) : XAP X S (.Name y pp :: es) (mPkA i n) := PA.imp (pa_cons (pe_var hN hy hdy hcd) hr hs) fun _ _ _ q => tAP_pk hT q
theorem xkp_pk (i : Nat) {n : Rho → Rz (List PD)} (hr : XKP X S kws n) (hN : X.N[i]? = some y := by rfl) (hy : Vis X.env.scope y := by first | exact Or.inl rfl | exact Or.inr (Or.inl rfl) | exact Or.inr (Or.inr rfl)) (hdy : (y == ("__debug__" : Str)) = false := by decide) (hcd : (y == ("__classdict__" : Str)) = false := by decide) (hT : S.T i = none := by first | rfl | assumption) :
    XKP X S (⟨nm, .Name y pp, kpos⟩ :: kws) (mPkA i n) := PK.imp (pk_cons (pe_var hN hy hdy hcd) hr) fun _ _ _ q => tAP_pk hT q
def mCallP (m : Rho → Rz Rv) (ma : Rho → Rz (List PD)) : Rho → Rz Rv := fun ρ => (ma ρ).bind fun ds ρ1 => callRP m ds ρ1
theorem xe_callP (o : Okx X S k) (D : Dk X.K X.mg X.prog X.w X.base k x [] ps n N mb) (ha : XAP X S (e :: es) ma) (hg : Gl X x := by rfl) (ndb : (x == ("__debug__" : Str)) = false := by decide) (he : starEach (e :: es) X.env = (false, eval e X.env) :: starEach es X.env := by rfl) (npl : (backTo pos (starEach es X.env)).any (·.1) = false := by rfl) :
    XE X S (.Call (.Name x p) (e :: es) [] pos) (mCallP (fnM [] n N mb) ma) := by
  obtain ⟨f, fd, hn, F, hm, hk, hb, _⟩ := D.ex
  refine PE.imp (pe_callG F o.gd o.rm hg hm hk hb o.tk ha ndb he npl) fun σ H Q q => ?_
  obtain ⟨F1, ρ, R, P⟩ := q
  refine ⟨F1, ρ, R, PostE.mono (PostE.bind P) fun F2 ρ2 H2 ds e2 R2 P2 vs hv => ?_⟩
  rw [← o.hK, ← o.hM]
  exact call_spP (K := S.K) (mg := S.mg) rfl R2 hv ((P2 F2 e2).mono fun _ _ _ _ _ _ q => fun v hv => q v (hv.mono e2))
def mCallKP (ix : List Nat) (nk : Nat) (m : Rho → Rz Rv) (mk : Rho → Rz (List PD)) : Rho → Rz Rv := fun ρ => (mk ρ).bind fun es ρ2 => if es.length = nk then callRP m (perm ix es) ρ2 else .stuck
/-- all arguments by keyword -/
theorem xe_callKP (o : Okx X S k) (D : Dkw X.K X.mg X.prog X.w X.base k x n N mb 0 ks ix) (hkw : XKP X S kws mk) (hg : Gl X x := by rfl) (hall : (backToKw pos (keywordEach kws X.env)).all (·.1.isSome) = true := by rfl) (hks : (backToKw pos (keywordEach kws X.env)).filterMap (·.1) = ks := by rfl)
    (ndb : (x == ("__debug__" : Str)) = false := by decide)
    (npl : ((backTo pos (starEach [] X.env)).any (·.1) || (backToKw pos (keywordEach kws X.env)).any (·.1.isNone)) = false := by rfl) :
    XE X S (.Call (.Name x p) [] kws pos) (mCallKP ix ks.length (fnM [] n N mb) mk) := by
  obtain ⟨f, fd, ps, F, hm, hk, hb⟩ := D.ex
  refine ⟨fun pn s σ H Q I h => ?_⟩
  obtain ⟨F1, ρ, R, P⟩ := h
  refine wpAny_Call_Name_kw (ld_glob I hg hm ?_ ndb)
  have t1 : tAP S mk σ H fun zs H2 => zs.length = ks.length ∧ spM S.K S.mg n (fnM [] n N mb) (perm ix ([] ++ zs)) H2 Q fun cls d H' => S.W cls d σ H' := by
    refine ⟨F1, ρ, R, PostE.mono (PostE.bind P) fun F3 ρ3 H3 es e3 R3 P3 zs hz => ?_⟩
    have P3 := P3 F3 e3
    by_cases c : es.length = ks.length
    · rw [if_pos c] at P3
      exact ⟨hz.len.trans c, call_spP (K := S.K) (mg := S.mg) rfl R3 (rp_perm hz ix) (P3.mono fun _ _ _ _ _ _ q => fun v hv => q v (hv.mono e3))⟩
    · rw [if_neg c] at P3
      exact P3.elim
  refine PySem.W.callWith_KW0 (h₀ := X.base) I.ok.mod.kin hk hall (thn (hkw.run pos pn s σ H _ I t1) fun ws s2 ⟨zs, H2, I2, rz, q2, q3⟩ => ⟨I2.kIn, ?_⟩) npl
  rw [hks]
  rw [o.hK, o.hM] at q3
  exact run_gk (us := []) (vs := []) F o.gd o.rm hb o.tk I2 rfl (rz.length.symm.trans q2) rz q3
def mCallPKP (ix : List Nat) (j nk : Nat) (m : Rho → Rz Rv) (ma mk : Rho → Rz (List PD)) : Rho → Rz Rv := fun ρ => (ma ρ).bind fun ds ρ1 => (mk ρ1).bind fun es ρ2 => if ds.length = j ∧ es.length = nk then callRP m (perm ix (ds ++ es)) ρ2 else .stuck
/-- values, then keywords -/
theorem xe_callPKP (o : Okx X S k) (D : Dkw X.K X.mg X.prog X.w X.base k x n N mb j ks ix) (ha : XA X S (e :: es) ma) (hkw : XKP X S kws mk) (hg : Gl X x := by rfl) (hall : (backToKw pos (keywordEach kws X.env)).all (·.1.isSome) = true := by rfl) (hks : (backToKw pos (keywordEach kws X.env)).filterMap (·.1) = ks := by rfl)
    (ndb : (x == ("__debug__" : Str)) = false := by decide) (he : starEach (e :: es) X.env = (false, eval e X.env) :: starEach es X.env := by rfl)
    (npl : ((backTo pos (starEach (e :: es) X.env)).any (·.1) || (backToKw pos (keywordEach kws X.env)).any (·.1.isNone)) = false := by rfl) :
    XE X S (.Call (.Name x p) (e :: es) kws pos) (mCallPKP ix j ks.length (fnM [] n N mb) ma mk) := by
  obtain ⟨f, fd, ps, F, hm, hk, hb⟩ := D.ex
  refine ⟨fun pn s σ H Q I h => ?_⟩
  obtain ⟨F1, ρ, R, P⟩ := h
  refine wpAny_Call_Name_kw (ld_glob I hg hm ?_ ndb)
  have t1 : tA S ma σ H fun vs H1 => tAP S mk σ H1 fun zs H2 => vs.length = j ∧ zs.length = ks.length ∧ spM S.K S.mg n (fnM [] n N mb) (perm ix (vs ++ zs)) H2 Q fun cls d H' => S.W cls d σ H' := by
    refine ⟨F1, ρ, R, PostE.mono (PostE.bind P) fun F2 ρ2 H2 ds e2 R2 P2 vs hv => ?_⟩
    refine ⟨F2, ρ2, R2, PostE.mono (PostE.bind (P2 F2 e2)) fun F3 ρ3 H3 es e3 R3 P3 zs hz => ?_⟩
    have P3 := P3 F3 e3
    by_cases c : ds.length = j ∧ es.length = ks.length
    · rw [if_pos c] at P3
      exact ⟨hv.len.trans c.1, hz.len.trans c.2, call_spP (K := S.K) (mg := S.mg) rfl R3 (rp_perm (RpAll.app (rpa_mono R3.lentUp _ _ (rpa_mono e3.fz _ _ hv)) hz) ix) (P3.mono fun _ _ _ _ _ _ q => fun v hv => q v (hv.mono (e2.trans e3)))⟩
    · rw [if_neg c] at P3
      exact P3.elim
  refine PySem.W.callWith_KW (h₀ := X.base) I.ok.mod.kin hk hall (thn (ha.run pos pn s σ H _ I t1) fun us s1 ⟨vs, H1, I1, r, q⟩ => ?_) npl he
  refine thn (hkw.run pos pn s1 σ H1 _ I1 q) fun ws s2 ⟨zs, H2, I2, rz, q1, q2, q3⟩ => ⟨I2.kIn, ?_⟩
  rw [hks]
  rw [o.hK, o.hM] at q3
  exact run_gk F o.gd o.rm hb o.tk I2 (r.length.symm.trans q1) (rz.length.symm.trans q2) (r.append rz) q3
end
/-! ### a op b op c -/
section
variable {X : Cx} {S : Sx} {k : Nat} {a b c : Expr} {ma mb mc : Rho → Rz Rv} {pos : Pos} {op op' : CmpOp} {r r' : R2} {g g' : PD → PD → Option Rv}
def mChain (g g' : PD → PD → Option Rv) (ma mb mc : Rho → Rz Rv) : Rho → Rz Rv := fun ρ => (ma ρ).bind fun x ρ1 => (mb ρ1).bind fun y ρ2 => match g x.d y.d with
  | some (.fr (.bool true)) => (mc ρ2).bind fun z ρ3 => (match g' y.d z.d with
    | some w => .ok w ρ3
    | none => .stuck)
  | some (.fr (.bool false)) => .ok (.fr (.bool false)) ρ2
  | _ => .stuck
theorem tChain_ok (hs : Sim2 X S r g) (hs' : Sim2 X S r' g') {σ : L2.St} {H : Hp} {Q : VK} (q : tE S (mChain g g' ma mb mc) σ H Q) : tChain r r' (tE S ma) (tE S mb) (tE S mc) σ H Q := by
  obtain ⟨F, ρ, R, P⟩ := q
  refine tE.use (β := Rv) (g := fun x ρ1 => (mb ρ1).bind fun y ρ2 => match g x y.d with
    | some (.fr (.bool true)) => (mc ρ2).bind fun z ρ3 => (match g' y.d z.d with
      | some w => .ok w ρ3
      | none => .stuck)
    | some (.fr (.bool false)) => .ok (.fr (.bool false)) ρ2
    | _ => .stuck) R P fun v1 d1 F1 ρ1 H1 e1 R1 D1 P1 => ?_
  refine tE.use (β := Rv) (g := fun y ρ2 => match g d1 y with
    | some (.fr (.bool true)) => (mc ρ2).bind fun z ρ3 => (match g' y z.d with
      | some w => .ok w ρ3
      | none => .stuck)
    | some (.fr (.bool false)) => .ok (.fr (.bool false)) ρ2
    | _ => .stuck) R1 P1 fun v2 d2 F2 ρ2 H2 e2 R2 D2 P2 => ?_
  cases hz : g d1 d2 with
  | none => rw [hz] at P2; exact P2.elim
  | some z =>
    rw [hz] at P2
    cases z with
    | ow ds => exact P2.elim
    | fr d =>
      cases d with
      | bool t =>
        refine hs F2 ρ2 σ H2 v1 v2 d1 d2 _ _ R2 (rp_mono e2.fz _ _ D1) D2 hz fun F3 H3 v e3 R3 hv => ?_
        cases hv
        refine ⟨t, rfl, ?_⟩
        cases t with
        | false =>
          simp only at P2
          (rw [if_neg Bool.false_ne_true])
          exact P2 F3 H3 e3 R3 _ (.bl false)
        | true =>
          simp only at P2
          rw [if_pos rfl]
          refine tE.use (β := Rv) (g := fun z ρ3 => match g' d2 z with
            | some w => .ok w ρ3
            | none => .stuck) R3 (P2.from e3) fun v3 d3 F4 ρ4 H4 e4 R4 D4 P4 => ?_
          cases hw : g' d2 d3 with
          | none => rw [hw] at P4; exact P4.elim
          | some w =>
            rw [hw] at P4
            refine hs' F4 ρ4 σ H4 v2 v3 d2 d3 w Q R4 (rp_mono e4.fz _ _ (rp_mono e3.fz _ _ D2)) D4 hw fun F' H' v e' R' hv => P4 F' H' e' R' v ?_
            exact hv.mono (e1.trans (e2.trans (e3.trans (e4.trans Ext.refl))))
      | _ => exact P2.elim
theorem xe_chain (ho : OpR X (compareOp op) r) (ho' : OpR X (compareOp op') r') (hs : Sim2 X S r g) (hs' : Sim2 X S r' g') (ha : XE X S a ma) (hb : XE X S b mb) (hc : XE X S c mc) (hm : lastMarks [op, op'] [b, c] = false := by with_unfolding_all rfl) :
    XE X S (.Compare a [op, op'] [b, c] pos) (mChain g g' ma mb mc) := PE.imp (pe_chain ho ho' ha hb hc hm) fun _ _ _ q => tChain_ok hs hs' q
theorem xt_chain (ho : OpR X (compareOp op) r) (ho' : OpR X (compareOp op') r') (hs : Sim2 X S r g) (hs' : Sim2 X S r' g') (ha : XE X S a ma) (hb : XE X S b mb) (hc : XE X S c mc) (hm : lastMarks [op, op'] [b, c] = false := by with_unfolding_all rfl) :
    XT X S (.Compare a [op, op'] [b, c] pos) (mB (mChain g g' ma mb mc)) := PT.imp (pt_chain ho ho' ha hb hc hm) fun σ H Q q => tChain_ok hs hs' (tT_B q)
/-! ### xs[lo:hi:st] -/
def stepL {α : Type} (xs : List α) (lo hi st : Option Int) : List α := perm (sliceRange (sliceBounds lo hi st xs.length).1 (sliceBounds lo hi st xs.length).2.1 (sliceBounds lo hi st xs.length).2.2) xs
def tStep (K : PySem.W.Frag) (te : TE) (tl tu ts : TO) : TE := fun σ H Q => te σ H fun x H1 => tl σ H1 fun lo H2 => tu σ H2 fun hi H3 => ts σ H3 fun st H4 => st ≠ some 0 ∧ ∃ a xs, x = .ref a ∧ SqL K H4 a xs ∧ ∀ p, H4 p = none → Q (.ref p) (upd H4 p (.lst (stepL xs lo hi st)))
theorem vals_step {vs : List V} {us : List Value} (r : Vals vs us) (lo hi st : Option Int) : Vals (stepL vs lo hi st) (slicePick us.toArray lo hi st).toList := by
  unfold stepL slicePick
  rw [List.size_toArray, ← r.length]
  have e := vals_perm r (sliceRange (sliceBounds lo hi st vs.length).1 (sliceBounds lo hi st vs.length).2.1 (sliceBounds lo hi st vs.length).2.2)
  unfold perm at e ⊢
  simpa using e
end
end Sd
namespace Sd
open PySem L2 PySem.Spec PyProof.Rows
section
variable {X : Cx} {S : Sx} {k : Nat} {e : Expr} {te : TE} {lo hi : Option Expr} {st : Expr} {tl tu ts : TO} {p3 pos : Pos}
theorem pe_step (he : PE X e te) (hl : PO X lo tl) (hu : PO X hi tu) (hst : PO X (some st) ts) (ht : ∀ (l sl : Value), subscripted (.Slice lo hi (some st) p3) false l sl = operate [l, sl] (getItem l sl) := by intro _ _; rfl) : PE X (.Subscript e (.Slice lo hi (some st) p3) pos) (tStep X.K te tl tu ts) := by
  refine ⟨fun pn s σ H Q I h => ?_⟩
  refine Subscript_ (thn (he.run pn s σ H _ I h) fun v s1 ⟨x, H1, I1, r1, q1⟩ => ?_)
  refine wpAny_Slice (thn (hl.run pn s1 σ H1 _ I1 q1) fun vl s2 ⟨l, H2, I2, pl, q2⟩ => ?_)
  refine thn (hu.run pn s2 σ H2 _ I2 q2) fun vu s3 ⟨u, H3, I3, pu, q3⟩ => ?_
  refine thn (hst.run pn s3 σ H3 _ I3 q3) fun vs s4 ⟨o, H4, I4, ps, q4⟩ => ?_
  obtain ⟨h0, a, xs, ex, hx, q⟩ := q4
  subst ex
  cases r1
  have I5 : Inv X pn σ H4 { s4 with heap := s4.heap.push { cls := .type "slice", data := .fields #[vl, vu, vs] } } := I4.kept (t' := s4.toks) fun b ob q => Heap.get?_push_of_some _ q
  obtain ⟨its, r, ht', hz⟩ := I5.list hx
  have hlen := r.length
  show wpAny (model X.prog X.w) X.A (subscriptTail e (.Slice lo hi (some st) p3) (.ref a) (.ref s4.heap.objs.size)) (EP X pn σ Q) X.xe { s4 with heap := s4.heap.push { cls := .type "slice", data := .fields #[vl, vu, vs] } }
  refine tail_any (ops := [.ref a, .ref s4.heap.objs.size]) ht'.isList.typeIs (PySem.slot_list_getitem.lookup) ?_ (by with_unfolding_all rfl)
  refine wpAny_getItem_list_slice ht'.isList (Heap.IsSliceOf.new _ vl vu vs) pl pu ps h0 ?_ (by rw [List.size_toArray]; omega)
  have rs := vals_step r l u o
  have hl2 : (stepL xs l u o).length ≤ sizeLine := by
    rw [rs.length, Array.length_toList]
    exact Nat.le_trans (PySem.slicePick_size_le _ _ _ _) (by rw [List.size_toArray]; omega)
  refine ⟨.ref _, _, I5.laid (t' := s4.toks) (o := .lst (stepL xs l u o)) (fun b ob q => Heap.get?_push_of_some _ q) (Nat.le_refl _) ?_, rfl, q _ (I5.hok.fresh (Nat.le_refl _))⟩
  refine ⟨hl2, _, 0, rs, ?_⟩
  rw [Array.toArray_toList]
  (exact Heap.get?_push_size _ rfl)
def gStep (c : PD) (lo hi st : Option Int) : Option Rv := if st = some 0 then none else match c with
  | .list ds => some (.ow (stepL ds lo hi st))
  | _ => none
def mStepN (j : Nat) (ml mh ms : Rho → Rz (Option Int)) : Rho → Rz Rv := fun ρ => match ρ.peek j with
  | none => .stuck
  | some _ => (ml ρ).bind fun lo ρ1 => (mh ρ1).bind fun hi ρ2 => (ms ρ2).bind fun st ρ3 => match ρ3.peek j with
    | some c => (match gStep c lo hi st with
      | some d => .ok d ρ3
      | none => .stuck)
    | none => .stuck
variable {x : Str} {px : Pos} {ml mh ms : Rho → Rz (Option Int)}
theorem xe_stepN (o : Okx X S k) (j : Nat) (hl : XO X S lo ml) (hh : XO X S hi mh) (hs : XO X S (some st) ms) (hN : X.N[j]? = some x := by rfl) (hv : Vis X.env.scope x := by first | exact Or.inl rfl | exact Or.inr (Or.inl rfl) | exact Or.inr (Or.inr rfl)) (hd : (x == ("__debug__" : Str)) = false := by decide)
    (hcd : (x == ("__classdict__" : Str)) = false := by decide) (hT : S.T j = none := by first | rfl | assumption) : XE X S (.Subscript (.Name x px) (.Slice lo hi (some st) p3) pos) (mStepN j ml mh ms) := PE.imp (pe_step (pe_var (i := j) hN hv hd hcd) hl hh hs) fun σ H Q q => by
  obtain ⟨F, ρ, R, P⟩ := q
  unfold mStepN at P
  cases hp0 : ρ.peek j with
  | none => rw [hp0] at P; exact P.elim
  | some c0 =>
    rw [hp0] at P
    obtain ⟨v, ev, _⟩ := R.peek hp0 hT
    refine ⟨v, ev, F, ρ, R, PostE.mono (PostE.bind P) fun F1 ρ1 H1 l e1 R1 P1 => ?_⟩
    refine ⟨F1, ρ1, R1, PostE.mono (PostE.bind (P1 F1 e1)) fun F2 ρ2 H2 u e2 R2 P2 => ?_⟩
    refine ⟨F2, ρ2, R2, PostE.mono (PostE.bind (P2 F2 e2)) fun F3 ρ3 H3 t e3 R3 P3 => ?_⟩
    have P4 := P3 F3 e3
    cases hp : ρ3.peek j with
    | none => rw [hp] at P4; exact P4.elim
    | some c =>
      rw [hp] at P4
      simp only at P4
      cases hg : gStep c l u t with
      | none => rw [hg] at P4; exact P4.elim
      | some z =>
        rw [hg] at P4
        obtain ⟨v', ev', pk⟩ := R3.peek hp hT
        have := slot_inj ev ev'
        subst this
        unfold gStep at hg
        split at hg
        · cases hg
        · rename_i h0
          refine ⟨h0, ?_⟩
          split at hg
          · rename_i ds
            cases hg
            have fin : ∀ F' H' v, Ext (Own ρ3 σ) F3 H3 (Own ρ3 σ) F' H' → Rs S F' ρ3 σ H' → RvR S (Own ρ3 σ) H3 (Own ρ3 σ) F' H' v (.ow (stepL ds l u t)) → Q v H' := fun F' H' v e' R' hv => P4 F' H' e' R' v (hv.mono (e1.trans (e2.trans (e3.trans Ext.refl))))
            rcases pk with hc | ⟨p, vs, ds', rfl, e, h1, h2⟩
            · cases hc with
              | lst h1 h2 =>
                refine ⟨_, _, rfl, .inl (.inl (R3.ex _ _ h1)), fun p hp => Rs.newL R3 hp ?_ fin⟩
                unfold stepL
                rw [h2.len]
                exact rp_perm h2 _
            · cases e
              refine ⟨_, _, rfl, .inl (.inl h1), fun p hp => Rs.newL R3 hp ?_ fin⟩
              unfold stepL
              rw [h2.len]
              exact rp_perm h2 _
          · cases hg
end
end Sd
namespace Sd
open PySem L2 PySem.Spec PyProof.Rows
/-! ### short names -/
abbrev qEq : PD → PD → Option Rv := fun x y => (gEq x y).map .fr
abbrev qNe : PD → PD → Option Rv := fun x y => (gNe x y).map .fr
abbrev qLt : PD → PD → Option Rv := fun x y => (gLt x y).map .fr
abbrev qLe : PD → PD → Option Rv := fun x y => (gLe x y).map .fr
abbrev qGt : PD → PD → Option Rv := fun x y => (gGt x y).map .fr
abbrev qGe : PD → PD → Option Rv := fun x y => (gGe x y).map .fr
abbrev qIs : PD → PD → Option Rv := fun x y => (gIs x y).map .fr
abbrev qIsNot : PD → PD → Option Rv := fun x y => (gIsNot x y).map .fr
abbrev qSub : PD → PD → Option Rv := fun x y => (gSubI x y).map .fr
abbrev qDiv : PD → PD → Option Rv := fun x y => (gDivI x y).map .fr
abbrev qMod : PD → PD → Option Rv := fun x y => (gModI x y).map .fr
abbrev qPow : PD → PD → Option Rv := fun x y => (gPowI x y).map .fr
abbrev qShl : PD → PD → Option Rv := fun x y => (gShlI x y).map .fr
abbrev qShr : PD → PD → Option Rv := fun x y => (gShrI x y).map .fr
abbrev qAnd : PD → PD → Option Rv := fun x y => (gAndI x y).map .fr
abbrev cLen : List PD → Option Rv := fun ds => (g1 gLen ds).map .fr
abbrev cAbs : List PD → Option Rv := fun ds => (g1 gAbs ds).map .fr
abbrev cInt : List PD → Option Rv := fun ds => (g1 gInt ds).map .fr
abbrev cSum : List PD → Option Rv := fun ds => (g1 gSumL ds).map .fr
abbrev cMax : List PD → Option Rv := fun ds => (gMax2 ds).map .fr
abbrev cMin : List PD → Option Rv := fun ds => (gMin2 ds).map .fr
abbrev cRepr : List PD → Option Rv := fun ds => (g1 gRepr ds).map .fr
section
variable {X : Cx} {S : Sx} {k : Nat} {a b : Expr} {ma mb : Rho → Rz Rv} {pos : Pos}
theorem xe_eq (o : Okx X S k) (ha : XE X S a ma) (hb : XE X S b mb) (hm : behindInMarks .Eq b = false := by first | exact nomark _ | with_unfolding_all rfl) : XE X S (.Compare a [.Eq] [b] pos) (mOp2 qEq ma mb) := xe_cmp (op_eqD o.un) (sim_eq o.hK) ha hb hm
theorem xe_ne (o : Okx X S k) (ha : XE X S a ma) (hb : XE X S b mb) (hm : behindInMarks .NotEq b = false := by first | exact nomark _ | with_unfolding_all rfl) : XE X S (.Compare a [.NotEq] [b] pos) (mOp2 qNe ma mb) := xe_cmp (op_neD o.un) (sim_ne o.hK) ha hb hm
theorem xe_lt (o : Okx X S k) (ha : XE X S a ma) (hb : XE X S b mb) (hm : behindInMarks .Lt b = false := by first | exact nomark _ | with_unfolding_all rfl) : XE X S (.Compare a [.Lt] [b] pos) (mOp2 qLt ma mb) := xe_cmp op_lt sim_lt ha hb hm
theorem xe_le (o : Okx X S k) (ha : XE X S a ma) (hb : XE X S b mb) (hm : behindInMarks .LtE b = false := by first | exact nomark _ | with_unfolding_all rfl) : XE X S (.Compare a [.LtE] [b] pos) (mOp2 qLe ma mb) := xe_cmp op_le sim_le ha hb hm
theorem xe_gt (o : Okx X S k) (ha : XE X S a ma) (hb : XE X S b mb) (hm : behindInMarks .Gt b = false := by first | exact nomark _ | with_unfolding_all rfl) : XE X S (.Compare a [.Gt] [b] pos) (mOp2 qGt ma mb) := xe_cmp op_gt sim_gt ha hb hm
theorem xe_ge (o : Okx X S k) (ha : XE X S a ma) (hb : XE X S b mb) (hm : behindInMarks .GtE b = false := by first | exact nomark _ | with_unfolding_all rfl) : XE X S (.Compare a [.GtE] [b] pos) (mOp2 qGe ma mb) := xe_cmp op_ge sim_ge ha hb hm
theorem xe_is (o : Okx X S k) (ha : XE X S a ma) (hb : XE X S b mb) (hm : behindInMarks .Is b = false := by first | exact nomark _ | with_unfolding_all rfl) : XE X S (.Compare a [.Is] [b] pos) (mOp2 qIs ma mb) := xe_cmp op_isN sim_is ha hb hm
theorem xe_isnot (o : Okx X S k) (ha : XE X S a ma) (hb : XE X S b mb) (hm : behindInMarks .IsNot b = false := by first | exact nomark _ | with_unfolding_all rfl) : XE X S (.Compare a [.IsNot] [b] pos) (mOp2 qIsNot ma mb) := xe_cmp op_notN sim_isnot ha hb hm
theorem xt_eq (o : Okx X S k) (ha : XE X S a ma) (hb : XE X S b mb) (hm : behindInMarks .Eq b = false := by first | exact nomark _ | with_unfolding_all rfl) : XT X S (.Compare a [.Eq] [b] pos) (mB (mOp2 qEq ma mb)) := xt_cmp (op_eqD o.un) (sim_eq o.hK) ha hb hm
theorem xt_ne (o : Okx X S k) (ha : XE X S a ma) (hb : XE X S b mb) (hm : behindInMarks .NotEq b = false := by first | exact nomark _ | with_unfolding_all rfl) : XT X S (.Compare a [.NotEq] [b] pos) (mB (mOp2 qNe ma mb)) := xt_cmp (op_neD o.un) (sim_ne o.hK) ha hb hm
theorem xt_lt (o : Okx X S k) (ha : XE X S a ma) (hb : XE X S b mb) (hm : behindInMarks .Lt b = false := by first | exact nomark _ | with_unfolding_all rfl) : XT X S (.Compare a [.Lt] [b] pos) (mB (mOp2 qLt ma mb)) := xt_cmp op_lt sim_lt ha hb hm
theorem xt_le (o : Okx X S k) (ha : XE X S a ma) (hb : XE X S b mb) (hm : behindInMarks .LtE b = false := by first | exact nomark _ | with_unfolding_all rfl) : XT X S (.Compare a [.LtE] [b] pos) (mB (mOp2 qLe ma mb)) := xt_cmp op_le sim_le ha hb hm
theorem xt_gt (o : Okx X S k) (ha : XE X S a ma) (hb : XE X S b mb) (hm : behindInMarks .Gt b = false := by first | exact nomark _ | with_unfolding_all rfl) : XT X S (.Compare a [.Gt] [b] pos) (mB (mOp2 qGt ma mb)) := xt_cmp op_gt sim_gt ha hb hm
theorem xt_ge (o : Okx X S k) (ha : XE X S a ma) (hb : XE X S b mb) (hm : behindInMarks .GtE b = false := by first | exact nomark _ | with_unfolding_all rfl) : XT X S (.Compare a [.GtE] [b] pos) (mB (mOp2 qGe ma mb)) := xt_cmp op_ge sim_ge ha hb hm
theorem xt_is (o : Okx X S k) (ha : XE X S a ma) (hb : XE X S b mb) (hm : behindInMarks .Is b = false := by first | exact nomark _ | with_unfolding_all rfl) : XT X S (.Compare a [.Is] [b] pos) (mB (mOp2 qIs ma mb)) := xt_cmp op_isN sim_is ha hb hm
theorem xt_isnot (o : Okx X S k) (ha : XE X S a ma) (hb : XE X S b mb) (hm : behindInMarks .IsNot b = false := by first | exact nomark _ | with_unfolding_all rfl) : XT X S (.Compare a [.IsNot] [b] pos) (mB (mOp2 qIsNot ma mb)) := xt_cmp op_notN sim_isnot ha hb hm
end
def blkB (N : List Str) (sc scope : Scope) (own : List (Str × Nat)) : Bool := decide (scope.kind = .function) && (scope.names.all fun y => decide (scope.names.lookup y.1 = some y.2)) && (own.all fun p => decide (N[p.2]? = some p.1)) &&
  (scope.names.all fun y => decide (y.2 = .free → sc.names.lookup y.1 = some .cell ∨ sc.names.lookup y.1 = some .free)) && scope.names.all fun y => decide (y.2 = .local ∨ y.2 = .cell → y.1 ∈ own.map (·.1) ∨ y.1 ∉ N)
theorem blk_ok {N : List Str} {sc scope : Scope} {own : List (Str × Nat)} (h : blkB N sc scope own = true) : BlkOk N sc scope own := by
  unfold blkB at h
  simp only [Bool.and_eq_true, decide_eq_true_eq, List.all_eq_true] at h
  exact ⟨h.1.1.1.1, h.1.1.1.2, h.1.1.2, h.1.2, h.2⟩
end Sd
namespace Sd
open PySem L2 PySem.Spec PyProof.Rows
section
variable {X : Cx} {S : Sx} {k : Nat} {e : Expr} {es : List Expr} {te : TE} {t : TA} {p pos : Pos}
/-! ### *e among items -/
def tStarL (K : PySem.W.Frag) (te : TE) (t : TA) : TA := fun σ H Q => te σ H fun x H1 => ∃ a xs, x = .ref a ∧ SqL K H1 a xs ∧ t σ H1 fun ys H2 => Q (xs ++ ys) H2
theorem pa_star (he : PE X e te) (hr : PA X es t) (hs : starEach (.Starred e p :: es) X.env = (true, eval e X.env) :: starEach es X.env := by rfl) : PA X (.Starred e p :: es) (tStarL X.K te t) :=
  ⟨fun at0 pn st σ H Q I h => by
    refine PySem.W.items_star (thn (he.run pn st σ H _ I h) fun v s1 ⟨x, H1, I1, rx, a, xs, ex, hx, q⟩ => ?_) hs
    subst ex
    cases rx
    obtain ⟨its, rv, ⟨ob, n, ho, hc, hn, hd⟩, hz⟩ := I1.list hx
    have hlen := rv.length
    have ty : s1.TypeIs (.ref a) "list" := ⟨ob, ho, hc⟩
    refine wpAny_bind (wpAny_specialOf ty PySem.F.slot_list_iter.lookup (wpAny_pure ⟨rfl, ?_⟩))
    (refine wpAny_collect_seq a (.inl rfl) ho hc hd (fun h' hk => ?_) (by rw [List.size_toArray]; omega))
    have I2 : Inv X pn σ H1 { s1 with heap := h' } := I1.kept (t' := s1.toks) hk
    refine thn (hr.run at0 pn _ σ H1 _ I2 q) fun us s3 ⟨ys, H3, I3, r3, q3⟩ => ⟨xs ++ ys, H3, I3, ?_, q3⟩
    exact rv.append r3⟩
theorem xa_star {m : Rho → Rz Rv} {n : Rho → Rz (List PD)} (ha : XE X S e m) (hr : XA X S es n) (hs : starEach (.Starred e p :: es) X.env = (true, eval e X.env) :: starEach es X.env := by rfl) : XA X S (.Starred e p :: es) (mStar m n) :=
  PA.imp (pa_star ha hr hs) fun σ H Q q => by
    obtain ⟨F, ρ, R, P⟩ := q
    refine tE.use (β := List PD) (g := fun x ρ1 => match x with
      | .list ys => (n ρ1).bind fun xs ρ2 => .ok (ys ++ xs) ρ2
      | _ => .stuck) R P fun v d F1 ρ1 H1 e1 R1 D1 P1 => ?_
    cases D1 with
    | @lst a xs ds h1 h2 =>
      refine ⟨a, xs, rfl, .inl (.inl (R1.ex _ _ h1)), F1, ρ1, R1, PostE.mono (PostE.bind P1) fun F2 ρ2 H2 es e2 R2 P2 vs hv => ?_⟩
      exact PostE.ok (P2 F2 e2) R2 _ (RpAll.app (rpa_mono e2.fz _ _ h2) hv)
    | _ => exact P1.elim
end
/-! ### a new list is lent -/
def callRF (m : Rho → Rz Rv) (ts ds : List PD) (ρ : Rho) : Rz Rv :=
  match m (.ow ts :: ds.map .fr) with
  | .ok (.fr d) (.ow _ :: _) => .ok (.fr d) ρ
  | _ => .stuck
theorem call_spF {n N : Nat} {mb : Rho → Rz Fl} {m : Rho → Rz Rv} {S : Sx} {F0 F : Hp} {ρ0 ρ ρ' : Rho} {σ : L2.St} {H0 H : Hp} {p : Addr} {us vs : List V} {ts ds : List PD} {d : PD} {Q : VK} (hm : m = fnM [0] n N mb) (e0 : Ext (Own ρ0 σ) F0 H0 (Own ρ σ) F H) (R : Rs S F ρ σ H) (s2 : F p = none) (s3 : H p = some (.lst us))
    (s4 : RpAll S.K F us ts) (nO : ¬ Own ρ σ p) (h0 : H0 p = none ∨ Own ρ0 σ p) (hv : RpAll S.K F vs ds) (e : m (.ow ts :: ds.map .fr) = .ok (.fr d) ρ') (go : ∀ F' H' v, Ext (Own ρ0 σ) F0 H0 (Own ρ σ) F' H' → Rs S F' ρ σ H' → Rp S.K F' v d → Q v H') :
    spM S.K S.mg n m (.ref p :: vs) H Q fun cls d H' => S.W cls d σ H' := by
  have own0 : ∀ ts' a, Own (Cl.ow ts' :: ds.map Cl.fr) ((V.ref p :: vs).map some) a ↔ a = p := fun ts' a => by
    constructor
    · rintro ⟨j, es, h1, h2⟩
      cases j with
      | zero => simp at h2; exact h2.symm
      | succ j =>
        obtain ⟨d, _, z⟩ := at_map_fr (show (ds.map Cl.fr)[j]? = some (.ow es) from h1)
        cases z
    · rintro rfl
      exact ⟨0, ts', rfl, rfl⟩
  have R0 : Rs ⟨S.K, S.mg, [], fun _ => 0, fun cls d _ H' => S.W cls d σ H', fun _ => none⟩ F (Cl.ow ts :: ds.map .fr) ((V.ref p :: vs).map some) H := by
    refine ⟨R.ex, by simp [hv.len], fun j d h => ?_, fun j es h => ?_, fun j l dj dl q h1 h2 h3 h4 => ?_, (fun j h => nomatch h), R.sm⟩
    · cases j with
      | zero => cases h
      | succ j =>
        obtain ⟨d', h1, h2⟩ := at_map_fr (show (ds.map Cl.fr)[j]? = some (.fr d) from h)
        cases h2
        obtain ⟨v, q1, q2⟩ := RpAll.get hv h1
        exact ⟨v, by show (vs.map some)[j]? = _; rw [List.getElem?_map, q1]; rfl, q2⟩
    · cases j with
      | zero => cases h; exact ⟨p, us, rfl, s2, s3, s4⟩
      | succ j =>
        obtain ⟨d', _, h2⟩ := at_map_fr (show (ds.map Cl.fr)[j]? = some (.ow es) from h)
        cases h2
    · cases j with
      | succ j =>
        obtain ⟨d', _, z⟩ := at_map_fr (show (ds.map Cl.fr)[j]? = some (.ow dj) from h1)
        cases z
      | zero =>
        cases l with
        | zero => rfl
        | succ l =>
          obtain ⟨d', _, z⟩ := at_map_fr (show (ds.map Cl.fr)[l]? = some (.ow dl) from h2)
          cases z
  have sh : ∀ r ρ', m (.ow ts :: ds.map .fr) = .ok r ρ' → (V.ref p :: vs).length = n ∧ ∃ ts', ρ' = .ow ts' :: ds.map .fr := fun r ρ' h => by
    subst hm
    unfold fnM at h
    by_cases c : okArgs [0] n (.ow ts :: ds.map .fr) = true
    · have hl := (okArgs.at c).1
      rw [List.length_cons, List.length_map, ← hv.len] at hl
      rw [if_pos c] at h
      refine ⟨hl, ?_⟩
      split at h
      · split at h
        · rename_i ho
          obtain ⟨ts', _, z⟩ := outs0 ho
          cases h
          exact ⟨ts', z⟩
        · cases h
      · split at h
        · rename_i ho
          obtain ⟨ts', _, z⟩ := outs0 ho
          cases h
          exact ⟨ts', z⟩
        · cases h
      · split at h
        · cases h
        · cases h
      · cases h
    · rw [if_neg c] at h; cases h
  obtain ⟨hlen, ts', rfl⟩ := sh _ ρ' e
  refine ⟨hlen, F, _, R0, ?_⟩
  rw [e]
  intro F' H' e1 R1 v hvv
  obtain ⟨p1, us1, q1, q2, q3, q4⟩ := R1.ow 0 ts' rfl
  have q1' : p1 = p := by simpa using q1.symm
  rw [q1'] at q2 q3
  have keep : ∀ a o, H a = some o → a ≠ p → H' a = some o := fun a o h z => e1.kp a o h fun y => z ((own0 ts a).mp y)
  have noF : ∀ a, F a = none → H a ≠ none → a ≠ p → F' a = none := fun a h1 h2 z => by
    refine Classical.byContradiction fun y => ?_
    rcases e1.nw a y with x | x | x
    · exact x h1
    · exact h2 x
    · exact z ((own0 ts a).mp x)
  refine go F' H' v ⟨fun a o h => e1.fz a o (e0.fz a o h), fun a h => ?_, fun a o h n => ?_, fun a h => e1.st a (e0.st a h), e0.ow⟩ ⟨R1.ex, R.len, fun i d h => ?_, fun i es h => ?_, R.sep, R.pin, R1.sm⟩ hvv
  · rcases e1.nw a h with x | x | x
    · exact e0.nw a x
    · exact .inr (.inl (e0.back x))
    · rw [(own0 ts a).mp x] at h
      exact absurd q2 h
  · refine keep a o (e0.kp a o h n) fun z => ?_
    subst z
    rcases h0 with z | z
    · rw [h] at z; cases z
    · exact n z
  · obtain ⟨w, w1, w2⟩ := R.fr i d h
    exact ⟨w, w1, rp_mono e1.fz _ _ w2⟩
  · obtain ⟨p2, us2, w1, w2, w3, w4⟩ := R.ow i es h
    have np : p2 ≠ p := fun z => nO ⟨i, es, h, by rw [← z]; exact w1⟩
    exact ⟨p2, us2, w1, noF p2 w2 w3.ne np, w3.mono fun o y => keep p2 o y np, rpa_mono e1.fz _ _ w4⟩
section
variable {X : Cx} {S : Sx} {k n N : Nat} {mb : Rho → Rz Fl} {ps : List Str} {x : Str} {p pos : Pos} {e : Expr} {es : List Expr} {me : Rho → Rz Rv} {ma : Rho → Rz (List PD)}
def mCallF (m : Rho → Rz Rv) (me : Rho → Rz Rv) (ma : Rho → Rz (List PD)) : Rho → Rz Rv := fun ρ => (me ρ).bind fun r ρ1 => match r with
  | .ow ts => (ma ρ1).bind fun ds ρ2 => callRF m ts ds ρ2
  | .fr _ => .stuck
theorem xe_callF (o : Okx X S k) (D : Dk X.K X.mg X.prog X.w X.base k x [0] ps n N mb) (he : XE X S e me) (ha : XA X S es ma) (hg : Gl X x := by rfl) (ndb : (x == ("__debug__" : Str)) = false := by decide) (hs : starEach (e :: es) X.env = (false, eval e X.env) :: starEach es X.env := by rfl) (npl : (backTo pos (starEach es X.env)).any (·.1) = false := by rfl) :
    XE X S (.Call (.Name x p) (e :: es) [] pos) (mCallF (fnM [0] n N mb) me ma) := by
  obtain ⟨f, fd, hn, F, hm, hk, hb, _⟩ := D.ex
  refine PE.imp (pe_callG F o.gd o.rm hg hm hk hb o.tk (pa_cons he ha hs) ndb hs npl) fun σ H Q q => ?_
  obtain ⟨F1, ρ, R, P⟩ := q
  unfold mCallF at P
  refine ⟨F1, ρ, R, ?_⟩
  cases hme : me ρ with
  | stuck => rw [hme] at P; exact P
  | exc c f ρ' => rw [hme] at P; exact P
  | ok r ρ2 =>
    rw [hme] at P
    cases r with
    | fr d => exact (show False from P).elim
    | ow ts =>
      have P : PostE S σ F1 ρ H ((ma ρ2).bind fun ds ρ2 => callRF (fnM [0] n N mb) ts ds ρ2) _ := P
      intro F2 H2 e2 R2 v hv
      refine ⟨F2, ρ2, R2, ?_⟩
      cases hma : ma ρ2 with
      | stuck => rw [hma] at P; exact P
      | exc c f ρ' =>
        rw [hma] at P
        exact fun F' H' cls dd e' R' x => P F' H' cls dd (e2.trans e') R' x
      | ok ds ρ3 =>
        rw [hma] at P
        have P : PostE S σ F1 ρ H (callRF (fnM [0] n N mb) ts ds ρ3) _ := P
        intro F3 H3 e3 R3 vs hvs
        obtain ⟨p, us, rfl, s2, s3, s4, s5, s6⟩ := hv.step e3
        rw [← o.hK, ← o.hM]
        unfold callRF at P
        cases hr : fnM [0] n N mb (.ow ts :: ds.map .fr) with
        | stuck => rw [hr] at P; exact P.elim
        | exc c f ρ' => rw [hr] at P; exact P.elim
        | ok r ρ' =>
          rw [hr] at P
          cases r with
          | ow es => exact P.elim
          | fr d =>
            cases ρ' with
            | nil => exact P.elim
            | cons y tl =>
              cases y with
              | ow z => exact call_spF rfl (e2.trans e3) R3 s2 s3 s4 s5 s6 hvs hr fun F' H' v e' R' hd => P F' H' e' R' v hd
              | no => exact P.elim
              | fr z => exact P.elim
end
/-! ### x in xs -/
def gIn : PD → PD → Option PD := fun x y => match y with
  | .list ds => if (SeqAt.shaped x && SeqAt.shaped (.list ds)) = true then some (.bool (ds.any fun z => PyData.eqv z x)) else none
  | _ => none
def gNotIn : PD → PD → Option PD := fun x y => match y with
  | .list ds => if (SeqAt.shaped x && SeqAt.shaped (.list ds)) = true then some (.bool (!ds.any fun z => PyData.eqv z x)) else none
  | _ => none
abbrev qIn : PD → PD → Option Rv := fun x y => (gIn x y).map .fr
abbrev qNotIn : PD → PD → Option Rv := fun x y => (gNotIn x y).map .fr
section
variable {X : Cx} {S : Sx} {k : Nat} {a b : Expr} {ma mb : Rho → Rz Rv} {pos : Pos}
theorem sim_in (hK : S.K = X.K) : Sim2 X S (rInD X.K) qIn := Sim2.pure fun F H x y dx dy z up hx hy h => by
  unfold gIn at h
  split at h
  · rename_i ds
    split at h
    · rename_i c
      cases h
      have c' := Bool.and_eq_true_iff.mp c
      rw [hK] at hx hy
      exact ⟨.bl _, .bl _, fun Q q => ⟨dx, ds, rp_dp _ _ (SeqAt.canLay_of_shaped c'.1) (rp_mono up _ _ hx), rp_dp _ _ (SeqAt.canLay_of_shaped c'.2) (rp_mono up _ _ hy), c'.1, c'.2, q⟩⟩
    · cases h
  · cases h
theorem sim_notin (hK : S.K = X.K) : Sim2 X S (rNotInD X.K) qNotIn := Sim2.pure fun F H x y dx dy z up hx hy h => by
  unfold gNotIn at h
  split at h
  · rename_i ds
    split at h
    · rename_i c
      cases h
      have c' := Bool.and_eq_true_iff.mp c
      rw [hK] at hx hy
      exact ⟨.bl _, .bl _, fun Q q => ⟨dx, ds, rp_dp _ _ (SeqAt.canLay_of_shaped c'.1) (rp_mono up _ _ hx), rp_dp _ _ (SeqAt.canLay_of_shaped c'.2) (rp_mono up _ _ hy), c'.1, c'.2, q⟩⟩
    · cases h
  · cases h
theorem Okx.un65 (o : Okx X S k) : X.A.units + 65 < cLine := by have := o.rm.un; omega
theorem xe_in (o : Okx X S k) (ha : XE X S a ma) (hb : XE X S b mb) (hm : behindInMarks .In b = false := by first | exact nomark _ | with_unfolding_all rfl) : XE X S (.Compare a [.In] [b] pos) (mOp2 qIn ma mb) := xe_cmp (op_inD o.un65) (sim_in o.hK) ha hb hm
theorem xe_notin (o : Okx X S k) (ha : XE X S a ma) (hb : XE X S b mb) (hm : behindInMarks .NotIn b = false := by first | exact nomark _ | with_unfolding_all rfl) : XE X S (.Compare a [.NotIn] [b] pos) (mOp2 qNotIn ma mb) := xe_cmp (op_notInD o.un65) (sim_notin o.hK) ha hb hm
theorem xt_in (o : Okx X S k) (ha : XE X S a ma) (hb : XE X S b mb) (hm : behindInMarks .In b = false := by first | exact nomark _ | with_unfolding_all rfl) : XT X S (.Compare a [.In] [b] pos) (mB (mOp2 qIn ma mb)) := xt_cmp (op_inD o.un65) (sim_in o.hK) ha hb hm
theorem xt_notin (o : Okx X S k) (ha : XE X S a ma) (hb : XE X S b mb) (hm : behindInMarks .NotIn b = false := by first | exact nomark _ | with_unfolding_all rfl) : XT X S (.Compare a [.NotIn] [b] pos) (mB (mOp2 qNotIn ma mb)) := xt_cmp (op_notInD o.un65) (sim_notin o.hK) ha hb hm
end
/-! ### list(range(..)) -/
def gListRg : List PD → Option Rv
  | [.int n] => if big62 n = true then (if n.toNat ≤ 1000000 then some (.ow (rangeD 0 n.toNat)) else none) else none
  | _ => none
section
variable {X : Cx} {S : Sx} {k : Nat} {e : Expr} {p pos p2 pos2 : Pos}
def mListRg (m : Rho → Rz Rv) : Rho → Rz Rv := fun ρ => (m ρ).bind fun x ρ1 => match gListRg [x.d] with
  | some r => .ok r ρ1
  | none => .stuck
theorem xe_listRg (o : Okx X S k) {m : Rho → Rz Rv} (hm : S.mg "list" = none) (hm2 : S.mg "range" = none) (ha : XE X S e m) (hg : Gl X "list" := by rfl) (hg2 : Gl X "range" := by rfl) (na : starEach [.Call (.Name "range" p2) [e] [] pos2] X.env = (false, eval (.Call (.Name "range" p2) [e] [] pos2) X.env) :: starEach [] X.env := by rfl)
    (nb : starEach [e] X.env = (false, eval e X.env) :: starEach [] X.env := by rfl) : XE X S (.Call (.Name "list" p) [.Call (.Name "range" p2) [e] [] pos2] [] pos) (mListRg m) :=
  PE.imp (pe_listRg o.calm hg (o.hM ▸ hm) (prg_1 hg2 (o.hM ▸ hm2) ha nb) na) fun σ H Q q => by
    obtain ⟨F, ρ, R, P⟩ := q
    refine tE.use (β := Rv) (g := fun x ρ1 => match gListRg [x] with
      | some r => .ok r ρ1
      | none => .stuck) R P fun v d F1 ρ1 H1 e1 R1 D1 P1 => ?_
    cases D1 with
    | int n =>
      cases hz : gListRg [.int n] with
      | none => simp only [hz] at P1; exact P1.elim
      | some r =>
        simp only [hz] at P1
        have hz : (if big62 n = true then (if n.toNat ≤ 1000000 then some (Rv.ow (rangeD 0 n.toNat)) else none) else none) = some r := hz
        by_cases c : big62 n = true
        · rw [if_pos c] at hz
          by_cases c2 : n.toNat ≤ 1000000
          · rw [if_pos c2] at hz
            cases hz
            obtain ⟨b1, b2⟩ := big62.ok c
            refine ⟨n, rfl, ⟨by omega, by omega, b1, b2, by omega⟩, fun l hl => Rs.newL R1 hl (ds := rangeD 0 n.toNat) ?_ fun F' H' v e' R' hv => P1 F' H' e' R' v (hv.mono e1)⟩
            have e2 : rgV 0 n = ((List.range n.toNat).map fun (i : Nat) => (0 + (i : Int))).map V.int := by
              unfold rgV
              rw [List.map_map, Int.sub_zero]
              rfl
            have e3 : rangeD 0 n.toNat = ((List.range n.toNat).map fun (i : Nat) => (0 + (i : Int))).map PyData.int := by
              unfold rangeD
              rw [List.map_map]
              rfl
            rw [e2, e3]
            exact RpAll.ofInts _
          · rw [if_neg c2] at hz; cases hz
        · rw [if_neg c] at hz; cases hz
    | _ => exact P1.elim
end
/-! ### a, b = e, f where a or b is a cell -/
theorem par_fin {S : Sx} {F0 F1 F2 : Hp} {ρ0 ρ1 ρ2 : Rho} {σ : L2.St} {H0 H1 H2 : Hp} {v w : V} {r q : Rv} {i j : Nat} {D : Ends} (e1 : Ext (Own ρ0 σ) F0 H0 (Own ρ1 σ) F1 H1) (e2 : Ext (Own ρ1 σ) F1 H1 (Own ρ2 σ) F2 H2) (R2 : Rs S F2 ρ2 σ H2)
    (hv : RvR S (Own ρ0 σ) H0 (Own ρ1 σ) F1 H1 v r) (hw : RvR S (Own ρ1 σ) H1 (Own ρ2 σ) F2 H2 w q) (hJ : i ∉ S.J ∧ j ∉ S.J) (hT : S.T i = none) (hT1 : S.T j = none) (hl : i < ρ2.length ∧ j < ρ2.length) (P2 : PostS S F0 ρ0 σ H0 (.ok .nx ((ρ2.set i r.cl).set j q.cl)) D) : D.nx ((σ.set i (some v)).set j (some w)) H2 := by
  obtain ⟨Ra, ha⟩ := R2.setSlot (hv.step e2) hl.1 hJ.1 (.inl hT)
  have hw' : RvR S (Own ρ1 σ) H1 (Own (ρ2.set i r.cl) (σ.set i (some v))) F2 H2 w q := by
    cases q with
    | fr d => exact hw
    | ow ds =>
      obtain ⟨p, vs, h1, h2, h3, h4, h5, h6⟩ := hw
      refine ⟨p, vs, h1, h2, h3, h4, fun z => ?_, h6⟩
      obtain ⟨l, dl, z1, z2⟩ := z
      by_cases c : i = l
      · subst c
        rw [List.getElem?_set_self hl.1] at z1
        rw [List.getElem?_set_self (by rw [← R2.len]; exact hl.1)] at z2
        have z3 := Rv.cl_ow (Option.some.inj z1)
        subst z3
        obtain ⟨p', vs', q1, q2, q3, q4, q5, q6⟩ := hv
        have e3 : v = .ref p := by injection z2 with z2; injection z2
        rw [q1] at e3
        cases e3
        rcases h6 with h6 | h6
        · rw [q3] at h6; cases h6
        · exact q5 h6
      · rw [List.getElem?_set_ne c] at z1 z2
        exact h5 ⟨l, dl, z1, z2⟩
  obtain ⟨Rb, hb⟩ := Ra.setSlot hw' (by rw [List.length_set]; exact hl.2) hJ.2 (.inl hT1)
  have e3 := e1.trans e2
  refine P2 F2 _ H2 ⟨e3.fz, e3.nw, e3.kp, e3.st, fun a z => ?_⟩ Rb
  rcases hb a z with z | z | z
  · rcases ha a z with z | z | z
    · exact e3.ow a z
    · exact .inr z
    · exact .inl z
  · exact .inr (e1.back z)
  · exact e1.ow a z
/-- the heap grows by what nobody asks for -/
theorem Rs.more {S : Sx} {F : Hp} {ρ : Rho} {σ : L2.St} {H : Hp} {T : Addr} {o : HO} (R : Rs S F ρ σ H) (hT : H T = none) : Rs S F ρ σ (upd H T o) ∧ Ext (Own ρ σ) F H (Own ρ σ) F (upd H T o) := by
  have up : ∀ a u, H a = some u → upd H T o a = some u := fun a u h => by rw [upd_ne (ne_of_none h hT)]; exact h
  refine ⟨⟨fun a u h => up a u (R.ex a u h), R.len, R.fr, fun i ds h => ?_, R.sep, R.pin, R.sm⟩, ⟨fun _ _ h => h, fun _ h => .inl h, fun a u h _ => up a u h, fun a h => ?_, fun _ h => .inl h⟩⟩
  · obtain ⟨p, us, q1, q2, q3, q4⟩ := R.ow i ds h
    exact ⟨p, us, q1, q2, q3.mono (up p), q4⟩
  · cases q : H a with
    | none => exact absurd q h
    | some u => rw [up a u q]; simp
section
variable {X : Cx} {S : Sx} {k : Nat} {x : Str} {pos : Pos}
theorem xs_parC (o : Okx X S k) (i j : Nat) {ma mb : Rho → Rz Rv} {a b : Expr} {y : Str} {px py pt : Pos} {kt k2 : Nat} {pt2 : Pos} (ha : XE X S a ma) (hb : XE X S b mb) (hJ : i ∉ S.J ∧ j ∉ S.J := by first | exact ⟨nj rfl, nj rfl⟩ | decide) (hij : i ≠ j := by decide) (hi : X.N[i]? = some x := by rfl) (hj : X.N[j]? = some y := by rfl)
    (hx : Loc X.env.scope x := by first | exact Or.inl rfl | exact Or.inr rfl) (hy : Loc X.env.scope y := by first | exact Or.inl rfl | exact Or.inr rfl)
    (fx : X.fn x = true ∨ X.env.scope.names.lookup x = some .local := by first | exact .inl rfl | exact .inr rfl) (fy : X.fn y = true ∨ X.env.scope.names.lookup y = some .local := by first | exact .inl rfl | exact .inr rfl)
    (hw : swappedStores [.Tuple [.Name x px, .Name y py] kt pt] (.Tuple [a, b] k2 pt2) X.env = pure none := by rfl)
    (hs : swapsWithSole [.Tuple [.Name x px, .Name y py] kt pt] (.Tuple [a, b] k2 pt2) pos.line X.env = pure false := by rfl)
    (he : starEach [a, b] X.env = (false, eval a X.env) :: starEach [b] X.env := by rfl) (he2 : starEach [b] X.env = [(false, eval b X.env)] := by rfl)
    (s1 : (assignEach [.Name x px, .Name y py] X.env).map (·.2) = assign (.Name x px) X.env :: (assignEach [.Name y py] X.env).map (·.2) := by rfl) (s2 : (assignEach [.Name y py] X.env).map (·.2) = assign (.Name y py) X.env :: (assignEach [] X.env).map (·.2) := by rfl)
    (hn : (assignEach [.Name x px, .Name y py] X.env).length = 2 := by rfl) (hst : (assignEach [.Name x px, .Name y py] X.env).findIdx? (·.1) = none := by rfl)
    (h1 : (assignEach [.Tuple [.Name x px, .Name y py] kt pt] X.env).map (·.2) = [assign (.Tuple [.Name x px, .Name y py] kt pt) X.env] := by rfl) (hT : S.T i = none := by first | rfl | assumption) (hT1 : S.T j = none := by first | rfl | assumption) :
    XS X S (.Assign [.Tuple [.Name x px, .Name y py] kt pt] (.Tuple [a, b] k2 pt2) pos) (mPar i j ma mb) :=
  PS.imp (ps_asg (pe_tup (pa_cons ha (pa_cons hb pa_nil he2) he)) (pg_tup o.calm (pgs_cons (pg_name o.nd hi hx fx) (pgs_cons (pg_name o.nd hj hy fy) pgs_nil s2) s1) hn hst) hs hw h1) fun D σ H q => by
    obtain ⟨F, ρ, R, P⟩ := q
    refine tE.keepS2 (g := fun r ρ1 => (mb ρ1).bind fun q ρ2 => if i < ρ2.length ∧ j < ρ2.length then .ok .nx ((ρ2.set i r.cl).set j q.cl) else .stuck) R Ext.refl P fun v r F1 ρ1 H1 e1 R1 hv P1 => ?_
    refine tE.keepS2 (g := fun q ρ2 => if i < ρ2.length ∧ j < ρ2.length then .ok .nx ((ρ2.set i r.cl).set j q.cl) else .stuck) R1 e1 P1 fun w q F2 ρ2 H2 e2 R2 hw P2 => ?_
    by_cases hl : i < ρ2.length ∧ j < ρ2.length
    · rw [if_pos hl] at P2
      refine ⟨(by decide : 2 ≤ sizeLine), fun T hT => ?_⟩
      obtain ⟨R3, g3⟩ := R2.more (o := .tup [v, w]) hT
      exact ⟨T, [v, w], rfl, .inl (.inl upd_same), rfl, v, [w], rfl, w, [], rfl, rfl, par_fin e1 (e2.trans g3) R3 hv (hw.step g3) hJ (by assumption) hT1 hl P2⟩
    · rw [if_neg hl] at P2; exact P2.elim
end
end Sd
namespace Sd
open PySem PySem.Spec
/-- what waits: what is asked later -/
class Wt (α : Type) where
  f : α → Rho → Prop
def Lz {α : Type} [i : Wt α] : α → Rho → Prop := i.f
abbrev lz {α : Type} (f : α → Rho → Prop) : α → Rho → Prop := @Lz α ⟨f⟩
@[simp ↓] theorem lz_app {α : Type} {f : α → Rho → Prop} {a : α} {c : Cl} {ρ : Rho} : @Lz α ⟨f⟩ a (c :: ρ) ↔ f a (c :: ρ) := Iff.rfl
section
/-! ### the plain law: what a mirror reaches -/
def WpD {α : Type} (r : Rz α) (Q : α → Rho → Prop) : Prop := match r with
  | .ok a ρ => Q a ρ
  | _ => False
/-- (a structure: nothing unfolds it unasked) -/
structure Wp {α : Type} (r : Rz α) (Q : α → Rho → Prop) : Prop where
  ok : WpD r Q
section
variable {α β : Type} {Q : α → Rho → Prop} {R : β → Rho → Prop}
@[simp] theorem wp_ok {a : α} {ρ : Rho} : Wp (.ok a ρ) Q ↔ Q a ρ := ⟨fun h => h.ok, fun h => ⟨h⟩⟩
@[simp] theorem wp_stuck : Wp (.stuck : Rz α) Q ↔ False := ⟨fun h => h.ok, fun h => ⟨h⟩⟩
@[simp] theorem wp_exc {c f ρ} : Wp (.exc c f ρ : Rz α) Q ↔ False := ⟨fun h => h.ok, fun h => ⟨h⟩⟩
theorem wp_bind {r : Rz α} {f : α → Rho → Rz β} : Wp (r.bind f) R ↔ Wp r fun a ρ => Wp (f a ρ) R := by
  cases r with
  | ok a ρ => rw [wp_ok]; exact Iff.rfl
  | exc c f' ρ => rw [wp_exc]; exact wp_exc
  | stuck => rw [wp_stuck]; exact wp_stuck
@[simp] theorem wp_ite {p : Prop} [Decidable p] {a b : Rz α} : Wp (if p then a else b) Q ↔ (p → Wp a Q) ∧ (¬ p → Wp b Q) := by
  by_cases h : p <;> simp [h]
theorem Wp.mono {r : Rz α} {Q' : α → Rho → Prop} (h : Wp r Q) (hq : ∀ a ρ, Q a ρ → Q' a ρ) : Wp r Q' := by
  cases r with
  | ok a ρ => exact wp_ok.mpr (hq a ρ (wp_ok.mp h))
  | _ => exact h.ok.elim
theorem Wp.congr {r : Rz α} {Q' : α → Rho → Prop} (h : ∀ a ρ, Q a ρ ↔ Q' a ρ) : Wp r Q ↔ Wp r Q' := by
  cases r with
  | ok a ρ => rw [wp_ok, wp_ok]; exact h a ρ
  | exc c f ρ => rw [wp_exc, wp_exc]
  | stuck => rw [wp_stuck, wp_stuck]
@[simp] theorem imp_and_it {p q : Prop} : ((p → q) ∧ p) ↔ (p ∧ q) := ⟨fun h => ⟨h.2, h.1 h.2⟩, fun h => ⟨fun _ => h.2, h.1⟩⟩
theorem Wp.out {r : Rz α} (h : Wp r Q) : ∃ a ρ, r = .ok a ρ ∧ Q a ρ := by
  cases r with
  | ok a ρ => exact ⟨a, ρ, rfl, wp_ok.mp h⟩
  | _ => exact h.ok.elim
end
def WpO {β : Type} (o : Option β) (Q : β → Prop) : Prop := ∃ b, o = some b ∧ Q b
@[simp] theorem wpo_some {β : Type} {b : β} {Q : β → Prop} : WpO (some b) Q ↔ Q b := by simp [WpO]
@[simp] theorem wpo_none {β : Type} {Q : β → Prop} : WpO none Q ↔ False := by simp [WpO]
@[simp] theorem wpo_map {α β : Type} {f : α → β} {o : Option α} {Q : β → Prop} : WpO (o.map f) Q ↔ WpO o fun a => Q (f a) := by
  cases o <;> simp
@[simp] theorem wpo_ite {β : Type} {p : Prop} [Decidable p] {a b : Option β} {Q : β → Prop} : WpO (if p then a else b) Q ↔ (p → WpO a Q) ∧ (¬ p → WpO b Q) := by
  by_cases h : p <;> simp [h]
@[simp] theorem wpo_bind {α β : Type} {f : α → Option β} {o : Option α} {Q : β → Prop} : WpO (o.bind f) Q ↔ WpO o fun a => WpO (f a) Q := by
  cases o <;> simp
theorem wp_opt {α β : Type} {o : Option α} {ρ : Rho} {Q : β → Rho → Prop} {f : α → Rz β} : Wp (match o with
  | some r => f r
  | none => .stuck) Q ↔ WpO o fun r => Wp (f r) Q := by
  cases o <;> simp
@[simp] theorem d_fr {d : PD} : (Rv.fr d).d = d := rfl
@[simp] theorem d_ow {ds : List PD} : (Rv.ow ds).d = .list ds := rfl
@[simp] theorem cl_fr {d : PD} : (Rv.fr d).cl = .fr d := rfl
@[simp] theorem cl_ow {ds : List PD} : (Rv.ow ds).cl = .ow ds := rfl
/-- what a datum is, if it is so -/
def bO : PD → Option Bool
  | .bool b => some b
  | _ => none
def iO : PD → Option Int
  | .int i => some i
  | _ => none
def lO : PD → Option (List PD)
  | .list ds => some ds
  | _ => none
def hO : Rho → Option (List PD)
  | .ow ts :: _ => some ts
  | _ => none
@[simp] theorem bO_bool {b} : bO (.bool b) = some b := rfl
@[simp] theorem iO_int {i} : iO (.int i) = some i := rfl
@[simp] theorem lO_list {ds} : lO (.list ds) = some ds := rfl
@[simp] theorem hO_ow {ts ρ} : hO (.ow ts :: ρ) = some ts := rfl
section
variable {c : Cl} {ρ : Rho} {Q : Rv → Rho → Prop} {Qf : Fl → Rho → Prop} {Qb : Bool → Rho → Prop} {Ql : List PD → Rho → Prop} {Qo : Option Int → Rho → Prop} {m n ma mb mc : Rho → Rz Rv} {i j : Nat}
@[simp] theorem w_mC {d : PD} : Wp (mC d (c :: ρ)) Q ↔ Q (.fr d) (c :: ρ) := wp_ok
@[local simp] theorem o_mV : Wp (mV i (c :: ρ)) Q ↔ WpO (c :: ρ)[i]? fun x => match x with | .fr d => (Q (.fr d) (c :: ρ)) | .ow ds => (Q (.fr (.list ds)) ((c :: ρ).set i (.fr (.list ds)))) | .no => (False) := by
  show Wp (Rho.val (c :: ρ) i) Q ↔ _
  unfold Rho.val
  cases h : (c :: ρ)[i]? with
  | none => simp
  | some x => cases x <;> simp
@[local simp] theorem o_mMv : Wp (mMv i (c :: ρ)) Q ↔ WpO (c :: ρ)[i]? fun x => match x with | .fr d => (Q (.fr d) (c :: ρ)) | .ow ds => (Q (.ow ds) ((c :: ρ).set i .no)) | .no => (False) := by
  unfold mMv
  cases h : (c :: ρ)[i]? with
  | none => simp
  | some x => cases x <;> simp
def pkC : Cl → Option PD
  | .fr d => some d
  | .ow ds => some (.list ds)
  | .no => none
@[simp] theorem pkC_fr {d} : pkC (.fr d) = some d := rfl
@[simp] theorem pkC_ow {ds} : pkC (.ow ds) = some (.list ds) := rfl
@[simp] theorem pkC_no : pkC .no = none := rfl
@[simp] theorem peek_cons : Rho.peek (c :: ρ) i = (c :: ρ)[i]?.bind pkC := by
  unfold Rho.peek
  cases h : (c :: ρ)[i]? with
  | none => rfl
  | some x => cases x <;> rfl
@[local simp] theorem o_op2 {g} : Wp (mOp2 g ma mb (c :: ρ)) Q ↔ Wp (ma (c :: ρ)) fun x ρ1 => Wp (mb ρ1) fun y ρ2 => WpO (g x.d y.d) fun r => Q r ρ2 := by
  unfold mOp2
  rw [wp_bind]
  refine Wp.congr fun x ρ1 => ?_
  rw [wp_bind]
  refine Wp.congr fun y ρ2 => ?_
  cases g x.d y.d <;> simp
@[local simp] theorem o_op1 {g} : Wp (mOp1 g ma (c :: ρ)) Q ↔ Wp (ma (c :: ρ)) fun x ρ1 => WpO (g x.d) fun r => Q (.fr r) ρ1 := by
  unfold mOp1
  rw [wp_bind]
  refine Wp.congr fun x ρ1 => ?_
  cases g x.d <;> simp
@[simp] theorem ii_int {C g} {a b : Int} : ii C g (.int a) (.int b) = if C a b = true then some (g a b) else none := rfl
@[simp] theorem yes2_t {a b : Int} : yes2 a b = true := rfl
@[simp] theorem g_add_int {a b : Int} : gAdd (.int a) (.int b) = some (.fr (.int (a + b))) := rfl
@[simp] theorem g_add_list {a b : List PD} : gAdd (.list a) (.list b) = if okLen (a.length + b.length) = true then some (.ow (a ++ b)) else none := by
  show ((none : Option Rv).orElse fun _ => (gCatL (.list a) (.list b)).orElse fun _ => (gCatS (.list a) (.list b)).map Rv.fr) = _
  show ((gCatL (.list a) (.list b)).orElse fun _ => (gCatS (.list a) (.list b)).map Rv.fr) = _
  unfold gCatL gCatS
  by_cases h : okLen (a.length + b.length) = true <;> simp [h]
@[simp] theorem g_add_str {a b : Str} : gAdd (.str a) (.str b) = if okLen (a.length + b.length) = true then some (.fr (.str (a ++ b))) else none := by
  show ((gCatS (.str a) (.str b)).map Rv.fr) = _
  unfold gCatS
  by_cases h : okLen (a.length + b.length) = true <;> simp [h]
@[simp] theorem g_mul_int {a b : Int} : gMul (.int a) (.int b) = if okMul a b = true then some (.fr (.int (a * b))) else none := by
  show (((gMulI (.int a) (.int b)).map Rv.fr).orElse fun _ => gRepL (.int a) (.int b)) = _
  unfold gMulI ii gRepL
  by_cases h : okMul a b = true <;> simp [h]
@[simp] theorem g_mul_list {a : List PD} {n : Int} : gMul (.list a) (.int n) = if (okLen (a.length * n.toNat) && decide (-(2 ^ 62) ≤ n) && decide (n < 2 ^ 62)) = true then some (.ow (List.replicate n.toNat a).flatten) else none := rfl
@[simp] theorem g_sub {a b : Int} : gSubI (.int a) (.int b) = some (.int (a - b)) := rfl
@[simp] theorem g_div {a b : Int} : gDivI (.int a) (.int b) = if okDiv b = true then some (.int (a.fdiv b)) else none := rfl
@[simp] theorem g_mod {a b : Int} : gModI (.int a) (.int b) = if b ≠ 0 then some (.int (a.fmod b)) else none := by
  show (if decide (b ≠ 0) = true then _ else _) = _
  by_cases h : b ≠ 0 <;> simp [h]
@[simp] theorem g_pow {a b : Int} : gPowI (.int a) (.int b) = if okPow a b = true then some (.int (a ^ b.toNat)) else none := rfl
@[simp] theorem g_shl {a b : Int} : gShlI (.int a) (.int b) = if okShl a b = true then some (.int (a * 2 ^ b.toNat)) else none := rfl
@[simp] theorem g_shr {a b : Int} : gShrI (.int a) (.int b) = if 0 ≤ b then some (.int (a / 2 ^ b.toNat)) else none := by
  show (if decide (0 ≤ b) = true then _ else _) = _
  by_cases h : 0 ≤ b <;> simp [h]
@[simp] theorem g_and {a b : Int} : gAndI (.int a) (.int b) = some (.int (Builtin.bitAnd a b)) := rfl
@[simp] theorem g_neg {a : Int} : gNeg (.int a) = some (.int (-a)) := rfl
@[simp] theorem g_lt {a b : Int} : gLt (.int a) (.int b) = some (.bool (decide (a < b))) := rfl
@[simp] theorem g_le {a b : Int} : gLe (.int a) (.int b) = some (.bool (decide (a ≤ b))) := rfl
@[simp] theorem g_gt {a b : Int} : gGt (.int a) (.int b) = some (.bool (decide (b < a))) := rfl
@[simp] theorem g_ge {a b : Int} : gGe (.int a) (.int b) = some (.bool (decide (b ≤ a))) := rfl
theorem g_eq {x y : PD} (h : SeqAt.shaped x = true) (h' : SeqAt.shaped y = true) : gEq x y = some (.bool (PyData.eqv x y)) := by
  unfold gEq; rw [h, h']; rfl
theorem g_ne {x y : PD} (h : SeqAt.shaped x = true) (h' : SeqAt.shaped y = true) : gNe x y = some (.bool (!PyData.eqv x y)) := by
  unfold gNe; rw [h, h']; rfl
@[simp] theorem g_is {x : PD} : gIs x .none = some (.bool (isNone x)) := rfl
@[simp] theorem g_isnot {x : PD} : gIsNot x .none = some (.bool (!isNone x)) := rfl
@[simp] theorem gTru_bool {b} : gTru (.bool b) = some b := rfl
@[simp] theorem gTru_none : gTru .none = some false := rfl
@[simp] theorem gTru_int {i} : gTru (.int i) = some (i != 0) := rfl
@[simp] theorem gTru_list {xs} : gTru (.list xs) = some (!xs.isEmpty) := rfl
@[simp] theorem gTru_tuple {xs} : gTru (.tuple xs) = some (!xs.isEmpty) := rfl
@[local simp] theorem o_mB : Wp (mB m (c :: ρ)) Qb ↔ Wp (m (c :: ρ)) fun r ρ1 => WpO (bO r.d) fun b => Qb b ρ1 := by
  unfold mB
  rw [wp_bind]
  refine Wp.congr fun r ρ1 => ?_
  cases r.d <;> simp [bO]
@[local simp] theorem o_mTr : Wp (mTr m (c :: ρ)) Qb ↔ Wp (m (c :: ρ)) fun r ρ1 => WpO (gTru r.d) fun b => Qb b ρ1 := by
  unfold mTr
  rw [wp_bind]
  refine Wp.congr fun x ρ1 => ?_
  cases gTru x.d <;> simp
@[local simp] theorem o_notT {t : Rho → Rz Bool} : Wp (mNotT t (c :: ρ)) Qb ↔ Wp (t (c :: ρ)) fun b ρ1 => Qb (!b) ρ1 := by
  unfold mNotT; rw [wp_bind]; simp only [wp_ok]
@[local simp] theorem o_andT {t u : Rho → Rz Bool} : Wp (mAndT t u (c :: ρ)) Qb ↔ Wp (t (c :: ρ)) fun b ρ1 => (b = true → Wp (u ρ1) Qb) ∧ (¬ b = true → Qb false ρ1) := by
  unfold mAndT; rw [wp_bind]; simp only [wp_ite, wp_ok]
@[local simp] theorem o_orT {t u : Rho → Rz Bool} : Wp (mOrT t u (c :: ρ)) Qb ↔ Wp (t (c :: ρ)) fun b ρ1 => (b = true → Qb true ρ1) ∧ (¬ b = true → Wp (u ρ1) Qb) := by
  unfold mOrT; rw [wp_bind]; simp only [wp_ite, wp_ok]
@[local simp] theorem o_if {t : Rho → Rz Bool} : Wp (mIf t ma mb (c :: ρ)) Q ↔ Wp (t (c :: ρ)) fun b ρ1 => (b = true → Wp (ma ρ1) Q) ∧ (¬ b = true → Wp (mb ρ1) Q) := by
  unfold mIf; rw [wp_bind]; simp only [wp_ite]
@[local simp] theorem o_notV : Wp (mNotV m (c :: ρ)) Q ↔ Wp (m (c :: ρ)) fun r ρ1 => WpO (bO r.d) fun b => Q (.fr (.bool (!b))) ρ1 := by
  unfold mNotV
  rw [wp_bind]
  refine Wp.congr fun r ρ1 => ?_
  cases r.d <;> simp [bO]
@[local simp] theorem o_andV : Wp (mAndV ma mb (c :: ρ)) Q ↔ Wp (ma (c :: ρ)) fun r ρ1 => WpO (bO r.d) fun b => (b = true → Wp (mb ρ1) Q) ∧ (¬ b = true → Q (.fr (.bool false)) ρ1) := by
  unfold mAndV
  rw [wp_bind]
  refine Wp.congr fun r ρ1 => ?_
  cases r.d <;> simp [bO]
@[local simp] theorem o_orV : Wp (mOrV ma mb (c :: ρ)) Q ↔ Wp (ma (c :: ρ)) fun r ρ1 => WpO (bO r.d) fun b => (b = true → Q (.fr (.bool true)) ρ1) ∧ (¬ b = true → Wp (mb ρ1) Q) := by
  unfold mOrV
  rw [wp_bind]
  refine Wp.congr fun r ρ1 => ?_
  cases r.d <;> simp [bO]
@[simp] theorem w_nil : Wp (mNil (c :: ρ)) Ql ↔ Ql [] (c :: ρ) := wp_ok
@[local simp] theorem o_cons {n : Rho → Rz (List PD)} : Wp (mCons m n (c :: ρ)) Ql ↔ Wp (m (c :: ρ)) fun x ρ1 => Wp (n ρ1) fun xs ρ2 => Ql (x.d :: xs) ρ2 := by
  unfold mCons; rw [wp_bind]; simp only [wp_bind, wp_ok]
@[local simp] theorem o_lst {n : Rho → Rz (List PD)} : Wp (mLst n (c :: ρ)) Q ↔ Wp (n (c :: ρ)) fun ds ρ1 => okLen ds.length = true ∧ Q (.ow ds) ρ1 := by
  unfold mLst; rw [wp_bind]; simp
@[local simp] theorem o_tup {n : Rho → Rz (List PD)} : Wp (mTup n (c :: ρ)) Q ↔ Wp (n (c :: ρ)) fun ds ρ1 => okLen ds.length = true ∧ Q (.fr (.tuple ds)) ρ1 := by
  unfold mTup; rw [wp_bind]; simp
@[local simp] theorem o_ixN : Wp (mIxN j m (c :: ρ)) Q ↔ (Rho.peek (c :: ρ) j).isSome = true ∧ Wp (m (c :: ρ)) fun i ρ1 => WpO (ρ1.peek j) fun z => WpO (gIx z i.d) fun d => Q (.fr d) ρ1 := by
  unfold mIxN
  cases h : Rho.peek (c :: ρ) j with
  | none => simp
  | some z =>
    simp only [Option.isSome_some, true_and]
    rw [wp_bind]
    refine Wp.congr fun x ρ1 => ?_
    cases ρ1.peek j with
    | none => simp
    | some z => simp only [wpo_some]; cases gIx z x.d <;> simp
@[local simp] theorem o_ix : Wp (mIx ma mb (c :: ρ)) Q ↔ Wp (ma (c :: ρ)) fun x ρ1 => Wp (mb ρ1) fun y ρ2 => WpO (gIx x.d y.d) fun r => Q (.fr r) ρ2 := by
  unfold mIx; rw [o_op2]; simp only [wpo_map]
@[simp] theorem gIx_list {ds : List PD} {n : Int} : gIx (.list ds) (.int n) = L2.atI ds n := rfl
@[simp] theorem gIx_tuple {ds : List PD} {n : Int} : gIx (.tuple ds) (.int n) = L2.atI ds n := rfl
@[simp] theorem gIx_scr {ns : List Int} {n : Int} : gIx (scr ns) (.int n) = L2.atI (ns.map PyData.int) n := rfl
@[simp] theorem w_mNo : Wp (mNo (c :: ρ)) Qo ↔ Qo none (c :: ρ) := wp_ok
@[local simp] theorem o_mSo : Wp (mSo m (c :: ρ)) Qo ↔ Wp (m (c :: ρ)) fun r ρ1 => WpO (iO r.d) fun i => Qo (some i) ρ1 := by
  unfold mSo
  rw [wp_bind]
  refine Wp.congr fun r ρ1 => ?_
  cases r.d <;> simp [iO]
variable {ml mh ms : Rho → Rz (Option Int)}
@[local simp] theorem o_cutN : Wp (mCutN j ml mh (c :: ρ)) Q ↔ (Rho.peek (c :: ρ) j).isSome = true ∧ Wp (ml (c :: ρ)) fun lo ρ1 => Wp (mh ρ1) fun hi ρ2 => WpO (ρ2.peek j) fun z => WpO (gCut z lo hi) fun d => Q d ρ2 := by
  unfold mCutN
  cases h : Rho.peek (c :: ρ) j with
  | none => simp
  | some z =>
    simp only [Option.isSome_some, true_and]
    rw [wp_bind]
    refine Wp.congr fun lo ρ1 => ?_
    rw [wp_bind]
    refine Wp.congr fun hi ρ2 => ?_
    cases ρ2.peek j with
    | none => simp
    | some z => simp only [wpo_some]; cases gCut z lo hi <;> simp
@[local simp] theorem o_stepN : Wp (mStepN j ml mh ms (c :: ρ)) Q ↔ (Rho.peek (c :: ρ) j).isSome = true ∧ Wp (ml (c :: ρ)) fun lo ρ1 => Wp (mh ρ1) fun hi ρ2 => Wp (ms ρ2) fun st ρ3 => WpO (ρ3.peek j) fun z => WpO (gStep z lo hi st) fun d => Q d ρ3 := by
  unfold mStepN
  cases h : Rho.peek (c :: ρ) j with
  | none => simp
  | some z =>
    simp only [Option.isSome_some, true_and]
    rw [wp_bind]
    refine Wp.congr fun lo ρ1 => ?_
    rw [wp_bind]
    refine Wp.congr fun hi ρ2 => ?_
    rw [wp_bind]
    refine Wp.congr fun st ρ3 => ?_
    cases ρ3.peek j with
    | none => simp
    | some z => simp only [wpo_some]; cases gStep z lo hi st <;> simp
@[local simp] theorem o_cut : Wp (mCut ma ml mh (c :: ρ)) Q ↔ Wp (ma (c :: ρ)) fun x ρ0 => Wp (ml ρ0) fun lo ρ1 => Wp (mh ρ1) fun hi ρ2 => WpO (gCut x.d lo hi) fun d => Q d ρ2 := by
  unfold mCut
  rw [wp_bind]
  refine Wp.congr fun x ρ0 => ?_
  rw [wp_bind]
  refine Wp.congr fun lo ρ1 => ?_
  rw [wp_bind]
  refine Wp.congr fun hi ρ2 => ?_
  cases gCut x.d lo hi <;> simp
@[simp] theorem gCut_list {ds lo hi} : gCut (.list ds) lo hi = some (.ow (cutL ds lo hi)) := rfl
@[simp] theorem gStep_list {ds lo hi st} : gStep (.list ds) lo hi st = if st = some 0 then none else some (.ow (stepL ds lo hi st)) := rfl
@[local simp] theorem o_CB {g} {n : Rho → Rz (List PD)} : Wp (mCB g n (c :: ρ)) Q ↔ Wp (n (c :: ρ)) fun ds ρ1 => WpO (g ds) fun r => Q r ρ1 := by
  unfold mCB; rw [wp_bind]
  refine Wp.congr fun ds ρ1 => ?_
  cases g ds <;> simp
@[simp] theorem g1_one {g : PD → Option PD} {d} : g1 g [d] = g d := rfl
@[simp] theorem gLen_list {ds} : gLen (.list ds) = some (.int ds.length) := rfl
@[simp] theorem gLen_tuple {ds} : gLen (.tuple ds) = some (.int ds.length) := rfl
@[simp] theorem gLen_scr {ns : List Int} : gLen (scr ns) = some (.int ns.length) := by
  show some (PyData.int ((ns.map PyData.int).length : Nat)) = _
  rw [List.length_map]
@[simp] theorem gAbs_int {i : Int} : gAbs (.int i) = some (.int (if i < 0 then -i else i)) := rfl
@[simp] theorem gInt_int {i : Int} : gInt (.int i) = some (.int i) := rfl
@[simp] theorem gInt_bool {b : Bool} : gInt (.bool b) = some (.int (if b then 1 else 0)) := rfl
@[simp] theorem gMax_int {a b : Int} : gMax2 [.int a, .int b] = some (.int (if b > a then b else a)) := rfl
@[simp] theorem gMin_int {a b : Int} : gMin2 [.int a, .int b] = some (.int (if b < a then b else a)) := rfl
@[simp] theorem gListOf_list {ds} : gListOf [.list ds] = some (.ow ds) := rfl
@[simp] theorem gListOf_tuple {ds} : gListOf [.tuple ds] = some (.ow ds) := rfl
@[simp] theorem gTupleOf_list {ds} : gTupleOf [.list ds] = some (.fr (.tuple ds)) := rfl
@[simp] theorem gTupleOf_tuple {ds} : gTupleOf [.tuple ds] = some (.fr (.tuple ds)) := rfl
@[local simp] theorem o_lenN : Wp (mLenN j (c :: ρ)) Q ↔ WpO (Rho.peek (c :: ρ) j) fun z => WpO (gLen z) fun d => Q (.fr d) (c :: ρ) := by
  unfold mLenN
  cases Rho.peek (c :: ρ) j with
  | none => simp
  | some z => simp only [wpo_some]; cases gLen z <;> simp
@[local simp] theorem o_reprN : Wp (mReprN j (c :: ρ)) Q ↔ WpO (Rho.peek (c :: ρ) j) fun z => WpO (gRepr z) fun d => Q (.fr d) (c :: ρ) := by
  unfold mReprN
  cases Rho.peek (c :: ρ) j with
  | none => simp
  | some z => simp only [wpo_some]; cases gRepr z <;> simp
@[local simp] theorem o_isi {T} : Wp (mIsi T m (c :: ρ)) Q ↔ Wp (m (c :: ρ)) fun r ρ1 => WpO (gIsi T r.d) fun d => Q (.fr d) ρ1 := o_op1
@[simp] theorem gIsi_int {T} {i : Int} : gIsi T (.int i) = some (.bool (isTy T (.int i))) := rfl
@[simp] theorem gIsi_list {T ds} : gIsi T (.list ds) = some (.bool (isTy T (.list ds))) := rfl
@[simp] theorem gIsi_bool {T b} : gIsi T (.bool b) = some (.bool (isTy T (.bool b))) := rfl
@[simp] theorem gIsi_none {T} : gIsi T .none = some (.bool (isTy T .none)) := rfl
@[simp] theorem gIsi_str {T x} : gIsi T (.str x) = some (.bool (isTy T (.str x))) := rfl
@[simp] theorem gIsi_tuple {T ds} : gIsi T (.tuple ds) = some (.bool (isTy T (.tuple ds))) := rfl
variable {s t : Rho → Rz Fl}
@[simp] theorem w_nx : Wp (mNx (c :: ρ)) Qf ↔ Qf .nx (c :: ρ) := wp_ok
@[local simp] theorem o_seq : Wp (mSeq s t (c :: ρ)) Qf ↔ Wp (s (c :: ρ)) fun fl ρ1 => match fl with | .nx => (Wp (t ρ1) Qf) | .bk => (Qf .bk ρ1) | .ct => (Qf .ct ρ1) | .rt r => (Qf (.rt r) ρ1) := by
  unfold mSeq
  rw [wp_bind]
  cases s (c :: ρ) with
  | ok fl ρ1 => cases fl <;> simp
  | _ => simp
@[local simp] theorem o_set : Wp (mSet i m (c :: ρ)) Qf ↔ Wp (m (c :: ρ)) fun r ρ1 => i < ρ1.length ∧ Qf .nx (ρ1.set i r.cl) := by
  unfold mSet; rw [wp_bind]; simp
@[local simp] theorem o_par : Wp (mPar i j ma mb (c :: ρ)) Qf ↔ Wp (ma (c :: ρ)) fun r ρ1 => Wp (mb ρ1) fun q ρ2 => (i < ρ2.length ∧ j < ρ2.length) ∧ Qf .nx ((ρ2.set i r.cl).set j q.cl) := by
  unfold mPar; rw [wp_bind]
  refine Wp.congr fun r ρ1 => ?_
  rw [wp_bind]
  refine Wp.congr fun q ρ2 => ?_
  by_cases h : i < ρ2.length ∧ j < ρ2.length
  · rw [if_pos h]; simp [h]
  · rw [if_neg h]; simp only [wp_stuck, h, false_and]
@[local simp] theorem o_ret : Wp (mRet m (c :: ρ)) Qf ↔ Wp (m (c :: ρ)) fun r ρ1 => Qf (.rt r) ρ1 := by
  unfold mRet; rw [wp_bind]; simp
@[simp] theorem w_retN : Wp (mRetN (c :: ρ)) Qf ↔ Qf (.rt (.fr .none)) (c :: ρ) := wp_ok
@[local simp] theorem o_drop : Wp (mDrop m (c :: ρ)) Qf ↔ Wp (m (c :: ρ)) fun r ρ1 => Qf .nx ρ1 := by
  unfold mDrop; rw [wp_bind]; simp
@[local simp] theorem o_ifS {b : Rho → Rz Bool} : Wp (mIfS b s t (c :: ρ)) Qf ↔ Wp (b (c :: ρ)) fun b ρ1 => (b = true → Wp (s ρ1) Qf) ∧ (¬ b = true → Wp (t ρ1) Qf) := by
  unfold mIfS; rw [wp_bind]; simp
@[simp] theorem owL_cons : Rho.owL (c :: ρ) i = (c :: ρ)[i]?.bind fun x => match x with
  | .ow ds => some ds
  | _ => none := by
  unfold Rho.owL
  cases h : (c :: ρ)[i]? with
  | none => rfl
  | some x => cases x <;> rfl
@[local simp] theorem o_app : Wp (mApp i m (c :: ρ)) Q ↔ (Rho.owL (c :: ρ) i).isSome = true ∧ Wp (m (c :: ρ)) fun r ρ1 => WpO (ρ1.owL i) fun ds => okLen (ds.length + 1) = true ∧ Q (.fr .none) (ρ1.set i (.ow (ds ++ [r.d]))) := by
  unfold mApp
  cases h : Rho.owL (c :: ρ) i with
  | none => simp
  | some z =>
    simp only [Option.isSome_some, true_and]
    rw [wp_bind]
    refine Wp.congr fun r ρ1 => ?_
    cases ρ1.owL i <;> simp
@[local simp] theorem o_setIx : Wp (mSetIx i mb ma (c :: ρ)) Qf ↔ Wp (ma (c :: ρ)) fun r ρ1 => (ρ1.owL i).isSome = true ∧ Wp (mb ρ1) fun ix ρ2 => WpO (ρ2.owL i) fun ds => WpO (iO ix.d) fun n => WpO (L2.ixN ds.length n) fun j => Qf .nx (ρ2.set i (.ow (ds.set j r.d))) := by
  unfold mSetIx
  rw [wp_bind]
  refine Wp.congr fun r ρ1 => ?_
  cases h : ρ1.owL i with
  | none => simp
  | some z =>
    simp only [Option.isSome_some, true_and]
    rw [wp_bind]
    refine Wp.congr fun ix ρ2 => ?_
    cases h2 : ρ2.owL i with
    | none => simp
    | some ds =>
      simp only [wpo_some]
      cases h3 : ix.d with
      | int n =>
        simp only [iO_int, wpo_some]
        cases h4 : L2.ixN ds.length n <;> simp
      | _ => simp [iO]
@[local simp] theorem o_asg {g} : Wp (mAsg g m (c :: ρ)) Qf ↔ Wp (m (c :: ρ)) fun r ρ1 => WpO (g r.d ρ1) fun ρ2 => Qf .nx ρ2 := by
  unfold mAsg; rw [wp_bind]
  refine Wp.congr fun r ρ1 => ?_
  cases g r.d ρ1 <;> simp
@[simp] theorem gN_cons {d : PD} : gN i d (c :: ρ) = if i < (c :: ρ).length then some ((c :: ρ).set i (.fr d)) else none := rfl
@[simp] theorem gTp_tup {n h} {ds : List PD} : gTp n h (.tuple ds) (c :: ρ) = if ds.length = n then h ds (c :: ρ) else none := rfl
@[simp] theorem gsNil_nil : gsNil [] (c :: ρ) = some (c :: ρ) := rfl
@[simp] theorem gsCons_cons {g h} {d : PD} {r : List PD} : gsCons g h (d :: r) (c :: ρ) = (g d (c :: ρ)).bind fun ρ1 => h r ρ1 := rfl
@[local simp] theorem o_items : Wp (mItems m (c :: ρ)) Ql ↔ Wp (m (c :: ρ)) fun r ρ1 => WpO (itemsOf r.d) fun ds => Ql ds ρ1 := by
  unfold mItems; rw [wp_bind]
  refine Wp.congr fun r ρ1 => ?_
  cases itemsOf r.d <;> simp
@[simp] theorem items_list {ds} : itemsOf (.list ds) = some ds := rfl
@[simp] theorem items_tuple {ds} : itemsOf (.tuple ds) = some ds := rfl
@[simp] theorem items_scr {ns : List Int} : itemsOf (scr ns) = some (ns.map PyData.int) := rfl
@[local simp] theorem o_G {g} {n : Rho → Rz (List PD)} : Wp (mG g n (c :: ρ)) Ql ↔ Wp (n (c :: ρ)) fun ds ρ1 => WpO (g ds) fun r => Ql r ρ1 := by
  unfold mG; rw [wp_bind]
  refine Wp.congr fun ds ρ1 => ?_
  cases g ds <;> simp
@[simp] theorem gRange1_int {n : Int} : gRange1 [.int n] = if big62 n = true then some (rangeD 0 n.toNat) else none := rfl
@[simp] theorem gRange2_int {a n : Int} : gRange2 [.int a, .int n] = if (big62 a && big62 n) = true then some (rangeD a (n - a).toNat) else none := rfl
@[simp] theorem gEnum_list {ds} : gEnum [.list ds] = some (enumD 0 ds) := rfl
@[simp] theorem gZip_list {ds es} : gZip [.list ds, .list es] = some (zipD ds es) := rfl
@[local simp] theorem o_for {mi g} : Wp (mFor mi g s (c :: ρ)) Qf ↔ Wp (mi (c :: ρ)) fun ds ρ1 => Wp (forR (turnF g s) ds ρ1) Qf := by
  unfold mFor; rw [wp_bind]
theorem o_turnF {g} {d : PD} {ρ : Rho} : Wp (turnF g s d ρ) Qf ↔ WpO (g d ρ) fun ρ1 => Wp (s ρ1) Qf := by
  unfold turnF
  cases g d ρ <;> simp
/-- a for loop by an invariant of what is left -/
theorem for_inv {g} (I : List PD → Rho → Prop) {ds : List PD} {ρ : Rho} (h0 : I ds ρ)
    (step : ∀ d ds ρ, I (d :: ds) ρ → Wp (turnF g s d ρ) fun fl ρ' => match fl with
      | .nx => I ds ρ'
      | .ct => I ds ρ'
      | .bk => Qf .nx ρ'
      | .rt r => Qf (.rt r) ρ') (fin : ∀ ρ, I [] ρ → Qf .nx ρ) : Wp (forR (turnF g s) ds ρ) Qf := by
  induction ds generalizing ρ with
  | nil => exact wp_ok.mpr (fin ρ h0)
  | cons d ds ih =>
    unfold forR
    rw [wp_bind]
    refine (step d ds ρ h0).mono fun fl ρ' h => ?_
    cases fl with
    | nx => exact ih h
    | ct => exact ih h
    | bk => exact wp_ok.mpr h
    | rt r => exact wp_ok.mpr h
@[local simp] theorem o_lc {mi g mt me vs} : Wp (mLc mi g mt me vs (c :: ρ)) Q ↔ Wp (mi (c :: ρ)) fun ds ρ1 => okLen ds.length = true ∧ Wp (lcR (turnL g mt me vs) ds [] (wipeR ρ1 vs)) fun acc ρ2 => Q (.ow acc) (backR ρ1 ρ2 vs) := by
  unfold mLc
  rw [wp_bind]
  simp only [wp_ite, wp_stuck, wp_bind, wp_ok]
  cases mi (c :: ρ) with
  | ok ds ρ1 =>
    simp only [wp_ok]
    cases lcR (turnL g mt me vs) ds [] (wipeR ρ1 vs) <;> simp [Rz.calm]
  | _ => simp
theorem o_turnL {g mt me vs} {d : PD} {ρ : Rho} {Qt : Option PD → Rho → Prop} : Wp (turnL g mt me vs d ρ) Qt ↔ WpO (g d ρ) fun ρ1 => Wp (mt ρ1) fun b ρ2 => (b = true → Wp (me ρ2) fun r ρ3 => Qt (some r.d) (wipeR ρ3 vs)) ∧ (¬ b = true → Qt none (wipeR ρ2 vs)) := by
  unfold turnL
  cases g d ρ with
  | none => simp
  | some ρ1 =>
    simp only [wp_bind, wp_ite, wp_ok, wpo_some]
theorem lc_inv {g mt me vs} (I : List PD → List PD → Rho → Prop) {ds acc : List PD} {ρ : Rho} (h0 : I ds acc ρ)
    (step : ∀ d ds acc ρ, I (d :: ds) acc ρ → Wp (turnL g mt me vs d ρ) fun o ρ' => I ds (acc ++ o.toList) ρ') (fin : ∀ acc ρ, I [] acc ρ → Ql acc ρ) : Wp (lcR (turnL g mt me vs) ds acc ρ) Ql := by
  induction ds generalizing ρ acc with
  | nil => exact wp_ok.mpr (fin acc ρ h0)
  | cons d ds ih =>
    unfold lcR
    rw [wp_bind]
    exact (step d ds acc ρ h0).mono fun o ρ' h => ih h
@[simp] theorem w_yes : Wp (mYes (c :: ρ)) Qb ↔ Qb true (c :: ρ) := wp_ok
@[simp] theorem wipe_nil : wipeR (c :: ρ) [] = c :: ρ := rfl
@[simp] theorem wipe_cons {v : Nat} {vs : List Nat} : wipeR (c :: ρ) (v :: vs) = (wipeR (c :: ρ) vs).set v .no := rfl
@[simp] theorem back_nil {ρ0 : Rho} : backR ρ0 (c :: ρ) [] = c :: ρ := rfl
@[simp] theorem back_cons {ρ0 : Rho} {v : Nat} {vs : List Nat} : backR ρ0 (c :: ρ) (v :: vs) = (backR ρ0 (c :: ρ) vs).set v (match ρ0[v]? with
    | some (.fr d) => .fr d
    | _ => .no) := rfl
@[local simp] theorem o_chain {g g'} : Wp (mChain g g' ma mb mc (c :: ρ)) Q ↔ Wp (ma (c :: ρ)) fun x ρ1 => Wp (mb ρ1) fun y ρ2 => WpO (g x.d y.d) fun t => t = .fr t.d ∧ WpO (bO t.d) fun b => (b = true → Wp (mc ρ2) fun z ρ3 => WpO (g' y.d z.d) fun w => Q w ρ3) ∧ (¬ b = true → Q (.fr (.bool false)) ρ2) := by
  unfold mChain
  rw [wp_bind]
  refine Wp.congr fun x ρ1 => ?_
  rw [wp_bind]
  refine Wp.congr fun y ρ2 => ?_
  cases h : g x.d y.d with
  | none => simp
  | some w =>
    cases w with
    | ow ds => simp
    | fr d =>
      cases d with
      | bool b =>
        cases b with
        | false => simp
        | true =>
          simp [wp_bind]
          refine Wp.congr fun z ρ3 => ?_
          cases g' y.d z.d <;> simp
      | _ => simp [bO]
/-! calls -/
theorem o_fnM {J : List Nat} {n N : Nat} {b : Rho → Rz Fl} {ρ : Rho} : Wp (fnM J n N b ρ) Q ↔ okArgs J n ρ = true ∧ Wp (b (ρ ++ List.replicate (N - n) .no)) fun fl ρ' => match fl with | .rt r => (WpO (outs J ρ ρ') fun ρ2 => Q r ρ2) | .nx => (WpO (outs J ρ ρ') fun ρ2 => Q (.fr .none) ρ2) | _ => (False) := by
  unfold fnM
  by_cases h : okArgs J n ρ = true
  · rw [if_pos h]
    simp only [h, true_and]
    cases b (ρ ++ List.replicate (N - n) .no) with
    | ok fl ρ' =>
      cases fl with
      | rt r => simp only [wp_ok]; cases outs J ρ ρ' <;> simp
      | nx => simp only [wp_ok]; cases outs J ρ ρ' <;> simp
      | bk => simp
      | ct => simp
    | exc c f ρ' => by_cases hJ : J = [] <;> simp [hJ]
    | stuck => simp
  · rw [if_neg h]; simp [h]
/-- what is asked behind a call: a name of its own, so that the rest waits -/
def KC (Q : Rv → Rho → Prop) (ρ : Rho) : Rv → Rho → Prop := fun r _ => Q r ρ
def KP (Q : Rv → Rho → Prop) (ρ : Rho) : Rv → Rho → Prop := fun r _ => r.hard = true ∧ Q r ρ
def K0 (Q : Rv → Rho → Prop) (ρ : Rho) (i : Nat) : Rv → Rho → Prop := fun r ρ' => WpO (hO ρ') fun ts' => Q r (ρ.set i (.ow ts'))
@[simp] theorem KC_app {r : Rv} {ρ' : Rho} : KC Q ρ r ρ' ↔ Q r ρ := Iff.rfl
@[simp] theorem KP_app {r : Rv} {ρ' : Rho} : KP Q ρ r ρ' ↔ (r.hard = true ∧ Q r ρ) := Iff.rfl
@[simp] theorem K0_app {r : Rv} {ρ' : Rho} : K0 Q ρ i r ρ' ↔ WpO (hO ρ') fun ts' => Q r (ρ.set i (.ow ts')) := Iff.rfl
@[local simp] theorem o_call {n : Rho → Rz (List PD)} : Wp (mCall m n (c :: ρ)) Q ↔ Wp (n (c :: ρ)) fun ds ρ1 => Wp (m (ds.map .fr)) (KC Q ρ1) := by
  unfold mCall
  rw [wp_bind]
  have e : ∀ ds ρ1, Wp (callR m ds ρ1) Q ↔ Wp (m (ds.map .fr)) (KC Q ρ1) := fun ds ρ1 => by
    unfold callR
    cases m (ds.map .fr) <;> simp
  simp only [e]
theorem w_RP {ds : List PD} {ρ1 : Rho} : Wp (callRP m ds ρ1) Q ↔ Wp (m (ds.map .fr)) (KP Q ρ1) := by
  unfold callRP
  cases m (ds.map .fr) with
  | ok r ρ' => by_cases h : r.hard = true <;> simp [h]
  | exc c f ρ' => by_cases h : hardF f = true <;> simp [h]
  | stuck => simp
@[local simp] theorem o_callP {n : Rho → Rz (List PD)} : Wp (mCallP m n (c :: ρ)) Q ↔ Wp (n (c :: ρ)) fun ds ρ1 => Wp (m (ds.map .fr)) (KP Q ρ1) := by
  unfold mCallP
  rw [wp_bind]
  simp only [w_RP]
@[local simp] theorem o_callKP {ix : List Nat} {k : Nat} {n : Rho → Rz (List PD)} : Wp (mCallKP ix k m n (c :: ρ)) Q ↔ Wp (n (c :: ρ)) fun ds ρ1 => ds.length = k ∧ Wp (m ((perm ix ds).map .fr)) (KP Q ρ1) := by
  unfold mCallKP
  rw [wp_bind]
  simp only [wp_ite, w_RP, wp_stuck]
  simp
@[local simp] theorem o_call0 {n : Rho → Rz (List PD)} : Wp (mCall0 i m n (c :: ρ)) Q ↔ (Rho.owL (c :: ρ) i).isSome = true ∧ Wp (n (c :: ρ)) fun ds ρ1 => WpO (ρ1.owL i) fun ts => Wp (m (.ow ts :: ds.map .fr)) (K0 Q ρ1 i) := by
  have e : ∀ ds ρ1, Wp (callR0 i m ds ρ1) Q ↔ WpO (ρ1.owL i) fun ts => Wp (m (.ow ts :: ds.map .fr)) (K0 Q ρ1 i) := fun ds ρ1 => by
    unfold callR0 Rho.owL
    cases h : ρ1[i]? with
    | none => simp
    | some x =>
      cases x with
      | no => simp
      | fr d => simp
      | ow ts =>
        simp only [wpo_some]
        cases h2 : m (.ow ts :: ds.map .fr) with
        | ok r ρ' =>
          cases ρ' with
          | nil => simp [hO]
          | cons y tl => cases y <;> simp [hO]
        | _ => simp
  unfold mCall0
  rw [owL_cons]
  cases h : (c :: ρ)[i]? with
  | none => simp
  | some x =>
    cases x with
    | no => simp
    | fr d => simp
    | ow ts => simp only [wp_bind, e]; simp
@[local simp] theorem o_pkA {n : Rho → Rz (List PD)} : Wp (mPkA i n (c :: ρ)) Ql ↔ (Rho.peek (c :: ρ) i).isSome = true ∧ Wp (n (c :: ρ)) fun xs ρ1 => WpO (ρ1.peek i) fun d => Ql (d :: xs) ρ1 := by
  unfold mPkA
  cases h : Rho.peek (c :: ρ) i with
  | none => simp
  | some z =>
    simp only [Option.isSome_some, true_and]
    rw [wp_bind]
    refine Wp.congr fun xs ρ1 => ?_
    cases ρ1.peek i <;> simp
end
end
section
theorem ite_both {p : Prop} [Decidable p] {A B : Prop} : ((p → A) ∧ (¬ p → B)) ↔ if p then A else B := by
  by_cases h : p <;> simp [h]
theorem WpO.congr {β : Type} {o : Option β} {Q Q' : β → Prop} (h : ∀ b, Q b ↔ Q' b) : WpO o Q ↔ WpO o Q' := by
  cases o <;> simp [h]
section
variable {α β : Type}
def kA (Q : α → Rho → Prop) (ρ : Rho) : α → Prop := fun a => Q a ρ
@[simp ↓] theorem kA_a {Q : α → Rho → Prop} {ρ a} : kA Q ρ a ↔ Q a ρ := Iff.rfl
def kD (Q : Rv → Rho → Prop) (ρ : Rho) : PD → Prop := fun d => Q (.fr d) ρ
@[simp ↓] theorem kD_a {Q ρ a} : kD Q ρ a ↔ Q (.fr a) ρ := Iff.rfl
def kNot (Q : Rv → Rho → Prop) (ρ : Rho) : Bool → Prop := fun b => Q (.fr (.bool (!b))) ρ
@[simp ↓] theorem kNot_a {Q ρ b} : kNot Q ρ b ↔ Q (.fr (.bool (!b))) ρ := Iff.rfl
def kAnd (mb : Rho → Rz Rv) (Q : Rv → Rho → Prop) (ρ1 : Rho) : Bool → Prop := fun b => if b = true then Wp (mb ρ1) Q else Q (.fr (.bool false)) ρ1
@[simp ↓] theorem kAnd_a {mb Q ρ1 b} : kAnd mb Q ρ1 b ↔ if b = true then Wp (mb ρ1) Q else Q (.fr (.bool false)) ρ1 := Iff.rfl
def kOr (mb : Rho → Rz Rv) (Q : Rv → Rho → Prop) (ρ1 : Rho) : Bool → Prop := fun b => if b = true then Q (.fr (.bool true)) ρ1 else Wp (mb ρ1) Q
@[simp ↓] theorem kOr_a {mb Q ρ1 b} : kOr mb Q ρ1 b ↔ if b = true then Q (.fr (.bool true)) ρ1 else Wp (mb ρ1) Q := Iff.rfl
def kO (G : α → Option β) (K : β → Prop) : α → Prop := fun z => WpO (G z) K
@[simp ↓] theorem kO_a {G : α → Option β} {K : β → Prop} {z : α} : kO G K z ↔ WpO (G z) K := Iff.rfl
def kSo (Qo : Option Int → Rho → Prop) (ρ : Rho) : Int → Prop := fun i => Qo (some i) ρ
@[simp ↓] theorem kSo_a {Qo ρ i} : kSo Qo ρ i ↔ Qo (some i) ρ := Iff.rfl
def kV (i : Nat) (Q : Rv → Rho → Prop) (ρ : Rho) : Cl → Prop := fun x => match x with | .fr d => Q (.fr d) ρ | .ow ds => Q (.fr (.list ds)) (ρ.set i (.fr (.list ds))) | .no => False
@[simp ↓] theorem kV_fr {i Q ρ d} : kV i Q ρ (.fr d) ↔ Q (.fr d) ρ := Iff.rfl
@[simp ↓] theorem kV_ow {i Q ρ ds} : kV i Q ρ (.ow ds) ↔ Q (.fr (.list ds)) (ρ.set i (.fr (.list ds))) := Iff.rfl
@[simp ↓] theorem kV_no {i Q ρ} : kV i Q ρ .no ↔ False := Iff.rfl
def kMv (i : Nat) (Q : Rv → Rho → Prop) (ρ : Rho) : Cl → Prop := fun x => match x with | .fr d => Q (.fr d) ρ | .ow ds => Q (.ow ds) (ρ.set i .no) | .no => False
@[simp ↓] theorem kMv_fr {i Q ρ d} : kMv i Q ρ (.fr d) ↔ Q (.fr d) ρ := Iff.rfl
@[simp ↓] theorem kMv_ow {i Q ρ ds} : kMv i Q ρ (.ow ds) ↔ Q (.ow ds) (ρ.set i .no) := Iff.rfl
@[simp ↓] theorem kMv_no {i Q ρ} : kMv i Q ρ .no ↔ False := Iff.rfl
def kApp (i : Nat) (r : Rv) (Q : Rv → Rho → Prop) (ρ1 : Rho) : List PD → Prop := fun ds => okLen (ds.length + 1) = true ∧ Q (.fr .none) (ρ1.set i (.ow (ds ++ [r.d])))
@[simp ↓] theorem kApp_a {i r Q ρ1 ds} : kApp i r Q ρ1 ds ↔ okLen (ds.length + 1) = true ∧ Q (.fr .none) (ρ1.set i (.ow (ds ++ [r.d]))) := Iff.rfl
def kSetIx3 (i : Nat) (ds : List PD) (r : Rv) (Qf : Fl → Rho → Prop) (ρ2 : Rho) : Nat → Prop := fun j => Qf .nx (ρ2.set i (.ow (ds.set j r.d)))
@[simp ↓] theorem kSetIx3_a {i ds r Qf ρ2 j} : kSetIx3 i ds r Qf ρ2 j ↔ Qf .nx (ρ2.set i (.ow (ds.set j r.d))) := Iff.rfl
def kSetIx (i : Nat) (ix r : Rv) (Qf : Fl → Rho → Prop) (ρ2 : Rho) : List PD → Prop := fun ds => WpO (iO ix.d) (kO (fun n => L2.ixN ds.length n) (kSetIx3 i ds r Qf ρ2))
@[simp ↓] theorem kSetIx_a {i ix r Qf ρ2 ds} : kSetIx i ix r Qf ρ2 ds ↔ WpO (iO ix.d) (kO (fun n => L2.ixN ds.length n) (kSetIx3 i ds r Qf ρ2)) := Iff.rfl
def kChB (g' : PD → PD → Option Rv) (y : Rv) (mc : Rho → Rz Rv) (Q : Rv → Rho → Prop) (ρ2 : Rho) : Bool → Prop := fun b => if b = true then Wp (mc ρ2) (lz fun z ρ3 => WpO (g' y.d z.d) (kA Q ρ3)) else Q (.fr (.bool false)) ρ2
@[simp ↓] theorem kChB_a {g' y mc Q ρ2 b} : kChB g' y mc Q ρ2 b ↔ if b = true then Wp (mc ρ2) (lz fun z ρ3 => WpO (g' y.d z.d) (kA Q ρ3)) else Q (.fr (.bool false)) ρ2 := Iff.rfl
def kCh (g' : PD → PD → Option Rv) (y : Rv) (mc : Rho → Rz Rv) (Q : Rv → Rho → Prop) (ρ2 : Rho) : Rv → Prop := fun t => t = .fr t.d ∧ WpO (bO t.d) (kChB g' y mc Q ρ2)
@[simp ↓] theorem kCh_a {g' y mc Q ρ2 t} : kCh g' y mc Q ρ2 t ↔ t = .fr t.d ∧ WpO (bO t.d) (kChB g' y mc Q ρ2) := Iff.rfl
def kC0 (m : Rho → Rz Rv) (ds : List PD) (Q : Rv → Rho → Prop) (ρ1 : Rho) (i : Nat) : List PD → Prop := fun ts => Wp (m (.ow ts :: ds.map .fr)) (K0 Q ρ1 i)
@[simp ↓] theorem kC0_a {m ds Q ρ1 i ts} : kC0 m ds Q ρ1 i ts ↔ Wp (m (.ow ts :: ds.map .fr)) (K0 Q ρ1 i) := Iff.rfl
def kPk (xs : List PD) (Ql : List PD → Rho → Prop) (ρ1 : Rho) : PD → Prop := fun d => Ql (d :: xs) ρ1
@[simp ↓] theorem kPk_a {xs Ql ρ1 d} : kPk xs Ql ρ1 d ↔ Ql (d :: xs) ρ1 := Iff.rfl
def kTF (s : Rho → Rz Fl) (Qf : Fl → Rho → Prop) : Rho → Prop := fun ρ1 => Wp (s ρ1) Qf
@[simp ↓] theorem kTF_a {s Qf ρ1} : kTF s Qf ρ1 ↔ Wp (s ρ1) Qf := Iff.rfl
def kTL (mt : Rho → Rz Bool) (me : Rho → Rz Rv) (vs : List Nat) (Qt : Option PD → Rho → Prop) : Rho → Prop := fun ρ1 => Wp (mt ρ1) (lz fun b ρ2 => (if b = true then (Wp (me ρ2) (lz fun r ρ3 => Qt (some r.d) (wipeR ρ3 vs))) else (Qt none (wipeR ρ2 vs))))
@[simp ↓] theorem kTL_a {mt me vs Qt ρ1} : kTL mt me vs Qt ρ1 ↔ Wp (mt ρ1) (lz fun b ρ2 => (if b = true then (Wp (me ρ2) (lz fun r ρ3 => Qt (some r.d) (wipeR ρ3 vs))) else (Qt none (wipeR ρ2 vs)))) := Iff.rfl
def kNx (Qf : Fl → Rho → Prop) : Rho → Prop := fun ρ => Qf .nx ρ
@[simp ↓] theorem kNx_a {Qf ρ} : kNx Qf ρ ↔ Qf .nx ρ := Iff.rfl
end

variable {c : Cl} {ρ : Rho} {Q : Rv → Rho → Prop} {Qf : Fl → Rho → Prop} {Qb : Bool → Rho → Prop} {Ql : List PD → Rho → Prop} {Qo : Option Int → Rho → Prop} {m n ma mb mc : Rho → Rz Rv} {i j : Nat}
variable {ml mh ms : Rho → Rz (Option Int)}
variable {s t : Rho → Rz Fl}
@[simp] theorem w_mV : Wp (mV i (c :: ρ)) Q ↔ WpO (c :: ρ)[i]? (kV i Q (c :: ρ)) := o_mV
@[simp] theorem w_mMv : Wp (mMv i (c :: ρ)) Q ↔ WpO (c :: ρ)[i]? (kMv i Q (c :: ρ)) := o_mMv
@[simp] theorem w_op2 {g} : Wp (mOp2 g ma mb (c :: ρ)) Q ↔ Wp (ma (c :: ρ)) (lz fun x ρ1 => Wp (mb ρ1) (lz fun y ρ2 => WpO (g x.d y.d) (kA Q ρ2))) := o_op2
@[simp] theorem w_op1 {g} : Wp (mOp1 g ma (c :: ρ)) Q ↔ Wp (ma (c :: ρ)) (lz fun x ρ1 => WpO (g x.d) (kD Q ρ1)) := o_op1
@[simp] theorem w_mB : Wp (mB m (c :: ρ)) Qb ↔ Wp (m (c :: ρ)) (lz fun r ρ1 => WpO (bO r.d) (kA Qb ρ1)) := o_mB
@[simp] theorem w_mTr : Wp (mTr m (c :: ρ)) Qb ↔ Wp (m (c :: ρ)) (lz fun r ρ1 => WpO (gTru r.d) (kA Qb ρ1)) := o_mTr
@[simp] theorem w_notT {t : Rho → Rz Bool} : Wp (mNotT t (c :: ρ)) Qb ↔ Wp (t (c :: ρ)) (lz fun b ρ1 => Qb (!b) ρ1) := o_notT
@[simp] theorem w_andT {t u : Rho → Rz Bool} : Wp (mAndT t u (c :: ρ)) Qb ↔ Wp (t (c :: ρ)) (lz fun b ρ1 => (if b = true then (Wp (u ρ1) Qb) else (Qb false ρ1))) := by rw [o_andT]; exact Wp.congr fun b ρ1 => ite_both
@[simp] theorem w_orT {t u : Rho → Rz Bool} : Wp (mOrT t u (c :: ρ)) Qb ↔ Wp (t (c :: ρ)) (lz fun b ρ1 => (if b = true then (Qb true ρ1) else (Wp (u ρ1) Qb))) := by rw [o_orT]; exact Wp.congr fun b ρ1 => ite_both
@[simp] theorem w_if {t : Rho → Rz Bool} : Wp (mIf t ma mb (c :: ρ)) Q ↔ Wp (t (c :: ρ)) (lz fun b ρ1 => (if b = true then (Wp (ma ρ1) Q) else (Wp (mb ρ1) Q))) := by rw [o_if]; exact Wp.congr fun b ρ1 => ite_both
@[simp] theorem w_notV : Wp (mNotV m (c :: ρ)) Q ↔ Wp (m (c :: ρ)) (lz fun r ρ1 => WpO (bO r.d) (kNot Q ρ1)) := o_notV
@[simp] theorem w_andV : Wp (mAndV ma mb (c :: ρ)) Q ↔ Wp (ma (c :: ρ)) (lz fun r ρ1 => WpO (bO r.d) (kAnd mb Q ρ1)) := by rw [o_andV]; exact Wp.congr fun r ρ1 => WpO.congr fun b => ite_both
@[simp] theorem w_orV : Wp (mOrV ma mb (c :: ρ)) Q ↔ Wp (ma (c :: ρ)) (lz fun r ρ1 => WpO (bO r.d) (kOr mb Q ρ1)) := by rw [o_orV]; exact Wp.congr fun r ρ1 => WpO.congr fun b => ite_both
@[simp] theorem w_cons {n : Rho → Rz (List PD)} : Wp (mCons m n (c :: ρ)) Ql ↔ Wp (m (c :: ρ)) (lz fun x ρ1 => Wp (n ρ1) (lz fun xs ρ2 => Ql (x.d :: xs) ρ2)) := o_cons
@[simp] theorem w_lst {n : Rho → Rz (List PD)} : Wp (mLst n (c :: ρ)) Q ↔ Wp (n (c :: ρ)) (lz fun ds ρ1 => okLen ds.length = true ∧ Q (.ow ds) ρ1) := o_lst
@[simp] theorem w_tup {n : Rho → Rz (List PD)} : Wp (mTup n (c :: ρ)) Q ↔ Wp (n (c :: ρ)) (lz fun ds ρ1 => okLen ds.length = true ∧ Q (.fr (.tuple ds)) ρ1) := o_tup
@[simp] theorem w_ixN : Wp (mIxN j m (c :: ρ)) Q ↔ (Rho.peek (c :: ρ) j).isSome = true ∧ Wp (m (c :: ρ)) (lz fun i ρ1 => WpO (ρ1.peek j) (kO (fun z => gIx z i.d) (kD Q ρ1))) := o_ixN
@[simp] theorem w_ix : Wp (mIx ma mb (c :: ρ)) Q ↔ Wp (ma (c :: ρ)) (lz fun x ρ1 => Wp (mb ρ1) (lz fun y ρ2 => WpO (gIx x.d y.d) (kD Q ρ2))) := o_ix
@[simp] theorem w_mSo : Wp (mSo m (c :: ρ)) Qo ↔ Wp (m (c :: ρ)) (lz fun r ρ1 => WpO (iO r.d) (kSo Qo ρ1)) := o_mSo
@[simp] theorem w_cutN : Wp (mCutN j ml mh (c :: ρ)) Q ↔ (Rho.peek (c :: ρ) j).isSome = true ∧ Wp (ml (c :: ρ)) (lz fun lo ρ1 => Wp (mh ρ1) (lz fun hi ρ2 => WpO (ρ2.peek j) (kO (fun z => gCut z lo hi) (kA Q ρ2)))) := o_cutN
@[simp] theorem w_stepN : Wp (mStepN j ml mh ms (c :: ρ)) Q ↔ (Rho.peek (c :: ρ) j).isSome = true ∧ Wp (ml (c :: ρ)) (lz fun lo ρ1 => Wp (mh ρ1) (lz fun hi ρ2 => Wp (ms ρ2) (lz fun st ρ3 => WpO (ρ3.peek j) (kO (fun z => gStep z lo hi st) (kA Q ρ3))))) := o_stepN
@[simp] theorem w_cut : Wp (mCut ma ml mh (c :: ρ)) Q ↔ Wp (ma (c :: ρ)) (lz fun x ρ0 => Wp (ml ρ0) (lz fun lo ρ1 => Wp (mh ρ1) (lz fun hi ρ2 => WpO (gCut x.d lo hi) (kA Q ρ2)))) := o_cut
@[simp] theorem w_CB {g} {n : Rho → Rz (List PD)} : Wp (mCB g n (c :: ρ)) Q ↔ Wp (n (c :: ρ)) (lz fun ds ρ1 => WpO (g ds) (kA Q ρ1)) := o_CB
@[simp] theorem w_lenN : Wp (mLenN j (c :: ρ)) Q ↔ WpO (Rho.peek (c :: ρ) j) (kO gLen (kD Q (c :: ρ))) := o_lenN
@[simp] theorem w_reprN : Wp (mReprN j (c :: ρ)) Q ↔ WpO (Rho.peek (c :: ρ) j) (kO gRepr (kD Q (c :: ρ))) := o_reprN
@[simp] theorem w_isi {T} : Wp (mIsi T m (c :: ρ)) Q ↔ Wp (m (c :: ρ)) (lz fun r ρ1 => WpO (gIsi T r.d) (kD Q ρ1)) := o_isi
@[simp] theorem w_seq : Wp (mSeq s t (c :: ρ)) Qf ↔ Wp (s (c :: ρ)) (lz fun fl ρ1 => match fl with | .nx => (Wp (t ρ1) Qf) | .bk => (Qf .bk ρ1) | .ct => (Qf .ct ρ1) | .rt r => (Qf (.rt r) ρ1)) := o_seq
@[simp] theorem w_set : Wp (mSet i m (c :: ρ)) Qf ↔ Wp (m (c :: ρ)) (lz fun r ρ1 => i < ρ1.length ∧ Qf .nx (ρ1.set i r.cl)) := o_set
@[simp] theorem w_par : Wp (mPar i j ma mb (c :: ρ)) Qf ↔ Wp (ma (c :: ρ)) (lz fun r ρ1 => Wp (mb ρ1) (lz fun q ρ2 => (i < ρ2.length ∧ j < ρ2.length) ∧ Qf .nx ((ρ2.set i r.cl).set j q.cl))) := o_par
@[simp] theorem w_ret : Wp (mRet m (c :: ρ)) Qf ↔ Wp (m (c :: ρ)) (lz fun r ρ1 => Qf (.rt r) ρ1) := o_ret
@[simp] theorem w_drop : Wp (mDrop m (c :: ρ)) Qf ↔ Wp (m (c :: ρ)) (lz fun r ρ1 => Qf .nx ρ1) := o_drop
@[simp] theorem w_ifS {b : Rho → Rz Bool} : Wp (mIfS b s t (c :: ρ)) Qf ↔ Wp (b (c :: ρ)) (lz fun b ρ1 => (if b = true then (Wp (s ρ1) Qf) else (Wp (t ρ1) Qf))) := by rw [o_ifS]; exact Wp.congr fun b ρ1 => ite_both
@[simp] theorem w_app : Wp (mApp i m (c :: ρ)) Q ↔ (Rho.owL (c :: ρ) i).isSome = true ∧ Wp (m (c :: ρ)) (lz fun r ρ1 => WpO (ρ1.owL i) (kApp i r Q ρ1)) := o_app
@[simp] theorem w_setIx : Wp (mSetIx i mb ma (c :: ρ)) Qf ↔ Wp (ma (c :: ρ)) (lz fun r ρ1 => (ρ1.owL i).isSome = true ∧ Wp (mb ρ1) (lz fun ix ρ2 => WpO (ρ2.owL i) (kSetIx i ix r Qf ρ2))) := o_setIx
@[simp] theorem w_asg {g} : Wp (mAsg g m (c :: ρ)) Qf ↔ Wp (m (c :: ρ)) (lz fun r ρ1 => WpO (g r.d ρ1) (kNx Qf)) := o_asg
@[simp] theorem w_items : Wp (mItems m (c :: ρ)) Ql ↔ Wp (m (c :: ρ)) (lz fun r ρ1 => WpO (itemsOf r.d) (kA Ql ρ1)) := o_items
@[simp] theorem w_G {g} {n : Rho → Rz (List PD)} : Wp (mG g n (c :: ρ)) Ql ↔ Wp (n (c :: ρ)) (lz fun ds ρ1 => WpO (g ds) (kA Ql ρ1)) := o_G
@[simp] theorem w_for {mi g} : Wp (mFor mi g s (c :: ρ)) Qf ↔ Wp (mi (c :: ρ)) (lz fun ds ρ1 => Wp (forR (turnF g s) ds ρ1) Qf) := o_for
theorem w_turnF {g} {d : PD} {ρ : Rho} : Wp (turnF g s d ρ) Qf ↔ WpO (g d ρ) (kTF s Qf) := o_turnF
@[simp] theorem w_lc {mi g mt me vs} : Wp (mLc mi g mt me vs (c :: ρ)) Q ↔ Wp (mi (c :: ρ)) (lz fun ds ρ1 => okLen ds.length = true ∧ Wp (lcR (turnL g mt me vs) ds [] (wipeR ρ1 vs)) (lz fun acc ρ2 => Q (.ow acc) (backR ρ1 ρ2 vs))) := o_lc
theorem w_turnL {g mt me vs} {d : PD} {ρ : Rho} {Qt : Option PD → Rho → Prop} : Wp (turnL g mt me vs d ρ) Qt ↔ WpO (g d ρ) (kTL mt me vs Qt) := by rw [o_turnL]; exact WpO.congr fun ρ1 => Wp.congr fun b ρ2 => ite_both
@[simp] theorem w_chain {g g'} : Wp (mChain g g' ma mb mc (c :: ρ)) Q ↔ Wp (ma (c :: ρ)) (lz fun x ρ1 => Wp (mb ρ1) (lz fun y ρ2 => WpO (g x.d y.d) (kCh g' y mc Q ρ2))) := by rw [o_chain]; exact Wp.congr fun x ρ1 => Wp.congr fun y ρ2 => WpO.congr fun t => and_congr Iff.rfl (WpO.congr fun b => ite_both)
theorem w_fnM {J : List Nat} {n N : Nat} {b : Rho → Rz Fl} {ρ : Rho} : Wp (fnM J n N b ρ) Q ↔ okArgs J n ρ = true ∧ Wp (b (ρ ++ List.replicate (N - n) .no)) (lz fun fl ρ' => match fl with | .rt r => (WpO (outs J ρ ρ') (Q r)) | .nx => (WpO (outs J ρ ρ') (Q (.fr .none))) | _ => (False)) := o_fnM
@[simp] theorem w_call {n : Rho → Rz (List PD)} : Wp (mCall m n (c :: ρ)) Q ↔ Wp (n (c :: ρ)) (lz fun ds ρ1 => Wp (m (ds.map .fr)) (KC Q ρ1)) := o_call
@[simp] theorem w_callP {n : Rho → Rz (List PD)} : Wp (mCallP m n (c :: ρ)) Q ↔ Wp (n (c :: ρ)) (lz fun ds ρ1 => Wp (m (ds.map .fr)) (KP Q ρ1)) := o_callP
@[simp] theorem w_callKP {ix : List Nat} {k : Nat} {n : Rho → Rz (List PD)} : Wp (mCallKP ix k m n (c :: ρ)) Q ↔ Wp (n (c :: ρ)) (lz fun ds ρ1 => ds.length = k ∧ Wp (m ((perm ix ds).map .fr)) (KP Q ρ1)) := o_callKP
@[simp] theorem w_call0 {n : Rho → Rz (List PD)} : Wp (mCall0 i m n (c :: ρ)) Q ↔ (Rho.owL (c :: ρ) i).isSome = true ∧ Wp (n (c :: ρ)) (lz fun ds ρ1 => WpO (ρ1.owL i) (kC0 m ds Q ρ1 i)) := o_call0
@[simp] theorem w_pkA {n : Rho → Rz (List PD)} : Wp (mPkA i n (c :: ρ)) Ql ↔ (Rho.peek (c :: ρ) i).isSome = true ∧ Wp (n (c :: ρ)) (lz fun xs ρ1 => WpO (ρ1.peek i) (kPk xs Ql ρ1)) := o_pkA
end
end Sd
namespace Sd
open PySem PySem.Spec
/-! ### places, types, sizes -/
section
variable {α : Type} {xs : List α} {i : Int}
theorem atI_nn (h : 0 ≤ i) : L2.atI xs i = xs[i.toNat]? := by
  unfold L2.atI L2.ixN
  rw [if_pos h]
  by_cases c : i < xs.length
  · rw [if_pos c]; rfl
  · rw [if_neg c, List.getElem?_eq_none (by omega)]; rfl
@[simp] theorem atI_0 : L2.atI xs 0 = xs[0]? := atI_nn (by decide)
@[simp] theorem atI_1 : L2.atI xs 1 = xs[1]? := atI_nn (by decide)
@[simp] theorem atI_2 : L2.atI xs 2 = xs[2]? := atI_nn (by decide)
@[simp] theorem atI_3 : L2.atI xs 3 = xs[3]? := atI_nn (by decide)
@[simp] theorem atI_4 : L2.atI xs 4 = xs[4]? := atI_nn (by decide)
@[simp] theorem atI_5 : L2.atI xs 5 = xs[5]? := atI_nn (by decide)
@[simp] theorem atI_6 : L2.atI xs 6 = xs[6]? := atI_nn (by decide)
@[simp] theorem atI_7 : L2.atI xs 7 = xs[7]? := atI_nn (by decide)
@[simp] theorem atI_8 : L2.atI xs 8 = xs[8]? := atI_nn (by decide)
@[simp] theorem atI_9 : L2.atI xs 9 = xs[9]? := atI_nn (by decide)
@[simp] theorem atI_10 : L2.atI xs 10 = xs[10]? := atI_nn (by decide)
@[simp] theorem atI_11 : L2.atI xs 11 = xs[11]? := atI_nn (by decide)
@[simp] theorem atI_12 : L2.atI xs 12 = xs[12]? := atI_nn (by decide)
@[simp] theorem atI_cast {n : Nat} : L2.atI xs (n : Int) = xs[n]? := by rw [atI_nn (Int.natCast_nonneg n)]; rfl
theorem ixN_lt {n : Nat} (h : 0 ≤ i) (h' : i < n) : L2.ixN n i = some i.toNat := by
  unfold L2.ixN
  rw [if_pos h, if_pos h']
end
@[simp] theorem ty_int_int {i} : isTy .int (.int i) = true := rfl
@[simp] theorem ty_bool_int {i} : isTy .bool (.int i) = false := rfl
@[simp] theorem ty_str_int {i} : isTy .str (.int i) = false := rfl
@[simp] theorem ty_list_int {i} : isTy .list (.int i) = false := rfl
@[simp] theorem ty_tuple_int {i} : isTy .tuple (.int i) = false := rfl
@[simp] theorem ty_int_none : isTy .int .none = false := rfl
@[simp] theorem ty_list_none : isTy .list .none = false := rfl
@[simp] theorem ty_str_none : isTy .str .none = false := rfl
@[simp] theorem ty_list_list {ds} : isTy .list (.list ds) = true := rfl
@[simp] theorem ty_int_list {ds} : isTy .int (.list ds) = false := rfl
@[simp] theorem ty_str_list {ds} : isTy .str (.list ds) = false := rfl
@[simp] theorem ty_tuple_list {ds} : isTy .tuple (.list ds) = false := rfl
@[simp] theorem ty_str_str {x} : isTy .str (.str x) = true := rfl
@[simp] theorem ty_int_str {x} : isTy .int (.str x) = false := rfl
@[simp] theorem ty_list_str {x} : isTy .list (.str x) = false := rfl
@[simp] theorem ty_tuple_tuple {ds} : isTy .tuple (.tuple ds) = true := rfl
@[simp] theorem ty_list_tuple {ds} : isTy .list (.tuple ds) = false := rfl
/-- a number of at most a thousand bits -/
def Sm (i : Int) : Prop := i.natAbs < 2 ^ 1000
theorem sm_of {i : Int} (h : -(10 ^ 200) ≤ i) (h' : i ≤ 10 ^ 200) : Sm i := by
  have e : (10 : Nat) ^ 200 < 2 ^ 1000 := by decide +kernel
  refine Nat.lt_of_le_of_lt ?_ e
  clear e
  omega
theorem Sm.lg {i : Int} (h : Sm i) : Sd.lg i < 1000 := by
  unfold Sd.lg
  by_cases z : i.natAbs = 0
  · rw [z]; decide
  · exact (Nat.log2_lt z).mpr h
theorem okMul_sm {i j : Int} (h : Sm i) (h' : Sm j) : okMul i j = true := by
  have a := h.lg
  have b := h'.lg
  unfold okMul
  (exact decide_eq_true (by omega))
theorem okDiv_sm {j : Int} (h : Sm j) (h0 : j ≠ 0) : okDiv j = true := by
  have a := h.lg
  unfold okDiv
  rw [decide_eq_true h0, decide_eq_true (show lg j < 9000 by omega)]
  rfl
theorem okPow_sm {i n : Int} (h : Sm i) (h0 : 0 ≤ n) (h1 : n ≤ 10000) : okPow i n = true := by
  have a := h.lg
  unfold okPow
  rw [decide_eq_true h0, decide_eq_true (show (lg i + 1) * n.toNat ≤ 100000000 from ?_)]
  · rfl
  · have b : n.toNat ≤ 10000 := by omega
    calc (lg i + 1) * n.toNat ≤ 1000 * 10000 := Nat.mul_le_mul (by omega) b
      _ ≤ 100000000 := by decide
@[simp] theorem okLen_eq {n : Nat} : okLen n = decide (n ≤ 1000000) := rfl
@[simp] theorem okPow_10_18 : okPow 10 18 = true := okPow_sm (sm_of (by decide) (by decide)) (by decide) (by decide)
@[simp] theorem okPow_10_21 : okPow 10 21 = true := okPow_sm (sm_of (by decide) (by decide)) (by decide) (by decide)
@[simp] theorem okPow_10_30 : okPow 10 30 = true := okPow_sm (sm_of (by decide) (by decide)) (by decide) (by decide)
@[simp] theorem okPow_10_31 : okPow 10 31 = true := okPow_sm (sm_of (by decide) (by decide)) (by decide) (by decide)
@[simp] theorem okPow_10_39 : okPow 10 39 = true := okPow_sm (sm_of (by decide) (by decide)) (by decide) (by decide)
@[simp] theorem okPow_10_40 : okPow 10 40 = true := okPow_sm (sm_of (by decide) (by decide)) (by decide) (by decide)
@[simp] theorem okPow_10_44 : okPow 10 44 = true := okPow_sm (sm_of (by decide) (by decide)) (by decide) (by decide)
@[simp] theorem okPow_10_46 : okPow 10 46 = true := okPow_sm (sm_of (by decide) (by decide)) (by decide) (by decide)
@[simp] theorem okPow_10_50 : okPow 10 50 = true := okPow_sm (sm_of (by decide) (by decide)) (by decide) (by decide)
@[simp] theorem okPow_10_61 : okPow 10 61 = true := okPow_sm (sm_of (by decide) (by decide)) (by decide) (by decide)
/-! what repr shows -/
mutual
/-- numbers of at most 200 digits, nothing written, no dict -/
def shN : PD → Bool
  | .int i => decide (i.natAbs < 10 ^ 200)
  | .str _ => false
  | .dict _ => false
  | .list ds => shNs ds
  | .tuple ds => shNs ds
  | _ => true
def shNs : List PD → Bool
  | [] => true
  | d :: ds => shN d && shNs ds
end
mutual
def cost : PD → Nat
  | .list ds => costs ds + 3
  | .tuple ds => costs ds + 3
  | _ => 202
def costs : List PD → Nat
  | [] => 0
  | d :: ds => cost d + 2 + costs ds
end
theorem log_200 {i : Int} (h : i.natAbs < 10 ^ 200) : i.natAbs.log2 < 1920 := by
  by_cases z : i.natAbs = 0
  · rw [z]; decide
  · exact (Nat.log2_lt z).mpr (Nat.lt_trans h (by decide +kernel))
theorem textFrom_up : ∀ (ts : List Str) (k : Nat) (acc : Str), (PySem.textFrom k acc ts).length ≤ acc.length + PySem.piled ts
  | [], _, acc => by show acc.length ≤ acc.length + 0; omega
  | t :: r, k, acc => by
    show (PySem.textFrom (k + 1) (acc ++ (if k > 0 then ", " else "" : String) ++ t) r).length ≤ _
    have h := textFrom_up r (k + 1) (acc ++ (if k > 0 then ", " else "" : String) ++ t)
    rw [strLen_append, strLen_append] at h
    rw [PySem.piled_cons]
    have e : (Str.ofString (if k > 0 then ", " else "")).length ≤ 2 := by split <;> decide
    omega
theorem listText_len (ts : List Str) : (listText ts).length ≤ PySem.piled ts + 2 := by
  unfold listText
  rw [strLen_append]
  have h := textFrom_up ts 0 "["
  have e1 : (Str.ofString "[").length = 1 := (by decide)
  have e2 : (Str.ofString "]").length = 1 := (by decide)
  omega
theorem tupleText_len (ts : List Str) : (tupleText ts).length ≤ PySem.piled ts + 3 := by
  unfold tupleText
  (rw [strLen_append, strLen_append])
  have e0 : (Str.ofString "(").length = 1 := by decide
  have e1 : (Str.ofString (if (ts.length == 1) = true then ",)" else ")")).length ≤ 2 := by split <;> decide
  by_cases h : ts = []
  · subst h
    have e3 : (Str.join ", " []).length = 0 := by decide
    omega
  · have h := join_length_add ts h
    omega
mutual
theorem shown_len : ∀ d : PD, shN d = true → d.shown.length ≤ cost d
  | .none, _ => by simp only [PyData.shown, cost]; decide
  | .bool b, _ => by simp only [PyData.shown, cost]; cases b <;> decide
  | .int i, h => by
    simp only [PyData.shown, cost, shN] at h ⊢
    have := int_text_length_le10 (k := 200) (by decide) (of_decide_eq_true h)
    rw [ofString_length]
    omega
  | .str x, h => by simp [shN] at h
  | .dict x, h => by simp [shN] at h
  | .list ds, h => by
    simp only [PyData.shown, cost, shN] at h ⊢
    have a := listText_len (PyData.shownAll ds)
    have b := shownAll_len ds h
    omega
  | .tuple ds, h => by
    simp only [PyData.shown, cost, shN] at h ⊢
    have a := tupleText_len (PyData.shownAll ds)
    have b := shownAll_len ds h
    omega
theorem shownAll_len : ∀ ds : List PD, shNs ds = true → PySem.piled (PyData.shownAll ds) ≤ costs ds
  | [], _ => by simp [PyData.shownAll, costs, PySem.piled]
  | d :: ds, h => by
    simp only [shNs, Bool.and_eq_true] at h
    simp only [PyData.shownAll, costs]
    rw [PySem.piled_cons]
    have a := shown_len d h.1
    have b := shownAll_len ds h.2
    omega
end
mutual
theorem shN_showable : ∀ d : PD, shN d = true → d.showable = true ∧ d.hasDict = false
  | .none, _ => by simp [PyData.showable, PyData.hasDict]
  | .bool b, _ => by simp [PyData.showable, PyData.hasDict]
  | .int i, h => by
    simp only [PyData.showable, PyData.hasDict, shN] at h ⊢
    exact ⟨decide_eq_true (log_200 (of_decide_eq_true h)), trivial⟩
  | .str x, h => by simp [shN] at h
  | .dict x, h => by simp [shN] at h
  | .list ds, h => by
    simp only [PyData.showable, PyData.hasDict, shN] at h ⊢
    exact shNs_showable ds h
  | .tuple ds, h => by
    simp only [PyData.showable, PyData.hasDict, shN] at h ⊢
    exact shNs_showable ds h
theorem shNs_showable : ∀ ds : List PD, shNs ds = true → PyData.showableAll ds = true ∧ PyData.hasDictAll ds = false
  | [], _ => by simp [PyData.showableAll, PyData.hasDictAll]
  | d :: ds, h => by
    simp only [shNs, Bool.and_eq_true] at h
    have a := shN_showable d h.1
    have b := shNs_showable ds h.2
    simp [PyData.showableAll, PyData.hasDictAll, a, b]
end
theorem okShow_of {d : PD} (h : shN d = true) (hc : cost d ≤ 10000000) (hd : d.depth ≤ 50) : okShow d = true := by
  have a := shN_showable d h
  have b := shown_len d h
  unfold okShow
  rw [a.1, okDct_of d a.2, decide_eq_true (show d.shown.length ≤ 10000000 by omega), decide_eq_true hd]
  rfl
theorem gRepr_of {d : PD} (h : shN d = true) (hc : cost d ≤ 10000000) (hd : d.depth ≤ 50) : gRepr d = some (.str d.shown) := by
  unfold gRepr
  rw [if_pos (okShow_of h hc hd)]
/-- lists of numbers -/
def Bn (i : Int) : Prop := i.natAbs < 10 ^ 200
theorem shNs_ints : ∀ {ns : List Int}, (∀ n ∈ ns, Bn n) → shNs (ns.map PyData.int) = true
  | [], _ => rfl
  | n :: ns, h => by
    simp only [List.map_cons, shNs, shN, Bool.and_eq_true]
    exact ⟨decide_eq_true (h n (List.mem_cons_self ..)), shNs_ints fun m hm => h m (List.mem_cons_of_mem _ hm)⟩
theorem costs_ints : ∀ ns : List Int, costs (ns.map PyData.int) = 204 * ns.length
  | [] => rfl
  | n :: ns => by
    simp only [List.map_cons, costs, cost, List.length_cons]
    rw [costs_ints ns]; omega
theorem gRepr_ints {ns : List Int} (h : ∀ n ∈ ns, Bn n) (hl : ns.length ≤ 10000) : gRepr (.list (ns.map PyData.int)) = some (.str (PyData.list (ns.map PyData.int)).shown) := by
  refine gRepr_of (by simp only [shN]; exact shNs_ints h) ?_ ?_
  · simp only [cost]; rw [costs_ints]; omega
  · simp only [PyData.depth]; rw [PySem.W.ke_depthAll]; decide
theorem gEq_ints {ns ms : List Int} : gEq (.list (ns.map PyData.int)) (.list (ms.map PyData.int)) = some (.bool (decide (ns = ms))) := by
  rw [g_eq (PySem.W.ke_shaped_ints ns) (PySem.W.ke_shaped_ints ms)]
  show some (PyData.bool (PyData.eqvAll _ _)) = _
  rw [PySem.W.ked_eqvAll]
theorem gNe_ints {ns ms : List Int} : gNe (.list (ns.map PyData.int)) (.list (ms.map PyData.int)) = some (.bool (!decide (ns = ms))) := by
  rw [g_ne (PySem.W.ke_shaped_ints ns) (PySem.W.ke_shaped_ints ms)]
  show some (PyData.bool (!PyData.eqvAll _ _)) = _
  rw [PySem.W.ked_eqvAll]
@[simp] theorem gEq_int {a b : Int} : gEq (.int a) (.int b) = some (.bool (decide (a = b))) := by
  rw [g_eq rfl rfl]
  show some (PyData.bool (a == b)) = _
  by_cases h : a = b <;> simp [h]
@[simp] theorem gNe_int {a b : Int} : gNe (.int a) (.int b) = some (.bool (!decide (a = b))) := by
  rw [g_ne rfl rfl]
  show some (PyData.bool (!(a == b))) = _
  by_cases h : a = b <;> simp [h]
theorem hardAll_ints : ∀ ns : List Int, hardAll (ns.map PyData.int) = true
  | [] => rfl
  | n :: ns => by simp only [List.map_cons, hardAll, hard]; rw [hardAll_ints ns]; rfl
end Sd
namespace Sd
open PySem PySem.Spec
/-! ### shown text compares -/
def SOk (x : Str) : Prop := PyData.strOk x = true
theorem sok_of (s : String) : SOk (Str.ofString s) := by
  unfold SOk PyData.strOk
  rw [Str.ofString_eq_toList, Array.all_eq_true_iff_forall_mem]
  intro c hc
  simp at hc
  obtain ⟨d, _, rfl⟩ := hc
  have h := d.valid
  have : d.toNat < 0x110000 := by
    rcases h with h | h
    · exact Nat.lt_trans h (by decide)
    · exact h.2
  exact decide_eq_true this
theorem sok_app {a b : Str} (h : SOk a) (h' : SOk b) : SOk (a ++ b) := by
  unfold SOk PyData.strOk at *
  show (a.cps ++ b.cps).all _ = true
  rw [Array.all_append, h, h']; rfl
theorem sok_text : ∀ (ts : List Str) (k : Nat) (acc : Str), SOk acc → (∀ t ∈ ts, SOk t) → SOk (textFrom k acc ts)
  | [], _, _, h, _ => h
  | t :: r, k, acc, h, ht => sok_text r (k + 1) _ (sok_app (sok_app h (by split <;> exact sok_of _)) (ht t (List.mem_cons_self ..))) fun u hu => ht u (List.mem_cons_of_mem _ hu)
theorem sok_join : ∀ ts : List Str, (∀ t ∈ ts, SOk t) → SOk (Str.join ", " ts)
  | [], _ => sok_of ""
  | [y], h => h y (List.mem_cons_self ..)
  | x :: y :: r, h => sok_app (sok_app (h x (List.mem_cons_self ..)) (sok_of _)) (sok_join (y :: r) fun u hu => h u (List.mem_cons_of_mem _ hu))
mutual
theorem sok_shown : ∀ d : PD, shN d = true → SOk d.shown
  | .none, _ => by simp only [PyData.shown]; exact sok_of _
  | .bool b, _ => by simp only [PyData.shown]; cases b <;> exact sok_of _
  | .int i, h => by simp only [PyData.shown]; exact sok_of _
  | .str x, h => by simp [shN] at h
  | .dict x, h => by simp [shN] at h
  | .list ds, h => by
    simp only [PyData.shown, shN] at h ⊢
    exact sok_app (sok_text _ 0 _ (sok_of _) (sok_shownAll ds h)) (sok_of _)
  | .tuple ds, h => by
    simp only [PyData.shown, shN] at h ⊢
    exact sok_app (sok_app (sok_of _) (sok_join _ (sok_shownAll ds h))) (by split <;> exact sok_of _)
theorem sok_shownAll : ∀ ds : List PD, shNs ds = true → ∀ t ∈ PyData.shownAll ds, SOk t
  | [], _, t, ht => by simp [PyData.shownAll] at ht
  | d :: ds, h, t, ht => by
    simp only [shNs, Bool.and_eq_true] at h
    simp only [PyData.shownAll, List.mem_cons] at ht
    rcases ht with rfl | ht
    · exact sok_shown d h.1
    · exact sok_shownAll ds h.2 t ht
end
theorem gNe_same {d : PD} (h : SeqAt.shaped d = true) : gNe d d = some (.bool false) := by
  rw [g_ne h h, SeqAt.eqv_refl d (SeqAt.canLay_of_shaped h)]; rfl
theorem gEq_same {d : PD} (h : SeqAt.shaped d = true) : gEq d d = some (.bool true) := by
  rw [g_eq h h, SeqAt.eqv_refl d (SeqAt.canLay_of_shaped h)]
theorem shaped_str {x : Str} (h : SOk x) : SeqAt.shaped (.str x) = true := by
  unfold SeqAt.shaped
  simp only [PyData.canLay0, PyData.depth, Bool.and_eq_true]
  exact ⟨h, rfl⟩
theorem gNe_str {x : Str} (h : SOk x) : gNe (.str x) (.str x) = some (.bool false) := gNe_same (shaped_str h)
theorem gEq_str {x : Str} (h : SOk x) : gEq (.str x) (.str x) = some (.bool true) := gEq_same (shaped_str h)
/-- the text of a list of numbers -/
def txt (ns : List Int) : Str := (PyData.list (ns.map PyData.int)).shown
theorem sok_txt {ns : List Int} (h : ∀ n ∈ ns, Bn n) : SOk (txt ns) := sok_shown _ (by simp only [shN]; exact shNs_ints h)
theorem repr_ints {ns : List Int} (h : ∀ n ∈ ns, Bn n) (hl : ns.length ≤ 10000) : gRepr (.list (ns.map PyData.int)) = some (.str (txt ns)) := gRepr_ints h hl
theorem gNe_txt {ns : List Int} (h : ∀ n ∈ ns, Bn n) : gNe (.str (txt ns)) (.str (txt ns)) = some (.bool false) := gNe_str (sok_txt h)
theorem gEq_txt {ns : List Int} (h : ∀ n ∈ ns, Bn n) : gEq (.str (txt ns)) (.str (txt ns)) = some (.bool true) := gEq_str (sok_txt h)
end Sd
namespace Sd
open PySem PySem.Spec
/-! ### slices, turns, mirrors of lists -/
section
variable {α : Type}
theorem cutL_from {xs : List α} {c : Int} (h : 0 ≤ c) : cutL xs (some c) none = xs.drop c.toNat := by
  unfold cutL
  obtain ⟨k, rfl⟩ := Int.eq_ofNat_of_zero_le h
  rw [HT.sIx_nat, HT.sIx_none]
  by_cases z : k ≤ xs.length
  · rw [Nat.min_eq_left z]
    show List.take _ (List.drop k xs) = List.drop k xs
    rw [List.take_of_length_le (by rw [List.length_drop]; exact Nat.le_refl _)]
  · rw [Nat.min_eq_right (by omega), List.drop_of_length_le (Nat.le_refl _), List.drop_of_length_le (by show xs.length ≤ k; omega)]
    simp
theorem cutL_to {xs : List α} {c : Int} (h : 0 ≤ c) : cutL xs none (some c) = xs.take c.toNat := by
  unfold cutL
  obtain ⟨k, rfl⟩ := Int.eq_ofNat_of_zero_le h
  rw [HT.sIx_nat, HT.sIx_none, List.drop_zero, Nat.sub_zero]
  show List.take (min k xs.length) xs = List.take k xs
  by_cases z : k ≤ xs.length
  · rw [Nat.min_eq_left z]
  · (rw [Nat.min_eq_right (by omega), List.take_of_length_le (Nat.le_refl _), List.take_of_length_le (by omega)])
theorem perm_all (xs : List α) : perm (List.range xs.length) xs = xs := by
  unfold perm
  refine List.ext_getElem? fun i => ?_
  have e : ∀ n, n ≤ xs.length → (List.range n).filterMap (fun i => xs[i]?) = xs.take n := by
    intro n hn
    induction n with
    | zero => simp
    | succ n ih =>
      rw [List.range_succ, List.filterMap_append, ih (by omega), List.take_add_one]
      simp [List.filterMap_cons, List.getElem?_eq_getElem (show n < xs.length by omega)]
  rw [e _ (Nat.le_refl _), List.take_length]
theorem step_rev1 (xs : List α) : stepL xs none (some 0) (some (-1)) = (xs.drop 1).reverse := by
  unfold stepL
  have hb : sliceBounds none (some 0) (some (-1)) xs.length = ((xs.length : Int) - 1, max (-1) (min 0 ((xs.length : Int) - 1)), -1) := rfl
  rw [hb]
  show perm (sliceRange ((xs.length : Int) - 1) (max (-1) (min 0 ((xs.length : Int) - 1))) (-1)) xs = _
  have hr : sliceRange ((xs.length : Int) - 1) (max (-1) (min 0 ((xs.length : Int) - 1))) (-1) = ((List.range (xs.drop 1).length).map fun k => 1 + k).reverse := by
    unfold sliceRange
    have hs : (if (-1 : Int) > 0 then (if (xs.length : Int) - 1 < max (-1) (min 0 ((xs.length : Int) - 1)) then (max (-1) (min 0 ((xs.length : Int) - 1)) - ((xs.length : Int) - 1) + -1 - 1) / -1 else 0)
        else (if (xs.length : Int) - 1 > max (-1) (min 0 ((xs.length : Int) - 1)) then ((xs.length : Int) - 1 - max (-1) (min 0 ((xs.length : Int) - 1)) - -1 - 1) / (- -1) else 0)) = ((xs.drop 1).length : Int) := by
      rw [if_neg (by decide), List.length_drop]
      (rw [show (- -1 : Int) = 1 by decide, Int.ediv_one])
      split <;> omega
    simp only [hs, Int.toNat_natCast]
    (refine List.ext_getElem (by simp) fun i h1 h2 => ?_)
    have hi : i < xs.length - 1 := by simpa using h2
    rw [List.getElem_reverse, List.getElem_map, List.getElem_map, List.getElem_range, List.getElem_range]
    simp only [List.length_map, List.length_range, List.length_drop]
    omega
  rw [hr]
  have h := perm_all (xs.drop 1)
  unfold perm at h ⊢
  rw [List.filterMap_reverse, List.filterMap_map]
  have e : ((fun i => xs[i]?) ∘ fun k => 1 + k) = fun k => (xs.drop 1)[k]? := funext fun k => by simp [Nat.add_comm]
  rw [e, h]
def rot (t : Int) (xs : List α) : List α := xs.drop ((-t) % xs.length).toNat ++ xs.take ((-t) % xs.length).toNat
def mir (xs : List α) : List α := xs.take 1 ++ (xs.drop 1).reverse
theorem rot_map {β : Type} (f : α → β) (t : Int) (xs : List α) : rot t (xs.map f) = (rot t xs).map f := by
  unfold rot; simp
theorem mir_map {β : Type} (f : α → β) (xs : List α) : mir (xs.map f) = (mir xs).map f := by
  unfold mir; simp
@[simp] theorem rot_len (t : Int) (xs : List α) : (rot t xs).length = xs.length := by
  unfold rot
  rw [List.length_append, List.length_drop, List.length_take]
  by_cases h : xs.length = 0
  · omega
  · have h1 := Int.emod_nonneg (-t) (show (xs.length : Int) ≠ 0 by omega)
    have h2 := Int.emod_lt_of_pos (-t) (show 0 < (xs.length : Int) by omega)
    omega
@[simp] theorem mir_len (xs : List α) : (mir xs).length = xs.length := by
  unfold mir
  simp
  omega
theorem mem_rot {t : Int} {xs : List α} {x : α} (h : x ∈ rot t xs) : x ∈ xs := by
  unfold rot at h
  (rcases List.mem_append.mp h with h | h)
  · exact List.mem_of_mem_drop h
  · exact List.mem_of_mem_take h
theorem mem_mir {xs : List α} {x : α} (h : x ∈ mir xs) : x ∈ xs := by
  unfold mir at h
  (rcases List.mem_append.mp h with h | h)
  · exact List.mem_of_mem_take h
  · exact List.mem_of_mem_drop (List.mem_reverse.mp h)
/-- where slot j goes -/
def ft (t : Int) (n : Nat) (j : Nat) : Nat := (((j : Int) + t) % n).toNat
def fm (n : Nat) (j : Nat) : Nat := ((-(j : Int)) % n).toNat
theorem ft_lt {t : Int} {n j : Nat} (h : j < n) : ft t n j < n := by
  have h1 := Int.emod_nonneg ((j : Int) + t) (show (n : Int) ≠ 0 by omega)
  have h2 := Int.emod_lt_of_pos ((j : Int) + t) (show 0 < (n : Int) by omega)
  unfold ft; omega
theorem ft_back {t : Int} {n j : Nat} (h : j < n) : ft (-t) n (ft t n j) = j := by
  have h1 := Int.emod_nonneg ((j : Int) + t) (show (n : Int) ≠ 0 by omega)
  unfold ft
  rw [Int.toNat_of_nonneg h1, Int.emod_add_emod, Int.add_assoc, Int.add_right_neg, Int.add_zero, Int.emod_eq_of_lt (by omega) (by omega)]
  rfl
theorem ft_on {t : Int} {n j : Nat} (h : j < n) : ft t n (ft (-t) n j) = j := by
  have := ft_back (t := -t) h
  rwa [Int.neg_neg] at this
theorem ft_inj {t : Int} {n i j : Nat} (hi : i < n) (hj : j < n) (h : ft t n i = ft t n j) : i = j := by
  rw [← ft_back (t := t) hi, ← ft_back (t := t) hj, h]
theorem fm_lt {n j : Nat} (h : j < n) : fm n j < n := by
  have h1 := Int.emod_nonneg (-(j : Int)) (show (n : Int) ≠ 0 by omega)
  have h2 := Int.emod_lt_of_pos (-(j : Int)) (show 0 < (n : Int) by omega)
  unfold fm; omega
theorem fm_eq {n j : Nat} (h : j < n) : fm n j = if j = 0 then 0 else n - j := by
  unfold fm
  split
  · rename_i e; subst e; simp
  · rw [← Int.add_emod_right, Int.emod_eq_of_lt (by omega) (by omega)]; omega
theorem fm_back {n j : Nat} (h : j < n) : fm n (fm n j) = j := by
  rw [fm_eq (fm_lt h), fm_eq h]
  split <;> split <;> omega
theorem fm_inj {n i j : Nat} (hi : i < n) (hj : j < n) (h : fm n i = fm n j) : i = j := by
  rw [← fm_back hi, ← fm_back hj, h]
theorem rot_at {t : Int} {xs : List α} {j : Nat} (h : j < xs.length) : (rot t xs)[ft t xs.length j]? = xs[j]? := by
  have hp := ft_lt (t := t) h
  have hc1 := Int.emod_nonneg (-t) (show (xs.length : Int) ≠ 0 by omega)
  have hc2 := Int.emod_lt_of_pos (-t) (show 0 < (xs.length : Int) by omega)
  have hb := ft_back (t := t) h
  have e : (((ft t xs.length j : Nat) : Int) + (-t) % xs.length) % xs.length = j := by
    have : (((ft t xs.length j : Nat) : Int) + (-t) % xs.length) % xs.length = (((ft t xs.length j : Nat) : Int) + (-t)) % xs.length := by rw [Int.add_emod_emod]
    rw [this]
    have h1 := Int.emod_nonneg (((ft t xs.length j : Nat) : Int) + (-t)) (show (xs.length : Int) ≠ 0 by omega)
    have : ((((ft t xs.length j : Nat) : Int) + (-t)) % xs.length).toNat = j := hb
    omega
  unfold rot
  generalize hq : ((-t) % (xs.length : Int)).toNat = c at *
  have hcc : (-t) % (xs.length : Int) = (c : Int) := by omega
  rw [hcc] at e
  generalize ft t xs.length j = p at *
  by_cases z : p + c < xs.length
  · rw [Int.emod_eq_of_lt (by omega) (by omega)] at e
    rw [List.getElem?_append_left (by rw [List.length_drop]; omega), List.getElem?_drop]
    congr 1; omega
  · rw [← Int.sub_emod_right, Int.emod_eq_of_lt (by omega) (by omega)] at e
    rw [List.getElem?_append_right (by rw [List.length_drop]; omega), List.length_drop, List.getElem?_take_of_lt (by omega)]
    congr 1; omega
theorem mir_at {xs : List α} {j : Nat} (h : j < xs.length) : (mir xs)[fm xs.length j]? = xs[j]? := by
  rw [fm_eq h]
  unfold mir
  cases xs with
  | nil => simp at h
  | cons x r =>
    simp only [List.take_succ_cons, List.take_zero, List.drop_succ_cons, List.drop_zero, List.length_cons] at *
    split
    · rename_i e; subst e; rfl
    · rename_i e
      rw [List.getElem?_append_right (by simp; omega)]
      (simp only [List.length_cons, List.length_nil])
      rw [List.getElem?_reverse (by omega)]
      obtain ⟨i, rfl⟩ : ∃ i, j = i + 1 := ⟨j - 1, by omega⟩
      rw [List.getElem?_cons_succ]
      congr 1; omega
/-- a list is what it holds at the places of f -/
theorem list_by {f g : Nat → Nat} {xs ys zs : List α} (h1 : xs.length = zs.length) (h2 : ys.length = zs.length) (hg : ∀ k, k < zs.length → g k < zs.length ∧ f (g k) = k) (hx : ∀ j, j < zs.length → xs[f j]? = zs[j]?) (hy : ∀ j, j < zs.length → ys[f j]? = zs[j]?) : xs = ys := by
  (refine List.ext_getElem? fun k => ?_)
  by_cases h : k < zs.length
  · obtain ⟨a, b⟩ := hg k h
    have e1 := hx (g k) a
    have e2 := hy (g k) a
    rw [b] at e1 e2
    rw [e1, e2]
  · rw [List.getElem?_eq_none (by omega), List.getElem?_eq_none (by omega)]
theorem rot_back {t : Int} {xs : List α} : rot (-t) (rot t xs) = xs := by
  refine list_by (f := fun j => ft (-t) xs.length j) (g := fun k => ft t xs.length k) (zs := rot t xs) (by simp) (by simp) (fun k h => ?_) (fun j h => ?_) (fun j h => ?_)
  · rw [rot_len] at h ⊢
    exact ⟨ft_lt h, ft_back h⟩
  · have := rot_at (t := -t) (xs := rot t xs) h
    rwa [rot_len] at this
  · rw [rot_len] at h
    have := rot_at (t := t) (xs := xs) (ft_lt (t := -t) h)
    rw [ft_on h] at this
    exact this.symm
theorem mir_back {xs : List α} : mir (mir xs) = xs := by
  refine list_by (f := fun j => fm xs.length j) (g := fun k => fm xs.length k) (zs := mir xs) (by simp) (by simp) (fun k h => ?_) (fun j h => ?_) (fun j h => ?_)
  · rw [mir_len] at h ⊢
    exact ⟨fm_lt h, fm_back h⟩
  · have := mir_at (xs := mir xs) h
    rwa [mir_len] at this
  · rw [mir_len] at h
    have := mir_at (xs := xs) (fm_lt h)
    rw [fm_back h] at this
    exact this.symm
end
theorem atI_pick {l : List Int} {x : Int} (h0 : 0 ≤ x) (h1 : x < l.length) : ∃ c ∈ l, L2.atI (l.map PyData.int) x = some (.int c) := by
  rw [atI_nn h0]
  have h : x.toNat < l.length := by omega
  exact ⟨l[x.toNat], List.getElem_mem h, by simp [List.getElem?_eq_getElem h]⟩
theorem atI_at {l : List Int} {x : Int} (h0 : 0 ≤ x) (h1 : x < l.length) : ∃ (h : x.toNat < l.length), L2.atI (l.map PyData.int) x = some (.int l[x.toNat]) := by
  have h : x.toNat < l.length := by omega
  refine ⟨h, ?_⟩
  rw [atI_nn h0]
  simp [List.getElem?_eq_getElem h]
@[simp] theorem and_imp_it {p q : Prop} : (p ∧ (p → q)) ↔ (p ∧ q) := ⟨fun h => ⟨h.1, h.2 h.1⟩, fun h => ⟨h.1, fun _ => h.2⟩⟩
theorem rangeD_nil {lo : Int} : rangeD lo 0 = [] := rfl
theorem rangeD_cons {lo : Int} {n : Nat} : rangeD lo (n + 1) = .int lo :: rangeD (lo + 1) n := by
  unfold rangeD
  (rw [List.range_succ_eq_map, List.map_cons, List.map_map])
  congr 1
  · simp
  · refine List.map_congr_left fun i _ => ?_
    simp
    omega
@[simp] theorem rangeD_len {lo : Int} {n : Nat} : (rangeD lo n).length = n := by simp [rangeD]
theorem big62_of {i : Int} (h : -(2 ^ 61) ≤ i) (h' : i ≤ 2 ^ 61) : big62 i = true := by
  unfold big62
  rw [decide_eq_true (show -(2 ^ 62) ≤ i by omega), decide_eq_true (show i < 2 ^ 62 by omega)]
  rfl
theorem rep_map {ns : List Int} {k : Nat} : (List.replicate k (ns.map PyData.int)).flatten = ((List.replicate k ns).flatten).map PyData.int := by
  (rw [List.map_flatten, List.map_replicate])
theorem rep_one {a : Int} {k : Nat} : (List.replicate k [PyData.int a]).flatten = (List.replicate k a).map PyData.int := by
  rw [List.map_replicate]
  induction k with
  | zero => rfl
  | succ k ih => simp [List.replicate_succ, ih]
end Sd
namespace Sd
open PySem PySem.Spec
section
section
variable {c : Cl} {ρ : Rho} {Q : Rv → Rho → Prop} {Qf : Fl → Rho → Prop} {Ql : List PD → Rho → Prop} {m ma mb : Rho → Rz Rv} {n : Rho → Rz (List PD)} {i : Nat}
@[local simp] theorem o_star : Wp (mStar m n (c :: ρ)) Ql ↔ Wp (m (c :: ρ)) fun r ρ1 => WpO (lO r.d) fun ys => Wp (n ρ1) fun xs ρ2 => Ql (ys ++ xs) ρ2 := by
  unfold mStar
  rw [wp_bind]
  refine Wp.congr fun r ρ1 => ?_
  cases r.d <;> simp [wp_bind, lO]
def oO : Rv → Option (List PD)
  | .ow ts => some ts
  | _ => none
def fO : Rv → Option PD
  | .fr d => some d
  | _ => none
@[simp] theorem oO_ow {ts} : oO (.ow ts) = some ts := rfl
@[simp] theorem fO_fr {d} : fO (.fr d) = some d := rfl
def KF (Q : Rv → Rho → Prop) (ρ : Rho) : Rv → Rho → Prop := fun r ρ' => WpO (fO r) fun d => WpO (hO ρ') fun _ => Q (.fr d) ρ
@[simp] theorem KF_app {r : Rv} {ρ' : Rho} : KF Q ρ r ρ' ↔ WpO (fO r) fun d => WpO (hO ρ') fun _ => Q (.fr d) ρ := Iff.rfl
@[local simp] theorem o_callF {me : Rho → Rz Rv} : Wp (mCallF m me n (c :: ρ)) Q ↔ Wp (me (c :: ρ)) fun r ρ1 => WpO (oO r) fun ts => Wp (n ρ1) fun ds ρ2 => Wp (m (.ow ts :: ds.map .fr)) (KF Q ρ2) := by
  have e : ∀ ts ds ρ1, Wp (callRF m ts ds ρ1) Q ↔ Wp (m (.ow ts :: ds.map .fr)) (KF Q ρ1) := fun ts ds ρ1 => by
    unfold callRF
    cases h2 : m (.ow ts :: ds.map .fr) with
    | ok r ρ' =>
      cases r with
      | ow es => simp [fO]
      | fr d =>
        cases ρ' with
        | nil => simp [hO]
        | cons y tl => cases y <;> simp [hO]
    | _ => simp
  unfold mCallF
  rw [wp_bind]
  refine Wp.congr fun r ρ1 => ?_
  cases r with
  | fr d => simp [oO]
  | ow ts => simp only [wp_bind, e, oO_ow, wpo_some]
@[local simp] theorem o_listRg : Wp (mListRg m (c :: ρ)) Q ↔ Wp (m (c :: ρ)) fun x ρ1 => WpO (gListRg [x.d]) fun r => Q r ρ1 := by
  unfold mListRg
  rw [wp_bind]
  refine Wp.congr fun x ρ1 => ?_
  cases gListRg [x.d] <;> simp
@[simp] theorem gListRg_int {k : Int} : gListRg [.int k] = if big62 k = true then (if k.toNat ≤ 1000000 then some (.ow (rangeD 0 k.toNat)) else none) else none := rfl
@[local simp] theorem o_popAt : Wp (mPopAt i m (c :: ρ)) Q ↔ (Rho.owL (c :: ρ) i).isSome = true ∧ Wp (m (c :: ρ)) fun r ρ1 => WpO (ρ1.owL i) fun ds => WpO (iO r.d) fun k => WpO (L2.ixN ds.length k) fun j => WpO ds[j]? fun d => ds.length ≤ 1000000 ∧ Q (.fr d) (ρ1.set i (.ow (ds.eraseIdx j))) := by
  unfold mPopAt
  cases h : Rho.owL (c :: ρ) i with
  | none => simp
  | some z =>
    simp only [Option.isSome_some, true_and]
    rw [wp_bind]
    refine Wp.congr fun r ρ1 => ?_
    cases h1 : ρ1.owL i with
    | none => simp
    | some ds =>
      cases h2 : r.d with
      | int k =>
        simp only [wpo_some, iO_int]
        cases h3 : L2.ixN ds.length k with
        | none => simp
        | some j =>
          simp only [wpo_some]
          cases h4 : ds[j]? <;> simp
      | _ => simp [iO]
theorem gIn_list {x : PD} {ds : List PD} (h : SeqAt.shaped x = true) (h' : SeqAt.shaped (.list ds) = true) : gIn x (.list ds) = some (.bool (ds.any fun z => PyData.eqv z x)) := by
  unfold gIn
  simp [h, h']
theorem gNotIn_list {x : PD} {ds : List PD} (h : SeqAt.shaped x = true) (h' : SeqAt.shaped (.list ds) = true) : gNotIn x (.list ds) = some (.bool (!ds.any fun z => PyData.eqv z x)) := by
  unfold gNotIn
  simp [h, h']
theorem ints_map (ns : List Int) : ints? (ns.map PyData.int) = some ns := by
  induction ns with
  | nil => rfl
  | cons n ns ih => simp only [List.map_cons, ints?, ih]; rfl
theorem gSum_ints {ns : List Int} : gSumL (.list (ns.map PyData.int)) = some (.int ns.sum) := by
  unfold gSumL
  simp [ints_map]
end
end
section
def kSt (n : Rho → Rz (List PD)) (Ql : List PD → Rho → Prop) (ρ1 : Rho) : List PD → Prop := fun ys => Wp (n ρ1) (lz fun xs ρ2 => Ql (ys ++ xs) ρ2)
@[simp ↓] theorem kSt_a {n Ql ρ1 ys} : kSt n Ql ρ1 ys ↔ Wp (n ρ1) (lz fun xs ρ2 => Ql (ys ++ xs) ρ2) := Iff.rfl
def kCF (m : Rho → Rz Rv) (n : Rho → Rz (List PD)) (Q : Rv → Rho → Prop) (ρ1 : Rho) : List PD → Prop := fun ts => Wp (n ρ1) (lz fun ds ρ2 => Wp (m (.ow ts :: ds.map .fr)) (KF Q ρ2))
@[simp ↓] theorem kCF_a {m n Q ρ1 ts} : kCF m n Q ρ1 ts ↔ Wp (n ρ1) (lz fun ds ρ2 => Wp (m (.ow ts :: ds.map .fr)) (KF Q ρ2)) := Iff.rfl
def kPop3 (i : Nat) (ds : List PD) (j : Nat) (Q : Rv → Rho → Prop) (ρ1 : Rho) : PD → Prop := fun d => ds.length ≤ 1000000 ∧ Q (.fr d) (ρ1.set i (.ow (ds.eraseIdx j)))
@[simp ↓] theorem kPop3_a {i ds j Q ρ1 d} : kPop3 i ds j Q ρ1 d ↔ ds.length ≤ 1000000 ∧ Q (.fr d) (ρ1.set i (.ow (ds.eraseIdx j))) := Iff.rfl
def kPop2 (i : Nat) (ds : List PD) (Q : Rv → Rho → Prop) (ρ1 : Rho) : Nat → Prop := fun j => WpO ds[j]? (kPop3 i ds j Q ρ1)
@[simp ↓] theorem kPop2_a {i ds Q ρ1 j} : kPop2 i ds Q ρ1 j ↔ WpO ds[j]? (kPop3 i ds j Q ρ1) := Iff.rfl
def kPop (i : Nat) (r : Rv) (Q : Rv → Rho → Prop) (ρ1 : Rho) : List PD → Prop := fun ds => WpO (iO r.d) (kO (fun k => L2.ixN ds.length k) (kPop2 i ds Q ρ1))
@[simp ↓] theorem kPop_a {i r Q ρ1 ds} : kPop i r Q ρ1 ds ↔ WpO (iO r.d) (kO (fun k => L2.ixN ds.length k) (kPop2 i ds Q ρ1)) := Iff.rfl
variable {c : Cl} {ρ : Rho} {Q : Rv → Rho → Prop} {Qf : Fl → Rho → Prop} {Ql : List PD → Rho → Prop} {m ma mb : Rho → Rz Rv} {n : Rho → Rz (List PD)} {i : Nat}
@[simp] theorem w_star : Wp (mStar m n (c :: ρ)) Ql ↔ Wp (m (c :: ρ)) (lz fun r ρ1 => WpO (lO r.d) (kSt n Ql ρ1)) := o_star
@[simp] theorem w_callF {me : Rho → Rz Rv} : Wp (mCallF m me n (c :: ρ)) Q ↔ Wp (me (c :: ρ)) (lz fun r ρ1 => WpO (oO r) (kCF m n Q ρ1)) := o_callF
@[simp] theorem w_listRg : Wp (mListRg m (c :: ρ)) Q ↔ Wp (m (c :: ρ)) (lz fun x ρ1 => WpO (gListRg [x.d]) (kA Q ρ1)) := o_listRg
@[simp] theorem w_popAt : Wp (mPopAt i m (c :: ρ)) Q ↔ (Rho.owL (c :: ρ) i).isSome = true ∧ Wp (m (c :: ρ)) (lz fun r ρ1 => WpO (ρ1.owL i) (kPop i r Q ρ1)) := o_popAt
end
end Sd
namespace Sd
open PySem PySem.Spec
/-! ### comprehensions that change nothing -/
section
variable {α : Type} {g : PD → Rho → Option Rho} {mt : Rho → Rz Bool} {me : Rho → Rz Rv} {vs : List Nat} {ρ : Rho} {Ql : List PD → Rho → Prop}
theorem lc_map {xs : List α} {e f : α → PD} (h : ∀ x ∈ xs, Wp (turnL g mt me vs (e x) ρ) fun o ρ' => o = some (f x) ∧ ρ' = ρ) (fin : Ql (xs.map f) ρ) : Wp (lcR (turnL g mt me vs) (xs.map e) [] ρ) Ql := by
  refine lc_inv (fun ds acc ρ' => ρ' = ρ ∧ ∃ ys zs, xs = ys ++ zs ∧ ds = zs.map e ∧ acc = ys.map f) ⟨rfl, [], xs, rfl, rfl, rfl⟩ (fun d ds acc ρ' hI => ?_) (fun acc ρ' hI => ?_)
  · obtain ⟨rfl, ys, zs, rfl, e1, rfl⟩ := hI
    cases zs with
    | nil => cases e1
    | cons z zs =>
      cases e1
      refine (h z (by simp)).mono fun o ρ'' q => ?_
      obtain ⟨rfl, rfl⟩ := q
      exact ⟨rfl, ys ++ [z], zs, by simp, rfl, by simp⟩
  · obtain ⟨rfl, ys, zs, rfl, e1, rfl⟩ := hI
    have : zs = [] := by cases zs with
      | nil => rfl
      | cons z zs => cases e1
    subst this
    simpa using fin
theorem lc_ints {xs : List α} {e : α → PD} {f : α → Int} (h : ∀ x ∈ xs, Wp (turnL g mt me vs (e x) ρ) fun o ρ' => o = some (.int (f x)) ∧ ρ' = ρ) (fin : Ql ((xs.map f).map PyData.int) ρ) : Wp (lcR (turnL g mt me vs) (xs.map e) [] ρ) Ql :=
  lc_map (f := fun x => PyData.int (f x)) h (by rw [List.map_map] at fin; exact fin)
theorem rangeD_eq {n : Nat} : rangeD 0 n = (List.range n).map fun (i : Nat) => PyData.int (i : Int) := by
  unfold rangeD
  (refine List.map_congr_left fun i _ => ?_)
  rw [Int.zero_add]
theorem zipD_ints : ∀ as bs : List Int, zipD (as.map PyData.int) (bs.map PyData.int) = (as.zip bs).map fun p => PyData.tuple [.int p.1, .int p.2]
  | [], _ => by simp [zipD]
  | _ :: _, [] => by simp [zipD]
  | a :: as, b :: bs => by simp [zipD, zipD_ints as bs]
end
/-! ### sums -/
@[simp] theorem gSum_comp {α : Type} {xs : List α} {f : α → Int} : gSumL (.list (xs.map (PyData.int ∘ f))) = some (.int (xs.map f).sum) := by
  rw [← List.map_map, gSum_ints]
@[simp] theorem gSum_it {ns : List Int} : gSumL (.list (ns.map PyData.int)) = some (.int ns.sum) := gSum_ints
def dot (as bs : List Int) : Int := (List.zipWith (fun x y => x * y) as bs).sum
theorem dot_zip (as bs : List Int) : ((as.zip bs).map fun p => p.1 * p.2).sum = dot as bs := by
  unfold dot
  rw [List.zip_eq_zipWith, List.map_zipWith]
/-- g 0 + .. + g (m - 1) -/
def upto (g : Nat → Int) : Nat → Int
  | 0 => 0
  | m + 1 => upto g m + g m
theorem upto_range (g : Nat → Int) (m : Nat) : ((List.range m).map g).sum = upto g m := by
  induction m with
  | zero => rfl
  | succ m ih => rw [List.range_succ, List.map_append, List.sum_append, ih]; simp [upto]
theorem upto_add (g : Nat → Int) (a b : Nat) : upto g (a + b) = upto g a + upto (fun i => g (a + i)) b := by
  induction b with
  | zero => simp [upto]
  | succ b ih => rw [← Nat.add_assoc, upto, ih, upto, Int.add_assoc]
theorem upto_congr {g h : Nat → Int} {m : Nat} (e : ∀ i, i < m → g i = h i) : upto g m = upto h m := by
  induction m with
  | zero => rfl
  | succ m ih => rw [upto, upto, ih fun i hi => e i (by omega), e m (by omega)]
theorem upto_period {g : Nat → Int} {n : Nat} (per : ∀ i, g (n + i) = g i) (q r : Nat) : upto g (n * q + r) = q * upto g n + upto g r := by
  induction q with
  | zero => simp
  | succ q ih =>
    rw [Nat.mul_succ, Nat.add_comm (n * q) n, Nat.add_assoc, upto_add, show (fun i => g (n + i)) = g from funext per, ih]
    have : ((q + 1 : Nat) : Int) * upto g n = (q : Int) * upto g n + upto g n := by rw [Int.natCast_add, Int.add_mul]; simp
    rw [this]
    omega
theorem upto_le {g : Nat → Int} {m : Nat} {B : Int} (h0 : ∀ i, i < m → 0 ≤ g i ∧ g i ≤ B) : 0 ≤ upto g m ∧ upto g m ≤ m * B := by
  induction m with
  | zero => simp [upto]
  | succ m ih =>
    have a := ih fun i hi => h0 i (by omega)
    have b := h0 m (by omega)
    have : ((m + 1 : Nat) : Int) * B = (m : Int) * B + B := by rw [Int.natCast_add, Int.add_mul]; simp
    rw [upto, this]
    omega
theorem sum_le {xs : List Int} {B : Int} (h : ∀ x ∈ xs, 0 ≤ x ∧ x ≤ B) : 0 ≤ xs.sum ∧ xs.sum ≤ xs.length * B := by
  induction xs with
  | nil => simp
  | cons x xs ih =>
    have a := ih fun y hy => h y (List.mem_cons_of_mem _ hy)
    have b := h x (List.mem_cons_self ..)
    have : ((xs.length + 1 : Nat) : Int) * B = (xs.length : Int) * B + B := by rw [Int.natCast_add, Int.add_mul]; simp
    rw [List.sum_cons, List.length_cons, this]
    omega
theorem dot_le : ∀ {as bs : List Int} {A B : Int}, (∀ x ∈ as, 0 ≤ x ∧ x ≤ A) → (∀ x ∈ bs, 0 ≤ x ∧ x ≤ B) → 0 ≤ A * B → 0 ≤ dot as bs ∧ dot as bs ≤ as.length * (A * B)
  | [], _, A, B, _, _, _ => by simp [dot]
  | a :: as, [], A, B, ha, hb, h0 => by
    simp only [dot, List.zipWith_nil_right, List.sum_nil]
    exact ⟨by omega, Int.mul_nonneg (by omega) h0⟩
  | a :: as, b :: bs, A, B, ha, hb, h0 => by
    have ih := dot_le (as := as) (bs := bs) (fun x hx => ha x (List.mem_cons_of_mem _ hx)) (fun x hx => hb x (List.mem_cons_of_mem _ hx)) h0
    have a1 := ha a (List.mem_cons_self ..)
    have b1 := hb b (List.mem_cons_self ..)
    have p0 : 0 ≤ a * b := Int.mul_nonneg a1.1 b1.1
    have p1 : a * b ≤ A * B := Int.mul_le_mul a1.2 b1.2 b1.1 (by omega)
    have : ((as.length + 1 : Nat) : Int) * (A * B) = (as.length : Int) * (A * B) + A * B := by rw [Int.natCast_add, Int.add_mul]; simp
    simp only [dot, List.zipWith_cons_cons, List.sum_cons, List.length_cons] at ih ⊢
    rw [this]
    omega
/-- [n - t : 2 n - t] of a row twice -/
theorem twice_cut {α : Type} (xs : List α) {t : Nat} (h : t < xs.length) : cutL (xs ++ xs) (some ((xs.length : Int) - t)) (some (2 * (xs.length : Int) - t)) = rot t xs := by
  unfold cutL rot
  obtain ⟨a, ha⟩ : ∃ a : Nat, (xs.length : Int) - t = a := ⟨xs.length - t, by omega⟩
  obtain ⟨b, hb⟩ : ∃ b : Nat, 2 * (xs.length : Int) - t = b := ⟨2 * xs.length - t, by omega⟩
  rw [ha, hb, HT.sIx_nat, HT.sIx_nat, List.length_append, Nat.min_eq_left (by omega), Nat.min_eq_left (by omega)]
  have hba : b - a = xs.length := by omega
  rw [hba]
  by_cases z : t = 0
  · subst z
    have : a = xs.length := by omega
    subst this
    simp
  · have e : ((-(t : Int)) % (xs.length : Int)).toNat = a := by
      rw [← Int.add_emod_right, Int.emod_eq_of_lt (by omega) (by omega)]; omega
    rw [e, List.drop_append_of_le_length (by omega), List.take_append, List.length_drop, List.take_of_length_le (by rw [List.length_drop]; omega)]
    congr 2
    omega
/-! ### for loops by the place -/
section
variable {α : Type} {g : PD → Rho → Option Rho} {s : Rho → Rz Fl} {ρ : Rho} {Qf : Fl → Rho → Prop}
theorem for_map {xs : List α} {e : α → PD} (I : Nat → Rho → Prop) (h0 : I 0 ρ) (step : ∀ k (h : k < xs.length) ρ, I k ρ → Wp (turnF g s (e xs[k]) ρ) fun fl ρ' => match fl with
      | .nx => I (k + 1) ρ'
      | .ct => I (k + 1) ρ'
      | .bk => Qf .nx ρ'
      | .rt r => Qf (.rt r) ρ') (fin : ∀ ρ, I xs.length ρ → Qf .nx ρ) : Wp (forR (turnF g s) (xs.map e) ρ) Qf := by
  refine for_inv (fun ds ρ => ∃ k, k ≤ xs.length ∧ ds = (xs.drop k).map e ∧ I k ρ) ⟨0, by omega, by simp, h0⟩ (fun d ds ρ hI => ?_) (fun ρ hI => ?_)
  · obtain ⟨k, hk, e1, hI⟩ := hI
    by_cases c : k < xs.length
    · rw [List.drop_eq_getElem_cons c, List.map_cons] at e1
      cases e1
      refine (step k c ρ hI).mono fun fl ρ' q => ?_
      cases fl with
      | nx => exact ⟨k + 1, c, rfl, q⟩
      | ct => exact ⟨k + 1, c, rfl, q⟩
      | bk => exact q
      | rt r => exact q
    · rw [List.drop_of_length_le (by omega)] at e1
      cases e1
  · obtain ⟨k, hk, e1, hI⟩ := hI
    have : k = xs.length := by
      have := congrArg List.length e1
      simp at this
      omega
    subst this
    exact fin ρ hI
theorem for_range {n : Nat} (I : Nat → Rho → Prop) (h0 : I 0 ρ) (step : ∀ (k : Nat) ρ, k < n → I k ρ → Wp (turnF g s (.int (k : Int)) ρ) fun fl ρ' => match fl with
      | .nx => I (k + 1) ρ'
      | .ct => I (k + 1) ρ'
      | .bk => Qf .nx ρ'
      | .rt r => Qf (.rt r) ρ') (fin : ∀ ρ, I n ρ → Qf .nx ρ) : Wp (forR (turnF g s) (rangeD 0 n) ρ) Qf := by
  rw [rangeD_eq]
  refine for_map I h0 (fun k h ρ hI => ?_) (fun ρ hI => fin ρ (by rw [List.length_range] at hI; exact hI))
  rw [List.length_range] at h
  rw [List.getElem_range]
  exact step k ρ h hI
end
theorem lc_range {g : PD → Rho → Option Rho} {mt : Rho → Rz Bool} {me : Rho → Rz Rv} {vs : List Nat} {ρ : Rho} {Ql : List PD → Rho → Prop} {n : Nat} {f : Nat → Int} (h : ∀ k : Nat, k < n → Wp (turnL g mt me vs (.int (k : Int)) ρ) fun o ρ' => o = some (.int (f k)) ∧ ρ' = ρ)
    (fin : Ql (((List.range n).map f).map PyData.int) ρ) : Wp (lcR (turnL g mt me vs) (rangeD 0 n) [] ρ) Ql := by
  rw [rangeD_eq]
  exact lc_ints (f := f) (fun k hk => h k (List.mem_range.mp hk)) fin
end Sd
namespace Sd
open PySem PySem.Spec
/-! ### sums over all slots, in another order -/
theorem perm_sum {xs ys : List Int} (h : List.Perm xs ys) : xs.sum = ys.sum := by
  induction h with
  | nil => rfl
  | cons x _ ih => rw [List.sum_cons, List.sum_cons, ih]
  | swap x y l => rw [List.sum_cons, List.sum_cons, List.sum_cons, List.sum_cons]; omega
  | trans _ _ h1 h2 => exact h1.trans h2
theorem upto_perm {n : Nat} {f g : Nat → Nat} (h : Nat → Int) (hf : ∀ i, i < n → f i < n) (hg : ∀ i, i < n → g i < n ∧ f (g i) = i) (inj : ∀ i j, i < n → j < n → f i = f j → i = j) : upto (fun i => h (f i)) n = upto h n := by
  rw [← upto_range, ← upto_range]
  have e : (List.range n).map (fun i => h (f i)) = ((List.range n).map f).map h := by rw [List.map_map]; rfl
  rw [e]
  refine perm_sum (List.Perm.map h ?_)
  refine (List.perm_ext_iff_of_nodup ?_ List.nodup_range).mpr fun a => ?_
  · have : ∀ (l : List Nat), l.Nodup → (∀ x ∈ l, x < n) → (l.map f).Nodup := by
      intro l hl hlt
      induction l with
      | nil => exact List.Pairwise.nil
      | cons x l ih =>
        rw [List.map_cons]
        have hl' := List.nodup_cons.mp hl
        refine List.nodup_cons.mpr ⟨fun hx => ?_, ih hl'.2 fun y hy => hlt y (List.mem_cons_of_mem _ hy)⟩
        obtain ⟨y, hy, e⟩ := List.mem_map.mp hx
        have := inj y x (hlt y (List.mem_cons_of_mem _ hy)) (hlt x (List.mem_cons_self ..)) e
        subst this
        exact hl'.1 hy
    exact this _ List.nodup_range fun x hx => List.mem_range.mp hx
  · rw [List.mem_map, List.mem_range]
    constructor
    · rintro ⟨i, hi, rfl⟩
      exact hf i (List.mem_range.mp hi)
    · intro ha
      exact ⟨g a, List.mem_range.mpr (hg a ha).1, (hg a ha).2⟩
theorem upto_mul {g : Nat → Int} {c : Int} {n : Nat} : upto (fun i => c * g i) n = c * upto g n := by
  induction n with
  | zero => simp [upto]
  | succ n ih => rw [upto, upto, ih, Int.mul_add]
theorem upto_plus {g h : Nat → Int} {n : Nat} : upto (fun i => g i + h i) n = upto g n + upto h n := by
  induction n with
  | zero => rfl
  | succ n ih => rw [upto, upto, upto, ih]; omega
theorem upto_zero {n : Nat} : upto (fun _ => 0) n = 0 := by
  induction n with
  | zero => rfl
  | succ n ih => rw [upto, ih]; rfl
/-- the two sums change places -/
theorem upto_swap {h : Nat → Nat → Int} (m n : Nat) : upto (fun i => upto (h i) n) m = upto (fun j => upto (fun i => h i j) m) n := by
  induction m with
  | zero => show (0 : Int) = upto (fun j => 0) n; rw [upto_zero]
  | succ m ih => rw [upto, ih, ← upto_plus]; rfl
/-- one term alone -/
theorem upto_one {g : Nat → Int} {n k : Nat} (hk : k < n) (h : ∀ i, i < n → i ≠ k → g i = 0) : upto g n = g k := by
  induction n with
  | zero => omega
  | succ n ih =>
    rw [upto]
    by_cases c : k = n
    · subst c
      have : upto g k = upto (fun _ => 0) k := upto_congr fun i hi => h i (by omega) (by omega)
      rw [this, upto_zero]; omega
    · rw [ih (by omega) fun i hi hne => h i (by omega) hne, h n (by omega) fun q => c q.symm]; omega
/-- slot g, from slot s on -/
def back (n g s : Nat) : Nat := (((g : Int) - s) % n).toNat
theorem back_lt {n g s : Nat} (h : 0 < n) : back n g s < n := by
  have h1 := Int.emod_nonneg ((g : Int) - s) (show (n : Int) ≠ 0 by omega)
  have h2 := Int.emod_lt_of_pos ((g : Int) - s) (show 0 < (n : Int) by omega)
  unfold back; omega
theorem back_cast {n g s : Nat} (h : 0 < n) : (back n g s : Int) = ((g : Int) - s) % n := by
  unfold back
  rw [Int.toNat_of_nonneg (Int.emod_nonneg _ (by omega))]
theorem back_back {n g s : Nat} (h : s < n) : back n g (back n g s) = s := by
  have e := back_cast (n := n) (g := g) (s := s) (by omega)
  unfold back at e ⊢
  rw [e, Int.sub_emod, Int.emod_emod_of_dvd _ (Int.dvd_refl _), ← Int.sub_emod]
  rw [show (g : Int) - (g - s) = s by omega, Int.emod_eq_of_lt (by omega) (by omega)]
  rfl
theorem back_inj {n g s t : Nat} (hs : s < n) (ht : t < n) (h : back n g s = back n g t) : s = t := by
  rw [← back_back (g := g) hs, ← back_back (g := g) ht, h]
theorem upto_back {n g : Nat} (h : Nat → Int) (hn : 0 < n) : upto (fun s => h (back n g s)) n = upto h n :=
  upto_perm h (fun i _ => back_lt hn) (fun i hi => ⟨back_lt hn, back_back hi⟩) fun i j hi hj e => back_inj hi hj e
/-- slot g, s slots on: as a sum over g -/
theorem upto_shift {n s : Nat} (h : Nat → Int) (hn : 0 < n) : upto (fun g => h (back n g s)) n = upto h n := by
  have e : ∀ g, g < n → back n g s = ft (-(s : Int)) n g := fun g _ => by unfold back ft; rw [Int.sub_eq_add_neg]
  rw [upto_congr fun g hg => by rw [e g hg]]
  exact upto_perm h (fun i hi => ft_lt hi) (fun i hi => ⟨ft_lt (t := s) hi, by have := ft_back (t := (s : Int)) hi; exact this⟩) fun i j hi hj e => ft_inj hi hj e
end Sd
namespace Sd
open PySem PySem.Spec
/-! ### while loops: what is left goes down -/
theorem wh_inv {c : Rho → Rz Bool} {b : Rho → Rz Fl} {Qf : Fl → Rho → Prop} (I : Nat → Rho → Prop) (step : ∀ k ρ, I k ρ → Wp (c ρ) fun t ρ1 => (t = true → Wp (b ρ1) fun fl ρ2 => match fl with
      | .nx => ∃ j, j < k ∧ I j ρ2
      | .ct => ∃ j, j < k ∧ I j ρ2
      | .bk => Qf .nx ρ2
      | .rt r => Qf (.rt r) ρ2) ∧ (¬ t = true → Qf .nx ρ1)) : ∀ (fuel k : Nat) (ρ : Rho), k < fuel → I k ρ → Wp (whR c b fuel ρ) Qf
  | 0, _, _, h, _ => absurd h (Nat.not_lt_zero _)
  | fuel + 1, k, ρ, h, hI => by
    unfold whR
    rw [wp_bind]
    refine (step k ρ hI).mono fun t ρ1 q => ?_
    rw [wp_ite]
    refine ⟨fun ht => ?_, fun ht => wp_ok.mpr (q.2 ht)⟩
    rw [wp_bind]
    refine (q.1 ht).mono fun fl ρ2 z => ?_
    cases fl with
    | nx =>
      obtain ⟨j, hj, hJ⟩ := z
      exact wh_inv I step fuel j ρ2 (by omega) hJ
    | ct =>
      obtain ⟨j, hj, hJ⟩ := z
      exact wh_inv I step fuel j ρ2 (by omega) hJ
    | bk => exact wp_ok.mpr z
    | rt r => exact wp_ok.mpr z
end Sd
namespace Sd
open PySem L2 PySem.Spec PyProof.Rows
open PySem.W (alike AlikeAll minD maxD dataLt min_list_data max_list_data alike_unique readsAll_at)
/-! ### min, max of a list whose items are alike -/
def isNn : PD → Bool
  | .none => true
  | _ => false
def okMm (ds : List PD) : Bool := (ds.all fun a => ds.all fun b => alike a b) && (ds.all fun a => !isNn a) && decide (PyData.depthAll ds ≤ 40) && !PyData.hasDictAll ds
theorem okMm.inv {ds : List PD} (h : okMm ds = true) : AlikeAll ds ∧ PyData.depthAll ds ≤ 40 ∧ PyData.hasDictAll ds = false := by
  unfold okMm at h
  simp only [Bool.and_eq_true, List.all_eq_true, decide_eq_true_eq, Bool.not_eq_true'] at h
  refine ⟨⟨fun x hx y hy => h.1.1.1 x hx y hy, fun x hx e => ?_⟩, h.1.2, h.2⟩
  subst e
  exact absurd (h.1.1.2 _ hx) (by simp [isNn])
theorem foldl_pick {α : Type} (c : α → α → Bool) : ∀ (xs : List α) (x : α), xs.foldl (fun a y => if c a y = true then y else a) x ∈ x :: xs
  | [], x => by simp
  | y :: xs, x => by
    rw [List.foldl_cons]
    by_cases h : c x y = true
    · rw [if_pos h]
      exact List.mem_cons_of_mem _ (foldl_pick c xs y)
    · rw [if_neg h]
      rcases List.mem_cons.mp (foldl_pick c xs x) with q | q
      · rw [q]; exact List.mem_cons_self ..
      · exact List.mem_cons_of_mem _ (List.mem_cons_of_mem _ q)
theorem minD_mem (x : PD) (xs : List PD) : minD x xs ∈ x :: xs := foldl_pick (fun a y => dataLt y a) xs x
theorem maxD_mem (x : PD) (xs : List PD) : maxD x xs ∈ x :: xs := foldl_pick (fun a y => dataLt a y) xs x
def rMm (f : PD → List PD → PD) (K : PySem.W.Frag) : List V → Hp → VK → Prop := fun us H Q => ∃ (a : Addr) (vs : List V) (x : PD) (ds : List PD), us = [V.ref a] ∧ SqL K H a vs ∧ RpAll K H vs (x :: ds) ∧ okMm (x :: ds) = true ∧
  ∀ (i : Nat) (w : V), vs[i]? = some w → (x :: ds)[i]? = some (f x ds) → Q w H
section
variable {X : Cx} {S : Sx} {k : Nat}
theorem call_minD (o : Okx X S k) : CallR X (.builtin "min") (rMm minD X.K) := by
  intro pn s σ H us vs Q I r h
  obtain ⟨a, ws, x, ds, rfl, hs, hd, c, q⟩ := h
  obtain ⟨c1, c2, c3⟩ := okMm.inv c
  have hu := o.rm.units
  (obtain ⟨its, rv, hl, _⟩ := I.list hs)
  rw [Vals.ref1 r]
  obtain ⟨as, hr⟩ := rpa_reads I (x :: ds) _ its c3 hd rv
  refine min_list_data (I.ok.hd o.calm) hl.isList (by simpa using hr) c1 (by omega) fun i v h' tk bs hv hrd kp => ?_
  have hv' : its[i]? = some v := (by simpa using hv)
  obtain ⟨bs', r1, r2, r3, _⟩ := readsAll_at hr i v hv'
  have e := alike_unique _ _ v bs' bs (c1.1 _ r3 _ (minD_mem x ds)) (Reads.keeps kp r1) hrd
  have hw : i < ws.length := by rw [hd.len]; exact r2
  obtain ⟨u, e1, e2⟩ := rv.get (List.getElem?_eq_getElem hw)
  rw [hv'] at e1
  cases e1
  refine ⟨_, H, I.kept kp, e2, q i _ (List.getElem?_eq_getElem hw) ?_⟩
  rw [List.getElem?_eq_getElem r2, ← e]
  simp only [List.getD_eq_getElem?_getD, List.getElem?_eq_getElem r2, Option.getD_some]
theorem call_maxD (o : Okx X S k) : CallR X (.builtin "max") (rMm maxD X.K) := by
  intro pn s σ H us vs Q I r h
  obtain ⟨a, ws, x, ds, rfl, hs, hd, c, q⟩ := h
  obtain ⟨c1, c2, c3⟩ := okMm.inv c
  have hu := o.rm.units
  (obtain ⟨its, rv, hl, _⟩ := I.list hs)
  rw [Vals.ref1 r]
  obtain ⟨as, hr⟩ := rpa_reads I (x :: ds) _ its c3 hd rv
  refine max_list_data (I.ok.hd o.calm) hl.isList (by simpa using hr) c1 (by omega) fun i v h' tk bs hv hrd kp => ?_
  have hv' : its[i]? = some v := (by simpa using hv)
  obtain ⟨bs', r1, r2, r3, _⟩ := readsAll_at hr i v hv'
  have e := alike_unique _ _ v bs' bs (c1.1 _ r3 _ (maxD_mem x ds)) (Reads.keeps kp r1) hrd
  have hw : i < ws.length := by rw [hd.len]; exact r2
  obtain ⟨u, e1, e2⟩ := rv.get (List.getElem?_eq_getElem hw)
  rw [hv'] at e1
  cases e1
  refine ⟨_, H, I.kept kp, e2, q i _ (List.getElem?_eq_getElem hw) ?_⟩
  rw [List.getElem?_eq_getElem r2, ← e]
  simp only [List.getD_eq_getElem?_getD, List.getElem?_eq_getElem r2, Option.getD_some]
def gMm (f : PD → List PD → PD) : List PD → Option PD
  | [.list (x :: ds)] => if okMm (x :: ds) = true then some (f x ds) else none
  | _ => none
abbrev cMinL : List PD → Option Rv := fun ds => (gMm minD ds).map .fr
abbrev cMaxL : List PD → Option Rv := fun ds => (gMm maxD ds).map .fr
theorem sim_mm (hK : S.K = X.K) (f : PD → List PD → PD) (hf : ∀ x ds, f x ds ∈ x :: ds) : SimC X S (rMm f X.K) fun ds => (gMm f ds).map .fr := by
  intro F ρ σ H vs ds z Q R hv hz q
  have hz : (gMm f ds).map Rv.fr = some z := hz
  unfold gMm at hz
  split at hz
  · rename_i x ds' _
    by_cases c : okMm (x :: ds') = true
    · rw [if_pos c] at hz
      cases hz
      obtain ⟨v, rfl, hd⟩ := hv.one
      cases hd with
      | lst h1 h2 =>
        refine ⟨_, _, x, ds', rfl, .inl (.inl (R.ex _ _ h1)), hK ▸ rpa_mono R.ex _ _ h2, c, fun i w hw hx => ?_⟩
        obtain ⟨w', e1, e2⟩ := h2.at hx
        rw [hw] at e1
        cases e1
        exact q F H w Ext.refl R e2
    · rw [if_neg c] at hz; cases hz
  · cases hz
variable {e : Expr} {p pos : Pos}
theorem xe_minL (o : Okx X S k) {m : Rho → Rz (List PD)} (hm : S.mg "min" = none) (ha : XA X S [e] m) (hg : Gl X "min" := by rfl) (he : starEach [e] X.env = [(false, eval e X.env)] := by rfl) : XE X S (.Call (.Name "min" p) [e] [] pos) (mCB cMinL m) :=
  xe_cb o (call_minD o) (sim_mm o.hK minD minD_mem) hm ha hg (by decide +kernel) (by decide) (by decide) he (by rfl)
theorem xe_maxL (o : Okx X S k) {m : Rho → Rz (List PD)} (hm : S.mg "max" = none) (ha : XA X S [e] m) (hg : Gl X "max" := by rfl) (he : starEach [e] X.env = [(false, eval e X.env)] := by rfl) : XE X S (.Call (.Name "max" p) [e] [] pos) (mCB cMaxL m) :=
  xe_cb o (call_maxD o) (sim_mm o.hK maxD maxD_mem) hm ha hg (by decide +kernel) (by decide) (by decide) he (by rfl)
/-- l.index(x), l a name that is only looked at -/
def placeD (ds : List PD) (d : PD) : Option Nat := ds.findIdx? fun z => PyData.eqv z d
def gIndex (c x : PD) : Option PD := match c with
  | .list ds => if (SeqAt.shaped (.list ds) && SeqAt.shaped x) = true then (placeD ds x).map fun j => .int (j : Int) else none
  | _ => none
def lO0 : PD → Option (List PD)
  | .list ds => some ds
  | _ => none
def mIndexN (i : Nat) (m : Rho → Rz Rv) : Rho → Rz Rv := fun ρ => match (ρ.peek i).bind lO0 with
  | none => .stuck
  | some _ => (m ρ).bind fun x ρ1 => match ρ1.peek i with
    | some c => (match gIndex c x.d with
      | some d => .ok (.fr d) ρ1
      | none => .stuck)
    | none => .stuck
theorem Pk.rpH {F H : Hp} {v : V} {d : PD} (up : ∀ a o, F a = some o → H a = some o) (h : Pk S F H v d) : Rp S.K H v d := by
  rcases h with h | ⟨p, vs, ds, rfl, rfl, h1, h2⟩
  · exact rp_mono up _ _ h
  · exact .lst h1 (rpa_mono up _ _ h2)
theorem index_run (hK : S.K = X.K) {F H : Hp} {x y : V} {c d z : PD} {Q : VK} (up : ∀ a o, F a = some o → H a = some o) (hc : Pk S F H x c) (hy : Rp S.K F y d) (h : gIndex c d = some z) (q : ∀ w, Rp S.K F w z → Q w H) : rIndexD X.K x [y] H Q := by
  unfold gIndex at h
  split at h
  · rename_i ds
    by_cases cc : (SeqAt.shaped (.list ds) && SeqAt.shaped d) = true
    · rw [if_pos cc] at h
      have c' := Bool.and_eq_true_iff.mp cc
      cases e : placeD ds d with
      | none => (rw [e] at h; cases h)
      | some j =>
        rw [e] at h
        cases h
        unfold placeD at e
        rw [List.findIdx?_eq_some_iff_getElem] at e
        obtain ⟨hj, e1, e2⟩ := e
        have hr := hc.rpH up
        have l1 := SeqAt.canLay_of_shaped c'.1
        have l2 := SeqAt.canLay_of_shaped c'.2
        have hr' := rp_dp _ _ l1 (hK ▸ hr)
        cases hr with
        | lst h1 h2 =>
          refine ⟨_, y, d, ds, j, ds[j], rfl, rfl, hr', rp_dp _ _ l2 (hK ▸ rp_mono up _ _ hy), c'.1, c'.2, List.getElem?_eq_getElem hj, e1, fun m z' hm hz => ?_, q _ (.int _)⟩
          have hml : m < ds.length := by omega
          rw [List.getElem?_eq_getElem hml] at hz
          cases hz
          simpa using e2 m hm
    · rw [if_neg cc] at h; cases h
  · cases h
theorem tyV_list {K : PySem.W.Frag} {F H : Hp} {v : V} {ds : List PD} (up : ∀ a o, F a = some o → H a = some o) (h : Pk S F H v (.list ds)) (hK : S.K = K) : ∃ p vs, v = .ref p ∧ SqL K H p vs := by
  have hr := h.rpH up
  cases hr with
  | lst h1 h2 => exact ⟨_, _, rfl, .inl (.inl h1)⟩
theorem xe_index (o : Okx X S k) (i : Nat) {m : Rho → Rz Rv} {e : Expr} (hp : PE X e (tBM X.K "list" (rIndexD X.K) (tVar i) (tCons (tE S m) tNil))) (hT : S.T i = none := by first | rfl | assumption) : XE X S e (mIndexN i m) := PE.imp hp fun σ H Q q => by
  obtain ⟨F, ρ, R, P⟩ := q
  unfold mIndexN at P
  cases hp0 : (ρ.peek i).bind lO0 with
  | none => rw [hp0] at P; exact P.elim
  | some ds0 =>
    rw [hp0] at P
    have hp1 : ρ.peek i = some (.list ds0) := by
      cases hq : ρ.peek i with
      | none => rw [hq] at hp0; cases hp0
      | some c0 =>
        rw [hq] at hp0
        cases c0 with
        | list ds => cases hp0; rfl
        | _ => cases hp0
    obtain ⟨v, ev, pk0⟩ := R.peek hp1 hT
    obtain ⟨p0, us0, rfl, hs0⟩ := tyV_list R.ex pk0 o.hK
    refine ⟨.ref p0, ev, .inl ⟨rfl, us0, hs0⟩, ?_⟩
    refine tE.use (β := Rv) (g := fun x ρ1 => match ρ1.peek i with
      | some c => (match gIndex c x with
        | some d => .ok (.fr d) ρ1
        | none => .stuck)
      | none => .stuck) R P fun y d F1 ρ1 H1 e1 R1 D1 P1 => ?_
    cases hp : ρ1.peek i with
    | none => rw [hp] at P1; exact P1.elim
    | some c =>
      rw [hp] at P1
      simp only at P1
      cases hg : gIndex c d with
      | none => rw [hg] at P1; exact P1.elim
      | some z =>
        rw [hg] at P1
        obtain ⟨v', ev', pk⟩ := R1.peek hp hT
        have := slot_inj ev ev'
        subst this
        exact index_run o.hK R1.ex pk D1 hg fun w hw => PostE.ok P1 R1 w hw
end
end Sd
namespace Sd
open PySem PySem.Spec
/-! ### closed runs: by the kernel -/
mutual
def pdb : PD → PD → Bool
  | .none, .none => true
  | .bool a, .bool b => a == b
  | .int a, .int b => decide (a = b)
  | .str a, .str b => decide (a.cps.toList = b.cps.toList)
  | .list a, .list b => pdbs a b
  | .tuple a, .tuple b => pdbs a b
  | _, _ => false
def pdbs : List PD → List PD → Bool
  | [], [] => true
  | a :: as, b :: bs => pdb a b && pdbs as bs
  | _, _ => false
end
mutual
theorem pdb_eq : ∀ (a b : PD), pdb a b = true → a = b
  | .none, b, h => by cases b <;> first | rfl | (simp [pdb] at h)
  | .bool a, b, h => by cases b <;> first | (simp [pdb] at h; subst h; rfl) | (simp [pdb] at h)
  | .int a, b, h => by cases b <;> first | (simp [pdb] at h; subst h; rfl) | (simp [pdb] at h)
  | .str a, b, h => by
    cases b with
    | str b =>
      have h : decide (a.cps.toList = b.cps.toList) = true := by simpa [pdb] using h
      have h := of_decide_eq_true h
      obtain ⟨⟨a⟩⟩ := a
      obtain ⟨⟨b⟩⟩ := b
      have h : a = b := h
      rw [h]
    | _ => simp [pdb] at h
  | .list a, b, h => by
    cases b with
    | list b => rw [pdbs_eq a b (by simpa [pdb] using h)]
    | _ => simp [pdb] at h
  | .tuple a, b, h => by
    cases b with
    | tuple b => rw [pdbs_eq a b (by simpa [pdb] using h)]
    | _ => simp [pdb] at h
  | .dict a, b, h => by cases b <;> simp [pdb] at h
theorem pdbs_eq : ∀ (a b : List PD), pdbs a b = true → a = b
  | [], b, h => by cases b <;> first | rfl | (simp [pdbs] at h)
  | a :: as, b, h => by
    cases b with
    | nil => simp [pdbs] at h
    | cons b bs =>
      simp only [pdbs, Bool.and_eq_true] at h
      rw [pdb_eq a b h.1, pdbs_eq as bs h.2]
end
def okIs (r : Rz Rv) (v : Rv) : Bool := match r, v with
  | .ok (.fr a) _, .fr b => pdb a b
  | .ok (.ow a) _, .ow b => pdbs a b
  | _, _ => false
theorem wp_by {r : Rz Rv} {v : Rv} {Q : Rv → Rho → Prop} (h : okIs r v = true) (hq : ∀ ρ', Q v ρ') : Wp r Q := by
  unfold okIs at h
  split at h
  · rw [pdb_eq _ _ h]; exact wp_ok.mpr (hq _)
  · rw [pdbs_eq _ _ h]; exact wp_ok.mpr (hq _)
  · cases h
end Sd
namespace Sd
open PySem PySem.Spec
theorem lz_any {α : Type} {f : α → Rho → Prop} {a : α} {ρ : Rho} : lz f a ρ ↔ f a ρ := Iff.rfl
section
variable {c : Cl} {ρ : Rho} {Q : Rv → Rho → Prop} {m : Rho → Rz Rv} {ma mk : Rho → Rz (List PD)} {ix : List Nat} {i j nk : Nat}
theorem wp_callR {ds : List PD} {ρ1 : Rho} : Wp (callR m ds ρ1) Q ↔ Wp (m (ds.map .fr)) (KC Q ρ1) := by
  unfold callR
  cases m (ds.map .fr) <;> simp
@[simp] theorem w_callK : Wp (mCallK ix j nk m ma mk (c :: ρ)) Q ↔ Wp (ma (c :: ρ)) (lz fun ds ρ1 => Wp (mk ρ1) (lz fun es ρ2 => (ds.length = j ∧ es.length = nk) ∧ Wp (m ((perm ix (ds ++ es)).map .fr)) (KC Q ρ2))) := by
  unfold mCallK
  rw [wp_bind]
  refine Wp.congr fun ds ρ1 => ?_
  rw [wp_bind]
  refine Wp.congr fun es ρ2 => ?_
  simp only [lz_any]
  by_cases h : ds.length = j ∧ es.length = nk
  · rw [if_pos h, wp_callR]; simp [h]
  · rw [if_neg h]; simp only [wp_stuck, h, false_and]
@[simp] theorem w_callPKP : Wp (mCallPKP ix j nk m ma mk (c :: ρ)) Q ↔ Wp (ma (c :: ρ)) (lz fun ds ρ1 => Wp (mk ρ1) (lz fun es ρ2 => (ds.length = j ∧ es.length = nk) ∧ Wp (m ((perm ix (ds ++ es)).map .fr)) (KP Q ρ2))) := by
  unfold mCallPKP
  rw [wp_bind]
  refine Wp.congr fun ds ρ1 => ?_
  rw [wp_bind]
  refine Wp.congr fun es ρ2 => ?_
  simp only [lz_any]
  by_cases h : ds.length = j ∧ es.length = nk
  · rw [if_pos h, w_RP]; simp [h]
  · rw [if_neg h]; simp only [wp_stuck, h, false_and]
def kIdx (x : Rv) (Q : Rv → Rho → Prop) (ρ : Rho) : PD → Prop := fun z => WpO (gIndex z x.d) (kD Q ρ)
@[simp ↓] theorem kIdx_a {x Q ρ z} : kIdx x Q ρ z ↔ WpO (gIndex z x.d) (kD Q ρ) := Iff.rfl
@[simp] theorem w_indexN : Wp (mIndexN i m (c :: ρ)) Q ↔ ((Rho.peek (c :: ρ) i).bind lO0).isSome = true ∧ Wp (m (c :: ρ)) (lz fun x ρ1 => WpO (ρ1.peek i) (kIdx x Q ρ1)) := by
  unfold mIndexN
  cases h : (Rho.peek (c :: ρ) i).bind lO0 with
  | none => simp
  | some z =>
    simp only [Option.isSome_some, true_and]
    rw [wp_bind]
    refine Wp.congr fun x ρ1 => ?_
    simp only [lz_any]
    cases ρ1.peek i with
    | none => simp
    | some z =>
      simp only [wpo_some]
      show _ ↔ WpO (gIndex z x.d) (kD Q ρ1)
      cases gIndex z x.d <;> simp
@[simp] theorem lO0_list {ds} : lO0 (.list ds) = some ds := rfl
@[simp] theorem gMm_cons {f : PD → List PD → PD} {x : PD} {ds : List PD} : gMm f [.list (x :: ds)] = if okMm (x :: ds) = true then some (f x ds) else none := rfl
end
/-! ### least and greatest of a list -/
def leastD : List PD → PD
  | x :: ds => PySem.W.minD x ds
  | [] => .none
def mostD : List PD → PD
  | x :: ds => PySem.W.maxD x ds
  | [] => .none
theorem g_min {ds : List PD} (h : ds ≠ []) (ok : okMm ds = true) : gMm PySem.W.minD [.list ds] = some (leastD ds) := by
  cases ds with
  | nil => exact absurd rfl h
  | cons x ds => rw [gMm_cons, if_pos ok]; rfl
theorem g_max {ds : List PD} (h : ds ≠ []) (ok : okMm ds = true) : gMm PySem.W.maxD [.list ds] = some (mostD ds) := by
  cases ds with
  | nil => exact absurd rfl h
  | cons x ds => rw [gMm_cons, if_pos ok]; rfl
theorem leastD_mem {ds : List PD} (h : ds ≠ []) : leastD ds ∈ ds := by
  cases ds with
  | nil => exact absurd rfl h
  | cons x ds => exact minD_mem x ds
theorem mostD_mem {ds : List PD} (h : ds ≠ []) : mostD ds ∈ ds := by
  cases ds with
  | nil => exact absurd rfl h
  | cons x ds => exact maxD_mem x ds
theorem alike_ints : ∀ (as bs : List Int), PySem.W.alikeAll (as.map PyData.int) (bs.map PyData.int) = true
  | [], bs => by cases bs <;> simp [PySem.W.alikeAll]
  | a :: as, [] => by simp [PySem.W.alikeAll]
  | a :: as, b :: bs => by simp [PySem.W.alikeAll, PySem.W.alike, alike_ints as bs]
theorem okMm_ints (ns : List Int) : okMm (ns.map PyData.int) = true := by
  have d : PyData.depthAll (ns.map PyData.int) = 0 := PySem.W.ke_depthAll ns
  have e : PyData.hasDictAll (ns.map PyData.int) = false := by
    induction ns with
    | nil => rfl
    | cons n ns ih => simp [PyData.hasDictAll, PyData.hasDict, ih (PySem.W.ke_depthAll ns)]
  unfold okMm
  rw [d, e]
  simp [PySem.W.alike, isNn]
theorem hasDict_ints (ns : List Int) : PyData.hasDictAll (ns.map PyData.int) = false := by
  induction ns with
  | nil => rfl
  | cons n ns ih => simp [PyData.hasDictAll, PyData.hasDict, ih]
theorem okMm_ils (xss : List (List Int)) : okMm (xss.map fun xs => .list (xs.map PyData.int)) = true := by
  have d : ∀ xss : List (List Int), PyData.depthAll (xss.map fun xs => .list (xs.map PyData.int)) ≤ 1 := fun xss => by
    induction xss with
    | nil => decide
    | cons x xss ih =>
      simp only [List.map_cons, PyData.depthAll, PyData.depth, PySem.W.ke_depthAll]
      omega
  have e : PyData.hasDictAll (xss.map fun xs => .list (xs.map PyData.int)) = false := by
    induction xss with
    | nil => rfl
    | cons n ns ih => simp [PyData.hasDictAll, PyData.hasDict, hasDict_ints, ih]
  have d := d xss
  unfold okMm
  rw [e, decide_eq_true (show PyData.depthAll _ ≤ 40 by omega)]
  simp [PySem.W.alike, isNn, alike_ints]
/-- of numbers -/
def maxI : List Int → Int
  | x :: xs => xs.foldl max x
  | [] => 0
def minI : List Int → Int
  | x :: xs => xs.foldl min x
  | [] => 0
theorem g_maxI {ns : List Int} (h : ns ≠ []) : gMm PySem.W.maxD [.list (ns.map PyData.int)] = some (.int (maxI ns)) := by
  rw [g_max (by simpa using h) (okMm_ints ns)]
  cases ns with
  | nil => exact absurd rfl h
  | cons x xs => exact congrArg some (PySem.W.maxD_ints x xs)
theorem g_minI {ns : List Int} (h : ns ≠ []) : gMm PySem.W.minD [.list (ns.map PyData.int)] = some (.int (minI ns)) := by
  rw [g_min (by simpa using h) (okMm_ints ns)]
  cases ns with
  | nil => exact absurd rfl h
  | cons x xs => exact congrArg some (PySem.W.minD_ints x xs)
theorem foldl_max : ∀ (xs : List Int) (x : Int), (xs.foldl max x = x ∨ xs.foldl max x ∈ xs) ∧ x ≤ xs.foldl max x ∧ ∀ y ∈ xs, y ≤ xs.foldl max x
  | [], x => ⟨.inl rfl, Int.le_refl _, fun _ h => nomatch h⟩
  | y :: xs, x => by
    rw [List.foldl_cons]
    obtain ⟨h1, h2, h3⟩ := foldl_max xs (max x y)
    refine ⟨?_, by omega, fun z hz => ?_⟩
    · rcases h1 with h | h
      · by_cases c : y ≤ x
        · left; omega
        · right; rw [h, Int.max_eq_right (by omega)]; exact List.mem_cons_self ..
      · right; exact List.mem_cons_of_mem _ h
    · rcases List.mem_cons.mp hz with q | q
      · subst q; omega
      · exact h3 z q
theorem foldl_min : ∀ (xs : List Int) (x : Int), (xs.foldl min x = x ∨ xs.foldl min x ∈ xs) ∧ xs.foldl min x ≤ x ∧ ∀ y ∈ xs, xs.foldl min x ≤ y
  | [], x => ⟨.inl rfl, Int.le_refl _, fun _ h => nomatch h⟩
  | y :: xs, x => by
    rw [List.foldl_cons]
    obtain ⟨h1, h2, h3⟩ := foldl_min xs (min x y)
    refine ⟨?_, by omega, fun z hz => ?_⟩
    · rcases h1 with h | h
      · by_cases c : x ≤ y
        · left; omega
        · right; rw [h, Int.min_eq_right (by omega)]; exact List.mem_cons_self ..
      · right; exact List.mem_cons_of_mem _ h
    · rcases List.mem_cons.mp hz with q | q
      · subst q; omega
      · exact h3 z q
theorem maxI_mem {ns : List Int} (h : ns ≠ []) : maxI ns ∈ ns := by
  cases ns with
  | nil => exact absurd rfl h
  | cons x xs =>
    rcases (foldl_max xs x).1 with q | q
    · show xs.foldl max x ∈ _; rw [q]; exact List.mem_cons_self ..
    · exact List.mem_cons_of_mem _ q
theorem minI_mem {ns : List Int} (h : ns ≠ []) : minI ns ∈ ns := by
  cases ns with
  | nil => exact absurd rfl h
  | cons x xs =>
    rcases (foldl_min xs x).1 with q | q
    · show xs.foldl min x ∈ _; rw [q]; exact List.mem_cons_self ..
    · exact List.mem_cons_of_mem _ q
theorem maxI_le {ns : List Int} {y : Int} (h : y ∈ ns) : y ≤ maxI ns := by
  cases ns with
  | nil => exact nomatch h
  | cons x xs =>
    (rcases List.mem_cons.mp h with q | q)
    · subst q; exact (foldl_max xs y).2.1
    · exact (foldl_max xs x).2.2 y q
theorem minI_le {ns : List Int} {y : Int} (h : y ∈ ns) : minI ns ≤ y := by
  cases ns with
  | nil => exact nomatch h
  | cons x xs =>
    (rcases List.mem_cons.mp h with q | q)
    · subst q; exact (foldl_min xs y).2.1
    · exact (foldl_min xs x).2.2 y q
end Sd
namespace Sd
open PySem L2 PySem.Spec PyProof.Rows
theorem swp_c {x y : Str} {px py pt p2 : Pos} {kt k2 : Nat} {c d : Const} {a b : Nat} {pa pb : Pos} {env : Env} : swappedStores [.Tuple [.Name x px, .Name y py] kt pt] (.Tuple [.Constant c a pa, .Constant d b pb] k2 p2) env = pure none := by
  unfold swappedStores
  simp only []
  have hf : List.all [Expr.Constant c a pa, Expr.Constant d b pb] (foldedForSure 8) = true := rfl
  simp only [hf, if_true]
  repeat' split
  all_goals rfl
end Sd
namespace Sd
open PySem L2 PySem.Spec PyProof.Rows
/-! ### sorted of a list of ints -/
def putI (x : Int) : List Int → List Int
  | [] => [x]
  | y :: ys => if x ≤ y then x :: y :: ys else y :: putI x ys
def srtI : List Int → List Int
  | [] => []
  | x :: xs => putI x (srtI xs)
theorem putI_perm (x : Int) : ∀ ys : List Int, (putI x ys).Perm (x :: ys)
  | [] => .refl _
  | y :: ys => by
    unfold putI
    by_cases h : x ≤ y
    · rw [if_pos h]
    · rw [if_neg h]
      exact (List.Perm.cons y (putI_perm x ys)).trans (List.Perm.swap x y ys)
theorem srtI_perm : ∀ xs : List Int, (srtI xs).Perm xs
  | [] => .refl _
  | x :: xs => (putI_perm x (srtI xs)).trans (List.Perm.cons x (srtI_perm xs))
theorem putI_asc (x : Int) : ∀ ys : List Int, ys.Pairwise (· ≤ ·) → (putI x ys).Pairwise (· ≤ ·)
  | [], _ => by simp [putI]
  | y :: ys, h => by
    unfold putI
    have h1 := List.pairwise_cons.mp h
    by_cases c : x ≤ y
    · rw [if_pos c]
      refine List.pairwise_cons.mpr ⟨fun z hz => ?_, h⟩
      rcases List.mem_cons.mp hz with e | m
      · rw [e]; exact c
      · exact Int.le_trans c (h1.1 z m)
    · rw [if_neg c]
      refine List.pairwise_cons.mpr ⟨fun z hz => ?_, putI_asc x ys h1.2⟩
      rcases List.mem_cons.mp ((putI_perm x ys).mem_iff.mp hz) with e | m
      · rw [e]; omega
      · exact h1.1 z m
theorem srtI_asc : ∀ xs : List Int, (srtI xs).Pairwise (· ≤ ·)
  | [] => .nil
  | x :: xs => putI_asc x _ (srtI_asc xs)
theorem asc_uniq : ∀ {xs ys : List Int}, xs.Perm ys → xs.Pairwise (· ≤ ·) → ys.Pairwise (· ≤ ·) → xs = ys
  | [], ys, p, _, _ => (List.nil_perm.mp p).symm
  | x :: xs, [], p, _, _ => absurd p.symm (by simp)
  | x :: xs, y :: ys, p, hx, hy => by
    have h1 := List.pairwise_cons.mp hx
    have h2 := List.pairwise_cons.mp hy
    have e : x = y := by
      have a : x ≤ y := by
        rcases List.mem_cons.mp (p.mem_iff.mpr (List.mem_cons_self (a := y))) with e | m
        · rw [e]; exact Int.le_refl _
        · exact h1.1 _ m
      have b : y ≤ x := by
        rcases List.mem_cons.mp (p.mem_iff.mp (List.mem_cons_self (a := x))) with e | m
        · rw [e]; exact Int.le_refl _
        · exact h2.1 _ m
      omega
    subst e
    rw [asc_uniq p.cons_inv h1.2 h2.2]
def gSorted : List PD → Option Rv
  | [.list ds] => (ints? ds).map fun ns => .ow ((srtI ns).map .int)
  | _ => none
section
variable {X : Cx} {S : Sx} {k : Nat}
theorem rpa_ints {K : PySem.W.Frag} {F : Hp} : ∀ ns : List Int, RpAll K F (ns.map V.int) (ns.map PyData.int)
  | [] => .nil
  | _ :: ns => .cons (.int _) (rpa_ints ns)
theorem sim_sorted (hK : S.K = X.K) : SimC X S (rSortedI X.K) gSorted := by
  intro F ρ σ H vs ds z Q R hv hz q
  unfold gSorted at hz
  split at hz
  · rename_i ds'
    cases c : ints? ds' with
    | none => rw [c] at hz; cases hz
    | some ns =>
      rw [c] at hz
      cases hz
      obtain rfl := ints?_eq c
      obtain ⟨v, rfl, hd⟩ := hv.one
      cases hd with
      | lst h1 h2 =>
        have e := h2.ints
        subst e
        refine ⟨_, ns, rfl, .inl (.inl (R.ex _ _ h1)), fun ns' p hp ha hl => ?_⟩
        have e := asc_uniq (hp.trans (srtI_perm ns).symm) ha (srtI_asc ns)
        subst e
        exact Rs.newL R hl (rpa_ints _) q
  · cases hz
variable {e : Expr} {p pos : Pos}
theorem xe_sorted (o : Okx X S k) {m : Rho → Rz (List PD)} (hm : S.mg "sorted" = none) (ha : XA X S [e] m) (hg : Gl X "sorted" := by rfl) (he : starEach [e] X.env = [(false, eval e X.env)] := by rfl) : XE X S (.Call (.Name "sorted" p) [e] [] pos) (mCB gSorted m) :=
  xe_cb o cr_sortedI (sim_sorted o.hK) hm ha hg (by decide +kernel) (by decide) (by decide) he (by rfl)
end
/-! ### <, <=, >, >= of data that are alike -/
def okCp (x y : PD) : Bool := PySem.W.alike x y && !isNn x && decide (x.depth ≤ 40) && !x.hasDict && !y.hasDict
def rCpD (K : PySem.W.Frag) (f : PD → PD → Bool) : R2 := fun x y H Q => ∃ d e, Rp K H x d ∧ Rp K H y e ∧ okCp d e = true ∧ Q (.bl (f d e)) H
section
variable {X : Cx} {S : Sx} {k : Nat}
theorem okCp.inv {x y : PD} (h : okCp x y = true) : PySem.W.alike x y = true ∧ x ≠ .none ∧ x.depth ≤ 40 ∧ x.hasDict = false ∧ y.hasDict = false := by
  unfold okCp at h
  simp only [Bool.and_eq_true, decide_eq_true_eq, Bool.not_eq_true'] at h
  refine ⟨h.1.1.1.1, fun e => ?_, h.1.1.2, h.1.2, h.2⟩
  subst e
  exact absurd h.1.1.1.2 (by simp [isNn])
theorem op_ltD (o : Okx X S k) : OpR X (compareOp .Lt) (rCpD X.K fun d e => PySem.W.dataLt d e) := by
  intro pn s σ H x y v u Q I rx ry h
  obtain ⟨d, e, hd, he, c, q⟩ := h
  obtain ⟨c1, c2, c3, c4, c5⟩ := okCp.inv c
  have hu := o.rm.units
  obtain ⟨as, r1⟩ := rp_reads I d x v c4 hd rx
  obtain ⟨bs, r2⟩ := rp_reads I e y u c5 he ry
  exact PySem.W.lt_data r1 r2 c1 c2 (by omega) ⟨.bl _, H, I, rfl, q⟩
theorem op_leD (o : Okx X S k) : OpR X (compareOp .LtE) (rCpD X.K fun d e => !PySem.W.dataLt e d) := by
  intro pn s σ H x y v u Q I rx ry h
  obtain ⟨d, e, hd, he, c, q⟩ := h
  obtain ⟨c1, c2, c3, c4, c5⟩ := okCp.inv c
  have hu := o.rm.units
  obtain ⟨as, r1⟩ := rp_reads I d x v c4 hd rx
  obtain ⟨bs, r2⟩ := rp_reads I e y u c5 he ry
  exact PySem.W.le_data r1 r2 c1 c2 (by omega) ⟨.bl _, H, I, rfl, q⟩
theorem op_gtD (o : Okx X S k) : OpR X (compareOp .Gt) (rCpD X.K fun d e => PySem.W.dataLt e d) := by
  intro pn s σ H x y v u Q I rx ry h
  obtain ⟨d, e, hd, he, c, q⟩ := h
  obtain ⟨c1, c2, c3, c4, c5⟩ := okCp.inv c
  have hu := o.rm.units
  obtain ⟨as, r1⟩ := rp_reads I d x v c4 hd rx
  obtain ⟨bs, r2⟩ := rp_reads I e y u c5 he ry
  exact PySem.W.gt_data r1 r2 c1 c2 (by omega) ⟨.bl _, H, I, rfl, q⟩
def gCpD (f : PD → PD → Bool) : PD → PD → Option PD := fun x y => if okCp x y = true then some (.bool (f x y)) else none
abbrev qLtD : PD → PD → Option Rv := fun x y => (gCpD (fun d e => PySem.W.dataLt d e) x y).map .fr
abbrev qLeD : PD → PD → Option Rv := fun x y => (gCpD (fun d e => !PySem.W.dataLt e d) x y).map .fr
abbrev qGtD : PD → PD → Option Rv := fun x y => (gCpD (fun d e => PySem.W.dataLt e d) x y).map .fr
theorem sim_cpD (hK : S.K = X.K) (f : PD → PD → Bool) : Sim2 X S (rCpD X.K f) fun x y => (gCpD f x y).map .fr := Sim2.pure fun F H x y dx dy z up hx hy h => by
  unfold gCpD at h
  split at h
  · rename_i c
    cases h
    rw [hK] at hx hy
    exact ⟨.bl _, .bl _, fun Q q => ⟨dx, dy, rp_mono up _ _ hx, rp_mono up _ _ hy, c, q⟩⟩
  · cases h
variable {a b : Expr} {ma mb : Rho → Rz Rv} {pos : Pos}
theorem xe_ltD (o : Okx X S k) (ha : XE X S a ma) (hb : XE X S b mb) (hm : behindInMarks .Lt b = false := by first | exact nomark _ | with_unfolding_all rfl) : XE X S (.Compare a [.Lt] [b] pos) (mOp2 qLtD ma mb) := xe_cmp (op_ltD o) (sim_cpD o.hK _) ha hb hm
theorem xe_leD (o : Okx X S k) (ha : XE X S a ma) (hb : XE X S b mb) (hm : behindInMarks .LtE b = false := by first | exact nomark _ | with_unfolding_all rfl) : XE X S (.Compare a [.LtE] [b] pos) (mOp2 qLeD ma mb) := xe_cmp (op_leD o) (sim_cpD o.hK _) ha hb hm
theorem xe_gtD (o : Okx X S k) (ha : XE X S a ma) (hb : XE X S b mb) (hm : behindInMarks .Gt b = false := by first | exact nomark _ | with_unfolding_all rfl) : XE X S (.Compare a [.Gt] [b] pos) (mOp2 qGtD ma mb) := xe_cmp (op_gtD o) (sim_cpD o.hK _) ha hb hm
theorem xt_ltD (o : Okx X S k) (ha : XE X S a ma) (hb : XE X S b mb) (hm : behindInMarks .Lt b = false := by first | exact nomark _ | with_unfolding_all rfl) : XT X S (.Compare a [.Lt] [b] pos) (mB (mOp2 qLtD ma mb)) := xt_cmp (op_ltD o) (sim_cpD o.hK _) ha hb hm
theorem xt_leD (o : Okx X S k) (ha : XE X S a ma) (hb : XE X S b mb) (hm : behindInMarks .LtE b = false := by first | exact nomark _ | with_unfolding_all rfl) : XT X S (.Compare a [.LtE] [b] pos) (mB (mOp2 qLeD ma mb)) := xt_cmp (op_leD o) (sim_cpD o.hK _) ha hb hm
theorem xt_gtD (o : Okx X S k) (ha : XE X S a ma) (hb : XE X S b mb) (hm : behindInMarks .Gt b = false := by first | exact nomark _ | with_unfolding_all rfl) : XT X S (.Compare a [.Gt] [b] pos) (mB (mOp2 qGtD ma mb)) := xt_cmp (op_gtD o) (sim_cpD o.hK _) ha hb hm
end
/-! ### in a tuple -/
def rInT (K : PySem.W.Frag) (f : Bool → Bool) : R2 := fun x y H Q => ∃ d ds, Dp K H x d ∧ Dp K H y (.tuple ds) ∧ SeqAt.shaped d = true ∧ SeqAt.shaped (.tuple ds) = true ∧ Q (.bl (f (ds.any fun z => PyData.eqv z d))) H
section
variable {X : Cx} {S : Sx} {k : Nat}
theorem op_inT (o : Okx X S k) : OpR X (compareOp .In) (rInT X.K fun b => b) := by
  intro pn s σ H x y v u Q I rx ry h
  (obtain ⟨d, ds, hd, he, sd, se, q⟩ := h)
  (obtain ⟨as, r1⟩ := Dp.reads I d x v hd rx)
  obtain ⟨bs, r2⟩ := Dp.reads I (.tuple ds) y u he ry
  exact SeqAt.in_tuple_reads r2 r1 (SeqAt.canLay_of_shaped se) (SeqAt.canLay_of_shaped sd) (room_in_shaped sd o.un65) ⟨.bl _, H, I, rfl, q⟩
theorem op_ninT (o : Okx X S k) : OpR X (compareOp .NotIn) (rInT X.K fun b => !b) := by
  intro pn s σ H x y v u Q I rx ry h
  (obtain ⟨d, ds, hd, he, sd, se, q⟩ := h)
  (obtain ⟨as, r1⟩ := Dp.reads I d x v hd rx)
  obtain ⟨bs, r2⟩ := Dp.reads I (.tuple ds) y u he ry
  exact SeqAt.notIn_tuple_reads r2 r1 (SeqAt.canLay_of_shaped se) (SeqAt.canLay_of_shaped sd) (room_in_shaped sd o.un65) ⟨.bl _, H, I, rfl, q⟩
def gInT (f : Bool → Bool) : PD → PD → Option PD := fun x y => match y with
  | .tuple ds => if (SeqAt.shaped x && SeqAt.shaped (.tuple ds)) = true then some (.bool (f (ds.any fun z => PyData.eqv z x))) else none
  | _ => none
abbrev qInT : PD → PD → Option Rv := fun x y => (gInT (fun b => b) x y).map .fr
abbrev qNotInT : PD → PD → Option Rv := fun x y => (gInT (fun b => !b) x y).map .fr
theorem sim_inT (hK : S.K = X.K) (f : Bool → Bool) : Sim2 X S (rInT X.K f) fun x y => (gInT f x y).map .fr := Sim2.pure fun F H x y dx dy z up hx hy h => by
  unfold gInT at h
  split at h
  · rename_i ds
    split at h
    · rename_i c
      cases h
      have c' := Bool.and_eq_true_iff.mp c
      rw [hK] at hx hy
      exact ⟨.bl _, .bl _, fun Q q => ⟨dx, ds, rp_dp _ _ (SeqAt.canLay_of_shaped c'.1) (rp_mono up _ _ hx), rp_dp _ _ (SeqAt.canLay_of_shaped c'.2) (rp_mono up _ _ hy), c'.1, c'.2, q⟩⟩
    · cases h
  · cases h
variable {a b : Expr} {ma mb : Rho → Rz Rv} {pos : Pos}
theorem xe_inT (o : Okx X S k) (ha : XE X S a ma) (hb : XE X S b mb) (hm : behindInMarks .In b = false := by first | exact nomark _ | with_unfolding_all rfl) : XE X S (.Compare a [.In] [b] pos) (mOp2 qInT ma mb) := xe_cmp (op_inT o) (sim_inT o.hK _) ha hb hm
theorem xe_notinT (o : Okx X S k) (ha : XE X S a ma) (hb : XE X S b mb) (hm : behindInMarks .NotIn b = false := by first | exact nomark _ | with_unfolding_all rfl) : XE X S (.Compare a [.NotIn] [b] pos) (mOp2 qNotInT ma mb) := xe_cmp (op_ninT o) (sim_inT o.hK _) ha hb hm
theorem xt_inT (o : Okx X S k) (ha : XE X S a ma) (hb : XE X S b mb) (hm : behindInMarks .In b = false := by first | exact nomark _ | with_unfolding_all rfl) : XT X S (.Compare a [.In] [b] pos) (mB (mOp2 qInT ma mb)) := xt_cmp (op_inT o) (sim_inT o.hK _) ha hb hm
theorem xt_notinT (o : Okx X S k) (ha : XE X S a ma) (hb : XE X S b mb) (hm : behindInMarks .NotIn b = false := by first | exact nomark _ | with_unfolding_all rfl) : XT X S (.Compare a [.NotIn] [b] pos) (mB (mOp2 qNotInT ma mb)) := xt_cmp (op_ninT o) (sim_inT o.hK _) ha hb hm
end
theorem gInT_tuple {f : Bool → Bool} {x : PD} {ds : List PD} (h : SeqAt.shaped x = true) (h' : SeqAt.shaped (.tuple ds) = true) : gInT f x (.tuple ds) = some (.bool (f (ds.any fun z => PyData.eqv z x))) := by
  unfold gInT
  simp [h, h']
theorem okCp_ints (xs ys : List Int) : okCp (.list (xs.map .int)) (.list (ys.map .int)) = true := by
  have d : PyData.depthAll (xs.map PyData.int) = 0 := PySem.W.ke_depthAll xs
  unfold okCp
  simp [PySem.W.alike, alike_ints, isNn, PyData.depth, PyData.hasDict, hasDict_ints, d]
theorem gCpD_ints {f : PD → PD → Bool} (xs ys : List Int) : gCpD f (.list (xs.map .int)) (.list (ys.map .int)) = some (.bool (f (.list (xs.map .int)) (.list (ys.map .int)))) := by
  unfold gCpD
  rw [if_pos (okCp_ints xs ys)]
theorem dLt_ints (xs ys : List Int) : PySem.W.dataLt (.list (xs.map .int)) (.list (ys.map .int)) = decide (xs < ys) := by
  rw [PySem.W.dataLt_list]
  exact PySem.W.dataLt_ints xs ys
@[simp] theorem gSorted_ints (ns : List Int) : gSorted [.list (ns.map .int)] = some (.ow ((srtI ns).map .int)) := by
  show (ints? (ns.map .int)).map _ = _
  rw [ints?_map]
  rfl
end Sd
namespace Sd
open PySem L2 PySem.Spec PyProof.Rows
/-! ### the target x[n], x a list of one's own -/
def gIxT (i : Nat) (n : Int) : PD → Rho → Option Rho := fun d ρ => match ρ.owL i with
  | some ds => (match ixN ds.length n with
    | some j => some (ρ.set i (.ow (ds.set j d)))
    | none => none)
  | none => none
section
variable {X : Cx} {S : Sx} {k : Nat} {b : Expr} {p px : Pos} {x : Str} {mi : Rho → Rz Rv}
theorem xg_ix (o : Okx X S k) (i : Nat) (n : Int) (hi : XE X S b mi) (hn : ∀ ρ, mi ρ = .ok (.fr (.int n)) ρ) (hN : X.N[i]? = some x := by rfl) (hv : Vis X.env.scope x := by first | exact Or.inl rfl | exact Or.inr (Or.inl rfl) | exact Or.inr (Or.inr rfl)) (hd : (x == ("__debug__" : Str)) = false := by decide)
    (hcd : (x == ("__classdict__" : Str)) = false := by decide)
    (ha : ∀ v, assign (.Subscript (.Name x px) b p) X.env v = (do
      let ov ← holding [v] (eval (.Name x px) X.env)
      let iv ← holding [v, ov] (eval b X.env)
      standAt p
      (holding [v, ov, iv] (setItem ov iv v))
      release [v, ov, iv] []) := by intro _; rfl) (hT : S.T i = none := by first | rfl | assumption) : XG X S (.Subscript (.Name x px) b p) [] (gIxT i n) :=
  PG.imp (pg_sub (pe_var (i := i) hN hv hd hcd) hi set_list ha) fun v σ H Q q => by
    obtain ⟨F, ρ, d, R, D, P⟩ := q
    cases h0 : ρ.owL i with
    | none => unfold gIxT at P; rw [h0] at P; exact P.elim
    | some ds =>
      cases h2 : ixN ds.length n with
      | none => unfold gIxT at P; rw [h0] at P; simp only [h2] at P
      | some j =>
        have P : ∀ F' σ' H', Ext (Own ρ σ) F H (Own (ρ.set i (.ow (ds.set j d))) σ') F' H' → Rs S F' (ρ.set i (.ow (ds.set j d))) σ' H' → gRel [] σ σ' → Q σ' H' := by
          unfold gIxT at P; rw [h0] at P; simp only [h2] at P; exact P
        obtain ⟨a, vs, e1, e2, e3, e4⟩ := R.ow i ds (Rho.owL_eq h0)
        refine ⟨.ref a, e1, F, ρ, R, ?_⟩
        rw [hn]
        intro F1 H1 x1 R1 w hw
        obtain rfl : w = .int n := by cases hw; rfl
        obtain ⟨vs1, q1, q2⟩ := R1.owAt (Rho.owL_eq h0) e1 hT
        obtain ⟨R3, x3⟩ := R1.mut (Rho.owL_eq h0) e1 (RpAll.set (rp_mono x1.fz _ _ D) j q2) hT
        exact ⟨a, vs1, n, j, rfl, rfl, q1, by rw [q2.len]; exact h2, P F1 σ _ (x1.trans x3) R3 ⟨rfl, fun _ _ => rfl⟩⟩
end
end Sd
namespace Sd
open PySem L2 PySem.Spec PyProof.Rows
/-! ### told = [f(..), ..]; if c: return False; for some in told: some.append(None) -/
inductive NestV (S : Sx) (O0 : Addr → Prop) (H0 : Hp) (O : Addr → Prop) (F H : Hp) : List V → List (List PD) → Prop
  | nil : NestV S O0 H0 O F H [] []
  | cons {p : Addr} {us : List V} {ds : List PD} {vs : List V} {dss : List (List PD)} : F p = none → H p = some (.lst us) → RpAll S.K F us ds → ¬ O p → (H0 p = none ∨ O0 p) → (∀ v ∈ vs, v ≠ .ref p) → NestV S O0 H0 O F H vs dss → NestV S O0 H0 O F H (.ref p :: vs) (ds :: dss)
section
variable {S : Sx} {O0 O O' : Addr → Prop} {H0 F F' H H' : Hp}
theorem NestV.len : ∀ {vs : List V} {dss : List (List PD)}, NestV S O0 H0 O F H vs dss → vs.length = dss.length
  | _, _, .nil => rfl
  | _, _, .cons _ _ _ _ _ _ t => congrArg (· + 1) t.len
theorem NestV.to (hR : ∀ a o, F a = some o → F' a = some o) : ∀ {vs : List V} {dss : List (List PD)}, (∀ p us, V.ref p ∈ vs → H p = some (.lst us) → F p = none → ¬ O p → F' p = none) → (∀ p us, V.ref p ∈ vs → H p = some (.lst us) → ¬ O p → H' p = some (.lst us)) → (∀ p us, V.ref p ∈ vs → H p = some (.lst us) → F p = none → ¬ O p → ¬ O' p) → NestV S O0 H0 O F H vs dss → NestV S O0 H0 O' F' H' vs dss
  | _, _, _, _, _, .nil => .nil
  | _, _, hF, hH, hO, .cons a b c d e f t => .cons (hF _ _ (by simp) b a d) (hH _ _ (by simp) b d) (rpa_mono hR _ _ c) (hO _ _ (by simp) b a d) e f (NestV.to hR (fun p us hp => hF p us (List.mem_cons_of_mem _ hp)) (fun p us hp => hH p us (List.mem_cons_of_mem _ hp)) (fun p us hp => hO p us (List.mem_cons_of_mem _ hp)) t)
theorem NestV.step {vs : List V} {dss : List (List PD)} (h : NestV S O0 H0 O F H vs dss) (e : Ext O F H O' F' H') : NestV S O0 H0 O' F' H' vs dss :=
  h.to e.fz (fun p us _ b a d => by
    cases q : F' p with
    | none => rfl
    | some o =>
      rcases e.nw p (by rw [q]; simp) with z | z | z
      · exact absurd a z
      · rw [b] at z; cases z
      · exact absurd z d) (fun p us _ b d => e.kp p _ b d) fun p us _ b a d z => by
    rcases e.ow p z with z | z
    · exact d z
    · rw [b] at z; cases z
theorem NestV.base {vs : List V} {dss : List (List PD)} {O1 : Addr → Prop} {H1 : Hp} (hb : ∀ p, H0 p = none ∨ O0 p → H1 p = none ∨ O1 p) (h : NestV S O0 H0 O F H vs dss) : NestV S O1 H1 O F H vs dss := by
  induction h with
  | nil => exact .nil
  | cons a b c d e f _ ih => exact .cons a b c d (hb _ e) f ih
theorem NestV.ext {vs : List V} {dss : List (List PD)} {O1 : Addr → Prop} {F1 H1 : Hp} (e : Ext O1 F1 H1 O0 F' H0) (h : NestV S O0 H0 O F H vs dss) : NestV S O1 H1 O F H vs dss := h.base fun p q => by
  rcases q with q | q
  · exact .inl (e.back q)
  · exact (e.ow p q).symm
theorem NestV.mem {vs : List V} {dss : List (List PD)} {p : Addr} (h : NestV S O0 H0 O F H vs dss) (hp : V.ref p ∈ vs) : F p = none ∧ (∃ us, H p = some (.lst us)) ∧ ¬ O p ∧ (H0 p = none ∨ O0 p) := by
  induction h with
  | nil => cases hp
  | cons a b c d e f _ ih =>
    rcases List.mem_cons.mp hp with z | z
    · cases z; exact ⟨a, ⟨_, b⟩, d, e⟩
    · exact ih z
/-- all of them go into the frozen part -/
theorem NestV.freeze {ρ : Rho} {σ : L2.St} : ∀ {vs : List V} {dss : List (List PD)} {F : Hp}, NestV S O0 H0 (Own ρ σ) F H vs dss → Rs S F ρ σ H → ∃ F', (∀ a o, F a = some o → F' a = some o) ∧ (∀ a, F' a ≠ none → F a ≠ none ∨ V.ref a ∈ vs) ∧ Rs S F' ρ σ H ∧ RpAll S.K F' vs (dss.map PyData.list)
  | _, _, F, .nil, R => ⟨F, fun _ _ q => q, fun _ q => .inl q, R, .nil⟩
  | _, _, F, .cons (p := p) (us := us) (ds := ds) (vs := vs) (dss := dss) a b c d e f t, R => by
    obtain ⟨F1, u1, w1, R1, D1⟩ := NestV.freeze t R
    have a1 : F1 p = none := by
      cases q : F1 p with
      | none => rfl
      | some o =>
        rcases w1 p (by rw [q]; simp) with z | z
        · exact absurd a z
        · exact absurd rfl (f _ z)
    have up : ∀ a o, F1 a = some o → upd F1 p (.lst us) a = some o := fun a o q => by rw [upd_ne (ne_of_none q a1)]; exact q
    refine ⟨upd F1 p (.lst us), fun a o q => up a o (u1 a o q), fun a q => ?_, ⟨fun a o q => ?_, R1.len, fun i d' q => ?_, fun i ds' q => ?_, R1.sep, R1.pin, R1.sm.up up⟩, .cons (.lst upd_same (rpa_mono (fun a o q => up a o (u1 a o q)) _ _ c)) (rpa_mono up _ _ D1)⟩
    · by_cases z : a = p
      · subst z; exact .inr (by simp)
      · rw [upd_ne z] at q
        rcases w1 a q with y | y
        · exact .inl y
        · exact .inr (List.mem_cons_of_mem _ y)
    · by_cases z : a = p
      · subst z; rw [upd_same] at q; cases q; exact b
      · rw [upd_ne z] at q; exact R1.ex a o q
    · obtain ⟨w, q1, q2⟩ := R1.fr i d' q
      exact ⟨w, q1, rp_mono up _ _ q2⟩
    · obtain ⟨p', vs', q1, q2, q3, q4⟩ := R1.ow i ds' q
      have z : p' ≠ p := fun z => d ⟨i, ds', q, by rw [← z]; exact q1⟩
      exact ⟨p', vs', q1, by rw [upd_ne z]; exact q2, q3, rpa_mono up _ _ q4⟩
end
def nestR : List (Rho → Rz Rv) → Rho → Rz (List (List PD))
  | [], ρ => .ok [] ρ
  | m :: ms, ρ => (m ρ).bind fun r ρ1 => match r with
    | .ow ds => (nestR ms ρ1).bind fun dss ρ2 => .ok (ds :: dss) ρ2
    | .fr _ => .stuck
def tN (S : Sx) (ms : List (Rho → Rz Rv)) : TA := fun σ H T => ∃ F ρ, Rs S F ρ σ H ∧ PostE S σ F ρ H (nestR ms ρ) fun F' ρ' H' dss => ∀ vs, NestV S (Own ρ σ) H (Own ρ' σ) F' H' vs dss → T vs H'
section
variable {X : Cx} {S : Sx} {k : Nat} {e : Expr} {es : List Expr} {m : Rho → Rz Rv} {ms : List (Rho → Rz Rv)}
theorem xn_nil : PA X [] (tN S []) := PA.imp pa_nil fun σ H T q => by
  obtain ⟨F, ρ, R, P⟩ := q
  exact PostE.ok P R [] .nil
theorem xn_cons (ha : XE X S e m) (hb : PA X es (tN S ms)) (hs : starEach (e :: es) X.env = (false, eval e X.env) :: starEach es X.env := by rfl) : PA X (e :: es) (tN S (m :: ms)) := PA.imp (pa_cons ha hb hs) fun σ H T q => by
  obtain ⟨F, ρ, R, P⟩ := q
  refine ⟨F, ρ, R, PostE.mono (PostE.bind P) fun F1 ρ1 H1 r e1 R1 P1 v hv => ?_⟩
  cases r with
  | fr d => exact (P1 F1 e1).elim
  | ow ds =>
    have P2 := P1 F1 e1
    obtain ⟨p, us, rfl, a, b, c, d, f⟩ := hv
    refine ⟨F1, ρ1, R1, PostE.mono (PostE.bind P2) fun F2 ρ2 H2 dss e2 R2 P3 vs hvs => ?_⟩
    have P4 := PostE.ok (P3 F2 e2) R2
    have hd : RvR S (Own ρ σ) H (Own ρ2 σ) F2 H2 (.ref p) (.ow ds) := RvR.step (r := .ow ds) ⟨p, us, rfl, a, b, c, d, f⟩ e2
    obtain ⟨p', us', z, a', b', c', d', f'⟩ := hd
    cases z
    refine P4 (.ref p :: vs) (.cons a' b' c' d' f' (fun v hv z => ?_) (hvs.ext e1))
    subst z
    rcases (hvs.mem hv).2.2.2 with y | y
    · rw [b] at y; cases y
    · exact d y
end
/-! the slots of some places go into the frozen part -/
def frzR : List Nat → Rho → Rho
  | [], ρ => ρ
  | i :: is, ρ => match ρ[i]? with
    | some (.ow ds) => frzR is (ρ.set i (.fr (.list ds)))
    | _ => frzR is ρ
theorem Rs.frz {S : Sx} {σ : L2.St} {H : Hp} (hT : ∀ l, S.T l = none) : ∀ (is : List Nat) {F : Hp} {ρ : Rho}, Rs S F ρ σ H → ∃ F', Ext (Own ρ σ) F H (Own (frzR is ρ) σ) F' H ∧ Rs S F' (frzR is ρ) σ H
  | [], F, ρ, R => ⟨F, Ext.refl, R⟩
  | i :: is, F, ρ, R => by
    unfold frzR
    split
    · rename_i ds h
      obtain ⟨F1, v, _, e1, R1, _⟩ := R.freezeSlot h (hT i)
      obtain ⟨F2, e2, R2⟩ := Rs.frz hT is R1
      exact ⟨F2, e1.trans e2, R2⟩
    · exact Rs.frz hT is R
def flatD (es : List PD) : Bool := (ints? es).isSome
def joinC : Cl → Cl → Cl
  | .fr d, _ => .fr d
  | .ow _, .ow es => if flatD es = true then .ow es else .no
  | _, _ => .no
def joinR : Rho → Rho → Rho
  | a :: ρ, b :: ρ' => joinC a b :: joinR ρ ρ'
  | _, _ => []
theorem joinR_len : ∀ {ρ ρ' : Rho}, ρ.length = ρ'.length → (joinR ρ ρ').length = ρ.length
  | [], [], _ => rfl
  | [], b0 :: _, hl => absurd hl (by simp)
  | a0 :: _, [], hl => absurd hl (by simp)
  | _ :: ρ, _ :: ρ', h => by simp only [joinR, List.length_cons]; rw [joinR_len (by simpa using h)]
theorem joinR_at : ∀ {ρ ρ' : Rho} {i : Nat} {c : Cl}, (joinR ρ ρ')[i]? = some c → ∃ a b, ρ[i]? = some a ∧ ρ'[i]? = some b ∧ c = joinC a b
  | a :: ρ, b :: ρ', 0, c, h => ⟨a, b, rfl, rfl, by simpa [joinR] using h.symm⟩
  | a :: ρ, b :: ρ', i + 1, c, h => by
    have h' : (joinR ρ ρ')[i]? = some c := by simpa [joinR] using h
    simpa using joinR_at h'
  | [], _, _, _, h => by simp [joinR] at h
  | _ :: _, [], _, _, h => by simp [joinR] at h
theorem joinC_fr {a b : Cl} {d : PD} (h : joinC a b = .fr d) : a = .fr d := by
  unfold joinC at h
  split at h
  · exact h
  · split at h <;> cases h
  · cases h
theorem joinC_ow {a b : Cl} {es : List PD} (h : joinC a b = .ow es) : b = .ow es ∧ flatD es = true := by
  unfold joinC at h
  split at h
  · cases h
  · split at h
    · rename_i c; cases h; exact ⟨rfl, c⟩
    · cases h
  · cases h
theorem rpa_flat {K : PySem.W.Frag} {F F' : Hp} {us : List V} {es : List PD} (h : RpAll K F us es) (c : flatD es = true) : RpAll K F' us es := by
  unfold flatD at c
  obtain ⟨ns, e⟩ := Option.isSome_iff_exists.mp c
  obtain rfl := ints?_eq e
  rw [h.ints]
  exact RpAll.ofInts ns
def nestE (i j : Nat) (t : Rho → Rz Bool) (dss : List (List PD)) (ρ1 : Rho) : Rz Fl :=
  if i < ρ1.length ∧ j < ρ1.length ∧ dss.length ≤ 1000 ∧ (dss.all fun ds => okLen (ds.length + 1)) = true then
    (t (ρ1.set i (.fr (.list (dss.map .list))))).bind fun b ρ2 => if b = true then .ok (.rt (.fr (.bool false))) ρ2 else .ok .nx (((joinR ρ1 ρ2).set i .no).set j .no)
  else .stuck
def mNest (i j : Nat) (fz : List Nat) (ms : List (Rho → Rz Rv)) (t : Rho → Rz Bool) : Rho → Rz Fl := fun ρ => (nestR ms (frzR fz ρ)).bind fun dss ρ1 => nestE i j t dss ρ1
theorem Rs.drop {S : Sx} {F : Hp} {ρ : Rho} {σ : L2.St} {H : Hp} (R : Rs S F ρ σ H) (j : Nat) : Rs S F (ρ.set j .no) σ H := by
  have at' : ∀ {l : Nat} {c : Cl}, c ≠ .no → (ρ.set j .no)[l]? = some c → ρ[l]? = some c := fun {l c} hc h => by
    by_cases z : j = l
    · subst z
      by_cases hl : j < ρ.length
      · rw [List.getElem?_set_self hl] at h; exact absurd (Option.some.inj h).symm hc
      · rw [List.getElem?_eq_none (by simpa using hl)] at h; cases h
    · rw [List.getElem?_set_ne z] at h; exact h
  exact ⟨R.ex, by rw [List.length_set]; exact R.len, fun i d h => R.fr i d (at' (by intro z; cases z) h), fun i d h => R.ow i d (at' (by intro z; cases z) h),
    fun a b da db p h1 h2 h3 h4 => R.sep a b da db p (at' (by intro z; cases z) h1) (at' (by intro z; cases z) h2) h3 h4, R.pin, R.sm⟩
theorem own_drop {ρ : Rho} {σ : L2.St} {j : Nat} {a : Addr} (h : Own (ρ.set j .no) σ a) : Own ρ σ a := own_set (by intro ds z; cases z) h
section
variable {X : Cx} {S : Sx} {k : Nat} {es : List Expr} {c : Expr} {ms : List (Rho → Rz Rv)} {t : Rho → Rz Bool} {rest body : List Stmt} {n : Rho → Rz Fl} {x y : Str} {p1 p2 p3 p4 p5 p6 p7 p8 p9 : Pos} {kb : Nat}
theorem xs_nest (o : Okx X S k) (i j : Nat) (fz : List Nat) (hes : PA X es (tN S ms)) (hc : XT X S c t) (hb : XSs X S body (mSeq (mDrop (mApp j (mC .none))) mNx)) (hr : XSs X S rest n)
    (hT : ∀ l, S.T l = none := by intro _; rfl) (hJ : i ∉ S.J ∧ j ∉ S.J := by first | exact ⟨nj rfl, nj rfl⟩ | decide) (hij : i ≠ j := by decide) (hi : X.N[i]? = some x := by rfl) (hj : X.N[j]? = some y := by rfl) (hx : Loc X.env.scope x := by first | exact Or.inl rfl | exact Or.inr rfl) (hy : Loc X.env.scope y := by first | exact Or.inl rfl | exact Or.inr rfl)
    (hs : swapsWith (.List es p1) (some (.Name x p2)) p3.line X.env = pure false := by rfl)
    (hfx : X.fn x = true ∨ X.env.scope.names.lookup x = some .local := by first | exact .inl rfl | exact .inr rfl | assumption) (hfy : X.fn y = true ∨ X.env.scope.names.lookup y = some .local := by first | exact .inl rfl | exact .inr rfl | assumption)
    (hv : Vis X.env.scope x := by first | exact Or.inl rfl | exact Or.inr (Or.inl rfl) | exact Or.inr (Or.inr rfl)) (hd : (x == ("__debug__" : Str)) = false := by decide) (hcd : (x == ("__classdict__" : Str)) = false := by decide)
    (hfs : ∀ z, foldedSetIterable (.Name x p6) X.env z = pure z := by intro _; rfl) :
    XSs X S (.Assign [.Name x p2] (.List es p1) p3 :: .If c [.Return (some (.Constant (.bool false) kb p4)) p5] [] p8 :: .For (.Name y p7) (.Name x p6) body [] p9 :: rest) (mSeq (mNest i j fz ms t) n) :=
  PSs.imp (pss_cons (ps_set o.nd hi hx (pe_lst hes) hs hfx) (pss_cons (ps_if hc (xs_cons (S := S) (xs_ret xe_bl) xs_nil) pss_nil) (pss_cons (ps_for o.po o.calm (pi_list (pe_var (i := i) hi hv hd hcd)) (pg_name o.nd hj hy hfy) hb hfs) hr))) fun D σ H q => by
    obtain ⟨F, ρ, R, P⟩ := q
    obtain ⟨F0, e0, R0⟩ := Rs.frz hT fz R
    unfold mSeq mNest at P
    refine ⟨F0, frzR fz ρ, R0, ?_⟩
    cases hm : nestR ms (frzR fz ρ) with
    | stuck => rw [hm] at P; exact P
    | exc a f ρ' => rw [hm] at P; exact fun F' H' cls dd e R' z => P F' σ H' cls dd (e0.trans e) R' z
    | ok dss ρ1 =>
      rw [hm] at P
      intro F1 H1 e1 R1 vs hvs
      have P : PostS S F ρ σ H ((nestE i j t dss ρ1).bind fun fl ρ1 => match fl with
          | .nx => n ρ1
          | .bk => .ok .bk ρ1
          | .ct => .ok .ct ρ1
          | .rt r => .ok (.rt r) ρ1) D := P
      unfold nestE at P
      by_cases hcond : i < ρ1.length ∧ j < ρ1.length ∧ dss.length ≤ 1000 ∧ (dss.all fun ds => okLen (ds.length + 1)) = true
      · rw [if_pos hcond] at P
        obtain ⟨il, jl, dl, dok⟩ := hcond
        refine ⟨by rw [hvs.len]; exact Nat.le_trans dl (by decide), fun q hq => ?_⟩
        -- all lists go into the frozen part, with the new one
        obtain ⟨Fa, ua, wa, Ra, Da⟩ := hvs.freeze R1
        have e01 := e0.trans e1
        have qF : Fa q = none := by
          cases z : Fa q with
          | none => rfl
          | some w => rw [Ra.ex q w z] at hq; cases hq
        have upq : ∀ a w, Fa a = some w → upd Fa q (.lst vs) a = some w := fun a w z => by rw [upd_ne (ne_of_none z qF)]; exact z
        have notq : ∀ v ∈ vs, v ≠ .ref q := fun v hv z => by
          subst z
          obtain ⟨_, ⟨us, y⟩, _⟩ := hvs.mem hv
          rw [y] at hq; cases hq
        have Rb : Rs S (upd Fa q (.lst vs)) ρ1 σ (upd H1 q (.lst vs)) := by
          refine ⟨fun a w z => ?_, Ra.len, fun l d z => ?_, fun l d z => ?_, Ra.sep, Ra.pin, Ra.sm.up upq⟩
          · by_cases y : a = q
            · subst y; rw [upd_same] at z ⊢; exact z
            · rw [upd_ne y] at z ⊢; exact Ra.ex a w z
          · obtain ⟨v, z1, z2⟩ := Ra.fr l d z
            exact ⟨v, z1, rp_mono upq _ _ z2⟩
          · obtain ⟨p, us, z1, z2, z3, z4⟩ := Ra.ow l d z
            have y : p ≠ q := fun y => by rw [y] at z3; exact z3.ne hq
            exact ⟨p, us, z1, by rw [upd_ne y]; exact z2, z3.mono fun o z => (by rw [upd_ne y]; exact z), rpa_mono upq _ _ z4⟩
        have Dq : Rp S.K (upd Fa q (.lst vs)) (.ref q) (.list (dss.map .list)) := .lst upd_same (rpa_mono upq _ _ Da)
        obtain ⟨Rc, own2⟩ := Rb.setSlot (O0 := Own ρ1 σ) (H0 := H1) (v := .ref q) (r := .fr (.list (dss.map .list))) Dq il hJ.1 (.inr ⟨_, rfl⟩)
        have own2' : ∀ a, Own (ρ1.set i (.fr (.list (dss.map .list)))) (σ.set i (some (.ref q))) a → Own ρ1 σ a := fun a ⟨l, d, z1, z2⟩ => by
          by_cases y : i = l
          · subst y; rw [List.getElem?_set_self il] at z1; cases z1
          · rw [List.getElem?_set_ne y] at z1 z2; exact ⟨l, d, z1, z2⟩
        have e2 : Ext (Own ρ σ) F H (Own (ρ1.set i (.fr (.list (dss.map .list)))) (σ.set i (some (.ref q)))) (upd Fa q (.lst vs)) (upd H1 q (.lst vs)) := by
          refine ⟨fun a w z => upq a w (ua a w (e01.fz a w z)), fun a z => ?_, fun a w z z' => ?_, fun a z => ?_, fun a z => e01.ow a (own2' a z)⟩
          · by_cases y : a = q
            · subst y; exact .inr (.inl (e01.back hq))
            · rw [upd_ne y] at z
              rcases wa a z with w | w
              · exact e01.nw a w
              · rcases (hvs.mem w).2.2.2 with u | u
                · exact .inr (.inl (e0.back u))
                · rcases e0.ow a u with u | u
                  · exact .inr (.inr u)
                  · exact .inr (.inl u)
          · have z2 := e01.kp a w z z'
            rw [upd_ne (ne_of_none z2 hq)]; exact z2
          · by_cases y : a = q
            · subst y; rw [upd_same]; simp
            · rw [upd_ne y]; exact e01.st a z
        refine ⟨_, ρ1.set i (.fr (.list (dss.map .list))), Rc, ?_⟩
        cases ht : t (ρ1.set i (.fr (.list (dss.map .list)))) with
        | stuck => rw [ht] at P; exact P
        | exc a f ρ' => rw [ht] at P; exact fun F' H' cls dd e R' z => P F' _ H' cls dd (e2.trans e) R' z
        | ok b ρ3 =>
          rw [ht] at P
          intro F3 H3 e3 R3
          cases b with
          | true =>
            have P : PostS S F ρ σ H (.ok (.rt (.fr (.bool false))) ρ3) D := P
            exact ⟨F3, ρ3, R3, fun F' σ' H' e' R' v hv => P F' σ' H' ((e2.trans e3).trans e') R' v hv⟩
          | false =>
            have P : PostS S F ρ σ H (n (((joinR ρ1 ρ3).set i .no).set j .no)) D := P
            have e23 := e2.trans e3
            have len3 : ρ1.length = ρ3.length := by
              have h3 := R3.len
              have h1 := R1.len
              rw [List.length_set] at h3
              omega
            have at1 : ∀ {l : Nat} {c : Cl}, c ≠ .no → (((joinR ρ1 ρ3).set i .no).set j .no)[l]? = some c → l ≠ i ∧ ∃ a b, ρ1[l]? = some a ∧ ρ3[l]? = some b ∧ c = joinC a b := fun {l c} hc h => by
              have hj0 : j ≠ l := fun z => by
                subst z
                rw [List.getElem?_set_self (by rw [List.length_set, joinR_len len3]; exact jl)] at h
                exact hc (Option.some.inj h).symm
              rw [List.getElem?_set_ne hj0] at h
              have hi0 : i ≠ l := fun z => by
                subst z
                rw [List.getElem?_set_self (by rw [joinR_len len3]; exact il)] at h
                exact hc (Option.some.inj h).symm
              rw [List.getElem?_set_ne hi0] at h
              exact ⟨fun z => hi0 z.symm, joinR_at h⟩
            have hEj : ∀ c, ((((joinR ρ1 ρ3).set i .no).set j .no).set j c).set j .no = ((joinR ρ1 ρ3).set i .no).set j .no := fun c => by rw [List.set_set, List.set_set]
            have lenE : (((joinR ρ1 ρ3).set i .no).set j .no).length = ρ1.length := by rw [List.length_set, List.length_set, joinR_len len3]
            generalize ((joinR ρ1 ρ3).set i .no).set j .no = ρE at P at1 hEj lenE
            have up3 : ∀ a w, F1 a = some w → F3 a = some w := fun a w z => e3.fz a w (upq a w (ua a w z))
            have RE : Rs S F1 ρE (σ.set i (some (.ref q))) H3 := by
              refine ⟨fun a w z => R3.ex a w (up3 a w z), by rw [lenE, List.length_set]; exact R1.len, fun l d z => ?_, fun l d z => ?_, fun a b da db p h1 h2 h3 h4 => ?_, R3.pin, R1.sm⟩
              · obtain ⟨ne, a, b, z1, z2, z3⟩ := at1 (by intro z; cases z) z
                have z4 := joinC_fr z3.symm
                subst z4
                obtain ⟨v, y1, y2⟩ := R1.fr l d z1
                exact ⟨v, by rw [List.getElem?_set_ne (fun z => ne z.symm)]; exact y1, y2⟩
              · obtain ⟨ne, a, b, z1, z2, z3⟩ := at1 (by intro z; cases z) z
                obtain ⟨z4, fl⟩ := joinC_ow z3.symm
                subst z4
                obtain ⟨p, us, y1, y2, y3, y4⟩ := R3.ow l d z2
                refine ⟨p, us, y1, ?_, y3, rpa_flat y4 fl⟩
                cases y : F1 p with
                | none => rfl
                | some w => rw [up3 p w y] at y2; cases y2
              · obtain ⟨_, _, b1, _, z2, z3⟩ := at1 (by intro z; cases z) h1
                obtain ⟨_, _, b2, _, z5, z6⟩ := at1 (by intro z; cases z) h2
                obtain ⟨z4, _⟩ := joinC_ow z3.symm
                obtain ⟨z7, _⟩ := joinC_ow z6.symm
                subst z4
                subst z7
                exact R3.sep a b da db p z2 z5 h3 h4
            have own3 : ∀ a, Own ρE (σ.set i (some (.ref q))) a → Own ρ3 (σ.set i (some (.ref q))) a := fun a ⟨l, d, h1, h2⟩ => by
              obtain ⟨_, _, b1, _, z2, z3⟩ := at1 (by intro z; cases z) h1
              obtain ⟨z4, _⟩ := joinC_ow z3.symm
              subst z4
              exact ⟨l, d, z2, h2⟩
            have eE : Ext (Own ρ σ) F H (Own ρE (σ.set i (some (.ref q)))) F1 H3 := ⟨e01.fz, e01.nw, e23.kp, e23.st, fun a z => e23.ow a (own3 a z)⟩
            have hq3 : H3 q = some (.lst vs) := R3.ex q _ (e3.fz q _ upd_same)
            have nq : ¬ Own ρE (σ.set i (some (.ref q))) q := fun z => by
              obtain ⟨l, d, z1, z2⟩ := own3 q z
              obtain ⟨p, us, y1, y2, _⟩ := R3.ow l d z1
              rw [y1] at z2
              have : p = q := by injection z2 with z2; injection z2 with z2; injection z2
              rw [this, e3.fz q _ upd_same] at y2
              cases y2
            have hv3 : NestV S (Own ρ σ) H (Own ρE (σ.set i (some (.ref q)))) F1 H3 vs dss := (hvs.ext e0).to (fun _ _ z => z) (fun _ _ _ _ a _ => a) (fun p us hp b d => by
                have ne : p ≠ q := fun z => notq _ hp (by rw [z])
                exact e3.kp p _ (by rw [upd_ne ne]; exact b) fun z => d (own2' p z)) fun p us hp b a d z => by
              have ne : p ≠ q := fun z => notq _ hp (by rw [z])
              rcases e3.ow p (own3 p z) with y | y
              · exact d (own2' p y)
              · rw [upd_ne ne, b] at y; cases y
            have hsi : (σ.set i (some (V.ref q)))[i]? = some (some (.ref q)) := List.getElem?_set_self (by rw [← R1.len]; exact il)
            refine ⟨.ref q, hsi, q, rfl, ⟨vs, .inl (.inl hq3)⟩, fun l m σ' H' => m = vs.length - l ∧ l ≤ vs.length ∧ ∃ FE, Ext (Own ρ σ) F H (Own ρE σ') FE H' ∧ Rs S FE ρE σ' H' ∧ NestV S (Own ρ σ) H (Own ρE σ') FE H' (vs.drop l) (dss.drop l) ∧ H' q = some (.lst vs) ∧ ¬ Own ρE σ' q,
              ⟨vs.length, rfl, Nat.zero_le _, F1, eE, RE, hv3, hq3, nq⟩, ?_⟩
            rintro l m σ' H' ⟨rfl, hle, FE, eX, RX, hv, hqX, nqX⟩
            by_cases hlt : l < vs.length
            · have hl2 : l < dss.length := by rw [← hvs.len]; exact hlt
              have hds : okLen (dss[l].length + 1) = true := List.all_eq_true.mp dok _ (List.getElem_mem hl2)
              have hvl : vs[l]? = some vs[l] := List.getElem?_eq_getElem hlt
              have hvm : vs[l] ∈ vs := List.getElem_mem hlt
              rw [List.drop_eq_getElem_cons hlt, List.drop_eq_getElem_cons hl2] at hv
              refine .inr ⟨⟨vs, vs[l], .inl (.inl hqX), hvl⟩, fun σ3 H3 => ∃ FE, Ext (Own ρ σ) F H (Own ρE σ3) FE H3 ∧ Rs S FE ρE σ3 H3 ∧ NestV S (Own ρ σ) H (Own ρE σ3) FE H3 (vs.drop (l + 1)) (dss.drop (l + 1)) ∧ H3 q = some (.lst vs) ∧ ¬ Own ρE σ3 q,
                fun σ3 H3 h => ⟨vs.length - (l + 1), by omega, rfl, hlt, h⟩, fun w H2 hy => ?_⟩
              obtain ⟨rfl, hy⟩ := hy
              have ew := hy vs (.inl (.inl hqX))
              rw [hvl] at ew
              have ew := Option.some.inj ew
              subst ew
              generalize vs[l] = w at hv hvm
              generalize dss[l] = ds at hv hds
              cases hv with
              | cons a b c d f g tl =>
                rename_i p us
                obtain ⟨R5, own5⟩ := RX.setSlot (O0 := Own ρ σ) (H0 := H) (v := .ref p) (r := .ow ds) ⟨p, us, rfl, a, b, c, d, f⟩ (by rw [lenE]; exact jl) hJ.2 (.inl (hT j))
                have pq : q ≠ p := fun z => notq _ hvm (by rw [z])
                have own5' : ∀ a, Own (ρE.set j (.ow ds)) (σ'.set j (some (.ref p))) a → a = p ∨ Own ρE σ' a := fun a ⟨l, d, z1, z2⟩ => by
                  by_cases y : j = l
                  · subst y
                    rw [List.getElem?_set_self (by rw [← RX.len, lenE]; exact jl)] at z2
                    left
                    injection z2 with z2
                    injection z2 with z2
                    injection z2 with z2
                    exact z2.symm
                  · rw [List.getElem?_set_ne y] at z1 z2; exact .inr ⟨l, d, z1, z2⟩
                have e5 : Ext (Own ρ σ) F H (Own (ρE.set j (.ow ds)) (σ'.set j (some (.ref p)))) FE H2 := ⟨eX.fz, eX.nw, eX.kp, eX.st, fun a z => by
                  rcases own5 a z with y | y | y
                  · exact eX.ow a y
                  · exact .inr y
                  · exact .inl y⟩
                have hmb : mSeq (mDrop (mApp j (mC .none))) mNx (ρE.set j (.ow ds)) = .ok .nx (ρE.set j (.ow (ds ++ [.none]))) := by
                  have h0 : (ρE.set j (.ow ds))[j]? = some (.ow ds) := List.getElem?_set_self (by rw [lenE]; exact jl)
                  unfold mSeq mDrop mApp Rho.owL mC mNx
                  simp only [h0, Rz.bind, hds, if_true, List.set_set, Rv.d]
                refine ⟨FE, ρE.set j (.ow ds), R5, ?_⟩
                rw [hmb]
                intro F6 σ6 H6 e6 R6
                have own6 : ∀ a, Own ρE σ6 a → Own (ρE.set j (.ow (ds ++ [.none]))) σ6 a := fun a z => own_drop (j := j) (by rw [hEj]; exact z)
                have e56 := e5.trans e6
                refine ⟨F6, ⟨e56.fz, e56.nw, e56.kp, e56.st, fun a z => e56.ow a (own6 a z)⟩, hEj _ ▸ R6.drop j, tl.to e6.fz (fun r vr hr b' a' d' => ?_) (fun r vr hr b' d' => ?_) (fun r vr hr b' a' d' z => ?_), ?_, fun z => ?_⟩
                · cases y : F6 r with
                  | none => rfl
                  | some o =>
                    rcases e6.nw r (by rw [y]; simp) with z | z | z
                    · exact absurd a' z
                    · rw [b'] at z; cases z
                    · rcases own5' r z with z | z
                      · exact absurd (by rw [z]) (g _ hr)
                      · exact absurd z d'
                · refine e6.kp r _ b' fun z => ?_
                  rcases own5' r z with z | z
                  · exact absurd (by rw [z]) (g _ hr)
                  · exact absurd z d'
                · rcases e6.ow r (own6 r z) with z | z
                  · rcases own5' r z with z | z
                    · exact absurd (by rw [z]) (g _ hr)
                    · exact absurd z d'
                  · rw [b'] at z; cases z
                · refine e6.kp q _ hqX fun z => ?_
                  rcases own5' q z with z | z
                  · exact pq z
                  · exact nqX z
                · rcases e6.ow q (own6 q z) with z | z
                  · rcases own5' q z with z | z
                    · exact pq z
                    · exact nqX z
                  · rw [hqX] at z; cases z
            · exact .inl ⟨⟨vs, .inl (.inl hqX), by omega⟩, FE, ρE, RX, PostS.from P eX⟩
      · rw [if_neg hcond] at P; exact P.elim
end
section
variable {ρ : Rho} {i j : Nat} {fz : List Nat} {ms : List (Rho → Rz Rv)} {t : Rho → Rz Bool} {Q : Fl → Rho → Prop}
def kOw (f : List PD → Rho → Prop) : Rv → Rho → Prop := fun r ρ => match r with
  | .ow ds => f ds ρ
  | .fr _ => False
@[simp ↓] theorem kOw_ow {f : List PD → Rho → Prop} {ds : List PD} {ρ : Rho} : kOw f (.ow ds) ρ ↔ f ds ρ := Iff.rfl
@[simp] theorem w_nestNil {Q : List (List PD) → Rho → Prop} : Wp (nestR [] ρ) Q ↔ Q [] ρ := wp_ok
@[simp] theorem w_nestCons {m : Rho → Rz Rv} {Q : List (List PD) → Rho → Prop} : Wp (nestR (m :: ms) ρ) Q ↔ Wp (m ρ) (kOw (lz fun ds ρ1 => Wp (nestR ms ρ1) (lz fun dss ρ2 => Q (ds :: dss) ρ2))) := by
  rw [show nestR (m :: ms) ρ = (m ρ).bind fun r ρ1 => match r with
    | .ow ds => (nestR ms ρ1).bind fun dss ρ2 => Rz.ok (ds :: dss) ρ2
    | .fr _ => .stuck from rfl, wp_bind]
  refine Wp.congr fun r ρ1 => ?_
  cases r with
  | fr d => simp [kOw]
  | ow ds =>
    show Wp ((nestR ms ρ1).bind fun dss ρ2 => .ok (ds :: dss) ρ2) Q ↔ Wp (nestR ms ρ1) _
    rw [wp_bind]
    exact Wp.congr fun dss ρ2 => wp_ok
@[simp] theorem w_nest : Wp (mNest i j fz ms t ρ) Q ↔ Wp (nestR ms (frzR fz ρ)) (lz fun dss ρ1 => (i < ρ1.length ∧ j < ρ1.length ∧ dss.length ≤ 1000 ∧ (dss.all fun ds => okLen (ds.length + 1)) = true) ∧
    Wp (t (ρ1.set i (.fr (.list (dss.map .list))))) (lz fun b ρ2 => if b = true then Q (.rt (.fr (.bool false))) ρ2 else Q .nx (((joinR ρ1 ρ2).set i .no).set j .no))) := by
  unfold mNest
  rw [wp_bind]
  refine Wp.congr fun dss ρ1 => ?_
  simp only [lz_any]
  unfold nestE
  by_cases h : i < ρ1.length ∧ j < ρ1.length ∧ dss.length ≤ 1000 ∧ (dss.all fun ds => okLen (ds.length + 1)) = true
  · rw [if_pos h, wp_bind]
    simp only [h, true_and, and_true]
    refine Wp.congr fun b ρ2 => ?_
    simp only [lz_any]
    cases b
    · simp
    · simp
  · rw [if_neg h]
    simp only [wp_stuck, false_iff]
    exact fun z => h z.1
end
end Sd
namespace Sd
open PySem L2 PySem.Spec PyProof.Rows
/-! ### texts -/
def mMs (g : Str → PD → Option Rv) (mo me : Rho → Rz Rv) : Rho → Rz Rv := fun ρ => (mo ρ).bind fun a ρ1 => match a.d with
  | .str z => (me ρ1).bind fun b ρ2 => (match g z b.d with
    | some r => .ok r ρ2
    | none => .stuck)
  | _ => .stuck
section
variable {X : Cx} {S : Sx} {k : Nat} {a b o e : Expr} {mo me ma mb : Rho → Rz Rv} {pos apos p : Pos} {m : Rho → Rz (List PD)}
def SimM (S : Sx) (r : V → List V → Hp → VK → Prop) (g : Str → PD → Option Rv) : Prop := ∀ (F : Hp) (ρ : Rho) (σ : L2.St) (H : Hp) (w : V) (b : PD) (z : Str) (y : Rv) (Q : VK), Rs S F ρ σ H → Rp S.K F w b → g z b = some y →
  (∀ F' H' v, Ext (Own ρ σ) F H (Own ρ σ) F' H' → Rs S F' ρ σ H' → RvR S (Own ρ σ) H (Own ρ σ) F' H' v y → Q v H') → r (.str z) [w] H Q
theorem xe_ms {r : V → List V → Hp → VK → Prop} {g : Str → PD → Option Rv} {E : Expr} (hp : PE X E (tM1 r (tE S mo) (tE S me))) (hs : SimM S r g) : XE X S E (mMs g mo me) := PE.imp hp fun σ H Q q => by
  obtain ⟨F, ρ, R, P⟩ := q
  refine tE.use (β := Rv) (g := fun d ρ1 => match d with
    | .str z => (me ρ1).bind fun b ρ2 => (match g z b.d with
      | some r => .ok r ρ2
      | none => .stuck)
    | _ => .stuck) R P fun v d F1 ρ1 H1 e1 R1 D1 P1 => ?_
  cases D1 with
  | str z =>
    refine ⟨⟨z, rfl⟩, tE.use (β := Rv) (g := fun b ρ2 => match g z b with
      | some r => .ok r ρ2
      | none => .stuck) R1 P1 fun w b F2 ρ2 H2 e2 R2 D2 P2 => ?_⟩
    cases hg : g z b with
    | none => rw [hg] at P2; exact P2.elim
    | some y =>
      rw [hg] at P2
      exact hs F2 ρ2 σ H2 w b z y Q R2 D2 hg fun F' H' v e' R' hv => P2 F' H' e' R' v (hv.mono (e1.trans e2))
  | _ => exact P1.elim
theorem rpa_strs {K : PySem.W.Frag} {F : Hp} : ∀ ys : List Str, RpAll K F (ys.map V.str) (ys.map PyData.str)
  | [] => .nil
  | y :: ys => .cons (.str y) (rpa_strs ys)
def gSplit (a : Str) : PD → Option Rv
  | .str b => if (b.length == 0) = false ∧ a.length ≤ 1000000 then some (.ow ((Txt.split a b).map .str)) else none
  | _ => none
theorem xe_split (ho : XE X S o mo) (he : XE X S e me) (hs : starEach [e] X.env = [(false, eval e X.env)] := by rfl) (hbase : attributeBase o "split" X.env (eval o X.env) = eval o X.env := by rfl) (hline : (apos.endLine == pos.line) = true := by rfl) :
    XE X S (.Call (.Attribute o "split" apos) [e] [] pos) (mMs gSplit mo me) := xe_ms (pe_split ho he hs hbase hline) fun F ρ σ H w b z y Q R D hg q => by
  unfold gSplit at hg
  split at hg
  · split at hg
    · rename_i c
      cases hg
      cases D
      exact ⟨z, _, rfl, rfl, c.1, Nat.le_trans (Nat.add_le_add_right c.2 2) (by decide), fun l hl => Rs.newL R hl (rpa_strs _) q⟩
    · cases hg
  · cases hg
def gPartition (a : Str) : PD → Option Rv
  | .str b => if (b.length == 0) = false ∧ a.length ≤ 1000000 then some (.fr (.tuple [.str (Txt.partition a b).1, .str (Txt.partition a b).2.1, .str (Txt.partition a b).2.2])) else none
  | _ => none
theorem xe_partition (ho : XE X S o mo) (he : XE X S e me) (hs : starEach [e] X.env = [(false, eval e X.env)] := by rfl) (hbase : attributeBase o "partition" X.env (eval o X.env) = eval o X.env := by rfl) (hline : (apos.endLine == pos.line) = true := by rfl) :
    XE X S (.Call (.Attribute o "partition" apos) [e] [] pos) (mMs gPartition mo me) := xe_ms (pe_partition ho he hs hbase hline) fun F ρ σ H w b z y Q R D hg q => by
  unfold gPartition at hg
  split at hg
  · split at hg
    · rename_i c
      cases hg
      cases D
      exact ⟨z, _, rfl, rfl, c.1, Nat.le_trans c.2 (by decide), fun l hl => Rs.newT R hl (.cons (.str _) (.cons (.str _) (.cons (.str _) .nil))) fun F' H' v e' R' hv => q F' H' v e' R' hv⟩
    · cases hg
  · cases hg
def strs? : List PD → Option (List Str)
  | [] => some []
  | .str i :: r => (strs? r).map (i :: ·)
  | _ => none
theorem strs?_map : ∀ ns : List Str, strs? (ns.map PyData.str) = some ns
  | [] => rfl
  | n :: ns => by simp only [List.map_cons, strs?, strs?_map ns, Option.map_some]
theorem strs?_eq : ∀ {ds : List PD} {ns : List Str}, strs? ds = some ns → ds = ns.map PyData.str
  | [], ns, h => by simp [strs?] at h; subst h; rfl
  | .str i :: r, ns, h => by
    simp only [strs?] at h
    cases q : strs? r with
    | none => rw [q] at h; cases h
    | some ms =>
      rw [q] at h
      cases h
      rw [strs?_eq q]; rfl
  | .none :: _, _, h => by simp [strs?] at h
  | .bool _ :: _, _, h => by simp [strs?] at h
  | .int _ :: _, _, h => by simp [strs?] at h
  | .list _ :: _, _, h => by simp [strs?] at h
  | .tuple _ :: _, _, h => by simp [strs?] at h
  | .dict _ :: _, _, h => by simp [strs?] at h
def gJoin (a : Str) : PD → Option Rv
  | .list ds => (strs? ds).bind fun ys => if (ys.map (·.length)).sum + ys.length * a.length ≤ 16777216 then some (.fr (.str (Txt.join a ys))) else none
  | _ => none
theorem xe_join (hK : S.K = X.K) (ho : XE X S o mo) (he : XE X S e me) (hs : starEach [e] X.env = [(false, eval e X.env)] := by rfl) (hbase : attributeBase o "join" X.env (eval o X.env) = eval o X.env := by rfl) (hline : (apos.endLine == pos.line) = true := by rfl) :
    XE X S (.Call (.Attribute o "join" apos) [e] [] pos) (mMs gJoin mo me) := xe_ms (pe_join ho he hs hbase hline) fun F ρ σ H w b z y Q R D hg q => by
  unfold gJoin at hg
  split at hg
  · rename_i ds
    cases c : strs? ds with
    | none => rw [c] at hg; cases hg
    | some ys =>
      rw [c] at hg
      have hg : (if (ys.map (·.length)).sum + ys.length * z.length ≤ 16777216 then some (Rv.fr (.str (Txt.join z ys))) else none) = some y := hg
      split at hg
      · rename_i hz
        cases hg
        obtain rfl := strs?_eq c
        cases D with
        | lst h1 h2 =>
          have e := h2.strs
          subst e
          exact ⟨z, _, ys, rfl, rfl, .inl (.inl (.inl (R.ex _ _ h1))), hz, q F H _ Ext.refl R (.str _)⟩
      · cases hg
  · cases hg
/-! x in y, of texts -/
def gInS : PD → PD → Option PD
  | .str i, .str j => some (.bool (!(Builtin.Str.occurrences j i 0 j.length 1).isEmpty))
  | _, _ => none
abbrev qInS : PD → PD → Option Rv := fun x y => (gInS x y).map .fr
theorem sim_inS : Sim2 X S (fun x y H Q => ∃ i j, x = .str i ∧ y = .str j ∧ Q (.bl (!(Builtin.Str.occurrences j i 0 j.length 1).isEmpty)) H) qInS := Sim2.pure fun F H x y dx dy z up hx hy h => by
  unfold gInS at h
  split at h
  · cases h
    cases hx
    cases hy
    exact ⟨.bl _, .bl _, fun Q q => ⟨_, _, rfl, rfl, q⟩⟩
  · cases h
theorem xe_inS (o : Okx X S k) (ha : XE X S a ma) (hb : XE X S b mb) (hm : behindInMarks .In b = false := by first | exact nomark _ | with_unfolding_all rfl) : XE X S (.Compare a [.In] [b] pos) (mOp2 qInS ma mb) := xe_cmp op_in_str sim_inS ha hb hm
theorem xt_inS (o : Okx X S k) (ha : XE X S a ma) (hb : XE X S b mb) (hm : behindInMarks .In b = false := by first | exact nomark _ | with_unfolding_all rfl) : XT X S (.Compare a [.In] [b] pos) (mB (mOp2 qInS ma mb)) := xt_cmp op_in_str sim_inS ha hb hm
/-! all(bools) -/
def bools? : List PD → Option (List Bool)
  | [] => some []
  | .bool i :: r => (bools? r).map (i :: ·)
  | _ => none
theorem bools?_map : ∀ ns : List Bool, bools? (ns.map PyData.bool) = some ns
  | [] => rfl
  | n :: ns => by simp only [List.map_cons, bools?, bools?_map ns, Option.map_some]
theorem bools?_eq : ∀ {ds : List PD} {ns : List Bool}, bools? ds = some ns → ds = ns.map PyData.bool
  | [], ns, h => by simp [bools?] at h; subst h; rfl
  | .bool i :: r, ns, h => by
    simp only [bools?] at h
    cases q : bools? r with
    | none => rw [q] at h; cases h
    | some ms =>
      rw [q] at h
      cases h
      rw [bools?_eq q]; rfl
  | .none :: _, _, h => by simp [bools?] at h
  | .str _ :: _, _, h => by simp [bools?] at h
  | .int _ :: _, _, h => by simp [bools?] at h
  | .list _ :: _, _, h => by simp [bools?] at h
  | .tuple _ :: _, _, h => by simp [bools?] at h
  | .dict _ :: _, _, h => by simp [bools?] at h
def gAll : PD → Option PD
  | .list ds => (bools? ds).map fun bs => .bool (bs.all id)
  | _ => none
theorem sim_all (hK : S.K = X.K) : SimC X S (rAll X.K) fun ds => (g1 gAll ds).map .fr := SimC.pure1 fun F H v d z up hd hz => by
  cases hd with
  | @lst a xs ds h1 h2 =>
    have hz : (bools? ds).map (fun bs => PyData.bool (bs.all id)) = some z := hz
    cases q : bools? ds with
    | none => rw [q] at hz; cases hz
    | some ns =>
      rw [q] at hz
      cases hz
      obtain rfl := bools?_eq q
      have e := h2.bools
      subst e
      exact ⟨_, .bl _, fun Q q => ⟨_, ns, rfl, .inl (.inl (up _ _ h1)), q⟩⟩
  | _ => cases hz
abbrev cAll : List PD → Option Rv := fun ds => (g1 gAll ds).map .fr
theorem xe_all (o : Okx X S k) (hm : S.mg "all" = none) (ha : XA X S [e] m) (hg : Gl X "all" := by rfl) (he : starEach [e] X.env = [(false, eval e X.env)] := by rfl) : XE X S (.Call (.Name "all" p) [e] [] pos) (mCB cAll m) :=
  xe_cb o (cr_all o.calm) (sim_all o.hK) hm ha hg (by decide +kernel) (by decide) (by decide) he (by rfl)
/-! int(text), str(int) -/
def gIntS : PD → Option PD
  | .str a => if a.length ≤ 640 then (PySem.intText? a).map .int else none
  | _ => none
abbrev cIntS : List PD → Option Rv := fun ds => (g1 gIntS ds).map .fr
theorem sim_intS : SimC X S (fun xs H Q => ∃ a n, xs = [.str a] ∧ PySem.intText? a = some n ∧ a.length ≤ 640 ∧ Q (.int n) H) cIntS := SimC.pure1 fun F H v d z up hd hz => by
  cases hd with
  | str a =>
    have hz : (if a.length ≤ 640 then (PySem.intText? a).map PyData.int else none) = some z := hz
    split at hz
    · rename_i c
      cases q : PySem.intText? a with
      | none => rw [q] at hz; cases hz
      | some n =>
        rw [q] at hz
        cases hz
        exact ⟨_, .int n, fun Q q' => ⟨a, n, rfl, q, c, q'⟩⟩
    · cases hz
  | _ => cases hz
theorem xe_intS (o : Okx X S k) (hm : S.mg "int" = none) (ha : XA X S [e] m) (hg : Gl X "int" := by rfl) (he : starEach [e] X.env = [(false, eval e X.env)] := by rfl) : XE X S (.Call (.Name "int" p) [e] [] pos) (mCB cIntS m) :=
  xe_ct o call_int_str sim_intS hm ha hg (by decide +kernel) (by decide) (by decide) he (by rfl)
def gStr : PD → Option PD
  | .int i => if i.natAbs.log2 < 1920 then some (.str (toString i)) else none
  | _ => none
abbrev cStr : List PD → Option Rv := fun ds => (g1 gStr ds).map .fr
theorem sim_str : SimC X S (fun xs H Q => ∃ i : Int, xs = [.int i] ∧ i.natAbs.log2 < 1920 ∧ Q (.str (toString i)) H) cStr := SimC.pure1 fun F H v d z up hd hz => by
  cases hd with
  | int i =>
    have hz : (if i.natAbs.log2 < 1920 then some (PyData.str (toString i)) else none) = some z := hz
    split at hz
    · rename_i c
      cases hz
      exact ⟨_, .str _, fun Q q => ⟨i, rfl, c, q⟩⟩
    · cases hz
  | _ => cases hz
theorem xe_str1 (o : Okx X S k) (hm : S.mg "str" = none) (ha : XA X S [e] m) (hg : Gl X "str" := by rfl) (he : starEach [e] X.env = [(false, eval e X.env)] := by rfl) : XE X S (.Call (.Name "str" p) [e] [] pos) (mCB cStr m) :=
  xe_ct o call_str_int sim_str hm ha hg (by decide +kernel) (by decide) (by decide) he (by rfl)
/-! text * int -/
def gMulS : PD → PD → Option PD
  | .str x, .int n => if 0 ≤ n ∧ n ≤ 1000 ∧ x.length ≤ 1000 then some (.str (Txt.mul x n)) else none
  | _, _ => none
abbrev qMulS : PD → PD → Option Rv := fun x y => (gMulS x y).map .fr
theorem mulOk_small {x : Str} {n : Int} (h0 : 0 ≤ n) (h1 : n ≤ 1000) (h2 : x.length ≤ 1000) : MulOk x n := by
  (obtain ⟨m, rfl⟩ := Int.eq_ofNat_of_zero_le h0)
  have hp : x.length * m ≤ 1000 * 1000 := Nat.mul_le_mul h2 (by omega)
  refine ⟨?_, fun a _ z => ?_, fun _ _ => ?_⟩
  · have a1 : ¬ ((m : Int) < -(2 ^ 63)) := by omega
    have a2 : ¬ ((m : Int) ≥ 2 ^ 63) := by omega
    simp only [decide_eq_false a1, decide_eq_false a2, Bool.or_self]
  · have : (x.length : Int) ≤ (2 ^ 63 - 1) / (m : Int) := by
      refine Int.le_ediv_of_mul_le (by omega) ?_
      have : (x.length : Int) * (m : Int) = ((x.length * m : Nat) : Int) := by simp
      omega
    omega
  · rw [Int.toNat_natCast]
    unfold Builtin.Str.tooLong
    refine decide_eq_false ?_
    rw [sizeLine_eq]
    omega
theorem op_mulS : OpR X (binaryOp .Mult) (fun x y H Q => ∃ i n, x = .str i ∧ y = .int n ∧ (0 ≤ n ∧ n ≤ 1000 ∧ i.length ≤ 1000) ∧ Q (.str (Txt.mul i n)) H) := by
  intro pn s σ H x y v u Q I rx ry h
  obtain ⟨i, n, rfl, rfl, hc, q⟩ := h
  obtain ⟨t, rfl⟩ := rx
  obtain ⟨t', rfl⟩ := ry
  exact SB.mul (mulOk_small hc.1 hc.2.1 hc.2.2) fun t' k => ⟨.str _, H, I.tok _, ⟨_, rfl⟩, q⟩
theorem sim_mulS : Sim2 X S (fun x y H Q => ∃ i n, x = .str i ∧ y = .int n ∧ (0 ≤ n ∧ n ≤ 1000 ∧ i.length ≤ 1000) ∧ Q (.str (Txt.mul i n)) H) qMulS := Sim2.pure fun F H x y dx dy z up hx hy h => by
  unfold gMulS at h
  split at h
  · split at h
    · rename_i c
      cases h
      cases hx
      cases hy
      exact ⟨.str _, .str _, fun Q q => ⟨_, _, rfl, rfl, c, q⟩⟩
    · cases h
  · cases h
theorem xe_mulS (ha : XE X S a ma) (hb : XE X S b mb) : XE X S (.BinOp a .Mult b pos) (mOp2 qMulS ma mb) := xe_op op_mulS sim_mulS ha hb
/-- what is never walked -/
theorem xss_never {sts : List Stmt} : XSs X S sts (fun _ => .stuck) := ⟨fun pn s σ H D I q => by
  obtain ⟨F, ρ, R, P⟩ := q
  exact P.elim⟩
end
end Sd
namespace Sd
open PySem L2 PySem.Spec PyProof.Rows
/-! ### what data with texts of digits, signs, blanks shows as -/
def tcs : List Nat := [32, 45, 61, 48, 49, 50, 51, 52, 53, 54, 55, 56, 57]
def plT (x : Str) : Bool := (x.cps.toList.all fun c => tcs.elem c) && decide (x.length ≤ 100000)
def okc (c : Nat) : Bool := PyData.strOk ⟨#[c]⟩
theorem strOk_all (x : Str) : PyData.strOk x = x.cps.toList.all okc := by
  unfold okc PyData.strOk
  rw [← Array.all_toList]
  congr 1
  funext c
  simp
theorem rc_ok : ∀ q ∈ [39, 34], ∀ c ∈ tcs, (Builtin.Str.reprChar q c).all okc = true := by decide +kernel
theorem fold_ok {q : Nat} : ∀ (l : List Nat) (acc : Array Nat), (∀ c ∈ l, (Builtin.Str.reprChar q c).all okc = true) → acc.toList.all okc = true → (l.foldl (fun out c => out ++ (Builtin.Str.reprChar q c).toArray) acc).toList.all okc = true
  | [], acc, _, h => h
  | c :: l, acc, hl, h => by
    rw [List.foldl_cons]
    refine fold_ok l _ (fun c hc => hl c (List.mem_cons_of_mem _ hc)) ?_
    simp only [Array.toList_append, List.all_append, h, hl c (List.mem_cons_self ..), Bool.and_self]
theorem plT.at {x : Str} (h : plT x = true) : (∀ c ∈ x.cps.toList, c ∈ tcs) ∧ x.length ≤ 100000 := by
  unfold plT at h
  (simp only [Bool.and_eq_true, List.all_eq_true, decide_eq_true_eq] at h)
  exact ⟨fun c hc => List.elem_iff.mp (h.1 c hc), h.2⟩
theorem sok_repr {x : Str} (h : plT x = true) : SOk (reprText x) := by
  have hq : reprQuote x ∈ [39, 34] := by
    unfold reprQuote
    split <;> simp
  unfold SOk
  rw [strOk_all]
  unfold reprText
  simp only [Array.toList_push, List.all_append, List.all_cons, List.all_nil, Bool.and_true, Bool.and_eq_true]
  have oq : okc (reprQuote x) = true := by
    (rcases List.mem_cons.mp hq with e | e)
    · rw [e]; decide +kernel
    · rw [List.mem_singleton.mp e]; decide +kernel
  refine ⟨?_, oq⟩
  rw [← Array.foldl_toList]
  exact fold_ok _ _ (fun c hc => rc_ok _ hq c ((plT.at h).1 c hc)) (by simpa using oq)
theorem len_repr {x : Str} (h : plT x = true) : (reprText x).length ≤ 1000002 := by
  have a := StrLaws.reprText_len x fun c hc => by
    have h1 := (plT.at h).1 c hc
    have h2 : ∀ c ∈ tcs, c < 16 ^ 8 := by decide
    exact h2 c h1
  have := (plT.at h).2
  omega
mutual
def shT : PD → Bool
  | .int i => decide (i.natAbs < 10 ^ 200)
  | .str x => plT x
  | .dict (_ :: _) => false
  | .list ds => shTs ds
  | .tuple ds => shTs ds
  | _ => true
def shTs : List PD → Bool
  | [] => true
  | d :: ds => shT d && shTs ds
end
mutual
def costT : PD → Nat
  | .list ds => costTs ds + 3
  | .tuple ds => costTs ds + 3
  | .str _ => 1000002
  | _ => 202
def costTs : List PD → Nat
  | [] => 0
  | d :: ds => costT d + 2 + costTs ds
end
mutual
theorem shownT_len : ∀ d : PD, shT d = true → d.shown.length ≤ costT d
  | .none, _ => by simp only [PyData.shown, costT]; decide
  | .bool b, _ => by simp only [PyData.shown, costT]; cases b <;> decide
  | .int i, h => by
    simp only [PyData.shown, costT, shT] at h ⊢
    have := int_text_length_le10 (k := 200) (by decide) (of_decide_eq_true h)
    rw [PySem.ofString_length]
    omega
  | .str x, h => by
    simp only [PyData.shown, costT, shT] at h ⊢
    exact len_repr h
  | .dict [], _ => by simp only [PyData.shown, costT]; decide
  | .dict (_ :: _), h => by simp [shT] at h
  | .list ds, h => by
    simp only [PyData.shown, costT, shT] at h ⊢
    have a := listText_len (PyData.shownAll ds)
    have b := shownTAll_len ds h
    omega
  | .tuple ds, h => by
    simp only [PyData.shown, costT, shT] at h ⊢
    have a := tupleText_len (PyData.shownAll ds)
    have b := shownTAll_len ds h
    omega
theorem shownTAll_len : ∀ ds : List PD, shTs ds = true → PySem.piled (PyData.shownAll ds) ≤ costTs ds
  | [], _ => by simp [PyData.shownAll, costTs, PySem.piled]
  | d :: ds, h => by
    simp only [shTs, Bool.and_eq_true] at h
    simp only [PyData.shownAll, costTs]
    rw [PySem.piled_cons]
    have a := shownT_len d h.1
    have b := shownTAll_len ds h.2
    omega
end
mutual
theorem shT_showable : ∀ d : PD, shT d = true → d.showable = true ∧ okDct d = true
  | .none, _ => by simp [PyData.showable, okDct]
  | .bool b, _ => by simp [PyData.showable, okDct]
  | .int i, h => by
    simp only [PyData.showable, shT] at h ⊢
    exact ⟨decide_eq_true (log_200 (of_decide_eq_true h)), rfl⟩
  | .str x, h => by simp [PyData.showable, okDct]
  | .dict [], _ => by simp [PyData.showable, PyData.showableKv, okDct]
  | .dict (_ :: _), h => by simp [shT] at h
  | .list ds, h => by
    simp only [PyData.showable, okDct, shT] at h ⊢
    exact shTs_showable ds h
  | .tuple ds, h => by
    simp only [PyData.showable, okDct, shT] at h ⊢
    exact shTs_showable ds h
theorem shTs_showable : ∀ ds : List PD, shTs ds = true → PyData.showableAll ds = true ∧ okDcts ds = true
  | [], _ => by simp [PyData.showableAll, okDcts]
  | d :: ds, h => by
    simp only [shTs, Bool.and_eq_true] at h
    have a := shT_showable d h.1
    have b := shTs_showable ds h.2
    simp [PyData.showableAll, okDcts, a, b]
end
theorem gReprT {d : PD} (h : shT d = true) (hc : costT d ≤ 10000000) (hd : d.depth ≤ 50) : gRepr d = some (.str d.shown) := by
  have a := shT_showable d h
  have b := shownT_len d h
  unfold gRepr okShow
  rw [a.1, a.2, decide_eq_true (show d.shown.length ≤ 10000000 by omega), decide_eq_true hd]
  rfl
mutual
theorem sokT : ∀ d : PD, shT d = true → SOk d.shown
  | .none, _ => by simp only [PyData.shown]; exact sok_of _
  | .bool b, _ => by simp only [PyData.shown]; cases b <;> exact sok_of _
  | .int i, h => by simp only [PyData.shown]; exact sok_of _
  | .str x, h => by
    simp only [PyData.shown, shT] at h ⊢
    exact sok_repr h
  | .dict [], _ => by
    simp only [PyData.shown]
    have e : PyData.shownKv [] = [] := by simp only [PyData.shownKv]
    rw [e]
    exact (sok_of "{}")
  | .dict (_ :: _), h => by simp [shT] at h
  | .list ds, h => by
    simp only [PyData.shown, shT] at h ⊢
    exact sok_app (sok_text _ 0 _ (sok_of _) (sokTAll ds h)) (sok_of _)
  | .tuple ds, h => by
    simp only [PyData.shown, shT] at h ⊢
    refine sok_app (sok_app (sok_of _) (sok_join _ (sokTAll ds h))) ?_
    split <;> exact sok_of _
theorem sokTAll : ∀ ds : List PD, shTs ds = true → ∀ t ∈ PyData.shownAll ds, SOk t
  | [], _, t, ht => by simp [PyData.shownAll] at ht
  | d :: ds, h, t, ht => by
    simp only [shTs, Bool.and_eq_true] at h
    simp only [PyData.shownAll, List.mem_cons] at ht
    rcases ht with rfl | ht
    · exact sokT d h.1
    · exact sokTAll ds h.2 t ht
end
/-! ### the rules -/
def kMs (g : Str → PD → Option Rv) (me : Rho → Rz Rv) (Q : Rv → Rho → Prop) : Rv → Rho → Prop := fun a ρ1 => match a.d with
  | .str z => Wp (me ρ1) (lz fun b ρ2 => WpO (g z b.d) (kA Q ρ2))
  | _ => False
@[simp ↓] theorem kMs_str {g : Str → PD → Option Rv} {me : Rho → Rz Rv} {Q : Rv → Rho → Prop} {z : Str} {ρ : Rho} : kMs g me Q (.fr (.str z)) ρ ↔ Wp (me ρ) (lz fun b ρ2 => WpO (g z b.d) (kA Q ρ2)) := Iff.rfl
@[simp] theorem w_ms {g : Str → PD → Option Rv} {mo me : Rho → Rz Rv} {Q : Rv → Rho → Prop} {c : Cl} {ρ : Rho} : Wp (mMs g mo me (c :: ρ)) Q ↔ Wp (mo (c :: ρ)) (kMs g me Q) := by
  unfold mMs
  rw [wp_bind]
  refine Wp.congr fun a ρ1 => ?_
  unfold kMs
  cases a.d with
  | str z =>
    simp only
    rw [wp_bind]
    refine Wp.congr fun b ρ2 => ?_
    simp only [lz_any]
    cases g z b.d with
    | none => simp
    | some r => simp
  | _ => simp
end Sd
namespace Sd
open PySem L2 PySem.Spec PyProof.Rows
/-! ### [e for x in xs for y in ys] -/
def lcR2 (turn : PD → List PD → Rho → Rz (List PD)) : List PD → List PD → Rho → Rz (List PD)
  | [], acc, ρ => .ok acc ρ
  | d :: ds, acc, ρ => (turn d acc ρ).bind fun acc1 ρ1 => lcR2 turn ds acc1 ρ1
def turnO (g : PD → Rho → Option Rho) (mi1 : Rho → Rz (List PD)) (g1 : PD → Rho → Option Rho) (mt1 : Rho → Rz Bool) (me : Rho → Rz Rv) (vs vs1 : List Nat) : PD → List PD → Rho → Rz (List PD) := fun d acc ρ => match g d ρ with
  | none => .stuck
  | some ρ1 => (mi1 ρ1).bind fun ds ρ2 => (lcR (turnL g1 mt1 me vs1) ds acc (wipeR ρ2 vs1)).bind fun acc1 ρ3 => .ok acc1 (wipeR ρ3 vs)
def mLc2 (mi : Rho → Rz (List PD)) (g : PD → Rho → Option Rho) (mi1 : Rho → Rz (List PD)) (g1 : PD → Rho → Option Rho) (mt1 : Rho → Rz Bool) (me : Rho → Rz Rv) (vs vs1 : List Nat) : Rho → Rz Rv := fun ρ => (mi ρ).bind fun ds ρ1 =>
  (lcR2 (turnO g mi1 g1 mt1 me vs vs1) ds [] (wipeR ρ1 vs)).calm.bind fun acc ρ2 => if okLen acc.length = true then .ok (.ow acc) (backR ρ1 ρ2 vs) else .stuck
theorem lcR_mono {turn : PD → Rho → Rz (Option PD)} : ∀ {ds acc accF : List PD} {ρ ρF : Rho}, lcR turn ds acc ρ = .ok accF ρF → acc.length ≤ accF.length
  | [], acc, accF, ρ, ρF, h => by
    have h : Rz.ok acc ρ = .ok accF ρF := h
    cases h
    exact Nat.le_refl _
  | d :: ds, acc, accF, ρ, ρF, h => by
    obtain ⟨o, ρ1, _, h2⟩ := lcR_cons h
    have := lcR_mono h2
    rw [List.length_append] at this
    omega
theorem turnO_ok {g : PD → Rho → Option Rho} {mi1 : Rho → Rz (List PD)} {g1 : PD → Rho → Option Rho} {mt1 : Rho → Rz Bool} {me : Rho → Rz Rv} {vs vs1 : List Nat} {d : PD} {acc acc1 : List PD} {ρ ρ' : Rho} (h : turnO g mi1 g1 mt1 me vs vs1 d acc ρ = .ok acc1 ρ') :
    ∃ ρa ds ρb ρc, g d ρ = some ρa ∧ mi1 ρa = .ok ds ρb ∧ lcR (turnL g1 mt1 me vs1) ds acc (wipeR ρb vs1) = .ok acc1 ρc ∧ ρ' = wipeR ρc vs := by
  unfold turnO at h
  cases h1 : g d ρ with
  | none => (rw [h1] at h; cases h)
  | some ρa =>
    rw [h1] at h
    have h : ((mi1 ρa).bind fun ds ρ2 => (lcR (turnL g1 mt1 me vs1) ds acc (wipeR ρ2 vs1)).bind fun acc1 ρ3 => Rz.ok acc1 (wipeR ρ3 vs)) = .ok acc1 ρ' := h
    cases h2 : mi1 ρa with
    | exc c f ρ' => rw [h2] at h; cases h
    | stuck => rw [h2] at h; cases h
    | ok ds ρb =>
      rw [h2] at h
      have h : ((lcR (turnL g1 mt1 me vs1) ds acc (wipeR ρb vs1)).bind fun acc1 ρ3 => Rz.ok acc1 (wipeR ρ3 vs)) = .ok acc1 ρ' := h
      cases h3 : lcR (turnL g1 mt1 me vs1) ds acc (wipeR ρb vs1) with
      | exc c f ρ' => rw [h3] at h; cases h
      | stuck => rw [h3] at h; cases h
      | ok a ρc =>
        rw [h3] at h
        cases h
        exact ⟨ρa, ds, ρb, ρc, rfl, h2, h3, rfl⟩
theorem lcR2_mono {g : PD → Rho → Option Rho} {mi1 : Rho → Rz (List PD)} {g1 : PD → Rho → Option Rho} {mt1 : Rho → Rz Bool} {me : Rho → Rz Rv} {vs vs1 : List Nat} : ∀ {ds acc accF : List PD} {ρ ρF : Rho}, lcR2 (turnO g mi1 g1 mt1 me vs vs1) ds acc ρ = .ok accF ρF → acc.length ≤ accF.length
  | [], acc, accF, ρ, ρF, h => by
    have h : Rz.ok acc ρ = .ok accF ρF := h
    cases h
    exact Nat.le_refl _
  | d :: ds, acc, accF, ρ, ρF, h => by
    have h : (turnO g mi1 g1 mt1 me vs vs1 d acc ρ).bind (fun acc1 ρ1 => lcR2 (turnO g mi1 g1 mt1 me vs vs1) ds acc1 ρ1) = .ok accF ρF := h
    cases q : turnO g mi1 g1 mt1 me vs vs1 d acc ρ with
    | exc c f ρ' => rw [q] at h; cases h
    | stuck => rw [q] at h; cases h
    | ok a ρ1 =>
      rw [q] at h
      obtain ⟨_, _, _, _, _, _, h3, _⟩ := turnO_ok q
      exact Nat.le_trans (lcR_mono h3) (lcR2_mono (show lcR2 (turnO g mi1 g1 mt1 me vs vs1) ds a ρ1 = .ok accF ρF from h))
theorem wipe_sub {σ : L2.St} {vs vs1 : List Nat} (h : ∀ v ∈ vs1, v ∈ vs) : L2.wipe (L2.wipe σ vs1) vs = L2.wipe σ vs := gRel.wipe (is := vs1) ⟨by rw [wipe_length], fun i hi => wipe_out hi⟩ h
section
variable {X : Cx} {S : Sx} {k : Nat} {g g1 : PD → Rho → Option Rho} {mi mi1 : Rho → Rz (List PD)} {mt1 : Rho → Rz Bool} {me : Rho → Rz Rv} {vs vs1 is is1 : List Nat}
theorem lc2_sound (his : ∀ i ∈ is, i ∈ vs) (his1 : ∀ i ∈ is1, i ∈ vs1) (hsub : ∀ v ∈ vs1, v ∈ vs) (hJ : ∀ v ∈ vs, v ∉ S.J) {σ : L2.St} {H : Hp} {Q : VK} (q : tE S (mLc2 mi g mi1 g1 mt1 me vs vs1) σ H Q) :
    tLc2 (tI S mi) (tG S.quiet is g) (tT S.quiet mYes) (tI S.quiet mi1) (tG S.quiet is1 g1) (tT S.quiet mt1) (tE S.quiet me) vs vs1 σ H Q := by
  have hJ1 : ∀ v ∈ vs1, v ∉ S.J := fun v hv => hJ v (hsub v hv)
  obtain ⟨F, ρ, R, P⟩ := q
  refine ⟨F, ρ, R, PostE.mono (PostE.bind P) fun F1 ρ1 H1 ds e1 R1 P1 J w D hD => ?_⟩
  have P2 := P1 F1 e1
  cases hl : lcR2 (turnO g mi1 g1 mt1 me vs vs1) ds [] (wipeR ρ1 vs) with
  | exc c f ρ' => rw [hl] at P2; exact P2.elim
  | stuck => rw [hl] at P2; exact P2.elim
  | ok accF ρF =>
    rw [hl] at P2
    have P2 : PostE S σ F1 ρ1 H1 (if okLen accF.length = true then Rz.ok (.ow accF) (backR ρ1 ρF vs) else .stuck) fun F' ρ' H' r => ∀ v, RvR S (Own ρ σ) H (Own ρ' σ) F' H' v r → Q v H' := P2
    by_cases c : okLen accF.length = true
    · rw [if_pos c] at P2
      have size : accF.length ≤ 1000000 := of_decide_eq_true c
      have small : ∀ n, n ≤ accF.length → n < sizeLine := fun n h => Nat.lt_of_le_of_lt h (Nat.lt_of_le_of_lt size (by decide))
      have R1q : Rs S.quiet F1 (wipeR ρ1 vs) (wipe σ vs) H1 := (R1.wipe hJ).toQuiet
      have hF1 : F1 D = none := by
        cases e : F1 D with
        | none => rfl
        | some o => rw [R1.ex D o e] at hD; cases hD
      have hO1 : ¬ Own (wipeR ρ1 vs) (wipe σ vs) D := fun z => by
        obtain ⟨i, di, z1, z2⟩ := z
        obtain ⟨p, us, y1, y2, y3, y4⟩ := R1q.ow i di z1
        rw [y1] at z2
        have : p = D := by injection z2 with z2; injection z2 with z2; injection z2
        rw [this] at y3; exact y3.ne hD
      refine ⟨fun i m H' => m = ds.length - i ∧ i ≤ ds.length ∧ ∃ F' ρ' acc, (∀ a o, F1 a = some o → F' a = some o) ∧ Ext (Own ρ1 σ) F1 H1 (Own ρ' (wipe σ vs)) F' H' ∧ Rs S.quiet F' ρ' (wipe σ vs) H' ∧
          Acc S.quiet D F' (Own ρ' (wipe σ vs)) H' acc ∧ lcR2 (turnO g mi1 g1 mt1 me vs vs1) (ds.drop i) acc ρ' = .ok accF ρF,
        ⟨ds.length, rfl, Nat.zero_le _, F1, wipeR ρ1 vs, [], fun _ _ h => h, ?_, ?_, ⟨hF1, hO1, [], upd_same, .nil⟩, hl⟩, ?_⟩
      · refine ⟨fun _ _ h => h, fun _ h => .inl h, fun a o h _ => ?_, fun a h => ?_, fun a h => .inl (own_wipe h)⟩
        · rw [upd_ne (ne_of_none h hD)]; exact h
        · by_cases z : a = D
          · subst z; rw [upd_same]; simp
          · rw [upd_ne z]; exact h
      · exact (Ext.new (vs := []) R1q hD).2.1
      · rintro i m H' ⟨rfl, hle, F', ρ', acc, up, eX, R', A', hrun⟩
        have upH : ∀ a o, F1 a = some o → H' a = some o := fun a o h => R'.ex a o (up a o h)
        by_cases hlt : i < ds.length
        · refine .inr ⟨w.go i H' upH hlt, fun H2 => ∃ F2 ρ2 acc2, (∀ a o, F1 a = some o → F2 a = some o) ∧ Ext (Own ρ1 σ) F1 H1 (Own ρ2 (wipe σ vs)) F2 H2 ∧ Rs S.quiet F2 ρ2 (wipe σ vs) H2 ∧
            Acc S.quiet D F2 (Own ρ2 (wipe σ vs)) H2 acc2 ∧ lcR2 (turnO g mi1 g1 mt1 me vs vs1) (ds.drop (i + 1)) acc2 ρ2 = .ok accF ρF, fun H2 h => ⟨ds.length - (i + 1), by omega, rfl, hlt, h⟩, fun x H3 hy => ?_⟩
          have hd : ds[i]? = some ds[i] := List.getElem?_eq_getElem hlt
          rw [List.drop_eq_getElem_cons hlt] at hrun
          have hrun : (turnO g mi1 g1 mt1 me vs vs1 ds[i] acc ρ').bind (fun acc1 ρ1 => lcR2 (turnO g mi1 g1 mt1 me vs vs1) (ds.drop (i + 1)) acc1 ρ1) = .ok accF ρF := hrun
          cases hto : turnO g mi1 g1 mt1 me vs vs1 ds[i] acc ρ' with
          | exc c f ρ' => rw [hto] at hrun; cases hrun
          | stuck => rw [hto] at hrun; cases hrun
          | ok accI ρn =>
            rw [hto] at hrun
            have hrest : lcR2 (turnO g mi1 g1 mt1 me vs vs1) (ds.drop (i + 1)) accI ρn = .ok accF ρF := hrun
            have hIF := lcR2_mono hrest
            obtain ⟨ρa, ds1, ρb, ρI, ga, gb, gc, rfl⟩ := turnO_ok hto
            have item : ∃ F3, Ext (Own ρ' (wipe σ vs)) F' H' (Own ρ' (wipe σ vs)) F3 H3 ∧ Rs S.quiet F3 ρ' (wipe σ vs) H3 ∧ Rp S.K F3 x ds[i] := by
              rcases w.yld i H' x H3 _ upH hd hy with ⟨rfl, hx⟩ | ⟨T, xs, es, hT, rfl, rfl, hds, ha⟩
              · exact ⟨F', Ext.refl, R', rp_mono up _ _ hx⟩
              · rw [hds]
                exact R'.withTup hT (rpa_mono up _ _ ha)
            obtain ⟨F3, e3, R3, D3⟩ := item
            refine ⟨F3, ρ', ds[i], R3, D3, ?_⟩
            rw [ga]
            intro F4 σ4 H4 e4 R4 g4
            have hw := g4.wipe his
            rw [show wipe (wipe σ vs) vs = wipe σ vs from (gRel.wipe (is := vs) ⟨by rw [wipe_length], fun i hi => wipe_out hi⟩ fun _ h => h)] at hw
            refine ⟨hw, F4, ρa, R4, ?_⟩
            intro F5 H5 e5 R5
            refine iteT ?_
            refine ⟨F5, ρa, R5, ?_⟩
            rw [gb]
            intro F6 H6 e6 R6 J1 w1
            have e36 := ((e3.trans e4).trans e5).trans e6
            have A6 := A'.step e36
            have R6w : Rs S.quiet F6 (wipeR ρb vs1) (wipe σ4 vs1) H6 := R6.wipe hJ1
            have total6 := eX.trans e36
            have hwv : wipe (wipe σ4 vs1) vs = wipe σ vs := (wipe_sub hsub).trans hw
            have up6 : ∀ a o, F1 a = some o → F6 a = some o := fun a o h => e36.fz a o (up a o h)
            refine ⟨fun j m H' => m = ds1.length - j ∧ j ≤ ds1.length ∧ ∃ F' ρ' acc, (∀ a o, F6 a = some o → F' a = some o) ∧ Ext (Own ρ1 σ) F1 H1 (Own ρ' (wipe σ4 vs1)) F' H' ∧ Rs S.quiet F' ρ' (wipe σ4 vs1) H' ∧
                Acc S.quiet D F' (Own ρ' (wipe σ4 vs1)) H' acc ∧ lcR (turnL g1 mt1 me vs1) (ds1.drop j) acc ρ' = .ok accI ρI,
              ⟨ds1.length, rfl, Nat.zero_le _, F6, wipeR ρb vs1, acc, fun _ _ h => h, ⟨total6.fz, total6.nw, total6.kp, total6.st, fun a h => total6.ow a (own_wipe h)⟩, R6w, ⟨A6.fF, fun z => A6.fO (own_wipe z), A6.at'⟩, gc⟩, ?_⟩
            rintro j m H7 ⟨rfl, hlj, F7, ρ7, acc7, up7, eX7, R7, A7, hrun7⟩
            have upH7 : ∀ a o, F6 a = some o → H7 a = some o := fun a o h => R7.ex a o (up7 a o h)
            by_cases hjt : j < ds1.length
            · refine .inr ⟨w1.go j H7 upH7 hjt, fun H2 => ∃ F2 ρ2 acc2, (∀ a o, F6 a = some o → F2 a = some o) ∧ Ext (Own ρ1 σ) F1 H1 (Own ρ2 (wipe σ4 vs1)) F2 H2 ∧ Rs S.quiet F2 ρ2 (wipe σ4 vs1) H2 ∧
                Acc S.quiet D F2 (Own ρ2 (wipe σ4 vs1)) H2 acc2 ∧ lcR (turnL g1 mt1 me vs1) (ds1.drop (j + 1)) acc2 ρ2 = .ok accI ρI, fun H2 h => ⟨ds1.length - (j + 1), by omega, rfl, hjt, h⟩, fun x8 H8 hy8 => ?_⟩
              have hd8 : ds1[j]? = some ds1[j] := List.getElem?_eq_getElem hjt
              have hlen8 := Nat.le_trans (lcR_mono hrun7) hIF
              rw [List.drop_eq_getElem_cons hjt] at hrun7
              obtain ⟨o8, ρ8, ht8, hrest8⟩ := lcR_cons hrun7
              obtain ⟨ρ9, b9, ρ10, ga8, gb8, gc8⟩ := turnL_ok ht8
              have item8 : ∃ F8, Ext (Own ρ7 (wipe σ4 vs1)) F7 H7 (Own ρ7 (wipe σ4 vs1)) F8 H8 ∧ Rs S.quiet F8 ρ7 (wipe σ4 vs1) H8 ∧ Rp S.K F8 x8 ds1[j] := by
                rcases w1.yld j H7 x8 H8 _ upH7 hd8 hy8 with ⟨rfl, hx⟩ | ⟨T, xs, es, hT, rfl, rfl, hds, ha⟩
                · exact ⟨F7, Ext.refl, R7, rp_mono up7 _ _ hx⟩
                · rw [hds]
                  exact R7.withTup hT (rpa_mono up7 _ _ ha)
              obtain ⟨F8, e8, R8, D8⟩ := item8
              refine ⟨F8, ρ7, ds1[j], R8, D8, ?_⟩
              rw [ga8]
              intro F9 σ9 H9 e9 R9 g9
              have hw9 := g9.wipe his1
              rw [show wipe (wipe σ4 vs1) vs1 = wipe σ4 vs1 from (gRel.wipe (is := vs1) ⟨by rw [wipe_length], fun i hi => wipe_out hi⟩ fun _ h => h)] at hw9
              refine ⟨hw9, F9, ρ9, R9, ?_⟩
              rw [gb8]
              intro F10 H10 e10 R10
              have e810 := (e8.trans e9).trans e10
              rcases gc8 with ⟨rfl, r, ρ11, hme, rfl, rfl⟩ | ⟨rfl, rfl, rfl⟩
              · refine iteT ?_
                refine ⟨F10, ρ10, R10, ?_⟩
                rw [hme]
                intro F11 H11 e11 R11 v hv
                obtain ⟨F12, e12, R12, D12⟩ := R11.freeze e11 hv
                have e812 := e810.trans e12
                have A12 := A7.step e812
                obtain ⟨us, u1, u2⟩ := A12.at'
                have total := eX7.trans e812
                have ow12 : ∀ a, Own (wipeR ρ11 vs1) (wipe σ4 vs1) a → Own ρ11 σ9 a := fun a h => own_wipe (hw9 ▸ h)
                refine ⟨us, u1, ?_, F12, wipeR ρ11 vs1, acc7 ++ [r.d], fun a o h => e812.fz a o (up7 a o h), ?_, (R12.rewipe hw9 hJ1).grow ⟨A12.fF, fun z => A12.fO (ow12 _ z), us, u1, u2⟩, ⟨A12.fF, fun z => A12.fO (ow12 _ z), us ++ [v], upd_same, u2.app (.cons D12 .nil)⟩, hrest8⟩
                · rw [u2.len]
                  exact small _ hlen8
                · refine ⟨total.fz, total.nw, fun a o h n => ?_, fun a h => ?_, fun a h => total.ow a (ow12 a h)⟩
                  · rw [upd_ne (ne_of_none h hD)]
                    exact total.kp a o h n
                  · by_cases z : a = D
                    · subst z; rw [upd_same]; simp
                    · rw [upd_ne z]; exact total.st a h
              · refine iteF ?_
                have A10 := A7.step e810
                have total := eX7.trans e810
                have ow10 : ∀ a, Own (wipeR ρ10 vs1) (wipe σ4 vs1) a → Own ρ10 σ9 a := fun a h => own_wipe (hw9 ▸ h)
                have hrest' : lcR (turnL g1 mt1 me vs1) (ds1.drop (j + 1)) acc7 (wipeR ρ10 vs1) = .ok accI ρI := by
                  simpa using hrest8
                exact ⟨F10, wipeR ρ10 vs1, acc7, fun a o h => e810.fz a o (up7 a o h), ⟨total.fz, total.nw, total.kp, total.st, fun a h => total.ow a (ow10 a h)⟩, R10.rewipe hw9 hJ1, ⟨A10.fF, fun z => A10.fO (ow10 _ z), A10.at'⟩, hrest'⟩
            · have e : j = ds1.length := by omega
              subst e
              rw [List.drop_length] at hrun7
              have hrun7 : Rz.ok acc7 ρ7 = .ok accI ρI := hrun7
              cases hrun7
              have owI : ∀ a, Own (wipeR ρI vs) (wipe σ vs) a → Own ρI (wipe σ4 vs1) a := fun a h => own_wipe (hwv ▸ h)
              exact .inl ⟨w1.stop _ H7 upH7 (Nat.le_refl _), F7, wipeR ρI vs, accI, fun a o h => up7 a o (up6 a o h), ⟨eX7.fz, eX7.nw, eX7.kp, eX7.st, fun a h => eX7.ow a (owI a h)⟩, R7.rewipe hwv hJ, ⟨A7.fF, fun z => A7.fO (owI _ z), A7.at'⟩, hrest⟩
        · have e : i = ds.length := by omega
          subst e
          rw [List.drop_length] at hrun
          have hrun : Rz.ok acc ρ' = .ok accF ρF := hrun
          cases hrun
          obtain ⟨Rb, hb⟩ := R1.back R'.unquiet up
          obtain ⟨us, u1, u2⟩ := A'.at'
          exact .inl ⟨w.stop _ H' upH (Nat.le_refl _), P2 F' H' ⟨eX.fz, eX.nw, eX.kp, eX.st, fun a h => eX.ow a (hb a h)⟩ Rb (.ref D) ⟨D, us, rfl, A'.fF, u1, u2, fun z => A'.fO (hb _ z), .inl (e1.back hD)⟩⟩
    · rw [if_neg c] at P2; exact P2.elim
variable {tg iter tg1 iter1 elt : Expr} {ifs1 : List Expr} {scope : Scope} {own : List (Str × Nat)} {pos : Pos}
theorem xe_lc2 (o : Okx X S k) (vs1 : List Nat) (hi : XI X S tg iter mi) (ok : BlkOk X.N X.env.scope scope own)
    (hg : ∀ (s : Shared) (H : Hp) (C : Addr) (cl : List (Str × Addr)) (fp : List Addr), XG (X.blk s H scope (compEnvC scope cl C X.env) fp) S.quiet tg is g)
    (hi1 : ∀ (s : Shared) (H : Hp) (C : Addr) (cl : List (Str × Addr)) (fp : List Addr), Okx (X.blk s H scope (compEnvC scope cl C X.env) fp) S.quiet k → XI (X.blk s H scope (compEnvC scope cl C X.env) fp) S.quiet tg1 iter1 mi1)
    (hg1 : ∀ (s : Shared) (H : Hp) (C : Addr) (cl : List (Str × Addr)) (fp : List Addr), XG (X.blk s H scope (compEnvC scope cl C X.env) fp) S.quiet tg1 is1 g1)
    (ht1 : ∀ (s : Shared) (H : Hp) (C : Addr) (cl : List (Str × Addr)) (fp : List Addr), Okx (X.blk s H scope (compEnvC scope cl C X.env) fp) S.quiet k → XTs (X.blk s H scope (compEnvC scope cl C X.env) fp) S.quiet ifs1 mt1)
    (he : ∀ (s : Shared) (H : Hp) (C : Addr) (cl : List (Str × Addr)) (fp : List Addr), Okx (X.blk s H scope (compEnvC scope cl C X.env) fp) S.quiet k → XE (X.blk s H scope (compEnvC scope cl C X.env) fp) S.quiet elt me)
    (his : ∀ i ∈ is, i ∈ own.map (·.2) := by decide) (his1 : ∀ i ∈ is1, i ∈ vs1 := by decide) (hv : ∀ i ∈ vs1, i ∈ own.map (·.2) := by decide) (hJ : ∀ v ∈ own.map (·.2), v ∉ S.J := by first | exact njs rfl | decide) (hs : ∀ x, foldedSetIterable iter X.env x = pure x := by intro _; rfl) (hs1 : ∀ env x, foldedSetIterable iter1 env x = pure x := by intro _ _; rfl) :
    XE X S (.ListComp elt [⟨tg, iter, [], 0⟩, ⟨tg1, iter1, ifs1, 0⟩] scope pos) (mLc2 mi g mi1 g1 mt1 me (own.map (·.2)) vs1) :=
  PE.imp (pe_lc2 o.calm o.nd hi ok hv hg (fun _ _ _ _ _ => xts_nil (S := S.quiet)) (fun s H C cl fp => hi1 s H C cl fp (o.blk s H C cl fp)) hg1 (fun s H C cl fp => ht1 s H C cl fp (o.blk s H C cl fp)) (fun s H C cl fp => he s H C cl fp (o.blk s H C cl fp)) hs hs1) fun σ H Q q => lc2_sound his his1 hv hJ q
theorem xs_setLc2 (o : Okx X S k) (i : Nat) (vs1 : List Nat) {y : Str} {py spos : Pos} (hsw : swapsWith (.ListComp elt [⟨tg, iter, [], 0⟩, ⟨tg1, iter1, ifs1, 0⟩] scope pos) (some (.Name y py)) spos.line X.env = pure true) (hi : XI X S tg iter mi) (ok : BlkOk X.N X.env.scope scope own)
    (hg : ∀ (s : Shared) (H : Hp) (C : Addr) (cl : List (Str × Addr)) (fp : List Addr), XG (X.blk s H scope (compEnvC scope cl C X.env) fp) S.quiet tg is g)
    (hi1 : ∀ (s : Shared) (H : Hp) (C : Addr) (cl : List (Str × Addr)) (fp : List Addr), Okx (X.blk s H scope (compEnvC scope cl C X.env) fp) S.quiet k → XI (X.blk s H scope (compEnvC scope cl C X.env) fp) S.quiet tg1 iter1 mi1)
    (hg1 : ∀ (s : Shared) (H : Hp) (C : Addr) (cl : List (Str × Addr)) (fp : List Addr), XG (X.blk s H scope (compEnvC scope cl C X.env) fp) S.quiet tg1 is1 g1)
    (ht1 : ∀ (s : Shared) (H : Hp) (C : Addr) (cl : List (Str × Addr)) (fp : List Addr), Okx (X.blk s H scope (compEnvC scope cl C X.env) fp) S.quiet k → XTs (X.blk s H scope (compEnvC scope cl C X.env) fp) S.quiet ifs1 mt1)
    (he : ∀ (s : Shared) (H : Hp) (C : Addr) (cl : List (Str × Addr)) (fp : List Addr), Okx (X.blk s H scope (compEnvC scope cl C X.env) fp) S.quiet k → XE (X.blk s H scope (compEnvC scope cl C X.env) fp) S.quiet elt me)
    (his : ∀ i ∈ is, i ∈ own.map (·.2) := by decide) (his1 : ∀ i ∈ is1, i ∈ vs1 := by decide) (hv : ∀ i ∈ vs1, i ∈ own.map (·.2) := by decide) (hJ : ∀ v ∈ own.map (·.2), v ∉ S.J := by first | exact njs rfl | decide) (hiJ : i ∉ S.J := by first | exact nj rfl | decide) (hy : X.N[i]? = some y := by rfl) (hyl : X.env.scope.names.lookup y = some .local := by rfl) (hs : ∀ x, foldedSetIterable iter X.env x = pure x := by intro _; rfl) (hs1 : ∀ env x, foldedSetIterable iter1 env x = pure x := by intro _ _; rfl) (hT : S.T i = none := by first | rfl | assumption) :
    XS X S (.Assign [.Name y py] (.ListComp elt [⟨tg, iter, [], 0⟩, ⟨tg1, iter1, ifs1, 0⟩] scope pos) spos) (mSet i (mLc2 mi g mi1 g1 mt1 me (own.map (·.2)) vs1)) :=
  PS.imp (ps_setLc2 o.calm o.nd hy hyl hsw hi ok hv hg (fun _ _ _ _ _ => xts_nil (S := S.quiet)) (fun s H C cl fp => hi1 s H C cl fp (o.blk s H C cl fp)) hg1 (fun s H C cl fp => ht1 s H C cl fp (o.blk s H C cl fp)) (fun s H C cl fp => he s H C cl fp (o.blk s H C cl fp)) hs hs1) fun D σ H q => by
    obtain ⟨F, ρ, R, P⟩ := q
    refine lc2_sound his his1 hv hJ ?_
    refine tE.keepS (g := fun r ρ1 => if i < ρ1.length then .ok .nx (ρ1.set i r.cl) else .stuck) R P fun v r F1 ρ1 H1 e1 R1 hv _ P1 => ?_
    by_cases hl : i < ρ1.length
    · rw [if_pos hl] at P1
      obtain ⟨R2, h2⟩ := R1.setSlot hv hl hiJ (.inl hT)
      exact P1 F1 _ H1 (e1.setSlot h2) R2
    · rw [if_neg hl] at P1; exact P1.elim
end
end Sd
namespace Sd
open PySem PySem.Spec
section
variable {ρ : Rho} {mi mi1 : Rho → Rz (List PD)} {g g1 : PD → Rho → Option Rho} {mt1 : Rho → Rz Bool} {me : Rho → Rz Rv} {vs vs1 : List Nat}
theorem wp_calm {α : Type} {r : Rz α} {Q : α → Rho → Prop} : Wp r.calm Q ↔ Wp r Q := by
  cases r with
  | ok a ρ => exact Iff.rfl
  | exc c f ρ =>
    show Wp Rz.stuck Q ↔ _
    rw [wp_stuck, wp_exc]
  | stuck => exact Iff.rfl
@[simp] theorem w_lc2 {Q : Rv → Rho → Prop} {c : Cl} : Wp (mLc2 mi g mi1 g1 mt1 me vs vs1 (c :: ρ)) Q ↔ Wp (mi (c :: ρ)) (lz fun ds ρ1 => Wp (lcR2 (turnO g mi1 g1 mt1 me vs vs1) ds [] (wipeR ρ1 vs)) (lz fun acc ρ2 => okLen acc.length = true ∧ Q (.ow acc) (backR ρ1 ρ2 vs))) := by
  unfold mLc2
  rw [wp_bind]
  refine Wp.congr fun ds ρ1 => ?_
  rw [wp_bind, wp_calm]
  refine Wp.congr fun acc ρ2 => ?_
  simp only [lz_any]
  by_cases h : okLen acc.length = true
  · rw [if_pos h, wp_ok]; exact ⟨fun q => ⟨h, q⟩, fun q => q.2⟩
  · rw [if_neg h, wp_stuck]; exact ⟨False.elim, fun q => h q.1⟩
theorem w_turnO {Q : List PD → Rho → Prop} {d : PD} {acc : List PD} : Wp (turnO g mi1 g1 mt1 me vs vs1 d acc ρ) Q ↔ WpO (g d ρ) fun ρ1 => Wp (mi1 ρ1) (lz fun ds ρ2 => Wp (lcR (turnL g1 mt1 me vs1) ds acc (wipeR ρ2 vs1)) (lz fun acc1 ρ3 => Q acc1 (wipeR ρ3 vs))) := by
  unfold turnO
  cases g d ρ with
  | none => simp
  | some ρ1 =>
    simp only [wpo_some]
    rw [wp_bind]
    refine Wp.congr fun ds ρ2 => ?_
    rw [wp_bind]
    refine Wp.congr fun acc1 ρ3 => ?_
    rw [wp_ok, lz_any]
theorem lc2_flat {α : Type} {xs : List α} {e : α → PD} {f : α → List PD} {Ql : List PD → Rho → Prop} (h : ∀ x ∈ xs, ∀ acc, Wp (turnO g mi1 g1 mt1 me vs vs1 (e x) acc ρ) fun acc1 ρ' => acc1 = acc ++ f x ∧ ρ' = ρ) : ∀ acc, Ql (acc ++ xs.flatMap f) ρ → Wp (lcR2 (turnO g mi1 g1 mt1 me vs vs1) (xs.map e) acc ρ) Ql := by
  induction xs with
  | nil =>
    intro acc fin
    exact wp_ok.mpr (by simpa using fin)
  | cons x xs ih =>
    intro acc fin
    show Wp ((turnO g mi1 g1 mt1 me vs vs1 (e x) acc ρ).bind fun acc1 ρ1 => lcR2 (turnO g mi1 g1 mt1 me vs vs1) (xs.map e) acc1 ρ1) Ql
    rw [wp_bind]
    refine (h x (List.mem_cons_self ..) acc).mono fun a ρ' q => ?_
    obtain ⟨rfl, rfl⟩ := q
    exact ih (fun y hy => h y (List.mem_cons_of_mem _ hy)) _ (by simpa using fin)
theorem lcR_step {turn : PD → Rho → Rz (Option PD)} {Q : List PD → Rho → Prop} {d : PD} {ds acc : List PD} : Wp (lcR turn (d :: ds) acc ρ) Q ↔ Wp (turn d ρ) fun o ρ1 => Wp (lcR turn ds (acc ++ o.toList) ρ1) Q := by
  show Wp ((turn d ρ).bind fun o ρ1 => lcR turn ds (acc ++ o.toList) ρ1) Q ↔ _
  rw [wp_bind]
theorem lcR_end {turn : PD → Rho → Rz (Option PD)} {Q : List PD → Rho → Prop} {acc : List PD} : Wp (lcR turn [] acc ρ) Q ↔ Q acc ρ := wp_ok
end
end Sd
namespace Sd
open PySem L2 PySem.Spec PyProof.Rows
section
variable {X : Cx} {S : Sx} {k : Nat}
/-- raise C('..'), C an own class without __init__ -/
def mRaise (c : Str) : Rho → Rz Fl := fun ρ => .exc c none ρ
theorem xs_raiseO (o : Okx X S k) {x m : Str} {j : Nat} {p p2 pos pos2 : Pos} {C : Addr} {B newId initId : String} {bmB : List Value} (hF : ExcBaseFacts B newId initId bmB) (q : PySem.W.excIn X.K C bmB newId = true) (gC : S.mg x = some (.ref C)) (kC : PySem.W.keepIn X.K (.ref C) = true) (r : Raises X (.ref C)) (hg : Gl X x)
    (hdb : (x == ("__debug__" : Str)) = false := by decide) : XS X S (.Raise (some (.Call (.Name x p) [.Constant (.str m) j p2] [] pos)) none pos2) (mRaise x) :=
  PS.imp (ps_raise o.calm o.tk (pmk_own hF q (o.hM ▸ gC) kC r hg hdb)) fun D σ H w => by
    obtain ⟨F, ρ, R, P⟩ := w
    exact P F σ H (.ref C) none Ext.refl R ⟨gC, rfl⟩
/-- try: body, except x: y = constant -/
def mTryC (m : Rho → Rz Fl) (ok : Str → Option Bool) (i : Nat) (d : PD) : Rho → Rz Fl := fun ρ => match m ρ with
  | .exc c f ρ' => (match ok c with
    | some true => if i < ρ'.length then .ok .nx (ρ'.set i (.fr d)) else .stuck
    | some false => .exc c f ρ'
    | none => .stuck)
  | r => r
def Sx.wt (S : Sx) (W : WX) : Sx := { S with W := W }
theorem Rs.wt {F : Hp} {ρ : Rho} {σ : L2.St} {H : Hp} {W : WX} (R : Rs S F ρ σ H) : Rs (S.wt W) F ρ σ H := ⟨R.ex, R.len, R.fr, R.ow, R.sep, R.pin, R.sm⟩
theorem Rs.unwt {F : Hp} {ρ : Rho} {σ : L2.St} {H : Hp} {W : WX} (R : Rs (S.wt W) F ρ σ H) : Rs S F ρ σ H := ⟨R.ex, R.len, R.fr, R.ow, R.sep, R.pin, R.sm⟩
theorem xs_try (o : Okx X S k) {x y : Str} {cv : Value} {body : List Stmt} {b : Bool} {kb : Nat} {p1 p2 p3 np pos pos' : Pos} {m : Rho → Rz Fl} (i : Nat) (ok : Str → Option Bool) (hs : X.stack = X.env :: X.outer) (hf : X.env.frame = some X.env.locals) (hc : Names X x cv)
    (hb : ∀ (W : WX) (pn : List (Addr × Obj)) (xe : Value → Shared → Prop), Okx (X.tr pn xe) (S.wt W) k → XSs (X.tr pn xe) (S.wt W) body m)
    (hok : ∀ c t, ok c = some t → ∀ cls, S.mg c = some cls → PySem.W.exmOne X.K cls cv = some t)
    (hJ : i ∉ S.J := by first | exact nj rfl | decide) (hi : X.N[i]? = some y := by rfl) (hy : Loc X.env.scope y := by first | exact Or.inl rfl | exact Or.inr rfl) (hfy : X.fn y = true ∨ X.env.scope.names.lookup y = some .local := by first | exact .inl rfl | exact .inr rfl | assumption) :
    XS X S (.Try body [.ExceptHandler (some (.Name x np)) none [.Assign [.Name y p1] (.Constant (.bool b) kb p2) p3] pos'] [] [] pos) (mTryC m ok i (.bool b)) :=
  PS.imp (ps_try_only (ts := fun a cls d D σ H => D.nx (σ.set i (some (.bl b))) H) (tb := fun W => tS (S.wt W) m) (Wout := S.W) hs hf hc o.tk
    (fun W pn xe tk po => hb W pn xe ⟨o.hK, o.hM, o.calm, o.nd, po, tk, o.rm, o.gd⟩)
    (fun a oe cls d pn _ _ => PSs.imp (pss_cons (ps_set (X := X.suite a ((a, oe) :: pn)) (i := i) o.nd hi hy pe_bl rfl hfy) pss_nil) fun D σ H q => q)) fun D σ H w => by
    obtain ⟨F, ρ, R, P⟩ := w
    refine ⟨F, ρ, R.wt, ?_⟩
    unfold mTryC at P
    cases hm : m ρ with
    | stuck => rw [hm] at P; exact P
    | ok fl ρ' =>
      rw [hm] at P
      intro F' σ' H' e R'
      have q := P F' σ' H' e R'.unwt
      cases fl with
      | nx => exact q
      | bk => exact q
      | ct => exact q
      | rt r => exact fun v hv => q v (by cases r <;> exact hv)
    | exc c f ρ' =>
      rw [hm] at P
      intro F' σ' H' cls dd e R' hx
      have hx' : ExR S F' H' cls dd c f := hx
      have P : PostS S F ρ σ H (match ok c with
        | some true => if i < ρ'.length then .ok .nx (ρ'.set i (.fr (.bool b))) else .stuck
        | some false => .exc c f ρ'
        | none => .stuck) D := P
      cases ht : ok c with
      | none => rw [ht] at P; exact P.elim
      | some t =>
        rw [ht] at P
        refine ⟨t, hok c t ht cls hx'.1, fun h1 a ha => ?_, fun h1 => ?_⟩
        · subst h1
          have P : PostS S F ρ σ H (if i < ρ'.length then .ok .nx (ρ'.set i (.fr (.bool b))) else .stuck) D := P
          by_cases hl : i < ρ'.length
          · rw [if_pos hl] at P
            obtain ⟨R2, h2⟩ := R'.unwt.setSlot (O0 := Own ρ' σ') (H0 := H') (v := .bl b) (r := .fr (.bool b)) (.bl b) hl hJ (.inr ⟨_, rfl⟩)
            refine P F' _ H' ⟨e.fz, e.nw, e.kp, e.st, fun a z => ?_⟩ R2
            rcases h2 a z with z | z | z
            · exact e.ow a z
            · exact .inr (e.back z)
            · exact e.ow a z
          · rw [if_neg hl] at P; exact P.elim
        · subst h1
          exact P F' σ' H' cls dd e R'.unwt hx'
/-- what is known of a class under ValueError without __init__ -/
structure ClsF (K : PySem.W.Frag) (mg : Str → Option Value) (x : Str) : Prop where
  ex : ∃ C : Addr, mg x = some (.ref C) ∧ PySem.W.excIn K C [.type "ValueError", .type "Exception", .type "BaseException", .type "object"] "ValueError.__new__" = true ∧ PySem.W.keepIn K (.ref C) = true ∧
    PySem.W.subIn K (.ref C) (.type "BaseException") = some true ∧ PySem.W.typeIn K (.ref C) = some (.type "type") ∧ PySem.W.exmOne K (.ref C) (.ref C) = some true
theorem xs_raiseC (o : Okx X S k) {x m : Str} {j : Nat} {p p2 pos pos2 : Pos} (c : ClsF S.K S.mg x) (hg : Gl X x := by rfl) (hdb : (x == ("__debug__" : Str)) = false := by decide) :
    XS X S (.Raise (some (.Call (.Name x p) [.Constant (.str m) j p2] [] pos)) none pos2) (mRaise x) := by
  obtain ⟨C, h1, h2, h3, h4, h5, _⟩ := c.ex
  rw [o.hK] at h2 h3 h4 h5
  exact xs_raiseO o PySem.F.excBase_ValueError h2 h1 h3 (raises_own h4 h5) hg hdb
theorem xs_tryC (o : Okx X S k) {x y : Str} {body : List Stmt} {b : Bool} {kb : Nat} {p1 p2 p3 np pos pos' : Pos} {m : Rho → Rz Fl} (i : Nat) (c : ClsF S.K S.mg x)
    (hb : ∀ (W : WX) (pn : List (Addr × Obj)) (xe : Value → Shared → Prop), Okx (X.tr pn xe) (S.wt W) k → XSs (X.tr pn xe) (S.wt W) body m)
    (hs : X.stack = X.env :: X.outer := by rfl) (hf : X.env.frame = some X.env.locals := by rfl) (hg : Gl X x := by rfl) (hdb : (x == ("__debug__" : Str)) = false := by decide)
    (hJ : i ∉ S.J := by first | exact nj rfl | decide) (hi : X.N[i]? = some y := by rfl) (hy : Loc X.env.scope y := by first | exact Or.inl rfl | exact Or.inr rfl) (hfy : X.fn y = true ∨ X.env.scope.names.lookup y = some .local := by first | exact .inl rfl | exact .inr rfl | assumption) :
    XS X S (.Try body [.ExceptHandler (some (.Name x np)) none [.Assign [.Name y p1] (.Constant (.bool b) kb p2) p3] pos'] [] [] pos) (mTryC m (fun c => if c = x then some true else none) i (.bool b)) := by
  obtain ⟨C, h1, _, _, _, _, h6⟩ := c.ex
  rw [o.hK] at h6
  refine xs_try o i _ hs hf ⟨hg, hdb, .inl (o.hM ▸ h1)⟩ hb (fun c t ht cls hcls => ?_) hJ hi hy hfy
  by_cases e : c = x
  · subst e
    rw [if_pos rfl] at ht
    cases ht
    rw [h1] at hcls
    cases hcls
    exact h6
  · rw [if_neg e] at ht; cases ht
/-- an own class matches itself (turned from the worked proof 30_by_hand) -/
theorem exm_own {K : PySem.W.Frag} {C : Addr} (b : PySem.W.subIn K (.ref C) (.type "BaseException") = some true) (i : PySem.W.isClsIn K C = true) (t : PySem.W.typeIn K (.ref C) = some (.type "type")) (u : PySem.W.subIn K (.ref C) (.ref C) = some true) :
    PySem.W.exmOne K (.ref C) (.ref C) = some true := by
  have e1 : (PySem.W.subIn K (.ref C) (.type "BaseException") == some true) = true := by rw [b] <;> rfl
  have e2 : ((PySem.W.clsIn K C).isSome && PySem.W.typeIn K (.ref C) == some (.type "type")) = true := by
    have i' : (PySem.W.clsIn K C).isSome = true := i
    rw [i', t] <;> rfl
  show (if (PySem.W.subIn K (.ref C) (.type "BaseException") == some true) = true then (if ((PySem.W.clsIn K C).isSome && PySem.W.typeIn K (.ref C) == some (.type "type")) = true then PySem.W.subIn K (.ref C) (.ref C) else none) else none) = some true
  rw [if_pos e1, if_pos e2]
  exact u
end
end Sd
namespace Sd
open PySem L2 PySem.Spec PyProof.Rows
/-! ### a name that is only looked at, compared -/
def mCmpP (g : PD → PD → Option PD) (i : Nat) (mb : Rho → Rz Rv) : Rho → Rz Rv := fun ρ => match ρ.peek i with
  | none => .stuck
  | some _ => (mb ρ).bind fun y ρ2 => match ρ2.peek i with
    | none => .stuck
    | some d => match g d y.d with
      | some (.bool b) => .ok (.fr (.bool b)) ρ2
      | _ => .stuck
section
variable {X : Cx} {S : Sx} {k : Nat} {x : Str} {p pos : Pos} {e : Expr} {m : Rho → Rz Rv}
def CmpS (S : Sx) (r : R2) (g : PD → PD → Option PD) : Prop := ∀ (H : Hp) (x y : V) (dx dy : PD) (b : Bool) (Q : VK), Rp S.K H x dx → Rp S.K H y dy → g dx dy = some (.bool b) → Q (.bl b) H → r x y H Q
theorem cmp_eq (hK : S.K = X.K) : CmpS S (rEqD X.K) gEq := fun H x y dx dy b Q hx hy h q => by
  unfold gEq at h
  split at h
  · rename_i c
    cases h
    have c' := Bool.and_eq_true_iff.mp c
    rw [hK] at hx hy
    exact ⟨dx, dy, rp_dp _ _ (SeqAt.canLay_of_shaped c'.1) hx, rp_dp _ _ (SeqAt.canLay_of_shaped c'.2) hy, c'.1, c'.2, q⟩
  · cases h
theorem cmp_ne (hK : S.K = X.K) : CmpS S (rNeD X.K) gNe := fun H x y dx dy b Q hx hy h q => by
  unfold gNe at h
  split at h
  · rename_i c
    cases h
    have c' := Bool.and_eq_true_iff.mp c
    rw [hK] at hx hy
    exact ⟨dx, dy, rp_dp _ _ (SeqAt.canLay_of_shaped c'.1) hx, rp_dp _ _ (SeqAt.canLay_of_shaped c'.2) hy, c'.1, c'.2, q⟩
  · cases h
theorem cmpP_bin {r : R2} {g : PD → PD → Option PD} (hs : CmpS S r g) {i : Nat} {σ : L2.St} {H : Hp} {Q : VK} (hT : S.T i = none) (q : tE S (mCmpP g i m) σ H Q) : tOp r (tVar i) (tE S m) σ H Q := by
  obtain ⟨F, ρ, R, P⟩ := q
  unfold mCmpP at P
  cases hp : ρ.peek i with
  | none => rw [hp] at P; exact P.elim
  | some d0 =>
    rw [hp] at P
    obtain ⟨v, ev, _⟩ := R.lentPeek hp hT
    refine ⟨v, ev, ?_⟩
    have P : PostE S σ F ρ H ((m ρ).bind fun y ρ2 => (match ρ2.peek i with
      | none => .stuck
      | some d => match g d y.d with
        | some (.bool b) => .ok (Rv.fr (.bool b)) ρ2
        | _ => .stuck)) _ := P
    refine tE.use (g := fun y ρ2 => match ρ2.peek i with
      | none => .stuck
      | some d => match g d y with
        | some (.bool b) => .ok (Rv.fr (.bool b)) ρ2
        | _ => .stuck) R P fun v2 d2 F2 ρ2 H2 e2 R2 D2 P2 => ?_
    cases hp1 : ρ2.peek i with
    | none => rw [hp1] at P2; exact P2.elim
    | some d =>
      rw [hp1] at P2
      obtain ⟨v', ev', D⟩ := R2.lentPeek hp1 hT
      have := slot_inj ev ev'
      subst this
      cases hg : g d d2 with
      | none => simp only [hg] at P2; exact P2.elim
      | some z =>
        cases z with
        | bool b =>
          simp only [hg] at P2
          exact hs H2 v v2 d d2 b Q (rp_mono R2.lentEx _ _ D) (rp_mono R2.ex _ _ D2) hg (PostE.ok P2 R2 (.bl b) (.bl b))
        | _ => simp only [hg] at P2; exact P2.elim
theorem xe_eqP (o : Okx X S k) (i : Nat) (hb : XE X S e m) (hN : X.N[i]? = some x := by rfl) (hx : Vis X.env.scope x := by first | exact Or.inl rfl | exact Or.inr (Or.inl rfl) | exact Or.inr (Or.inr rfl)) (hd : (x == ("__debug__" : Str)) = false := by decide) (hcd : (x == ("__classdict__" : Str)) = false := by decide)
    (hm : behindInMarks .Eq e = false := by first | exact nomark _ | with_unfolding_all rfl) (hT : S.T i = none := by first | rfl | assumption) : XE X S (.Compare (.Name x p) [.Eq] [e] pos) (mCmpP gEq i m) :=
  PE.imp (pe_cmpR (op_eqD o.un) (pe_var hN hx hd hcd) hb hm) fun _ _ _ q => cmpP_bin (cmp_eq o.hK) hT q
theorem xe_neP (o : Okx X S k) (i : Nat) (hb : XE X S e m) (hN : X.N[i]? = some x := by rfl) (hx : Vis X.env.scope x := by first | exact Or.inl rfl | exact Or.inr (Or.inl rfl) | exact Or.inr (Or.inr rfl)) (hd : (x == ("__debug__" : Str)) = false := by decide) (hcd : (x == ("__classdict__" : Str)) = false := by decide)
    (hm : behindInMarks .NotEq e = false := by first | exact nomark _ | with_unfolding_all rfl) (hT : S.T i = none := by first | rfl | assumption) : XE X S (.Compare (.Name x p) [.NotEq] [e] pos) (mCmpP gNe i m) :=
  PE.imp (pe_cmpR (op_neD o.un) (pe_var hN hx hd hcd) hb hm) fun _ _ _ q => cmpP_bin (cmp_ne o.hK) hT q
theorem xt_eqP (o : Okx X S k) (i : Nat) (hb : XE X S e m) (hN : X.N[i]? = some x := by rfl) (hx : Vis X.env.scope x := by first | exact Or.inl rfl | exact Or.inr (Or.inl rfl) | exact Or.inr (Or.inr rfl)) (hd : (x == ("__debug__" : Str)) = false := by decide) (hcd : (x == ("__classdict__" : Str)) = false := by decide)
    (hm : behindInMarks .Eq e = false := by first | exact nomark _ | with_unfolding_all rfl) (hT : S.T i = none := by first | rfl | assumption) : XT X S (.Compare (.Name x p) [.Eq] [e] pos) (mB (mCmpP gEq i m)) :=
  PT.imp (pt_cmpR (op_eqD o.un) (pe_var hN hx hd hcd) hb hm) fun _ _ _ q => cmpP_bin (cmp_eq o.hK) hT (tT_B q)
theorem xt_neP (o : Okx X S k) (i : Nat) (hb : XE X S e m) (hN : X.N[i]? = some x := by rfl) (hx : Vis X.env.scope x := by first | exact Or.inl rfl | exact Or.inr (Or.inl rfl) | exact Or.inr (Or.inr rfl)) (hd : (x == ("__debug__" : Str)) = false := by decide) (hcd : (x == ("__classdict__" : Str)) = false := by decide)
    (hm : behindInMarks .NotEq e = false := by first | exact nomark _ | with_unfolding_all rfl) (hT : S.T i = none := by first | rfl | assumption) : XT X S (.Compare (.Name x p) [.NotEq] [e] pos) (mB (mCmpP gNe i m)) :=
  PT.imp (pt_cmpR (op_neD o.un) (pe_var hN hx hd hcd) hb hm) fun _ _ _ q => cmpP_bin (cmp_ne o.hK) hT (tT_B q)
/-! ### {} -/
theorem Rs.newD {F : Hp} {ρ : Rho} {σ : L2.St} {H : Hp} {p : Addr} {Q : VK} (R : Rs S F ρ σ H) (hp : H p = none)
    (q : ∀ F' H' v, Ext (Own ρ σ) F H (Own ρ σ) F' H' → Rs S F' ρ σ H' → RvR S (Own ρ σ) H (Own ρ σ) F' H' v (.fr (.dict [])) → Q v H') : Q (.ref p) (upd H p (.dK [])) := by
  have hF : F p = none := by
    cases e : F p with
    | none => rfl
    | some o => rw [R.ex p o e] at hp; cases hp
  have up : ∀ a o, H a = some o → upd H p (.dK []) a = some o := fun a o z => (upd_ne (ne_of_none z hp)).trans z
  have upF : ∀ a o, F a = some o → upd F p (.dK []) a = some o := fun a o z => (upd_ne (ne_of_none z hF)).trans z
  refine q (upd F p (.dK [])) _ _ ⟨upF, fun a z => ?_, fun a o z _ => up a o z, fun a z => ?_, fun _ z => .inl z⟩ ⟨fun a o z => ?_, R.len, fun i d z => ?_, fun i ds z => ?_, R.sep, R.pin, R.sm.up upF⟩ (.dct upd_same)
  · by_cases y : a = p
    · subst y; exact .inr (.inl hp)
    · rw [upd_ne y] at z; exact .inl z
  · cases e : H a with
    | none => exact absurd e z
    | some o => rw [up a o e]; simp
  · by_cases y : a = p
    · subst y; rw [upd_same] at z ⊢; exact z
    · rw [upd_ne y] at z ⊢; exact R.ex a o z
  · obtain ⟨v, z1, z2⟩ := R.fr i d z
    exact ⟨v, z1, rp_mono upF _ _ z2⟩
  · obtain ⟨p', vs, z1, z2, z3, z4⟩ := R.ow i ds z
    have y : p' ≠ p := fun y => by rw [y] at z3; exact z3.ne hp
    exact ⟨p', vs, z1, (upd_ne y).trans z2, z3.mono (up _), rpa_mono upF _ _ z4⟩
theorem xe_dct0 : XE X S (.Dict [] [] pos) (mC (.dict [])) := PE.imp pe_dnewK fun σ H Q q => by
  obtain ⟨F, ρ, R, P⟩ := q
  exact fun p hp => Rs.newD R hp fun F' H' v e' R' h' => P F' H' e' R' v h'
/-! ### the script, compared -/
def unS : PD → PD
  | .dict [(.none, .list ds)] => .list ds
  | d => d
def gEqS : PD → PD → Option PD := fun x y => gEq (unS x) y
theorem dpa_ints {K : PySem.W.Frag} {H : Hp} : ∀ ns : List Int, DpAll K H (ns.map V.int) (ns.map PyData.int)
  | [] => .nil
  | n :: ns => .cons (.int n) (dpa_ints ns)
theorem dp_unS {F H : Hp} {v : V} {d : PD} (up : ∀ a o, F a = some o → H a = some o) (hc : (unS d).canLay0 = true) (h : Rp S.K F v d) : Dp S.K H v (unS d) := by
  cases h with
  | scr h1 => exact .lst (sql_mono up h1) (dpa_ints _)
  | dct h1 => simp [unS, PyData.canLay0] at hc
  | non => exact .non
  | bl b => exact .bl b
  | int i => exact .int i
  | str z => exact .str z
  | lst h1 h2 => exact rp_dp _ _ hc (rp_mono up _ _ (.lst h1 h2))
  | tup h1 h2 => exact rp_dp _ _ hc (rp_mono up _ _ (.tup h1 h2))
theorem sim_eqS (hK : S.K = X.K) : Sim2 X S (rEqD X.K) fun x y => (gEqS x y).map .fr := Sim2.pure fun F H x y dx dy z up hx hy h => by
  unfold gEqS gEq at h
  split at h
  · rename_i c
    cases h
    have c' := Bool.and_eq_true_iff.mp c
    refine ⟨.bl _, .bl _, fun Q q => ⟨unS dx, dy, ?_, ?_, c'.1, c'.2, q⟩⟩
    · rw [← hK]
      exact dp_unS up (SeqAt.canLay_of_shaped c'.1) hx
    · rw [hK] at hy
      exact rp_dp _ _ (SeqAt.canLay_of_shaped c'.2) (rp_mono up _ _ hy)
  · cases h
abbrev qEqS : PD → PD → Option Rv := fun x y => (gEqS x y).map .fr
theorem xe_eqS {a b : Expr} {ma mb : Rho → Rz Rv} (o : Okx X S k) (ha : XE X S a ma) (hb : XE X S b mb) (hm : behindInMarks .Eq b = false := by first | exact nomark _ | with_unfolding_all rfl) : XE X S (.Compare a [.Eq] [b] pos) (mOp2 qEqS ma mb) := xe_cmp (op_eqD o.un) (sim_eqS o.hK) ha hb hm
theorem xt_eqS {a b : Expr} {ma mb : Rho → Rz Rv} (o : Okx X S k) (ha : XE X S a ma) (hb : XE X S b mb) (hm : behindInMarks .Eq b = false := by first | exact nomark _ | with_unfolding_all rfl) : XT X S (.Compare a [.Eq] [b] pos) (mB (mOp2 qEqS ma mb)) := xt_cmp (op_eqD o.un) (sim_eqS o.hK) ha hb hm
end
/-! ### its plain law -/
def kCm (g : PD → PD → Option PD) (y : Rv) (Q : Rv → Rho → Prop) (ρ : Rho) : PD → Prop := fun d => WpO (g d y.d) fun z => WpO (bO z) fun b => Q (.fr (.bool b)) ρ
@[simp ↓] theorem kCm_a {g y Q ρ d} : kCm g y Q ρ d ↔ WpO (g d y.d) fun z => WpO (bO z) fun b => Q (.fr (.bool b)) ρ := Iff.rfl
@[simp] theorem w_cmpP {g : PD → PD → Option PD} {i : Nat} {m : Rho → Rz Rv} {c : Cl} {ρ : Rho} {Q : Rv → Rho → Prop} : Wp (mCmpP g i m (c :: ρ)) Q ↔ ((Rho.peek (c :: ρ) i).isSome = true ∧ Wp (m (c :: ρ)) (lz fun y ρ2 => WpO (ρ2.peek i) (kCm g y Q ρ2))) := by
  unfold mCmpP
  cases h : Rho.peek (c :: ρ) i with
  | none => simp only [wp_stuck]; simp
  | some d =>
    simp only [Option.isSome_some, true_and]
    rw [wp_bind]
    refine Wp.congr fun y ρ2 => ?_
    show Wp _ Q ↔ WpO (ρ2.peek i) (kCm g y Q ρ2)
    cases h2 : ρ2.peek i with
    | none => simp only [wp_stuck]; simp
    | some d2 =>
      rw [wpo_some, kCm_a]
      cases h3 : g d2 y.d with
      | none => simp [h3]
      | some z => cases z <;> simp [h3, bO]
@[simp] theorem gEqS_scr {ns : List Int} : gEqS (scr ns) (.list []) = some (.bool ns.isEmpty) := by
  have q := gEq_ints (ns := ns) (ms := [])
  refine Eq.trans (show gEqS (scr ns) (.list []) = gEq (.list (ns.map PyData.int)) (.list (([] : List Int).map PyData.int)) from rfl) (q.trans ?_)
  cases ns <;> simp
end Sd
namespace Sd
open PySem L2 PySem.Spec PyProof.Rows PyProof
/-! ### set of a list of ints -/
/-- an empty set just made in the world w -/
def nilSet (w : World) : Obj := { cls := .type "set", dict := none, data := .set #[] 0 (.fresh 0 0 (!w.params.followText "set-order")) }
/-- from s to t only a new set of the ints of ns was laid at S -/
def Filled (w : World) (ns : List Int) (S : Addr) (s t : Shared) : Prop :=
  ∃ (m : Heap) (k c : Nat), t = { s with heap := m, toks := k } ∧ s.toks ≤ k ∧ c ≤ ns.length ∧ SetR w m S (fun j => decide (j ∈ ns)) c ∧ ∀ b o, b ≠ S → s.heap.get? b = some o → m.get? b = some o
section
variable {P : Program} {w : World} {A A' : Around} {E : Value → Shared → Prop}
theorem setInit_list {s : Shared} {S l : Addr} {xs : Array Value} {ns : List Int} (calm : A.handled = none) (at0 : s.heap.get? S = some (nilSet w)) (atl : s.heap.IsList l xs)
    (apart : l ≠ S) (whole : IntsAre xs.toList ns) (few : ns.length + 1 < scanBound) :
    wpAny (model P w) A (Builtin.«set.__init__» ⟨[.ref S, .ref l], []⟩) (fun fin t => match fin with
      | .done f => Except.ok f = (.ok (.ret .none) : Result) ∧ Filled w ns S s t
      | .again c => c.quiet = true ∧ codeAny (model P w) A' c (fun r t => r = .ok (.ret .none) ∧ Filled w ns S s t) t) E s := by
  have long : xs.size = ns.length := by
    have := IntsAre.length whole
    rwa [Array.length_toList] at this
  have old : S < s.heap.objs.size := Heap.lt_size at0
  have oldl : l < s.heap.objs.size := by
    have ⟨o, z, _⟩ := atl
    exact Heap.lt_size z
  have isS : s.TypeIs (.ref S) "set" := ⟨_, at0, rfl⟩
  have isL : s.TypeIs (.ref l) "list" := atl.typeIs
  have notSet := F.sub_list_set
  have notFroz := F.sub_list_frozenset
  have notDict : (Value.type "list" == Value.type "dict") = false := by decide
  obtain ⟨lo, lz, lc, lk, ld⟩ := id atl
  rcases lo with ⟨c0, d0, x0, y0⟩
  simp only at lc ld
  subst lc ld
  unfold nilSet at at0
  (unfold Builtin.«set.__init__» noKeywords Builtin.Frozenset.updateFrom)
  generalize e0 : pyIter = it
  wp_walk
  rw [← e0]
  refine wpAny_pyIter_list atl (wpAny_bind (wpAny_runValue ?_))
  have sz : (s.heap.push { cls := .type "list_iterator", data := .fields #[.ref l, .int 0 0] }).objs.size = s.heap.objs.size + 1 := Heap.size_push ..
  have offI : l ≠ s.heap.objs.size := Nat.ne_of_lt oldl
  have offS : S ∉ [s.heap.objs.size, l] := by
    intro z
    rcases List.mem_cons.mp z with e | z
    · exact absurd e (Nat.ne_of_lt old)
    · exact apart (List.mem_singleton.mp z).symm
  have each : ∀ (i : Nat) (v : Value), xs[i]? = some v → ∃ k t, ns[i]? = some k ∧ v = .int k t := by
    intro i v hv
    have lt : i < ns.length := by
      have := (Array.getElem?_eq_some_iff.mp hv).1
      omega
    obtain ⟨t, ht⟩ := IntsAre.int_at whole i v (by rw [Array.getElem?_toList, hv])
    have get := List.getElem?_eq_getElem lt
    rw [List.getD_eq_getElem?_getD, get] at ht
    exact ⟨ns[i], t, get, ht⟩
  have W := (Walks.list (prog := P) (w := w) (A := A.in1) (by simpa using calm) s.heap.objs.size l offI xs).toS
  refine set_update_ints W S offS ns long few each xs.size 0 _ (by omega) (Nat.zero_le _) ⟨⟨_, Heap.get?_push_size _ rfl, rfl, rfl⟩, atl.push _⟩
    ⟨0, Nat.le_refl 0, setR_new_at (Heap.get?_push_of_some _ at0)⟩ fun t c mv cle done => ?_
  refine wpAny_pure (wpAny_pure ⟨rfl, t.heap, t.toks, c, ?_, mv.toks, long ▸ cle, done, fun b o off e => ?_⟩)
  · have g : t.gens = s.gens := mv.gens
    have d : t.drawn = s.drawn := mv.drawn
    have o : t.os = s.os := mv.os
    rw [← g, ← d, ← o]
  · refine mv.heap b o (fun z => ?_) (Heap.get?_push_of_some _ e)
    rcases List.mem_cons.mp z with q | z
    · exact off q
    · exact absurd (List.mem_singleton.mp z) (Nat.ne_of_lt (Heap.lt_size e))
/-- set(xs) -/
theorem call_setOf_list {s : Shared} {l : Addr} {xs : Array Value} {ns : List Int} {Q : Value → Shared → Prop} (calm : A.handled = none) (atl : s.heap.IsList l xs) (whole : IntsAre xs.toList ns) (few : ns.length + 1 < scanBound)
    (q : ∀ t, Filled w ns s.heap.objs.size s t → Q (.ref s.heap.objs.size) t) : wpAny (model P w) A (call (.type "set") [.ref l]) Q E s := by
  have ⟨c, tl, mro⟩ := F.called_set.mro
  have made := F.called_set.made
  have same := F.called_set.sub
  have plainT := F.called_set.notType
  have can := F.called_set.canCreate
  have args := F.typeCall_set_1 (.ref l)
  refine wpAny_call (codeAny_of_tree (wpAny_pure ⟨Code.quiet_builtin _ (by decide +kernel), codeAny_builtin F.entry_type_call ?_⟩))
  (rw [Around.under_plain (weight_type_call_type "set" [.ref l] []) rfl])
  repeat (any_goals (first | wp_step | assumption))
  refine codeAny_mono (code_set_led1 (.ref l) (Q₁ := fun v t => v = .ref s.heap.objs.size ∧ t = { s with heap := s.heap.push (nilSet w) }) (E := E) ⟨rfl, rfl⟩) fun r t hr => ?_
  rcases r with e | (v | _ | _ | _)
  case error => exact hr
  case ok.ret =>
    rcases hr with ⟨rfl, rfl⟩
    have at0 : (s.heap.push (nilSet w)).get? s.heap.objs.size = some (nilSet w) := Heap.get?_push_size _ rfl
    have isS : Shared.TypeIs { s with heap := s.heap.push (nilSet w) } (.ref s.heap.objs.size) "set" := ⟨_, at0, rfl⟩
    have look := F.called_set.init.lookup
    have bind := F.called_set.init.bind (.ref s.heap.objs.size)
    have apart : l ≠ s.heap.objs.size := by
      have ⟨o, z, _⟩ := atl
      exact Nat.ne_of_lt (Heap.lt_size z)
    repeat (any_goals (first | wp_step | assumption))
    refine codeAny_mono (codeAny_call_builtin (R := fun r t => r = .ok (.ret .none) ∧ Filled w ns s.heap.objs.size { s with heap := s.heap.push (nilSet w) } t)
      F.called_set.init.plain F.entry_set_init (check_set_init_1 isS (setInit_list (by simpa using calm) at0 (atl.push _) apart whole few))) fun r t hr => ?_
    rcases hr with ⟨rfl, m, k, n, rfl, later, le, R, keep⟩
    repeat (any_goals (first | wp_step | assumption))
    exact q _ ⟨m, k, n, rfl, later, le, R, fun b o off e => keep b o off (Heap.get?_push_of_some _ e)⟩
  all_goals exact hr.elim
end
/-! ### its members in order -/
/-- each of xs once, ascending -/
def dstI : List Int → List Int
  | [] => []
  | x :: xs => if x ∈ xs then dstI xs else putI x (dstI xs)
theorem mem_putI {x y : Int} {xs : List Int} : y ∈ putI x xs ↔ y = x ∨ y ∈ xs := by
  rw [(putI_perm x xs).mem_iff, List.mem_cons]
theorem mem_dstI {y : Int} : ∀ {xs : List Int}, y ∈ dstI xs ↔ y ∈ xs
  | [] => Iff.rfl
  | x :: xs => by
    unfold dstI
    by_cases h : x ∈ xs
    · rw [if_pos h, mem_dstI, List.mem_cons]
      exact ⟨.inr, fun q => q.elim (fun e => e ▸ h) id⟩
    · rw [if_neg h, mem_putI, mem_dstI, List.mem_cons]
theorem putI_asc' {x : Int} : ∀ {ys : List Int}, x ∉ ys → ys.Pairwise (· < ·) → (putI x ys).Pairwise (· < ·)
  | [], _, _ => by simp [putI]
  | y :: ys, h, q => by
    have h1 := List.pairwise_cons.mp q
    have ne : x ≠ y := fun e => h (e ▸ List.mem_cons_self)
    unfold putI
    by_cases c : x ≤ y
    · rw [if_pos c]
      refine List.pairwise_cons.mpr ⟨fun z hz => ?_, q⟩
      rcases List.mem_cons.mp hz with e | m
      · omega
      · have := h1.1 z m
        omega
    · rw [if_neg c]
      refine List.pairwise_cons.mpr ⟨fun z hz => ?_, putI_asc' (fun z => h (List.mem_cons_of_mem _ z)) h1.2⟩
      rcases mem_putI.mp hz with e | m
      · omega
      · exact h1.1 z m
theorem dstI_asc : ∀ (xs : List Int), (dstI xs).Pairwise (· < ·)
  | [] => .nil
  | x :: xs => by
    unfold dstI
    by_cases h : x ∈ xs
    · rw [if_pos h]
      exact dstI_asc xs
    · rw [if_neg h]
      exact putI_asc' (fun z => h (mem_dstI.mp z)) (dstI_asc xs)
theorem asc_same : ∀ {xs ys : List Int}, xs.Pairwise (· < ·) → ys.Pairwise (· < ·) → (∀ k, k ∈ xs ↔ k ∈ ys) → xs = ys
  | [], [], _, _, _ => rfl
  | [], y :: ys, _, _, h => absurd ((h y).mpr List.mem_cons_self) (by simp)
  | x :: xs, [], _, _, h => absurd ((h x).mp List.mem_cons_self) (by simp)
  | x :: xs, y :: ys, hx, hy, h => by
    have h1 := List.pairwise_cons.mp hx
    have h2 := List.pairwise_cons.mp hy
    have e : x = y := by
      rcases List.mem_cons.mp ((h x).mp List.mem_cons_self) with e | m
      · exact e
      · rcases List.mem_cons.mp ((h y).mpr List.mem_cons_self) with e | m'
        · exact e.symm
        · have := h2.1 x m
          have := h1.1 y m'
          omega
    subst e
    rw [asc_same h1.2 h2.2 fun k => ⟨fun m => ?_, fun m => ?_⟩]
    · rcases List.mem_cons.mp ((h k).mp (List.mem_cons_of_mem _ m)) with e | m'
      · have := h1.1 k m
        omega
      · exact m'
    · rcases List.mem_cons.mp ((h k).mpr (List.mem_cons_of_mem _ m)) with e | m'
      · have := h2.1 k m
        omega
      · exact m'
/-! ### sorted(set(xs)) -/
def rSetL (w : World) : List V → Hp → VK → Prop := fun vs H Q => ∃ (l : Addr) (ns : List Int), vs = [V.ref l] ∧ H l = some (.lst (ns.map V.int)) ∧ ns.length + 1 < scanBound ∧
  ∀ p n, H p = none → n ≤ ns.length → Q (.ref p) (upd H p (SetO w p (fun j => decide (j ∈ ns)) n))
section
variable {X : Cx} {S : Sx} {k : Nat}
theorem cr_setL (calm : X.calm = true) : CallR X (.type "set") (rSetL X.w) := by
  intro pins s σ H vs us Q I rel law
  obtain ⟨l, ns, rfl, at0, few, q⟩ := law
  rw [Vals.ref1 rel]
  have ⟨_, its, c, hv, hg⟩ := I.hok l _ at0
  refine call_setOf_list (ns := ns) (I.ok.hd calm) ⟨_, hg, rfl, c, rfl⟩ (by simpa using ints_of_vals hv) few fun t ht => ?_
  rcases ht with ⟨m, tk, n, rfl, later, le, R, keep⟩
  refine ⟨.ref _, _, I.laid (t' := tk) (fun b u e => keep b u (Nat.ne_of_lt (Heap.lt_size e)) e) (Nat.le_refl _) (setO_new R), rfl, q _ n (I.hok.fresh (Nat.le_refl _)) le⟩
/-- something new that nobody holds -/
theorem Rs.junk {F : Hp} {ρ : Rho} {σ : L2.St} {H : Hp} {p : Addr} (o : HO) (R : Rs S F ρ σ H) (hp : H p = none) : Ext (Own ρ σ) F H (Own ρ σ) F (upd H p o) ∧ Rs S F ρ σ (upd H p o) := by
  have up : ∀ a u, H a = some u → upd H p o a = some u := fun a u q => by
    rw [upd_ne (ne_of_none q hp)]
    exact q
  refine ⟨⟨fun _ _ q => q, fun _ q => .inl q, fun a u q _ => up a u q, fun a q => ?_, fun _ q => .inl q⟩, ⟨fun a u q => up a u (R.ex a u q), R.len, R.fr, fun i ds q => ?_, R.sep, R.pin, R.sm⟩⟩
  · cases e : H a with
    | none => exact absurd e q
    | some u => simp [up a u e]
  · obtain ⟨p', vs', q1, q2, q3, q4⟩ := R.ow i ds q
    exact ⟨p', vs', q1, q2, q3.mono (up _), q4⟩
def gSrtSet : List PD → Option Rv
  | [.list ds] => match ints? ds with
    | some ns => if ns.length < 64 then some (.ow ((dstI ns).map .int)) else none
    | none => none
  | _ => none
theorem sim_srtSet : SimC X S (fun vs H Q => rSetL X.w vs H fun x H1 => rSortedSet X.w [x] H1 Q) gSrtSet := by
  intro F ρ σ H vs ds z Q R hv hz q
  unfold gSrtSet at hz
  split at hz
  · rename_i ds'
    split at hz
    · rename_i ns c
      split at hz
      · rename_i lt
        cases hz
        obtain rfl := ints?_eq c
        obtain ⟨v, rfl, hd⟩ := hv.one
        cases hd with
        | lst h1 h2 =>
          have e := h2.ints
          subst e
          have room : ns.length + 1 < scanBound := by unfold scanBound; omega
          refine ⟨_, ns, rfl, R.ex _ _ h1, room, fun p n hp le => ?_⟩
          obtain ⟨e1, R1⟩ := R.junk (SetO X.w p (fun j => decide (j ∈ ns)) n) hp
          refine ⟨p, _, n, rfl, upd_same, by omega, fun ks r asc mem len hr => ?_⟩
          have e := asc_same asc (dstI_asc ns) fun k => by rw [mem k, mem_dstI, decide_eq_true_iff]
          subst e
          refine R1.newL hr (rpa_ints _) fun F' H' v e2 R2 r2 => q F' H' v (e1.trans e2) R2 (r2.mono e1)
      · cases hz
    · cases hz
  · cases hz
variable {e : Expr} {p p' pos pos' : Pos}
theorem xe_srtSet (o : Okx X S k) {m : Rho → Rz (List PD)} (hm : S.mg "sorted" = none) (hm' : S.mg "set" = none) (ha : XA X S [e] m) (hg : Gl X "sorted" := by rfl) (hg' : Gl X "set" := by rfl)
    (he : starEach [e] X.env = [(false, eval e X.env)] := by rfl) : XE X S (.Call (.Name "sorted" p) [.Call (.Name "set" p') [e] [] pos'] [] pos) (mCB gSrtSet m) :=
  PE.imp (pe_callB (cr_sortedSet o.calm) hg (o.hM ▸ hm) (by decide +kernel) (pa_cons (pe_callTy (cr_setL o.calm) hg' (o.hM ▸ hm') (by decide +kernel) ha (by decide) (by decide) he (by rfl)) pa_nil) (by decide) (by decide) (by rfl) (by rfl))
    fun _ _ _ q => sim_cb sim_srtSet q
end
@[simp] theorem gSrtSet_ints {ns : List Int} (h : ns.length < 64) : gSrtSet [.list (ns.map .int)] = some (.ow ((dstI ns).map .int)) := by
  unfold gSrtSet
  simp [ints?_map, h]
end Sd
namespace Sd
open PySem L2 PySem.Spec PyProof.Rows
/-! ### seen = {}; for ..: seen[key] = True; len(seen) -/
section
variable {θ : Type} [DecidableEq θ]
def addK (ks : List θ) (k : θ) : List θ := if k ∈ ks then ks else ks ++ [k]
theorem putK_keys (kvs : List (θ × V)) (k : θ) (v : V) : (putK kvs k v).map Prod.fst = addK (kvs.map Prod.fst) k := by
  have e : (kvs.any fun kv => decide (kv.1 = k)) = true ↔ k ∈ kvs.map Prod.fst := by
    rw [List.any_eq_true, List.mem_map]
    exact ⟨fun ⟨x, h, q⟩ => ⟨x, h, of_decide_eq_true q⟩, fun ⟨x, h, q⟩ => ⟨x, h, decide_eq_true q⟩⟩
  unfold putK addK
  by_cases c : (kvs.any fun kv => decide (kv.1 = k)) = true
  · rw [if_pos c, if_pos (e.mp c), List.map_map]
    (refine List.map_congr_left fun x _ => ?_)
    show (if x.1 = k then (x.1, v) else x).1 = x.1
    split <;> rfl
  · rw [if_neg c, if_neg fun z => c (e.mpr z), List.map_append]
    rfl
end
/-- a kind of dict: how it stands in the heap, which data are its keys -/
structure Kd (θ : Type) where
  ho : List (θ × V) → HO
  key : PD → Option θ
section
variable {θ : Type} [DecidableEq θ]
structure KdOk (D : Kd θ) : Prop where
  put : ∀ {K : PySem.W.Frag} {F H : Hp} {a : Addr} {kvs : List (θ × V)} {v w : V} {d : PD} {k : θ}, (∀ a o, F a = some o → H a = some o) → Rp K F v d → D.key d = some k → H a = some (D.ho kvs) → kvs.length < sizeLine → DPut H a v w (upd H a (D.ho (putK kvs k w)))
  nl : ∀ kvs vs, D.ho kvs ≠ .lst vs
  kl : ∀ ds, D.key (.list ds) = none
  new : ∀ {X : Cx} {pos : Pos}, PE X (.Dict [] [] pos) fun _ H Q => ∀ p, H p = none → Q (.ref p) (upd H p (D.ho []))
  len : ∀ {X : Cx}, CallR X (.builtin "len") fun xs H Q => ∃ (p : Addr) (kvs : List (θ × V)), xs = [.ref p] ∧ H p = some (D.ho kvs) ∧ Q (.int ((kvs.length : Nat) : Int)) H
variable {X : Cx} {S : Sx} {k : Nat} {D : Kd θ}
/-- the i-th name holds a dict with these keys; all is told from an earlier place -/
def tHd (S : Sx) (D : Kd θ) (i : Nat) (m : List θ → Rho → Rz Fl) : TS := fun E σ H => ∃ F0 ρ0 σ0 H0 F ρ p kvs, H0 p = none ∧ Ext (Own ρ0 σ0) F0 H0 (Own ρ σ) F H ∧ Rs S F ρ σ H ∧ σ[i]? = some (some (.ref p)) ∧ F p = none ∧ H p = some (D.ho kvs) ∧
  PostS S F0 ρ0 σ0 H0 (m (kvs.map Prod.fst) ρ) E
theorem hd_free (o : KdOk D) (hT : ∀ i, S.T i = none) {F : Hp} {ρ : Rho} {σ : L2.St} {H : Hp} {p : Addr} {kvs : List (θ × V)} (R : Rs S F ρ σ H) (h : H p = some (D.ho kvs)) : ¬ Own ρ σ p := fun ⟨i, ds, z1, z2⟩ => by
  obtain ⟨p', vs, q1, _, q3, _⟩ := R.ow i ds z1
  replace q3 := q3.lst (hT i)
  rw [q1] at z2
  have e : p' = p := by injection z2 with z2; injection z2 with z2; injection z2
  rw [e, h] at q3
  exact o.nl _ _ (Option.some.inj q3)
theorem hd_step (o : KdOk D) (hT : ∀ i, S.T i = none) {F F' : Hp} {ρ : Rho} {σ : L2.St} {H H' : Hp} {O' : Addr → Prop} {p : Addr} {kvs : List (θ × V)} (R : Rs S F ρ σ H) (hF : F p = none) (h : H p = some (D.ho kvs)) (e : Ext (Own ρ σ) F H O' F' H') : F' p = none ∧ H' p = some (D.ho kvs) := by
  have n := hd_free o hT R h
  refine ⟨?_, e.kp p _ h n⟩
  cases c : F' p with
  | none => rfl
  | some u =>
    rcases e.nw p (by rw [c]; simp) with z | z | z
    · exact absurd hF z
    · rw [h] at z; cases z
    · exact absurd z n
theorem hd_put (o : KdOk D) (hT : ∀ i, S.T i = none) {F0 F : Hp} {O0 : Addr → Prop} {ρ : Rho} {σ : L2.St} {H0 H : Hp} {p : Addr} {kvs : List (θ × V)} {u : HO} (h0 : H0 p = none) (e : Ext O0 F0 H0 (Own ρ σ) F H) (R : Rs S F ρ σ H) (hF : F p = none) (h : H p = some (D.ho kvs)) :
    Ext O0 F0 H0 (Own ρ σ) F (upd H p u) ∧ Rs S F ρ σ (upd H p u) := by
  refine ⟨⟨e.fz, e.nw, fun a w z n => ?_, fun a z => ?_, e.ow⟩, ⟨fun a w z => ?_, R.len, R.fr, fun i ds z => ?_, R.sep, R.pin, R.sm⟩⟩
  · rw [upd_ne (ne_of_none z h0)]
    exact e.kp a w z n
  · by_cases c : a = p
    · subst c
      exact absurd h0 z
    · rw [upd_ne c]
      exact e.st a z
  · rw [upd_ne (ne_of_none z hF)]
    exact R.ex a w z
  · obtain ⟨p', vs, q1, q2, q3, q4⟩ := R.ow i ds z
    replace q3 := q3.lst (hT i)
    have c : p' ≠ p := fun c => by
      rw [c, h] at q3
      exact o.nl _ _ (Option.some.inj q3)
    exact ⟨p', vs, q1, q2, .of (hT i) (by rw [upd_ne c]; exact q3), q4⟩
/-- the first part of a run told from an earlier place -/
theorem PostS.part {α : Type} {F0 F : Hp} {ρ0 ρ : Rho} {σ0 σ : L2.St} {H0 H : Hp} {E : Ends} {r : Rz α} {f : α → Rho → Rz Fl} (e : Ext (Own ρ0 σ0) F0 H0 (Own ρ σ) F H) (P : PostS S F0 ρ0 σ0 H0 (r.bind f) E) :
    PostE S σ F ρ H r fun F' ρ' H' a => Ext (Own ρ σ) F H (Own ρ' σ) F' H' ∧ Rs S F' ρ' σ H' ∧ PostS S F0 ρ0 σ0 H0 (f a ρ') E := by
  cases r with
  | ok a ρ' => exact fun F' H' e' R' => ⟨e', R', P⟩
  | exc c f' ρ' => exact fun F' H' cls dd e' R' x => P F' σ H' cls dd (e.trans e') R' x
  | stuck => exact P
def dkR (D : Kd θ) (g : PD → Rho → Option Rho) (mk : Rho → Rz Rv) : List PD → List θ → Rho → Rz (List θ)
  | [], ks, ρ => .ok ks ρ
  | d :: ds, ks, ρ => match g d ρ with
    | none => .stuck
    | some ρ1 => (mk ρ1).bind fun r ρ2 => match D.key r.d with
      | none => .stuck
      | some k => if ks.length < 1000000 then dkR D g mk ds (addK ks k) ρ2 else .stuck
def mDkFor (D : Kd θ) (mi : Rho → Rz (List PD)) (g : PD → Rho → Option Rho) (mk : Rho → Rz Rv) (m : List θ → Rho → Rz Fl) : List θ → Rho → Rz Fl := fun ks ρ => (mi ρ).bind fun ds ρ1 => (dkR D g mk ds ks ρ1).bind m
variable {tg iter key : Expr} {is : List Nat} {g : PD → Rho → Option Rho} {mi : Rho → Rz (List PD)} {mk : Rho → Rz Rv} {x : Str} {p1 p2 p3 p4 p5 p6 : Pos} {kb : Nat} {rest : List Stmt}
theorem xs_dkFor (o : Okx X S k) (od : KdOk D) (i : Nat) {m : List θ → Rho → Rz Fl} (hi : XI X S tg iter mi) (hg : XG X S tg is g) (hk : XE X S key mk) (hr : PSs X rest (tHd S D i m)) (his : i ∉ is := by decide) (hN : X.N[i]? = some x := by rfl)
    (hv : Vis X.env.scope x := by first | exact Or.inl rfl | exact Or.inr (Or.inl rfl) | exact Or.inr (Or.inr rfl)) (hd : (x == ("__debug__" : Str)) = false := by decide) (hcd : (x == ("__classdict__" : Str)) = false := by decide)
    (hs : swapsWith (.Constant (.bool true) kb p2) (some (.Subscript (.Name x p5) key p1)) p3.line X.env = pure false := by rfl) (hfs : ∀ z, foldedSetIterable iter X.env z = pure z := by intro _; rfl) (hT : ∀ i, S.T i = none := by intro _; rfl) :
    PSs X (.For tg iter [.Assign [.Subscript (.Name x p5) key p1] (.Constant (.bool true) kb p2) p3] [] p4 :: rest) (tHd S D i (mDkFor D mi g mk m)) :=
  PSs.imp (pss_cons (ps_for o.po o.calm hi hg (pss_cons (ps_dput (by have := o.un; omega) (pe_var (i := i) hN hv hd hcd) hk pe_bl hs) pss_nil) hfs) hr) fun E σ H q => by
    obtain ⟨F0, ρ0, σ0, H0, F, ρ, p, kvs, h0, e, R, hp, hF, hH, P⟩ := q
    refine ⟨F, ρ, R, PostE.mono (PostS.part e P) fun F1 ρ1 H1 ds _ _ ⟨e1, R1, P1⟩ J w => ?_⟩
    obtain ⟨hF1, hH1⟩ := hd_step od hT R hF hH e1
    refine ⟨fun j n σ' H' => n = ds.length - j ∧ j ≤ ds.length ∧ ∃ F' ρ' kvs', (∀ a u, F1 a = some u → F' a = some u) ∧ Ext (Own ρ0 σ0) F0 H0 (Own ρ' σ') F' H' ∧ Rs S F' ρ' σ' H' ∧ σ'[i]? = some (some (.ref p)) ∧ F' p = none ∧ H' p = some (D.ho kvs') ∧
      PostS S F0 ρ0 σ0 H0 ((dkR D g mk (ds.drop j) (kvs'.map Prod.fst) ρ').bind m) E,
      ⟨ds.length, rfl, Nat.zero_le _, F1, ρ1, kvs, fun _ _ z => z, e.trans e1, R1, hp, hF1, hH1, P1⟩, ?_⟩
    rintro j n σ' H' ⟨rfl, hle, F', ρ', kvs', up, e', R', hp', hF', hH', P'⟩
    have upH : ∀ a u, F1 a = some u → H' a = some u := fun a u z => R'.ex a u (up a u z)
    by_cases hlt : j < ds.length
    · refine .inr ⟨w.go j H' upH hlt, fun σ2 H2 => ∃ F2 ρ2 kvs2, (∀ a u, F1 a = some u → F2 a = some u) ∧ Ext (Own ρ0 σ0) F0 H0 (Own ρ2 σ2) F2 H2 ∧ Rs S F2 ρ2 σ2 H2 ∧ σ2[i]? = some (some (.ref p)) ∧ F2 p = none ∧ H2 p = some (D.ho kvs2) ∧
        PostS S F0 ρ0 σ0 H0 ((dkR D g mk (ds.drop (j + 1)) (kvs2.map Prod.fst) ρ2).bind m) E, fun σ2 H2 z => ⟨ds.length - (j + 1), by omega, rfl, hlt, z⟩, fun y H3 hy => ?_⟩
      have hdj : ds[j]? = some ds[j] := List.getElem?_eq_getElem hlt
      rw [List.drop_eq_getElem_cons hlt] at P'
      have item : ∃ F3, Ext (Own ρ' σ') F' H' (Own ρ' σ') F3 H3 ∧ Rs S F3 ρ' σ' H3 ∧ Rp S.K F3 y ds[j] := by
        rcases w.yld j H' y H3 _ upH hdj hy with ⟨rfl, hx⟩ | ⟨T, xs, es, hT, rfl, rfl, hds, ha⟩
        · exact ⟨F', Ext.refl, R', rp_mono up _ _ hx⟩
        · rw [hds]
          exact R'.withTup hT (rpa_mono up _ _ ha)
      obtain ⟨F3, e3, R3, D3⟩ := item
      obtain ⟨hF3, hH3⟩ := hd_step od hT R' hF' hH' e3
      refine ⟨F3, ρ', ds[j], R3, D3, ?_⟩
      unfold dkR at P'
      cases hgv : g ds[j] ρ' with
      | none =>
        rw [hgv] at P'
        exact P'.elim
      | some ρ4 =>
        rw [hgv] at P'
        simp only at P'
        intro F4 σ4 H4 e4 R4 st
        obtain ⟨hF4, hH4⟩ := hd_step od hT R3 hF3 hH3 e4
        have hp4 : σ4[i]? = some (some (.ref p)) := by rw [st.2 i his]; exact hp'
        have et := (e'.trans e3).trans e4
        refine ⟨.ref p, hp4, F4, ρ4, R4, ?_⟩
        cases hm : mk ρ4 with
        | stuck => rw [hm] at P'; exact P'.elim
        | exc c f ρ5 => rw [hm] at P'; exact fun F5 H5 cls dd e5 R5 z => P' F5 σ4 H5 cls dd (et.trans e5) R5 z
        | ok r ρ5 =>
          intro F5 H5 e5 R5 v hv
          rw [hm] at P'
          obtain ⟨hF5, hH5⟩ := hd_step od hT R4 hF4 hH4 e5
          have et5 := et.trans e5
          have P5 : PostS S F0 ρ0 σ0 H0 ((match D.key r.d with
            | none => Rz.stuck
            | some k => if (kvs'.map Prod.fst).length < 1000000 then dkR D g mk (ds.drop (j + 1)) (addK (kvs'.map Prod.fst) k) ρ5 else Rz.stuck).bind m) E := P'
          cases r with
          | ow xs =>
            have z : D.key (Rv.ow xs).d = none := od.kl xs
            rw [z] at P5
            exact P5.elim
          | fr d =>
            have ed : (Rv.fr d).d = d := rfl
            rw [ed] at P5
            cases hkey : D.key d with
            | none => rw [hkey] at P5; exact P5.elim
            | some k =>
              rw [hkey] at P5
              simp only at P5
              by_cases hl : (kvs'.map Prod.fst).length < 1000000
              · rw [if_pos hl] at P5
                have hl' : kvs'.length < sizeLine := by
                  rw [List.length_map] at hl
                  rw [sizeLine_eq]
                  omega
                refine ⟨p, _, rfl, od.put (w := .bl true) R5.ex hv hkey hH5 hl', ?_⟩
                obtain ⟨eu, Ru⟩ := hd_put od hT (u := D.ho (putK kvs' k (.bl true))) h0 et5 R5 hF5 hH5
                refine ⟨F5, ρ5, _, fun a u z => e5.fz a u (e4.fz a u (e3.fz a u (up a u z))), eu, Ru, hp4, hF5, upd_same, ?_⟩
                rw [putK_keys]
                exact P5
              · rw [if_neg hl] at P5; exact P5.elim
    · have e9 : j = ds.length := by omega
      subst e9
      refine .inl ⟨w.stop _ H' upH (Nat.le_refl _), ?_⟩
      rw [List.drop_length] at P'
      exact ⟨F0, ρ0, σ0, H0, F', ρ', p, kvs', h0, e', R', hp', hF', hH', P'⟩
theorem Rs.setNo {F : Hp} {ρ : Rho} {σ : L2.St} {H : Hp} {i : Nat} (R : Rs S F ρ σ H) (hi : i < ρ.length) (hJ : i ∉ S.J) (v : V) : Rs S F (ρ.set i .no) (σ.set i (some v)) H ∧ ∀ a, Own (ρ.set i .no) (σ.set i (some v)) a → Own ρ σ a := by
  have ne : ∀ {j : Nat} {c : Cl}, c ≠ .no → (ρ.set i .no)[j]? = some c → i ≠ j ∧ ρ[j]? = some c := fun {j c} hc z => by
    by_cases e : i = j
    · subst e
      rw [List.getElem?_set_self hi] at z
      exact absurd (Option.some.inj z).symm hc
    · rw [List.getElem?_set_ne e] at z
      exact ⟨e, z⟩
  refine ⟨⟨R.ex, by rw [List.length_set, List.length_set]; exact R.len, fun j d z => ?_, fun j ds z => ?_, fun j l dj dl p z1 z2 z3 z4 => ?_, fun j hj => ?_, R.sm⟩, fun a ⟨j, ds, z1, z2⟩ => ?_⟩
  · obtain ⟨e, z⟩ := ne (by intro c; cases c) z
    rw [List.getElem?_set_ne e]
    exact R.fr j d z
  · obtain ⟨e, z⟩ := ne (by intro c; cases c) z
    rw [List.getElem?_set_ne e]
    exact R.ow j ds z
  · obtain ⟨e1, z1⟩ := ne (by intro c; cases c) z1
    obtain ⟨e2, z2⟩ := ne (by intro c; cases c) z2
    rw [List.getElem?_set_ne e1] at z3
    rw [List.getElem?_set_ne e2] at z4
    exact R.sep j l dj dl p z1 z2 z3 z4
  · rw [List.getElem?_set_ne (fun e : i = j => hJ (by rw [e]; exact hj))]
    exact R.pin j hj
  · obtain ⟨e, z1⟩ := ne (by intro c; cases c) z1
    rw [List.getElem?_set_ne e] at z2
    exact ⟨j, ds, z1, z2⟩
/-- x = {} -/
def mDk0 (i : Nat) (m : List θ → Rho → Rz Fl) : Rho → Rz Fl := fun ρ => if i < ρ.length then m [] (ρ.set i .no) else .stuck
theorem xs_dk0 (o : Okx X S k) (od : KdOk D) (i : Nat) {m : List θ → Rho → Rz Fl} (hr : PSs X rest (tHd S D i m)) (hJ : i ∉ S.J := by first | exact nj rfl | decide) (hi : X.N[i]? = some x := by rfl) (hx : Loc X.env.scope x := by first | exact Or.inl rfl | exact Or.inr rfl)
    (hs : swapsWith (.Dict [] [] p2) (some (.Name x p1)) p3.line X.env = pure false := by rfl) (hf : X.fn x = true ∨ X.env.scope.names.lookup x = some .local := by first | exact .inl rfl | exact .inr rfl | assumption) :
    XSs X S (.Assign [.Name x p1] (.Dict [] [] p2) p3 :: rest) (mDk0 i m) :=
  PSs.imp (pss_cons (ps_set o.nd hi hx od.new hs hf) hr) fun E σ H q => by
    obtain ⟨F, ρ, R, P⟩ := q
    intro p hp
    unfold mDk0 at P
    by_cases hl : i < ρ.length
    · rw [if_pos hl] at P
      obtain ⟨e1, R1⟩ := R.junk (D.ho []) hp
      obtain ⟨R2, h2⟩ := R1.setNo hl hJ (.ref p)
      have hF : F p = none := by
        cases c : F p with
        | none => rfl
        | some u => rw [R.ex p u c] at hp; cases hp
      refine ⟨F, ρ, σ, H, F, ρ.set i .no, p, [], hp, ⟨e1.fz, e1.nw, e1.kp, e1.st, fun a z => .inl (h2 a z)⟩, R2, List.getElem?_set_self (by rw [← R.len]; exact hl), hF, upd_same, P⟩
    · rw [if_neg hl] at P
      exact P.elim
/-- return len(x) == y -/
def mDkEq (j n : Nat) : Rho → Rz Fl := fun ρ => match ρ[j]? with
  | some (.fr (.int t)) => .ok (.rt (.fr (.bool (decide (((n : Nat) : Int) = t))))) ρ
  | _ => .stuck
theorem pss_dkEq (o : Okx X S k) (od : KdOk D) (i j : Nat) {y : Str} (hm : S.mg "len" = none) (hg : Gl X "len" := by rfl) (hN : X.N[i]? = some x := by rfl) (hM : X.N[j]? = some y := by rfl)
    (hv : Vis X.env.scope x := by first | exact Or.inl rfl | exact Or.inr (Or.inl rfl) | exact Or.inr (Or.inr rfl)) (hd : (x == ("__debug__" : Str)) = false := by decide) (hcd : (x == ("__classdict__" : Str)) = false := by decide)
    (hv' : Vis X.env.scope y := by first | exact Or.inl rfl | exact Or.inr (Or.inl rfl) | exact Or.inr (Or.inr rfl)) (hd' : (y == ("__debug__" : Str)) = false := by decide) (hcd' : (y == ("__classdict__" : Str)) = false := by decide) :
    PSs X [.Return (some (.Compare (.Call (.Name "len" p1) [.Name x p2] [] p3) [.Eq] [.Name y p4] p5)) p6] (tHd S D i fun ks => mDkEq j ks.length) :=
  PSs.imp (pss_cons (ps_ret (pe_cmp (pc_eqI (pe_callB od.len hg (o.hM ▸ hm) PySem.boot_len (pa_cons (pe_var (i := i) hN hv hd hcd) pa_nil)) (pe_var (i := j) hM hv' hd' hcd')))) pss_nil) fun E σ H q => by
    obtain ⟨F0, ρ0, σ0, H0, F, ρ, p, kvs, h0, e, R, hp, hF, hH, P⟩ := q
    unfold mDkEq at P
    dsimp only at P
    split at P
    · rename_i t hj
      obtain ⟨v, hvj, hd⟩ := R.fr j _ hj
      cases hd
      refine ⟨.ref p, hp, p, kvs, rfl, hH, .int t, hvj, ((kvs.length : Nat) : Int), t, rfl, rfl, ?_⟩
      have P2 := P F σ H e R (.bl (decide ((((kvs.map Prod.fst).length : Nat) : Int) = t))) (.bl _)
      rw [List.length_map] at P2
      exact P2
    · exact P.elim
/-- return len(x) -/
def mDkLen (n : Nat) : Rho → Rz Fl := fun ρ => .ok (.rt (.fr (.int ((n : Nat) : Int)))) ρ
theorem pss_dkLen (o : Okx X S k) (od : KdOk D) (i : Nat) (hm : S.mg "len" = none) (hg : Gl X "len" := by rfl) (hN : X.N[i]? = some x := by rfl)
    (hv : Vis X.env.scope x := by first | exact Or.inl rfl | exact Or.inr (Or.inl rfl) | exact Or.inr (Or.inr rfl)) (hd : (x == ("__debug__" : Str)) = false := by decide) (hcd : (x == ("__classdict__" : Str)) = false := by decide) :
    PSs X [.Return (some (.Call (.Name "len" p1) [.Name x p2] [] p3)) p6] (tHd S D i fun ks => mDkLen ks.length) :=
  PSs.imp (pss_cons (ps_ret (pe_callB od.len hg (o.hM ▸ hm) PySem.boot_len (pa_cons (pe_var (i := i) hN hv hd hcd) pa_nil))) pss_nil) fun E σ H q => by
    obtain ⟨F0, ρ0, σ0, H0, F, ρ, p, kvs, h0, e, R, hp, hF, hH, P⟩ := q
    refine ⟨.ref p, hp, p, kvs, rfl, hH, ?_⟩
    have P2 := P F σ H e R (.int (((kvs.map Prod.fst).length : Nat) : Int)) (.int _)
    rw [List.length_map] at P2
    exact P2
end
/-! ### the two kinds -/
section
variable {θ : Type} [DecidableEq θ] {X : Cx} {S : Sx} {k : Nat} {D : Kd θ} {rest : List Stmt} {x : Str} {pos : Pos}
/-- y, x = e, {} -/
def mDkPar (i j : Nat) (ma : Rho → Rz Rv) (m : List θ → Rho → Rz Fl) : Rho → Rz Fl := fun ρ => (ma ρ).bind fun r ρ1 => match r with
  | .fr d => if i < ρ1.length ∧ j < ρ1.length then m [] ((ρ1.set i (.fr d)).set j .no) else .stuck
  | .ow _ => .stuck
theorem xs_dkPar (o : Okx X S k) (od : KdOk D) (i j : Nat) {ma : Rho → Rz Rv} {m : List θ → Rho → Rz Fl} {a : Expr} {y : Str} {px py pt p0 : Pos} {kt k2 : Nat} {pt2 : Pos} (ha : XE X S a ma) (hr : PSs X rest (tHd S D j m))
    (hJ : i ∉ S.J ∧ j ∉ S.J := by first | exact ⟨nj rfl, nj rfl⟩ | decide) (hij : i ≠ j := by decide) (hi : X.N[i]? = some x := by rfl) (hj : X.N[j]? = some y := by rfl)
    (hx : X.env.scope.names.lookup x = some .local := by rfl) (hy : X.env.scope.names.lookup y = some .local := by rfl)
    (hw : swappedStores [.Tuple [.Name x px, .Name y py] kt pt] (.Tuple [a, .Dict [] [] p0] k2 pt2) X.env = pure (some [x, y]) := by rfl)
    (hs : swapsWithSole [.Tuple [.Name x px, .Name y py] kt pt] (.Tuple [a, .Dict [] [] p0] k2 pt2) pos.line X.env = pure false := by rfl)
    (he : starEach [a, .Dict [] [] p0] X.env = (false, eval a X.env) :: starEach [.Dict [] [] p0] X.env := by rfl) (he2 : starEach [.Dict [] [] p0] X.env = [(false, eval (.Dict [] [] p0) X.env)] := by rfl) :
    XSs X S (.Assign [.Tuple [.Name x px, .Name y py] kt pt] (.Tuple [a, .Dict [] [] p0] k2 pt2) pos :: rest) (mDkPar i j ma m) :=
  PSs.imp (pss_cons (ps_par o.calm o.nd hi hj hij hx hy (pa_cons ha (pa_cons od.new pa_nil he2) he) hw hs) hr) fun E σ H q => by
    obtain ⟨F, ρ, R, P⟩ := q
    refine ⟨F, ρ, R, ?_⟩
    unfold mDkPar at P
    cases hm : ma ρ with
    | stuck => rw [hm] at P; exact P.elim
    | exc c f ρ1 => rw [hm] at P; exact fun F1 H1 cls dd e1 R1 z => P F1 σ H1 cls dd e1 R1 z
    | ok r ρ1 =>
      rw [hm] at P
      intro F1 H1 e1 R1 v hv
      cases r with
      | ow ds => exact P.elim
      | fr d =>
        have P1 : PostS S F ρ σ H (if i < ρ1.length ∧ j < ρ1.length then m [] ((ρ1.set i (.fr d)).set j .no) else .stuck) E := P
        by_cases hl : i < ρ1.length ∧ j < ρ1.length
        · rw [if_pos hl] at P1
          intro p hp
          obtain ⟨e2, R2⟩ := R1.junk (D.ho []) hp
          obtain ⟨R3, h3⟩ := R2.setSlot (O0 := Own ρ1 σ) (H0 := upd H1 p (D.ho [])) (v := v) (r := .fr d) hv hl.1 hJ.1 (.inr ⟨_, rfl⟩)
          obtain ⟨R4, h4⟩ := R3.setNo (i := j) (by rw [List.length_set]; exact hl.2) hJ.2 (.ref p)
          have hF : F1 p = none := by
            cases c : F1 p with
            | none => rfl
            | some u => rw [R1.ex p u c] at hp; cases hp
          have et := e1.trans e2
          have own : ∀ a, Own ((ρ1.set i (Rv.fr d).cl).set j .no) ((σ.set i (some v)).set j (some (.ref p))) a → Own ρ1 σ a := fun a z => by
            obtain ⟨l, ds, z1, z2⟩ := h4 a z
            by_cases c : i = l
            · subst c
              rw [List.getElem?_set_self hl.1] at z1
              cases z1
            · rw [List.getElem?_set_ne c] at z1 z2
              exact ⟨l, ds, z1, z2⟩
          exact ⟨v, .ref p, rfl, F, ρ, σ, H, F1, _, p, [], e1.back hp, ⟨et.fz, et.nw, et.kp, et.st, fun a z => et.ow a (own a z)⟩, R4, List.getElem?_set_self (by rw [List.length_set, ← R1.len]; exact hl.2), hF, upd_same, P1⟩
        · rw [if_neg hl] at P1
          exact P1.elim
end
/-- tuples of ints -/
def kdT : Kd (List Key) where
  ho := .dT
  key := fun d => match d with
    | .tuple ds => (ints? ds).map fun ns => ns.map Sum.inl
    | _ => none
theorem kdT_ok : KdOk kdT where
  put := fun {K F H a kvs v w d k} up hv hk h hl => by
    unfold kdT at hk
    simp only at hk
    split at hk
    · rename_i ds
      cases c : ints? ds with
      | none => rw [c] at hk; cases hk
      | some ns =>
        rw [c] at hk
        (obtain rfl := Option.some.inj hk)
        obtain rfl := ints?_eq c
        cases hv with
        | tup h1 h2 =>
          have e := h2.ints
          subst e
          refine DPut.t h (up _ _ ?_) hl
          rw [h1, List.map_map]
          rfl
    · cases hk
  nl := fun kvs vs z => by cases z
  kl := fun ds => rfl
  new := pe_dnewT
  len := call_len_dT
/-- texts -/
def kdS : Kd Key where
  ho := .dK
  key := fun d => match d with
    | .str x => some (Sum.inr x)
    | _ => none
theorem kdS_ok : KdOk kdS where
  put := fun {K F H a kvs v w d k} up hv hk h hl => by
    unfold kdS at hk
    simp only at hk
    split at hk
    · obtain rfl := Option.some.inj hk
      cases hv
      exact DPut.k (k := Sum.inr _) h hl
    · cases hk
  nl := fun kvs vs z => by cases z
  kl := fun ds => rfl
  new := pe_dnewK
  len := call_lenD
end Sd
namespace Sd
open PySem L2 PySem.Spec PyProof.Rows
/-! ### objects of one's own: a class, its fields by name -/
/-- an object of the class C: the first of the fields ns have these values, there are no others -/
def obK (C : Addr) (ns : List Str) : List V → HO → Prop := fun vs o => ∃ dx fs, o = .ins C dx fs ∧ fs.length = vs.length ∧ vs.length ≤ ns.length ∧ (∀ (j : Nat) (f : Str), ns[j]? = some f → fs.lookup f = vs[j]?) ∧ ∀ f, f ∉ ns → fs.lookup f = none
theorem obK_ob {C : Addr} {ns : List Str} {vs : List V} {o : HO} (h : obK C ns vs o) : Ob o := by
  obtain ⟨dx, fs, rfl, _⟩ := h
  exact ⟨fun _ z => (by cases z), fun _ z => (by cases z), fun _ _ z => (by cases z)⟩
theorem putF_len (f : Str) (v : V) : ∀ fs : List (Str × V), (putF f v fs).length = if (fs.lookup f).isSome = true then fs.length else fs.length + 1
  | [] => rfl
  | (g, u) :: r => by
    have ih := putF_len f v r
    unfold putF
    rw [List.lookup_cons]
    by_cases c : g = f
    · subst c
      simp
    · have c' : (f == g) = false := beq_eq_false_iff_ne.mpr (Ne.symm c)
      rw [if_neg c, c']
      simp only [List.length_cons, ih]
      split <;> rfl
/-- the field in the n-th place set -/
def putA {α : Type} (n : Nat) (y : α) (vs : List α) : List α := if n < vs.length then vs.set n y else vs ++ [y]
theorem obK_put {C dx : Addr} {ns : List Str} {vs : List V} {fs : List (Str × V)} {n : Nat} {f : Str} {y : V} (nd : ns.Nodup) (hn : ns[n]? = some f) (hl : n ≤ vs.length) (h1 : fs.length = vs.length) (h2 : vs.length ≤ ns.length)
    (h3 : ∀ (j : Nat) (f : Str), ns[j]? = some f → fs.lookup f = vs[j]?) (h4 : ∀ f, f ∉ ns → fs.lookup f = none) : obK C ns (putA n y vs) (.ins C dx (putF f y fs)) := by
  have nl : n < ns.length := (List.getElem?_eq_some_iff.mp hn).1
  have lf := h3 n f hn
  refine ⟨dx, _, rfl, ?_, ?_, fun j g hj => ?_, fun g hg => ?_⟩
  · rw [putF_len, lf]
    unfold putA
    by_cases c : n < vs.length
    · rw [if_pos c, List.getElem?_eq_getElem c]
      simp [h1]
    · rw [if_neg c, List.getElem?_eq_none (by omega)]
      simp [h1]
  · unfold putA
    split
    · simpa using h2
    · simp
      omega
  · rw [lookup_putF]
    by_cases c : g = f
    · subst c
      have jn : j = n := by
        have jl : j < ns.length := (List.getElem?_eq_some_iff.mp hj).1
        exact (List.getElem?_inj jl nd).mp (hj.trans hn.symm)
      subst jn
      rw [if_pos rfl]
      unfold putA
      by_cases c : j < vs.length
      · rw [if_pos c, List.getElem?_set_self c]
      · rw [if_neg c, show j = vs.length by omega, List.getElem?_append_right (Nat.le_refl _), Nat.sub_self]
        rfl
    · rw [if_neg c, h3 j g hj]
      have jn : j ≠ n := fun z => c (by rw [z, hn] at hj; exact (Option.some.inj hj).symm)
      unfold putA
      by_cases d : n < vs.length
      · rw [if_pos d, List.getElem?_set_ne (Ne.symm jn)]
      · rw [if_neg d]
        by_cases e : j < vs.length
        · rw [List.getElem?_append_left e]
        · rw [List.getElem?_eq_none (by omega), List.getElem?_eq_none (by simp; omega)]
  · rw [lookup_putF, if_neg fun z => hg (by rw [z]; exact List.mem_of_getElem? hn), h4 g hg]
section
variable {X : Cx} {S : Sx} {k : Nat} {C : Addr} {ns : List Str} {x f : Str} {px pos pos' : Pos}
/-- x.f -/
def mFld (i n : Nat) : Rho → Rz Rv := fun ρ => match ρ[i]? with
  | some (.ow ds) => (match ds[n]? with
    | some d => .ok (.fr d) ρ
    | none => .stuck)
  | _ => .stuck
theorem xe_fld (o : Okx X S k) (i n : Nat) (hC : Cls X.K C) (hA : NoAttr X.K C f) (hT : S.T i = some (obK C ns)) (hn : ns[n]? = some f := by rfl) (hN : X.N[i]? = some x := by rfl)
    (hv : Vis X.env.scope x := by first | exact Or.inl rfl | exact Or.inr (Or.inl rfl) | exact Or.inr (Or.inr rfl)) (hd : (x == ("__debug__" : Str)) = false := by decide) (hcd : (x == ("__classdict__" : Str)) = false := by decide)
    (hb : attributeBase (.Name x px) f X.env (eval (.Name x px) X.env) = eval (.Name x px) X.env := by rfl) : XE X S (.Attribute (.Name x px) f pos) (mFld i n) :=
  PE.imp (pe_fld (pe_var (i := i) hN hv hd hcd) hb) fun σ H Q q => by
    obtain ⟨F, ρ, R, P⟩ := q
    unfold mFld at P
    split at P
    · rename_i ds hi
      obtain ⟨p, vs, e1, e2, e3, e4⟩ := R.ow i ds hi
      rw [hT] at e3
      obtain ⟨_, h0, ⟨dx, fs, rfl, h1, h2, h3, h4⟩, _⟩ := e3
      split at P
      · rename_i d hd
        obtain ⟨v, hv, D⟩ := e4.at hd
        exact ⟨.ref p, e1, p, C, dx, fs, v, rfl, h0, hC, hA, by rw [h3 n f hn, hv], PostE.ok P R v D⟩
      · exact P.elim
    · exact P.elim
/-- x.f = e -/
def mFset (i n : Nat) (m : Rho → Rz Rv) : Rho → Rz Fl := fun ρ => (m ρ).bind fun r ρ1 => match ρ1[i]? with
  | some (.ow ds) => if n ≤ ds.length ∧ n < 900 then .ok .nx (ρ1.set i (.ow (putA n r.d ds))) else .stuck
  | _ => .stuck
theorem rpa_putA {K : PySem.W.Frag} {F : Hp} {vs : List V} {ds : List PD} {v : V} {d : PD} (n : Nat) (h : RpAll K F vs ds) (hd : Rp K F v d) : RpAll K F (putA n v vs) (putA n d ds) := by
  unfold putA
  rw [h.len]
  split
  · exact RpAll.set hd n h
  · exact RpAll.app h (.cons hd .nil)
theorem xs_fset (o : Okx X S k) (i n : Nat) {m : Rho → Rz Rv} {value : Expr} (he : XE X S value m) (hC : Cls X.K C) (hA : NoAttr X.K C f) (hT : S.T i = some (obK C ns)) (nd : ns.Nodup := by decide) (hn : ns[n]? = some f := by rfl) (hs9 : ns.length ≤ 900 := by decide) (hN : X.N[i]? = some x := by rfl)
    (hv : Vis X.env.scope x := by first | exact Or.inl rfl | exact Or.inr (Or.inl rfl) | exact Or.inr (Or.inr rfl)) (hd : (x == ("__debug__" : Str)) = false := by decide) (hcd : (x == ("__classdict__" : Str)) = false := by decide)
    (hs : swapsWith value (some (.Attribute (.Name x px) f pos')) pos.line X.env = pure false := by rfl) : XS X S (.Assign [.Attribute (.Name x px) f pos'] value pos) (mFset i n m) :=
  PS.imp (ps_fld (pe_var (i := i) hN hv hd hcd) he hs) fun D σ H q => by
    obtain ⟨F, ρ, R, P⟩ := q
    refine tE.useS (g := fun d ρ1 => match ρ1[i]? with
      | some (.ow ds) => if n ≤ ds.length ∧ n < 900 then .ok .nx (ρ1.set i (.ow (putA n d ds))) else .stuck
      | _ => .stuck) R P fun v d F1 ρ1 H1 e1 R1 D1 P1 => ?_
    split at P1
    · rename_i ds hi
      split at P1
      · rename_i c
        obtain ⟨p, vs, s1, s2, s3, s4⟩ := R1.ow i ds hi
        have s3' := s3
        rw [hT] at s3'
        obtain ⟨_, h0, ⟨dx, fs, rfl, h1, h2, h3, h4⟩, _⟩ := s3'
        have kp := obK_put (C := C) (dx := dx) (y := v) nd hn (by rw [s4.len]; exact c.1) h1 h2 h3 h4
        obtain ⟨R2, x2⟩ := R1.mutG hi s1 (rpa_putA n s4 D1) (u := .ins C dx (putF f v fs)) (by
          rw [hT]
          exact ⟨_, upd_same, kp, obK_ob kp⟩)
        exact ⟨.ref p, s1, p, C, dx, fs, rfl, h0, hC, hA, by omega, P1 F1 σ _ x2 R2⟩
      · exact P1.elim
    · exact P1.elim
end
/-! ### methods and properties: the object is lent -/
/-- a def whose first parameter is an object that is lent, found by fnd -/
structure DkO (K : PySem.W.Frag) (mg : Str → Option Value) (P : Program) (w : World) (base : Heap) (k : Nat) (fnd : Addr → Prop) (T : Nat → Option (List V → HO → Prop)) (J : List Nat) (ps : List Str) (n N : Nat) (mb : Rho → Rz Fl) : Prop where
  ex : ∃ (f : Addr) (fd : FuncData), ps.length = n ∧ FnG P w K mg base k f fd ps (spMT K mg T n (fnM J n N mb)) ∧ fnd f ∧ Binds K fd ps []
theorem DkO.mono {K : PySem.W.Frag} {mg : Str → Option Value} {P : Program} {w : World} {base : Heap} {fnd : Addr → Prop} {T : Nat → Option (List V → HO → Prop)} {J : List Nat} {ps : List Str} {n N j k : Nat} {mb : Rho → Rz Fl} (D : DkO K mg P w base j fnd T J ps n N mb) (h : j ≤ k) : DkO K mg P w base k fnd T J ps n N mb := by
  obtain ⟨f, fd, a, b, c⟩ := D.ex
  exact ⟨f, fd, a, b.mono h, c⟩
section
variable {X : Cx} {S : Sx} {k n N : Nat} {C : Addr} {ns : List Str} {T : Nat → Option (List V → HO → Prop)} {ps : List Str} {mb : Rho → Rz Fl} {x m : Str} {px apos pos : Pos} {e : Expr} {es : List Expr} {ma : Rho → Rz (List PD)} {pl : Sem Bool}
/-- a method is looked for and called -/
def mthS (ov : Sem Value) (apos : Pos) (m : Str) (pl : Sem Bool) (k : Value → List Value → Sem Value) : Sem Value := ov >>= fun o => standAt apos.atName >>= fun _ => holding [o] (getMethod o m pl) >>= fun z => k z.1 z.2
/-- how a callee that raises nothing ends -/
theorem ended {pn : List (Addr × Obj)} {σ : L2.St} {H : Hp} {s s' : Shared} {Q : VK} {r : Result} (I : Inv X pn σ H s) (hq : CR (L2.CX X.prog X.w) X.stack X.prog X.w H s Q (fun _ _ _ => False) r s') : ∃ u v H', r = .ok (.ret u) ∧ Inv X pn σ H' s' ∧ RelV v u ∧ Q v H' := by
  match r, hq with
  | .ok (.ret u), hq =>
    have ⟨v, H', J, rv, q⟩ := I.after hq
    exact ⟨u, v, H', rfl, J, rv, q⟩
  | .error er, hq =>
    obtain ⟨_, _, _, _, _, _, _, _, _, _, _, _, z⟩ := hq
    exact z.elim
  | .ok .next, hq => exact False.elim hq
  | .ok .brk, hq => exact False.elim hq
  | .ok .cont, hq => exact False.elim hq
theorem xe_meth (o : Okx X S k) (D : DkO X.K X.mg X.prog X.w X.base k (Meth X.K C m) T [0] ps n N mb) (i : Nat) (hC : Cls X.K C) (ha : XA X S (e :: es) ma) (hT : S.T i = some (obK C ns)) (hT0 : T 0 = some (obK C ns)) (hns : m ∉ ns := by decide)
    (hN : X.N[i]? = some x := by rfl) (hv : Vis X.env.scope x := by first | exact Or.inl rfl | exact Or.inr (Or.inl rfl) | exact Or.inr (Or.inr rfl)) (hd : (x == ("__debug__" : Str)) = false := by decide) (hcd : (x == ("__classdict__" : Str)) = false := by decide)
    (hpl : (backTo pos (starEach es X.env)).any (·.1) = false := by rfl) (hst : starEach (e :: es) X.env = (false, eval e X.env) :: starEach es X.env := by rfl)
    (ht : eval (.Call (.Attribute (.Name x px) m apos) (e :: es) [] pos) X.env = mthS (eval (.Name x px) X.env) apos m pl fun f first => callWith pos f first (backTo pos (starEach (e :: es) X.env)) (backToKw pos (keywordEach [] X.env)) := by rfl) :
    XE X S (.Call (.Attribute (.Name x px) m apos) (e :: es) [] pos) (mCall0 i (fnM [0] n N mb) ma) := by
  obtain ⟨f, fd, hn, Fg, hm, hb⟩ := D.ex
  refine ⟨fun pn s σ H Q I h => ?_⟩
  obtain ⟨F, ρ, R, P⟩ := h
  unfold mCall0 at P
  cases hi : ρ[i]? with
  | none => rw [hi] at P; exact P.elim
  | some cc =>
    rw [hi] at P
    cases cc with
    | no => exact P.elim
    | fr d => exact P.elim
    | ow ts =>
      obtain ⟨a, us0, s1, _, s3, _⟩ := R.ow i ts hi
      rw [hT] at s3
      obtain ⟨_, h0, ⟨dx, fs, rfl, _, _, _, h4⟩, _⟩ := s3
      refine PySem.W.methodCall_KW (pl := pl) (thn ((pe_var (i := i) (pos := px) hN hv hd hcd).run pn s σ H (fun v H1 => v = .ref a ∧ H1 = H) I ⟨_, s1, rfl, rfl⟩) fun u sA ⟨y, H1, I1, rx, e1, e2⟩ => ?_) ht
      subst e1 e2
      (cases (show u = Value.ref a from rx))
      refine getmeth_ok I1 h0 hC hm (h4 m hns) ?_
      have q : tA S ma σ H1 fun vs H2 => spMT X.K X.mg T n (fnM [0] n N mb) (.ref a :: vs) H2 Q fun cls d H' => S.W cls d σ H' :=
        ⟨F, ρ, R, PostE.mono (PostE.bind P) fun F2 ρ2 H2 ds e2 R2 P2 vs hv => by
          rw [← o.hK, ← o.hM]
          exact call_sp0T rfl R2 s1 (hT0.trans hT.symm) hv ((P2 F2 e2).mono fun _ _ _ _ _ _ q => fun v hv => q v (hv.mono e2))⟩
      refine PySem.W.callWith_K (first := [.ref a]) (h₀ := X.base) I.ok.mod.kin hm.kp (thn (ha.run pos pn sA σ H1 _ I1 q) fun us s2 ⟨vs, H2, I2, r, q2⟩ => ⟨I2.kIn, ?_⟩) hst hpl
      exact run_g (us := .ref a :: us) (vs := .ref a :: vs) Fg o.gd o.rm hb o.tk I2 (.cons rfl r) q2
theorem xe_meth0 (o : Okx X S k) (D : DkO X.K X.mg X.prog X.w X.base k (Meth X.K C m) T [0] ps n N mb) (i : Nat) (hC : Cls X.K C) (hT : S.T i = some (obK C ns)) (hT0 : T 0 = some (obK C ns)) (hns : m ∉ ns := by decide)
    (hN : X.N[i]? = some x := by rfl) (hv : Vis X.env.scope x := by first | exact Or.inl rfl | exact Or.inr (Or.inl rfl) | exact Or.inr (Or.inr rfl)) (hd : (x == ("__debug__" : Str)) = false := by decide) (hcd : (x == ("__classdict__" : Str)) = false := by decide)
    (ht : eval (.Call (.Attribute (.Name x px) m apos) [] [] pos) X.env = mthS (eval (.Name x px) X.env) apos m pl fun f first => callWith pos f first (backTo pos (starEach [] X.env)) (backToKw pos (keywordEach [] X.env)) := by rfl) :
    XE X S (.Call (.Attribute (.Name x px) m apos) [] [] pos) (mCall0 i (fnM [0] n N mb) mNil) := by
  obtain ⟨f, fd, hn, Fg, hm, hb⟩ := D.ex
  refine ⟨fun pn s σ H Q I h => ?_⟩
  obtain ⟨F, ρ, R, P⟩ := h
  unfold mCall0 at P
  cases hi : ρ[i]? with
  | none => rw [hi] at P; exact P.elim
  | some cc =>
    rw [hi] at P
    cases cc with
    | no => exact P.elim
    | fr d => exact P.elim
    | ow ts =>
      obtain ⟨a, us0, s1, _, s3, _⟩ := R.ow i ts hi
      rw [hT] at s3
      obtain ⟨_, h0, ⟨dx, fs, rfl, _, _, _, h4⟩, _⟩ := s3
      refine PySem.W.methodCall_KW (pl := pl) (thn ((pe_var (i := i) (pos := px) hN hv hd hcd).run pn s σ H (fun v H1 => v = .ref a ∧ H1 = H) I ⟨_, s1, rfl, rfl⟩) fun u sA ⟨y, H1, I1, rx, e1, e2⟩ => ?_) ht
      subst e1 e2
      (cases (show u = Value.ref a from rx))
      refine getmeth_ok I1 h0 hC hm (h4 m hns) ?_
      have q : spMT X.K X.mg T n (fnM [0] n N mb) [.ref a] H1 Q fun cls d H' => S.W cls d σ H' := by
        rw [← o.hK, ← o.hM]
        exact call_sp0T rfl R s1 (hT0.trans hT.symm) .nil P
      exact PySem.W.callWith_K0 (first := [.ref a]) I1.kIn hm.kp (run_g (us := [.ref a]) (vs := [.ref a]) Fg o.gd o.rm hb o.tk I1 (.cons rfl .nil) q)
/-- f(x, ..), x an object that is lent -/
theorem xe_callO {y : Str} {py pp : Pos} (o : Okx X S k) (D : DkO X.K X.mg X.prog X.w X.base k (fun f => X.mg y = some (.ref f) ∧ PySem.W.keepIn X.K (.ref f) = true) T [0] ps n N mb) (hg : Gl X y) (i : Nat) (ha : XA X S es ma) (hT0 : T 0 = S.T i) (hN : X.N[i]? = some x := by rfl)
    (hv : Vis X.env.scope x := by first | exact Or.inl rfl | exact Or.inr (Or.inl rfl) | exact Or.inr (Or.inr rfl)) (hd : (x == ("__debug__" : Str)) = false := by decide) (hcd : (x == ("__classdict__" : Str)) = false := by decide)
    (ndb : (y == ("__debug__" : Str)) = false := by decide) (hs : starEach (.Name x pp :: es) X.env = (false, eval (.Name x pp) X.env) :: starEach es X.env := by rfl) (npl : (backTo pos (starEach es X.env)).any (·.1) = false := by rfl) :
    XE X S (.Call (.Name y py) (.Name x pp :: es) [] pos) (mCall0 i (fnM [0] n N mb) ma) := by
  obtain ⟨f, fd, hn, Fg, ⟨hm, hk⟩, hb⟩ := D.ex
  refine PE.imp (pe_callG Fg o.gd o.rm hg hm hk hb o.tk (pa_cons (pe_var hN hv hd hcd) ha hs) ndb hs npl) fun σ H Q q => ?_
  obtain ⟨F1, ρ, R, P⟩ := q
  unfold mCall0 at P
  cases hi : ρ[i]? with
  | none => rw [hi] at P; exact P.elim
  | some cc =>
    rw [hi] at P
    cases cc with
    | no => exact P.elim
    | fr d => exact P.elim
    | ow ts =>
      obtain ⟨pt, us, s1, _⟩ := R.ow i ts hi
      refine ⟨.ref pt, s1, F1, ρ, R, PostE.mono (PostE.bind P) fun F2 ρ2 H2 ds e2 R2 P2 vs hv => ?_⟩
      rw [← o.hK, ← o.hM]
      exact call_sp0T rfl R2 s1 hT0 hv ((P2 F2 e2).mono fun _ _ _ _ _ _ q => fun v hv => q v (hv.mono e2))
theorem callR0_exc {i : Nat} {m : Rho → Rz Rv} {ds : List PD} {ρ ρ' : Rho} {c : Str} {f : Option (Str × PD)} : callR0 i m ds ρ ≠ .exc c f ρ' := fun z => by
  unfold callR0 at z
  split at z
  · split at z <;> cases z
  · cases z
/-- x.f, a property -/
theorem xe_prop {f : Str} {k0 : Nat} (o : Okx X S k) (D : DkO X.K X.mg X.prog X.w X.base k0 (fun g => ∃ p, PropOf X.K C f p g) T [0] ps n N mb) (hk : k0 + 1 ≤ k) (i : Nat) (hC : Cls X.K C) (hT : S.T i = some (obK C ns)) (hT0 : T 0 = some (obK C ns)) (hN : X.N[i]? = some x := by rfl)
    (hv : Vis X.env.scope x := by first | exact Or.inl rfl | exact Or.inr (Or.inl rfl) | exact Or.inr (Or.inr rfl)) (hd : (x == ("__debug__" : Str)) = false := by decide) (hcd : (x == ("__classdict__" : Str)) = false := by decide)
    (hab : attributeBase (.Name x px) f X.env (eval (.Name x px) X.env) = eval (.Name x px) X.env := by rfl) : XE X S (.Attribute (.Name x px) f pos) (mCall0 i (fnM [0] n N mb) mNil) := by
  obtain ⟨g, fd, hn, Fg, ⟨pp, hp⟩, hb⟩ := D.ex
  refine ⟨fun pn s σ H Q I h => ?_⟩
  obtain ⟨F, ρ, R, P⟩ := h
  unfold mCall0 at P
  cases hi : ρ[i]? with
  | none => rw [hi] at P; exact P.elim
  | some cc =>
    rw [hi] at P
    cases cc with
    | no => exact P.elim
    | fr d => exact P.elim
    | ow ts =>
      obtain ⟨a, us0, s1, _, s3, _⟩ := R.ow i ts hi
      rw [hT] at s3
      obtain ⟨_, h0, ⟨dx, fs, rfl, _, _, _, h4⟩, _⟩ := s3
      refine attr_of hab (thn ((pe_var (i := i) (pos := px) hN hv hd hcd).run pn s σ H (fun v H1 => v = .ref a ∧ H1 = H) I ⟨_, s1, rfl, rfl⟩) fun u sA ⟨y, H1, I1, rx, e1, e2⟩ => ?_)
      subst e1 e2
      (cases (show u = Value.ref a from rx))
      have P0 : PostE S σ F ρ H1 (callR0 i (fnM [0] n N mb) [] ρ) fun F' ρ' H' r => ∀ v, RvR S (Own ρ σ) H1 (Own ρ' σ) F' H' v r → Q v H' := P
      have P1 : PostE S.quiet σ F ρ H1 (callR0 i (fnM [0] n N mb) [] ρ) fun F' ρ' H' r => ∀ v, RvR S.quiet (Own ρ σ) H1 (Own ρ' σ) F' H' v r → Q v H' := by
        cases hm : callR0 i (fnM [0] n N mb) [] ρ with
        | stuck => rw [hm] at P0; exact P0.elim
        | exc c f ρ' => exact absurd hm callR0_exc
        | ok r ρ' =>
          rw [hm] at P0
          exact fun F' H' e R' v hv => P0 F' H' e R'.unquiet v (by cases r <;> exact hv)
      have q : spMT X.K X.mg T n (fnM [0] n N mb) [.ref a] H1 Q fun cls d H' => False := by
        rw [← o.hK, ← o.hM]
        exact call_sp0T (S := S.quiet) rfl R.toQuiet s1 (hT0.trans hT.symm) .nil P1
      have I2 := I1.tok (sA.toks + 1)
      obtain ⟨mA, O, _⟩ := ins_get I1.hok h0
      obtain ⟨od, at_, _⟩ := O.look
      have cls : (PySem.W.clsIn X.K C).isSome = true := by
        obtain ⟨cd, e, _⟩ := PySem.W.any_some hC.hd
        simp [e]
      have fnd := PySem.W.findObj_data (od := od) cls hp.at_ hp.get hp.tak
      have bind := hb { sA with toks := sA.toks + 1 } [.ref a] I2.kIn (Fg.len _ _ _ _ q)
      have run := Fg.run X.A.in1 X.stack { sA with toks := sA.toks + 1 } H1 ⟨[.ref a], []⟩ [.ref a] [.ref a] Q _ (by simpa using o.gd) (o.rm.mono hk).in1 I2.env0.in1 bind (.cons rfl .nil) q
      refine PySem.W.get_bind I1.kIn at_ (PySem.W.plainGet_of (hC.get f)).1 fnd (PySem.W.plainGet_of (hC.get f)).2 (wpAny_call (PySem.W.prop_get (s := { sA with toks := sA.toks + 1 }) I1.kIn hp.rec_.choose_spec (codeAny_mono run fun r s' hq => ?_)))
      obtain ⟨w, v, H', rfl, J, rv, q3⟩ := ended I2 hq
      simp only [PySem.W.handedOut_of (handed_of rv)]
      exact wpAny_pure (show EP X pn σ Q w s' from ⟨v, H', J, rv, q3⟩)
end
/-! ### x = C(..): a new object is lent to __init__, then it is one's own -/
theorem call_spFT {T : Nat → Option (List V → HO → Prop)} {n N : Nat} {mb : Rho → Rz Fl} {m : Rho → Rz Rv} {S : Sx} {F0 F : Hp} {ρ0 ρ : Rho} {σ : L2.St} {H0 H : Hp} {p : Addr} {us vs : List V} {ts ts1 ds : List PD} {rs : Rho} {d : PD} {Q : VK} (hm : m = fnM [0] n N mb) (e0 : Ext (Own ρ0 σ) F0 H0 (Own ρ σ) F H) (R : Rs S F ρ σ H) (s2 : F p = none) (s3 : FamH (T 0) H p us)
    (s4 : RpAll S.K F us ts) (nO : ¬ Own ρ σ p) (h0 : H0 p = none ∨ Own ρ0 σ p) (hv : RpAll S.K F vs ds) (e : m (.ow ts :: ds.map .fr) = .ok (.fr d) (.ow ts1 :: rs)) (go : ∀ F' H' v, Ext (Own ρ0 σ) F0 H0 (Own ρ σ) F' H' → Rs S F' ρ σ H' → Rp S.K F' v d → (∃ us1, F' p = none ∧ FamH (T 0) H' p us1 ∧ RpAll S.K F' us1 ts1) → Q v H') :
    spMT S.K S.mg T n m (.ref p :: vs) H Q fun cls d H' => S.W cls d σ H' := by
  have own0 : ∀ ts' a, Own (Cl.ow ts' :: ds.map Cl.fr) ((V.ref p :: vs).map some) a ↔ a = p := fun ts' a => by
    constructor
    · rintro ⟨j, es, h1, h2⟩
      cases j with
      | zero => simp at h2; exact h2.symm
      | succ j =>
        obtain ⟨d, _, z⟩ := at_map_fr (show (ds.map Cl.fr)[j]? = some (.ow es) from h1)
        cases z
    · rintro rfl
      exact ⟨0, ts', rfl, rfl⟩
  have R0 : Rs ⟨S.K, S.mg, [], fun _ => 0, fun cls d _ H' => S.W cls d σ H', T⟩ F (Cl.ow ts :: ds.map .fr) ((V.ref p :: vs).map some) H := by
    refine ⟨R.ex, by simp [hv.len], fun j d h => ?_, fun j es h => ?_, fun j l dj dl q h1 h2 h3 h4 => ?_, (fun j h => nomatch h), R.sm⟩
    · cases j with
      | zero => cases h
      | succ j =>
        obtain ⟨d', h1, h2⟩ := at_map_fr (show (ds.map Cl.fr)[j]? = some (.fr d) from h)
        cases h2
        obtain ⟨v, q1, q2⟩ := RpAll.get hv h1
        exact ⟨v, by show (vs.map some)[j]? = _; rw [List.getElem?_map, q1]; rfl, q2⟩
    · cases j with
      | zero => cases h; exact ⟨p, us, rfl, s2, s3, s4⟩
      | succ j =>
        obtain ⟨d', _, h2⟩ := at_map_fr (show (ds.map Cl.fr)[j]? = some (.ow es) from h)
        cases h2
    · cases j with
      | succ j =>
        obtain ⟨d', _, z⟩ := at_map_fr (show (ds.map Cl.fr)[j]? = some (.ow dj) from h1)
        cases z
      | zero =>
        cases l with
        | zero => rfl
        | succ l =>
          obtain ⟨d', _, z⟩ := at_map_fr (show (ds.map Cl.fr)[l]? = some (.ow dl) from h2)
          cases z
  have sh : ∀ r ρ', m (.ow ts :: ds.map .fr) = .ok r ρ' → (V.ref p :: vs).length = n ∧ ∃ ts', ρ' = .ow ts' :: ds.map .fr := fun r ρ' h => by
    subst hm
    unfold fnM at h
    by_cases c : okArgs [0] n (.ow ts :: ds.map .fr) = true
    · have hl := (okArgs.at c).1
      rw [List.length_cons, List.length_map, ← hv.len] at hl
      rw [if_pos c] at h
      refine ⟨hl, ?_⟩
      split at h
      · split at h
        · rename_i ho
          obtain ⟨ts', _, z⟩ := outs0 ho
          cases h
          exact ⟨ts', z⟩
        · cases h
      · split at h
        · rename_i ho
          obtain ⟨ts', _, z⟩ := outs0 ho
          cases h
          exact ⟨ts', z⟩
        · cases h
      · split at h
        · cases h
        · cases h
      · cases h
    · rw [if_neg c] at h; cases h
  obtain ⟨hlen, ts', ets⟩ := sh _ _ e
  obtain ⟨ets1, rfl⟩ := List.cons.inj ets
  obtain rfl : ts1 = ts' := by injection ets1
  refine ⟨hlen, F, _, R0, ?_⟩
  rw [e]
  intro F' H' e1 R1 v hvv
  obtain ⟨p1, us1, q1, q2, q3, q4⟩ := R1.ow 0 ts1 rfl
  have q1' : p1 = p := by simpa using q1.symm
  rw [q1'] at q2 q3
  have keep : ∀ a o, H a = some o → a ≠ p → H' a = some o := fun a o h z => e1.kp a o h fun y => z ((own0 ts a).mp y)
  have noF : ∀ a, F a = none → H a ≠ none → a ≠ p → F' a = none := fun a h1 h2 z => by
    refine Classical.byContradiction fun y => ?_
    rcases e1.nw a y with x | x | x
    · exact x h1
    · exact h2 x
    · exact z ((own0 ts a).mp x)
  refine go F' H' v ⟨fun a o h => e1.fz a o (e0.fz a o h), fun a h => ?_, fun a o h n => ?_, fun a h => e1.st a (e0.st a h), e0.ow⟩ ⟨R1.ex, R.len, fun i d h => ?_, fun i es h => ?_, R.sep, R.pin, R1.sm⟩ hvv ⟨us1, q2, q3, q4⟩
  · rcases e1.nw a h with x | x | x
    · exact e0.nw a x
    · exact .inr (.inl (e0.back x))
    · rw [(own0 ts a).mp x] at h
      exact absurd q2 h
  · refine keep a o (e0.kp a o h n) fun z => ?_
    subst z
    rcases h0 with z | z
    · rw [h] at z; cases z
    · exact n z
  · obtain ⟨w, w1, w2⟩ := R.fr i d h
    exact ⟨w, w1, rp_mono e1.fz _ _ w2⟩
  · obtain ⟨p2, us2, w1, w2, w3, w4⟩ := R.ow i es h
    have np : p2 ≠ p := fun z => nO ⟨i, es, h, by rw [← z]; exact w1⟩
    exact ⟨p2, us2, w1, noF p2 w2 w3.ne np, w3.mono fun o y => keep p2 o y np, rpa_mono e1.fz _ _ w4⟩
/-- an own thing of the slot's kind comes into a slot -/
theorem Rs.setOwn {S : Sx} {F : Hp} {ρ : Rho} {σ : L2.St} {H : Hp} {i : Nat} {p : Addr} {us : List V} {ts : List PD} (R : Rs S F ρ σ H) (hF : F p = none) (hH : FamH (S.T i) H p us) (hr : RpAll S.K F us ts) (nO : ¬ Own ρ σ p) (hi : i < ρ.length) (hJ : i ∉ S.J) :
    Rs S F (ρ.set i (.ow ts)) (σ.set i (some (.ref p))) H ∧ ∀ a, Own (ρ.set i (.ow ts)) (σ.set i (some (.ref p))) a → Own ρ σ a ∨ a = p := by
  have hσ : i < σ.length := by rw [← R.len]; exact hi
  have inj : ∀ {a : Addr}, (σ.set i (some (V.ref p)))[i]? = some (some (.ref a)) → a = p := fun {a} z => by
    rw [List.getElem?_set_self hσ] at z
    injection z with z
    injection z with z
    injection z with z
    exact z.symm
  refine ⟨⟨R.ex, by rw [List.length_set, List.length_set]; exact R.len, fun j d q => ?_, fun j ds q => ?_, fun j l dj dl a q1 q2 q3 q4 => ?_, fun j hj => ?_, R.sm⟩, fun a z => ?_⟩
  · by_cases z : i = j
    · subst z
      rw [List.getElem?_set_self hi] at q
      cases q
    · rw [List.getElem?_set_ne z] at q ⊢
      exact R.fr j d q
  · by_cases z : i = j
    · subst z
      rw [List.getElem?_set_self hi] at q
      cases q
      exact ⟨p, us, List.getElem?_set_self hσ, hF, hH, hr⟩
    · rw [List.getElem?_set_ne z] at q ⊢
      exact R.ow j ds q
  · by_cases z : i = j
    · by_cases z' : i = l
      · exact z.symm.trans z'
      · subst z
        have e := inj q3
        rw [List.getElem?_set_ne z'] at q2 q4
        exact absurd ⟨l, dl, q2, by rw [← e]; exact q4⟩ nO
    · by_cases z' : i = l
      · subst z'
        have e := inj q4
        rw [List.getElem?_set_ne z] at q1 q3
        exact absurd ⟨j, dj, q1, by rw [← e]; exact q3⟩ nO
      · rw [List.getElem?_set_ne z] at q1 q3
        rw [List.getElem?_set_ne z'] at q2 q4
        exact R.sep j l dj dl a q1 q2 q3 q4
  · have z : i ≠ j := fun z => hJ (by rw [z]; exact hj)
    rw [List.getElem?_set_ne z]
    exact R.pin j hj
  · obtain ⟨j, ds, q1, q2⟩ := z
    by_cases z : i = j
    · subst z
      exact .inr (inj q2)
    · rw [List.getElem?_set_ne z] at q1 q2
      exact .inl ⟨j, ds, q1, q2⟩
def tMakeG (C : Addr) (sp : Sp) (W : WX) (t : TA) : TE := fun σ H Q => t σ H fun vs H1 => ∀ x dx, H1 x = none → H1 dx = none → dx ≠ x → sp (.ref x :: vs) (upd (upd H1 dx (.own x)) x (.ins C dx [])) (fun v H2 => v = .non ∧ Q (.ref x) H2) fun cls d H' => W cls d σ H'
section
variable {X : Cx} {k : Nat} {f C : Addr} {fd : FuncData} {ps : List Str} {sp : Sp} {W : WX} {x : Str} {p pos : Pos} {e : Expr} {es : List Expr} {t : TA}
theorem run_gmake {pn : List (Addr × Obj)} {σ : L2.St} {H : Hp} {s : Shared} {Q : VK} {us : List Value} {vs : List V} (M : Mk X.K C f) (F : FnG X.prog X.w X.K X.mg X.base k f fd ps sp) (hgd : X.A.guards = some []) (hr : Room (k + 1) X.A) (hb : Binds X.K fd ps []) (tk : Takes X W) (I : Inv X pn σ H s) (r : Vals vs us)
    (h : ∀ x dx, H x = none → H dx = none → dx ≠ x → sp (.ref x :: vs) (upd (upd H dx (.own x)) x (.ins C dx [])) (fun v H2 => v = .non ∧ Q (.ref x) H2) fun cls d H' => W cls d σ H') : wpAny (model X.prog X.w) X.A (call (.ref C) us) (EP X pn σ Q) X.xe s := by
  have q := h (s.heap.objs.size + 1) s.heap.objs.size (I.hok.fresh (Nat.le_succ _)) (I.hok.fresh (Nat.le_refl _)) (Nat.ne_of_lt (Nat.lt_succ_self _))
  have J := Inv.made (C := C) I
  have rr : Vals (V.ref (s.heap.objs.size + 1) :: vs) (Value.ref (s.heap.objs.size + 1) :: us) := .cons rfl r
  have same : (Value.ref (s.heap.objs.size + 1) :: us ++ []).length = ps.length := by
    rw [List.append_nil, ← rr.length]
    exact F.len _ _ _ _ q
  have bind := hb _ (Value.ref (s.heap.objs.size + 1) :: us) J.kIn same
  rw [List.append_nil] at bind
  refine wpAny_call (make_map (f := f) I.kIn M.makes M.init (beq_iff_eq.mp M.fn) (codeAny_mono (F.run _ X.stack _ _ ⟨Value.ref (s.heap.objs.size + 1) :: us, []⟩ (Value.ref (s.heap.objs.size + 1) :: us) _ _ _ ?_ (hr.make C us []) (J.env0.make C us []) bind rr q) fun res s' hq => ?_))
  · show pushGuards (Code.builtin "type.__call__" ⟨.ref C :: us, []⟩).guards X.A.guards = some []
    rw [hgd]
    rfl
  · cases res with
    | error e => exact tk e s' (XE.of_call J (fun cls d H' z => z) hq)
    | ok fl =>
      cases fl with
      | ret u =>
        obtain ⟨v, H', I3, rv, ev, q3⟩ := J.after hq
        subst ev
        exact And.intro rv ⟨.ref (s.heap.objs.size + 1), H', I3, rfl, q3⟩
      | next => exact hq.elim
      | brk => exact hq.elim
      | cont => exact hq.elim
theorem pe_makeG (M : Mk X.K C f) (F : FnG X.prog X.w X.K X.mg X.base k f fd ps sp) (hgd : X.A.guards = some []) (hr : Room (k + 1) X.A) (hg : Gl X x) (hm : X.mg x = some (.ref C)) (hb : Binds X.K fd ps []) (tk : Takes X W) (ha : PA X (e :: es) t)
    (ndb : (x == ("__debug__" : Str)) = false := by decide) (he : starEach (e :: es) X.env = (false, eval e X.env) :: starEach es X.env := by rfl) (npl : (backTo pos (starEach es X.env)).any (·.1) = false := by rfl) :
    PE X (.Call (.Name x p) (e :: es) [] pos) (tMakeG C sp W t) := ⟨fun pn s σ H Q I h =>
  wpAny_Call_Name_kw (ld_glob I hg hm (PySem.W.callWith_K (h₀ := X.base) I.ok.mod.kin M.kp (thn (ha.run pos pn s σ H _ I h) fun us s1 ⟨vs, H1, I1, r, q⟩ => ⟨I1.kIn, run_gmake M F hgd hr hb tk I1 r q⟩) he npl) ndb)⟩
end
def mMake (i : Nat) (m : Rho → Rz Rv) (ma : Rho → Rz (List PD)) : Rho → Rz Fl := fun ρ => (ma ρ).bind fun ds ρ1 => match m (.ow [] :: ds.map .fr) with
  | .ok (.fr .none) (.ow ts :: _) => if i < ρ1.length then .ok .nx (ρ1.set i (.ow ts)) else .stuck
  | _ => .stuck
theorem xs_mk {X : Cx} {S : Sx} {k k0 n N : Nat} {C : Addr} {ns : List Str} {T : Nat → Option (List V → HO → Prop)} {ps : List Str} {mb : Rho → Rz Fl} {x c : Str} {p1 p2 p3 pos : Pos} {e : Expr} {es : List Expr} {ma : Rho → Rz (List PD)}
    (o : Okx X S k) (D : DkO X.K X.mg X.prog X.w X.base k0 (fun f => Mk X.K C f) T [0] ps n N mb) (hk : k0 + 1 ≤ k) (hm : X.mg c = some (.ref C)) (hg : Gl X c) (i : Nat) (ha : XA X S (e :: es) ma) (hT : S.T i = some (obK C ns)) (hT0 : T 0 = some (obK C ns))
    (hJ : i ∉ S.J := by first | exact nj rfl | decide) (hi : X.N[i]? = some x := by rfl) (hx : Loc X.env.scope x := by first | exact Or.inl rfl | exact Or.inr rfl) (hs : swapsWith (.Call (.Name c p2) (e :: es) [] p3) (some (.Name x p1)) pos.line X.env = pure false := by rfl)
    (hf : X.fn x = true ∨ X.env.scope.names.lookup x = some .local := by first | exact .inl rfl | exact .inr rfl | assumption) (ndb : (c == ("__debug__" : Str)) = false := by decide) (he : starEach (e :: es) X.env = (false, eval e X.env) :: starEach es X.env := by rfl)
    (npl : (backTo p3 (starEach es X.env)).any (·.1) = false := by rfl) : XS X S (.Assign [.Name x p1] (.Call (.Name c p2) (e :: es) [] p3) pos) (mMake i (fnM [0] n N mb) ma) := by
  obtain ⟨f, fd, hn, Fg, M, hb⟩ := D.ex
  refine PS.imp (ps_set o.nd hi hx (pe_makeG M Fg o.gd (o.rm.mono hk) hg hm hb o.tk ha ndb he npl) hs hf) fun E σ H q => ?_
  obtain ⟨F, ρ, R, P⟩ := q
  refine ⟨F, ρ, R, PostE.mono (PostS.bindE P) fun F1 ρ1 H1 ds e1 R1 P1 vs hv p dx hp hdx hne => ?_⟩
  have P2 := P1 F1 e1
  obtain ⟨j1, R2⟩ := R1.junk (.own p) hdx
  have hp2 : upd H1 dx (.own p) p = none := by
    rw [upd_ne (Ne.symm hne)]
    exact hp
  obtain ⟨j2, R3⟩ := R2.junk (.ins C dx []) hp2
  have hF : F1 p = none := by
    cases z : F1 p with
    | none => rfl
    | some u => rw [R1.ex p u z] at hp; cases hp
  have nO : ¬ Own ρ1 σ p := fun ⟨j, d, z1, z2⟩ => by
    obtain ⟨p', us, q1, _, q3, _⟩ := R1.ow j d z1
    rw [z2] at q1
    cases q1
    exact q3.ne hp
  have ok0 : obK C ns [] (.ins C dx []) := ⟨dx, [], rfl, rfl, Nat.zero_le _, fun _ _ _ => rfl, fun _ _ => rfl⟩
  cases hmm : fnM [0] n N mb (.ow [] :: ds.map .fr) with
  | stuck => rw [hmm] at P2; exact P2.elim
  | exc a b c => rw [hmm] at P2; exact P2.elim
  | ok r rs =>
    rw [hmm] at P2
    cases r with
    | ow z => exact P2.elim
    | fr d =>
      cases d with
      | none =>
        cases rs with
        | nil => exact P2.elim
        | cons c0 rs =>
          cases c0 with
          | no => exact P2.elim
          | fr z => exact P2.elim
          | ow ts =>
            have P3 : PostS S F1 ρ1 σ H1 (if i < ρ1.length then .ok .nx (ρ1.set i (.ow ts)) else .stuck) E := P2
            by_cases hl : i < ρ1.length
            · rw [if_pos hl] at P3
              rw [← o.hK, ← o.hM]
              refine call_spFT (T := T) rfl (j1.trans j2) R3 hF (by rw [hT0]; exact ⟨_, upd_same, ok0, obK_ob ok0⟩) .nil nO (.inl hp) hv hmm fun F' H' v e' R' hv' ⟨us1, z1, z2, z3⟩ => ?_
              cases hv'
              obtain ⟨R4, own⟩ := R'.setOwn z1 (by rw [hT, ← hT0]; exact z2) z3 nO hl hJ
              exact ⟨rfl, P3 F' _ H' ⟨e'.fz, e'.nw, e'.kp, e'.st, fun a z => (own a z).elim .inl fun y => .inr (by rw [y]; exact hp)⟩ R4⟩
            · rw [if_neg hl] at P3
              exact P3.elim
      | _ => exact P2.elim
/-- a def whose first parameter is an object, by its statement -/
theorem DkO.of {P : Program} {w : World} {mg : Str → Option Value} {base : Heap} {K : PySem.W.Frag} {x qual : Str} {st : Stmt} {f : Addr} {fd : FuncData} {N ps : List Str} {k : Nat} {m : Rho → Rz Fl} {T : Nat → Option (List V → HO → Prop)} {fnd : Addr → Prop} (J : List Nat) (Fn : Fun K x qual st f fd) (hb : Binds K fd ps []) (hf : fnd f)
    (Sc : FnScope N ps (defScope st)) (hJ : ∀ j ∈ J, j < ps.length)
    (hbody : ∀ (cdv : Value) (A : Around) (outer : List Env) (s : Shared) (H : Hp) (vs : List V) (E : L2.XK), Okx (dX P w K mg base N qual (defScope st) f cdv A outer s H E) (sxOfT K mg T J vs E) k → XSs (dX P w K mg base N qual (defScope st) f cdv A outer s H E) (sxOfT K mg T J vs E) (defBody st) m) :
    DkO K mg P w base (k + 1) fnd T J ps ps.length N.length m := by
  have G : FnG P w K mg base (k + 1) f fd ps (spMT K mg T ps.length (fnM J ps.length N.length m)) := by
    obtain ⟨oc, od, kV, doc, pm, an, cdv, ct, osl, rfl, lk, hcd⟩ := Fn.ex
    refine fn_ofG lk hcd Sc (fun vs H Q E h => h.1) fun A outer s H vs Q E hg hr hsp => ⟨_, hbody cdv A outer s H vs E ?_, def_soundT ?_ hJ hsp⟩
    · exact ⟨rfl, rfl, rfl, Sc.nd, passes_of rfl, takes_of rfl rfl rfl rfl, hr, hg⟩
    · have e := congrArg List.length Sc.pre
      rw [List.length_take] at e
      omega
  exact ⟨f, fd, rfl, G, hf, hb⟩
/-! ### the plain law -/
section
variable {c : Cl} {ρ : Rho} {i n : Nat} {m : Rho → Rz Rv} {ma : Rho → Rz (List PD)} {Q : Rv → Rho → Prop} {Qf : Fl → Rho → Prop}
@[simp] theorem w_fld : Wp (mFld i n (c :: ρ)) Q ↔ WpO ((Rho.owL (c :: ρ) i).bind fun ds => ds[n]?) (kD Q (c :: ρ)) := by
  unfold mFld Rho.owL
  cases h : (c :: ρ)[i]? with
  | none => simp
  | some cc =>
    cases cc with
    | no => simp
    | fr d => simp
    | ow ds =>
      simp only [Option.bind_some]
      cases ds[n]? <;> simp
theorem w_fset : Wp (mFset i n m (c :: ρ)) Qf ↔ Wp (m (c :: ρ)) (lz fun r ρ1 => ∃ ds, ρ1[i]? = some (.ow ds) ∧ n ≤ ds.length ∧ n < 900 ∧ Qf .nx (ρ1.set i (.ow (putA n r.d ds)))) := by
  unfold mFset
  rw [wp_bind]
  refine Wp.congr fun r ρ1 => ?_
  show _ ↔ ∃ ds, _
  cases h : ρ1[i]? with
  | none => simp
  | some cc =>
    cases cc with
    | no => simp
    | fr d => simp
    | ow ds =>
      simp only
      by_cases g : n ≤ ds.length ∧ n < 900
      · rw [if_pos g, wp_ok]
        exact ⟨fun z => ⟨ds, rfl, g.1, g.2, z⟩, fun ⟨ds', e, _, _, z⟩ => by cases e; exact z⟩
      · rw [if_neg g, wp_stuck]
        exact ⟨False.elim, fun ⟨ds', e, a, b, _⟩ => by cases e; exact g ⟨a, b⟩⟩
theorem w_make : Wp (mMake i m ma (c :: ρ)) Qf ↔ Wp (ma (c :: ρ)) (lz fun ds ρ1 => Wp (m (.ow [] :: ds.map .fr)) fun r ρ2 => r = .fr .none ∧ ∃ ts rs, ρ2 = .ow ts :: rs ∧ i < ρ1.length ∧ Qf .nx (ρ1.set i (.ow ts))) := by
  unfold mMake
  rw [wp_bind]
  refine Wp.congr fun ds ρ1 => ?_
  show _ ↔ Wp _ _
  cases h : m (.ow [] :: ds.map .fr) with
  | stuck => simp
  | exc a b d => simp
  | ok r ρ2 =>
    rw [wp_ok]
    cases r with
    | ow z => simp
    | fr d =>
      cases d <;> cases ρ2 with
      | nil => simp
      | cons c0 rs =>
        cases c0 <;> simp
        try (by_cases g : i < ρ1.length <;> simp [g])
end
end Sd
namespace Sd
open PySem L2 PySem.Spec PyProof.Rows
/-! ### two things of one's own are lent -/
theorem outs2 {ρ0 ρ' ρ2 : Rho} (h : outs [0, 1] ρ0 ρ' = some ρ2) : ∃ ts us, ρ'[0]? = some (.ow ts) ∧ ρ'[1]? = some (.ow us) ∧ ρ2 = (ρ0.set 0 (.ow ts)).set 1 (.ow us) := by
  unfold outs at h
  simp only [List.foldlM_cons, List.foldlM_nil] at h
  cases e : ρ'[0]? with
  | none => simp [e] at h
  | some c =>
    cases c with
    | no => simp [e] at h
    | fr d => simp [e] at h
    | ow ts =>
      cases e1 : ρ'[1]? with
      | none => simp [e, e1] at h
      | some c =>
        cases c with
        | no => simp [e, e1] at h
        | fr d => simp [e, e1] at h
        | ow us =>
          simp [e, e1] at h
          exact ⟨ts, us, rfl, rfl, h.symm⟩
def callR2 (i j : Nat) (m : Rho → Rz Rv) (ds : List PD) (ρ : Rho) : Rz Rv := match ρ[i]?, ρ[j]? with
  | some (.ow t0), some (.ow t1) => (match m (.ow t0 :: .ow t1 :: ds.map .fr) with
    | .ok r (.ow u0 :: .ow u1 :: _) => .ok r ((ρ.set i (.ow u0)).set j (.ow u1))
    | _ => .stuck)
  | _, _ => .stuck
theorem call_sp2T {T : Nat → Option (List V → HO → Prop)} {i j n N : Nat} {mb : Rho → Rz Fl} {m : Rho → Rz Rv} {S : Sx} {F : Hp} {ρ : Rho} {σ : L2.St} {H : Hp} {v0 v1 : V} {vs : List V} {ds : List PD} {Q : VK} (hm : m = fnM [0, 1] n N mb) (hij : i ≠ j) (R : Rs S F ρ σ H) (h0 : σ[i]? = some (some v0)) (h1 : σ[j]? = some (some v1))
    (hT0 : T 0 = S.T i) (hT1 : T 1 = S.T j) (hv : RpAll S.K F vs ds) (P : PostE S σ F ρ H (callR2 i j m ds ρ) fun F' ρ' H' r => ∀ v, RvR S (Own ρ σ) H (Own ρ' σ) F' H' v r → Q v H') : spMT S.K S.mg T n m (v0 :: v1 :: vs) H Q fun cls d H' => S.W cls d σ H' := by
  unfold callR2 at P
  split at P
  case h_2 => exact P.elim
  rename_i t0 t1 hi hj
  obtain ⟨p0, us0, s1, s2, s3, s4⟩ := R.ow i t0 hi
  obtain ⟨p1, us1, w1, w2, w3, w4⟩ := R.ow j t1 hj
  have ne : p0 ≠ p1 := fun z => hij (R.sep i j t0 t1 p0 hi hj s1 (by rw [z]; exact w1))
  rw [h0] at s1
  rw [h1] at w1
  obtain rfl : v0 = .ref p0 := by injection s1 with s1; injection s1
  obtain rfl : v1 = .ref p1 := by injection w1 with w1; injection w1
  have il : i < ρ.length := (List.getElem?_eq_some_iff.mp hi).1
  have jl : j < ρ.length := (List.getElem?_eq_some_iff.mp hj).1
  have cases2 : ∀ {x y : List PD} {l : Nat} {es : List PD}, (Cl.ow x :: .ow y :: ds.map Cl.fr)[l]? = some (.ow es) → (l = 0 ∧ es = x) ∨ (l = 1 ∧ es = y) := fun {x y l es} h => by
    match l, h with
    | 0, h => cases h; exact .inl ⟨rfl, rfl⟩
    | 1, h => cases h; exact .inr ⟨rfl, rfl⟩
    | l + 2, h =>
      obtain ⟨d, _, z⟩ := at_map_fr (show (ds.map Cl.fr)[l]? = some (.ow es) from h)
      cases z
  have own0 : ∀ x y a, Own (Cl.ow x :: .ow y :: ds.map Cl.fr) ((V.ref p0 :: V.ref p1 :: vs).map some) a ↔ a = p0 ∨ a = p1 := fun x y a => by
    constructor
    · rintro ⟨l, es, q1, q2⟩
      rcases cases2 q1 with ⟨rfl, _⟩ | ⟨rfl, _⟩
      · simp at q2; exact .inl q2.symm
      · simp at q2; exact .inr q2.symm
    · rintro (rfl | rfl)
      · exact ⟨0, x, rfl, rfl⟩
      · exact ⟨1, y, rfl, rfl⟩
  have R0 : Rs ⟨S.K, S.mg, [], fun _ => 0, fun cls d _ H' => S.W cls d σ H', T⟩ F (Cl.ow t0 :: .ow t1 :: ds.map .fr) ((V.ref p0 :: V.ref p1 :: vs).map some) H := by
    refine ⟨R.ex, by simp [hv.len], fun l d h => ?_, fun l es h => ?_, fun l l' dj dl q q1 q2 q3 q4 => ?_, (fun j h => nomatch h), R.sm⟩
    · match l, h with
      | 0, h => cases h
      | 1, h => cases h
      | l + 2, h =>
        obtain ⟨d', g1, g2⟩ := at_map_fr (show (ds.map Cl.fr)[l]? = some (.fr d) from h)
        cases g2
        obtain ⟨v, q1, q2⟩ := RpAll.get hv g1
        exact ⟨v, by show (vs.map some)[l]? = _; rw [List.getElem?_map, q1]; rfl, q2⟩
    · rcases cases2 h with ⟨rfl, rfl⟩ | ⟨rfl, rfl⟩
      · exact ⟨p0, us0, rfl, s2, (show FamH (T 0) H p0 us0 by rw [hT0]; exact s3), s4⟩
      · exact ⟨p1, us1, rfl, w2, (show FamH (T 1) H p1 us1 by rw [hT1]; exact w3), w4⟩
    · rcases cases2 q1 with ⟨rfl, _⟩ | ⟨rfl, _⟩ <;> rcases cases2 q2 with ⟨rfl, _⟩ | ⟨rfl, _⟩
      · rfl
      · simp at q3 q4
        exact absurd (q3.trans q4.symm) ne
      · simp at q3 q4
        exact absurd (q4.trans q3.symm) ne
      · rfl
  have sh : ∀ r ρ', m (.ow t0 :: .ow t1 :: ds.map .fr) = .ok r ρ' → (V.ref p0 :: V.ref p1 :: vs).length = n ∧ ∃ x y, ρ' = .ow x :: .ow y :: ds.map .fr := fun r ρ' h => by
    subst hm
    unfold fnM at h
    by_cases c : okArgs [0, 1] n (.ow t0 :: .ow t1 :: ds.map .fr) = true
    · have hl := (okArgs.at c).1
      rw [List.length_cons, List.length_cons, List.length_map, ← hv.len] at hl
      rw [if_pos c] at h
      refine ⟨hl, ?_⟩
      split at h
      · split at h
        · rename_i ho
          obtain ⟨x, y, _, _, z⟩ := outs2 ho
          cases h
          exact ⟨x, y, z⟩
        · cases h
      · split at h
        · rename_i ho
          obtain ⟨x, y, _, _, z⟩ := outs2 ho
          cases h
          exact ⟨x, y, z⟩
        · cases h
      · split at h
        · cases h
        · cases h
      · cases h
    · rw [if_neg c] at h; cases h
  cases e : m (.ow t0 :: .ow t1 :: ds.map .fr) with
  | stuck => simp only [e] at P; exact P.elim
  | exc c f ρ' => simp only [e] at P; exact P.elim
  | ok r ρ' =>
    obtain ⟨hlen, x, y, rfl⟩ := sh r ρ' e
    simp only [e] at P
    refine ⟨hlen, F, _, R0, ?_⟩
    rw [e]
    intro F' H' e1 R1 v hvv
    obtain ⟨ρ2, hρ2⟩ : ∃ ρ2, (ρ.set i (.ow x)).set j (.ow y) = ρ2 := ⟨_, rfl⟩
    rw [hρ2] at P
    have at2 : ∀ l, ρ2[l]? = if l = j then some (.ow y) else if l = i then some (.ow x) else ρ[l]? := fun l => by
      rw [← hρ2]
      by_cases c : l = j
      · subst c
        rw [if_pos rfl, List.getElem?_set_self (by rw [List.length_set]; exact jl)]
      · rw [if_neg c, List.getElem?_set_ne (Ne.symm c)]
        by_cases d : l = i
        · subst d
          rw [if_pos rfl, List.getElem?_set_self il]
        · rw [if_neg d, List.getElem?_set_ne (Ne.symm d)]
    have len2 : ρ2.length = ρ.length := by rw [← hρ2]; simp
    have was : ∀ {l : Nat} {es : List PD}, ρ2[l]? = some (.ow es) → ∃ es', ρ[l]? = some (.ow es') := fun {l es} h => by
      rw [at2] at h
      by_cases c : l = j
      · exact ⟨t1, by rw [c]; exact hj⟩
      · rw [if_neg c] at h
        by_cases d : l = i
        · exact ⟨t0, by rw [d]; exact hi⟩
        · rw [if_neg d] at h
          exact ⟨es, h⟩
    have ownP0 : Own ρ σ p0 := ⟨i, t0, hi, h0⟩
    have ownP1 : Own ρ σ p1 := ⟨j, t1, hj, h1⟩
    have ownS : ∀ a, Own ρ2 σ a → Own ρ σ a := fun a ⟨l, es, q1, q2⟩ => by
      obtain ⟨es', q⟩ := was q1
      exact ⟨l, es', q, q2⟩
    have e2 : Ext (Own ρ σ) F H (Own ρ2 σ) F' H' := by
      refine ⟨e1.fz, fun a h => ?_, fun a o h n => e1.kp a o h fun z => n ?_, e1.st, fun a h => .inl (ownS a h)⟩
      · rcases e1.nw a h with q | q | q
        · exact .inl q
        · exact .inr (.inl q)
        · rcases (own0 t0 t1 a).mp q with rfl | rfl
          · exact .inr (.inr ownP0)
          · exact .inr (.inr ownP1)
      · rcases (own0 t0 t1 a).mp z with rfl | rfl
        · exact ownP0
        · exact ownP1
    have R2 : Rs S F' ρ2 σ H' := by
      refine ⟨R1.ex, by rw [len2]; exact R.len, fun l d h => ?_, fun l es h => ?_, fun l l' dj dl q q1 q2 q3 q4 => ?_, R.pin, R1.sm⟩
      · rw [at2] at h
        split at h
        · cases h
        · split at h
          · cases h
          · obtain ⟨v, q1, q2⟩ := R.fr l d h
            exact ⟨v, q1, rp_mono e1.fz _ _ q2⟩
      · rw [at2] at h
        split at h
        · rename_i c
          subst c
          cases h
          obtain ⟨p', us', q1, q2, q3, q4⟩ := R1.ow 1 y rfl
          simp at q1
          subst q1
          exact ⟨p1, us', h1, q2, hT1 ▸ q3, q4⟩
        · rename_i c
          split at h
          · rename_i d
            subst d
            cases h
            obtain ⟨p', us', q1, q2, q3, q4⟩ := R1.ow 0 x rfl
            simp at q1
            subst q1
            exact ⟨p0, us', h0, q2, hT0 ▸ q3, q4⟩
          · rename_i d
            obtain ⟨p', us', q1, q2, q3, q4⟩ := R.ow l es h
            have n0 : p' ≠ p0 := fun z => d (R.sep l i es t0 p0 h hi (by rw [← z]; exact q1) h0)
            have n1 : p' ≠ p1 := fun z => c (R.sep l j es t1 p1 h hj (by rw [← z]; exact q1) h1)
            have no : ¬ Own (Cl.ow t0 :: .ow t1 :: ds.map Cl.fr) ((V.ref p0 :: V.ref p1 :: vs).map some) p' := fun z => by
              rcases (own0 t0 t1 p').mp z with z | z
              · exact n0 z
              · exact n1 z
            refine ⟨p', us', q1, ?_, q3.mono fun o z => e1.kp p' o z no, rpa_mono e1.fz _ _ q4⟩
            refine Classical.byContradiction fun z => ?_
            rcases e1.nw p' z with q | q | q
            · exact q q2
            · exact q3.ne q
            · exact no q
      · obtain ⟨a1, b1⟩ := was q1
        obtain ⟨a2, b2⟩ := was q2
        exact R.sep l l' a1 a2 q b1 b2 q3 q4
    refine P F' H' e2 R2 v ?_
    cases r with
    | fr d => exact hvv
    | ow es =>
      obtain ⟨p', us', a1, a2, a3, a4, a5, a6⟩ := hvv
      have n01 : ¬ (p' = p0 ∨ p' = p1) := fun z => a5 ((own0 x y p').mpr z)
      have hp : H p' = none := a6.elim id fun z => absurd ((own0 t0 t1 p').mp z) n01
      refine ⟨p', us', a1, a2, a3, a4, fun z => ?_, .inl hp⟩
      obtain ⟨l, es', q1, q2⟩ := ownS p' z
      obtain ⟨p2, us2, z1, z2, z3, _⟩ := R.ow l es' q1
      rw [q2] at z1
      cases z1
      exact z3.ne hp
def mCall2 (i j : Nat) (m : Rho → Rz Rv) (ma : Rho → Rz (List PD)) : Rho → Rz Rv := fun ρ => match ρ[i]?, ρ[j]? with
  | some (.ow _), some (.ow _) => (ma ρ).bind fun ds ρ1 => callR2 i j m ds ρ1
  | _, _ => .stuck
/-- f(x, y, ..), both lent -/
theorem xe_call2 {X : Cx} {S : Sx} {k n N : Nat} {T : Nat → Option (List V → HO → Prop)} {ps : List Str} {mb : Rho → Rz Fl} {x x2 y : Str} {py pp pp2 pos : Pos} {es : List Expr} {ma : Rho → Rz (List PD)} (o : Okx X S k)
    (D : DkO X.K X.mg X.prog X.w X.base k (fun f => X.mg y = some (.ref f) ∧ PySem.W.keepIn X.K (.ref f) = true) T [0, 1] ps n N mb) (hg : Gl X y) (i j : Nat) (ha : XA X S es ma) (hT0 : T 0 = S.T i) (hT1 : T 1 = S.T j) (hij : i ≠ j := by decide) (hN : X.N[i]? = some x := by rfl) (hN2 : X.N[j]? = some x2 := by rfl)
    (hv : Vis X.env.scope x := by first | exact Or.inl rfl | exact Or.inr (Or.inl rfl) | exact Or.inr (Or.inr rfl)) (hd : (x == ("__debug__" : Str)) = false := by decide) (hcd : (x == ("__classdict__" : Str)) = false := by decide)
    (hv2 : Vis X.env.scope x2 := by first | exact Or.inl rfl | exact Or.inr (Or.inl rfl) | exact Or.inr (Or.inr rfl)) (hd2 : (x2 == ("__debug__" : Str)) = false := by decide) (hcd2 : (x2 == ("__classdict__" : Str)) = false := by decide)
    (ndb : (y == ("__debug__" : Str)) = false := by decide) (hs : starEach (.Name x pp :: .Name x2 pp2 :: es) X.env = (false, eval (.Name x pp) X.env) :: starEach (.Name x2 pp2 :: es) X.env := by rfl)
    (hs2 : starEach (.Name x2 pp2 :: es) X.env = (false, eval (.Name x2 pp2) X.env) :: starEach es X.env := by rfl) (npl : (backTo pos (starEach (.Name x2 pp2 :: es) X.env)).any (·.1) = false := by rfl) :
    XE X S (.Call (.Name y py) (.Name x pp :: .Name x2 pp2 :: es) [] pos) (mCall2 i j (fnM [0, 1] n N mb) ma) := by
  obtain ⟨f, fd, hn, Fg, ⟨hm, hk⟩, hb⟩ := D.ex
  refine PE.imp (pe_callG Fg o.gd o.rm hg hm hk hb o.tk (pa_cons (pe_var hN hv hd hcd) (pa_cons (pe_var hN2 hv2 hd2 hcd2) ha hs2) hs) ndb hs npl) fun σ H Q q => ?_
  obtain ⟨F1, ρ, R, P⟩ := q
  unfold mCall2 at P
  split at P
  case h_2 => exact P.elim
  rename_i t0 t1 hi hj
  obtain ⟨p0, _, s1, _⟩ := R.ow i t0 hi
  obtain ⟨p1, _, w1, _⟩ := R.ow j t1 hj
  refine ⟨.ref p0, s1, .ref p1, w1, F1, ρ, R, PostE.mono (PostE.bind P) fun F2 ρ2 H2 ds e2 R2 P2 vs hv => ?_⟩
  rw [← o.hK, ← o.hM]
  exact call_sp2T rfl hij R2 s1 w1 hT0 hT1 hv ((P2 F2 e2).mono fun _ _ _ _ _ _ q => fun v hv => q v (hv.mono e2))
/-! ### t[lo:hi] of a tuple, not the whole of it -/
def gCutT (c : PD) (lo hi : Option Int) : Option PD := match c with
  | .tuple ds => if HT.sIx ds.length 0 lo = 0 ∧ HT.sIx ds.length ds.length hi = ds.length then none else some (.tuple (cutL ds lo hi))
  | _ => none
def mCutT (ma : Rho → Rz Rv) (ml mh : Rho → Rz (Option Int)) : Rho → Rz Rv := fun ρ => (ma ρ).bind fun x ρ0 => (ml ρ0).bind fun lo ρ1 => (mh ρ1).bind fun hi ρ2 => match gCutT x.d lo hi with
  | some d => .ok (.fr d) ρ2
  | none => .stuck
theorem xe_cutT {X : Cx} {S : Sx} {k : Nat} {lo hi : Option Expr} {p2 pos : Pos} {ma : Rho → Rz Rv} {ml mh : Rho → Rz (Option Int)} (o : Okx X S k) {a : Expr} (ha : XE X S a ma) (hl : XO X S lo ml) (hh : XO X S hi mh) : XE X S (.Subscript a (.Slice lo hi none p2) pos) (mCutT ma ml mh) := PE.imp (pe_slice sl_tup ha hl hh) fun σ H Q q => by
  obtain ⟨F, ρ, R, P⟩ := q
  refine tE.use (β := Rv) (g := fun c ρ0 => (ml ρ0).bind fun lo ρ1 => (mh ρ1).bind fun hi ρ2 => match gCutT c lo hi with
    | some d => .ok (.fr d) ρ2
    | none => .stuck) R P fun v c F0 ρ0 H0 e0 R0 D0 P0 => ?_
  refine ⟨F0, ρ0, R0, PostE.mono (PostE.bind P0) fun F1 ρ1 H1 l e1 R1 P1 => ?_⟩
  refine ⟨F1, ρ1, R1, PostE.mono (PostE.bind (P1 F1 e1)) fun F2 ρ2 H2 u e2 R2 P2 => ?_⟩
  have P3 := P2 F2 e2
  have D2 := rp_mono (e1.trans e2).fz _ _ D0
  cases hg : gCutT c l u with
  | none => rw [hg] at P3; exact P3.elim
  | some d =>
    rw [hg] at P3
    unfold gCutT at hg
    split at hg
    · split at hg
      · cases hg
      · rename_i ds w
        cases hg
        cases D2 with
        | tup h1 h2 =>
          refine ⟨_, _, rfl, .inl (.inl (R2.ex _ _ h1)), by rw [h2.len]; exact w, fun p hp => Rs.newT R2 hp (h2.cut l u) fun F' H' v e' R' h' => P3 F' H' e' R' v (h'.mono (e0.trans (e1.trans e2)))⟩
    · cases hg
section
variable {c : Cl} {ρ : Rho} {i j : Nat} {m : Rho → Rz Rv} {ma : Rho → Rz Rv} {ml mh : Rho → Rz (Option Int)} {mas : Rho → Rz (List PD)} {Q : Rv → Rho → Prop}
@[simp] theorem w_cutT : Wp (mCutT ma ml mh (c :: ρ)) Q ↔ Wp (ma (c :: ρ)) (lz fun x ρ0 => Wp (ml ρ0) (lz fun lo ρ1 => Wp (mh ρ1) (lz fun hi ρ2 => WpO (gCutT x.d lo hi) (kD Q ρ2)))) := by
  unfold mCutT
  rw [wp_bind]
  refine Wp.congr fun x ρ0 => ?_
  rw [wp_bind]
  refine Wp.congr fun lo ρ1 => ?_
  rw [wp_bind]
  refine Wp.congr fun hi ρ2 => ?_
  show _ ↔ WpO (gCutT x.d lo hi) (kD Q ρ2)
  cases gCutT x.d lo hi <;> simp
/-- both lent things come back -/
def K2 (Q : Rv → Rho → Prop) (ρ1 : Rho) (i j : Nat) : Rv → Rho → Prop := fun r ρ' => ∃ u0 u1 rs, ρ' = .ow u0 :: .ow u1 :: rs ∧ Q r ((ρ1.set i (.ow u0)).set j (.ow u1))
theorem w_callR2 {ds : List PD} {t0 t1 : List PD} (h0 : ρ[i]? = some (.ow t0)) (h1 : ρ[j]? = some (.ow t1)) : Wp (callR2 i j m ds ρ) Q ↔ Wp (m (.ow t0 :: .ow t1 :: ds.map .fr)) (K2 Q ρ i j) := by
  unfold callR2
  rw [h0, h1]
  simp only
  cases e : m (.ow t0 :: .ow t1 :: ds.map .fr) with
  | stuck => simp
  | exc a b d => simp
  | ok r ρ' =>
    rw [wp_ok]
    unfold K2
    match ρ' with
    | .ow u0 :: .ow u1 :: rs =>
      rw [wp_ok]
      exact ⟨fun z => ⟨u0, u1, rs, rfl, z⟩, fun ⟨_, _, _, e, z⟩ => by cases e; exact z⟩
    | [] => simp
    | [x] => cases x <;> simp
    | .no :: y :: rs => simp
    | .fr d :: y :: rs => simp
    | .ow u :: .no :: rs => simp
    | .ow u :: .fr d :: rs => simp
theorem w_call2 {t0 t1 : List PD} (h0 : ρ[i]? = some (.ow t0)) (h1 : ρ[j]? = some (.ow t1)) : Wp (mCall2 i j m mas ρ) Q ↔ Wp (mas ρ) (lz fun ds ρ1 => Wp (callR2 i j m ds ρ1) Q) := by
  unfold mCall2
  rw [h0, h1]
  exact wp_bind
end
end Sd
namespace Sd
open PySem L2 PySem.Spec PyProof.Rows
/-! ### two objects lent to == and != : the own __eq__ decides -/
theorem callR2_exc {i j : Nat} {m : Rho → Rz Rv} {ds : List PD} {ρ ρ' : Rho} {c : Str} {f : Option (Str × PD)} : callR2 i j m ds ρ ≠ .exc c f ρ' := fun z => by
  unfold callR2 at z
  split at z
  · split at z <;> cases z
  · cases z
section
variable {prog : Program} {w : World} {A : Around} {E : Value → Shared → Prop} {s : Shared} {K : PySem.W.Frag} {x C f : Addr} {y : Value} {ox : Obj} {od : Option Obj}
theorem ne_body {Q : Fin → Shared → Prop} (kin : K.In s.heap) (at_ : PySem.W.InstAt s.heap x ox C od) (he : PySem.W.findIn K (.ref C) "__eq__" = some (some (.ref f))) (fn : PySem.W.isFn K (.ref f) = true) (room : A.units < cLine)
    (go : wpAny (model prog w) A (call (.ref f) [.ref x, y]) (fun v s' => ∃ b, v = .bool b ∧ Q (.done (.ret (.bool (!b)))) s') E s) : wpAny (model prog w) A (Builtin.«object.__ne__» ⟨[.ref x, y], []⟩) Q E s := by
  have ask : wpAny (model prog w) A (callSpecialIfBound? (.ref x) (Str.ofString "__eq__") [y]) (fun r s' => ∃ b, r = some (.bool b) ∧ Q (.done (.ret (.bool (!b)))) s') E s :=
    PySem.W.ifBound_K kin at_ he fn (wpAny_mono go (fun v s' ⟨b, e, q⟩ => ⟨b, by rw [e], q⟩) fun _ _ z => z)
  delta Builtin.«object.__ne__»
  repeat (first
    | (refine wpAny_bind (wpAny_mono ask (fun r s1 hr => ?_) fun _ _ z => z); obtain ⟨b, rfl, hq⟩ := hr)
    | exact wpAny_truthy_bool (wpAny_pure hq)
    | exact hq
    | with_reducible refine wpAny_cRoomFor room ?_
    | wp_step)
/-- != when __ne__ is the object's own and __eq__ a def of the class -/
theorem ne_rich {m : Str → Option Value} {h0 : Heap} {L : Addr} {tb : Value} {Q : Value → Shared → Prop} (room : A.units + 1 < cLine) (F : Fr h0 L s.heap m) (K0 : K.In h0) (at_ : PySem.W.InstAt s.heap x ox C od) (tp : PySem.W.Looks (model prog w) s.heap (typeOf y) tb) (nf : PySem.W.notFirst K C tb = true)
    (hc : (PySem.W.clsIn K C).any (fun cd => PySem.W.onlyObject cd.mro) = true) (hn : PySem.W.findIn K (.ref C) "__ne__" = some (some (.builtin "object.__ne__"))) (he : PySem.W.findIn K (.ref C) "__eq__" = some (some (.ref f))) (fn : PySem.W.isFn K (.ref f) = true)
    (go : wpAny (model prog w) A.in1 (call (.ref f) [.ref x, y]) (fun v s' => ∃ b, v = .bool b ∧ Q (.bool (!b)) s') E s) : wpAny (model prog w) A (richCompare .NotEq (.ref x) y) Q E s := by
  have kin := K0.keeps F.keep
  have sl := PySem.F.cmp_object.ne
  obtain ⟨cd, hcd, ho⟩ := PySem.W.any_some hc
  have nm : cd.mro.isEmpty = false := by
    cases q : cd.mro with
    | nil => rw [q] at ho; cases ho
    | cons _ _ => rfl
  have sub : PySem.W.Looks (model prog w) s.heap (isInstance (.ref x) (.type "object")) true :=
    at_.type.andThen (PySem.W.looks_mroIn kin (by unfold PySem.W.mroIn; rw [hcd, Option.bind_some, if_neg (by rw [nm]; decide), PySem.W.only_has ho]))
  have inner : wpAny (model prog w) A (call (.builtin "object.__ne__") [.ref x, y]) (fun v s' => ∃ b, v = .bool (!b) ∧ Q (.bool (!b)) s') E s :=
    wpAny_call (codeAny_call_builtin sl.plain PySem.F.cmpEntry_ne (PySem.W.check_slot PySem.F.cmpKind_ne PySem.F.cmpSplit_ne sub (PySem.F.cmpArgs_ne _ _)
      (ne_body kin at_ he fn room (wpAny_mono go (fun v s' ⟨b, e, q⟩ => ⟨b, e, ⟨b, rfl, q⟩⟩) fun _ _ z => z))))
  have got : wpAny (model prog w) A (call (.builtin "object.__ne__") ([.ref x] ++ [y]) >>= fun v => pure (some v)) (fun r s' => ∃ b, r = some (.bool (!b)) ∧ Q (.bool (!b)) s') E s :=
    wpAny_bind (wpAny_mono inner (fun v s' ⟨b, e, q⟩ => wpAny_pure ⟨b, by rw [e], q⟩) fun _ _ z => z)
  have asked : wpAny (model prog w) A (callSpecialIfBound? (.ref x) "__ne__" [y]) (fun r s' => ∃ b, r = some (.bool (!b)) ∧ Q (.bool (!b)) s') E s := by
    unfold callSpecialIfBound? bindSpecialIfBound?
    refine wpAny_holding (wpAny_bind (wpAny_bind (wpAny_bind (at_.type.here ((PySem.W.looks_findIn kin hn).here (wpAny_bind (wpAny_askSetting (wpAny_ite ?_))))))))
    rw [sl.bind]
    split
    · exact wpAny_bind (wpAny_pure (wpAny_pure got))
    · exact wpAny_tryCatch (wpAny_bind (wpAny_pure (wpAny_pure got)))
  have one : wpAny (model prog w) A (tryCompare (.ref x) "__ne__" y) (fun r s' => ∃ b, r = some (.bool (!b)) ∧ Q (.bool (!b)) s') E s :=
    wpAny_bind (wpAny_mono asked (fun r s' ⟨b, e, q⟩ => e ▸ wpAny_pure ⟨b, rfl, q⟩) fun _ _ z => z)
  have two : wpAny (model prog w) A (tryCompare (.ref x) "__ne__" y) (fun r s' => ∃ v, r = some v ∧ Q v s') E s := wpAny_mono one (fun r s' ⟨b, e, q⟩ => ⟨_, e, q⟩) fun _ _ z => z
  unfold richCompare
  simp only [oneThing_ref]
  refine wpAny_holding (wpAny_bind (wpAny_cRoomFor (Nat.lt_of_succ_lt room) (wpAny_bind (at_.type.here (wpAny_bind (tp.here ?_))))))
  have done : ∀ (rightFirst : Bool) (rest : Sem Value), wpAny (model prog w) A (tryCompare (.ref x) "__ne__" y >>= fun r => match r with
      | some v => pure v
      | x => rest) Q E s := fun _ rest => wpAny_bind (wpAny_mono two (fun r s' ⟨v, e, q⟩ => by
    subst e
    exact wpAny_pure q) fun _ _ z => z)
  split
  · rename_i ne
    have no : PySem.W.subIn K tb (.ref C) = some false := (Bool.or_eq_true_iff.mp nf).elim (fun z => by rw [beq_iff_eq.mp z] at ne; simp at ne) fun z => beq_iff_eq.mp z
    exact wpAny_bind ((PySem.W.looks_subIn kin no).here (done false _))
  · refine wpAny_bind (wpAny_pure (done false _))
end
/-- the facts of a class that has its own == -/
structure EqOf (K : PySem.W.Frag) (C f : Addr) : Prop where
  over : PySem.W.plainOver K C = true
  ne : PySem.W.findIn K (.ref C) "__ne__" = some (some (.builtin "object.__ne__"))
  eqs : PySem.W.findIn K (.ref C) "__eq__" = some (some (.ref f)) ∧ PySem.W.isFn K (.ref f) = true
section
variable {X : Cx} {S : Sx} {k k0 n N : Nat} {C : Addr} {ns : List Str} {T : Nat → Option (List V → HO → Prop)} {ps : List Str} {mb : Rho → Rz Fl} {x y : Str} {px py pos : Pos}
/-- what == and != of two objects ask: the def __eq__, lent both -/
def rObj (K : PySem.W.Frag) (mg : Str → Option Value) (C : Addr) (T : Nat → Option (List V → HO → Prop)) (m : Rho → Rz Rv) (t : Bool → Bool) : R2 := fun x y H Q => ∃ a b dx dy fs gs, x = .ref a ∧ y = .ref b ∧ H a = some (.ins C dx fs) ∧ H b = some (.ins C dy gs) ∧
  spMT K mg T 2 m [x, y] H (fun v H' => ∃ c, v = .bl c ∧ Q (.bl (t c)) H') fun _ _ _ => False
theorem run_eq {A : Around} {pn : List (Addr × Obj)} {σ : L2.St} {H : Hp} {s : Shared} {f : Addr} {fd : FuncData} {sp : Sp} {a b : Addr} {P : Value → Shared → Prop} {Q : VK} (I : Inv X pn σ H s) (Fg : FnG X.prog X.w X.K X.mg X.base k0 f fd ps sp) (hg : A.guards = some []) (hr : Room k0 A) (e0 : Env0 X.prog X.w X.K X.mg X.base A X.stack s H)
    (hb : Binds X.K fd ps []) (q : sp [.ref a, .ref b] H Q fun _ _ _ => False) (go : ∀ v u H' s', Inv X pn σ H' s' → RelV v u → Q v H' → P u s') : wpAny (model X.prog X.w) A (call (.ref f) [.ref a, .ref b]) P X.xe s := by
  have bind := hb s [.ref a, .ref b] I.kIn (Fg.len _ _ _ _ q)
  refine wpAny_call (codeAny_mono (Fg.run A X.stack s H ⟨[.ref a, .ref b], []⟩ [.ref a, .ref b] [.ref a, .ref b] Q _ hg hr e0 bind (.cons rfl (.cons rfl .nil)) q) fun r s' hq => ?_)
  obtain ⟨u, v, H', rfl, J, rv, q3⟩ := ended I hq
  exact go v u H' s' J rv q3
theorem ins_stands {pn : List (Addr × Obj)} {σ : L2.St} {H : Hp} {s : Shared} {a dx : Addr} {fs : List (Str × V)} (I : Inv X pn σ H s) (h : H a = some (.ins C dx fs)) : ∃ od, PySem.W.InstAt s.heap a (PySem.W.instObj C dx) C (some od) :=
  let ⟨_, O, _⟩ := ins_get I.hok h
  let ⟨od, at_, _⟩ := O.look
  ⟨od, at_⟩
theorem op_neO (o : Okx X S k) {f : Addr} {fd : FuncData} {m : Rho → Rz Rv} (Fg : FnG X.prog X.w X.K X.mg X.base k0 f fd ps (spMT X.K X.mg T 2 m)) (hb : Binds X.K fd ps []) (hk : k0 + 2 ≤ k) (hC : Cls X.K C) (E : EqOf X.K C f) : OpR X (compareOp .NotEq) (rObj X.K X.mg C T m fun b => !b) := by
  intro pn s σ H x y v u Q I rx ry ⟨a, b, dx, dy, fs, gs, ex, ey, ha, hb', q⟩
  subst ex ey
  (cases (show v = Value.ref a from rx))
  (cases (show u = Value.ref b from ry))
  obtain ⟨od, J⟩ := ins_stands I ha
  obtain ⟨od', J'⟩ := ins_stands I hb'
  obtain ⟨m, hF⟩ := I.fr
  show wpAny (model X.prog X.w) X.A (richCompare .NotEq (.ref a) (.ref b)) (EP X pn σ Q) X.xe s
  refine ne_rich (tb := .ref C) (hu_of o.rm) hF I.ok.mod.kin J J'.type (by simp [PySem.W.notFirst]) E.over E.ne E.eqs.1 E.eqs.2 ?_
  refine run_eq I Fg (by simpa using o.gd) ((o.rm.mono (show k0 + 1 ≤ k by omega)).in1.mono (by omega)) I.env0.in1 hb q fun w u H' s' I3 rw' ⟨c, e, q3⟩ => ?_
  subst e
  cases rw'
  exact ⟨c, rfl, .bl (!c), H', I3, rfl, q3⟩
theorem op_eqO (o : Okx X S k) {f : Addr} {fd : FuncData} {m : Rho → Rz Rv} (Fg : FnG X.prog X.w X.K X.mg X.base k0 f fd ps (spMT X.K X.mg T 2 m)) (hb : Binds X.K fd ps []) (hk : k0 + 2 ≤ k) (hC : Cls X.K C) (E : EqOf X.K C f) : OpR X (compareOp .Eq) (rObj X.K X.mg C T m fun b => b) := by
  intro pn s σ H x y v u Q I rx ry ⟨a, b, dx, dy, fs, gs, ex, ey, ha, hb', q⟩
  subst ex ey
  (cases (show v = Value.ref a from rx))
  (cases (show u = Value.ref b from ry))
  obtain ⟨od, J⟩ := ins_stands I ha
  obtain ⟨od', J'⟩ := ins_stands I hb'
  obtain ⟨m, hF⟩ := I.fr
  show wpAny (model X.prog X.w) X.A (richCompare .Eq (.ref a) (.ref b)) (EP X pn σ Q) X.xe s
  refine PySem.W.cmp_K (op := .Eq) (tb := .ref C) (Nat.lt_of_succ_lt (hu_of o.rm)) hF I.ok.mod.kin J J'.type (by simp [PySem.W.notFirst]) E.eqs.1 E.eqs.2 ?_
  refine run_eq I Fg o.gd (o.rm.mono (by omega)) I.env0 hb q fun w u H' s' I3 rw' ⟨c, e, q3⟩ => ?_
  subst e
  cases rw'
  exact ⟨.bl c, H', I3, rfl, q3⟩
/-- x == y, x != y of two objects -/
def mCmpO (t : Bool → Bool) (i j : Nat) (m : Rho → Rz Rv) : Rho → Rz Rv := fun ρ => match callR2 i j m [] ρ with
  | .ok (.fr (.bool b)) ρ1 => .ok (.fr (.bool (t b))) ρ1
  | _ => .stuck
theorem cmpO_sound {i j : Nat} {t : Bool → Bool} {m : Rho → Rz Rv} {σ : L2.St} {H : Hp} {Q : VK} (o : Okx X S k) (hm : m = fnM [0, 1] n N mb) (h2 : n = 2) (hij : i ≠ j) (hT : S.T i = some (obK C ns)) (hT2 : S.T j = some (obK C ns)) (hT0 : T 0 = some (obK C ns)) (hT1 : T 1 = some (obK C ns)) (q : tE S (mCmpO t i j m) σ H Q) :
    ∃ v u, σ[i]? = some (some v) ∧ σ[j]? = some (some u) ∧ rObj X.K X.mg C T m t v u H Q := by
  subst h2
  obtain ⟨F, ρ, R, P⟩ := q
  unfold mCmpO at P
  cases hc : callR2 i j m [] ρ with
  | stuck => rw [hc] at P; exact P.elim
  | exc a b c => exact absurd hc callR2_exc
  | ok r ρ1 =>
    rw [hc] at P
    have hc' := hc
    unfold callR2 at hc'
    split at hc'
    case h_2 => cases hc'
    rename_i t0 t1 hi hj
    obtain ⟨p0, us0, s1, _, s3, _⟩ := R.ow i t0 hi
    obtain ⟨p1, us1, w1, _, w3, _⟩ := R.ow j t1 hj
    rw [hT] at s3
    rw [hT2] at w3
    obtain ⟨_, h0, ⟨dx, fs, rfl, _⟩, _⟩ := s3
    obtain ⟨_, h1, ⟨dy, gs, rfl, _⟩, _⟩ := w3
    refine ⟨.ref p0, .ref p1, s1, w1, p0, p1, dx, dy, fs, gs, rfl, rfl, h0, h1, ?_⟩
    rw [← o.hK, ← o.hM]
    refine call_sp2T (S := S.quiet) (vs := []) (ds := []) hm hij R.toQuiet s1 w1 (hT0.trans hT.symm) (hT1.trans hT2.symm) .nil ?_
    rw [hc]
    cases r with
    | ow z => exact P.elim
    | fr d =>
      cases d with
      | bool b =>
        intro F' H' e R' v hv
        cases hv
        exact ⟨b, rfl, P F' H' e R'.unquiet (.bl (t b)) (.bl _)⟩
      | _ => exact P.elim
theorem xe_neO (o : Okx X S k) (D : DkO X.K X.mg X.prog X.w X.base k0 (fun f => EqOf X.K C f) T [0, 1] ps n N mb) (hk : k0 + 2 ≤ k) (hC : Cls X.K C) (i j : Nat) (hT : S.T i = some (obK C ns)) (hT2 : S.T j = some (obK C ns)) (hT0 : T 0 = some (obK C ns)) (hT1 : T 1 = some (obK C ns))
    (h2 : n = 2 := by rfl) (hij : i ≠ j := by decide) (hN : X.N[i]? = some x := by rfl) (hN2 : X.N[j]? = some y := by rfl)
    (hv : Vis X.env.scope x := by first | exact Or.inl rfl | exact Or.inr (Or.inl rfl) | exact Or.inr (Or.inr rfl)) (hd : (x == ("__debug__" : Str)) = false := by decide) (hcd : (x == ("__classdict__" : Str)) = false := by decide)
    (hv2 : Vis X.env.scope y := by first | exact Or.inl rfl | exact Or.inr (Or.inl rfl) | exact Or.inr (Or.inr rfl)) (hd2 : (y == ("__debug__" : Str)) = false := by decide) (hcd2 : (y == ("__classdict__" : Str)) = false := by decide)
    (hm : behindInMarks .NotEq (.Name y py) = false := by first | exact nomark _ | with_unfolding_all rfl) : XE X S (.Compare (.Name x px) [.NotEq] [.Name y py] pos) (mCmpO (fun b => !b) i j (fnM [0, 1] n N mb)) := by
  subst h2
  obtain ⟨f, fd, hn, Fg, E, hb⟩ := D.ex
  refine PE.imp (pe_cmpR (op_neO o Fg hb hk hC E) (pe_var (i := i) hN hv hd hcd) (pe_var (i := j) hN2 hv2 hd2 hcd2) hm) fun σ H Q q => ?_
  obtain ⟨v, u, e1, e2, z⟩ := cmpO_sound (X := X) o rfl rfl hij hT hT2 hT0 hT1 q
  exact ⟨v, e1, u, e2, z⟩
theorem xe_eqO (o : Okx X S k) (D : DkO X.K X.mg X.prog X.w X.base k0 (fun f => EqOf X.K C f) T [0, 1] ps n N mb) (hk : k0 + 2 ≤ k) (hC : Cls X.K C) (i j : Nat) (hT : S.T i = some (obK C ns)) (hT2 : S.T j = some (obK C ns)) (hT0 : T 0 = some (obK C ns)) (hT1 : T 1 = some (obK C ns))
    (h2 : n = 2 := by rfl) (hij : i ≠ j := by decide) (hN : X.N[i]? = some x := by rfl) (hN2 : X.N[j]? = some y := by rfl)
    (hv : Vis X.env.scope x := by first | exact Or.inl rfl | exact Or.inr (Or.inl rfl) | exact Or.inr (Or.inr rfl)) (hd : (x == ("__debug__" : Str)) = false := by decide) (hcd : (x == ("__classdict__" : Str)) = false := by decide)
    (hv2 : Vis X.env.scope y := by first | exact Or.inl rfl | exact Or.inr (Or.inl rfl) | exact Or.inr (Or.inr rfl)) (hd2 : (y == ("__debug__" : Str)) = false := by decide) (hcd2 : (y == ("__classdict__" : Str)) = false := by decide)
    (hm : behindInMarks .Eq (.Name y py) = false := by first | exact nomark _ | with_unfolding_all rfl) : XE X S (.Compare (.Name x px) [.Eq] [.Name y py] pos) (mCmpO (fun b => b) i j (fnM [0, 1] n N mb)) := by
  subst h2
  obtain ⟨f, fd, hn, Fg, E, hb⟩ := D.ex
  refine PE.imp (pe_cmpR (op_eqO o Fg hb hk hC E) (pe_var (i := i) hN hv hd hcd) (pe_var (i := j) hN2 hv2 hd2 hcd2) hm) fun σ H Q q => ?_
  obtain ⟨v, u, e1, e2, z⟩ := cmpO_sound (X := X) o rfl rfl hij hT hT2 hT0 hT1 q
  exact ⟨v, e1, u, e2, z⟩
end
/-! ### isinstance(x, C), x an object that is lent -/
structure IsOf (K : PySem.W.Frag) (C : Addr) : Prop where
  cls : PySem.W.findIn K (.ref C) "__class__" = some (some (.builtin "object.__class__"))
  get : PySem.W.specialIn K (.builtin "object.__class__") "__get__" = some (some (.builtin "getset_descriptor.__get__"))
  tak : PySem.W.takesIn K (.builtin "object.__class__") = some true
  mro : PySem.W.mroIn K C (.type "object") = some true
  one : PySem.W.kitOne K (.ref C) (.ref C) = some true
def mIsO (i : Nat) : Rho → Rz Rv := fun ρ => match ρ[i]? with
  | some (.ow _) => .ok (.fr (.bool true)) ρ
  | _ => .stuck
theorem xe_isO {X : Cx} {S : Sx} {k : Nat} {C : Addr} {ns : List Str} {x c : Str} {p px pc pos : Pos} (o : Okx X S k) (i : Nat) (hm : S.mg "isinstance" = none) (hc : X.mg c = some (.ref C)) (hC : Cls X.K C) (Z : IsOf X.K C) (hT : S.T i = some (obK C ns)) (hg : Gl X "isinstance" := by rfl) (hgc : Gl X c := by rfl) (hN : X.N[i]? = some x := by rfl)
    (hv : Vis X.env.scope x := by first | exact Or.inl rfl | exact Or.inr (Or.inl rfl) | exact Or.inr (Or.inr rfl)) (hd : (x == ("__debug__" : Str)) = false := by decide) (hcd : (x == ("__classdict__" : Str)) = false := by decide) (hdc : (c == ("__debug__" : Str)) = false := by decide)
    (he : starEach [.Name x px, .Name c pc] X.env = (false, eval (.Name x px) X.env) :: starEach [.Name c pc] X.env := by rfl) (npl : (backTo pos (starEach [.Name c pc] X.env)).any (·.1) = false := by rfl) :
    XE X S (.Call (.Name "isinstance" p) [.Name x px, .Name c pc] [] pos) (mIsO i) :=
  PE.imp (pe_callB call_isi hg (o.hM ▸ hm) (by decide +kernel) (pa_cons (pe_var (i := i) hN hv hd hcd) (pa_cons (pe_glob (v := .ref C) hgc hc rfl hdc) pa_nil) he) (by decide) (by decide) he npl) fun σ H Q q => by
    obtain ⟨F, ρ, R, P⟩ := q
    unfold mIsO at P
    split at P
    · rename_i ts hi
      obtain ⟨p0, us0, s1, _, s3, _⟩ := R.ow i ts hi
      rw [hT] at s3
      obtain ⟨_, h0, ⟨dx, fs, rfl, _⟩, _⟩ := s3
      exact ⟨.ref p0, s1, .ref p0, .ref C, .ref C, .ref C, true, rfl, .own C, .base (.ins h0 hC Z.cls Z.get Z.tak Z.mro), Z.one, PostE.ok P R _ (.bl _)⟩
    · exact P.elim
/-! ### x, y, z = a, b, c: all three go into the frozen part -/
def mPar3 (i j l : Nat) (ma mb mc : Rho → Rz Rv) : Rho → Rz Fl := fun ρ => (ma ρ).bind fun r ρ1 => (mb ρ1).bind fun q ρ2 => (mc ρ2).bind fun t ρ3 => if i < ρ3.length ∧ j < ρ3.length ∧ l < ρ3.length then .ok .nx (((ρ3.set i (.fr r.d)).set j (.fr q.d)).set l (.fr t.d)) else .stuck
theorem xs_par3 {X : Cx} {S : Sx} {k : Nat} {x y z : Str} {pos px py pz pt pt2 : Pos} {kt k2 : Nat} {ea eb ec : Expr} {ma mb mc : Rho → Rz Rv} (o : Okx X S k) (i j l : Nat) (ha : XE X S ea ma) (hb : XE X S eb mb) (hc : XE X S ec mc) (hJ : i ∉ S.J ∧ j ∉ S.J ∧ l ∉ S.J := by first | exact ⟨nj rfl, nj rfl, nj rfl⟩ | decide)
    (hne : i ≠ j ∧ i ≠ l ∧ j ≠ l := by decide) (hi : X.N[i]? = some x := by rfl) (hj : X.N[j]? = some y := by rfl) (hl : X.N[l]? = some z := by rfl)
    (hx : X.env.scope.names.lookup x = some .local := by rfl) (hy : X.env.scope.names.lookup y = some .local := by rfl) (hz : X.env.scope.names.lookup z = some .local := by rfl)
    (hw : swappedStores [.Tuple [.Name x px, .Name y py, .Name z pz] kt pt] (.Tuple [ea, eb, ec] k2 pt2) X.env = pure (some [x, y, z]) := by rfl) (hs : swapsWithSole [.Tuple [.Name x px, .Name y py, .Name z pz] kt pt] (.Tuple [ea, eb, ec] k2 pt2) pos.line X.env = pure false := by rfl)
    (he : starEach [ea, eb, ec] X.env = (false, eval ea X.env) :: starEach [eb, ec] X.env := by rfl) (he2 : starEach [eb, ec] X.env = (false, eval eb X.env) :: starEach [ec] X.env := by rfl) (he3 : starEach [ec] X.env = [(false, eval ec X.env)] := by rfl) :
    XS X S (.Assign [.Tuple [.Name x px, .Name y py, .Name z pz] kt pt] (.Tuple [ea, eb, ec] k2 pt2) pos) (mPar3 i j l ma mb mc) :=
  PS.imp (ps_par3 o.calm o.nd hi hj hl hne.1 hne.2.1 hne.2.2 hx hy hz (pa_cons ha (pa_cons hb (pa_cons hc pa_nil he3) he2) he) hw hs) fun D σ H q => by
    obtain ⟨F, ρ, R, P⟩ := q
    refine tE.useS (g := fun d1 ρ1 => (mb ρ1).bind fun q ρ2 => (mc ρ2).bind fun t ρ3 => if i < ρ3.length ∧ j < ρ3.length ∧ l < ρ3.length then .ok .nx (((ρ3.set i (.fr d1)).set j (.fr q.d)).set l (.fr t.d)) else .stuck) R P fun v1 d1 F1 ρ1 H1 e1 R1 D1 P1 => ?_
    refine tE.useS (g := fun d2 ρ2 => (mc ρ2).bind fun t ρ3 => if i < ρ3.length ∧ j < ρ3.length ∧ l < ρ3.length then .ok .nx (((ρ3.set i (.fr d1)).set j (.fr d2)).set l (.fr t.d)) else .stuck) R1 P1 fun v2 d2 F2 ρ2 H2 e2 R2 D2 P2 => ?_
    refine tE.useS (g := fun d3 ρ3 => if i < ρ3.length ∧ j < ρ3.length ∧ l < ρ3.length then .ok .nx (((ρ3.set i (.fr d1)).set j (.fr d2)).set l (.fr d3)) else .stuck) R2 P2 fun v3 d3 F3 ρ3 H3 e3 R3 D3 P3 => ?_
    by_cases hh : i < ρ3.length ∧ j < ρ3.length ∧ l < ρ3.length
    · rw [if_pos hh] at P3
      refine ⟨v1, v2, v3, rfl, ?_⟩
      obtain ⟨Ra, oa⟩ := R3.setSlot (O0 := Own ρ3 σ) (H0 := H3) (r := .fr d1) (rp_mono (e2.trans e3).fz _ _ D1) hh.1 hJ.1 (.inr ⟨_, rfl⟩)
      obtain ⟨Rb, ob⟩ := Ra.setSlot (O0 := Own ρ3 σ) (H0 := H3) (r := .fr d2) (rp_mono e3.fz _ _ D2) (by simpa using hh.2.1) hJ.2.1 (.inr ⟨_, rfl⟩)
      obtain ⟨Rc, oc⟩ := Rb.setSlot (O0 := Own ρ3 σ) (H0 := H3) (r := .fr d3) D3 (by simpa using hh.2.2) hJ.2.2 (.inr ⟨_, rfl⟩)
      refine P3 F3 _ H3 ⟨fun _ _ h => h, fun _ h => .inl h, fun _ _ h _ => h, fun _ h => h, fun a z => ?_⟩ Rc
      rcases oc a z with z | z | z
      · rcases ob a z with z | z | z
        · rcases oa a z with z | z | z
          · exact .inl z
          · exact .inr z
          · exact .inl z
        · exact .inr z
        · exact .inl z
      · exact .inr z
      · exact .inl z
    · rw [if_neg hh] at P3; exact P3.elim
/-- a def by its statement, found by fnd -/
structure DfO (K : PySem.W.Frag) (fnd : Addr → Prop) (x qual : Str) (st : Stmt) (ps : List Str) : Prop where
  ex : ∃ (f : Addr) (fd : FuncData), Fun K x qual st f fd ∧ fnd f ∧ Binds K fd ps []
theorem DfO.dk {P : Program} {w : World} {mg : Str → Option Value} {base : Heap} {K : PySem.W.Frag} {x qual : Str} {st : Stmt} {N ps : List Str} {k : Nat} {m : Rho → Rz Fl} {T : Nat → Option (List V → HO → Prop)} {fnd : Addr → Prop} (D : DfO K fnd x qual st ps) (J : List Nat) (Sc : FnScope N ps (defScope st)) (hJ : ∀ j ∈ J, j < ps.length)
    (hbody : ∀ (f : Addr) (cdv : Value) (A : Around) (outer : List Env) (s : Shared) (H : Hp) (vs : List V) (E : L2.XK), Okx (dX P w K mg base N qual (defScope st) f cdv A outer s H E) (sxOfT K mg T J vs E) k → XSs (dX P w K mg base N qual (defScope st) f cdv A outer s H E) (sxOfT K mg T J vs E) (defBody st) m) :
    DkO K mg P w base (k + 1) fnd T J ps ps.length N.length m := by
  obtain ⟨f, fd, Fn, hf, hb⟩ := D.ex
  exact DkO.of J Fn hb hf Sc hJ (hbody f)
/-- the statement in the j-th place of a class -/
def inCls (s : Stmt) (j : Nat) : Stmt := match s with
  | .ClassDef _ _ _ sts _ _ _ _ _ _ _ => (sts[j]?).getD (.Pass ⟨0, 0, 0, 0⟩)
  | _ => .Pass ⟨0, 0, 0, 0⟩
theorem w_par3 {c : Cl} {ρ : Rho} {i j l : Nat} {ma mb mc : Rho → Rz Rv} {Qf : Fl → Rho → Prop} : Wp (mPar3 i j l ma mb mc (c :: ρ)) Qf ↔ Wp (ma (c :: ρ)) (lz fun r ρ1 => Wp (mb ρ1) (lz fun q ρ2 => Wp (mc ρ2) (lz fun t ρ3 => (i < ρ3.length ∧ j < ρ3.length ∧ l < ρ3.length) ∧ Qf .nx (((ρ3.set i (.fr r.d)).set j (.fr q.d)).set l (.fr t.d))))) := by
  unfold mPar3
  rw [wp_bind]
  refine Wp.congr fun r ρ1 => ?_
  rw [wp_bind]
  refine Wp.congr fun q ρ2 => ?_
  rw [wp_bind]
  refine Wp.congr fun t ρ3 => ?_
  show _ ↔ _ ∧ _
  by_cases h : i < ρ3.length ∧ j < ρ3.length ∧ l < ρ3.length
  · rw [if_pos h, wp_ok]
    simp [h]
  · rw [if_neg h, wp_stuck]
    simp [h]
section
variable {c : Cl} {ρ : Rho} {i j n N : Nat} {t : Bool → Bool} {m : Rho → Rz Rv} {Q : Rv → Rho → Prop}
@[simp] theorem w_isO : Wp (mIsO i (c :: ρ)) Q ↔ ∃ ds, (c :: ρ)[i]? = some (.ow ds) ∧ Q (.fr (.bool true)) (c :: ρ) := by
  unfold mIsO
  cases h : (c :: ρ)[i]? with
  | none => simp
  | some cc => cases cc <;> simp
/-- the answer of a comparison -/
def KCmp (t : Bool → Bool) (Q : Rv → Rho → Prop) : Rv → Rho → Prop := fun r ρ1 => ∃ b, r = .fr (.bool b) ∧ Q (.fr (.bool (t b))) ρ1
theorem w_cmpO : Wp (mCmpO t i j m ρ) Q ↔ Wp (callR2 i j m [] ρ) (KCmp t Q) := by
  unfold mCmpO KCmp
  cases h : callR2 i j m [] ρ with
  | stuck => simp
  | exc a b c => simp
  | ok r ρ1 =>
    cases r with
    | ow z => simp
    | fr d =>
      cases d with
      | bool b => cases b <;> simp
      | _ => simp
end
end Sd
namespace Sd
open PySem L2 PySem.Spec PyProof.Rows
/-! ### any(xs) of a list of ints -/
theorem vals_int_at : ∀ {ns : List Int} {its : List Value} {i : Nat} {v : Value}, Vals (ns.map V.int) its → its[i]? = some v → ∃ n t, ns[i]? = some n ∧ v = .int n t
  | [], _, _, _, h, e => by cases h; simp at e
  | n :: ns, _, 0, v, h, e => by
    cases h with
    | cons a b =>
      obtain ⟨t, rfl⟩ := (show ∃ t, _ = Value.int n t from a)
      exact ⟨n, t, rfl, by simpa using e.symm⟩
  | n :: ns, _, i + 1, v, h, e => by
    cases h with
    | cons a b => exact vals_int_at (i := i) b (by simpa using e)
theorem any_upto : ∀ ns : List Int, (List.range ns.length).any (fun i => ns.getD i 0 != 0) = ns.any fun n => n != 0
  | [] => rfl
  | n :: ns => by
    have e := any_upto ns
    simp only [List.length_cons, List.range_succ_eq_map, List.any_cons, List.any_map]
    rw [← e]
    rfl
def rAnyI (K : PySem.W.Frag) : List V → Hp → VK → Prop := fun vs H Q => ∃ (a : Addr) (ns : List Int), vs = [V.ref a] ∧ SqL K H a (ns.map V.int) ∧ Q (.bl (ns.any fun n => n != 0)) H
theorem cr_anyI {X : Cx} (calm : X.calm = true) : CallR X (.builtin "any") (rAnyI X.K) := fun pins s σ H vs us Q I r ⟨a, ns, e, hs, q⟩ => by
  subst e
  obtain ⟨its, rv, isl, _⟩ := I.list hs
  have one := Vals.ref1 r
  subst one
  have len : its.length = ns.length := by rw [← rv.length, List.length_map]
  have tr : TruthOf X.prog X.w X.A.in1 (fun i v => its.toArray[i]? = some v) fun i => ns.getD i 0 != 0 := fun i v s Q E hv hq => by
    obtain ⟨n, t, hn, rfl⟩ := vals_int_at rv (i := i) (v := v) (by simpa using hv)
    have e : ns.getD i 0 = n := by rw [List.getD_eq_getElem?_getD, hn]; rfl
    simp only [e] at hq
    exact PySem.P.truthy_int hq
  refine call_any_walk (iter_any isl.isList fun s2 e2 st ne => ?_)
  rw [e2] at st ⊢
  have W := Walks.list (prog := X.prog) (w := X.w) (A := X.A.in1) (I.ok.hd calm) s.heap.objs.size a ne its.toArray
  refine ⟨_, _, _, _, _, _, _, rfl, W, st, tr, fun h' tk keep => ⟨.bl _, H, I.kept (fun b o eo => keep b o (fun z => ?_) (Heap.get?_push_of_some _ eo)), ?_, q⟩⟩
  · have lt := Heap.lt_size eo
    rw [List.mem_singleton.mp z] at lt
    exact Nat.lt_irrefl _ lt
  · have e3 := any_upto ns
    rw [List.size_toArray, len, e3]
    rfl
def gAnyI : PD → Option PD
  | .list ds => (ints? ds).map fun ns => .bool (ns.any fun n => n != 0)
  | _ => none
theorem sim_anyI {X : Cx} {S : Sx} (hK : S.K = X.K) : SimC X S (rAnyI X.K) fun ds => (g1 gAnyI ds).map .fr := SimC.pure1 fun F H v d z up hd hz => by
  cases hd with
  | @lst a xs ds h1 h2 =>
    have hz : (ints? ds).map (fun ns => PyData.bool (ns.any fun n => n != 0)) = some z := hz
    cases q : ints? ds with
    | none => rw [q] at hz; cases hz
    | some ns =>
      rw [q] at hz
      cases hz
      obtain rfl := ints?_eq q
      have e := h2.ints
      subst e
      exact ⟨_, .bl _, fun Q q => ⟨_, ns, rfl, .inl (.inl (up _ _ h1)), q⟩⟩
  | _ => cases hz
abbrev cAnyI : List PD → Option Rv := fun ds => (g1 gAnyI ds).map .fr
theorem xe_anyI {X : Cx} {S : Sx} {k : Nat} {e : Expr} {m : Rho → Rz (List PD)} {p pos : Pos} (o : Okx X S k) (hm : S.mg "any" = none) (ha : XA X S [e] m) (hg : Gl X "any" := by rfl) (he : starEach [e] X.env = [(false, eval e X.env)] := by rfl) : XE X S (.Call (.Name "any" p) [e] [] pos) (mCB cAnyI m) :=
  xe_cb o (cr_anyI o.calm) (sim_anyI o.hK) hm ha hg (by decide +kernel) (by decide) (by decide) he (by rfl)
end Sd
namespace Sd
open PySem L2 PySem.Spec PyProof.Rows
/-! ### x.insert(0, e) -/
def rInsD : V → List V → Hp → VK → Prop := fun x vs H Q => ∃ (l : Addr) (xs : List V) (i : Int) (y : V), x = .ref l ∧ vs = [.int i, y] ∧ H l = some (.lst xs) ∧ xs.length < sizeLine ∧ 0 ≤ i ∧ i < 2 ^ 63 ∧
    Q .non (upd H l (.lst (xs.take i.toNat ++ [y] ++ xs.drop i.toNat)))
section
variable {X : Cx} {S : Sx} {k : Nat} {e : Expr} {me : Rho → Rz Rv}
theorem mt_insD : MtR X "list.insert" rInsD := mt_insert
def mIns (i : Nat) (m : Rho → Rz Rv) : Rho → Rz Rv := fun ρ => match ρ.owL i with
  | none => .stuck
  | some _ => (m ρ).bind fun r ρ1 => match ρ1.owL i with
    | some ds => if okLen (ds.length + 1) = true then .ok (.fr .none) (ρ1.set i (.ow (r.d :: ds))) else .stuck
    | none => .stuck
theorem xe_ins (i : Nat) (hp : PE X e (tBM X.K "list" rInsD (tVar i) (tCons (tE S (mC (.int 0))) (tCons (tE S me) tNil)))) (hT : S.T i = none := by first | rfl | assumption) : XE X S e (mIns i me) := PE.imp hp fun σ H Q q => by
    obtain ⟨F, ρ, R, P⟩ := q
    unfold mIns at P
    cases h0 : ρ.owL i with
    | none => rw [h0] at P; exact P.elim
    | some ds0 =>
      rw [h0] at P
      obtain ⟨p, vs, e1, e2, e3, e4⟩ := R.ow i ds0 (Rho.owL_eq h0)
      have e5 := e3.lst hT
      refine ⟨.ref p, e1, .inl ⟨rfl, _, .inl (.inl e5)⟩, ?_⟩
      refine tE.use (β := Rv) (m := mC (.int 0)) (g := fun d ρ0 => match d with
        | .int n => if n = 0 then (me ρ0).bind fun r ρ1 => match ρ1.owL i with
          | some ds => if okLen (ds.length + 1) = true then .ok (.fr .none) (ρ1.set i (.ow (r.d :: ds))) else .stuck
          | none => .stuck
          else .stuck
        | _ => .stuck) R P fun z0 d0 F0 ρ0 H0 x0 R0 D0 P0 => ?_
      cases D0 with
      | int n =>
        by_cases cn : n = 0
        · subst cn
          refine tE.use (β := Rv) (g := fun d ρ1 => match ρ1.owL i with
            | some ds => if okLen (ds.length + 1) = true then .ok (.fr .none) (ρ1.set i (.ow (d :: ds))) else .stuck
            | none => .stuck) R0 P0 fun v d F1 ρ1 H1 x1 R1 D1 P1 => ?_
          cases h1 : ρ1.owL i with
          | none => rw [h1] at P1; exact P1.elim
          | some ds =>
            rw [h1] at P1
            simp only at P1
            by_cases c : okLen (ds.length + 1) = true
            · rw [if_pos c] at P1
              obtain ⟨us, q1, q2⟩ := R1.owAt (Rho.owL_eq h1) e1 hT
              obtain ⟨R2, x2⟩ := R1.mut (Rho.owL_eq h1) e1 (.cons D1 q2) hT
              exact ⟨p, us, 0, v, rfl, rfl, q1, by rw [q2.len]; exact okLen.lt c, by decide, by decide, by simpa using P1 F1 _ x2 R2 .non .non⟩
            · rw [if_neg c] at P1; exact P1.elim
        · simp only [if_neg cn] at P0
          exact P0.elim
      | _ => exact P0.elim
/-! its wp rules -/
variable {c : Cl} {ρ : Rho} {i : Nat} {m : Rho → Rz Rv} {Q : Rv → Rho → Prop}
def kIns (i : Nat) (r : Rv) (Q : Rv → Rho → Prop) (ρ1 : Rho) (ds : List PD) : Prop := okLen (ds.length + 1) = true ∧ Q (.fr .none) (ρ1.set i (.ow (r.d :: ds)))
@[simp ↓] theorem kIns_a {r : Rv} {ρ1 : Rho} {ds : List PD} : kIns i r Q ρ1 ds ↔ okLen (ds.length + 1) = true ∧ Q (.fr .none) (ρ1.set i (.ow (r.d :: ds))) := Iff.rfl
@[simp] theorem w_ins : Wp (mIns i m (c :: ρ)) Q ↔ (Rho.owL (c :: ρ) i).isSome = true ∧ Wp (m (c :: ρ)) (lz fun r ρ1 => WpO (ρ1.owL i) (kIns i r Q ρ1)) := by
  unfold mIns
  cases h : Rho.owL (c :: ρ) i with
  | none => simp
  | some z =>
    simp only [Option.isSome_some, true_and]
    rw [wp_bind]
    refine Wp.congr fun r ρ1 => ?_
    simp only [lz_any]
    cases h1 : ρ1.owL i with
    | none => simp
    | some ds =>
      simp only [wpo_some, kIns_a]
      by_cases h3 : okLen (ds.length + 1) = true
      · rw [if_pos h3]; exact ⟨fun q => ⟨h3, wp_ok.mp q⟩, fun q => wp_ok.mpr q.2⟩
      · rw [if_neg h3]; exact ⟨fun q => (wp_stuck.mp q).elim, fun q => absurd q.1 h3⟩
def kPop0 (i : Nat) (Q : Rv → Rho → Prop) (ρ : Rho) (ds : List PD) : Prop := WpO ds[ds.length - 1]? fun d => Q (.fr d) (ρ.set i (.ow ds.dropLast))
@[simp ↓] theorem kPop0_a {ds : List PD} {d : PD} : kPop0 i Q ρ (ds ++ [d]) ↔ Q (.fr d) (ρ.set i (.ow ds)) := by
  unfold kPop0
  simp
@[simp] theorem w_pop : Wp (mPop i (c :: ρ)) Q ↔ WpO (Rho.owL (c :: ρ) i) (kPop0 i Q (c :: ρ)) := by
  unfold mPop
  cases h : Rho.owL (c :: ρ) i with
  | none => simp
  | some ds =>
    simp only [wpo_some]
    unfold kPop0
    cases h1 : ds[ds.length - 1]? with
    | none => simp
    | some d => simp
end
end Sd
namespace Sd
open PySem L2 PySem.Spec PyProof.Rows
/-! ### told = [f(..), .., g(..), ..]; told.append(e); if c: return False; for row in (told[k], told[k + 1]): row.append(None) -/
def flat1 : PD → Bool
  | .int _ => true
  | .none => true
  | .bool _ => true
  | _ => false
def noH : Hp := fun _ => none
theorem rp_flat {K : PySem.W.Frag} {F : Hp} {v : V} {d : PD} (c : flat1 d = true) (h : Rp K F v d) : Rp K noH v d := by
  cases h with
  | non => exact .non
  | bl b => exact .bl b
  | int i => exact .int i
  | _ => cases c
theorem noH_le {F : Hp} : ∀ a o, noH a = some o → F a = some o := fun a o q => by cases q
def flatR : List (Rho → Rz Rv) → Rho → Rz (List PD)
  | [], ρ => .ok [] ρ
  | m :: ms, ρ => (m ρ).bind fun r ρ1 => match r with
    | .fr d => if flat1 d = true then (flatR ms ρ1).bind fun ds ρ2 => .ok (d :: ds) ρ2 else .stuck
    | .ow _ => .stuck
def mixR (hs ms : List (Rho → Rz Rv)) : Rho → Rz (List PD × List (List PD)) := fun ρ => (flatR hs ρ).bind fun es ρ1 => (nestR ms ρ1).bind fun dss ρ2 => .ok (es, dss) ρ2
theorem mixR_cons {m : Rho → Rz Rv} {hs ms : List (Rho → Rz Rv)} {ρ : Rho} : mixR (m :: hs) ms ρ = (m ρ).bind fun r ρ1 => match r with
    | .fr d => if flat1 d = true then (mixR hs ms ρ1).bind fun p ρ2 => .ok (d :: p.1, p.2) ρ2 else .stuck
    | .ow _ => .stuck := by
  unfold mixR
  simp only [flatR]
  cases m ρ with
  | stuck => rfl
  | exc c f ρ' => rfl
  | ok r ρ1 =>
    cases r with
    | ow ds => rfl
    | fr d =>
      simp only [Rz.bind]
      by_cases c : flat1 d = true
      · rw [if_pos c, if_pos c]
        cases flatR hs ρ1 with
        | stuck => rfl
        | exc c f ρ' => rfl
        | ok es ρ2 =>
          simp only [Rz.bind]
          cases nestR ms ρ2 <;> rfl
      · rw [if_neg c, if_neg c]
def tM (S : Sx) (hs ms : List (Rho → Rz Rv)) : TA := fun σ H T => ∃ F ρ, Rs S F ρ σ H ∧ PostE S σ F ρ H (mixR hs ms ρ) fun F' ρ' H' p => ∀ us vs, RpAll S.K noH us p.1 → NestV S (Own ρ σ) H (Own ρ' σ) F' H' vs p.2 → T (us ++ vs) H'
section
variable {X : Cx} {S : Sx} {k : Nat} {e : Expr} {es : List Expr} {m : Rho → Rz Rv} {hs ms : List (Rho → Rz Rv)}
theorem xm_nil (h : PA X es (tN S ms)) : PA X es (tM S [] ms) := PA.imp h fun σ H T q => by
  obtain ⟨F, ρ, R, P⟩ := q
  refine ⟨F, ρ, R, ?_⟩
  unfold mixR at P
  simp only [flatR, Rz.bind] at P
  have P' : PostE S σ F ρ H ((nestR ms ρ).bind fun dss ρ2 => .ok (([] : List PD), dss) ρ2) _ := P
  refine PostE.mono (PostE.bind P') fun F1 ρ1 H1 dss e1 R1 P1 vs hvs => ?_
  exact PostE.ok (P1 F1 e1) R1 [] vs .nil hvs
theorem xm_cons (ha : XE X S e m) (hb : PA X es (tM S hs ms)) (hst : starEach (e :: es) X.env = (false, eval e X.env) :: starEach es X.env := by rfl) : PA X (e :: es) (tM S (m :: hs) ms) := PA.imp (pa_cons ha hb hst) fun σ H T q => by
  obtain ⟨F, ρ, R, P⟩ := q
  rw [mixR_cons] at P
  refine ⟨F, ρ, R, PostE.mono (PostE.bind P) fun F1 ρ1 H1 r e1 R1 P1 v hv => ?_⟩
  cases r with
  | ow ds => exact (P1 F1 e1).elim
  | fr d =>
    have P2 := P1 F1 e1
    simp only at P2
    by_cases c : flat1 d = true
    · rw [if_pos c] at P2
      refine ⟨F1, ρ1, R1, PostE.mono (PostE.bind P2) fun F2 ρ2 H2 p e2 R2 P3 us vs hus hvs => ?_⟩
      have P4 := PostE.ok (P3 F2 e2) R2
      exact P4 (v :: us) vs (.cons (rp_flat c hv) hus) (hvs.ext e1)
    · rw [if_neg c] at P2
      exact P2.elim
end
def tTwo (i a : Nat) : TA := fun σ H T => ∃ q xs v w, σ[i]? = some (some (.ref q)) ∧ H q = some (.lst xs) ∧ xs[a]? = some v ∧ xs[a + 1]? = some w ∧ T [v, w] H
section
variable {X : Cx} {x : Str} {i a k1 k2 : Nat} {p1 p2 p3 p4 p5 p6 : Pos}
theorem pa_two (hi : X.N[i]? = some x) (hv : Vis X.env.scope x) (hd : (x == ("__debug__" : Str)) = false) (hcd : (x == ("__classdict__" : Str)) = false)
    (s1 : PlainIx (.Constant (.int (a : Int)) k1 p2)) (s2 : PlainIx (.Constant (.int ((a + 1 : Nat) : Int)) k2 p5))
    (h1 : starEach [.Subscript (.Name x p1) (.Constant (.int (a : Int)) k1 p2) p3, .Subscript (.Name x p4) (.Constant (.int ((a + 1 : Nat) : Int)) k2 p5) p6] X.env = (false, eval (.Subscript (.Name x p1) (.Constant (.int (a : Int)) k1 p2) p3) X.env) :: starEach [.Subscript (.Name x p4) (.Constant (.int ((a + 1 : Nat) : Int)) k2 p5) p6] X.env)
    (h2 : starEach [.Subscript (.Name x p4) (.Constant (.int ((a + 1 : Nat) : Int)) k2 p5) p6] X.env = (false, eval (.Subscript (.Name x p4) (.Constant (.int ((a + 1 : Nat) : Int)) k2 p5) p6) X.env) :: starEach [] X.env) :
    PA X [.Subscript (.Name x p1) (.Constant (.int (a : Int)) k1 p2) p3, .Subscript (.Name x p4) (.Constant (.int ((a + 1 : Nat) : Int)) k2 p5) p6] (tTwo i a) :=
  PA.imp (pa_cons (pe_ix ix_list (pe_var (i := i) hi hv hd hcd) pe_int s1) (pa_cons (pe_ix ix_list (pe_var (i := i) hi hv hd hcd) pe_int s2) pa_nil h2) h1) fun σ H T q => by
    obtain ⟨q, xs, v, w, e, hq, e1, e2, P⟩ := q
    exact ⟨.ref q, e, q, xs, a, v, rfl, rfl, .inl (.inl hq), by rw [atI_cast]; exact e1, .ref q, e, q, xs, ((a + 1 : Nat) : Int), w, rfl, rfl, .inl (.inl hq), by rw [atI_cast]; exact e2, P⟩
end
def nestF (i j a : Nat) (t : Rho → Rz Bool) (es0 : List PD) (d5 : PD) (dss : List (List PD)) (ρ2 : Rho) : Rz Fl :=
  if i < ρ2.length ∧ j < ρ2.length ∧ es0.length = a ∧ dss.length = 2 ∧ (dss.all fun ds => okLen (ds.length + 1)) = true then
    (t (ρ2.set i (.fr (.list (es0 ++ dss.map PyData.list ++ [d5]))))).bind fun b ρ3 => if b = true then .ok (.rt (.fr (.bool false))) ρ3 else .ok .nx (((joinR ρ2 ρ3).set i .no).set j .no)
  else .stuck
structure TailF (S : Sx) (i a : Nat) (F0 : Hp) (ρ0 : Rho) (σ0 : L2.St) (H0 F2 : Hp) (ρ2 : Rho) (σ : L2.St) (H : Hp) (q : Addr) (us vs : List V) (v5 : V) (es0 : List PD) (d5 : PD) (dss : List (List PD)) : Prop where
  R : Rs S F2 ρ2 σ H
  e : Ext (Own ρ0 σ0) F0 H0 (Own ρ2 σ) F2 H
  at_ : σ[i]? = some (some (.ref q))
  hq : H q = some (.lst (us ++ vs ++ [v5]))
  fq : F2 q = none
  nq : ¬ Own ρ2 σ q
  bq : H0 q = none
  us_ : RpAll S.K noH us es0
  v5_ : Rp S.K noH v5 d5
  vs_ : NestV S (Own ρ0 σ0) H0 (Own ρ2 σ) F2 H vs dss
  ne : ∀ v ∈ vs, v ≠ .ref q
def kNestT (n : Rho → Rz Fl) : Fl → Rho → Rz Fl := fun fl ρ1 => match fl with
  | .nx => n ρ1
  | .bk => .ok .bk ρ1
  | .ct => .ok .ct ρ1
  | .rt r => .ok (.rt r) ρ1
def tTail (S : Sx) (i j a : Nat) (t : Rho → Rz Bool) (n : Rho → Rz Fl) : TS := fun D σ H => ∃ F0 ρ0 σ0 H0 F2 ρ2 q us vs v5 es0 d5 dss, TailF S i a F0 ρ0 σ0 H0 F2 ρ2 σ H q us vs v5 es0 d5 dss ∧ PostS S F0 ρ0 σ0 H0 ((nestF i j a t es0 d5 dss ρ2).bind (kNestT n)) D
section
variable {X : Cx} {S : Sx} {k : Nat} {c : Expr} {t : Rho → Rz Bool} {rest body : List Stmt} {n : Rho → Rz Fl} {x y : Str} {ts : List Expr} {p4 p5 p6 p7 p8 p9 : Pos} {kb kt : Nat}
theorem xs_tailT (o : Okx X S k) (i j a : Nat) (hts : PA X ts (tTwo i a)) (hc : XT X S c t) (hb : XSs X S body (mSeq (mDrop (mApp j (mC .none))) mNx)) (hr : XSs X S rest n)
    (hT : ∀ l, S.T l = none) (hJ : i ∉ S.J ∧ j ∉ S.J) (hij : i ≠ j) (hj : X.N[j]? = some y) (hy : Loc X.env.scope y)
    (hfy : X.fn y = true ∨ X.env.scope.names.lookup y = some .local)
    (hfs : ∀ z, foldedSetIterable (.Tuple ts kt p6) X.env z = pure z) :
    PSs X (.If c [.Return (some (.Constant (.bool false) kb p4)) p5] [] p8 :: .For (.Name y p7) (.Tuple ts kt p6) body [] p9 :: rest) (tTail S i j a t n) :=
  PSs.imp (pss_cons (ps_if hc (xs_cons (S := S) (xs_ret xe_bl) xs_nil) pss_nil) (pss_cons (ps_for o.po o.calm (pi_tup (pe_tup hts)) (pg_name o.nd hj hy hfy) hb hfs) hr)) fun D σ H q => by
    obtain ⟨F0, ρ0, σ0, H0, F2, ρ2, q, us, vs, v5, es0, d5, dss, W, P⟩ := q
    unfold nestF at P
    by_cases hcond : i < ρ2.length ∧ j < ρ2.length ∧ es0.length = a ∧ dss.length = 2 ∧ (dss.all fun ds => okLen (ds.length + 1)) = true
    · rw [if_pos hcond] at P
      obtain ⟨il, jl, al, dl, dok⟩ := hcond
      obtain ⟨Fa, ua, wa, Ra, Da⟩ := W.vs_.freeze W.R
      have qF : Fa q = none := by
        cases z : Fa q with
        | none => rfl
        | some w =>
          rcases wa q (by rw [z]; simp) with y | y
          · exact absurd W.fq y
          · exact absurd rfl (W.ne _ y)
      have upq : ∀ b w, Fa b = some w → upd Fa q (.lst (us ++ vs ++ [v5])) b = some w := fun b w z => by rw [upd_ne (ne_of_none z qF)]; exact z
      have Rb : Rs S (upd Fa q (.lst (us ++ vs ++ [v5]))) ρ2 σ H := by
        refine ⟨fun b w z => ?_, Ra.len, fun l d z => ?_, fun l d z => ?_, Ra.sep, Ra.pin, Ra.sm.up upq⟩
        · by_cases y : b = q
          · subst y; rw [upd_same] at z; cases z; exact W.hq
          · rw [upd_ne y] at z; exact Ra.ex b w z
        · obtain ⟨v, z1, z2⟩ := Ra.fr l d z
          exact ⟨v, z1, rp_mono upq _ _ z2⟩
        · obtain ⟨p, us', z1, z2, z3, z4⟩ := Ra.ow l d z
          have y : p ≠ q := fun y => W.nq ⟨l, d, z, by rw [← y]; exact z1⟩
          exact ⟨p, us', z1, by rw [upd_ne y]; exact z2, z3, rpa_mono upq _ _ z4⟩
      have Dq : Rp S.K (upd Fa q (.lst (us ++ vs ++ [v5]))) (.ref q) (.list (es0 ++ dss.map PyData.list ++ [d5])) :=
        .lst upd_same (((rpa_mono noH_le _ _ W.us_).app (rpa_mono upq _ _ Da)).app (.cons (rp_mono noH_le _ _ W.v5_) .nil))
      have eqσ : σ.set i (some (.ref q)) = σ := by
        refine List.ext_getElem? fun l => ?_
        by_cases z : i = l
        · subst z
          rw [W.at_, List.getElem?_set_self (by rw [← W.R.len]; exact il)]
        · rw [List.getElem?_set_ne z]
      obtain ⟨Rc, own2⟩ := Rb.setSlot (O0 := Own ρ2 σ) (H0 := H) (v := .ref q) (r := .fr (.list (es0 ++ dss.map PyData.list ++ [d5]))) Dq il hJ.1 (.inr ⟨_, rfl⟩)
      rw [eqσ] at Rc
      have own2' : ∀ b, Own (ρ2.set i (.fr (.list (es0 ++ dss.map PyData.list ++ [d5])))) σ b → Own ρ2 σ b := fun b ⟨l, d, z1, z2⟩ => by
        by_cases y : i = l
        · subst y; rw [List.getElem?_set_self il] at z1; cases z1
        · rw [List.getElem?_set_ne y] at z1; exact ⟨l, d, z1, z2⟩
      have e2 : Ext (Own ρ0 σ0) F0 H0 (Own (ρ2.set i (.fr (.list (es0 ++ dss.map PyData.list ++ [d5])))) σ) (upd Fa q (.lst (us ++ vs ++ [v5]))) H := by
        refine ⟨fun b w z => upq b w (ua b w (W.e.fz b w z)), fun b z => ?_, W.e.kp, W.e.st, fun b z => W.e.ow b (own2' b z)⟩
        by_cases y : b = q
        · subst y; exact .inr (.inl W.bq)
        · rw [upd_ne y] at z
          rcases wa b z with w | w
          · exact W.e.nw b w
          · exact .inr (W.vs_.mem w).2.2.2
      refine ⟨_, ρ2.set i (.fr (.list (es0 ++ dss.map PyData.list ++ [d5]))), Rc, ?_⟩
      cases ht : t (ρ2.set i (.fr (.list (es0 ++ dss.map PyData.list ++ [d5])))) with
      | stuck => rw [ht] at P; exact P
      | exc a' f ρ' => rw [ht] at P; exact fun F' H' cls dd e R' z => P F' _ H' cls dd (e2.trans e) R' z
      | ok b ρ3 =>
        rw [ht] at P
        intro F3 H3 e3 R3
        cases b with
        | true =>
          have P : PostS S F0 ρ0 σ0 H0 (.ok (.rt (.fr (.bool false))) ρ3) D := P
          exact ⟨F3, ρ3, R3, fun F' σ' H' e' R' v hv => P F' σ' H' ((e2.trans e3).trans e') R' v hv⟩
        | false =>
          have P : PostS S F0 ρ0 σ0 H0 (n (((joinR ρ2 ρ3).set i .no).set j .no)) D := P
          have e23 := e2.trans e3
          have len3 : ρ2.length = ρ3.length := by
            have h3 := R3.len
            have h1 := W.R.len
            omega
          have at1 : ∀ {l : Nat} {c : Cl}, c ≠ .no → (((joinR ρ2 ρ3).set i .no).set j .no)[l]? = some c → l ≠ i ∧ ∃ a b, ρ2[l]? = some a ∧ ρ3[l]? = some b ∧ c = joinC a b := fun {l c} hc h => by
            have nj' : j ≠ l := fun z => by
              subst z
              rw [List.getElem?_set_self (by rw [List.length_set, joinR_len len3]; exact jl)] at h
              exact hc (Option.some.inj h).symm
            rw [List.getElem?_set_ne nj'] at h
            have ni' : i ≠ l := fun z => by
              subst z
              rw [List.getElem?_set_self (by rw [joinR_len len3]; exact il)] at h
              exact hc (Option.some.inj h).symm
            rw [List.getElem?_set_ne ni'] at h
            exact ⟨fun z => ni' z.symm, joinR_at h⟩
          have back : ∀ c, ((((joinR ρ2 ρ3).set i .no).set j .no).set j c).set j .no = ((joinR ρ2 ρ3).set i .no).set j .no := fun c => by rw [List.set_set, List.set_set]
          have lenE : (((joinR ρ2 ρ3).set i .no).set j .no).length = ρ2.length := by rw [List.length_set, List.length_set, joinR_len len3]
          generalize ((joinR ρ2 ρ3).set i .no).set j .no = ρE at P at1 back lenE
          have up3 : ∀ b w, F2 b = some w → F3 b = some w := fun b w z => e3.fz b w (upq b w (ua b w z))
          have own3 : ∀ b, Own ρE σ b → Own ρ3 σ b := fun b ⟨l, d, h1, h2⟩ => by
            obtain ⟨_, _, b1, _, z2, z3⟩ := at1 (by intro z; cases z) h1
            obtain ⟨z4, _⟩ := joinC_ow z3.symm
            subst z4
            exact ⟨l, d, z2, h2⟩
          obtain ⟨v, w, hvw⟩ : ∃ v w, vs = [v, w] := by
            have l2 := W.vs_.len
            match vs, l2 with
            | [v, w], _ => exact ⟨v, w, rfl⟩
            | [], z => exact absurd (z.trans dl) (by decide)
            | [_], z => exact absurd (z.trans dl) (by simp)
            | _ :: _ :: _ :: _, z => exact absurd (z.trans dl) (by simp)
          have ul : us.length = a := W.us_.len.trans al
          have hq3 : H3 q = some (.lst (us ++ vs ++ [v5])) := R3.ex q _ (e3.fz q _ upd_same)
          refine ⟨q, us ++ vs ++ [v5], v, w, W.at_, hq3, by rw [hvw, ← ul]; simp, by rw [hvw, ← ul]; simp, ?_⟩
          refine ⟨show 2 ≤ _ by decide, fun tt ht => ?_⟩
          rw [← hvw]
          have nt : ∀ {b : Addr} {w : HO}, H3 b = some w → b ≠ tt := fun {b w} z y => by rw [y, ht] at z; cases z
          have RE : Rs S F2 ρE σ (upd H3 tt (.tup vs)) := by
            refine ⟨fun b w z => ?_, by rw [lenE]; exact W.R.len, fun l d z => ?_, fun l d z => ?_, fun b1 b2 da db p h1 h2 h3 h4 => ?_, R3.pin, W.R.sm⟩
            · have y := R3.ex b w (up3 b w z)
              rw [upd_ne (nt y)]; exact y
            · obtain ⟨ne, c1, c2, z1, z2, z3⟩ := at1 (by intro z; cases z) z
              have z4 := joinC_fr z3.symm
              subst z4
              exact W.R.fr l d z1
            · obtain ⟨ne, c1, c2, z1, z2, z3⟩ := at1 (by intro z; cases z) z
              obtain ⟨z4, fl⟩ := joinC_ow z3.symm
              subst z4
              obtain ⟨p, us', y1, y2, y3, y4⟩ := R3.ow l d z2
              refine ⟨p, us', y1, ?_, y3.mono fun o z => (by rw [upd_ne (nt z)]; exact z), rpa_flat y4 fl⟩
              cases y : F2 p with
              | none => rfl
              | some w => rw [up3 p w y] at y2; cases y2
            · obtain ⟨_, _, c1, _, z2, z3⟩ := at1 (by intro z; cases z) h1
              obtain ⟨_, _, c2, _, z5, z6⟩ := at1 (by intro z; cases z) h2
              obtain ⟨z4, _⟩ := joinC_ow z3.symm
              obtain ⟨z7, _⟩ := joinC_ow z6.symm
              subst z4
              subst z7
              exact R3.sep b1 b2 da db p z2 z5 h3 h4
          have eE : Ext (Own ρ0 σ0) F0 H0 (Own ρE σ) F2 (upd H3 tt (.tup vs)) := by
            refine ⟨W.e.fz, W.e.nw, fun b w z z' => ?_, fun b z => ?_, fun b z => e23.ow b (own3 b z)⟩
            · have y := e23.kp b w z z'
              rw [upd_ne (nt y)]; exact y
            · by_cases y : b = tt
              · subst y; rw [upd_same]; simp
              · rw [upd_ne y]; exact e23.st b z
          have hv3 : NestV S (Own ρ0 σ0) H0 (Own ρE σ) F2 (upd H3 tt (.tup vs)) vs dss := W.vs_.to (fun _ _ z => z) (fun _ _ _ _ f _ => f) (fun p us' hp b d => by
              have y := e3.kp p _ b fun z => d (own2' p z)
              rw [upd_ne (nt y)]; exact y) fun p us' hp b f d z => by
            rcases e3.ow p (own3 p z) with y | y
            · exact d (own2' p y)
            · rw [b] at y; cases y
          have nqt : ¬ Own ρE σ tt := fun z => by
            obtain ⟨l, d, z1, z2⟩ := own3 tt z
            obtain ⟨p, us', y1, y2, y3, _⟩ := R3.ow l d z1
            rw [y1] at z2
            have : p = tt := by injection z2 with z2; injection z2 with z2; injection z2
            exact y3.ne (by rw [this]; exact ht)
          have nvt : ∀ v ∈ vs, v ≠ .ref tt := fun v hv z => by
            subst z
            obtain ⟨_, ⟨us', y⟩, _⟩ := W.vs_.mem hv
            exact e3.st tt (by rw [y]; simp) ht
          have v2 : vs.length = 2 := by rw [hvw]; rfl
          have tq0 : (upd H3 tt (.tup vs)) tt = some (.tup vs) := upd_same
          generalize upd H3 tt (.tup vs) = Ht at RE eE hv3 tq0
          refine ⟨tt, rfl, ⟨vs, .inl (.inl tq0)⟩, fun l m σ' H' => m = vs.length - l ∧ l ≤ vs.length ∧ ∃ FE, Ext (Own ρ0 σ0) F0 H0 (Own ρE σ') FE H' ∧ Rs S FE ρE σ' H' ∧ NestV S (Own ρ0 σ0) H0 (Own ρE σ') FE H' (vs.drop l) (dss.drop l) ∧ H' tt = some (.tup vs) ∧ ¬ Own ρE σ' tt,
            ⟨vs.length, rfl, Nat.zero_le _, F2, eE, RE, hv3, tq0, nqt⟩, ?_⟩
          rintro l m σ' H' ⟨rfl, hle, FE, eX, RX, hv, hqX, nqX⟩
          by_cases hlt : l < vs.length
          · have hl2 : l < dss.length := by rw [← W.vs_.len]; exact hlt
            have hds : okLen (dss[l].length + 1) = true := List.all_eq_true.mp dok _ (List.getElem_mem hl2)
            have hvl : vs[l]? = some vs[l] := List.getElem?_eq_getElem hlt
            have hvm : vs[l] ∈ vs := List.getElem_mem hlt
            rw [List.drop_eq_getElem_cons hlt, List.drop_eq_getElem_cons hl2] at hv
            refine .inr ⟨⟨vs, vs[l], .inl (.inl hqX), hvl⟩, fun σ3 H3 => ∃ FE, Ext (Own ρ0 σ0) F0 H0 (Own ρE σ3) FE H3 ∧ Rs S FE ρE σ3 H3 ∧ NestV S (Own ρ0 σ0) H0 (Own ρE σ3) FE H3 (vs.drop (l + 1)) (dss.drop (l + 1)) ∧ H3 tt = some (.tup vs) ∧ ¬ Own ρE σ3 tt,
              fun σ3 H3 h => ⟨vs.length - (l + 1), by omega, rfl, hlt, h⟩, fun w H2 hy => ?_⟩
            obtain ⟨rfl, hy⟩ := hy
            have ew := hy vs (.inl (.inl hqX))
            rw [hvl] at ew
            have ew := Option.some.inj ew
            subst ew
            generalize vs[l] = w at hv hvm
            generalize dss[l] = ds at hv hds
            cases hv with
            | cons a1 b1 c1 d1 f1 g1 tl =>
              rename_i p us1
              have jl' : j < ρE.length := by rw [lenE]; exact jl
              obtain ⟨R5, own5⟩ := RX.setSlot (O0 := Own ρ0 σ0) (H0 := H0) (v := .ref p) (r := .ow ds) ⟨p, us1, rfl, a1, b1, c1, d1, f1⟩ jl' hJ.2 (.inl (hT j))
              have pt : tt ≠ p := fun z => nvt _ hvm (by rw [z])
              have own5' : ∀ b, Own (ρE.set j (.ow ds)) (σ'.set j (some (.ref p))) b → b = p ∨ Own ρE σ' b := fun b ⟨l, d, z1, z2⟩ => by
                by_cases y : j = l
                · subst y
                  rw [List.getElem?_set_self (by rw [← RX.len]; exact jl')] at z2
                  left
                  injection z2 with z2
                  injection z2 with z2
                  injection z2 with z2
                  exact z2.symm
                · rw [List.getElem?_set_ne y] at z1 z2; exact .inr ⟨l, d, z1, z2⟩
              have e5 : Ext (Own ρ0 σ0) F0 H0 (Own (ρE.set j (.ow ds)) (σ'.set j (some (.ref p)))) FE H2 := ⟨eX.fz, eX.nw, eX.kp, eX.st, fun b z => by
                rcases own5 b z with y | y | y
                · exact eX.ow b y
                · exact .inr y
                · exact .inl y⟩
              have run : mSeq (mDrop (mApp j (mC .none))) mNx (ρE.set j (.ow ds)) = .ok .nx (ρE.set j (.ow (ds ++ [.none]))) := by
                have at0 : (ρE.set j (.ow ds))[j]? = some (.ow ds) := List.getElem?_set_self jl'
                unfold mSeq mDrop mApp Rho.owL mC mNx
                simp only [at0, Rz.bind, hds, if_true, List.set_set, Rv.d]
              refine ⟨FE, ρE.set j (.ow ds), R5, ?_⟩
              rw [run]
              intro F6 σ6 H6 e6 R6
              have own6 : ∀ b, Own ρE σ6 b → Own (ρE.set j (.ow (ds ++ [.none]))) σ6 b := fun b z => own_drop (j := j) (by rw [back]; exact z)
              have e56 := e5.trans e6
              refine ⟨F6, ⟨e56.fz, e56.nw, e56.kp, e56.st, fun b z => e56.ow b (own6 b z)⟩, back _ ▸ R6.drop j, tl.to e6.fz (fun r vr hr b' a' d' => ?_) (fun r vr hr b' d' => ?_) (fun r vr hr b' a' d' z => ?_), ?_, fun z => ?_⟩
              · cases y : F6 r with
                | none => rfl
                | some o =>
                  rcases e6.nw r (by rw [y]; simp) with z | z | z
                  · exact absurd a' z
                  · rw [b'] at z; cases z
                  · rcases own5' r z with z | z
                    · exact absurd (by rw [z]) (g1 _ hr)
                    · exact absurd z d'
              · refine e6.kp r _ b' fun z => ?_
                rcases own5' r z with z | z
                · exact absurd (by rw [z]) (g1 _ hr)
                · exact absurd z d'
              · rcases e6.ow r (own6 r z) with z | z
                · rcases own5' r z with z | z
                  · exact absurd (by rw [z]) (g1 _ hr)
                  · exact absurd z d'
                · rw [b'] at z; cases z
              · refine e6.kp tt _ hqX fun z => ?_
                rcases own5' tt z with z | z
                · exact pt z
                · exact nqX z
              · rcases e6.ow tt (own6 tt z) with z | z
                · rcases own5' tt z with z | z
                  · exact pt z
                  · exact nqX z
                · rw [hqX] at z; cases z
          · exact .inl ⟨⟨vs, .inl (.inl hqX), by omega⟩, FE, ρE, RX, PostS.from P eX⟩
    · rw [if_neg hcond] at P; exact P.elim
end
def nestM (i j a : Nat) (ma : Rho → Rz Rv) (t : Rho → Rz Bool) (es0 : List PD) (dss : List (List PD)) (ρ1 : Rho) : Rz Fl :=
  if i < ρ1.length ∧ es0.length + dss.length ≤ 1000 then
    (ma (ρ1.set i .no)).bind fun r ρ2 => match r with
      | .fr d => if flat1 d = true then nestF i j a t es0 d dss ρ2 else .stuck
      | .ow _ => .stuck
  else .stuck
def mNestT (i j a : Nat) (fz : List Nat) (hs ms : List (Rho → Rz Rv)) (ma : Rho → Rz Rv) (t : Rho → Rz Bool) : Rho → Rz Fl := fun ρ => (mixR hs ms (frzR fz ρ)).bind fun p ρ1 => nestM i j a ma t p.1 p.2 ρ1
section
variable {X : Cx} {S : Sx} {k : Nat} {es : List Expr} {c e5 : Expr} {hs ms : List (Rho → Rz Rv)} {ma : Rho → Rz Rv} {t : Rho → Rz Bool} {rest body : List Stmt} {n : Rho → Rz Fl} {x y : Str} {ts : List Expr} {p1 p2 p3 p4 p5 p6 p7 p8 p9 pa pb pc pd : Pos} {kb kt : Nat}
theorem xs_nestT (o : Okx X S k) (i j a : Nat) (fz : List Nat) (hes : PA X es (tM S hs ms)) (ha : PE X (.Call (.Attribute (.Name x pa) "append" pb) [e5] [] pc) (tBM X.K "list" rAppend (tVar i) (tCons (tE S ma) tNil))) (hts : PA X ts (tTwo i a)) (hc : XT X S c t) (hb : XSs X S body (mSeq (mDrop (mApp j (mC .none))) mNx)) (hr : XSs X S rest n)
    (hT : ∀ l, S.T l = none := by intro _; rfl) (hJ : i ∉ S.J ∧ j ∉ S.J := by first | exact ⟨nj rfl, nj rfl⟩ | decide) (hij : i ≠ j := by decide) (hi : X.N[i]? = some x := by rfl) (hj : X.N[j]? = some y := by rfl) (hx : Loc X.env.scope x := by first | exact Or.inl rfl | exact Or.inr rfl) (hy : Loc X.env.scope y := by first | exact Or.inl rfl | exact Or.inr rfl)
    (hsw : swapsWith (.List es p1) (some (.Name x p2)) p3.line X.env = pure false := by rfl) (hsw2 : swapsWith (.Call (.Attribute (.Name x pa) "append" pb) [e5] [] pc) none pd.line X.env = pure false := by rfl)
    (hfx : X.fn x = true ∨ X.env.scope.names.lookup x = some .local := by first | exact .inl rfl | exact .inr rfl | assumption) (hfy : X.fn y = true ∨ X.env.scope.names.lookup y = some .local := by first | exact .inl rfl | exact .inr rfl | assumption)
    (hfs : ∀ z, foldedSetIterable (.Tuple ts kt p6) X.env z = pure z := by intro _; rfl) :
    XSs X S (.Assign [.Name x p2] (.List es p1) p3 :: .Expr (.Call (.Attribute (.Name x pa) "append" pb) [e5] [] pc) pd :: .If c [.Return (some (.Constant (.bool false) kb p4)) p5] [] p8 :: .For (.Name y p7) (.Tuple ts kt p6) body [] p9 :: rest) (mSeq (mNestT i j a fz hs ms ma t) n) :=
  PSs.imp (pss_cons (ps_set o.nd hi hx (pe_lst hes) hsw hfx) (pss_cons (ps_expr ha hsw2) (xs_tailT o i j a hts hc hb hr hT hJ hij hj hy hfy hfs))) fun D σ H q => by
    obtain ⟨F, ρ, R, P⟩ := q
    obtain ⟨F0, e0, R0⟩ := Rs.frz hT fz R
    unfold mSeq mNestT at P
    refine ⟨F0, frzR fz ρ, R0, ?_⟩
    cases hm : mixR hs ms (frzR fz ρ) with
    | stuck => rw [hm] at P; exact P
    | exc b f ρ' => rw [hm] at P; exact fun F' H' cls dd e R' z => P F' σ H' cls dd (e0.trans e) R' z
    | ok p ρ1 =>
      rw [hm] at P
      intro F1 H1 e1 R1 us vs hus hvs
      have P : PostS S F ρ σ H ((nestM i j a ma t p.1 p.2 ρ1).bind (kNestT n)) D := P
      unfold nestM at P
      by_cases hcond : i < ρ1.length ∧ p.1.length + p.2.length ≤ 1000
      · rw [if_pos hcond] at P
        obtain ⟨il, cl⟩ := hcond
        have sz : (us ++ vs).length ≤ 1000 := by rw [List.length_append, hus.len, hvs.len]; exact cl
        refine ⟨Nat.le_trans sz (by decide), fun q hq => ?_⟩
        have e01 := e0.trans e1
        have bq : H q = none := e01.back hq
        have nqH : ∀ {b : Addr} {w : HO}, H1 b = some w → b ≠ q := fun {b w} z y => by rw [y, hq] at z; cases z
        have own1 : ∀ b, Own (ρ1.set i .no) (σ.set i (some (.ref q))) b → Own ρ1 σ b := fun b ⟨l, d, z1, z2⟩ => by
          by_cases y : i = l
          · subst y; rw [List.getElem?_set_self il] at z1; cases z1
          · rw [List.getElem?_set_ne y] at z1 z2; exact ⟨l, d, z1, z2⟩
        have cell : ∀ {l : Nat} {c : Cl}, c ≠ .no → (ρ1.set i .no)[l]? = some c → i ≠ l ∧ ρ1[l]? = some c := fun {l c} hc h => by
          by_cases y : i = l
          · subst y; rw [List.getElem?_set_self il] at h; exact absurd (Option.some.inj h).symm hc
          · rw [List.getElem?_set_ne y] at h; exact ⟨y, h⟩
        have R1b : Rs S F1 (ρ1.set i .no) (σ.set i (some (.ref q))) (upd H1 q (.lst (us ++ vs))) := by
          refine ⟨fun b w z => ?_, by rw [List.length_set, List.length_set]; exact R1.len, fun l d z => ?_, fun l d z => ?_, fun b1 b2 da db p h1 h2 h3 h4 => ?_, fun l hl => ?_, R1.sm⟩
          · have y := R1.ex b w z
            rw [upd_ne (nqH y)]; exact y
          · obtain ⟨y, z⟩ := cell (by intro z; cases z) z
            rw [List.getElem?_set_ne y]
            exact R1.fr l d z
          · obtain ⟨y, z⟩ := cell (by intro z; cases z) z
            obtain ⟨p, us', z1, z2, z3, z4⟩ := R1.ow l d z
            exact ⟨p, us', by rw [List.getElem?_set_ne y]; exact z1, z2, z3.mono fun o z => (by rw [upd_ne (nqH z)]; exact z), z4⟩
          · obtain ⟨y1, h1⟩ := cell (by intro z; cases z) h1
            obtain ⟨y2, h2⟩ := cell (by intro z; cases z) h2
            rw [List.getElem?_set_ne y1] at h3
            rw [List.getElem?_set_ne y2] at h4
            exact R1.sep b1 b2 da db p h1 h2 h3 h4
          · have y : i ≠ l := fun y => hJ.1 (by rw [y]; exact hl)
            rw [List.getElem?_set_ne y]
            exact R1.pin l hl
        have e1b : Ext (Own ρ σ) F H (Own (ρ1.set i .no) (σ.set i (some (.ref q)))) F1 (upd H1 q (.lst (us ++ vs))) := by
          refine ⟨e01.fz, e01.nw, fun b w z z' => ?_, fun b z => ?_, fun b z => e01.ow b (own1 b z)⟩
          · have y := e01.kp b w z z'
            rw [upd_ne (nqH y)]; exact y
          · by_cases y : b = q
            · subst y; rw [upd_same]; simp
            · rw [upd_ne y]; exact e01.st b z
        have hvb : NestV S (Own ρ σ) H (Own (ρ1.set i .no) (σ.set i (some (.ref q)))) F1 (upd H1 q (.lst (us ++ vs))) vs p.2 := (hvs.ext e0).to (fun _ _ z => z) (fun _ _ _ _ f _ => f) (fun p us' hp b d => by rw [upd_ne (nqH b)]; exact b) fun p us' hp b f d z => d (own1 p z)
        have ne : ∀ v ∈ vs, v ≠ .ref q := fun v hv z => by
          subst z
          obtain ⟨_, ⟨us', y⟩, _⟩ := hvs.mem hv
          rw [y] at hq; cases hq
        have hsi : (σ.set i (some (V.ref q)))[i]? = some (some (.ref q)) := List.getElem?_set_self (by rw [← R1.len]; exact il)
        have n1 : ¬ Own (ρ1.set i .no) (σ.set i (some (.ref q))) q := fun z => by
          obtain ⟨l, d, z1, z2⟩ := own1 q z
          obtain ⟨p', us', y1, y2, y3, _⟩ := R1.ow l d z1
          rw [y1] at z2
          have : p' = q := by injection z2 with z2; injection z2 with z2; injection z2
          exact y3.ne (by rw [this]; exact hq)
        have hqb : (upd H1 q (.lst (us ++ vs))) q = some (.lst (us ++ vs)) := upd_same
        have fq1 : F1 q = none := by
          cases z : F1 q with
          | none => rfl
          | some w => exact absurd rfl (nqH (R1.ex q w z))
        generalize upd H1 q (.lst (us ++ vs)) = Hb at R1b e1b hvb hqb
        refine ⟨.ref q, hsi, .inl ⟨rfl, _, .inl (.inl hqb)⟩, ?_⟩
        refine ⟨F1, ρ1.set i .no, R1b, ?_⟩
        cases hma : ma (ρ1.set i .no) with
        | stuck => rw [hma] at P; exact P
        | exc b f ρ' => rw [hma] at P; exact fun F' H' cls dd e R' z => P F' _ H' cls dd (e1b.trans e) R' z
        | ok r ρ2 =>
          rw [hma] at P
          intro F2 H2 e2 R2 v5 hv5
          cases r with
          | ow ds => exact P.elim
          | fr d =>
            have P : PostS S F ρ σ H ((if flat1 d = true then nestF i j a t p.1 d p.2 ρ2 else .stuck).bind (kNestT n)) D := P
            by_cases cd : flat1 d = true
            · rw [if_pos cd] at P
              have hq2 := e2.kp q _ hqb n1
              have nq2 : ¬ Own ρ2 (σ.set i (some (.ref q))) q := fun z => by
                rcases e2.ow q z with y | y
                · exact n1 y
                · rw [hqb] at y; cases y
              have fq2 : F2 q = none := by
                cases z : F2 q with
                | none => rfl
                | some w =>
                  rcases e2.nw q (by rw [z]; simp) with y | y | y
                  · exact absurd fq1 y
                  · rw [hqb] at y; cases y
                  · exact absurd y n1
              have hv2 := hvb.step e2
              have e12 := e1b.trans e2
              refine ⟨q, us ++ vs, v5, rfl, rfl, hq2, Nat.lt_of_le_of_lt sz (by decide), F, ρ, σ, H, F2, ρ2, q, us, vs, v5, p.1, d, p.2, ⟨?_, ?_, hsi, upd_same, fq2, nq2, bq, hus, rp_flat cd hv5, ?_, ne⟩, P⟩
              · refine ⟨fun b w z => ?_, R2.len, R2.fr, fun l d z => ?_, R2.sep, R2.pin, R2.sm⟩
                · rw [upd_ne (ne_of_none z fq2)]; exact R2.ex b w z
                · obtain ⟨p', us', z1, z2, z3, z4⟩ := R2.ow l d z
                  have y : p' ≠ q := fun y => nq2 ⟨l, d, z, y ▸ z1⟩
                  exact ⟨p', us', z1, z2, FamH.mono z3 fun o z => (by rw [upd_ne y]; exact z), z4⟩
              · refine ⟨e12.fz, e12.nw, fun b w z z' => ?_, fun b z => ?_, e12.ow⟩
                · rw [upd_ne fun y => by rw [y, bq] at z; cases z]; exact e12.kp b w z z'
                · by_cases y : b = q
                  · subst y; rw [upd_same]; simp
                  · rw [upd_ne y]; exact e12.st b z
              · exact hv2.to (fun _ _ z => z) (fun _ _ _ _ f _ => f) (fun p us' hp b d => by rw [upd_ne fun y => ne _ hp (by rw [y])]; exact b) fun p us' hp b f d z => d z
            · rw [if_neg cd] at P; exact P.elim
      · rw [if_neg hcond] at P; exact P.elim
end
/-! its wp rules -/
section
variable {ρ : Rho} {i j a : Nat} {fz : List Nat} {m : Rho → Rz Rv} {hs ms : List (Rho → Rz Rv)} {ma : Rho → Rz Rv} {t : Rho → Rz Bool} {Q : Fl → Rho → Prop}
def kF1 (f : PD → Rho → Prop) : Rv → Rho → Prop := fun r ρ => match r with
  | .fr d => flat1 d = true ∧ f d ρ
  | .ow _ => False
@[simp ↓] theorem kF1_fr {f : PD → Rho → Prop} {d : PD} {ρ : Rho} : kF1 f (.fr d) ρ ↔ flat1 d = true ∧ f d ρ := Iff.rfl
@[simp] theorem flat1_int (i : Int) : flat1 (.int i) = true := rfl
@[simp] theorem flat1_none : flat1 .none = true := rfl
@[simp] theorem flat1_bool (b : Bool) : flat1 (.bool b) = true := rfl
@[simp] theorem w_flatNil {Q : List PD → Rho → Prop} : Wp (flatR [] ρ) Q ↔ Q [] ρ := wp_ok
@[simp] theorem w_flatCons {Q : List PD → Rho → Prop} : Wp (flatR (m :: hs) ρ) Q ↔ Wp (m ρ) (kF1 (lz fun d ρ1 => Wp (flatR hs ρ1) (lz fun ds ρ2 => Q (d :: ds) ρ2))) := by
  rw [show flatR (m :: hs) ρ = (m ρ).bind fun r ρ1 => match r with
    | .fr d => if flat1 d = true then (flatR hs ρ1).bind fun ds ρ2 => .ok (d :: ds) ρ2 else .stuck
    | .ow _ => .stuck from rfl, wp_bind]
  refine Wp.congr fun r ρ1 => ?_
  cases r with
  | ow d => simp [kF1]
  | fr d =>
    simp only [kF1_fr]
    by_cases c : flat1 d = true
    · rw [if_pos c, wp_bind]
      simp only [c, true_and, lz_any]
      exact Wp.congr fun ds ρ2 => wp_ok
    · rw [if_neg c]
      simp [c]
@[simp] theorem w_mix {Q : List PD × List (List PD) → Rho → Prop} : Wp (mixR hs ms ρ) Q ↔ Wp (flatR hs ρ) (lz fun es ρ1 => Wp (nestR ms ρ1) (lz fun dss ρ2 => Q (es, dss) ρ2)) := by
  unfold mixR
  rw [wp_bind]
  refine Wp.congr fun es ρ1 => ?_
  simp only [lz_any]
  rw [wp_bind]
  exact Wp.congr fun dss ρ2 => wp_ok
theorem w_nestF {es0 : List PD} {d5 : PD} {dss : List (List PD)} {ρ2 : Rho} : Wp (nestF i j a t es0 d5 dss ρ2) Q ↔ (i < ρ2.length ∧ j < ρ2.length ∧ es0.length = a ∧ dss.length = 2 ∧ (dss.all fun ds => okLen (ds.length + 1)) = true) ∧
    Wp (t (ρ2.set i (.fr (.list (es0 ++ dss.map PyData.list ++ [d5]))))) (lz fun b ρ3 => if b = true then Q (.rt (.fr (.bool false))) ρ3 else Q .nx (((joinR ρ2 ρ3).set i .no).set j .no)) := by
  unfold nestF
  by_cases h : i < ρ2.length ∧ j < ρ2.length ∧ es0.length = a ∧ dss.length = 2 ∧ (dss.all fun ds => okLen (ds.length + 1)) = true
  · rw [if_pos h, wp_bind]
    simp only [h, true_and, and_true]
    refine Wp.congr fun b ρ3 => ?_
    simp only [lz_any]
    cases b
    · simp
    · simp
  · rw [if_neg h]
    simp only [wp_stuck, false_iff]
    exact fun z => h z.1
@[simp] theorem w_nestT : Wp (mNestT i j a fz hs ms ma t ρ) Q ↔ Wp (mixR hs ms (frzR fz ρ)) (lz fun p ρ1 => (i < ρ1.length ∧ p.1.length + p.2.length ≤ 1000) ∧ Wp (ma (ρ1.set i .no)) (kF1 (lz fun d ρ2 => (i < ρ2.length ∧ j < ρ2.length ∧ p.1.length = a ∧ p.2.length = 2 ∧ (p.2.all fun ds => okLen (ds.length + 1)) = true) ∧
    Wp (t (ρ2.set i (.fr (.list (p.1 ++ p.2.map PyData.list ++ [d]))))) (lz fun b ρ3 => if b = true then Q (.rt (.fr (.bool false))) ρ3 else Q .nx (((joinR ρ2 ρ3).set i .no).set j .no))))) := by
  unfold mNestT
  rw [wp_bind]
  refine Wp.congr fun p ρ1 => ?_
  simp only [lz_any]
  unfold nestM
  by_cases h : i < ρ1.length ∧ p.1.length + p.2.length ≤ 1000
  · rw [if_pos h, wp_bind]
    simp only [h, true_and, and_true]
    refine Wp.congr fun r ρ2 => ?_
    cases r with
    | ow d => simp [kF1]
    | fr d =>
      simp only [kF1_fr]
      by_cases c : flat1 d = true
      · rw [if_pos c, w_nestF]
        simp only [c, true_and, lz_any]
      · rw [if_neg c]
        simp [c]
  · rw [if_neg h]
    simp only [wp_stuck, false_iff]
    exact fun z => h z.1
end
end Sd
namespace Sd
open PySem L2 PySem.Spec PyProof.Rows
/-! ### a list of lists that is new as a whole: f(x), x lent to f and only looked at there; the least of its items is a list of one's own -/
structure FrN (K : PySem.W.Frag) (F H : Hp) (O new : Addr → Prop) (q : Addr) (us : List V) (ds : List PD) (G : Hp) : Prop where
  hq : H q = some (.lst us)
  oq : ¬ O q
  rd : RpAll K G us ds
  le : ∀ a o, G a = some o → H a = some o
  nw : ∀ a, G a ≠ none → a = sysModules ∨ (F a = none ∧ ¬ O a ∧ new a)
def tNw (S : Sx) (m : Rho → Rz (List PD)) : TE := fun σ H Q => ∃ F ρ, Rs S F ρ σ H ∧ PostE S σ F ρ H (m ρ) fun F' ρ' H' ds => ∀ q us G, FrN S.K F' H' (Own ρ' σ) (fun a => H a = none ∨ Own ρ σ a) q us ds G → Q (.ref q) H'
def XNw (X : Cx) (S : Sx) (e : Expr) (m : Rho → Rz (List PD)) : Prop := PE X e (tNw S m)
def mMinG (m : Rho → Rz (List PD)) : Rho → Rz Rv := fun ρ => (m ρ).bind fun ds ρ1 => match gMm PySem.W.minD [.list ds] with
  | some (.list zs) => if flatD zs = true then .ok (.ow zs) ρ1 else .stuck
  | _ => .stuck
section
variable {X : Cx} {S : Sx} {k n N : Nat} {mb : Rho → Rz Fl} {e : Expr} {m : Rho → Rz (List PD)} {me : Rho → Rz Rv} {p pos : Pos} {x : Str} {ps : List Str}
theorem sm_lst {F H : Hp} (sm : SmF F) (ex : ∀ a o, F a = some o → H a = some o) {a : Addr} {us : List V} (h : H a = some (.lst us)) : a ≠ sysModules := fun z => by
  obtain ⟨ob, φ, q⟩ := sm
  have := ex _ _ q
  rw [← z, h] at this
  cases this
theorem xe_minG (o : Okx X S k) (hm : S.mg "min" = none) (ha : XNw X S e m) (hg : Gl X "min" := by rfl) (he : starEach [e] X.env = (false, eval e X.env) :: starEach [] X.env := by rfl) (npl : (backTo pos (starEach [] X.env)).any (·.1) = false := by rfl) :
    XE X S (.Call (.Name "min" p) [e] [] pos) (mMinG m) := PE.imp (pe_callB (call_minD o) hg (o.hM ▸ hm) (by decide +kernel) (pa_cons ha pa_nil he) (by decide) (by decide) he npl) fun σ H Q q => by
  obtain ⟨F, ρ, R, P⟩ := q
  unfold mMinG at P
  refine ⟨F, ρ, R, PostE.mono (PostE.bind P) fun F1 ρ1 H1 ds e1 R1 P1 q us G hf => ?_⟩
  have P2 := P1 F1 e1
  cases hz : gMm PySem.W.minD [.list ds] with
  | none => rw [hz] at P2; exact P2.elim
  | some z =>
    rw [hz] at P2
    cases z with
    | list zs =>
      simp only at P2
      by_cases cf : flatD zs = true
      · rw [if_pos cf] at P2
        unfold gMm at hz
        cases ds with
        | nil => cases hz
        | cons d0 ds' =>
          simp only at hz
          by_cases c : okMm (d0 :: ds') = true
          · rw [if_pos c] at hz
            have ez := Option.some.inj hz
            refine ⟨q, us, d0, ds', rfl, .inl (.inl hf.hq), o.hK ▸ rpa_mono hf.le _ _ hf.rd, c, fun i w hw hx => ?_⟩
            rw [ez] at hx
            obtain ⟨w', w1, w2⟩ := hf.rd.at hx
            rw [hw] at w1
            cases w1
            cases w2 with
            | lst g1 g2 =>
              rename_i p' vs'
              have hp := hf.le _ _ g1
              have np := sm_lst R1.sm R1.ex hp
              rcases hf.nw p' (by rw [g1]; simp) with y | ⟨y1, y2, y3⟩
              · exact absurd y np
              · exact PostE.ok P2 R1 _ ⟨p', vs', rfl, y1, hp, rpa_flat g2 cf, y2, y3⟩
          · rw [if_neg c] at hz; cases hz
      · rw [if_neg cf] at P2; exact P2.elim
    | _ => exact P2.elim
def lentR (m : Rho → Rz Rv) (d : PD) (ρ : Rho) : Rz (List PD) := match d with
  | .list ts => match ints? ts with
    | some ns => match m [.ow (ns.map PyData.int)] with
      | .ok (.ow ds) [.ow ts'] => match ints? ts' with
        | some ns' => if ns' = ns then .ok ds ρ else .stuck
        | none => .stuck
      | _ => .stuck
    | none => .stuck
  | _ => .stuck
def mCallG (m : Rho → Rz Rv) (me : Rho → Rz Rv) : Rho → Rz (List PD) := fun ρ => (me ρ).bind fun r ρ1 => lentR m r.d ρ1
theorem xg_call (o : Okx X S k) (D : Dk X.K X.mg X.prog X.w X.base k x [0] ps 1 N mb) (hg : Gl X x) (ha : XE X S e me) (ndb : (x == ("__debug__" : Str)) = false := by decide) (he : starEach [e] X.env = (false, eval e X.env) :: starEach [] X.env := by rfl) (npl : (backTo pos (starEach [] X.env)).any (·.1) = false := by rfl) :
    XNw X S (.Call (.Name x p) [e] [] pos) (mCallG (fnM [0] 1 N mb) me) := by
  obtain ⟨f, fd, hn, F, hm, hk, hb, _⟩ := D.ex
  refine PE.imp (pe_callG F o.gd o.rm hg hm hk hb o.tk (pa_cons ha pa_nil he) ndb he npl) fun σ H Q q => ?_
  obtain ⟨F0, ρ, R, P⟩ := q
  unfold mCallG at P
  refine tE.use (g := fun d ρ1 => lentR (fnM [0] 1 N mb) d ρ1) R P fun v d F1 ρ1 H1 e1 R1 D1 P1 => ?_
  unfold lentR at P1
  cases D1 with
  | lst g1 g2 =>
    rename_i a us ts
    simp only at P1
    cases hi : ints? ts with
    | none => rw [hi] at P1; exact P1.elim
    | some ns =>
      rw [hi] at P1
      have ets := ints?_eq hi
      subst ets
      have eus := g2.ints
      subst eus
      simp only at P1
      cases hr : fnM [0] 1 N mb [.ow (ns.map PyData.int)] with
      | stuck => rw [hr] at P1; exact P1.elim
      | exc c f ρ' => rw [hr] at P1; exact P1.elim
      | ok r ρ' =>
        rw [hr] at P1
        have hH1 : H1 a = some (.lst (ns.map V.int)) := R1.ex _ _ g1
        have na := sm_lst R1.sm R1.ex hH1
        obtain ⟨ob, φ, hsm⟩ := R1.sm
        show spM X.K X.mg 1 (fnM [0] 1 N mb) [.ref a] H1 Q fun cls d H' => S.W cls d σ H'
        rw [← o.hK, ← o.hM]
        have own0 : ∀ ts b, Own [Cl.ow ts] [some (V.ref a)] b → b = a := fun ts b ⟨j, es, h1, h2⟩ => by
          cases j with
          | zero =>
            have z : some (some (V.ref a)) = some (some (V.ref b)) := h2
            injection z with z; injection z with z; injection z with z
            exact z.symm
          | succ j => cases h1
        have Fc0 : ∀ b w, (fun b => if b = sysModules then F1 sysModules else none : Hp) b = some w → b = sysModules ∧ F1 b = some w := fun b w z => by
          by_cases y : b = sysModules
          · subst y
            exact ⟨rfl, by simpa using z⟩
          · simp [y] at z
        refine ⟨rfl, fun b => if b = sysModules then F1 sysModules else none, [.ow (ns.map PyData.int)], ⟨fun b w z => R1.ex b w (Fc0 b w z).2, rfl, fun j d h => ?_, fun j es h => ?_, fun j l dj dl q h1 h2 _ _ => ?_, (fun j h => nomatch h), ⟨ob, φ, by simpa using hsm⟩⟩, ?_⟩
        · cases j with
          | zero => cases h
          | succ j => cases h
        · cases j with
          | zero => cases h; exact ⟨a, ns.map V.int, rfl, by simp [na], hH1, RpAll.ofInts ns⟩
          | succ j => cases h
        · cases j with
          | zero =>
            cases l with
            | zero => rfl
            | succ l => cases h2
          | succ j => cases h1
        rw [hr]
        cases r with
        | fr d => exact P1.elim
        | ow ds =>
          cases ρ' with
          | nil => exact P1.elim
          | cons c0 tl =>
            cases tl with
            | cons c1 tl => cases c0 <;> exact P1.elim
            | nil =>
              cases c0 with
              | no => exact P1.elim
              | fr d => exact P1.elim
              | ow ts' =>
                  simp only at P1
                  cases hi' : ints? ts' with
                  | none => rw [hi'] at P1; exact P1.elim
                  | some ns' =>
                    rw [hi'] at P1
                    simp only at P1
                    by_cases en : ns' = ns
                    · rw [if_pos en] at P1
                      subst en
                      have et := ints?_eq hi'
                      subst et
                      intro F' H' e' R' v hv
                      obtain ⟨q, us, rfl, q1, q2, q3, q4, q5⟩ := hv
                      obtain ⟨a', us', z1, z2, z3, z4⟩ := R'.ow 0 _ rfl
                      have ea : a' = a := by
                        have z : some (some (V.ref a)) = some (some (V.ref a')) := z1
                        injection z with z; injection z with z; injection z with z
                        exact z.symm
                      subst ea
                      have z3 : H' a' = some (.lst us') := z3
                      rw [z4.ints] at z3
                      have kp : ∀ b w, H1 b = some w → H' b = some w := fun b w z => by
                        by_cases y : b = a'
                        · subst y; rw [hH1] at z; cases z; exact z3
                        · exact e'.kp b w z fun h => y (own0 _ b h)
                      have eF : Ext (Own ρ1 σ) F1 H1 (Own ρ1 σ) F1 H' := ⟨fun _ _ z => z, fun _ z => .inl z, fun b w z _ => kp b w z, e'.st, fun _ z => .inl z⟩
                      have RF : Rs S F1 ρ1 σ H' := ⟨fun b w z => kp b w (R1.ex b w z), R1.len, R1.fr, fun j es h => by
                        obtain ⟨p', us2, y1, y2, y3, y4⟩ := R1.ow j es h
                        exact ⟨p', us2, y1, y2, FamH.mono y3 fun o z => kp p' o z, y4⟩, R1.sep, R1.pin, R1.sm⟩
                      have ownH : ∀ b, Own ρ1 σ b → H1 b ≠ none := fun b ⟨j, es, h1, h2⟩ => by
                        obtain ⟨p', us2, y1, y2, y3, y4⟩ := R1.ow j es h1
                        rw [y1] at h2
                        have z : p' = b := by injection h2 with z; injection z with z; injection z
                        rw [← z]
                        exact FamH.ne y3
                      have hq1 : H1 q = none := q5.elim id fun h => absurd h (by
                        intro h
                        have y := own0 _ q h
                        subst y
                        exact q4 ⟨0, _, rfl, rfl⟩)
                      refine PostE.ok (PostE.from P1 eF) RF q us F' ⟨q2, fun h => ownH q h hq1, q3, R'.ex, fun b hb => ?_⟩
                      rcases e'.nw b hb with y | y | y
                      · left
                        cases hy : (fun b => if b = sysModules then F1 sysModules else none : Hp) b with
                        | none => exact absurd hy y
                        | some w => exact (Fc0 b w hy).1
                      · right
                        refine ⟨?_, fun h => ownH b h y, .inl (e1.back y)⟩
                        cases hy : F1 b with
                        | none => rfl
                        | some w => rw [R1.ex b w hy] at y; cases y
                      · have y := own0 _ b y
                        subst y
                        exact absurd z2 hb
                    · rw [if_neg en] at P1; exact P1.elim
  | _ => exact P1.elim
def mAddG (ma mb : Rho → Rz (List PD)) : Rho → Rz (List PD) := fun ρ => (ma ρ).bind fun ds ρ1 => (mb ρ1).bind fun es ρ2 => if okLen (ds.length + es.length) = true then .ok (ds ++ es) ρ2 else .stuck
theorem xn_add {a b : Expr} {ma mb' : Rho → Rz (List PD)} (ha : XNw X S a ma) (hb : XNw X S b mb') : XNw X S (.BinOp a .Add b pos) (mAddG ma mb') := PE.imp (pe_op op_cat ha hb) fun σ H Q q => by
  obtain ⟨F, ρ, R, P⟩ := q
  unfold mAddG at P
  refine ⟨F, ρ, R, PostE.mono (PostE.bind P) fun F1 ρ1 H1 ds e1 R1 P1 q1 us1 G1 f1 => ?_⟩
  have P2 := P1 F1 e1
  refine ⟨F1, ρ1, R1, PostE.mono (PostE.bind P2) fun F2 ρ2 H2 es e2 R2 P3 q2 us2 G2 f2 => ?_⟩
  have P4 := P3 F2 e2
  by_cases c : okLen (ds.length + es.length) = true
  · rw [if_pos c] at P4
    have k1 := e2.kp q1 _ f1.hq f1.oq
    refine ⟨q1, q2, us1, us2, rfl, rfl, k1, f2.hq, by rw [f1.rd.len, f2.rd.len]; exact okLen.ok c, fun p hp => ?_⟩
    have nG : ∀ b o, G1 b = some o → b ≠ sysModules → H2 b = some o := fun b o z y => by
      rcases f1.nw b (by rw [z]; simp) with w | ⟨_, w, _⟩
      · exact absurd w y
      · exact e2.kp b o (f1.le b o z) w
    have g1 : ∀ b o, G1 b = some o → H2 b = some o := fun b o z => by
      by_cases y : b = sysModules
      · obtain ⟨ob, φ, s⟩ := R1.sm
        have s1 := R1.ex _ _ s
        have s2 := R2.ex _ _ (e2.fz _ _ s)
        have z1 := f1.le b o z
        rw [y, s1] at z1
        rw [y, s2]
        exact z1
      · exact nG b o z y
    have np : ∀ {b : Addr} {w : HO}, H2 b = some w → b ≠ p := fun {b w} z y => by rw [y, hp] at z; cases z
    have eF : Ext (Own ρ2 σ) F2 H2 (Own ρ2 σ) F2 (upd H2 p (.lst (us1 ++ us2))) := ⟨fun _ _ z => z, fun _ z => .inl z, fun b w z _ => by rw [upd_ne (np z)]; exact z, fun b z => by
      by_cases y : b = p
      · subst y; rw [upd_same]; simp
      · rw [upd_ne y]; exact z, fun _ z => .inl z⟩
    have RF : Rs S F2 ρ2 σ (upd H2 p (.lst (us1 ++ us2))) := ⟨fun b w z => by rw [upd_ne (np (R2.ex b w z))]; exact R2.ex b w z, R2.len, R2.fr, fun j es h => by
      obtain ⟨p', us', y1, y2, y3, y4⟩ := R2.ow j es h
      exact ⟨p', us', y1, y2, FamH.mono y3 fun o z => (by rw [upd_ne (np z)]; exact z), y4⟩, R2.sep, R2.pin, R2.sm⟩
    have ownp : ¬ Own ρ2 σ p := fun ⟨j, es, h1, h2⟩ => by
      obtain ⟨p', us', y1, y2, y3, y4⟩ := R2.ow j es h1
      rw [y1] at h2
      have z : p' = p := by injection h2 with z; injection z with z; injection z
      exact FamH.ne y3 (by rw [z]; exact hp)
    have back1 : ∀ b, (F1 b = none ∧ ¬ Own ρ1 σ b ∧ (H b = none ∨ Own ρ σ b)) → H1 b ≠ none → F2 b = none ∧ ¬ Own ρ2 σ b ∧ (H b = none ∨ Own ρ σ b) := fun b ⟨y1, y2, y3⟩ hb => by
      refine ⟨?_, fun z => ?_, y3⟩
      · cases z : F2 b with
        | none => rfl
        | some w =>
          rcases e2.nw b (by rw [z]; simp) with v | v | v
          · exact absurd y1 v
          · exact absurd v hb
          · exact absurd v y2
      · rcases e2.ow b z with v | v
        · exact y2 v
        · exact hb v
    have P5 := PostE.ok (PostE.from P4 eF) RF
    refine P5 p (us1 ++ us2) (fun b => (G1 b).orElse fun _ => G2 b) ⟨upd_same, ownp, ?_, fun b o z => ?_, fun b z => ?_⟩
    · refine RpAll.app (rpa_mono (fun b o z => by simp [z]) _ _ f1.rd) (rpa_mono (fun b o z => ?_) _ _ f2.rd)
      cases y : G1 b with
      | none => simpa [y] using z
      | some w =>
        have u1 := g1 b w y
        have u2 := f2.le b o z
        rw [u1] at u2
        simpa [y] using u2
    · cases y : G1 b with
      | none =>
        have z : G2 b = some o := by simpa [y] using z
        have u := f2.le b o z
        rw [upd_ne (np u)]; exact u
      | some w =>
        have z : w = o := by simpa [y] using z
        subst z
        have u := g1 b w y
        rw [upd_ne (np u)]; exact u
    · cases y : G1 b with
      | none =>
        have z : G2 b ≠ none := by simpa [y] using z
        rcases f2.nw b z with v | ⟨v1, v2, v3⟩
        · exact .inl v
        · refine .inr ⟨v1, v2, ?_⟩
          rcases v3 with v | v
          · exact .inl (e1.back v)
          · exact (e1.ow b v).symm
      | some w =>
        rcases f1.nw b (by rw [y]; simp) with v | v
        · exact .inl v
        · exact .inr (back1 b v (by rw [f1.le b w y]; simp))
  · rw [if_neg c] at P4; exact P4.elim
end
/-! wp rules -/
section
variable {ρ : Rho} {m : Rho → Rz Rv} {mn mk : Rho → Rz (List PD)} {me : Rho → Rz Rv}
def kMinG (Q : Rv → Rho → Prop) : List PD → Rho → Prop := fun ds ρ1 => ∃ zs, gMm PySem.W.minD [.list ds] = some (.list zs) ∧ flatD zs = true ∧ Q (.ow zs) ρ1
theorem w_minG {Q : Rv → Rho → Prop} (h : Wp (mn ρ) (kMinG Q)) : Wp (mMinG mn ρ) Q := by
  unfold mMinG
  rw [wp_bind]
  refine h.mono fun ds ρ1 ⟨zs, h1, h2, h3⟩ => ?_
  simp only [h1, if_pos h2]
  exact wp_ok.mpr h3
theorem w_addG {Q : List PD → Rho → Prop} (h : Wp (mn ρ) fun ds ρ1 => Wp (mk ρ1) fun es ρ2 => okLen (ds.length + es.length) = true ∧ Q (ds ++ es) ρ2) : Wp (mAddG mn mk ρ) Q := by
  unfold mAddG
  rw [wp_bind]
  refine h.mono fun ds ρ1 h => ?_
  rw [wp_bind]
  refine h.mono fun es ρ2 ⟨h1, h2⟩ => ?_
  rw [if_pos h1]
  exact wp_ok.mpr h2
theorem w_callG {Q : List PD → Rho → Prop} (h : Wp (me ρ) fun r ρ1 => ∃ ns : List Int, r.d = .list (ns.map PyData.int) ∧ Wp (m [.ow (ns.map PyData.int)]) fun r' ρ' => ∃ ds, r' = .ow ds ∧ ρ' = [.ow (ns.map PyData.int)] ∧ Q ds ρ1) : Wp (mCallG m me ρ) Q := by
  unfold mCallG
  rw [wp_bind]
  refine h.mono fun r ρ1 ⟨ns, e, h⟩ => ?_
  obtain ⟨r', ρ', e1, ds, rfl, rfl, q⟩ := h.out
  unfold lentR
  rw [e]
  simp only [ints?_map, e1, if_true]
  exact wp_ok.mpr q
end
end Sd
namespace Sd
open PySem L2 PySem.Spec PyProof.Rows
/-! ### some = [f(..), ..]; found = some[e]: one of the lists is taken, the others are left -/
def pickR (i j : Nat) (dss : List (List PD)) (r : Rv) (ρ2 : Rho) : Rz Fl := match r.d with
  | .int n => match ixN dss.length n with
    | some l => match dss[l]? with
      | some ds => .ok .nx ((ρ2.set i .no).set j (.ow ds))
      | none => .stuck
    | none => .stuck
  | _ => .stuck
def mPick (i j : Nat) (ms : List (Rho → Rz Rv)) (me : Rho → Rz Rv) : Rho → Rz Fl := fun ρ => (nestR ms ρ).bind fun dss ρ1 =>
  if i < ρ1.length ∧ j < ρ1.length ∧ dss.length ≤ 1000 then (me (ρ1.set i .no)).bind fun r ρ2 => pickR i j dss r ρ2 else .stuck
theorem NestV.get {S : Sx} {O0 O : Addr → Prop} {H0 F H : Hp} : ∀ {vs : List V} {dss : List (List PD)} {l : Nat} {ds : List PD}, NestV S O0 H0 O F H vs dss → dss[l]? = some ds → ∃ p us, vs[l]? = some (.ref p) ∧ F p = none ∧ H p = some (.lst us) ∧ RpAll S.K F us ds ∧ ¬ O p ∧ (H0 p = none ∨ O0 p)
  | _, _, _, _, .nil, z => absurd z (by simp)
  | _, _, 0, _, .cons a b c d f _ _, e => by
    have e := Option.some.inj e
    subst e
    exact ⟨_, _, rfl, a, b, c, d, f⟩
  | _, _, l + 1, _, .cons _ _ _ _ _ _ t, e => NestV.get (l := l) t e
section
variable {X : Cx} {S : Sx} {k : Nat} {es : List Expr} {b : Expr} {ms : List (Rho → Rz Rv)} {me : Rho → Rz Rv} {rest : List Stmt} {n : Rho → Rz Fl} {x y : Str} {p1 p2 p3 p4 p5 p6 p7 : Pos}
theorem xs_pick (o : Okx X S k) (i j : Nat) (hes : PA X es (tN S ms)) (hb : XE X S b me) (hr : XSs X S rest n)
    (hs : PlainIx b := by intro _ _; rfl)
    (hT : S.T j = none := by rfl) (hJ : i ∉ S.J ∧ j ∉ S.J := by first | exact ⟨nj rfl, nj rfl⟩ | decide) (hi : X.N[i]? = some x := by rfl) (hj : X.N[j]? = some y := by rfl) (hx : Loc X.env.scope x := by first | exact Or.inl rfl | exact Or.inr rfl) (hy : Loc X.env.scope y := by first | exact Or.inl rfl | exact Or.inr rfl)
    (hsw : swapsWith (.List es p1) (some (.Name x p2)) p3.line X.env = pure false := by rfl) (hsw2 : swapsWith (.Subscript (.Name x p5) b p6) (some (.Name y p4)) p7.line X.env = pure false := by rfl)
    (hfx : X.fn x = true ∨ X.env.scope.names.lookup x = some .local := by first | exact .inl rfl | exact .inr rfl | assumption) (hfy : X.fn y = true ∨ X.env.scope.names.lookup y = some .local := by first | exact .inl rfl | exact .inr rfl | assumption)
    (hv : Vis X.env.scope x := by first | exact Or.inl rfl | exact Or.inr (Or.inl rfl) | exact Or.inr (Or.inr rfl)) (hd : (x == ("__debug__" : Str)) = false := by decide) (hcd : (x == ("__classdict__" : Str)) = false := by decide) :
    XSs X S (.Assign [.Name x p2] (.List es p1) p3 :: .Assign [.Name y p4] (.Subscript (.Name x p5) b p6) p7 :: rest) (mSeq (mPick i j ms me) n) :=
  PSs.imp (pss_cons (ps_set o.nd hi hx (pe_lst hes) hsw hfx) (pss_cons (ps_set o.nd hj hy (pe_ix ix_list (pe_var (i := i) hi hv hd hcd) hb hs) hsw2 hfy) hr)) fun D σ H q => by
    obtain ⟨F, ρ, R, P⟩ := q
    unfold mSeq mPick at P
    refine ⟨F, ρ, R, ?_⟩
    cases hm : nestR ms ρ with
    | stuck => rw [hm] at P; exact P
    | exc b f ρ' => rw [hm] at P; exact fun F' H' cls dd e R' z => P F' σ H' cls dd e R' z
    | ok dss ρ1 =>
      rw [hm] at P
      intro F1 H1 e1 R1 vs hvs
      have P : PostS S F ρ σ H ((if i < ρ1.length ∧ j < ρ1.length ∧ dss.length ≤ 1000 then (me (ρ1.set i .no)).bind fun r ρ2 => pickR i j dss r ρ2 else .stuck).bind (kNestT n)) D := P
      by_cases hcond : i < ρ1.length ∧ j < ρ1.length ∧ dss.length ≤ 1000
      · rw [if_pos hcond] at P
        obtain ⟨il, jl, cl⟩ := hcond
        have sz : vs.length ≤ 1000 := by rw [hvs.len]; exact cl
        refine ⟨Nat.le_trans sz (by decide), fun q hq => ?_⟩
        have bq : H q = none := e1.back hq
        have nqH : ∀ {b : Addr} {w : HO}, H1 b = some w → b ≠ q := fun {b w} z y => by rw [y, hq] at z; cases z
        have own1 : ∀ b, Own (ρ1.set i .no) (σ.set i (some (.ref q))) b → Own ρ1 σ b := fun b ⟨l, d, z1, z2⟩ => by
          by_cases y : i = l
          · subst y; rw [List.getElem?_set_self il] at z1; cases z1
          · rw [List.getElem?_set_ne y] at z1 z2; exact ⟨l, d, z1, z2⟩
        have cell : ∀ {l : Nat} {c : Cl}, c ≠ .no → (ρ1.set i .no)[l]? = some c → i ≠ l ∧ ρ1[l]? = some c := fun {l c} hc h => by
          by_cases y : i = l
          · subst y; rw [List.getElem?_set_self il] at h; exact absurd (Option.some.inj h).symm hc
          · rw [List.getElem?_set_ne y] at h; exact ⟨y, h⟩
        have R1b : Rs S F1 (ρ1.set i .no) (σ.set i (some (.ref q))) (upd H1 q (.lst vs)) := by
          refine ⟨fun b w z => ?_, by rw [List.length_set, List.length_set]; exact R1.len, fun l d z => ?_, fun l d z => ?_, fun b1 b2 da db p h1 h2 h3 h4 => ?_, fun l hl => ?_, R1.sm⟩
          · have y := R1.ex b w z
            rw [upd_ne (nqH y)]; exact y
          · obtain ⟨y, z⟩ := cell (by intro z; cases z) z
            rw [List.getElem?_set_ne y]
            exact R1.fr l d z
          · obtain ⟨y, z⟩ := cell (by intro z; cases z) z
            obtain ⟨p, us', z1, z2, z3, z4⟩ := R1.ow l d z
            exact ⟨p, us', by rw [List.getElem?_set_ne y]; exact z1, z2, z3.mono fun o z => (by rw [upd_ne (nqH z)]; exact z), z4⟩
          · obtain ⟨y1, h1⟩ := cell (by intro z; cases z) h1
            obtain ⟨y2, h2⟩ := cell (by intro z; cases z) h2
            rw [List.getElem?_set_ne y1] at h3
            rw [List.getElem?_set_ne y2] at h4
            exact R1.sep b1 b2 da db p h1 h2 h3 h4
          · have y : i ≠ l := fun y => hJ.1 (by rw [y]; exact hl)
            rw [List.getElem?_set_ne y]
            exact R1.pin l hl
        have e1b : Ext (Own ρ σ) F H (Own (ρ1.set i .no) (σ.set i (some (.ref q)))) F1 (upd H1 q (.lst vs)) := by
          refine ⟨e1.fz, e1.nw, fun b w z z' => ?_, fun b z => ?_, fun b z => e1.ow b (own1 b z)⟩
          · have y := e1.kp b w z z'
            rw [upd_ne (nqH y)]; exact y
          · by_cases y : b = q
            · subst y; rw [upd_same]; simp
            · rw [upd_ne y]; exact e1.st b z
        have hvb : NestV S (Own ρ σ) H (Own (ρ1.set i .no) (σ.set i (some (.ref q)))) F1 (upd H1 q (.lst vs)) vs dss := hvs.to (fun _ _ z => z) (fun _ _ _ _ f _ => f) (fun p us' hp b d => by rw [upd_ne (nqH b)]; exact b) fun p us' hp b f d z => d (own1 p z)
        have hsi : (σ.set i (some (V.ref q)))[i]? = some (some (.ref q)) := List.getElem?_set_self (by rw [← R1.len]; exact il)
        have n1 : ¬ Own (ρ1.set i .no) (σ.set i (some (.ref q))) q := fun z => by
          obtain ⟨l, d, z1, z2⟩ := own1 q z
          obtain ⟨p', us', y1, y2, y3, _⟩ := R1.ow l d z1
          rw [y1] at z2
          have : p' = q := by injection z2 with z2; injection z2 with z2; injection z2
          exact y3.ne (by rw [this]; exact hq)
        have hqb : (upd H1 q (.lst vs)) q = some (.lst vs) := upd_same
        generalize upd H1 q (.lst vs) = Hb at R1b e1b hvb hqb
        refine ⟨.ref q, hsi, F1, ρ1.set i .no, R1b, ?_⟩
        cases hme : me (ρ1.set i .no) with
        | stuck => rw [hme] at P; exact P
        | exc b f ρ' => rw [hme] at P; exact fun F' H' cls dd e R' z => P F' _ H' cls dd (e1b.trans e) R' z
        | ok r ρ2 =>
          rw [hme] at P
          intro F2 H2 e2 R2 v2 hv2
          have P : PostS S F ρ σ H ((pickR i j dss r ρ2).bind (kNestT n)) D := P
          unfold pickR at P
          have hvc := hvb.step e2
          have hq2 := e2.kp q _ hqb n1
          have e12 := e1b.trans e2
          cases hrd : r.d with
          | int m =>
            rw [hrd] at P
            simp only at P
            have ev : v2 = .int m := by
              cases r with
              | ow ds => cases hrd
              | fr d =>
                have hrd : d = .int m := hrd
                subst hrd
                have hv2 : Rp S.K F2 v2 (.int m) := hv2
                cases hv2
                rfl
            subst ev
            cases hix : ixN dss.length m with
            | none => rw [hix] at P; exact P.elim
            | some l =>
              rw [hix] at P
              simp only at P
              cases hds : dss[l]? with
              | none => rw [hds] at P; exact P.elim
              | some ds =>
                rw [hds] at P
                have P : PostS S F ρ σ H (n ((ρ2.set i .no).set j (.ow ds))) D := P
                obtain ⟨p, us, g1, g2, g3, g4, g5, g6⟩ := hvc.get hds
                refine ⟨q, vs, m, .ref p, rfl, rfl, .inl (.inl hq2), ?_, ?_⟩
                · unfold atI
                  rw [hvs.len, hix]
                  exact g1
                · have R3 := R2.drop i
                  have own3 : ∀ b, Own (ρ2.set i .no) (σ.set i (some (.ref q))) b → Own ρ2 (σ.set i (some (.ref q))) b := fun b z => own_drop z
                  have lenJ : j < (ρ2.set i .no).length := by
                    rw [List.length_set, R2.len, List.length_set, ← R1.len]
                    exact jl
                  obtain ⟨R4, own4⟩ := R3.setSlot (O0 := Own ρ σ) (H0 := H) (v := .ref p) (r := .ow ds) ⟨p, us, rfl, g2, g3, g4, fun z => g5 (own3 p z), g6⟩ lenJ hJ.2 (.inl hT)
                  have e4 : Ext (Own ρ σ) F H (Own ((ρ2.set i .no).set j (.ow ds)) ((σ.set i (some (.ref q))).set j (some (.ref p)))) F2 H2 := ⟨e12.fz, e12.nw, e12.kp, e12.st, fun b z => by
                    rcases own4 b z with y | y | y
                    · exact e12.ow b (own3 b y)
                    · exact .inr y
                    · exact .inl y⟩
                  exact ⟨F2, _, R4, PostS.from P e4⟩
          | _ => rw [hrd] at P; exact P.elim
      · rw [if_neg hcond] at P; exact P.elim
end
section
variable {ρ : Rho} {i j : Nat} {ms : List (Rho → Rz Rv)} {me : Rho → Rz Rv} {Q : Fl → Rho → Prop}
def kPick (i j : Nat) (dss : List (List PD)) (Q : Fl → Rho → Prop) : Rv → Rho → Prop := fun r ρ2 => ∃ m l ds, r.d = .int m ∧ L2.ixN dss.length m = some l ∧ dss[l]? = some ds ∧ Q .nx ((ρ2.set i .no).set j (.ow ds))
theorem w_pick (h : Wp (nestR ms ρ) fun dss ρ1 => (i < ρ1.length ∧ j < ρ1.length ∧ dss.length ≤ 1000) ∧ Wp (me (ρ1.set i .no)) (kPick i j dss Q)) : Wp (mPick i j ms me ρ) Q := by
  unfold mPick
  rw [wp_bind]
  refine h.mono fun dss ρ1 ⟨c, h⟩ => ?_
  rw [if_pos c, wp_bind]
  refine h.mono fun r ρ2 ⟨m, l, ds, h1, h2, h3, h4⟩ => ?_
  unfold pickR
  simp only [h1, h2, h3]
  exact wp_ok.mpr h4
end
end Sd
namespace Sd
open PySem L2 PySem.Spec PyProof.Rows
/-! ### f(a, ..) of numbers: what it gives is new as a whole -/
theorem rpa_flat1 {K : PySem.W.Frag} {F : Hp} : ∀ {vs : List V} {ds : List PD}, RpAll K F vs ds → ds.all flat1 = true → RpAll K noH vs ds
  | _, _, .nil, _ => .nil
  | _, _, .cons a t, h => by
    (rw [List.all_cons, Bool.and_eq_true] at h)
    exact .cons (rp_flat h.1 a) (rpa_flat1 t h.2)
def newR (m : Rho → Rz Rv) (ds : List PD) (ρ : Rho) : Rz (List PD) := if ds.all flat1 = true then match m (ds.map .fr) with
  | .ok (.ow rs) _ => .ok rs ρ
  | _ => .stuck
  else .stuck
def mCallNf (m : Rho → Rz Rv) (ma : Rho → Rz (List PD)) : Rho → Rz (List PD) := fun ρ => (ma ρ).bind fun ds ρ1 => newR m ds ρ1
section
variable {X : Cx} {S : Sx} {k n N : Nat} {mb : Rho → Rz Fl} {e : Expr} {es : List Expr} {ma : Rho → Rz (List PD)} {p pos : Pos} {x : Str} {ps : List Str}
theorem xn_callF (o : Okx X S k) (D : Dk X.K X.mg X.prog X.w X.base k x [] ps n N mb) (hg : Gl X x) (ha : XA X S (e :: es) ma) (ndb : (x == ("__debug__" : Str)) = false := by decide) (he : starEach (e :: es) X.env = (false, eval e X.env) :: starEach es X.env := by rfl) (npl : (backTo pos (starEach es X.env)).any (·.1) = false := by rfl) :
    XNw X S (.Call (.Name x p) (e :: es) [] pos) (mCallNf (fnM [] n N mb) ma) := by
  obtain ⟨f, fd, hn, F, hm, hk, hb, _⟩ := D.ex
  refine PE.imp (pe_callG F o.gd o.rm hg hm hk hb o.tk ha ndb he npl) fun σ H Q q => ?_
  obtain ⟨F0, ρ, R, P⟩ := q
  unfold mCallNf at P
  refine ⟨F0, ρ, R, PostE.mono (PostE.bind P) fun F1 ρ1 H1 ds e1 R1 P1 vs hv => ?_⟩
  have P1 := P1 F1 e1
  unfold newR at P1
  by_cases fl : ds.all flat1 = true
  · rw [if_pos fl] at P1
    have hv0 := rpa_flat1 hv fl
    obtain ⟨ob, φ, hsm⟩ := R1.sm
    rw [← o.hK, ← o.hM]
    cases hr : fnM [] n N mb (ds.map .fr) with
    | stuck => rw [hr] at P1; exact P1.elim
    | exc c f ρ' => rw [hr] at P1; exact P1.elim
    | ok r ρ' =>
      rw [hr] at P1
      cases r with
      | fr d => exact P1.elim
      | ow rs =>
        have no : ∀ ρ2 a, ρ2 = ds.map Cl.fr → ¬ Own ρ2 (vs.map some) a := fun ρ2 a e ⟨i, es, h, _⟩ => by
          subst e
          obtain ⟨d, _, z⟩ := at_map_fr h
          cases z
        have hlen : vs.length = n ∧ ρ' = ds.map .fr := by
          unfold fnM at hr
          by_cases c : okArgs [] n (ds.map .fr) = true
          · have hl := (okArgs.at c).1
            rw [List.length_map, ← hv.len] at hl
            refine ⟨hl, ?_⟩
            rw [if_pos c] at hr
            split at hr
            · simp only [outs, List.foldlM_nil] at hr
              cases hr; rfl
            · simp only [outs, List.foldlM_nil] at hr
              cases hr
            · rw [if_pos rfl] at hr; cases hr
            · cases hr
          · rw [if_neg c] at hr; cases hr
        have Fc0 : ∀ b w, (fun b => if b = sysModules then F1 sysModules else none : Hp) b = some w → b = sysModules ∧ F1 b = some w := fun b w z => by
          by_cases y : b = sysModules
          · subst y
            exact ⟨rfl, by simpa using z⟩
          · simp [y] at z
        refine ⟨hlen.1, fun b => if b = sysModules then F1 sysModules else none, ds.map .fr, ⟨fun b w z => R1.ex b w (Fc0 b w z).2, by simp [hv.len], fun i d h => ?_, fun i es h => ?_, fun i j di dj p h => ?_, (fun j h => nomatch h), ⟨ob, φ, by simpa using hsm⟩⟩, ?_⟩
        · obtain ⟨d', h1, h2⟩ := at_map_fr h
          cases h2
          obtain ⟨v, q1, q2⟩ := RpAll.get hv0 h1
          exact ⟨v, by rw [List.getElem?_map, q1]; rfl, rp_mono noH_le _ _ q2⟩
        · obtain ⟨d', _, h2⟩ := at_map_fr h; cases h2
        · obtain ⟨d', _, h2⟩ := at_map_fr h; cases h2
        rw [hr]
        intro F' H' e' R' v hvv
        obtain ⟨q, us, rfl, q1, q2, q3, q4, q5⟩ := hvv
        have kp : ∀ b w, H1 b = some w → H' b = some w := fun b w z => e'.kp b w z (no _ b rfl)
        have eF : Ext (Own ρ1 σ) F1 H1 (Own ρ1 σ) F1 H' := ⟨fun _ _ z => z, fun _ z => .inl z, fun b w z _ => kp b w z, e'.st, fun _ z => .inl z⟩
        have RF : Rs S F1 ρ1 σ H' := ⟨fun b w z => kp b w (R1.ex b w z), R1.len, R1.fr, fun j es h => by
          obtain ⟨p', us2, y1, y2, y3, y4⟩ := R1.ow j es h
          exact ⟨p', us2, y1, y2, FamH.mono y3 fun o z => kp p' o z, y4⟩, R1.sep, R1.pin, R1.sm⟩
        have ownH : ∀ b, Own ρ1 σ b → H1 b ≠ none := fun b ⟨j, es, h1, h2⟩ => by
          obtain ⟨p', us2, y1, y2, y3, y4⟩ := R1.ow j es h1
          rw [y1] at h2
          have z : p' = b := by injection h2 with z; injection z with z; injection z
          rw [← z]
          exact FamH.ne y3
        have hq1 : H1 q = none := q5.elim id fun h => absurd h (no _ q rfl)
        refine PostE.ok (PostE.from P1 eF) RF q us F' ⟨q2, fun h => ownH q h hq1, q3, R'.ex, fun b hb => ?_⟩
        rcases e'.nw b hb with y | y | y
        · left
          cases hy : (fun b => if b = sysModules then F1 sysModules else none : Hp) b with
          | none => exact absurd hy y
          | some w => exact (Fc0 b w hy).1
        · right
          refine ⟨?_, fun h => ownH b h y, .inl (e1.back y)⟩
          cases hy : F1 b with
          | none => rfl
          | some w => rw [R1.ex b w hy] at y; cases y
        · exact absurd y (no _ b rfl)
  · rw [if_neg fl] at P1; exact P1.elim
end
end Sd
namespace Sd
open PySem L2 PySem.Spec PyProof.Rows
/-! ### for x, y in CALL: if c: return x — over a list that is new as a whole, what is found is a list of one's own -/
def noR (ρ : Rho) : Rho := ρ.map fun _ => .no
def findR (i j : Nat) (t : Rho → Rz Bool) : List PD → Rho → Rz Fl
  | [], ρ => .ok .nx ρ
  | .tuple [.list zs, e] :: ds, ρ => if flatD zs = true ∧ i < ρ.length ∧ j < ρ.length then (t ((ρ.set i (.fr (.list zs))).set j (.fr e))).bind fun b ρ2 => if b = true then .ok (.rt (.ow zs)) (noR ρ2) else findR i j t ds ρ2 else .stuck
  | _ :: _, _ => .stuck
def mFind2 (i j : Nat) (t : Rho → Rz Bool) (mn : Rho → Rz (List PD)) : Rho → Rz Fl := fun ρ => (mn ρ).bind fun ds ρ1 => findR i j t ds ρ1
structure FindF (S : Sx) (q : Addr) (us : List V) (Fz F0 : Hp) (ρ0 : Rho) (σ0 : L2.St) (H0 F : Hp) (ρ : Rho) (σ : L2.St) (H : Hp) : Prop where
  R : Rs S F ρ σ H
  e : Ext (Own ρ0 σ0) F0 H0 (Own ρ σ) F H
  up : ∀ a o, Fz a = some o → F a = some o
  hq : H q = some (.lst us)
  nq : ¬ Own ρ σ q
section
variable {X : Cx} {S : Sx} {k : Nat} {e c : Expr} {mn : Rho → Rz (List PD)} {t : Rho → Rz Bool} {x y : Str} {p1 p2 p3 p4 p5 p6 p7 : Pos} {kt : Nat}
theorem xs_find2 (o : Okx X S k) (i j : Nat) (he : XNw X S e mn) (hc : XT X S c t) (hSJ : S.J = [] := by rfl)
    (hij : i ≠ j := by decide) (hi : X.N[i]? = some x := by rfl) (hj : X.N[j]? = some y := by rfl) (hx : Loc X.env.scope x := by first | exact Or.inl rfl | exact Or.inr rfl) (hy : Loc X.env.scope y := by first | exact Or.inl rfl | exact Or.inr rfl)
    (hfx : X.fn x = true ∨ X.env.scope.names.lookup x = some .local := by first | exact .inl rfl | exact .inr rfl | assumption) (hfy : X.fn y = true ∨ X.env.scope.names.lookup y = some .local := by first | exact .inl rfl | exact .inr rfl | assumption)
    (hv : Vis X.env.scope x := by first | exact Or.inl rfl | exact Or.inr (Or.inl rfl) | exact Or.inr (Or.inr rfl)) (hd : (x == ("__debug__" : Str)) = false := by decide) (hcd : (x == ("__classdict__" : Str)) = false := by decide)
    (h1 : (assignEach [.Name x p1, .Name y p2] X.env).map (·.2) = assign (.Name x p1) X.env :: (assignEach [.Name y p2] X.env).map (·.2) := by rfl) (h2 : (assignEach [.Name y p2] X.env).map (·.2) = assign (.Name y p2) X.env :: (assignEach [] X.env).map (·.2) := by rfl)
    (hn : (assignEach [.Name x p1, .Name y p2] X.env).length = 2 := by rfl) (hst : (assignEach [.Name x p1, .Name y p2] X.env).findIdx? (·.1) = none := by rfl)
    (hs : ∀ z, foldedSetIterable e X.env z = pure z := by intro _; rfl) :
    XS X S (.For (.Tuple [.Name x p1, .Name y p2] kt p3) e [.If c [.Return (some (.Name x p4)) p5] [] p6] [] p7) (mFind2 i j t mn) :=
  PS.imp (ps_for o.po o.calm (pi_list he) (pg_tup o.calm (pgs_cons (pg_name o.nd hi hx hfx) (pgs_cons (pg_name o.nd hj hy hfy) pgs_nil h2) h1) hn hst) (pss_cons (ps_if hc (pss_cons (ps_ret (pe_var hi hv hd hcd)) pss_nil) pss_nil) pss_nil) hs) fun D σ H q => by
    obtain ⟨F, ρ, R, P⟩ := q
    unfold mFind2 at P
    refine ⟨F, ρ, R, ?_⟩
    cases hm : mn ρ with
    | stuck => rw [hm] at P; exact P
    | exc b f ρ' => rw [hm] at P; exact fun F' H' cls dd e' R' z => P F' σ H' cls dd e' R' z
    | ok ds ρ1 =>
      rw [hm] at P
      have P : PostS S F ρ σ H (findR i j t ds ρ1) D := P
      intro F1 H1 e1 R1 q us G fg
      refine ⟨q, rfl, ⟨us, .inl (.inl fg.hq)⟩, ?_⟩
      have gsm : ∀ a w, G a = some w → a ≠ sysModules → F1 a = none ∧ ¬ Own ρ1 σ a ∧ (H a = none ∨ Own ρ σ a) := fun a w z n => by
        rcases fg.nw a (by rw [z]; simp) with y | y
        · exact absurd y n
        · exact y
      have fzv : ∀ a w, ((F1 a).orElse fun _ => G a) = some w → F1 a = some w ∨ (F1 a = none ∧ G a = some w) := fun a w z => by
        cases y : F1 a with
        | none => rw [y] at z; exact .inr ⟨rfl, z⟩
        | some u => rw [y] at z; exact .inl z
      have f1z : ∀ a w, F1 a = some w → ((F1 a).orElse fun _ => G a) = some w := fun a w z => by rw [z]; rfl
      have gz : ∀ a w, G a = some w → ((F1 a).orElse fun _ => G a) = some w := fun a w z => by
        cases y : F1 a with
        | none => exact z
        | some u =>
          have y1 := R1.ex a u y
          rw [fg.le a w z] at y1
          exact y1.symm
      have smn : ∀ a w, G a = some w → a = sysModules → ∃ u, F1 a = some u := fun a w z n => by
        obtain ⟨ob, φ, s⟩ := R1.sm
        exact ⟨_, by rw [n]; exact s⟩
      generalize hFz : (fun a => (F1 a).orElse fun _ => G a : Hp) = Fz
      have fzv : ∀ a w, Fz a = some w → F1 a = some w ∨ (F1 a = none ∧ G a = some w) := by subst hFz; exact fzv
      have f1z : ∀ a w, F1 a = some w → Fz a = some w := by subst hFz; exact f1z
      have gz : ∀ a w, G a = some w → Fz a = some w := by subst hFz; exact gz
      have start : FindF S q us Fz F ρ σ H Fz ρ1 σ H1 := by
        refine ⟨⟨fun a w z => ?_, R1.len, fun l d z => ?_, fun l d z => ?_, R1.sep, R1.pin, R1.sm.up f1z⟩, ⟨fun a w z => f1z a w (e1.fz a w z), fun a z => ?_, e1.kp, e1.st, e1.ow⟩, fun _ _ z => z, fg.hq, fg.oq⟩
        · rcases fzv a w z with y | ⟨_, y⟩
          · exact R1.ex a w y
          · exact fg.le a w y
        · obtain ⟨v, z1, z2⟩ := R1.fr l d z
          exact ⟨v, z1, rp_mono f1z _ _ z2⟩
        · obtain ⟨p, us', z1, z2, z3, z4⟩ := R1.ow l d z
          refine ⟨p, us', z1, ?_, z3, rpa_mono f1z _ _ z4⟩
          cases y : Fz p with
          | none => rfl
          | some w =>
            rcases fzv p w y with u | ⟨_, u⟩
            · rw [u] at z2; cases z2
            · by_cases n : p = sysModules
              · obtain ⟨u', hu⟩ := smn p w u n
                rw [hu] at z2; cases z2
              · exact absurd ⟨l, d, z, z1⟩ (gsm p w u n).2.1
        · cases y : Fz a with
          | none => exact absurd y z
          | some w =>
            rcases fzv a w y with u | ⟨u0, u⟩
            · exact e1.nw a (by rw [u]; simp)
            · by_cases n : a = sysModules
              · obtain ⟨u', hu⟩ := smn a w u n
                rw [hu] at u0; cases u0
              · exact .inr (gsm a w u n).2.2
      refine ⟨fun n m σ' H' => m = ds.length - n ∧ n ≤ ds.length ∧ ∃ F' ρ', FindF S q us Fz F ρ σ H F' ρ' σ' H' ∧ PostS S F ρ σ H (findR i j t (ds.drop n) ρ') D, ⟨ds.length, rfl, Nat.zero_le _, Fz, ρ1, start, P⟩, ?_⟩
      rintro n m σ' H' ⟨rfl, hle, F', ρ', W, P'⟩
      by_cases hlt : n < ds.length
      · obtain ⟨x0, hx0, rx0⟩ := fg.rd.at (List.getElem?_eq_getElem hlt)
        refine .inr ⟨⟨us, x0, .inl (.inl W.hq), hx0⟩, fun σ2 H2 => (∃ F2 ρ2, FindF S q us Fz F ρ σ H F2 ρ2 σ2 H2 ∧ PostS S F ρ σ H (findR i j t (ds.drop (n + 1)) ρ2) D), fun σ2 H2 h => ⟨ds.length - (n + 1), by omega, rfl, hlt, h⟩, fun xx H3 hyy => ?_⟩
        obtain ⟨rfl, hyy⟩ := hyy
        have ex0 := hyy us (.inl (.inl W.hq))
        rw [hx0] at ex0
        cases ex0
        rw [List.drop_eq_getElem_cons hlt] at P'
        generalize ds[n] = d0 at P' rx0
        generalize ds.drop (n + 1) = dr at P'
        cases rx0 with
        | tup g1 g2 =>
          rename_i T xs es
          cases g2 with
          | nil => exact P'.elim
          | cons k1 t1 =>
            rename_i v vs0 dv ds0
            cases t1 with
            | nil => cases dv <;> exact P'.elim
            | cons k2 t2 =>
              rename_i w ws dw ds1
              cases t2 with
              | cons _ _ => cases dv <;> exact P'.elim
              | nil =>
                cases k1 with
                | lst r1 r2 =>
                  rename_i p vs zs
                  have P' : PostS S F ρ σ H (if flatD zs = true ∧ i < ρ'.length ∧ j < ρ'.length then (t ((ρ'.set i (.fr (.list zs))).set j (.fr dw))).bind fun b ρ2 => if b = true then .ok (.rt (.ow zs)) (noR ρ2) else findR i j t dr ρ2 else .stuck) D := P'
                  by_cases hcond : flatD zs = true ∧ i < ρ'.length ∧ j < ρ'.length
                  · rw [if_pos hcond] at P'
                    obtain ⟨fl, il, jl⟩ := hcond
                    have gF : ∀ a w, G a = some w → F' a = some w := fun a w z => W.up a w (gz a w z)
                    have nJ : ∀ l, l ∉ S.J := fun l => by rw [hSJ]; simp
                    obtain ⟨Ra, owna⟩ := W.R.setSlot (O0 := Own ρ' σ') (H0 := H3) (v := .ref p) (r := .fr (.list zs)) (.lst (gF _ _ r1) (rpa_mono gF _ _ r2)) il (nJ i) (.inr ⟨_, rfl⟩)
                    obtain ⟨Rb, ownb⟩ := Ra.setSlot (O0 := Own ρ' σ') (H0 := H3) (v := w) (r := .fr dw) (rp_mono gF _ _ k2) (by rw [List.length_set]; exact jl) (nJ j) (.inr ⟨_, rfl⟩)
                    have fa : ∀ a, Own (((ρ'.set i (.fr (.list zs)))).set j (.fr dw)) ((σ'.set i (some (.ref p))).set j (some w)) a → Own ρ' σ' a := fun a ⟨l, d, z1, z2⟩ => by
                      by_cases yj : j = l
                      · subst yj
                        rw [List.getElem?_set_self (by rw [List.length_set]; exact jl)] at z1
                        cases z1
                      · rw [List.getElem?_set_ne yj] at z1 z2
                        by_cases yi : i = l
                        · subst yi
                          rw [List.getElem?_set_self il] at z1
                          cases z1
                        · rw [List.getElem?_set_ne yi] at z1 z2
                          exact ⟨l, d, z1, z2⟩
                    have eb : Ext (Own ρ σ) F H (Own ((ρ'.set i (.fr (.list zs))).set j (.fr dw)) ((σ'.set i (some (.ref p))).set j (some w))) F' H3 := ⟨W.e.fz, W.e.nw, W.e.kp, W.e.st, fun a z => W.e.ow a (fa a z)⟩
                    have nqb : ¬ Own ((ρ'.set i (.fr (.list zs))).set j (.fr dw)) ((σ'.set i (some (.ref p))).set j (some w)) q := fun z => W.nq (fa q z)
                    have si : ((σ'.set i (some (V.ref p))).set j (some w))[i]? = some (some (.ref p)) := by
                      rw [List.getElem?_set_ne (fun z => hij z.symm), List.getElem?_set_self (by rw [← W.R.len]; exact il)]
                    refine ⟨T, [.ref p, w], rfl, .inl (.inl (W.R.ex _ _ (gF _ _ g1))), rfl, .ref p, [w], rfl, w, [], rfl, rfl, ?_⟩
                    have Rb : Rs S F' ((ρ'.set i (.fr (.list zs))).set j (.fr dw)) ((σ'.set i (some (.ref p))).set j (some w)) H3 := Rb
                    generalize (ρ'.set i (.fr (.list zs))).set j (.fr dw) = ρb at Rb eb nqb P'
                    generalize (σ'.set i (some (V.ref p))).set j (some w) = σb at Rb eb nqb si
                    refine ⟨F', ρb, Rb, ?_⟩
                    cases ht : t ρb with
                    | stuck => rw [ht] at P'; exact P'
                    | exc a' f ρe => rw [ht] at P'; exact fun F2 H2 cls dd e2 R2 z => P' F2 _ H2 cls dd (eb.trans e2) R2 z
                    | ok b ρ2 =>
                      rw [ht] at P'
                      intro F2 H2 e2 R2
                      have e02 := eb.trans e2
                      cases b with
                      | true =>
                        have P' : PostS S F ρ σ H (.ok (.rt (.ow zs)) (noR ρ2)) D := P'
                        refine ⟨.ref p, si, ?_⟩
                        have nn : ∀ {l : Nat} {cl : Cl}, (noR ρ2)[l]? = some cl → cl = .no := fun {l cl} z => by
                          unfold noR at z
                          rw [List.getElem?_map] at z
                          cases y : ρ2[l]? with
                          | none => rw [y] at z; cases z
                          | some u => rw [y] at z; cases z; rfl
                        have no : ∀ a, ¬ Own (noR ρ2) σb a := fun a ⟨l, d, z1, _⟩ => by cases nn z1
                        have hp1 := fg.le _ _ r1
                        have np := sm_lst R1.sm R1.ex hp1
                        have gp := gsm p _ r1 np
                        have pF : F p = none := by
                          cases y : F p with
                          | none => rfl
                          | some u => rw [e1.fz p u y] at gp; cases gp.1
                        refine P' F σb H2 ⟨fun _ _ z => z, fun _ z => .inl z, e02.kp, e02.st, fun a z => absurd z (no a)⟩ ⟨fun a u z => R2.ex a u (e02.fz a u z), ?_, fun l d z => (by cases nn z), fun l d z => (by cases nn z), fun l1 l2 d1 d2 a z => (by cases nn z), fun l z => absurd z (nJ l), R.sm⟩ (.ref p) ⟨p, vs, rfl, pF, R2.ex p _ (e2.fz p _ (gF _ _ r1)), rpa_flat r2 fl, no p, gp.2.2⟩
                        unfold noR
                        rw [List.length_map]
                        exact R2.len
                      | false =>
                        have P' : PostS S F ρ σ H (findR i j t dr ρ2) D := P'
                        exact ⟨F2, ρ2, ⟨R2, e02, fun a u z => e2.fz a u (W.up a u z), e2.kp q _ W.hq nqb, fun z => by
                          rcases e2.ow q z with u | u
                          · exact nqb u
                          · rw [W.hq] at u; cases u⟩, P'⟩
                  · rw [if_neg hcond] at P'; exact P'.elim
                | _ => exact P'.elim
        | _ => exact P'.elim
      · have en : n = ds.length := by omega
        subst en
        rw [List.drop_length] at P'
        have P' : PostS S F ρ σ H (.ok .nx ρ') D := P'
        exact .inl ⟨⟨us, .inl (.inl W.hq), by rw [fg.rd.len]; exact Nat.le_refl _⟩, P' F' σ' H' W.e W.R⟩
end
/-! its wp rule -/
section
variable {ρ : Rho} {i j : Nat} {t : Rho → Rz Bool} {mn : Rho → Rz (List PD)} {m : Rho → Rz Rv} {ma : Rho → Rz (List PD)} {Q : Fl → Rho → Prop}
theorem w_find2 (h : Wp (mn ρ) fun ds ρ1 => Wp (findR i j t ds ρ1) Q) : Wp (mFind2 i j t mn ρ) Q := by
  unfold mFind2
  rw [wp_bind]
  exact h
theorem w_callNf {Q : List PD → Rho → Prop} (h : Wp (ma ρ) fun ds ρ1 => ds.all flat1 = true ∧ ∃ rs ρ2, m (ds.map .fr) = .ok (.ow rs) ρ2 ∧ Q rs ρ1) : Wp (mCallNf m ma ρ) Q := by
  unfold mCallNf
  rw [wp_bind]
  refine h.mono fun ds ρ1 ⟨h1, rs, ρ2, h2, h3⟩ => ?_
  unfold newR
  rw [if_pos h1, h2]
  exact wp_ok.mpr h3
end
end Sd
namespace Sd
open PySem L2 PySem.Spec PyProof.Rows
open PySem.W (alike AlikeAll minD dataLt alike_unique readsAll_at)
/-! ### min(a, b) of two lists -/
theorem min_pair {prog : Program} {w : World} {A : Around} {E : Value → Shared → Prop} {s : Shared} {u v1 : Value} {x y : PyData} {as : List Addr} {Q : Value → Shared → Prop} (hh : A.handled = none)
    (hr : ReadsAll s.heap [u, v1] [x, y] as) (ha : AlikeAll [x, y]) (hu : A.units + 1 + PyData.depthAll [x, y] < cLine)
    (h : ∀ (i : Nat) v h' tk bs, [u, v1][i]? = some v → Reads h' v (minD x [y]) bs → (∀ c o, s.heap.get? c = some o → h'.get? c = some o) → Q v { s with heap := h', toks := tk }) :
    wpAny (model prog w) A (call (.builtin "min") [u, v1]) Q E s := by
  refine call_function_tree F.kind_min F.plain_min F.entry_min (F.args_min2 u v1) ?_
  have bp : Builtin.Builtins.bindParams "min" ["key", "default"] 0 ⟨[], []⟩ = pure [none, none] := rfl
  change wpAny (model prog w) A.in1 (Builtin.Builtins.bindParams "min" ["key", "default"] 0 ⟨[], []⟩ >>= _) _ E s
  refine wpAny_bind (wpAny_of_eq bp ?_)
  change wpAny (model prog w) A.in1 (newTuple [u, v1] >>= _) _ E s
  (refine wpAny_bind (wpAny_newObj_type ?_))
  have old : ∀ c o, s.heap.get? c = some o → (s.heap.push { cls := .type "tuple", data := .seq #[u, v1] }).get? c = some o := fun c o e => Heap.get?_push_of_some _ e
  have two : (s.heap.push { cls := .type "tuple", data := .seq #[u, v1] }).IsTuple s.heap.objs.size #[u, v1] := ⟨_, Heap.get?_push_size _ rfl, rfl, 0, rfl⟩
  have hr2 : ReadsAll (s.heap.push { cls := .type "tuple", data := .seq #[u, v1] }) (#[u, v1] : Array Value).toList [x, y] as := ReadsAll.keeps old hr
  refine wpAny_bind (PySem.W.iter_tupleW (A := A.in1) hh two fun s₂ e W st hfp hw hk => ?_)
  (refine wpAny_bind (wpAny_newObj_type ?_))
  have nf : s₂.heap.objs.size ∉ _ := fun z => Nat.lt_irrefl _ (hfp _ z)
  have cp := PySem.W.cmpIn_lt (prog := prog) (w := w) (s := { s with heap := s.heap.push { cls := .type "tuple", data := .seq #[u, v1] } }) (A := A.in1) hr2 ha (by show A.units + 1 + _ < _; exact hu)
  rw [show (toString "min" ++ toString ".loop" : String) = "min.loop" by decide]
  (refine wpAny_pure ⟨plainId_quiet F.plain_min_loop _, ?_⟩)
  refine codeAny_min_loop_firstH W _ hw _ cp s₂.heap.objs.size nf (fresh_in hk) _ (show 0 < 2 by decide) (fun c o z => Heap.get?_push_of_some _ (hk c o z)) (W.frame 0 s₂ _ s₂.toks st (Nat.le_refl _) fun c _ o z => Heap.get?_push_of_some _ z) (Heap.get?_push_size _ rfl) fun v s' hP hm => ?_
  have hm := Moved.drop_new (tk := s₂.toks) hm (Nat.le_refl _)
  obtain ⟨h', tk, rfl, hk'⟩ := PySem.W.moved_old e rfl hm
  obtain ⟨bs, r, _, _, _⟩ := PySem.W.readsAll_atA hr2 _ v hP
  have e2 := (PySem.W.argBest_fold dataLt PyData.none x [y] 1 (Nat.le_refl _)).2
  have hP' : [u, v1][argBest (fun i j => dataLt ([x, y].getD i .none) ([x, y].getD j .none)) 1]? = some v := by
    rw [← Array.getElem?_toList] at hP
    exact hP
  exact h _ v h' tk bs hP' (Reads.keeps hk' (by unfold minD; rw [show [y].take 1 = [y] from rfl] at e2; rw [← e2]; exact r)) fun c o z => hk' c o (old c o z)
def rMm2 (K : PySem.W.Frag) : List V → Hp → VK → Prop := fun us H Q => ∃ (v w : V) (x y : PD), us = [v, w] ∧ RpAll K H [v, w] [x, y] ∧ okMm [x, y] = true ∧ ∀ (i : Nat) (u : V), [v, w][i]? = some u → [x, y][i]? = some (minD x [y]) → Q u H
section
variable {X : Cx} {S : Sx} {k : Nat} {e f : Expr} {p pos : Pos}
theorem call_min2D (o : Okx X S k) : CallR X (.builtin "min") (rMm2 X.K) := by
  intro pn s σ H us vs Q I r h
  obtain ⟨v, w, x, y, rfl, hd, c, q⟩ := h
  obtain ⟨c1, c2, c3⟩ := okMm.inv c
  have hu := o.rm.units
  obtain ⟨a, b, rfl, ra, rb⟩ := vals2 r
  obtain ⟨as, hr⟩ := rpa_reads I [x, y] _ [a, b] c3 hd r
  refine min_pair (I.ok.hd o.calm) hr c1 (by omega) fun i u h' tk bs hv hrd kp => ?_
  obtain ⟨bs', r1, r2, r3, _⟩ := readsAll_at hr i u hv
  have e := alike_unique _ _ u bs' bs (c1.1 _ r3 _ (minD_mem x [y])) (Reads.keeps kp r1) hrd
  have hw : i < 2 := r2
  obtain ⟨u', e1, e2⟩ := r.get (List.getElem?_eq_getElem (show i < [v, w].length from hw))
  rw [hv] at e1
  cases e1
  refine ⟨_, H, I.kept kp, e2, q i _ (List.getElem?_eq_getElem (show i < [v, w].length from hw)) ?_⟩
  rw [List.getElem?_eq_getElem r2, ← e]
  simp only [List.getD_eq_getElem?_getD, List.getElem?_eq_getElem r2, Option.getD_some]
def gMm2 : List PD → Option PD
  | [.list x, .list y] => if okMm [.list x, .list y] = true then some (minD (.list x) [.list y]) else none
  | _ => none
abbrev cMin2L : List PD → Option Rv := fun ds => (gMm2 ds).map .fr
theorem sim_mm2 (hK : S.K = X.K) : SimC X S (rMm2 X.K) cMin2L := by
  intro F ρ σ H vs ds z Q R hv hz q
  have hz : (gMm2 ds).map Rv.fr = some z := hz
  unfold gMm2 at hz
  split at hz
  · rename_i x y _
    by_cases c : okMm [.list x, .list y] = true
    · rw [if_pos c] at hz
      cases hz
      cases hv with
      | cons h1 t =>
        cases t with
        | cons h2 t2 =>
          cases t2
          refine ⟨_, _, .list x, .list y, rfl, hK ▸ rpa_mono R.ex _ _ (.cons h1 (.cons h2 .nil)), c, fun i u hu hx => ?_⟩
          obtain ⟨w', e1, e2⟩ := (RpAll.cons h1 (.cons h2 .nil)).at hx
          rw [hu] at e1
          cases e1
          exact q F H u Ext.refl R e2
    · rw [if_neg c] at hz; cases hz
  · cases hz
theorem xe_min2L (o : Okx X S k) {m : Rho → Rz (List PD)} (hm : S.mg "min" = none) (ha : XA X S [e, f] m) (hg : Gl X "min" := by rfl) (he : starEach [e, f] X.env = (false, eval e X.env) :: starEach [f] X.env := by rfl) (npl : (backTo pos (starEach [f] X.env)).any (·.1) = false := by rfl) :
    XE X S (.Call (.Name "min" p) [e, f] [] pos) (mCB cMin2L m) := xe_cb o (call_min2D o) (sim_mm2 o.hK) hm ha hg (by decide +kernel) (by decide) (by decide) he npl
end
/-! ### x is None, x is not None: x only looked at -/
section
variable {X : Cx} {S : Sx} {k : Nat} {x : Str} {p pos : Pos} {e : Expr} {m : Rho → Rz Rv}
theorem cmp_isnot : CmpS S (fun x y H Q => y = .non ∧ Q (.bl (!decide (x = .non))) H) gIsNot := fun H x y dx dy b Q hx hy h q => by
  unfold gIsNot at h
  split at h
  · cases h
    cases hy
    exact ⟨rfl, by rw [isNone_rp hx]; exact q⟩
  · cases h
theorem cmp_is : CmpS S (fun x y H Q => y = .non ∧ Q (.bl (decide (x = .non))) H) gIs := fun H x y dx dy b Q hx hy h q => by
  unfold gIs at h
  split at h
  · cases h
    cases hy
    exact ⟨rfl, by rw [isNone_rp hx]; exact q⟩
  · cases h
theorem xt_isnotP (o : Okx X S k) (i : Nat) (hb : XE X S e m) (hN : X.N[i]? = some x := by rfl) (hx : Vis X.env.scope x := by first | exact Or.inl rfl | exact Or.inr (Or.inl rfl) | exact Or.inr (Or.inr rfl)) (hd : (x == ("__debug__" : Str)) = false := by decide) (hcd : (x == ("__classdict__" : Str)) = false := by decide)
    (hm : behindInMarks .IsNot e = false := by first | exact nomark _ | with_unfolding_all rfl) (hT : S.T i = none := by first | rfl | assumption) : XT X S (.Compare (.Name x p) [.IsNot] [e] pos) (mB (mCmpP gIsNot i m)) :=
  PT.imp (pt_cmpR op_notN (pe_var hN hx hd hcd) hb hm) fun _ _ _ q => cmpP_bin cmp_isnot hT (tT_B q)
theorem xt_isP (o : Okx X S k) (i : Nat) (hb : XE X S e m) (hN : X.N[i]? = some x := by rfl) (hx : Vis X.env.scope x := by first | exact Or.inl rfl | exact Or.inr (Or.inl rfl) | exact Or.inr (Or.inr rfl)) (hd : (x == ("__debug__" : Str)) = false := by decide) (hcd : (x == ("__classdict__" : Str)) = false := by decide)
    (hm : behindInMarks .Is e = false := by first | exact nomark _ | with_unfolding_all rfl) (hT : S.T i = none := by first | rfl | assumption) : XT X S (.Compare (.Name x p) [.Is] [e] pos) (mB (mCmpP gIs i m)) :=
  PT.imp (pt_cmpR op_isN (pe_var hN hx hd hcd) hb hm) fun _ _ _ q => cmpP_bin cmp_is hT (tT_B q)
end
end Sd
namespace Sd
open PySem L2 PySem.Spec PyProof.Rows PyProof
/-! ### set of a list of tuples of ints: at most 62 unlike ones -/
/-- however they are told, there are not many unlike ones -/
def FewT (ks : List (Addr × List Int)) : Prop := ∀ L : List (Addr × List Int), (L.map (·.2)).Nodup → (∀ p ∈ L, p ∈ ks) → L.length < 63
/-- from s to t only a new set of the tuples of ks was laid at S -/
def FilT (P : Program) (w : World) (ks : List (Addr × List Int)) (S : Addr) (s t : Shared) : Prop :=
  ∃ (m : Heap) (k : Nat) (L : List (Addr × List Int)) (es : Array (Int × Value)) (ep : Nat) (tb : SetTable), t = { s with heap := m, toks := k } ∧ SetTR P w m S L es ep tb ∧ Got ks ks.length L ∧ ∀ b o, b ≠ S → s.heap.get? b = some o → m.get? b = some o
section
variable {P : Program} {w : World} {A A' : Around} {E : Value → Shared → Prop}
theorem fillT {I S : Addr} {fp wr : List Addr} {G : Array GenState → Array GenState → Prop} {n : Nat} {Pv : Nat → Value → Prop} {St : Nat → Shared → Prop} {R : Result → Shared → Prop} {ks : List (Addr × List Int)} {m0 : Heap}
    (W : WalksS P w A.in1 I fp wr G n Pv St) (off : S ∉ fp) (long : n = ks.length) (few : FewT ks) (each : ∀ i v, Pv i v → ∃ p, ks[i]? = some p ∧ v = .ref p.1)
    (at0 : ∀ p ∈ ks, IsT P w m0 p.2 p.1) (s0 : m0.get? S = none) (w0 : ∀ b ∈ wr, m0.get? b = none) (room : A.in1.units < cLine) :
    ∀ (left i : Nat) (s : Shared) (L : List (Addr × List Int)) (es : Array (Int × Value)) (ep : Nat) (t : SetTable), n - i = left → i ≤ n → St i s → (∀ b o, m0.get? b = some o → s.heap.get? b = some o) → SetTR P w s.heap S L es ep t → Got ks i L →
      (∀ s' L es ep t, Moved (S :: wr) G s s' → SetTR P w s'.heap S L es ep t → Got ks n L → R (.ok (.ret .none)) s') →
      codeAny (model P w) A
        (Code.builtin "set.update.loop" ⟨[.ref S, .ref I], []⟩) R s := by
  have offw : S ∉ wr := fun z => off (W.sub _ z)
  have into : ∀ b ∈ wr, b ∈ S :: wr := fun b z => List.mem_cons_of_mem _ z
  have stays : ∀ {s s' : Shared}, Moved wr G s s' → (∀ b o, m0.get? b = some o → s.heap.get? b = some o) → ∀ b o, m0.get? b = some o → s'.heap.get? b = some o := by
    intro s s' mv kp b o e
    refine mv.heap b o (fun z => ?_) (kp b o e)
    rw [w0 b z] at e
    cases e
  have tupAt : ∀ {h : Heap} {i : Nat} {L : List (Addr × List Int)}, (∀ b o, m0.get? b = some o → h.get? b = some o) → Got ks i L → ∀ p ∈ L, IsT P w h p.2 p.1 := by
    intro h i L kp g p hp
    exact isT_keep (at0 p (List.mem_of_mem_take (g.sub p hp))) kp
  intro left
  induction left with
  | zero =>
    intro i s L es ep t e0 le st kp T g fin
    obtain rfl : i = n := by omega
    (refine codeAny_builtin F.entry_set_update_loop ?_)
    (rw [Around.under_plainId F.plain_set_update_loop _])
    change wpAny (model P w) A.in1 (pyNext (.ref I) >>= _) _ _ s
    refine wpAny_bind (W.done s _ _ st fun s' mv => ?_)
    exact wpAny_pure (fin s' L es ep t (mv.mono into) (T.keep (fun o e => mv.heap S o offw e) (tupAt (stays mv kp) g)) g)
  | succ left ih =>
    intro i s L es ep t e0 le st kp T g fin
    have lt : i < n := by omega
    (refine codeAny_builtin F.entry_set_update_loop ?_)
    (rw [Around.under_plainId F.plain_set_update_loop _])
    change wpAny (model P w) A.in1 (pyNext (.ref I) >>= _) _ _ s
    refine wpAny_bind (W.item i s _ _ lt st fun v s' pv st' mv => ?_)
    obtain ⟨p, at1, rfl⟩ := each i v pv
    have kp' := stays mv kp
    have T' : SetTR P w s'.heap S L es ep t := T.keep (fun o e => mv.heap S o offw e) (tupAt kp' g)
    have isp : IsT P w s'.heap p.2 p.1 := isT_keep (at0 p (List.mem_of_getElem? at1)) kp'
    have fewL := few L T.nd fun q hq => List.mem_of_mem_take (g.sub q hq)
    change wpAny (model P w) A.in1 (holding [Value.ref p.1] (setAdd S (.ref p.1)) >>= _) _ _ s'
    (refine wpAny_bind (wpAny_holding ?_))
    unfold setAdd
    refine wpAny_holding ?_
    refine wpAny_bind (wpAny_pyHash_tuple room isp ?_)
    refine add_at (s := { s' with toks := s'.toks + (p.2.length + 1) }) T' isp room (Nat.succ_lt_succ fewL) fun b h2 L2 es2 ep2 t2 but T2 old new => ?_
    have kp2 : ∀ b o, m0.get? b = some o → h2.get? b = some o := by
      intro b o e
      refine (but.2 b fun z => ?_).trans (kp' b o e)
      rw [z, s0] at e
      cases e
    have g2 : Got ks (i + 1) L2 := by
      by_cases c : p.2 ∈ L.map (·.2)
      · rw [old c]
        exact g.same at1 c
      · exact g.more at1 (new c)
    refine wpAny_pure ⟨plainId_quiet F.plain_set_update_loop _, ?_⟩
    refine ih (i + 1) _ L2 es2 ep2 t2 (by omega) lt (W.frame _ s' _ _ st' (Nat.le_add_right _ _) fun b hb o e => ?_) kp2 T2 g2 fun s3 L3 es3 ep3 t3 mv3 T3 g3 => ?_
    · exact (but.2 b fun z => off (z ▸ hb)).trans e
    · refine fin s3 L3 es3 ep3 t3 (Moved.trans W.gtrans ((mv.mono into).then_heap (Nat.le_add_right _ _) fun b o nb e => ?_) mv3) T3 g3
      exact (but.2 b fun z => nb (z ▸ List.mem_cons_self)).trans e
theorem setInit_tups {s : Shared} {S l : Addr} {xs : Array Value} {ks : List (Addr × List Int)} {m0 : Heap} (calm : A.handled = none) (at0 : s.heap.get? S = some (nilSet w)) (atl : s.heap.IsList l xs)
    (apart : l ≠ S) (whole : xs.toList = ks.map fun p => Value.ref p.1) (tups : ∀ p ∈ ks, IsT P w m0 p.2 p.1) (s0 : m0.get? S = none) (up : ∀ b o, m0.get? b = some o → s.heap.get? b = some o) (few : FewT ks) (room : A.in1.units < cLine) :
    wpAny (model P w) A (Builtin.«set.__init__» ⟨[.ref S, .ref l], []⟩) (fun fin t => match fin with
      | .done f => Except.ok f = (.ok (.ret .none) : Result) ∧ FilT P w ks S s t
      | .again c => c.quiet = true ∧ codeAny (model P w) A' c (fun r t => r = .ok (.ret .none) ∧ FilT P w ks S s t) t) E s := by
  have long : xs.size = ks.length := by
    have := congrArg List.length whole
    rwa [Array.length_toList, List.length_map] at this
  have old : S < s.heap.objs.size := Heap.lt_size at0
  have oldl : l < s.heap.objs.size := by
    have ⟨o, z, _⟩ := atl
    exact Heap.lt_size z
  have isS : s.TypeIs (.ref S) "set" := ⟨_, at0, rfl⟩
  have isL : s.TypeIs (.ref l) "list" := atl.typeIs
  have notSet := F.sub_list_set
  have notFroz := F.sub_list_frozenset
  have notDict : (Value.type "list" == Value.type "dict") = false := by decide
  obtain ⟨lo, lz, lc, lk, ld⟩ := id atl
  rcases lo with ⟨c0, d0, x0, y0⟩
  simp only at lc ld
  subst lc ld
  unfold nilSet at at0
  (unfold Builtin.«set.__init__» noKeywords Builtin.Frozenset.updateFrom)
  generalize e0 : pyIter = it
  wp_walk
  rw [← e0]
  refine wpAny_pyIter_list atl (wpAny_bind (wpAny_runValue ?_))
  have offI : l ≠ s.heap.objs.size := Nat.ne_of_lt oldl
  have offS : S ∉ [s.heap.objs.size, l] := by
    intro z
    rcases List.mem_cons.mp z with e | z
    · exact absurd e (Nat.ne_of_lt old)
    · exact apart (List.mem_singleton.mp z).symm
  have each : ∀ (i : Nat) (v : Value), xs[i]? = some v → ∃ p, ks[i]? = some p ∧ v = .ref p.1 := by
    intro i v hv
    have q : xs.toList[i]? = some v := by rw [Array.getElem?_toList, hv]
    rw [whole, List.getElem?_map] at q
    obtain ⟨p, h1, h2⟩ := Option.map_eq_some_iff.mp q
    exact ⟨p, h1, h2.symm⟩
  have fresh : ∀ b ∈ [s.heap.objs.size], m0.get? b = none := by
    intro b hb
    cases e : m0.get? b with
    | none => rfl
    | some o => exact absurd (Heap.lt_size (up b o e)) (by rw [List.mem_singleton.mp hb]; exact Nat.lt_irrefl _)
  have W := (Walks.list (prog := P) (w := w) (A := A.in1) (by simpa using calm) s.heap.objs.size l offI xs).toS
  have T0 : SetTR P w (s.heap.push { cls := .type "list_iterator", data := .fields #[.ref l, .int 0 0] }) S [] #[] 0 (.fresh 0 0 (!w.params.followText "set-order")) := setTR_fresh (Heap.get?_push_of_some _ at0)
  refine fillT W offS long few each tups s0 fresh room xs.size 0 _ [] #[] 0 _ (by omega) (Nat.zero_le _) ⟨⟨_, Heap.get?_push_size _ rfl, rfl, rfl⟩, atl.push _⟩ (fun b o e => Heap.get?_push_of_some _ (up b o e)) T0 (Got.zero ks) fun t L es ep tb mv T g => ?_
  refine wpAny_pure (wpAny_pure ⟨rfl, t.heap, t.toks, L, es, ep, tb, ?_, T, long ▸ g, fun b o nb e => ?_⟩)
  · have g : t.gens = s.gens := mv.gens
    have d : t.drawn = s.drawn := mv.drawn
    have o : t.os = s.os := mv.os
    rw [← g, ← d, ← o]
  · refine mv.heap b o (fun z => ?_) (Heap.get?_push_of_some _ e)
    rcases List.mem_cons.mp z with q | z
    · exact nb q
    · exact absurd (List.mem_singleton.mp z) (Nat.ne_of_lt (Heap.lt_size e))
/-- set(xs) -/
theorem call_setOf_tups {s : Shared} {l : Addr} {xs : Array Value} {ks : List (Addr × List Int)} {Q : Value → Shared → Prop} (calm : A.handled = none) (atl : s.heap.IsList l xs) (whole : xs.toList = ks.map fun p => Value.ref p.1)
    (tups : ∀ p ∈ ks, IsT P w s.heap p.2 p.1) (few : FewT ks) (room : A.units + 3 < cLine) (q : ∀ t, FilT P w ks s.heap.objs.size s t → Q (.ref s.heap.objs.size) t) : wpAny (model P w) A (call (.type "set") [.ref l]) Q E s := by
  have ⟨c, tl, mro⟩ := F.called_set.mro
  have made := F.called_set.made
  have same := F.called_set.sub
  have plainT := F.called_set.notType
  have can := F.called_set.canCreate
  have args := F.typeCall_set_1 (.ref l)
  refine wpAny_call (codeAny_of_tree (wpAny_pure ⟨Code.quiet_builtin _ (by decide +kernel), codeAny_builtin F.entry_type_call ?_⟩))
  (rw [Around.under_plain (weight_type_call_type "set" [.ref l] []) rfl])
  repeat (any_goals (first | wp_step | assumption))
  refine codeAny_mono (code_set_led1 (.ref l) (Q₁ := fun v t => v = .ref s.heap.objs.size ∧ t = { s with heap := s.heap.push (nilSet w) }) (E := E) ⟨rfl, rfl⟩) fun r t hr => ?_
  rcases r with e | (v | _ | _ | _)
  case error => exact hr
  case ok.ret =>
    rcases hr with ⟨rfl, rfl⟩
    have at0 : (s.heap.push (nilSet w)).get? s.heap.objs.size = some (nilSet w) := Heap.get?_push_size _ rfl
    have isS : Shared.TypeIs { s with heap := s.heap.push (nilSet w) } (.ref s.heap.objs.size) "set" := ⟨_, at0, rfl⟩
    have look := F.called_set.init.lookup
    have bind := F.called_set.init.bind (.ref s.heap.objs.size)
    have apart : l ≠ s.heap.objs.size := by
      have ⟨o, z, _⟩ := atl
      exact Nat.ne_of_lt (Heap.lt_size z)
    have s0 : s.heap.get? s.heap.objs.size = none := by
      match e : s.heap.get? s.heap.objs.size with
      | none => rfl
      | some o => (exact absurd (Heap.lt_size e) (Nat.lt_irrefl _))
    repeat (any_goals (first | wp_step | assumption))
    refine codeAny_mono (codeAny_call_builtin (R := fun r t => r = .ok (.ret .none) ∧ FilT P w ks s.heap.objs.size { s with heap := s.heap.push (nilSet w) } t)
      F.called_set.init.plain F.entry_set_init (check_set_init_1 isS (setInit_tups (m0 := s.heap) (by simpa using calm) at0 (atl.push _) apart whole tups s0 (fun b o e => Heap.get?_push_of_some _ e) few (by show A.units + 1 + 1 + 1 < cLine; omega)))) fun r t hr => ?_
    rcases hr with ⟨rfl, m, k, L, es, ep, tb, rfl, T, g, keep⟩
    repeat (any_goals (first | wp_step | assumption))
    exact q _ ⟨m, k, L, es, ep, tb, rfl, T, g, fun b o nb e => keep b o nb (Heap.get?_push_of_some _ e)⟩
  all_goals exact hr.elim
end
/-! ### its members in order -/
theorem nodup_le {α : Type} : ∀ (l D : List α), l.Nodup → (∀ x ∈ l, x ∈ D) → l.length ≤ D.length
  | [], _, _, _ => by simp
  | x :: l, D, h, s => by
    obtain ⟨D1, D2, rfl⟩ := List.append_of_mem (s x List.mem_cons_self)
    have h' := (List.nodup_cons.mp h)
    have := nodup_le l (D1 ++ D2) h'.2 fun y hy => by
      rcases List.mem_append.mp (s y (List.mem_cons_of_mem _ hy)) with q | q
      · exact List.mem_append_left _ q
      · (rcases List.mem_cons.mp q with q | q)
        · subst q; exact absurd hy h'.1
        · exact List.mem_append_right _ q
    simp only [List.length_cons, List.length_append] at this ⊢
    omega
def putL (x : List Int) : List (List Int) → List (List Int)
  | [] => [x]
  | y :: ys => if x ≤ y then x :: y :: ys else y :: putL x ys
def dstL : List (List Int) → List (List Int)
  | [] => []
  | x :: xs => if x ∈ xs then dstL xs else putL x (dstL xs)
theorem mem_putL {x y : List Int} : ∀ {xs : List (List Int)}, y ∈ putL x xs ↔ y = x ∨ y ∈ xs
  | [] => by simp [putL]
  | z :: zs => by
    unfold putL
    by_cases c : x ≤ z
    · rw [if_pos c, List.mem_cons]
    · rw [if_neg c, List.mem_cons, mem_putL, List.mem_cons]
      constructor
      · rintro (h | h | h)
        · exact .inr (.inl h)
        · exact .inl h
        · exact .inr (.inr h)
      · rintro (h | h | h)
        · exact .inr (.inl h)
        · exact .inl h
        · exact .inr (.inr h)
theorem mem_dstL {y : List Int} : ∀ {xs : List (List Int)}, y ∈ dstL xs ↔ y ∈ xs
  | [] => Iff.rfl
  | x :: xs => by
    unfold dstL
    by_cases h : x ∈ xs
    · rw [if_pos h, mem_dstL, List.mem_cons]
      exact ⟨.inr, fun q => q.elim (fun e => e ▸ h) id⟩
    · rw [if_neg h, mem_putL, mem_dstL, List.mem_cons]
theorem ll_lt_of {x y : List Int} (h : x ≤ y) (ne : x ≠ y) : x < y := by
  rcases Classical.em (x < y) with c | c
  · exact c
  · exact absurd (List.le_antisymm h (List.not_lt.mp c)) ne
theorem putL_asc {x : List Int} : ∀ {ys : List (List Int)}, x ∉ ys → ys.Pairwise (· < ·) → (putL x ys).Pairwise (· < ·)
  | [], _, _ => by simp [putL]
  | y :: ys, h, q => by
    have h1 := List.pairwise_cons.mp q
    have ne : x ≠ y := fun e => h (e ▸ List.mem_cons_self)
    unfold putL
    by_cases c : x ≤ y
    · rw [if_pos c]
      refine List.pairwise_cons.mpr ⟨fun z hz => ?_, q⟩
      rcases List.mem_cons.mp hz with e | m
      · rw [e]; exact ll_lt_of c ne
      · exact List.lt_trans (ll_lt_of c ne) (h1.1 z m)
    · rw [if_neg c]
      refine List.pairwise_cons.mpr ⟨fun z hz => ?_, putL_asc (fun z => h (List.mem_cons_of_mem _ z)) h1.2⟩
      rcases mem_putL.mp hz with e | m
      · rw [e]; exact Classical.byContradiction fun z => c (List.not_lt.mp z)
      · exact h1.1 z m
theorem dstL_asc : ∀ (xs : List (List Int)), (dstL xs).Pairwise (· < ·)
  | [] => .nil
  | x :: xs => by
    unfold dstL
    by_cases h : x ∈ xs
    · rw [if_pos h]
      exact dstL_asc xs
    · rw [if_neg h]
      exact putL_asc (fun z => h (mem_dstL.mp z)) (dstL_asc xs)
theorem asc_sameL : ∀ {xs ys : List (List Int)}, xs.Pairwise (· < ·) → ys.Pairwise (· < ·) → (∀ k, k ∈ xs ↔ k ∈ ys) → xs = ys
  | [], [], _, _, _ => rfl
  | [], y :: ys, _, _, h => absurd ((h y).mpr List.mem_cons_self) (by simp)
  | x :: xs, [], _, _, h => absurd ((h x).mp List.mem_cons_self) (by simp)
  | x :: xs, y :: ys, hx, hy, h => by
    have h1 := List.pairwise_cons.mp hx
    have h2 := List.pairwise_cons.mp hy
    have e : x = y := by
      rcases List.mem_cons.mp ((h x).mp List.mem_cons_self) with e | m
      · exact e
      · rcases List.mem_cons.mp ((h y).mpr List.mem_cons_self) with e | m'
        · exact e.symm
        · exact absurd (List.lt_trans (h2.1 x m) (h1.1 y m')) (List.lt_irrefl _)
    subst e
    rw [asc_sameL h1.2 h2.2 fun k => ⟨fun m => ?_, fun m => ?_⟩]
    · rcases List.mem_cons.mp ((h k).mp (List.mem_cons_of_mem _ m)) with e | m'
      · subst e; exact absurd (h1.1 _ m) (List.lt_irrefl _)
      · exact m'
    · rcases List.mem_cons.mp ((h k).mpr (List.mem_cons_of_mem _ m)) with e | m'
      · subst e; exact absurd (h2.1 _ m) (List.lt_irrefl _)
      · exact m'
theorem code_iff {B : Int} : ∀ {xs ys : List Int}, xs.length = ys.length → TS.Bd B xs → TS.Bd B ys → (TS.code B xs < TS.code B ys ↔ xs < ys)
  | [], [], _, _, _ => by
    constructor
    · intro h; exact absurd h (Int.lt_irrefl _)
    · intro h; exact absurd h (List.lt_irrefl _)
  | [], _ :: _, h, _, _ => absurd h (by simp)
  | _ :: _, [], h, _, _ => absurd h (by simp)
  | x :: xs, y :: ys, h, hx, hy => by
    have hl : xs.length = ys.length := by simpa using h
    rw [List.cons_lt_cons_iff]
    rcases Int.lt_trichotomy x y with c | c | c
    · exact ⟨fun _ => .inl c, fun _ => TS.code_lt hl hx.tail hy.tail c⟩
    · subst c
      rw [TS.code_same hl, code_iff hl hx.tail hy.tail]
      constructor
      · exact fun q => .inr ⟨rfl, q⟩
      · rintro (q | ⟨_, q⟩)
        · exact absurd q (Int.lt_irrefl _)
        · exact q
    · have := TS.code_lt (d := y) (e := x) hl.symm hy.tail hx.tail c
      constructor
      · intro q; exact absurd (Int.lt_trans this q) (Int.lt_irrefl _)
      · rintro (q | ⟨q, _⟩) <;> omega
/-! ### sorted(set(xs)) and len(set(xs)), xs a list of tuples of ints -/
def tupI (xs : List Int) : PD := .tuple (xs.map PyData.int)
def tups? : List PD → Option (List (List Int))
  | [] => some []
  | .tuple ds :: r => match ints? ds, tups? r with
    | some ns, some xss => some (ns :: xss)
    | _, _ => none
  | _ :: _ => none
theorem tups?_map : ∀ xss : List (List Int), tups? (xss.map tupI) = some xss
  | [] => rfl
  | x :: xss => by
    rw [List.map_cons]
    unfold tupI tups?
    rw [ints?_map]
    have := tups?_map xss
    unfold tupI at this
    rw [this]
theorem tups?_eq : ∀ {ds : List PD} {xss : List (List Int)}, tups? ds = some xss → ds = xss.map tupI
  | [], xss, h => by cases h; rfl
  | d :: r, xss, h => by
    cases d with
    | tuple es =>
      unfold tups? at h
      split at h
      · rename_i ns yss h1 h2
        cases h
        rw [List.map_cons, ← tups?_eq h2, ints?_eq h1]
        rfl
      · cases h
    | _ => cases h
theorem tups_rp {K : PySem.W.Frag} {F : Hp} : ∀ {vs : List V} {xss : List (List Int)}, RpAll K F vs (xss.map tupI) → ∃ ks : List (Addr × List Int), vs = (ks.map fun p => V.ref p.1) ∧ ks.map (·.2) = xss ∧ ∀ p ∈ ks, F p.1 = some (.tup (p.2.map V.int))
  | _, [], h => by cases h; exact ⟨[], rfl, rfl, fun p hp => by cases hp⟩
  | _, x :: xss, h => by
    cases h with
    | cons a t =>
      obtain ⟨ks, h1, h2, h3⟩ := tups_rp t
      unfold tupI at a
      cases a with
      | tup g1 g2 =>
        rename_i b us
        have e := g2.ints
        subst e
        refine ⟨(b, x) :: ks, by rw [h1]; rfl, by rw [← h2]; rfl, fun p hp => ?_⟩
        rcases List.mem_cons.mp hp with q | q
        · rw [q]; exact g1
        · exact h3 p q
theorem tups_of {K : PySem.W.Frag} {F : Hp} : ∀ (ks : List (Addr × List Int)), (∀ p ∈ ks, F p.1 = some (.tup (p.2.map V.int))) → RpAll K F (ks.map fun p => V.ref p.1) ((ks.map (·.2)).map tupI)
  | [], _ => .nil
  | p :: ks, h => .cons (.tup (h p List.mem_cons_self) (RpAll.ofInts _)) (tups_of ks fun q hq => h q (List.mem_cons_of_mem _ hq))
def rSetU (K : PySem.W.Frag) (P : Program) (w : World) : List V → Hp → VK → Prop := fun vs H Q => ∃ (l : Addr) (ks : List (Addr × List Int)), vs = [V.ref l] ∧ H l = some (.lst (ks.map fun p => V.ref p.1)) ∧ (∀ p ∈ ks, H p.1 = some (.tup (p.2.map V.int))) ∧ FewT ks ∧
  ∀ a L, H a = none → (∀ p ∈ L, p ∈ ks) → (∀ p ∈ ks, p.2 ∈ L.map (·.2)) → (L.map (·.2)).Nodup → Q (.ref a) (upd H a (SetTO P w a L))
section
variable {X : Cx} {S : Sx} {k : Nat}
theorem cr_setU (calm : X.calm = true) (un : X.A.units + 64 < cLine) : CallR X (.type "set") (rSetU X.K X.prog X.w) := by
  intro pins s σ H vs us Q I rel law
  obtain ⟨l, ks, rfl, at0, tup, few, q⟩ := law
  rw [Vals.ref1 rel]
  have ⟨_, its, c, hv, hg⟩ := I.hok l _ at0
  refine call_setOf_tups (ks := ks) (I.ok.hd calm) ⟨_, hg, rfl, c, rfl⟩ (by simpa using refs_of_vals hv) (fun p hp => I.isT (.inl (.inl (tup p hp)))) few (by omega) fun t ht => ?_
  rcases ht with ⟨m, tk, L, es, ep, tb, rfl, T, g, keep⟩
  refine ⟨.ref _, _, I.laid (t' := tk) (fun b u e => keep b u (Nat.ne_of_lt (Heap.lt_size e)) e) (Nat.le_refl _) (setTO_new T.t0), rfl, q _ L (I.hok.fresh (Nat.le_refl _)) (fun p hp => List.mem_of_mem_take (g.sub p hp)) (fun p hp => g.all p (by rw [List.take_length]; exact hp)) T.nd⟩
/-- what can be put in order: as many numbers each, from 0 to 2 ** 70, at most 62 unlike ones -/
def okSrt (xss : List (List Int)) : Bool := (match xss with
  | [] => true
  | x :: _ => decide (1 ≤ x.length) && xss.all fun y => decide (y.length = x.length)) && (xss.all fun y => y.all fun n => decide (0 ≤ n) && decide (n < 2 ^ 70)) && decide ((dstL xss).length < 63)
theorem okSrt.inv {xss : List (List Int)} (h : okSrt xss = true) : ∃ d, 1 ≤ d ∧ (∀ x ∈ xss, x.length = d ∧ TS.Bd (2 ^ 70) x) ∧ (dstL xss).length < 63 := by
  unfold okSrt at h
  (simp only [Bool.and_eq_true, List.all_eq_true, decide_eq_true_eq] at h)
  obtain ⟨⟨h1, h2⟩, h3⟩ := h
  cases xss with
  | nil => exact ⟨1, by omega, (fun x hx => by cases hx), h3⟩
  | cons x xss =>
    simp only [Bool.and_eq_true, List.all_eq_true, decide_eq_true_eq] at h1
    exact ⟨x.length, h1.1, fun y hy => ⟨h1.2 y hy, fun n hn => h2 y hy n hn⟩, h3⟩
def gSrtT : List PD → Option Rv
  | [.list ds] => match tups? ds with
    | some xss => if okSrt xss = true then some (.ow ((dstL xss).map tupI)) else none
    | none => none
  | _ => none
theorem few_dst {ks : List (Addr × List Int)} (h : (dstL (ks.map (·.2))).length < 63) : FewT ks := fun L nd sub => by
  have := nodup_le (L.map (·.2)) (dstL (ks.map (·.2))) nd fun x hx => by
    obtain ⟨p, hp, rfl⟩ := List.mem_map.mp hx
    exact mem_dstL.mpr (List.mem_map.mpr ⟨p, sub p hp, rfl⟩)
  rw [List.length_map] at this
  omega
theorem sim_srtT : SimC X S (fun vs H Q => rSetU S.K X.prog X.w vs H fun x H1 => rSortedT S.K X.prog X.w [x] H1 Q) gSrtT := by
  intro F ρ σ H vs ds z Q R hv hz q
  unfold gSrtT at hz
  split at hz
  · rename_i ds'
    split at hz
    · rename_i xss c
      split at hz
      · rename_i ok
        cases hz
        obtain rfl := tups?_eq c
        obtain ⟨d, d1, bd, few⟩ := okSrt.inv ok
        obtain ⟨v, rfl, hd⟩ := hv.one
        cases hd with
        | lst h1 h2 =>
          obtain ⟨ks, rfl, rfl, ht⟩ := tups_rp h2
          refine ⟨_, ks, rfl, R.ex _ _ h1, fun p hp => R.ex _ _ (ht p hp), few_dst few, fun a L ha sub all nd => ?_⟩
          obtain ⟨e1, R1⟩ := R.junk (SetTO X.prog X.w a L) ha
          have bdL : ∀ p ∈ L, p.2.length = d ∧ TS.Bd (2 ^ 70) p.2 := fun p hp => bd _ (List.mem_map.mpr ⟨p, sub p hp, rfl⟩)
          refine ⟨a, L, d, 2 ^ 70, rfl, upd_same, fun p hp => .inl (.inl (R1.ex _ _ (ht p (sub p hp)))), d1, bdL, fun L' p pm nd' _ pw hp => ?_⟩
          have asc : (L'.map (·.2)).Pairwise (· < ·) := by
            have nd2 : L'.Pairwise fun q r => q.2 ≠ r.2 := List.pairwise_map.mp nd'
            refine List.pairwise_map.mpr ((List.Pairwise.and pw nd2).imp_of_mem fun {q r} hq hr h => ?_)
            have bq := bdL q (pm.mem_iff.mp hq)
            have br := bdL r (pm.mem_iff.mp hr)
            refine ll_lt_of (List.not_lt.mp fun z => ?_) h.2
            have := (code_iff (br.1.trans bq.1.symm) br.2 bq.2).mpr z
            have := h.1
            omega
          have e : L'.map (·.2) = dstL (ks.map (·.2)) := asc_sameL asc (dstL_asc _) fun x => by
            rw [mem_dstL]
            constructor
            · intro hx
              obtain ⟨q, hq, rfl⟩ := List.mem_map.mp hx
              exact List.mem_map.mpr ⟨q, sub q (pm.mem_iff.mp hq), rfl⟩
            · intro hx
              obtain ⟨q, hq, rfl⟩ := List.mem_map.mp hx
              exact ((pm.map (·.2)).mem_iff).mpr (all q hq)
          refine R1.newL hp ?_ fun F' H' v e2 R2 r2 => q F' H' v (e1.trans e2) R2 (r2.mono e1)
          rw [← e]
          exact tups_of L' fun q hq => ht q (sub q (pm.mem_iff.mp hq))
      · cases hz
    · cases hz
  · cases hz
variable {e : Expr} {p p' pos pos' : Pos}
theorem xe_srtT (o : Okx X S k) {m : Rho → Rz (List PD)} (hm : S.mg "sorted" = none) (hm' : S.mg "set" = none) (ha : XA X S [e] m) (hg : Gl X "sorted" := by rfl) (hg' : Gl X "set" := by rfl)
    (he : starEach [e] X.env = [(false, eval e X.env)] := by rfl) : XE X S (.Call (.Name "sorted" p) [.Call (.Name "set" p') [e] [] pos'] [] pos) (mCB gSrtT m) :=
  PE.imp (pe_callB (cr_sortedT o.calm) hg (o.hM ▸ hm) (by decide +kernel) (pa_cons (pe_callTy (cr_setU o.calm o.un) hg' (o.hM ▸ hm') (by decide +kernel) ha (by decide) (by decide) he (by rfl)) pa_nil) (by decide) (by decide) (by rfl) (by rfl))
    fun σ H Q q => by
      have z := sim_cb (sim_srtT (X := X) (S := S)) q
      rw [o.hK] at z
      exact z
/-! ### len(set(xs)) -/
def rLenT (K : PySem.W.Frag) (P : Program) (w : World) : List V → Hp → VK → Prop := fun vs H Q => ∃ (a : Addr) (L : List (Addr × List Int)), vs = [V.ref a] ∧ H a = some (SetTO P w a L) ∧ (∀ p ∈ L, SqT K H p.1 (p.2.map V.int)) ∧ Q (.int L.length) H
theorem cr_lenT : CallR X (.builtin "len") (rLenT X.K X.prog X.w) := by
  intro pins s σ H vs us Q I rel law
  obtain ⟨a, L, rfl, at0, tup, q⟩ := law
  rw [Vals.ref1 rel]
  have T0 : SetT0 X.prog X.w s.heap a L := (I.hok a _ at0).1
  obtain ⟨es, ep, t, T⟩ := T0.full fun p hp => I.isT (tup p hp)
  obtain ⟨o, ho, hex, hd⟩ := T.ob
  have sz : es.size = L.length := T.size
  have few := T.few
  refine call_len_set ho hex hd T.fits (by omega) ⟨.int L.length, H, I.tok _, ⟨_, by rw [sz]⟩, q⟩
def gLenT : List PD → Option PD
  | [.list ds] => match tups? ds with
    | some xss => if (dstL xss).length < 63 then some (.int (dstL xss).length) else none
    | none => none
  | _ => none
theorem sim_lenT : SimC X S (fun vs H Q => rSetU S.K X.prog X.w vs H fun x H1 => rLenT S.K X.prog X.w [x] H1 Q) fun ds => (gLenT ds).map .fr := by
  intro F ρ σ H vs ds z Q R hv hz q
  have hz : (gLenT ds).map Rv.fr = some z := hz
  unfold gLenT at hz
  split at hz
  · rename_i ds'
    split at hz
    · rename_i xss c
      split at hz
      · rename_i few
        cases hz
        obtain rfl := tups?_eq c
        obtain ⟨v, rfl, hd⟩ := hv.one
        cases hd with
        | lst h1 h2 =>
          obtain ⟨ks, rfl, rfl, ht⟩ := tups_rp h2
          refine ⟨_, ks, rfl, R.ex _ _ h1, fun p hp => R.ex _ _ (ht p hp), few_dst few, fun a L ha sub all nd => ?_⟩
          obtain ⟨e1, R1⟩ := R.junk (SetTO X.prog X.w a L) ha
          refine ⟨a, L, rfl, upd_same, fun p hp => .inl (.inl (R1.ex _ _ (ht p (sub p hp)))), ?_⟩
          have le1 := nodup_le (L.map (·.2)) (dstL (ks.map (·.2))) nd fun x hx => by
            obtain ⟨p, hp, rfl⟩ := List.mem_map.mp hx
            exact mem_dstL.mpr (List.mem_map.mpr ⟨p, sub p hp, rfl⟩)
          have nd2 : (dstL (ks.map (·.2))).Nodup := (dstL_asc _).imp fun {a b} h e => absurd (e ▸ h) (List.lt_irrefl _)
          have le2 := nodup_le (dstL (ks.map (·.2))) (L.map (·.2)) nd2 fun x hx => by
            obtain ⟨p, hp, rfl⟩ := List.mem_map.mp (mem_dstL.mp hx)
            exact all p hp
          rw [List.length_map] at le1 le2
          have e : L.length = (dstL (ks.map (·.2))).length := by omega
          rw [e]
          exact q F _ _ e1 R1 (.int _)
      · cases hz
    · cases hz
  · cases hz
theorem xe_lenT (o : Okx X S k) {m : Rho → Rz (List PD)} (hm : S.mg "len" = none) (hm' : S.mg "set" = none) (ha : XA X S [e] m) (hg : Gl X "len" := by rfl) (hg' : Gl X "set" := by rfl)
    (he : starEach [e] X.env = [(false, eval e X.env)] := by rfl) : XE X S (.Call (.Name "len" p) [.Call (.Name "set" p') [e] [] pos'] [] pos) (mCB (fun ds => (gLenT ds).map .fr) m) :=
  PE.imp (pe_callB cr_lenT hg (o.hM ▸ hm) (by decide +kernel) (pa_cons (pe_callTy (cr_setU o.calm o.un) hg' (o.hM ▸ hm') (by decide +kernel) ha (by decide) (by decide) he (by rfl)) pa_nil) (by decide) (by decide) (by rfl) (by rfl))
    fun σ H Q q => by
      have z := sim_cb (sim_lenT (X := X) (S := S)) q
      rw [o.hK] at z
      exact z
end
abbrev cLenT : List PD → Option Rv := fun ds => (gLenT ds).map .fr
@[simp] theorem gSrtT_tups {xss : List (List Int)} (h : okSrt xss = true) : gSrtT [.list (xss.map tupI)] = some (.ow ((dstL xss).map tupI)) := by
  unfold gSrtT
  simp [tups?_map, h]
@[simp] theorem gLenT_tups {xss : List (List Int)} (h : (dstL xss).length < 63) : gLenT [.list (xss.map tupI)] = some (.int (dstL xss).length) := by
  unfold gLenT
  simp [tups?_map, h]
end Sd
namespace Sd
open PySem L2 PySem.Spec PyProof.Rows PyProof
open PySem.W (EachIs dataLe sorted_data AllAlike Sortable)
/-! ### sorted(xs), xs a list of lists of ints -/
def lstI (xs : List Int) : PD := .list (xs.map PyData.int)
def lists? : List PD → Option (List (List Int))
  | [] => some []
  | .list ds :: r => match ints? ds, lists? r with
    | some ns, some xss => some (ns :: xss)
    | _, _ => none
  | _ :: _ => none
theorem lists?_map : ∀ xss : List (List Int), lists? (xss.map lstI) = some xss
  | [] => rfl
  | x :: xss => by
    rw [List.map_cons]
    unfold lstI lists?
    rw [ints?_map]
    have := lists?_map xss
    unfold lstI at this
    rw [this]
theorem lists?_eq : ∀ {ds : List PD} {xss : List (List Int)}, lists? ds = some xss → ds = xss.map lstI
  | [], xss, h => by cases h; rfl
  | d :: r, xss, h => by
    cases d with
    | list es =>
      unfold lists? at h
      split at h
      · rename_i ns yss h1 h2
        cases h
        rw [List.map_cons, ← lists?_eq h2, ints?_eq h1]
        rfl
      · cases h
    | _ => cases h
theorem lists_rp {K : PySem.W.Frag} {F : Hp} : ∀ {vs : List V} {xss : List (List Int)}, RpAll K F vs (xss.map lstI) → ∃ bs : List (V × List Int), vs = bs.map (·.1) ∧ bs.map (·.2) = xss ∧ ∀ b ∈ bs, Rp K F b.1 (lstI b.2)
  | _, [], h => by cases h; exact ⟨[], rfl, rfl, fun p hp => by cases hp⟩
  | _, x :: xss, h => by
    cases h with
    | cons a t =>
      obtain ⟨bs, h1, h2, h3⟩ := lists_rp t
      refine ⟨(_, x) :: bs, by rw [h1]; rfl, by rw [← h2]; rfl, fun p hp => ?_⟩
      rcases List.mem_cons.mp hp with q | q
      · rw [q]; exact a
      · exact h3 p q
theorem lists_of {K : PySem.W.Frag} {F : Hp} : ∀ (bs : List (V × List Int)), (∀ b ∈ bs, Rp K F b.1 (lstI b.2)) → RpAll K F (bs.map (·.1)) ((bs.map (·.2)).map lstI)
  | [], _ => .nil
  | p :: ks, h => .cons (h p List.mem_cons_self) (lists_of ks fun q hq => h q (List.mem_cons_of_mem _ hq))
abbrev encB : V × List Int → PD := fun b => lstI b.2
def rSrtLL (K : PySem.W.Frag) : List V → Hp → VK → Prop := fun vs H Q => ∃ (a : Addr) (bs : List (V × List Int)), vs = [V.ref a] ∧ H a = some (.lst (bs.map (·.1))) ∧ (∀ b ∈ bs, Rp K H b.1 (lstI b.2)) ∧ bs.length ≤ 100000 ∧
  ∀ p, H p = none → Q (.ref p) (upd H p (.lst ((bs.mergeSort (dataLe false encB)).map (·.1))))
theorem eachVals {bs : List (V × List Int)} : ∀ {us : List Value}, Vals (bs.map (·.1)) us → EachIs (fun v (b : V × List Int) => RelV b.1 v) us bs := by
  induction bs with
  | nil => intro us h; cases h; exact .nil
  | cons b bs ih =>
    intro us h
    cases h with
    | cons r t => exact .cons r (ih t)
theorem valsEach {bs : List (V × List Int)} : ∀ {us : List Value}, EachIs (fun v (b : V × List Int) => RelV b.1 v) us bs → Vals (bs.map (·.1)) us := by
  induction bs with
  | nil => intro us h; cases h; exact .nil
  | cons b bs ih =>
    intro us h
    cases h with
    | cons r t => exact .cons r (ih t)
section
variable {X : Cx} {S : Sx} {k : Nat}
theorem cr_srtLL (o : Okx X S k) : CallR X (.builtin "sorted") (rSrtLL X.K) := by
  intro pins s σ H vs us Q I rel law
  obtain ⟨a, bs, rfl, at0, rd, few, q⟩ := law
  rw [Vals.ref1 rel]
  have hu := o.rm.units
  have ⟨_, its, c, hv, hg⟩ := I.hok a _ at0
  have at1 : s.heap.IsList a its.toArray := ⟨_, hg, rfl, c, rfl⟩
  have hds : RpAll X.K H (bs.map (·.1)) (bs.map encB) := by
    have := lists_of bs rd
    rwa [List.map_map] at this
  have nd : ∀ cs : List (V × List Int), PyData.hasDictAll (cs.map encB) = false := fun cs => by
    induction cs with
    | nil => rfl
    | cons b cs ih => simp [PyData.hasDictAll, PyData.hasDict, lstI, hasDict_ints, ih]
  obtain ⟨as, hr⟩ := rpa_reads I (bs.map encB) _ its (nd bs) hds hv
  have e1 := eachVals hv
  have len : its.length = bs.length := by rw [← hv.length, List.length_map]
  refine sorted_data (enc := encB) (R := fun v b => RelV b.1 v) at1 e1 (PySem.W.readsAll_each encB hr) (AllAlike.of fun b b' => ?_) (Sortable.others fun b => ⟨fun z => (by cases z), fun xs z => (by cases z)⟩) (by rw [sizeLine_eq]; omega) (fun b _ => ?_) fun out ol eo => ?_
  · simp [encB, lstI, PySem.W.alike, PySem.W.alike_ints]
  · have : (encB b).depth = 1 := by simp [encB, lstI, PyData.depth, PySem.W.depth_ints]
    rw [this]
    omega
  · obtain ⟨c2, at2⟩ := sortedAll_at s.heap its out.toArray
    have hv2 := valsEach eo
    have ln : ((bs.mergeSort (dataLe false encB)).map (·.1)).length ≤ sizeLine := by rw [List.length_map, List.length_mergeSort, sizeLine_eq]; omega
    refine ⟨.ref (s.heap.objs.size + 1), upd H (s.heap.objs.size + 1) (.lst ((bs.mergeSort (dataLe false encB)).map (·.1))), I.laid (t' := s.toks) (fun _ _ => sortedAll_old) (Nat.le_succ _) ⟨ln, out, c2, hv2, at2⟩, rfl, q _ (I.hok.fresh (Nat.le_succ _))⟩
def leL (x y : List Int) : Bool := !decide (y < x)
def srtLL (xss : List (List Int)) : List (List Int) := xss.mergeSort leL
def gSrtLL : List PD → Option Rv
  | [.list ds] => match lists? ds with
    | some xss => if xss.length ≤ 100000 then some (.ow ((srtLL xss).map lstI)) else none
    | none => none
  | _ => none
theorem sim_srtLL : SimC X S (rSrtLL S.K) gSrtLL := by
  intro F ρ σ H vs ds z Q R hv hz q
  unfold gSrtLL at hz
  split at hz
  · rename_i ds'
    split at hz
    · rename_i xss c
      split at hz
      · rename_i few
        cases hz
        obtain rfl := lists?_eq c
        obtain ⟨v, rfl, hd⟩ := hv.one
        cases hd with
        | lst h1 h2 =>
          obtain ⟨bs, rfl, rfl, ht⟩ := lists_rp h2
          rw [List.length_map] at few
          refine ⟨_, bs, rfl, R.ex _ _ h1, fun b hb => rp_mono R.ex _ _ (ht b hb), few, fun p hp => ?_⟩
          have e : (bs.mergeSort (dataLe false encB)).map (·.2) = srtLL (bs.map (·.2)) := List.map_mergeSort fun a _ b _ => by
            show (!PySem.W.dataLt (encB b) (encB a)) = leL a.2 b.2
            unfold leL encB lstI
            rw [dLt_ints]
          refine R.newL hp ?_ q
          rw [← e]
          exact lists_of _ fun b hb => ht b ((List.mergeSort_perm bs _).mem_iff.mp hb)
      · cases hz
    · cases hz
  · cases hz
variable {e : Expr} {p pos : Pos}
theorem xe_srtLL (o : Okx X S k) {m : Rho → Rz (List PD)} (hm : S.mg "sorted" = none) (ha : XA X S [e] m) (hg : Gl X "sorted" := by rfl) (he : starEach [e] X.env = [(false, eval e X.env)] := by rfl) : XE X S (.Call (.Name "sorted" p) [e] [] pos) (mCB gSrtLL m) :=
  xe_cb o (cr_srtLL o) (o.hK ▸ sim_srtLL) hm ha hg (by decide +kernel) (by decide) (by decide) he (by rfl)
end
@[simp] theorem gSrtLL_lists {xss : List (List Int)} (h : xss.length ≤ 100000) : gSrtLL [.list (xss.map lstI)] = some (.ow ((srtLL xss).map lstI)) := by
  unfold gSrtLL
  simp [lists?_map, h]
end Sd
namespace Sd
open PySem L2 PySem.Spec PyProof.Rows
/-! ### told = CALL, a list of lists all of which are one's own; told[0].append(None); told.append(None) -/
structure TollF (S : Sx) (i : Nat) (F0 : Hp) (ρ0 : Rho) (σ0 : L2.St) (H0 F : Hp) (ρ : Rho) (σ : L2.St) (H : Hp) (q : Addr) (us : List V) (dss : List (List PD)) : Prop where
  R : Rs S F ρ σ H
  e : Ext (Own ρ0 σ0) F0 H0 (Own ρ σ) F H
  at_ : σ[i]? = some (some (.ref q))
  no_ : ρ[i]? = some .no
  hq : H q = some (.lst us)
  fq : F q = none
  nq : ¬ Own ρ σ q
  bq : H0 q = none ∨ Own ρ0 σ0 q
  vs_ : NestV S (Own ρ0 σ0) H0 (Own ρ σ) F H us dss
  ne : ∀ v ∈ us, v ≠ .ref q
section
variable {S : Sx} {i : Nat} {F0 : Hp} {ρ0 : Rho} {σ0 : L2.St} {H0 F : Hp} {ρ : Rho} {σ : L2.St} {H : Hp} {q : Addr} {us : List V} {dss : List (List PD)}
theorem TollF.len (W : TollF S i F0 ρ0 σ0 H0 F ρ σ H q us dss) : i < ρ.length := by
  have := W.no_
  by_cases h : i < ρ.length
  · exact h
  · rw [List.getElem?_eq_none (by omega)] at this; cases this
/-- all of it is frozen for a while: what is known behind it, and how one goes back -/
theorem TollF.look (W : TollF S i F0 ρ0 σ0 H0 F ρ σ H q us dss) (hJ : i ∉ S.J) :
    ∃ Fz, Rs S Fz (ρ.set i (.fr (.list (dss.map PyData.list)))) σ H ∧ Ext (Own ρ0 σ0) F0 H0 (Own (ρ.set i (.fr (.list (dss.map PyData.list)))) σ) Fz H ∧
      ∀ F3 ρ3 H3, Ext (Own (ρ.set i (.fr (.list (dss.map PyData.list)))) σ) Fz H (Own ρ3 σ) F3 H3 → Rs S F3 ρ3 σ H3 → TollF S i F0 ρ0 σ0 H0 F ((joinR ρ ρ3).set i .no) σ H3 q us dss := by
  have il := W.len
  obtain ⟨Fa, ua, wa, Ra, Da⟩ := W.vs_.freeze W.R
  have qF : Fa q = none := by
    cases z : Fa q with
    | none => rfl
    | some w =>
      rcases wa q (by rw [z]; simp) with y | y
      · exact absurd W.fq y
      · exact absurd rfl (W.ne _ y)
  have upq : ∀ b w, Fa b = some w → upd Fa q (.lst us) b = some w := fun b w z => by rw [upd_ne (ne_of_none z qF)]; exact z
  have Rb : Rs S (upd Fa q (.lst us)) ρ σ H := by
    refine ⟨fun b w z => ?_, Ra.len, fun l d z => ?_, fun l d z => ?_, Ra.sep, Ra.pin, Ra.sm.up upq⟩
    · by_cases y : b = q
      · subst y; rw [upd_same] at z; cases z; exact W.hq
      · rw [upd_ne y] at z; exact Ra.ex b w z
    · obtain ⟨v, z1, z2⟩ := Ra.fr l d z
      exact ⟨v, z1, rp_mono upq _ _ z2⟩
    · obtain ⟨p, us', z1, z2, z3, z4⟩ := Ra.ow l d z
      have y : p ≠ q := fun y => W.nq ⟨l, d, z, by rw [← y]; exact z1⟩
      exact ⟨p, us', z1, by rw [upd_ne y]; exact z2, z3, rpa_mono upq _ _ z4⟩
  have Dq : Rp S.K (upd Fa q (.lst us)) (.ref q) (.list (dss.map PyData.list)) := .lst upd_same (rpa_mono upq _ _ Da)
  have eqσ : σ.set i (some (.ref q)) = σ := by
    refine List.ext_getElem? fun l => ?_
    by_cases z : i = l
    · subst z
      rw [W.at_, List.getElem?_set_self (by rw [← W.R.len]; exact il)]
    · rw [List.getElem?_set_ne z]
  obtain ⟨Rc, own2⟩ := Rb.setSlot (O0 := Own ρ σ) (H0 := H) (v := .ref q) (r := .fr (.list (dss.map PyData.list))) Dq il hJ (.inr ⟨_, rfl⟩)
  rw [eqσ] at Rc
  have own2' : ∀ b, Own (ρ.set i (.fr (.list (dss.map PyData.list)))) σ b → Own ρ σ b := fun b ⟨l, d, z1, z2⟩ => by
    by_cases y : i = l
    · subst y; rw [List.getElem?_set_self il] at z1; cases z1
    · rw [List.getElem?_set_ne y] at z1; exact ⟨l, d, z1, z2⟩
  have e2 : Ext (Own ρ0 σ0) F0 H0 (Own (ρ.set i (.fr (.list (dss.map PyData.list)))) σ) (upd Fa q (.lst us)) H := by
    refine ⟨fun b w z => upq b w (ua b w (W.e.fz b w z)), fun b z => ?_, W.e.kp, W.e.st, fun b z => W.e.ow b (own2' b z)⟩
    by_cases y : b = q
    · subst y; exact .inr W.bq
    · rw [upd_ne y] at z
      rcases wa b z with w | w
      · exact W.e.nw b w
      · exact .inr (W.vs_.mem w).2.2.2
  refine ⟨_, Rc, e2, fun F3 ρ3 H3 e3 R3 => ?_⟩
  have e23 := e2.trans e3
  have len3 : ρ.length = ρ3.length := by
    have h3 := R3.len
    have h1 := W.R.len
    omega
  have ilE : i < (joinR ρ ρ3).length := by rw [joinR_len len3]; exact il
  have at1 : ∀ {l : Nat} {c : Cl}, c ≠ .no → ((joinR ρ ρ3).set i .no)[l]? = some c → l ≠ i ∧ ∃ a b, ρ[l]? = some a ∧ ρ3[l]? = some b ∧ c = joinC a b := fun {l c} hc h => by
    have ni' : i ≠ l := fun z => by
      subst z
      rw [List.getElem?_set_self ilE] at h
      exact hc (Option.some.inj h).symm
    rw [List.getElem?_set_ne ni'] at h
    exact ⟨fun z => ni' z.symm, joinR_at h⟩
  have noE : ((joinR ρ ρ3).set i .no)[i]? = some .no := List.getElem?_set_self ilE
  have lenE : ((joinR ρ ρ3).set i .no).length = ρ.length := by rw [List.length_set, joinR_len len3]
  generalize (joinR ρ ρ3).set i .no = ρE at at1 lenE noE
  have up3 : ∀ b w, F b = some w → F3 b = some w := fun b w z => e3.fz b w (upq b w (ua b w z))
  have own3 : ∀ b, Own ρE σ b → Own ρ3 σ b := fun b ⟨l, d, h1, h2⟩ => by
    obtain ⟨_, _, b1, _, z2, z3⟩ := at1 (by intro z; cases z) h1
    obtain ⟨z4, _⟩ := joinC_ow z3.symm
    subst z4
    exact ⟨l, d, z2, h2⟩
  have nq3 : ¬ Own ρ3 σ q := fun z => by
    rcases e3.ow q z with y | y
    · exact W.nq (own2' q y)
    · rw [W.hq] at y; cases y
  refine ⟨⟨fun b w z => R3.ex b w (up3 b w z), by rw [lenE]; exact W.R.len, fun l d z => ?_, fun l d z => ?_, fun b1 b2 da db p h1 h2 h3 h4 => ?_, R3.pin, W.R.sm⟩, ⟨W.e.fz, W.e.nw, e23.kp, e23.st, fun b z => e23.ow b (own3 b z)⟩, W.at_, noE, R3.ex q _ (e3.fz q _ upd_same), W.fq, fun z => nq3 (own3 q z), W.bq, ?_, W.ne⟩
  · obtain ⟨ne, c1, c2, z1, z2, z3⟩ := at1 (by intro z; cases z) z
    have z4 := joinC_fr z3.symm
    subst z4
    exact W.R.fr l d z1
  · obtain ⟨ne, c1, c2, z1, z2, z3⟩ := at1 (by intro z; cases z) z
    obtain ⟨z4, fl⟩ := joinC_ow z3.symm
    subst z4
    obtain ⟨p, us', y1, y2, y3, y4⟩ := R3.ow l d z2
    refine ⟨p, us', y1, ?_, y3, rpa_flat y4 fl⟩
    cases y : F p with
    | none => rfl
    | some w => rw [up3 p w y] at y2; cases y2
  · obtain ⟨_, _, c1, _, z2, z3⟩ := at1 (by intro z; cases z) h1
    obtain ⟨_, _, c2, _, z5, z6⟩ := at1 (by intro z; cases z) h2
    obtain ⟨z4, _⟩ := joinC_ow z3.symm
    obtain ⟨z7, _⟩ := joinC_ow z6.symm
    subst z4
    subst z7
    exact R3.sep b1 b2 da db p z2 z5 h3 h4
  · refine W.vs_.to (fun _ _ z => z) (fun _ _ _ _ f _ => f) (fun p us' hp b d => e3.kp p _ b fun z => d (own2' p z)) fun p us' hp b f d z => ?_
    rcases e3.ow p (own3 p z) with y | y
    · exact d (own2' p y)
    · rw [b] at y; cases y
end
/-! ### statements while it is told -/
inductive TR where
  | go (dss : List (List PD))
  | rt (r : Rv)
def PostT (S : Sx) (i : Nat) (F0 : Hp) (ρ0 : Rho) (σ0 : L2.St) (H0 : Hp) (r : Rz TR) (D : Ends) : Prop := match r with
  | .ok (.go dss) ρ' => ∀ F' σ' H' q us, TollF S i F0 ρ0 σ0 H0 F' ρ' σ' H' q us dss → D.nx σ' H'
  | .ok (.rt r) ρ' => ∀ F' σ' H', Ext (Own ρ0 σ0) F0 H0 (Own ρ' σ') F' H' → Rs S F' ρ' σ' H' → ∀ v, RvR S (Own ρ0 σ0) H0 (Own ρ' σ') F' H' v r → D.rt v H'
  | .exc c f ρ' => ∀ F' σ' H' cls dd, Ext (Own ρ0 σ0) F0 H0 (Own ρ' σ') F' H' → Rs S F' ρ' σ' H' → ExR S F' H' cls dd c f → S.W cls dd σ' H'
  | .stuck => False
abbrev TM := List (List PD) → Rho → Rz TR
def tTo (S : Sx) (i : Nat) (m : TM) : TS := fun D σ H => ∃ F0 ρ0 σ0 H0 F ρ q us dss, TollF S i F0 ρ0 σ0 H0 F ρ σ H q us dss ∧ PostT S i F0 ρ0 σ0 H0 (m dss ρ) D
/-- the last ones: it ends as any text does -/
def tTe (S : Sx) (i : Nat) (m : List (List PD) → Rho → Rz Fl) : TS := fun D σ H => ∃ F0 ρ0 σ0 H0 F ρ q us dss, TollF S i F0 ρ0 σ0 H0 F ρ σ H q us dss ∧ PostS S F0 ρ0 σ0 H0 (m dss ρ) D
def toNx : TM := fun dss ρ => .ok (.go dss) ρ
def toSeq (m n : TM) : TM := fun dss ρ => (m dss ρ).bind fun r ρ1 => match r with
  | .go dss1 => n dss1 ρ1
  | .rt r => .ok (.rt r) ρ1
def toEnd (m : TM) (n : List (List PD) → Rho → Rz Fl) : List (List PD) → Rho → Rz Fl := fun dss ρ => (m dss ρ).bind fun r ρ1 => match r with
  | .go dss1 => n dss1 ρ1
  | .rt r => .ok (.rt r) ρ1
def toIf (i : Nat) (t : Rho → Rz Bool) (m : TM) : TM := fun dss ρ => (t (ρ.set i (.fr (.list (dss.map PyData.list))))).bind fun b ρ3 => if b = true then m dss ((joinR ρ ρ3).set i .no) else .ok (.go dss) ((joinR ρ ρ3).set i .no)
def toRet (d : PD) : TM := fun _ ρ => .ok (.rt (.fr d)) ρ
def toApp0 : TM := fun dss ρ => match dss with
  | ds :: r => if okLen (ds.length + 1) = true then .ok (.go ((ds ++ [.none]) :: r)) ρ else .stuck
  | [] => .stuck
def toApp (n : Rho → Rz Fl) : List (List PD) → Rho → Rz Fl := fun dss ρ => if okLen (dss.length + 1) = true then n ρ else .stuck
section
variable {X : Cx} {S : Sx} {k i : Nat} {st : Stmt} {sts : List Stmt} {m n : TM}
theorem to_nil : PSs X [] (tTo S i toNx) := PSs.imp pss_nil fun D σ H q => by
  obtain ⟨F0, ρ0, σ0, H0, F, ρ, q, us, dss, W, P⟩ := q
  exact P F σ H q us W
theorem to_cons (h1 : PS X st (tTo S i m)) (h2 : PSs X sts (tTo S i n)) : PSs X (st :: sts) (tTo S i (toSeq m n)) := PSs.imp (pss_cons h1 h2) fun D σ H q => by
  obtain ⟨F0, ρ0, σ0, H0, F, ρ, q, us, dss, W, P⟩ := q
  unfold toSeq at P
  refine ⟨F0, ρ0, σ0, H0, F, ρ, q, us, dss, W, ?_⟩
  cases hm : m dss ρ with
  | stuck => rw [hm] at P; exact P
  | exc c f ρ' => rw [hm] at P; exact P
  | ok r ρ1 =>
    rw [hm] at P
    cases r with
    | go dss1 => exact fun F1 σ1 H1 q1 us1 W1 => ⟨F0, ρ0, σ0, H0, F1, ρ1, q1, us1, dss1, W1, P⟩
    | rt r => exact P
theorem to_end {n : List (List PD) → Rho → Rz Fl} (h1 : PS X st (tTo S i m)) (h2 : PSs X sts (tTe S i n)) : PSs X (st :: sts) (tTe S i (toEnd m n)) := PSs.imp (pss_cons h1 h2) fun D σ H q => by
  obtain ⟨F0, ρ0, σ0, H0, F, ρ, q, us, dss, W, P⟩ := q
  unfold toEnd at P
  refine ⟨F0, ρ0, σ0, H0, F, ρ, q, us, dss, W, ?_⟩
  cases hm : m dss ρ with
  | stuck => rw [hm] at P; exact P
  | exc c f ρ' => rw [hm] at P; exact P
  | ok r ρ1 =>
    rw [hm] at P
    cases r with
    | go dss1 => exact fun F1 σ1 H1 q1 us1 W1 => ⟨F0, ρ0, σ0, H0, F1, ρ1, q1, us1, dss1, W1, P⟩
    | rt r => exact P
theorem to_if {c : Expr} {body : List Stmt} {t : Rho → Rz Bool} {pos : Pos} (hJ : i ∉ S.J) (hc : XT X S c t) (hb : PSs X body (tTo S i m)) : PS X (.If c body [] pos) (tTo S i (toIf i t m)) := PS.imp (ps_if hc hb pss_nil) fun D σ H q => by
  obtain ⟨F0, ρ0, σ0, H0, F, ρ, q, us, dss, W, P⟩ := q
  unfold toIf at P
  obtain ⟨Fz, Rz', ez, back⟩ := W.look hJ
  refine ⟨Fz, _, Rz', ?_⟩
  cases ht : t (ρ.set i (.fr (.list (dss.map PyData.list)))) with
  | stuck => rw [ht] at P; exact P
  | exc a f ρ' => rw [ht] at P; exact fun F' H' cls dd e R' z => P F' _ H' cls dd (ez.trans e) R' z
  | ok b ρ3 =>
    rw [ht] at P
    intro F3 H3 e3 R3
    have W3 := back F3 ρ3 H3 e3 R3
    cases b with
    | true => exact ⟨F0, ρ0, σ0, H0, F, _, q, us, dss, W3, P⟩
    | false => exact P F σ H3 q us W3
theorem to_retF {kb : Nat} {b : Bool} {p pos : Pos} : PS X (.Return (some (.Constant (.bool b) kb p)) pos) (tTo S i (toRet (.bool b))) := PS.imp (ps_ret pe_bl) fun D σ H q => by
  obtain ⟨F0, ρ0, σ0, H0, F, ρ, q, us, dss, W, P⟩ := q
  exact P F σ H W.e W.R (.bl b) (.bl b)
end
/-! ### how it begins: a call by keyword whose list of lists is new as a whole -/
def tNv (S : Sx) (m : Rho → Rz (List (List PD))) : TE := fun σ H Q => ∃ F ρ, Rs S F ρ σ H ∧ PostE S σ F ρ H (m ρ) fun F' ρ' H' dss => ∀ q us, H' q = some (.lst us) → F' q = none → ¬ Own ρ' σ q → (H q = none ∨ Own ρ σ q) → NestV S (Own ρ σ) H (Own ρ' σ) F' H' us dss → (∀ v ∈ us, v ≠ .ref q) → Q (.ref q) H'
theorem int_inj : ∀ {ns ms : List Int}, ns.map V.int = ms.map V.int → ns = ms
  | [], [], _ => rfl
  | [], _ :: _, h => by cases h
  | _ :: _, [], h => by cases h
  | n :: ns, m :: ms, h => by
    (rw [List.map_cons, List.map_cons] at h)
    injection h with h1 h2
    injection h1 with h1
    rw [h1, int_inj h2]
def rowsD (nss : List (List Int)) : List (List PD) := nss.map fun ns => ns.map PyData.int
theorem nest_new {S : Sx} {O0 O : Addr → Prop} {H0 F H Fc : Hp} (up : ∀ a o, Fc a = some o → H a = some o) (nw : ∀ a xs, Fc a = some (.lst xs) → F a = none ∧ ¬ O a ∧ (H0 a = none ∨ O0 a)) :
    ∀ {nss : List (List Int)} {us : List V}, RpAll S.K Fc us (nss.map lstI) → nss.Nodup → NestV S O0 H0 O F H us (rowsD nss)
  | [], _, h, _ => by cases h; exact .nil
  | ns :: nss, _, h, nd => by
    have nd' := List.nodup_cons.mp nd
    cases h with
    | cons a t =>
      have ih := nest_new up nw t nd'.2
      unfold lstI at a
      cases a with
      | lst g1 g2 =>
        rename_i us' p vs
        have e := g2.ints
        subst e
        obtain ⟨n1, n2, n3⟩ := nw p _ g1
        refine .cons n1 (up _ _ g1) (RpAll.ofInts ns) n2 n3 (fun v hv z => ?_) ih
        subst z
        obtain ⟨j, hj, ej⟩ := List.mem_iff_getElem.mp hv
        obtain ⟨d, hd, rd⟩ := t.at2 (i := j) (by rw [List.getElem?_eq_getElem hj, ej])
        rw [List.getElem?_map] at hd
        obtain ⟨ms, hm, rfl⟩ := Option.map_eq_some_iff.mp hd
        unfold lstI at rd
        cases rd with
        | lst k1 k2 =>
          rw [g1] at k1
          injection k1 with k1
          injection k1 with k1
          subst k1
          have := int_inj k2.ints
          subst this
          exact nd'.1 (List.mem_of_getElem? hm)
def newV (rs : List PD) (ρ : Rho) : Rz (List (List PD)) := match lists? rs with
  | some nss => if nss.Nodup then .ok (rowsD nss) ρ else .stuck
  | none => .stuck
def fcR (m : Rho → Rz Rv) (ds : List PD) (ρ : Rho) : Rz (List (List PD)) := if ds.all flat1 = true then match m (ds.map .fr) with
  | .ok (.ow rs) _ => newV rs ρ
  | _ => .stuck
  else .stuck
def mKwV (ix : List Nat) (nk : Nat) (m : Rho → Rz Rv) (mk : Rho → Rz (List PD)) : Rho → Rz (List (List PD)) := fun ρ => (mk ρ).bind fun es ρ1 => if es.length = nk then fcR m (perm ix es) ρ1 else .stuck
section
variable {X : Cx} {S : Sx} {k n N : Nat} {mb : Rho → Rz Fl} {mk : Rho → Rz (List PD)} {x : Str} {ks : List Str} {ix : List Nat} {kws : List Keyword} {p pos : Pos}
theorem xv_kw (o : Okx X S k) (D : Dkw X.K X.mg X.prog X.w X.base k x n N mb 0 ks ix) (hg : Gl X x) (hkw : XK X S kws mk) (hall : (backToKw pos (keywordEach kws X.env)).all (·.1.isSome) = true := by rfl) (hks : (backToKw pos (keywordEach kws X.env)).filterMap (·.1) = ks := by rfl)
    (ndb : (x == ("__debug__" : Str)) = false := by decide)
    (npl : ((backTo pos (starEach [] X.env)).any (·.1) || (backToKw pos (keywordEach kws X.env)).any (·.1.isNone)) = false := by rfl) :
    PE X (.Call (.Name x p) [] kws pos) (tNv S (mKwV ix ks.length (fnM [] n N mb) mk)) := by
  obtain ⟨f, fd, ps, F, hm, hk, hb⟩ := D.ex
  refine ⟨fun pn s σ H Q I h => ?_⟩
  obtain ⟨F0, ρ, R, P⟩ := h
  unfold mKwV at P
  refine wpAny_Call_Name_kw (ld_glob I hg hm ?_ ndb)
  have t1 : tA S mk σ H fun zs H2 => zs.length = ks.length ∧ spM S.K S.mg n (fnM [] n N mb) (perm ix ([] ++ zs)) H2 Q fun cls d H' => S.W cls d σ H' := by
    refine ⟨F0, ρ, R, PostE.mono (PostE.bind P) fun F1 ρ1 H1 ds e1 R1 P1 zs hz => ?_⟩
    have P1 := P1 F1 e1
    by_cases c : ds.length = ks.length
    · rw [if_pos c] at P1
      refine ⟨hz.len.trans c, ?_⟩
      have hv := rp_perm hz ix
      rw [List.nil_append]
      generalize perm ix ds = es at P1 hv
      generalize perm ix zs = vs at hv
      unfold fcR at P1
      by_cases fl : es.all flat1 = true
      · rw [if_pos fl] at P1
        have hv0 := rpa_flat1 hv fl
        obtain ⟨ob, φ, hsm⟩ := R1.sm
        cases hr : fnM [] n N mb (es.map .fr) with
        | stuck => rw [hr] at P1; exact P1.elim
        | exc c f ρ' => rw [hr] at P1; exact P1.elim
        | ok r ρ' =>
          rw [hr] at P1
          cases r with
          | fr d => exact P1.elim
          | ow rs =>
            have P1 : PostE S σ F1 ρ1 H1 (newV rs ρ1) _ := P1
            unfold newV at P1
            cases hl : lists? rs with
            | none => rw [hl] at P1; exact P1.elim
            | some nss =>
              rw [hl] at P1
              have P1 : PostE S σ F1 ρ1 H1 (if nss.Nodup then .ok (rowsD nss) ρ1 else .stuck) _ := P1
              by_cases nd : nss.Nodup
              · rw [if_pos nd] at P1
                have no : ∀ ρ2 a, ρ2 = es.map Cl.fr → ¬ Own ρ2 (vs.map some) a := fun ρ2 a e ⟨i, es', h, _⟩ => by
                  subst e
                  obtain ⟨d, _, z⟩ := at_map_fr h
                  cases z
                have hlen : vs.length = n ∧ ρ' = es.map .fr := by
                  unfold fnM at hr
                  by_cases c : okArgs [] n (es.map .fr) = true
                  · have hl := (okArgs.at c).1
                    rw [List.length_map, ← hv.len] at hl
                    refine ⟨hl, ?_⟩
                    rw [if_pos c] at hr
                    split at hr
                    · simp only [outs, List.foldlM_nil] at hr
                      cases hr; rfl
                    · simp only [outs, List.foldlM_nil] at hr
                      cases hr
                    · rw [if_pos rfl] at hr; cases hr
                    · cases hr
                  · rw [if_neg c] at hr; cases hr
                have Fc0 : ∀ b w, (fun b => if b = sysModules then F1 sysModules else none : Hp) b = some w → b = sysModules ∧ F1 b = some w := fun b w z => by
                  by_cases y : b = sysModules
                  · subst y
                    exact ⟨rfl, by simpa using z⟩
                  · simp [y] at z
                refine ⟨hlen.1, fun b => if b = sysModules then F1 sysModules else none, es.map .fr, ⟨fun b w z => R1.ex b w (Fc0 b w z).2, by simp [hv.len], fun i d h => ?_, fun i es h => ?_, fun i j di dj p h => ?_, (fun j h => nomatch h), ⟨ob, φ, by simpa using hsm⟩⟩, ?_⟩
                · obtain ⟨d', h1, h2⟩ := at_map_fr h
                  cases h2
                  obtain ⟨v, q1, q2⟩ := RpAll.get hv0 h1
                  exact ⟨v, by rw [List.getElem?_map, q1]; rfl, rp_mono noH_le _ _ q2⟩
                · obtain ⟨d', _, h2⟩ := at_map_fr h; cases h2
                · obtain ⟨d', _, h2⟩ := at_map_fr h; cases h2
                rw [hr]
                intro F' H' e' R' v hvv
                obtain ⟨q, us, rfl, q1, q2, q3, q4, q5⟩ := hvv
                have kp : ∀ b w, H1 b = some w → H' b = some w := fun b w z => e'.kp b w z (no _ b rfl)
                have eF : Ext (Own ρ1 σ) F1 H1 (Own ρ1 σ) F1 H' := ⟨fun _ _ z => z, fun _ z => .inl z, fun b w z _ => kp b w z, e'.st, fun _ z => .inl z⟩
                have RF : Rs S F1 ρ1 σ H' := ⟨fun b w z => kp b w (R1.ex b w z), R1.len, R1.fr, fun j es h => by
                  obtain ⟨p', us2, y1, y2, y3, y4⟩ := R1.ow j es h
                  exact ⟨p', us2, y1, y2, FamH.mono y3 fun o z => kp p' o z, y4⟩, R1.sep, R1.pin, R1.sm⟩
                have ownH : ∀ b, Own ρ1 σ b → H1 b ≠ none := fun b ⟨j, es, h1, h2⟩ => by
                  obtain ⟨p', us2, y1, y2, y3, y4⟩ := R1.ow j es h1
                  rw [y1] at h2
                  have z : p' = b := by injection h2 with z; injection z with z; injection z
                  rw [← z]
                  exact FamH.ne y3
                have hq1 : H1 q = none := q5.elim id fun h => absurd h (no _ q rfl)
                have f1n : ∀ b, H1 b = none → F1 b = none := fun b hb => by
                  cases hy : F1 b with
                  | none => rfl
                  | some w => rw [R1.ex b w hy] at hb; cases hb
                have newA : ∀ a xs, F' a = some (.lst xs) → H1 a = none := fun a xs z => by
                  rcases e'.nw a (by rw [z]; simp) with y | y | y
                  · exfalso
                    cases hy : (fun b => if b = sysModules then F1 sysModules else none : Hp) a with
                    | none => exact y hy
                    | some w =>
                      obtain ⟨y1, y2⟩ := Fc0 a w hy
                      have z1 := e'.fz a w hy
                      rw [z] at z1
                      rw [y1, hsm] at y2
                      cases y2
                      cases z1
                  · exact y
                  · exact absurd y (no _ a rfl)
                rw [lists?_eq hl] at q3
                have nv : NestV S (Own ρ σ) H (Own ρ1 σ) F1 H' us (rowsD nss) := nest_new (fun a o z => R'.ex a o z) (fun a xs z => by
                  have y := newA a xs z
                  exact ⟨f1n a y, fun h => ownH a h y, .inl (e1.back y)⟩) q3 nd
                refine PostE.ok (PostE.from P1 eF) RF q us q2 (f1n q hq1) (fun h => ownH q h hq1) (.inl (e1.back hq1)) nv fun v hv z => ?_
                subst z
                obtain ⟨j, hj, ej⟩ := List.mem_iff_getElem.mp hv
                obtain ⟨d, hd, rd⟩ := q3.at2 (i := j) (by rw [List.getElem?_eq_getElem hj, ej])
                rw [List.getElem?_map] at hd
                obtain ⟨ms, hm, rfl⟩ := Option.map_eq_some_iff.mp hd
                unfold lstI at rd
                cases rd with
                | lst k1 k2 => rw [q1] at k1; cases k1
              · rw [if_neg nd] at P1; exact P1.elim
      · rw [if_neg fl] at P1; exact P1.elim
    · rw [if_neg c] at P1; exact P1.elim
  refine PySem.W.callWith_KW0 (h₀ := X.base) I.ok.mod.kin hk hall (thn (hkw.run pos pn s σ H _ I t1) fun ws s2 ⟨zs, H2, I2, rz, q2, q3⟩ => ⟨I2.kIn, ?_⟩) npl
  rw [hks]
  rw [o.hK, o.hM] at q3
  exact run_gk (us := []) (vs := []) F o.gd o.rm hb o.tk I2 rfl (rz.length.symm.trans q2) rz q3
end
section
variable {X : Cx} {S : Sx} {k : Nat} {x : Str} {rest : List Stmt} {n : Rho → Rz Fl} {p1 p2 p3 p4 p5 p6 p7 : Pos} {k1 k2 : Nat}
theorem to_app0 (i : Nat) (hi : X.N[i]? = some x) (hv : Vis X.env.scope x) (hd : (x == ("__debug__" : Str)) = false) (hcd : (x == ("__classdict__" : Str)) = false) {st : Stmt}
    (hst : ∀ {T : TE}, PE X (.Subscript (.Name x p1) (.Constant (.int (0 : Int)) k1 p2) p3) T → PS X st (tDrop (tBM X.K "list" rAppend T (tCons (tC .non) tNil))))
    (s1 : PlainIx (.Constant (.int (0 : Int)) k1 p2)) : PS X st (tTo S i toApp0) := PS.imp (hst (pe_ix ix_list (pe_var (i := i) hi hv hd hcd) pe_int s1)) fun D σ H q => by
  obtain ⟨F0, ρ0, σ0, H0, F, ρ, q, us, dss, W, P⟩ := q
  unfold toApp0 at P
  cases dss with
  | nil => exact P.elim
  | cons ds r =>
    have P : PostT S i F0 ρ0 σ0 H0 (if okLen (ds.length + 1) = true then .ok (.go ((ds ++ [.none]) :: r)) ρ else .stuck) D := P
    by_cases c : okLen (ds.length + 1) = true
    · rw [if_pos c] at P
      have nv := W.vs_
      have hq := W.hq
      have ne := W.ne
      generalize he : ds :: r = dss' at nv
      cases nv with
      | nil => cases he
      | cons a b c' d f g t =>
        rename_i p us0 ds0 vs r0
        injection he with he1 he2
        subst he1 he2
        have pq : p ≠ q := fun z => ne (.ref p) (by simp) (by rw [z])
        refine ⟨.ref q, W.at_, q, _, 0, .ref p, rfl, rfl, .inl (.inl hq), by rw [show (0 : Int) = ((0 : Nat) : Int) from rfl, atI_cast]; rfl, .inl ⟨rfl, _, .inl (.inl b)⟩, p, us0, .non, rfl, rfl, b, by rw [c'.len]; exact okLen.lt c, ?_⟩
        have nF : ∀ b w, F b = some w → b ≠ p := fun b w z y => by rw [y, a] at z; cases z
        refine P F σ _ q _ ⟨⟨fun a w z => by rw [upd_ne (nF a w z)]; exact W.R.ex a w z, W.R.len, W.R.fr, fun l ds z => ?_, W.R.sep, W.R.pin, W.R.sm⟩, ⟨W.e.fz, W.e.nw, fun a w z z' => ?_, fun a z => ?_, W.e.ow⟩, W.at_, W.no_, by rw [upd_ne (fun z => pq z.symm)]; exact hq, W.fq, W.nq, W.bq, ?_, ne⟩
        · obtain ⟨p', us', y1, y2, y3, y4⟩ := W.R.ow l ds z
          have y : p' ≠ p := fun y => d ⟨l, ds, z, y ▸ y1⟩
          exact ⟨p', us', y1, y2, y3.mono fun o z => (by rw [upd_ne y]; exact z), y4⟩
        · have y : a ≠ p := fun y => by
            subst y
            rcases f with f | f
            · rw [f] at z; cases z
            · exact z' f
          rw [upd_ne y]
          exact W.e.kp a w z z'
        · by_cases y : a = p
          · subst y; rw [upd_same]; simp
          · rw [upd_ne y]; exact W.e.st a z
        · refine .cons a upd_same (c'.app (.cons .non .nil)) d f g ?_
          exact t.to (fun _ _ z => z) (fun _ _ _ _ f _ => f) (fun p' us' hp b' d' => by
            have y : p' ≠ p := fun y => g _ hp (by rw [y])
            rw [upd_ne y]; exact b') fun p' us' hp b' f' d' z => d' z
    · rw [if_neg c] at P; exact P.elim
theorem to_app (i : Nat) (hi : X.N[i]? = some x) (hv : Vis X.env.scope x) (hd : (x == ("__debug__" : Str)) = false) (hcd : (x == ("__classdict__" : Str)) = false) {st : Stmt}
    (hst : ∀ {T : TE}, PE X (.Name x p1) T → PS X st (tDrop (tBM X.K "list" rAppend T (tCons (tC .non) tNil)))) (hr : XSs X S rest n) : PSs X (st :: rest) (tTe S i (toApp n)) := PSs.imp (pss_cons (hst (pe_var (i := i) hi hv hd hcd)) hr) fun D σ H q => by
  obtain ⟨F0, ρ0, σ0, H0, F, ρ, q, us, dss, W, P⟩ := q
  unfold toApp at P
  by_cases c : okLen (dss.length + 1) = true
  · rw [if_pos c] at P
    refine ⟨.ref q, W.at_, .inl ⟨rfl, _, .inl (.inl W.hq)⟩, q, us, .non, rfl, rfl, W.hq, by rw [W.vs_.len]; exact okLen.lt c, ?_⟩
    have nF : ∀ a w, F a = some w → a ≠ q := fun a w z y => by rw [y, W.fq] at z; cases z
    refine ⟨F, ρ, ⟨fun a w z => by rw [upd_ne (nF a w z)]; exact W.R.ex a w z, W.R.len, W.R.fr, fun l ds z => ?_, W.R.sep, W.R.pin, W.R.sm⟩, PostS.from P ⟨W.e.fz, W.e.nw, fun a w z z' => ?_, fun a z => ?_, W.e.ow⟩⟩
    · obtain ⟨p', us', y1, y2, y3, y4⟩ := W.R.ow l ds z
      have y : p' ≠ q := fun y => W.nq ⟨l, ds, z, y ▸ y1⟩
      exact ⟨p', us', y1, y2, y3.mono fun o z => (by rw [upd_ne y]; exact z), y4⟩
    · have y : a ≠ q := fun y => by
        subst y
        rcases W.bq with f | f
        · rw [f] at z; cases z
        · exact z' f
      rw [upd_ne y]
      exact W.e.kp a w z z'
    · by_cases y : a = q
      · subst y; rw [upd_same]; simp
      · rw [upd_ne y]; exact W.e.st a z
  · rw [if_neg c] at P; exact P.elim
def mTold (i : Nat) (fz : List Nat) (mn : Rho → Rz (List (List PD))) (n : List (List PD) → Rho → Rz Fl) : Rho → Rz Fl := fun ρ => (mn (frzR fz ρ)).bind fun dss ρ1 => if i < ρ1.length then n dss (ρ1.set i .no) else .stuck
theorem xs_told (o : Okx X S k) (hT : ∀ l, S.T l = none) (i : Nat) (fz : List Nat) {e : Expr} {mn : Rho → Rz (List (List PD))} {m : List (List PD) → Rho → Rz Fl} (he : PE X e (tNv S mn)) (hr : PSs X rest (tTe S i m)) (hJ : i ∉ S.J) (hi : X.N[i]? = some x) (hx : Loc X.env.scope x)
    (hsw : swapsWith e (some (.Name x p2)) p3.line X.env = pure false) (hfx : X.fn x = true ∨ X.env.scope.names.lookup x = some .local) : XSs X S (.Assign [.Name x p2] e p3 :: rest) (mTold i fz mn m) :=
  PSs.imp (pss_cons (ps_set o.nd hi hx he hsw hfx) hr) fun D σ H q => by
    obtain ⟨Fs, ρs, Rs', P⟩ := q
    unfold mTold at P
    obtain ⟨F, e0, R⟩ := Rs'.frz hT fz
    have P := PostS.from P e0
    generalize frzR fz ρs = ρ at R P
    refine ⟨F, ρ, R, ?_⟩
    cases hm : mn ρ with
    | stuck => rw [hm] at P; exact P
    | exc b f ρ' => rw [hm] at P; exact fun F' H' cls dd e R' z => P F' σ H' cls dd e R' z
    | ok dss ρ1 =>
      rw [hm] at P
      have P : PostS S F ρ σ H (if i < ρ1.length then m dss (ρ1.set i .no) else .stuck) D := P
      by_cases il : i < ρ1.length
      · rw [if_pos il] at P
        intro F1 H1 e1 R1 q us hq fq nq bq nv ne
        have own1 : ∀ b, Own (ρ1.set i .no) (σ.set i (some (.ref q))) b → Own ρ1 σ b := fun b ⟨l, d, z1, z2⟩ => by
          by_cases y : i = l
          · subst y; rw [List.getElem?_set_self il] at z1; cases z1
          · rw [List.getElem?_set_ne y] at z1 z2; exact ⟨l, d, z1, z2⟩
        have cell : ∀ {l : Nat} {c : Cl}, c ≠ .no → (ρ1.set i .no)[l]? = some c → i ≠ l ∧ ρ1[l]? = some c := fun {l c} hc h => by
          by_cases y : i = l
          · subst y; rw [List.getElem?_set_self il] at h; exact absurd (Option.some.inj h).symm hc
          · rw [List.getElem?_set_ne y] at h; exact ⟨y, h⟩
        have R1b : Rs S F1 (ρ1.set i .no) (σ.set i (some (.ref q))) H1 := by
          refine ⟨R1.ex, by rw [List.length_set, List.length_set]; exact R1.len, fun l d z => ?_, fun l d z => ?_, fun b1 b2 da db p h1 h2 h3 h4 => ?_, fun l hl => ?_, R1.sm⟩
          · obtain ⟨y, z⟩ := cell (by intro z; cases z) z
            rw [List.getElem?_set_ne y]
            exact R1.fr l d z
          · obtain ⟨y, z⟩ := cell (by intro z; cases z) z
            rw [List.getElem?_set_ne y]
            exact R1.ow l d z
          · obtain ⟨y1, h1⟩ := cell (by intro z; cases z) h1
            obtain ⟨y2, h2⟩ := cell (by intro z; cases z) h2
            rw [List.getElem?_set_ne y1] at h3
            rw [List.getElem?_set_ne y2] at h4
            exact R1.sep b1 b2 da db p h1 h2 h3 h4
          · have y : i ≠ l := fun y => hJ (by rw [y]; exact hl)
            rw [List.getElem?_set_ne y]
            exact R1.pin l hl
        exact ⟨F, ρ, σ, H, F1, ρ1.set i .no, q, us, dss, ⟨R1b, ⟨e1.fz, e1.nw, e1.kp, e1.st, fun b z => e1.ow b (own1 b z)⟩, List.getElem?_set_self (by rw [← R1.len]; exact il), List.getElem?_set_self il, hq, fq, fun z => nq (own1 q z), bq, nv.to (fun _ _ z => z) (fun _ _ _ _ f _ => f) (fun _ _ _ b _ => b) (fun _ _ _ _ _ d z => d (own1 _ z)), ne⟩, P⟩
      · rw [if_neg il] at P; exact P.elim
end
end Sd
namespace Sd
open PySem L2 PySem.Spec PyProof.Rows
/-! ### sum(x), x only looked at; told = f(x=e), e's list lent -/
def mSumN (j : Nat) : Rho → Rz Rv := fun ρ => match ρ.peek j with
  | some c => (match gSumL c with
    | some d => .ok (.fr d) ρ
    | none => .stuck)
  | none => .stuck
section
variable {X : Cx} {S : Sx} {k : Nat} {p : Pos}
theorem xe_sumN (o : Okx X S k) (j : Nat) {y : Str} {py : Pos} (hm : S.mg "sum" = none) (hg : Gl X "sum" := by rfl) (hN : X.N[j]? = some y := by rfl) (hv : Vis X.env.scope y := by first | exact Or.inl rfl | exact Or.inr (Or.inl rfl) | exact Or.inr (Or.inr rfl)) (hd : (y == ("__debug__" : Str)) = false := by decide)
    (hcd : (y == ("__classdict__" : Str)) = false := by decide) (hT : S.T j = none := by first | rfl | assumption) : XE X S (.Call (.Name "sum" p) [.Name y py] [] pos) (mSumN j) :=
  PE.imp (pe_callB (cr_sum o.calm) hg (o.hM ▸ hm) (by decide +kernel) (pa_cons (pe_var (i := j) hN hv hd hcd) pa_nil)) fun σ H Q q => by
    obtain ⟨F, ρ, R, P⟩ := q
    unfold mSumN at P
    cases hp : ρ.peek j with
    | none => rw [hp] at P; exact P.elim
    | some c =>
      rw [hp] at P
      simp only at P
      cases hg : gSumL c with
      | none => rw [hg] at P; exact P.elim
      | some d =>
        rw [hg] at P
        obtain ⟨v, ev, pk⟩ := R.peek hp hT
        unfold gSumL at hg
        split at hg
        · rename_i ds
          cases hi : ints? ds with
          | none => rw [hi] at hg; cases hg
          | some ns =>
            rw [hi] at hg
            cases hg
            obtain rfl := ints?_eq hi
            rcases pk with pk | ⟨a, us, ds', rfl, e, h1, h2⟩
            · cases pk with
              | lst h1 h2 =>
                have e := h2.ints
                subst e
                exact ⟨_, ev, _, ns, rfl, .inl (.inl (R.ex _ _ h1)), PostE.ok P R _ (.int _)⟩
            · cases e
              have e := h2.ints
              subst e
              exact ⟨_, ev, _, ns, rfl, .inl (.inl h1), PostE.ok P R _ (.int _)⟩
        · cases hg
end
/-- a call whose list is lent: what it gives is new, and the list is as it was -/
theorem lent_run {S : Sx} {F1 : Hp} {ρ1 ρ2 : Rho} {σ : L2.St} {H1 : Hp} {v : V} {d : PD} {ds : List PD} {N : Nat} {mb : Rho → Rz Fl} {Q : VK} {E : L2.XK} (R1 : Rs S F1 ρ1 σ H1) (D1 : Rp S.K F1 v d)
    (hl : lentR (fnM [0] 1 N mb) d ρ1 = .ok ds ρ2)
    (h : ρ2 = ρ1 → ∀ H' q us G, H' q = some (.lst us) → G q = none → H1 q = none → RpAll S.K G us ds → (∀ a o, G a = some o → H' a = some o) → (∀ a xs, G a = some (.lst xs) → H1 a = none) → (∀ b w, H1 b = some w → H' b = some w) → Q (.ref q) H') :
    spM S.K S.mg 1 (fnM [0] 1 N mb) [v] H1 Q E := by
  unfold lentR at hl
  cases D1 with
  | lst g1 g2 =>
    rename_i a us ts
    simp only at hl
    cases hi : ints? ts with
    | none => rw [hi] at hl; cases hl
    | some ns =>
      rw [hi] at hl
      obtain rfl := ints?_eq hi
      have eus := g2.ints
      subst eus
      simp only at hl
      cases hr : fnM [0] 1 N mb [.ow (ns.map PyData.int)] with
      | stuck => rw [hr] at hl; cases hl
      | exc c f ρ' => rw [hr] at hl; cases hl
      | ok r ρ' =>
        rw [hr] at hl
        have hH1 : H1 a = some (.lst (ns.map V.int)) := R1.ex _ _ g1
        have na := sm_lst R1.sm R1.ex hH1
        obtain ⟨ob, φ, hsm⟩ := R1.sm
        have own0 : ∀ ts b, Own [Cl.ow ts] [some (V.ref a)] b → b = a := fun ts b ⟨j, es, h1, h2⟩ => by
          cases j with
          | zero =>
            have z : some (some (V.ref a)) = some (some (V.ref b)) := h2
            injection z with z; injection z with z; injection z with z
            exact z.symm
          | succ j => cases h1
        have Fc0 : ∀ b w, (fun b => if b = sysModules then F1 sysModules else none : Hp) b = some w → b = sysModules ∧ F1 b = some w := fun b w z => by
          by_cases y : b = sysModules
          · subst y
            exact ⟨rfl, by simpa using z⟩
          · simp [y] at z
        refine ⟨rfl, fun b => if b = sysModules then F1 sysModules else none, [.ow (ns.map PyData.int)], ⟨fun b w z => R1.ex b w (Fc0 b w z).2, rfl, fun j d h => ?_, fun j es h => ?_, fun j l dj dl q h1 h2 _ _ => ?_, (fun j h => nomatch h), ⟨ob, φ, by simpa using hsm⟩⟩, ?_⟩
        · cases j with
          | zero => cases h
          | succ j => cases h
        · cases j with
          | zero => cases h; exact ⟨a, ns.map V.int, rfl, by simp [na], hH1, RpAll.ofInts ns⟩
          | succ j => cases h
        · cases j with
          | zero =>
            cases l with
            | zero => rfl
            | succ l => cases h2
          | succ j => cases h1
        rw [hr]
        split at hl
        · rename_i rs ts' he
          injection he with he1 he2
          subst he1 he2
          split at hl
          · rename_i ns' hi'
            by_cases en : ns' = ns
            · rw [if_pos en] at hl
              subst en
              obtain rfl := ints?_eq hi'
              injection hl with hl1 hl2
              subst hl1
              intro F' H' e' R' v hv
              obtain ⟨q, us, rfl, q1, q2, q3, q4, q5⟩ := hv
              obtain ⟨a', us', z1, z2, z3, z4⟩ := R'.ow 0 _ rfl
              have ea : a' = a := by
                have z : some (some (V.ref a)) = some (some (V.ref a')) := z1
                injection z with z; injection z with z; injection z with z
                exact z.symm
              subst ea
              have z3 : H' a' = some (.lst us') := z3
              rw [z4.ints] at z3
              have kp : ∀ b w, H1 b = some w → H' b = some w := fun b w z => by
                by_cases y : b = a'
                · subst y; rw [hH1] at z; cases z; exact z3
                · exact e'.kp b w z fun h => y (own0 _ b h)
              have hq1 : H1 q = none := q5.elim id fun h => absurd h (by
                intro h
                have y := own0 _ q h
                subst y
                exact q4 ⟨0, _, rfl, rfl⟩)
              refine h hl2.symm H' q us F' q2 q1 hq1 q3 R'.ex (fun b xs hb => ?_) kp
              rcases e'.nw b (by rw [hb]; simp) with y | y | y
              · exfalso
                cases hy : (fun b => if b = sysModules then F1 sysModules else none : Hp) b with
                | none => exact y hy
                | some w =>
                  obtain ⟨y1, y2⟩ := Fc0 b w hy
                  have z1 := e'.fz b w hy
                  rw [hb] at z1
                  rw [y1, hsm] at y2
                  cases y2
                  cases z1
              · exact y
              · have y := own0 _ b y
                subst y
                rw [z2] at hb; cases hb
            · rw [if_neg en] at hl; cases hl
          · cases hl
        · cases hl
  | _ => cases hl
structure DkwL (K : PySem.W.Frag) (mg : Str → Option Value) (P : Program) (w : World) (base : Heap) (k : Nat) (x : Str) (N : Nat) (mb : Rho → Rz Fl) (ks : List Str) : Prop where
  ex : ∃ (f : Addr) (fd : FuncData) (ps : List Str), FnG P w K mg base k f fd ps (spM K mg 1 (fnM [0] 1 N mb)) ∧ mg x = some (.ref f) ∧ PySem.W.keepIn K (.ref f) = true ∧ KBi K fd ps 0 ks [0]
section
variable {K : PySem.W.Frag} {mg : Str → Option Value} {P : Program} {w : World} {base : Heap}
theorem DkwL.mono {x : Str} {N j k : Nat} {ks : List Str} {mb : Rho → Rz Fl} (D : DkwL K mg P w base j x N mb ks) (h : j ≤ k) : DkwL K mg P w base k x N mb ks := by
  obtain ⟨f, fd, ps, b, c⟩ := D.ex
  exact ⟨f, fd, ps, b.mono h, c⟩
theorem Dk.kwL {x : Str} {st : Stmt} {ps : List Str} {N k : Nat} {m : Rho → Rz Fl} (ks : List Str) (D : Df K mg x st ps) (G : Dk K mg P w base k x [0] ps 1 N m)
    (h : ∀ (kV doc pm : Value) (an : Option Addr) (cdv ct : Value) (us ws : List Value), us.length = 0 → ws.length = ks.length → bindArgs (PySem.W.fnOf x x (defArgs st) (defBody st) (defScope st) .none kV doc pm an cdv ct) ⟨us, ks.zip ws⟩ = pure (ps.zip (perm [0] (us ++ ws)))) : DkwL K mg P w base k x N m ks := by
  obtain ⟨f, fd, Fn, hm, hb⟩ := D.ex
  obtain ⟨f', fd', a, F, hm', hk, hb', o, lo, od⟩ := G.ex
  rw [hm] at hm'
  cases hm'
  obtain ⟨oc, od', kV, doc, pm, an, cdv, ct, osl, e, lk, hcd⟩ := Fn.ex
  rw [lk] at lo
  cases lo
  cases od
  subst e
  exact ⟨f, _, ps, F, hm, hk, fun s us ws l1 l2 => .of_eq (h kV doc pm an cdv ct us ws l1 l2)⟩
end
def mKwL (m : Rho → Rz Rv) (mk : Rho → Rz (List PD)) : Rho → Rz (List (List PD)) := fun ρ => (mk ρ).bind fun es ρ1 => match es with
  | [d] => (lentR m d ρ1).bind newV
  | _ => .stuck
section
variable {X : Cx} {S : Sx} {k N : Nat} {mb : Rho → Rz Fl} {mk : Rho → Rz (List PD)} {x : Str} {ks : List Str} {kws : List Keyword} {p pos : Pos}
theorem xv_kwL (o : Okx X S k) (D : DkwL X.K X.mg X.prog X.w X.base k x N mb ks) (hg : Gl X x) (hkw : XK X S kws mk) (h1 : ks.length = 1 := by rfl) (hall : (backToKw pos (keywordEach kws X.env)).all (·.1.isSome) = true := by rfl) (hks : (backToKw pos (keywordEach kws X.env)).filterMap (·.1) = ks := by rfl)
    (ndb : (x == ("__debug__" : Str)) = false := by decide)
    (npl : ((backTo pos (starEach [] X.env)).any (·.1) || (backToKw pos (keywordEach kws X.env)).any (·.1.isNone)) = false := by rfl) :
    PE X (.Call (.Name x p) [] kws pos) (tNv S (mKwL (fnM [0] 1 N mb) mk)) := by
  obtain ⟨f, fd, ps, F, hm, hk, hb⟩ := D.ex
  refine ⟨fun pn s σ H Q I h => ?_⟩
  obtain ⟨F0, ρ, R, P⟩ := h
  unfold mKwL at P
  refine wpAny_Call_Name_kw (ld_glob I hg hm ?_ ndb)
  have t1 : tA S mk σ H fun zs H2 => zs.length = ks.length ∧ spM S.K S.mg 1 (fnM [0] 1 N mb) (perm [0] ([] ++ zs)) H2 Q fun cls d H' => S.W cls d σ H' := by
    refine ⟨F0, ρ, R, PostE.mono (PostE.bind P) fun F1 ρ1 H1 ds e1 R1 P1 zs hz => ?_⟩
    have P1 := P1 F1 e1
    cases hz with
    | nil => exact P1.elim
    | cons a t =>
      cases t with
      | cons _ _ => exact P1.elim
      | nil =>
        refine ⟨h1.symm, ?_⟩
        rename_i zv d _
        show spM S.K S.mg 1 (fnM [0] 1 N mb) [zv] H1 Q fun cls d H' => S.W cls d σ H'
        cases hl : lentR (fnM [0] 1 N mb) d ρ1 with
        | stuck => simp only [hl] at P1; exact P1.elim
        | exc c f ρ' =>
          exfalso
          unfold lentR at hl
          split at hl
          · split at hl
            · split at hl
              · split at hl
                · split at hl <;> cases hl
                · cases hl
              · cases hl
            · cases hl
          · cases hl
        | ok rs ρ2 =>
          simp only [hl] at P1
          have P1 : PostE S σ F1 ρ1 H1 (newV rs ρ2) _ := P1
          refine lent_run R1 a hl fun e2 H' q us G q2 q1 hq1 q3 le newA kp => ?_
          subst e2
          unfold newV at P1
          cases hn : lists? rs with
          | none => rw [hn] at P1; exact P1.elim
          | some nss =>
            rw [hn] at P1
            have P1 : PostE S σ F1 ρ2 H1 (if nss.Nodup then .ok (rowsD nss) ρ2 else .stuck) _ := P1
            by_cases nd : nss.Nodup
            · rw [if_pos nd] at P1
              have st : ∀ b, H1 b ≠ none → H' b ≠ none := fun b hb => by
                cases y : H1 b with
                | none => exact absurd y hb
                | some w => rw [kp b w y]; simp
              have eF : Ext (Own ρ2 σ) F1 H1 (Own ρ2 σ) F1 H' := ⟨fun _ _ z => z, fun _ z => .inl z, fun b w z _ => kp b w z, st, fun _ z => .inl z⟩
              have RF : Rs S F1 ρ2 σ H' := ⟨fun b w z => kp b w (R1.ex b w z), R1.len, R1.fr, fun j es h => by
                obtain ⟨p', us2, y1, y2, y3, y4⟩ := R1.ow j es h
                exact ⟨p', us2, y1, y2, FamH.mono y3 fun o z => kp p' o z, y4⟩, R1.sep, R1.pin, R1.sm⟩
              have ownH : ∀ b, Own ρ2 σ b → H1 b ≠ none := fun b ⟨j, es, h1, h2⟩ => by
                obtain ⟨p', us2, y1, y2, y3, y4⟩ := R1.ow j es h1
                rw [y1] at h2
                have z : p' = b := by injection h2 with z; injection z with z; injection z
                rw [← z]
                exact FamH.ne y3
              have f1n : ∀ b, H1 b = none → F1 b = none := fun b hb => by
                cases hy : F1 b with
                | none => rfl
                | some w => rw [R1.ex b w hy] at hb; cases hb
              rw [lists?_eq hn] at q3
              have nv : NestV S (Own ρ σ) H (Own ρ2 σ) F1 H' us (rowsD nss) := nest_new le (fun a xs z => by
                have y := newA a xs z
                exact ⟨f1n a y, fun h => ownH a h y, .inl (e1.back y)⟩) q3 nd
              refine PostE.ok (PostE.from P1 eF) RF q us q2 (f1n q hq1) (fun h => ownH q h hq1) (.inl (e1.back hq1)) nv fun v hv z => ?_
              subst z
              obtain ⟨j, hj, ej⟩ := List.mem_iff_getElem.mp hv
              obtain ⟨d, hd, rd⟩ := q3.at2 (i := j) (by rw [List.getElem?_eq_getElem hj, ej])
              rw [List.getElem?_map] at hd
              obtain ⟨ms, hm, rfl⟩ := Option.map_eq_some_iff.mp hd
              unfold lstI at rd
              cases rd with
              | lst k1 k2 => rw [q1] at k1; cases k1
            · rw [if_neg nd] at P1; exact P1.elim
  refine PySem.W.callWith_KW0 (h₀ := X.base) I.ok.mod.kin hk hall (thn (hkw.run pos pn s σ H _ I t1) fun ws s2 ⟨zs, H2, I2, rz, q2, q3⟩ => ⟨I2.kIn, ?_⟩) npl
  rw [hks]
  rw [o.hK, o.hM] at q3
  exact run_gk (us := []) (vs := []) F o.gd o.rm hb o.tk I2 rfl (rz.length.symm.trans q2) rz q3
end
end Sd
namespace Sd
open PySem L2 PySem.Spec PyProof.Rows
def b_is_integer : Rho → Rz Fl := (mSeq (mRet (mAndV (mIsi .int (mV 0)) (mNotV (mIsi .bool (mV 0)))))
  mNx)
def m_is_integer : Rho → Rz Rv := fnM [] 1 1 b_is_integer
def b_is_at_least : Rho → Rz Fl := (mSeq (mRet (mAndV (mCallP m_is_integer (mPkA 0 mNil)) (mOp2 qGe (mV 0) (mV 1))))
  mNx)
def m_is_at_least : Rho → Rz Rv := fnM [] 2 2 b_is_at_least
def b_is_item : Rho → Rz Fl := (mSeq (mRet (mAndV (mCallP m_is_at_least (mPkA 0 (mCons (mC (.int 0)) mNil))) (mOp2 qLe (mV 0) (mC (.int 1000000000000000000000000000000)))))
  mNx)
def m_is_item : Rho → Rz Rv := fnM [] 1 1 b_is_item
def b_slotted_fault : Rho → Rz Fl := (mSeq (mIfS (mOrT (mNotT (mTr (mIsi .list (mV 0)))) (mNotT (mB (mChain qLe qLe (mC (.int 1)) (mLenN 0) (mC (.int 40)))))) (mSeq (mRet (mTup (mCons (mC .none) mNil)))
  mNx) mNx)
  (mSeq (mFor (mG gEnum (mCons (mV 0) mNil)) (gTp 2 (gsCons (gN 1) (gsCons (gN 2) gsNil))) (mSeq (mIfS (mOrT (mNotT (mTr (mCallP m_is_item (mPkA 2 mNil)))) (mB (mOp2 qGt (mV 2) (mC (.int 1))))) (mSeq (mRet (mTup (mCons (mV 1) mNil)))
  mNx) mNx)
  mNx))
  (mSeq (mRet (mTup mNil))
  mNx)))
def m_slotted_fault : Rho → Rz Rv := fnM [] 1 3 b_slotted_fault
def b_turned_by : Rho → Rz Fl := (mSeq (mSet 2 (mOp2 qMod (mOp1 gNeg (mV 1)) (mLenN 0)))
  (mSeq (mRet (mOp2 gAdd (mCutN 0 (mSo (mV 2)) mNo) (mCutN 0 mNo (mSo (mV 2)))))
  mNx))
def m_turned_by : Rho → Rz Rv := fnM [] 2 3 b_turned_by
def b_mirrored_by : Rho → Rz Fl := (mSeq (mRet (mOp2 gAdd (mCutN 0 mNo (mSo (mC (.int 1)))) (mStepN 0 mNo (mSo (mC (.int 0))) (mSo (mOp1 gNeg (mC (.int 1)))))))
  mNx)
def m_mirrored_by : Rho → Rz Rv := fnM [] 1 1 b_mirrored_by
def b_turned_all : Rho → Rz Fl := (mSeq (mRet (mLc (mG gRange1 (mCons (mLenN 0) mNil)) (gN 1) mYes (mCallP m_turned_by (mPkA 0 (mPkA 1 mNil))) [1]))
  mNx)
def m_turned_all : Rho → Rz Rv := fnM [] 1 2 b_turned_all
def b_least_like : Rho → Rz Fl := (mSeq (mRet (mCB cMinL (mCons (mOp2 gAdd (mCall m_turned_all (mCons (mV 0) mNil)) (mCall m_turned_all (mCons (mCallP m_mirrored_by (mPkA 0 mNil)) mNil))) mNil)))
  mNx)
def m_least_like : Rho → Rz Rv := fnM [] 1 1 b_least_like
def b_own_of : Rho → Rz Fl := (mSeq (mSet 1 (mLenN 0))
  (mSeq (mRet (mLc (mG gRange1 (mCons (mV 1) mNil)) (gN 3) mYes (mCB cSum (mCons (mLc (mG gRange1 (mCons (mV 1) mNil)) (gN 2) mYes (mOp2 gMul (mIxN 0 (mV 2)) (mIxN 0 (mOp2 qSub (mV 2) (mV 3)))) [2]) mNil)) [3]))
  mNx))
def m_own_of : Rho → Rz Rv := fnM [] 1 4 b_own_of
def b_law_pool : Rho → Rz Fl := (mSeq (mSet 2 (mIf (mB (mOp2 qLt (mV 1) (mLenN 0))) (mIxN 0 (mV 1)) (mC (.int 0))))
  (mSeq (mRet (mLst (mCons (mCB cMax (mCons (mC (.int 0)) (mCons (mOp2 qSub (mCB cAbs (mCons (mV 2) mNil)) (mOp2 qPow (mC (.int 10)) (mC (.int 18)))) mNil))) (mCons (mOp2 gAdd (mOp2 qMod (mCB cInt (mCons (mV 2) mNil)) (mOp2 gAdd (mOp2 qPow (mC (.int 10)) (mC (.int 21))) (mC (.int 117)))) (mOp2 gMul (mC (.int 8191)) (mOp2 gAdd (mV 1) (mC (.int 1))))) (mCons (mC (.int 0)) mNil)))))
  mNx))
def m_law_pool : Rho → Rz Rv := fnM [] 2 3 b_law_pool
def b_law_draw : Rho → Rz Fl := (mSeq (mIfS (mB (mOp2 qGt (mIxN 0 (mC (.int 0))) (mC (.int 0)))) (mSeq (mSet 2 (mOp2 qMod (mCB cInt (mCons (mIxN 0 (mC (.int 0))) mNil)) (mV 1)))
  (mSeq (mSetIx 0 (mC (.int 0)) (mOp2 qDiv (mIxN 0 (mC (.int 0))) (mV 1)))
  (mSeq (mRet (mMv 2))
  mNx))) mNx)
  (mSeq (mSetIx 0 (mC (.int 2)) (mOp2 gAdd (mIxN 0 (mC (.int 2))) (mC (.int 1))))
  (mSeq (mSet 3 (mOp2 qMod (mCB cInt (mCons (mOp2 qPow (mOp2 gAdd (mIxN 0 (mC (.int 1))) (mOp2 gMul (mC (.int 524287)) (mIxN 0 (mC (.int 2))))) (mC (.int 3))) mNil)) (mOp2 gAdd (mOp2 qPow (mC (.int 10)) (mC (.int 44))) (mC (.int 31)))))
  (mSeq (mSet 3 (mOp2 qMod (mCB cInt (mCons (mOp2 qPow (mOp2 gAdd (mV 3) (mOp2 gMul (mC (.int 6700417)) (mIxN 0 (mC (.int 2))))) (mC (.int 3))) mNil)) (mOp2 gAdd (mOp2 qPow (mC (.int 10)) (mC (.int 50))) (mC (.int 151)))))
  (mSeq (mRet (mOp2 qMod (mCB cInt (mCons (mOp2 qDiv (mV 3) (mC (.int 131071))) mNil)) (mV 1)))
  mNx)))))
def m_law_draw : Rho → Rz Rv := fnM [0] 2 4 b_law_draw
def b_law_own : Rho → Rz Fl := (mSeq (mPar 1 2 (mLenN 0) (mLst mNil))
  (mSeq (mFor (mG gRange1 (mCons (mV 1) mNil)) (gN 3) (mSeq (mDrop (mApp 2 (mCB cSum (mCons (mLc (mG gRange1 (mCons (mV 1) mNil)) (gN 4) mYes (mOp2 gMul (mIxN 0 (mV 4)) (mIxN 0 (mOp2 qMod (mCB cInt (mCons (mOp2 qSub (mV 4) (mV 3)) mNil)) (mV 1)))) [4]) mNil))))
  mNx))
  (mSeq (mRet (mMv 2))
  mNx)))
def m_law_own : Rho → Rz Rv := fnM [] 1 5 b_law_own
def b_law_turnedP : Rho → Rz Fl := (mSeq (mSet 2 (mLenN 0))
  (mSeq (mRet (mLc (mG gRange1 (mCons (mV 2) mNil)) (gN 3) mYes (mIxN 0 (mOp2 qMod (mCB cInt (mCons (mOp2 qSub (mV 3) (mV 1)) mNil)) (mV 2))) [3]))
  mNx))
def m_law_turnedP : Rho → Rz Rv := fnM [] 2 4 b_law_turnedP
def b_law_back : Rho → Rz Fl := (mSeq (mSet 1 (mLenN 0))
  (mSeq (mRet (mLc (mG gRange1 (mCons (mV 1) mNil)) (gN 2) mYes (mIxN 0 (mOp2 qMod (mCB cInt (mCons (mOp2 qSub (mC (.int 0)) (mV 2)) mNil)) (mV 1))) [2]))
  mNx))
def m_law_back : Rho → Rz Rv := fnM [] 1 3 b_law_back
def b_law_slits : Rho → Rz Fl := (mSeq (mPar 2 3 (mCall0 0 m_law_draw (mCons (mC (.int 4)) mNil)) (mListRg (mV 1)))
  (mSeq (mSet 4 (mLc (mG gRange1 (mCons (mV 1) mNil)) (gN 5) mYes (mCall0 0 m_law_draw (mCons (mC (.int 2)) mNil)) [5]))
  (mSeq (mIfS (mB (mOp2 qGt (mV 2) (mC (.int 0)))) (mSeq (mSet 4 (mOp2 gMul (mLst (mCons (mC (.int 0)) mNil)) (mV 1)))
  (mSeq (mFor (mG gRange1 (mCons (mIx (mLst (mCons (mV 1) (mCons (mOp2 qDiv (mV 1) (mC (.int 2))) (mCons (mCB cMin (mCons (mC (.int 3)) (mCons (mV 1) mNil))) (mCons (mOp2 qSub (mV 1) (mCB cMin (mCons (mC (.int 2)) (mCons (mV 1) mNil)))) mNil))))) (mV 2)) mNil)) (gN 6) (mSeq (mSetIx 4 (mPopAt 3 (mCall0 0 m_law_draw (mCons (mLenN 3) mNil))) (mC (.int 1)))
  mNx))
  mNx)) mNx)
  (mSeq (mRet (mMv 4))
  mNx))))
def m_law_slits : Rho → Rz Rv := fnM [0] 2 7 b_law_slits
def b_law_form : Rho → Rz Fl := (mSeq (mPar 1 2 (mCallP m_law_back (mPkA 0 mNil)) (mLenN 0))
  (mSeq (mRet (mCB cMinL (mCons (mOp2 gAdd (mLc (mG gRange1 (mCons (mV 2) mNil)) (gN 3) mYes (mCallP m_law_turnedP (mPkA 0 (mPkA 3 mNil))) [3]) (mLc (mG gRange1 (mCons (mV 2) mNil)) (gN 3) mYes (mCallP m_law_turnedP (mPkA 1 (mPkA 3 mNil))) [3])) mNil)))
  mNx))
def m_law_form : Rho → Rz Rv := fnM [] 1 4 b_law_form
def b_open_lights : Rho → Rz Fl := (mSeq (mSet 2 (mOp2 gMul (mLst (mCons (mC (.int 0)) mNil)) (mV 0)))
  (mSeq (mFor (mItems (mV 1)) (gN 3) (mSeq (mFor (mItems (mV 1)) (gN 4) (mSeq (mAugIx 2 (fun x y => x + y) (mOp2 qSub (mV 3) (mV 4)) (mC (.int 1)))
  mNx))
  mNx))
  (mSeq (mRet (mMv 2))
  mNx)))
def m_open_lights : Rho → Rz Rv := fnM [] 2 5 b_open_lights
def b_law_all_k23 : Rho → Rz Fl := (mSeq (mSet 2 (mLst (mCons (mLst mNil) mNil)))
  (mSeq (mFor (mG gRange1 (mCons (mV 0) mNil)) (gN 3) (mSeq (mSet 4 (mLst mNil))
  (mSeq (mFor (mItems (mV 2)) (gN 5) (mSeq (mSet 4 (mOp2 gAdd (mV 4) (mLc (mItems (mTup (mCons (mC (.int 0)) (mCons (mC (.int 1)) mNil)))) (gN 6) (mB (mOp2 qLe (mOp2 gAdd (mCB cSum (mCons (mV 5) mNil)) (mV 6)) (mV 1))) (mOp2 gAdd (mV 5) (mLst (mCons (mV 6) mNil))) [6])))
  mNx))
  (mSeq (mSet 2 (mV 4))
  mNx))))
  (mSeq (mRet (mLc (mItems (mV 2)) (gN 5) (mB (mOp2 qEq (mCB cSum (mCons (mV 5) mNil)) (mV 1))) (mV 5) [5]))
  mNx)))
def m_law_all_k23 : Rho → Rz Rv := fnM [] 2 7 b_law_all_k23
def b_slotted_discs : Rho → Rz Fl := (mSeq (mSet 2 (mLst mNil))
  (mSeq (mFor (mG gRange1 (mCons (mOp2 qShl (mC (.int 1)) (mV 0)) mNil)) (gN 3) (mSeq (mSet 4 (mLc (mG gRange1 (mCons (mV 0) mNil)) (gN 5) mYes (mOp2 qAnd (mOp2 qShr (mV 3) (mOp2 qSub (mOp2 qSub (mV 0) (mC (.int 1))) (mV 5))) (mC (.int 1))) [5]))
  (mSeq (mIfS (mB (mOp2 qEq (mCB cSum (mCons (mV 4) mNil)) (mV 1))) (mSeq (mDrop (mApp 2 (mTup (mCons (mV 4) (mCons (mCallP m_open_lights (mPkA 0 (mCons (mLc (mG gRange1 (mCons (mV 0) mNil)) (gN 5) (mB (mOp2 qEq (mIxN 4 (mV 5)) (mC (.int 1)))) (mV 5) [5]) mNil))) mNil)))))
  mNx) mNx)
  mNx)))
  (mSeq (mRet (mMv 2))
  mNx)))
def m_slotted_discs : Rho → Rz Rv := fnM [] 2 6 b_slotted_discs
def b_require_slotted : Rho → Rz Fl := (mSeq (mSet 2 (mCallP m_slotted_fault (mPkA 0 mNil)))
  (mSeq (mIfS (mB (mOp2 qNe (mV 2) (mTup mNil))) (mSeq (fun _ => .stuck)
  mNx) mNx)
  (mSeq (mIfS (mB (mOp2 qGt (mLenN 0) (mV 1))) (mSeq (fun _ => .stuck)
  mNx) mNx)
  mNx)))
def m_require_slotted : Rho → Rz Rv := fnM [] 2 3 b_require_slotted
def b_law_unlike_k23 : Rho → Rz Fl := (mSeq (mRet (mLc (mItems (mCB gSrtT (mCons (mLc (mItems (mV 0)) (gN 2) mYes (mCB gTupleOf (mCons (mV 2) mNil)) [2]) mNil))) (gN 1) mYes (mCB gListOf (mCons (mV 1) mNil)) [1]))
  mNx)
def m_law_unlike_k23 : Rho → Rz Rv := fnM [] 1 3 b_law_unlike_k23
def b_unlike_forms : Rho → Rz Fl := (mSeq (mRet (mLc (mItems (mCB gSrtT (mCons (mLc (mItems (mV 0)) (gN 2) mYes (mCB gTupleOf (mCons (mCall m_least_like (mCons (mV 2) mNil)) mNil)) [2]) mNil))) (gN 1) mYes (mCB gListOf (mCons (mV 1) mNil)) [1]))
  mNx)
def m_unlike_forms : Rho → Rz Rv := fnM [] 1 3 b_unlike_forms
def b_twin_discsL : Rho → Rz Fl := (mSeq (mDrop (mCallP m_require_slotted (mPkA 0 (mCons (mC (.int 14)) mNil))))
  (mSeq (mSet 1 (mCallP m_own_of (mPkA 0 mNil)))
  (mSeq (mRet (mCall m_unlike_forms (mCons (mLc (mItems (mCall m_slotted_discs (mCons (mLenN 0) (mCons (mSumN 0) mNil)))) (gTp 2 (gsCons (gN 2) (gsCons (gN 3) gsNil))) (mB (mOp2 qEq (mV 3) (mV 1))) (mV 2) [2, 3]) mNil)))
  mNx)))
def m_twin_discsL : Rho → Rz Rv := fnM [] 1 4 b_twin_discsL
def b_law_right_k23 : Rho → Rz Fl := (mSeq (mPar 1 2 (mReprN 0) (mCallP m_law_own (mPkA 0 mNil)))
  (mSeq (mSet 3 (mLc (mItems (mCall m_law_all_k23 (mCons (mLenN 0) (mCons (mCB cSum (mCons (mV 0) mNil)) mNil)))) (gN 4) (mOrT (mB (mOp2 qEq (mIxN 4 (mOp1 gNeg (mC (.int 1)))) (mC (.int 1)))) (mB (mOp2 qEq (mCB cSum (mCons (mV 4) mNil)) (mC (.int 0))))) (mV 4) [4]))
  (mSeq (mSet 5 (mCall m_law_unlike_k23 (mCons (mLc (mItems (mV 3)) (gN 4) (mB (mOp2 qEq (mCallP m_law_own (mPkA 4 mNil)) (mV 2))) (mCall m_law_form (mCons (mV 4) mNil)) [4]) mNil)))
  (mTold 6 [0, 1, 5] (mKwL (fnM [0] 1 4 b_twin_discsL) (mCons (mV 0) mNil)) (toEnd (toIf 6 (mOrT (mB (mOp2 qNe (mReprN 6) (mReprN 5))) (mB (mOp2 qNe (mReprN 0) (mV 1)))) (toSeq (toRet (.bool false)) toNx)) (toEnd toApp0 (toEnd (toIf 6 (mB (mOp2 qNe (mCutN 6 (mSo (mC (.int 1))) mNo) (mCutN 5 (mSo (mC (.int 1))) mNo))) (toSeq (toRet (.bool false)) toNx)) (toApp
  (mSeq (mRet (mOp2 qEq (mCB cRepr (mCons (mCall m_twin_discsL (mCons (mV 0) mNil)) mNil)) (mReprN 5)))
  mNx)))))))))
def m_law_right_k23 : Rho → Rz Rv := fnM [] 1 7 b_law_right_k23
def b_law_k23 : Rho → Rz Fl := (mSeq (mFor (mG gRange1 (mCons (mCB cMax (mCons (mC (.int 1)) (mCons (mCB cMin (mCons (mC (.int 3)) (mCons (mLenN 0) mNil))) mNil))) mNil)) (gN 1) (mSeq (mSet 2 (mCallP m_law_pool (mPkA 0 (mPkA 1 mNil))))
  (mSeq (mFor (mItems (mTup (mCons (mOp2 gAdd (mC (.int 1)) (mCall0 2 m_law_draw (mCons (mC (.int 4)) mNil))) (mCons (mOp2 gAdd (mC (.int 5)) (mCall0 2 m_law_draw (mCons (mC (.int 4)) mNil))) (mCons (mC (.int 8)) mNil))))) (gN 3) (mSeq (mIfS (mNotT (mTr (mCallP m_law_right_k23 (mCons (mCall0 2 m_law_slits (mCons (mV 3) mNil)) mNil)))) (mSeq (mRet (mC (.bool false)))
  mNx) mNx)
  mNx))
  (mSeq (mIfS (mAndT (mB (mOp2 qEq (mV 1) (mC (.int 0)))) (mNotT (mTr (mCallP m_law_right_k23 (mCons (mCall0 2 m_law_slits (mCons (mOp2 gAdd (mC (.int 9)) (mCB cInt (mCons (mOp2 qEq (mCall0 2 m_law_draw (mCons (mC (.int 8)) mNil)) (mC (.int 0))) mNil))) mNil)) mNil))))) (mSeq (mRet (mC (.bool false)))
  mNx) mNx)
  (mSeq (mIfS (mAndT (mB (mOp2 qEq (mV 1) (mC (.int 0)))) (mB (mOp2 qEq (mCall0 2 m_law_draw (mCons (mC (.int 3)) mNil)) (mC (.int 0))))) (mSeq (mPar 4 5 (mListRg (mC (.int 12))) (mOp2 gMul (mLst (mCons (mC (.int 0)) mNil)) (mOp2 gAdd (mC (.int 11)) (mCall0 2 m_law_draw (mCons (mC (.int 2)) mNil)))))
  (mSeq (mFor (mG gRange1 (mCons (mC (.int 4)) mNil)) (gN 6) (mSeq (mSetIx 5 (mOp2 qSub (mPopAt 4 (mCall0 2 m_law_draw (mCons (mLenN 4) mNil))) (mC (.int 1))) (mC (.int 1)))
  mNx))
  (mSeq (mIfS (mNotT (mTr (mCallP m_law_right_k23 (mPkA 5 mNil)))) (mSeq (mRet (mC (.bool false)))
  mNx) mNx)
  mNx))) mNx)
  mNx)))))
  (mSeq (mIfS (mB (mOp2 qEqS (mV 0) (mLst mNil))) (mSeq (mSet 5 (mOp2 gAdd (mLst (mCons (mC (.int 1)) mNil)) (mLc (mG gRange2 (mCons (mC (.int 1)) (mCons (mC (.int 14)) mNil))) (gN 7) mYes (mCB cInt (mCons (mOp2 qEq (mV 7) (mC (.int 5))) mNil)) [7])))
  (mSeq (mIfS (mOrT (mB (mOp2 qNe (mCall m_twin_discsL (mCons (mV 5) mNil)) (mLst (mCons (mCall m_law_form (mCons (mV 5) mNil)) mNil)))) (mB (mOp2 qNe (mCall m_twin_discsL (mCons (mOp2 gMul (mLst (mCons (mC (.int 0)) mNil)) (mC (.int 14))) mNil)) (mLst (mCons (mOp2 gMul (mLst (mCons (mC (.int 0)) mNil)) (mC (.int 14))) mNil))))) (mSeq (mRet (mC (.bool false)))
  mNx) mNx)
  (mSeq (mIfS (mOrT (mNotT (mTr (mCallP m_law_right_k23 (mCons (mLst (mCons (mC (.int 1)) (mCons (mC (.int 1)) (mCons (mC (.int 0)) (mCons (mC (.int 1)) (mCons (mC (.int 0)) (mCons (mC (.int 0)) (mCons (mC (.int 0)) (mCons (mC (.int 1)) (mCons (mC (.int 0)) (mCons (mC (.int 0)) (mCons (mC (.int 0)) (mCons (mC (.int 0)) mNil))))))))))))) mNil)))) (mNotT (mTr (mCallP m_law_right_k23 (mCons (mLst (mCons (mC (.int 1)) (mCons (mC (.int 1)) (mCons (mC (.int 1)) (mCons (mC (.int 0)) (mCons (mC (.int 1)) (mCons (mC (.int 0)) (mCons (mC (.int 1)) (mCons (mC (.int 0)) (mCons (mC (.int 0)) (mCons (mC (.int 1)) (mCons (mC (.int 0)) (mCons (mC (.int 0)) mNil))))))))))))) mNil))))) (mSeq (mRet (mC (.bool false)))
  mNx) mNx)
  mNx))) mNx)
  (mSeq (mSet 8 (mLst (mCons (mC (.int 1)) (mCons (mC (.int 1)) (mCons (mC (.int 0)) (mCons (mC (.int 1)) (mCons (mC (.int 1)) (mCons (mC (.int 0)) (mCons (mC (.int 0)) (mCons (mC (.int 0)) mNil))))))))))
  (mSeq (mRet (mOp2 qEq (mCall m_twin_discsL (mCons (mV 8) mNil)) (mLst (mCons (mLst (mCons (mC (.int 0)) (mCons (mC (.int 0)) (mCons (mC (.int 0)) (mCons (mC (.int 1)) (mCons (mC (.int 1)) (mCons (mC (.int 0)) (mCons (mC (.int 1)) (mCons (mC (.int 1)) mNil))))))))) (mCons (mLst (mCons (mC (.int 0)) (mCons (mC (.int 0)) (mCons (mC (.int 1)) (mCons (mC (.int 0)) (mCons (mC (.int 0)) (mCons (mC (.int 1)) (mCons (mC (.int 1)) (mCons (mC (.int 1)) mNil))))))))) mNil)))))
  mNx))))
def m_law_k23 : Rho → Rz Rv := fnM [] 1 9 b_law_k23
end Sd
namespace Sd
open PySem PySem.Spec
@[simp] theorem s_is_integer {i : Int} {Q : Rv → Rho → Prop} : Wp (m_is_integer [.fr (.int i)]) Q ↔ Q (.fr (.bool true)) [.fr (.int i)] := by
  unfold m_is_integer b_is_integer
  rw [w_fnM]
  simp [outs, show okArgs [] 1 [.fr (.int i)] = true from rfl]
@[simp] theorem s_is_at_least {i l : Int} {Q : Rv → Rho → Prop} : Wp (m_is_at_least [.fr (.int i), .fr (.int l)]) Q ↔ Q (.fr (.bool (decide (l ≤ i)))) [.fr (.int i), .fr (.int l)] := by
  unfold m_is_at_least b_is_at_least
  rw [w_fnM]
  simp [outs, hard, Rv.hard, show okArgs [] 2 [.fr (.int i), .fr (.int l)] = true from rfl]
def It (i : Int) : Prop := 0 ≤ i ∧ i ≤ 10 ^ 30
theorem s_is_item {i : Int} {Q : Rv → Rho → Prop} (hi : It i) (h : Q (.fr (.bool true)) [.fr (.int i)]) : Wp (m_is_item [.fr (.int i)]) Q := by
  unfold m_is_item b_is_item
  refine w_fnM.mpr ⟨rfl, ?_⟩
  obtain ⟨h0, h1⟩ := hi
  have h2 : i ≤ 1000000000000000000000000000000 := h1
  simp [outs, hard, Rv.hard, h0, h2, h]
def Dc (ns : List Int) : Prop := 1 ≤ ns.length ∧ ns.length ≤ 40 ∧ ∀ n ∈ ns, It n
abbrev il (ns : List Int) : PD := .list (ns.map PyData.int)
theorem s_turned_by {ns : List Int} {t : Int} {Q : Rv → Rho → Prop} (hd : Dc ns) (h : Q (.ow ((rot t ns).map PyData.int)) [.fr (il ns), .fr (.int t)]) : Wp (m_turned_by [.fr (il ns), .fr (.int t)]) Q := by
  obtain ⟨h1, h2, h3⟩ := hd
  unfold m_turned_by b_turned_by
  refine w_fnM.mpr ⟨rfl, ?_⟩
  have hne : ns ≠ [] := fun z => by subst z; simp at h1
  have e0 : 0 ≤ (-t).fmod ns.length := by rw [Int.fmod_eq_emod_of_nonneg _ (by omega)]; exact Int.emod_nonneg _ (by omega)
  have e1 : (-t).fmod (ns.length : Int) = (-t) % ns.length := Int.fmod_eq_emod_of_nonneg _ (by omega)
  simp [outs, hne, cutL_from e0, cutL_to e0, okLen]
  refine ⟨by omega, ?_⟩
  unfold rot at h
  simp [e1] at h ⊢
  exact h
theorem s_mirrored_by {ns : List Int} {Q : Rv → Rho → Prop} (hd : Dc ns) (h : Q (.ow ((mir ns).map PyData.int)) [.fr (il ns)]) : Wp (m_mirrored_by [.fr (il ns)]) Q := by
  obtain ⟨h1, h2, h3⟩ := hd
  unfold m_mirrored_by b_mirrored_by
  refine w_fnM.mpr ⟨rfl, ?_⟩
  simp [outs, cutL_to, step_rev1, okLen]
  refine ⟨by omega, ?_⟩
  unfold mir at h
  simpa using h
theorem it_mul {a b : Int} (ha : It a) (hb : It b) : okMul a b = true := okMul_sm (sm_of (by have := ha.1; omega) (by have := ha.2; omega)) (sm_of (by have := hb.1; omega) (by have := hb.2; omega))
theorem dc_bn {ns : List Int} (hd : Dc ns) : ∀ n ∈ ns, Bn n := fun n hn => by
  obtain ⟨a, b⟩ := hd.2.2 n hn
  unfold Bn
  omega
def nth (as : List Int) (i : Nat) : Int := as.getD i 0
theorem at_nat {as : List Int} {s : Nat} (h : s < as.length) : (as.map PyData.int)[s]? = some (.int (nth as s)) := by
  unfold nth
  rw [List.getElem?_map, List.getElem?_eq_getElem h]
  simp [List.getD_eq_getElem?_getD, List.getElem?_eq_getElem h]
theorem at_mod {bs : List Int} {t : Int} (h : 0 < bs.length) : L2.atI (bs.map PyData.int) (t % bs.length) = some (.int (nth bs (t % bs.length).toNat)) := by
  have h1 := Int.emod_nonneg t (show (bs.length : Int) ≠ 0 by omega)
  have h2 := Int.emod_lt_of_pos t (show 0 < (bs.length : Int) by omega)
  rw [atI_nn h1, at_nat (by omega)]
theorem at_neg {bs : List Int} {t : Int} (h1 : -(bs.length : Int) < t) (h2 : t < bs.length) : L2.atI (bs.map PyData.int) t = some (.int (nth bs (t % bs.length).toNat)) := by
  by_cases h : 0 ≤ t
  · rw [Int.emod_eq_of_lt h h2, atI_nn h, at_nat (by omega)]
  · have e : t % (bs.length : Int) = t + bs.length := by
      rw [← Int.add_emod_right, Int.emod_eq_of_lt (by omega) (by omega)]
    rw [e]
    unfold L2.atI L2.ixN
    rw [List.length_map, if_neg h, if_pos (by omega)]
    simp only [Option.bind_some]
    rw [at_nat (by omega)]
theorem getD_it {as : List Int} {s : Nat} (ha : ∀ x ∈ as, It x) (h : s < as.length) : It (nth as s) := by
  unfold nth
  rw [List.getD_eq_getElem?_getD, List.getElem?_eq_getElem h]
  exact ha _ (List.getElem_mem h)
theorem sum_nth : ∀ as : List Int, as.sum = upto (nth as) as.length := fun as => by
  rw [← upto_range]
  congr 1
  (refine List.ext_getElem (by simp) fun i h1 h2 => ?_)
  rw [List.getElem_map, List.getElem_range]
  unfold nth
  rw [List.getD_eq_getElem?_getD, List.getElem?_eq_getElem h1]
  rfl
def tn (as : List Int) (t : Int) : List Int := (List.range as.length).map fun (i : Nat) => nth as (((i : Int) - t) % as.length).toNat
theorem dc_mir {ns : List Int} (hd : Dc ns) : Dc (mir ns) := ⟨by rw [mir_len]; exact hd.1, by rw [mir_len]; exact hd.2.1, fun n hn => hd.2.2 n (mem_mir hn)⟩
def Lt1 (ds rw : List Int) (t : Nat) : Int := dot ds (rot t rw)
def Ls (ds rw : List Int) : List Int := (List.range ds.length).map (Lt1 ds rw)
def lay (as bs : List Int) (g s : Nat) : Int := nth as s * nth bs (((g : Int) - s) % as.length).toNat
def laid (as bs : List Int) : List Int := (List.range as.length).map fun g => upto (lay as bs g) as.length
@[simp] theorem laid_len {as bs : List Int} : (laid as bs).length = as.length := by simp [laid]
def fx (t : Int) (n j : Nat) : Nat := ((t * j) % n).toNat
def Mo (t : Int) (ns : List Int) (L : List Int) : Prop := L.length = ns.length ∧ ∀ j, j < ns.length → L[fx t ns.length j]? = ns[j]?
def Sd1 (ns : List Int) : Prop := 1 ≤ ns.length ∧ ns.length ≤ 40 ∧ ∀ n ∈ ns, 0 ≤ n ∧ n ≤ 1
theorem sd_dc {ns : List Int} (h : Sd1 ns) : Dc ns := ⟨h.1, h.2.1, fun n hn => ⟨(h.2.2 n hn).1, by have := (h.2.2 n hn).2; omega⟩⟩
theorem s_slotted_fault {ns : List Int} {Q : Rv → Rho → Prop} (hd : Sd1 ns) (h : Q (.fr (.tuple [])) [.fr (il ns)]) : Wp (m_slotted_fault [.fr (il ns)]) Q := by
  obtain ⟨h1, h2, h3⟩ := hd
  unfold m_slotted_fault b_slotted_fault
  rw [w_fnM]
  refine ⟨rfl, ?_⟩
  have h1' : (1 : Int) ≤ ns.length := by omega
  have h2' : (ns.length : Int) ≤ 40 := by omega
  simp [outs, h1', h2']
  refine for_inv (fun ds ρ => (∃ a b, ρ = [.fr (il ns), a, b]) ∧ ∃ k ms, ds = enumD k (ms.map PyData.int) ∧ ∀ n ∈ ms, (0 : Int) ≤ n ∧ n ≤ 1) ⟨⟨_, _, rfl⟩, 0, ns, rfl, h3⟩ (fun d ds ρ hI => ?_) (fun ρ hI => ?_)
  · obtain ⟨⟨a, b, rfl⟩, k, ms, e, hm⟩ := hI
    cases ms with
    | nil => simp [enumD] at e
    | cons m ms =>
      simp [enumD] at e
      obtain ⟨rfl, rfl⟩ := e
      have m1 := hm m (List.mem_cons_self ..)
      have m2 : ¬ 1 < m := by omega
      rw [w_turnF]
      simp
      refine s_is_item ⟨m1.1, by omega⟩ ?_
      simp [hard, Rv.hard, m2, m1.2]
      exact ⟨_, ms, rfl, fun n hn => hm n (List.mem_cons_of_mem _ hn)⟩
  · obtain ⟨⟨a, b, rfl⟩, _⟩ := hI
    simp [outs, h]
theorem s_require_slotted {ns : List Int} {most : Int} {Q : Rv → Rho → Prop} (hd : Sd1 ns) (hm : (ns.length : Int) ≤ most) (h : Q (.fr .none) [.fr (il ns), .fr (.int most)]) : Wp (m_require_slotted [.fr (il ns), .fr (.int most)]) Q := by
  unfold m_require_slotted b_require_slotted
  rw [w_fnM]
  refine ⟨rfl, ?_⟩
  simp [outs]
  refine s_slotted_fault hd ?_
  have e : gNe (.tuple []) (.tuple []) = some (.bool false) := rfl
  have m2 : ¬ most < (ns.length : Int) := by omega
  simp [hard, Rv.hard, hardAll, e, m2, hm, h]
def shut (ns : List Int) : List Int := ns.map fun x => 1 - x
theorem tn_len {as : List Int} {t : Int} : (tn as t).length = as.length := by simp [tn]
theorem tn_rot {as : List Int} {t : Int} : tn as t = rot t as := by
  refine list_by (f := ft t as.length) (g := ft (-t) as.length) (zs := as) tn_len (rot_len t as) (fun k hk => ⟨ft_lt hk, ft_on hk⟩) (fun j hj => ?_) (fun j hj => rot_at hj)
  have hl := ft_lt (t := t) hj
  unfold tn
  rw [List.getElem?_map, List.getElem?_range hl]
  have e : ((((ft t as.length j : Nat) : Int) - t) % (as.length : Int)).toNat = ft (-t) as.length (ft t as.length j) := by
    show _ = (((ft t as.length j : Nat) + -t) % (as.length : Int)).toNat
    rw [Int.sub_eq_add_neg]
  simp only [Option.map_some]
  rw [e, ft_back hj]
  unfold nth
  rw [List.getD_eq_getElem?_getD, List.getElem?_eq_getElem hj]
  rfl
def bk (ns : List Int) : List Int := (List.range ns.length).map fun (i : Nat) => (ns.getD ((0 - (i : Int)) % ns.length).toNat 0)
theorem bk_mir {as : List Int} : bk as = mir as := by
  refine list_by (f := fm as.length) (g := fm as.length) (zs := as) (by simp [bk]) (mir_len as) (fun k hk => ⟨fm_lt hk, fm_back hk⟩) (fun j hj => ?_) (fun j hj => mir_at hj)
  have hl := fm_lt hj
  unfold bk
  rw [List.getElem?_map, List.getElem?_range hl]
  have e2 : ((0 - ((fm as.length j : Nat) : Int)) % (as.length : Int)).toNat = fm as.length (fm as.length j) := by unfold fm; rw [Int.zero_sub]
  simp only [Option.map_some]
  rw [e2, fm_back hj, List.getD_eq_getElem?_getD, List.getElem?_eq_getElem hj]
  rfl
def rots (as : List Int) : List (List Int) := (List.range as.length).map fun (t : Nat) => rot t as
def ilf (xs : List Int) : PD := .list (xs.map PyData.int)
def rotD (as : List Int) : List PD := (rots as).map ilf
theorem rotD_eq (as : List Int) : rotD as = (List.range as.length).map fun (t : Nat) => il (rot t as) := by
  unfold rotD rots
  rw [List.map_map]; rfl
@[simp] theorem rotD_len {as : List Int} : (rotD as).length = as.length := by simp [rotD, rots]
def frm (as : List Int) : PD := leastD (rotD as ++ rotD (mir as))
theorem g_frm {as : List Int} (h : 1 ≤ as.length) : gMm PySem.W.minD [.list (rotD as ++ rotD (mir as))] = some (frm as) := by
  refine g_min (fun z => ?_) ?_
  · have := congrArg List.length z
    rw [List.length_append, rotD_len, List.length_nil] at this
    omega
  · unfold rotD
    rw [← List.map_append]
    exact okMm_ils _
theorem s_turned_all {as : List Int} {Q : Rv → Rho → Prop} (ha : Dc as) (h : Q (.ow (rotD as)) [.fr (il as)]) : Wp (m_turned_all [.fr (il as)]) Q := by
  have h1 := ha.1
  have h2 := ha.2.1
  have b1 : big62 (as.length : Int) = true := big62_of (by omega) (by omega)
  unfold m_turned_all b_turned_all
  rw [w_fnM]
  refine ⟨rfl, ?_⟩
  simp [outs, b1]
  refine ⟨by omega, ?_⟩
  rw [rangeD_eq]
  refine lc_map (f := fun (t : Nat) => il (rot t as)) (fun t ht => ?_) ?_
  · rw [w_turnL]
    simp
    refine s_turned_by ha ?_
    have hh := hardAll_ints (rot (t : Int) as)
    simp [Rv.hard, hh]
  · rw [← rotD_eq]
    simpa using h
theorem s_least_like {as : List Int} {Q : Rv → Rho → Prop} (ha : Dc as) (h : Q (.fr (frm as)) [.fr (il as)]) : Wp (m_least_like [.fr (il as)]) Q := by
  have h1 := ha.1
  have h2 := ha.2.1
  unfold m_least_like b_least_like
  rw [w_fnM]
  refine ⟨rfl, ?_⟩
  simp [outs]
  refine s_turned_all ha ?_
  simp
  refine s_mirrored_by ha ?_
  have hh := hardAll_ints (mir as)
  simp [Rv.hard, hh]
  refine s_turned_all (dc_mir ha) ?_
  simp [g_frm h1]
  exact ⟨by omega, h⟩
def ow1 (as : List Int) (t : Nat) : Int := upto (fun s => nth as s * nth as (((s : Int) - t) % as.length).toNat) as.length
def ownl (as : List Int) : List Int := (List.range as.length).map (ow1 as)
@[simp] theorem ownl_len {as : List Int} : (ownl as).length = as.length := by simp [ownl]
theorem s_own_of {as : List Int} {Q : Rv → Rho → Prop} (ha : Dc as) (h : Q (.ow ((ownl as).map PyData.int)) [.fr (il as)]) : Wp (m_own_of [.fr (il as)]) Q := by
  have h1 := ha.1
  have h2 := ha.2.1
  have b1 : big62 (as.length : Int) = true := big62_of (by omega) (by omega)
  unfold m_own_of b_own_of
  rw [w_fnM]
  refine ⟨rfl, ?_⟩
  simp [outs, b1]
  refine ⟨by omega, ?_⟩
  refine lc_range (f := ow1 as) (fun t ht => ?_) ?_
  · rw [w_turnL]
    simp [b1]
    refine ⟨by omega, ?_⟩
    refine lc_range (f := fun s => nth as s * nth as (((s : Int) - t) % as.length).toNat) (fun s hs => ?_) ?_
    · rw [w_turnL]
      have e1 := at_nat (as := as) hs
      have e2 := at_neg (bs := as) (t := (s : Int) - t) (by omega) (by omega)
      have hp : (((s : Int) - t) % as.length).toNat < as.length := by
        have q1 := Int.emod_nonneg ((s : Int) - t) (show (as.length : Int) ≠ 0 by omega)
        have q2 := Int.emod_lt_of_pos ((s : Int) - t) (show 0 < (as.length : Int) by omega)
        omega
      have o := it_mul (getD_it ha.2.2 hs) (getD_it ha.2.2 hp)
      simp only [List.getElem?_map] at e1
      simp [e1, e2, o]
    · simp [upto_range, ow1]
  · simp
    simpa [ownl] using h
def cyc (as : List Int) (i : Int) : Int := nth as (i % as.length).toNat
theorem cyc_emod {as : List Int} {i : Int} : cyc as (i % as.length) = cyc as i := by
  unfold cyc
  rw [Int.emod_emod_of_dvd _ (Int.dvd_refl _)]
theorem cyc_congr {as : List Int} {i j : Int} (h : i % as.length = j % as.length) : cyc as i = cyc as j := by
  unfold cyc; rw [h]
theorem cyc_nat {as : List Int} {i : Nat} (h : i < as.length) : cyc as i = nth as i := by
  unfold cyc
  rw [Int.emod_eq_of_lt (by omega) (by omega)]
  rfl
theorem nth_map {f : Nat → Int} {n i : Nat} (h : i < n) : nth ((List.range n).map f) i = f i := by
  unfold nth
  (rw [List.getD_eq_getElem?_getD, List.getElem?_map, List.getElem?_range h])
  rfl
theorem em_lt {i : Int} {n : Nat} (h : 0 < n) : (i % n).toNat < n ∧ (((i % n).toNat : Nat) : Int) = i % n := by
  have h1 := Int.emod_nonneg i (show (n : Int) ≠ 0 by omega)
  have h2 := Int.emod_lt_of_pos i (show 0 < (n : Int) by omega)
  omega
theorem cyc_map {f : Int → Int} {n : Nat} (hn : 0 < n) (per : ∀ i : Int, f (i % n) = f i) (i : Int) : cyc ((List.range n).map fun (k : Nat) => f k) i = f i := by
  have h := em_lt (i := i) hn
  unfold cyc
  rw [List.length_map, List.length_range, nth_map h.1, h.2, per]
theorem cyc_ext {as bs : List Int} (hl : as.length = bs.length) (h : ∀ i : Int, cyc as i = cyc bs i) : as = bs := by
  refine List.ext_getElem hl fun i h1 h2 => ?_
  have e := h i
  rw [cyc_nat h1, cyc_nat h2] at e
  unfold nth at e
  rw [List.getD_eq_getElem?_getD, List.getD_eq_getElem?_getD, List.getElem?_eq_getElem h1, List.getElem?_eq_getElem h2] at e
  exact e
theorem cyc_rot {as : List Int} {t i : Int} (h : 0 < as.length) : cyc (rot t as) i = cyc as (i - t) := by
  rw [← tn_rot]
  unfold tn
  refine cyc_map (f := fun i => cyc as (i - t)) h (fun i => cyc_congr ?_) i
  rw [Int.sub_emod, Int.emod_emod_of_dvd _ (Int.dvd_refl _), ← Int.sub_emod]
theorem cyc_mir {as : List Int} {i : Int} (h : 0 < as.length) : cyc (mir as) i = cyc as (-i) := by
  rw [← bk_mir]
  have e : bk as = (List.range as.length).map fun (k : Nat) => cyc as (-(k : Int)) := by
    unfold bk cyc nth
    (refine List.map_congr_left fun k _ => ?_)
    rw [Int.zero_sub]
  rw [e]
  refine cyc_map (f := fun i => cyc as (-i)) h (fun i => cyc_congr ?_) i
  rw [← Int.zero_sub, ← Int.zero_sub, Int.sub_emod, Int.emod_emod_of_dvd _ (Int.dvd_refl _), ← Int.sub_emod]
theorem rot_rot {as : List Int} {s t : Int} (h : 0 < as.length) : rot s (rot t as) = rot (s + t) as := by
  refine cyc_ext (by simp) fun i => ?_
  rw [cyc_rot (by simpa using h), cyc_rot h, cyc_rot h]
  congr 1; omega
theorem rot_emod {as : List Int} {t : Int} (h : 0 < as.length) : rot (t % as.length) as = rot t as := by
  refine cyc_ext (by simp) fun i => ?_
  rw [cyc_rot h, cyc_rot h]
  refine cyc_congr ?_
  rw [Int.sub_emod, Int.emod_emod_of_dvd _ (Int.dvd_refl _), ← Int.sub_emod]
theorem mir_mir {as : List Int} (h : 0 < as.length) : mir (mir as) = as := by
  refine cyc_ext (by simp) fun i => ?_
  rw [cyc_mir (by simpa using h), cyc_mir h]
  congr 1; omega
theorem rot_mir {as : List Int} {t : Int} (h : 0 < as.length) : rot t (mir as) = mir (rot (-t) as) := by
  refine cyc_ext (by simp) fun i => ?_
  rw [cyc_rot (by simpa using h), cyc_mir h, cyc_mir (by simpa using h), cyc_rot h]
  congr 1; omega
theorem upto_sh {n : Nat} {f : Int → Int} {s : Int} (hn : 0 < n) (per : ∀ i : Int, f (i % n) = f i) : upto (fun i => f ((i : Int) - s)) n = upto (fun i => f (i : Int)) n := by
  have hs := em_lt (i := s) hn
  have e := upto_shift (n := n) (s := (s % n).toNat) (fun i => f (i : Int)) hn
  rw [← e]
  refine upto_congr fun i _ => ?_
  rw [back_cast hn, hs.2, per, ← per, Int.sub_emod, ← per ((i : Int) - s % n), Int.sub_emod (i : Int) (s % n), Int.emod_emod_of_dvd _ (Int.dvd_refl _)]
theorem upto_neg {n : Nat} {f : Int → Int} (hn : 0 < n) (per : ∀ i : Int, f (i % n) = f i) : upto (fun i => f (-(i : Int))) n = upto (fun i => f (i : Int)) n := by
  have e := upto_back (n := n) (g := 0) (fun i => f (i : Int)) hn
  rw [← e]
  refine upto_congr fun i _ => ?_
  rw [back_cast hn, per]
  congr 1; omega
@[simp] theorem ls_len {ds rw : List Int} : (Ls ds rw).length = ds.length := by simp [Ls]
theorem canLay_ints : ∀ xs : List Int, PyData.canLayAll0 (xs.map PyData.int) = true
  | [] => rfl
  | x :: xs => by simp [PyData.canLayAll0, PyData.canLay0, canLay_ints xs]
theorem shaped_ils (xss : List (List Int)) : SeqAt.shaped (.list (xss.map ilf)) = true := by
  have d : ∀ xss : List (List Int), PyData.depthAll (xss.map ilf) ≤ 1 ∧ PyData.canLayAll0 (xss.map ilf) = true := fun xss => by
    induction xss with
    | nil => decide
    | cons x xss ih =>
      simp only [List.map_cons, PyData.depthAll, PyData.depth, PyData.canLayAll0, PyData.canLay0, ilf, PySem.W.ke_depthAll, canLay_ints, Bool.true_and]
      refine ⟨?_, ih.2⟩
      exact Nat.max_le.mpr ⟨by decide, ih.1⟩
  obtain ⟨d1, d2⟩ := d xss
  unfold SeqAt.shaped
  simp only [PyData.canLay0, PyData.depth, Bool.and_eq_true, decide_eq_true_eq]
  exact ⟨d2, decide_eq_true (show PyData.depthAll (List.map ilf xss) + 1 ≤ 64 by omega)⟩
def IsLst (xss : List (List Int)) (L : List Int) : Prop := L ∈ xss ∧ ∀ M ∈ xss, L ≤ M
theorem lst_uniq {xss yss : List (List Int)} {L M : List Int} (h : IsLst xss L) (h' : IsLst yss M) (e : ∀ x, x ∈ xss ↔ x ∈ yss) : L = M :=
  List.le_antisymm (h.2 M ((e M).mpr h'.1)) (h'.2 L ((e L).mp h.1))
theorem fold_lst : ∀ (xss : List (List Int)) (x : List Int), ∃ L, IsLst (x :: xss) L ∧ (xss.map ilf).foldl (fun a y => if PySem.W.dataLt y a = true then y else a) (ilf x) = ilf L
  | [], x => ⟨x, ⟨by simp, fun M hM => by
      rw [List.mem_singleton.mp hM]
      exact List.le_refl _⟩, rfl⟩
  | y :: ys, x => by
    have e : PySem.W.dataLt (ilf y) (ilf x) = decide (y < x) := dLt_ints y x
    rw [List.map_cons, List.foldl_cons, e]
    by_cases c : y < x
    · obtain ⟨L, h, q⟩ := fold_lst ys y
      refine ⟨L, ⟨List.mem_cons_of_mem _ h.1, fun M hM => ?_⟩, by simpa [c] using q⟩
      rcases List.mem_cons.mp hM with z | z
      · rw [z]
        exact List.le_trans (h.2 y (by simp)) (List.le_of_lt c)
      · exact h.2 M z
    · obtain ⟨L, h, q⟩ := fold_lst ys x
      refine ⟨L, ⟨?_, fun M hM => ?_⟩, by simpa [c] using q⟩
      · rcases List.mem_cons.mp h.1 with z | z
        · rw [z]; simp
        · exact List.mem_cons_of_mem _ (List.mem_cons_of_mem _ z)
      · rcases List.mem_cons.mp hM with z | z
        · rw [z]; exact h.2 x (by simp)
        · (rcases List.mem_cons.mp z with z | z)
          · rw [z]
            exact List.le_trans (h.2 x (by simp)) (List.not_lt.mp c)
          · exact h.2 M (List.mem_cons_of_mem _ z)
theorem least_il {xss : List (List Int)} (h : xss ≠ []) : ∃ L, IsLst xss L ∧ leastD (xss.map ilf) = il L := by
  cases xss with
  | nil => exact absurd rfl h
  | cons x xss => exact fold_lst xss x
theorem mem_rots {as M : List Int} (h : 0 < as.length) : M ∈ rots as ↔ ∃ t : Int, M = rot t as := by
  unfold rots
  constructor
  · intro hm
    obtain ⟨t, _, e⟩ := List.mem_map.mp hm
    exact ⟨t, e.symm⟩
  · rintro ⟨t, rfl⟩
    have := em_lt (i := t) h
    refine List.mem_map.mpr ⟨(t % as.length).toNat, List.mem_range.mpr this.1, ?_⟩
    show rot (((t % as.length).toNat : Nat) : Int) as = _
    rw [this.2, rot_emod h]
theorem rots_rot {as : List Int} {b : Int} (h : 0 < as.length) (M : List Int) : M ∈ rots (rot b as) ↔ M ∈ rots as := by
  rw [mem_rots (by simpa using h), mem_rots h]
  constructor
  · rintro ⟨t, rfl⟩
    exact ⟨t + b, rot_rot h⟩
  · rintro ⟨t, rfl⟩
    exact ⟨t - b, by rw [rot_rot h]; congr 1; omega⟩
theorem rots_mir_rot {as : List Int} {b : Int} (h : 0 < as.length) (M : List Int) : M ∈ rots (mir (rot b as)) ↔ M ∈ rots (mir as) := by
  have e : mir (rot b as) = rot (-b) (mir as) := by rw [rot_mir h, Int.neg_neg]
  rw [e]
  exact rots_rot (by simpa using h) M
theorem rots_ne {as : List Int} (h : 0 < as.length) : rots as ≠ [] := fun z => by
  have := congrArg List.length z
  simp [rots] at this
  subst this; simp at h
theorem frm_il {as : List Int} (h : 0 < as.length) : ∃ L, IsLst (rots as ++ rots (mir as)) L ∧ frm as = il L := by
  unfold frm rotD
  rw [← List.map_append]
  exact least_il fun z => rots_ne h (List.append_eq_nil_iff.mp z).1
def lk (as bs : List Int) : Prop := ∃ t : Int, bs = rot t as ∨ bs = rot t (mir as)
theorem lk_len {as bs : List Int} (h : lk as bs) : bs.length = as.length := by
  obtain ⟨t, rfl | rfl⟩ := h <;> simp
theorem lk_mem {as bs : List Int} (h : 0 < as.length) (q : lk as bs) (M : List Int) : M ∈ rots bs ++ rots (mir bs) ↔ M ∈ rots as ++ rots (mir as) := by
  rw [List.mem_append, List.mem_append]
  obtain ⟨t, rfl | rfl⟩ := q
  · rw [rots_rot h, rots_mir_rot h]
  · rw [rots_rot (by simpa using h), rots_mir_rot (by simpa using h), mir_mir h]
    exact Or.comm
theorem lk_frm {as bs : List Int} (h : 0 < as.length) (q : lk as bs) : frm bs = frm as := by
  obtain ⟨L, h1, e1⟩ := frm_il h
  obtain ⟨M, h2, e2⟩ := frm_il (as := bs) (by rw [lk_len q]; exact h)
  rw [e1, e2, lst_uniq h2 h1 (lk_mem h q)]
theorem lk_of_mem {as M : List Int} (h : 0 < as.length) (q : M ∈ rots as ++ rots (mir as)) : lk as M := by
  rcases List.mem_append.mp q with q | q
  · obtain ⟨t, e⟩ := (mem_rots h).mp q
    exact ⟨t, .inl e⟩
  · obtain ⟨t, e⟩ := (mem_rots (by simpa using h)).mp q
    exact ⟨t, .inr e⟩
abbrev ExP := Str → Option (Str × PD) → Rho → Prop
section
variable {α β : Type} {E : ExP}
variable {ρ : Rho} {a b m n : Rho → Rz Fl} {e : Rho → Rz Rv} {t : Rho → Rz Bool}
end
section
variable {α : Type} {g : PD → Rho → Option Rho} {mt : Rho → Rz Bool} {me : Rho → Rz Rv} {vs : List Nat} {ρ : Rho} {Ql : List PD → Rho → Prop} {xs : List α} {e f : α → PD} {p : α → Bool}
theorem lc_filtR (R : Rho → Prop) (h0 : R ρ) (h : ∀ x ∈ xs, ∀ ρ, R ρ → Wp (turnL g mt me vs (e x) ρ) fun o ρ' => o = (if p x = true then some (f x) else none) ∧ R ρ') (fin : ∀ ρ, R ρ → Ql ((xs.filter p).map f) ρ) : Wp (lcR (turnL g mt me vs) (xs.map e) [] ρ) Ql := by
  refine lc_inv (fun ds acc ρ' => R ρ' ∧ ∃ ys zs, xs = ys ++ zs ∧ ds = zs.map e ∧ acc = (ys.filter p).map f) ⟨h0, [], xs, rfl, rfl, rfl⟩ (fun d ds acc ρ' hI => ?_) (fun acc ρ' hI => ?_)
  · obtain ⟨hR, ys, zs, rfl, e1, rfl⟩ := hI
    cases zs with
    | nil => cases e1
    | cons z zs =>
      cases e1
      refine (h z (by simp) ρ' hR).mono fun o ρ'' q => ?_
      obtain ⟨rfl, hR'⟩ := q
      refine ⟨hR', ys ++ [z], zs, by simp, rfl, ?_⟩
      by_cases c : p z = true <;> simp [c]
  · obtain ⟨hR, ys, zs, rfl, e1, rfl⟩ := hI
    have : zs = [] := by cases zs with
      | nil => rfl
      | cons z zs => cases e1
    subst this
    simpa using fin ρ' hR
end
def Tk (n : Int) (ts : List PD) : Prop := ∃ t0 t1 t2 : Int, ts = [.int t0, .int t1, .int t2] ∧ 0 ≤ t0 ∧ 0 ≤ t1 ∧ t1 ≤ 10 ^ 22 ∧ 0 ≤ t2 ∧ t2 ≤ n
theorem Tk.mono {n m : Int} {ts : List PD} (h : Tk n ts) (hm : n ≤ m) : Tk m ts := by
  obtain ⟨a, b, c, e, h1, h2, h3, h4, h5⟩ := h
  exact ⟨a, b, c, e, h1, h2, h3, h4, by omega⟩
theorem s_law_pool {ns : List Int} {k : Nat} {Q : Rv → Rho → Prop} (hk : k ≤ 100) (h : ∀ ts, Tk 0 ts → Q (.ow ts) [.fr (scr ns), .fr (.int k)]) : Wp (m_law_pool [.fr (scr ns), .fr (.int k)]) Q := by
  unfold m_law_pool b_law_pool
  refine w_fnM.mpr ⟨rfl, ?_⟩
  have o2 : okMul 8191 ((k : Int) + 1) = true := okMul_sm (sm_of (by omega) (by omega)) (sm_of (by omega) (by omega))
  have fin : ∀ c : Int, Tk 0 [.int (if (if c < 0 then -c else c) - 10 ^ 18 > 0 then (if c < 0 then -c else c) - 10 ^ 18 else 0), .int (c.fmod 1000000000000000000117 + 8191 * ((k : Int) + 1)), .int 0] := fun c => by
    have e1 := Int.fmod_eq_emod_of_nonneg c (show (0 : Int) ≤ 1000000000000000000117 by decide)
    refine ⟨_, _, _, rfl, ?_, ?_, ?_, by omega, by omega⟩
    · split <;> omega
    · rw [e1]; omega
    · rw [e1]; omega
  by_cases hc : k < ns.length
  · simp [outs, hc, o2, List.getElem?_eq_getElem hc]
    have := h _ (fin ns[k])
    simpa using this
  · simp [outs, hc, o2]
    have := h _ (fin 0)
    simpa using this
theorem s_law_draw {n many : Int} {ts : List PD} {Q : Rv → Rho → Prop} (hT : Tk n ts) (hn : n ≤ 10 ^ 9) (h1 : 1 ≤ many) (h2 : many ≤ 10 ^ 60)
    (h : ∀ (x : Int) ts', 0 ≤ x → x < many → Tk (n + 1) ts' → Q (.fr (.int x)) [.ow ts', .fr (.int many)]) : Wp (m_law_draw [.ow ts, .fr (.int many)]) Q := by
  obtain ⟨t0, t1, t2, rfl, a0, a1, a2, a3, a4⟩ := hT
  unfold m_law_draw b_law_draw
  refine w_fnM.mpr ⟨rfl, ?_⟩
  have o1 : okMul 524287 (t2 + 1) = true := okMul_sm (sm_of (by omega) (by omega)) (sm_of (by omega) (by omega))
  have o2 : okPow (t1 + 524287 * (t2 + 1)) 3 = true := okPow_sm (sm_of (by omega) (by omega)) (by decide) (by decide)
  have o3 : okMul 6700417 (t2 + 1) = true := okMul_sm (sm_of (by omega) (by omega)) (sm_of (by omega) (by omega))
  have o5 : okDiv 131071 = true := okDiv_sm (sm_of (by decide) (by decide)) (by decide)
  have o6 : okDiv many = true := okDiv_sm (sm_of (by omega) (by omega)) (by omega)
  have o7 : okPow (((t1 + 524287 * (t2 + 1)) ^ 3).fmod 100000000000000000000000000000000000000000031 + 6700417 * (t2 + 1)) 3 = true := by
    (rw [Int.fmod_eq_emod_of_nonneg _ (by decide)])
    generalize (t1 + 524287 * (t2 + 1)) ^ 3 = z
    exact okPow_sm (sm_of (by omega) (by omega)) (by decide) (by decide)
  have o8 : many ≠ 0 := by omega
  have rng : ∀ z : Int, 0 ≤ z.fmod many ∧ z.fmod many < many := fun z => by
    (rw [Int.fmod_eq_emod_of_nonneg _ (by omega)])
    exact ⟨Int.emod_nonneg _ o8, Int.emod_lt_of_pos _ (by omega)⟩
  by_cases hc : 0 < t0
  · have hc' : ¬ t0 ≤ 0 := by omega
    have d1 : 0 ≤ t0.fdiv many := by rw [Int.fdiv_eq_ediv_of_nonneg _ (by omega)]; exact Int.ediv_nonneg a0 (by omega)
    simp [outs, L2.ixN, hc, hc', o6, o8]
    exact h _ _ (rng _).1 (rng _).2 ⟨_, _, _, rfl, d1, a1, a2, a3, by omega⟩
  · have hc' : t0 ≤ 0 := by omega
    simp [outs, L2.ixN, hc, hc', o1, o2, o3, o5, o7, o8]
    exact h _ _ (rng _).1 (rng _).2 ⟨_, _, _, rfl, a0, a1, a2, by omega, by omega⟩
theorem s_law_turnedP {as : List Int} {t : Int} {Q : Rv → Rho → Prop} (ha : Dc as) (h : Q (.ow ((tn as t).map PyData.int)) [.fr (il as), .fr (.int t)]) : Wp (m_law_turnedP [.fr (il as), .fr (.int t)]) Q := by
  have h1 := ha.1
  have h2 := ha.2.1
  have hne : as ≠ [] := fun z => by subst z; simp at h1
  have b1 : big62 (as.length : Int) = true := big62_of (by omega) (by omega)
  unfold m_law_turnedP b_law_turnedP
  rw [w_fnM]
  refine ⟨rfl, ?_⟩
  simp [outs, b1]
  refine ⟨by omega, ?_⟩
  refine lc_range (f := fun i => nth as (((i : Int) - t) % as.length).toNat) (fun s hs => ?_) ?_
  · rw [w_turnL]
    have e3 : ((s : Int) - t).fmod as.length = ((s : Int) - t) % as.length := Int.fmod_eq_emod_of_nonneg _ (by omega)
    simp [e3, hne, at_mod (bs := as) (t := (s : Int) - t) (by omega)]
  · simp
    simpa [tn] using h
theorem s_law_back {as : List Int} {Q : Rv → Rho → Prop} (ha : Dc as) (h : Q (.ow ((bk as).map PyData.int)) [.fr (il as)]) : Wp (m_law_back [.fr (il as)]) Q := by
  have h1 := ha.1
  have h2 := ha.2.1
  have hne : as ≠ [] := fun z => by subst z; simp at h1
  have b1 : big62 (as.length : Int) = true := big62_of (by omega) (by omega)
  unfold m_law_back b_law_back
  rw [w_fnM]
  refine ⟨rfl, ?_⟩
  simp [outs, b1]
  refine ⟨by omega, ?_⟩
  refine lc_range (f := fun i => as.getD ((0 - (i : Int)) % as.length).toNat 0) (fun s hs => ?_) ?_
  · rw [w_turnL]
    have e3 : (-(s : Int)).fmod as.length = (-(s : Int)) % as.length := Int.fmod_eq_emod_of_nonneg _ (by omega)
    have q1 := Int.emod_nonneg (-(s : Int)) (show (as.length : Int) ≠ 0 by omega)
    have q2 := Int.emod_lt_of_pos (-(s : Int)) (show 0 < (as.length : Int) by omega)
    have hl : ((-(s : Int)) % (as.length : Int)).toNat < as.length := by omega
    simp [e3, hne, atI_nn q1, List.getElem?_eq_getElem hl]
  · simp
    simpa [bk] using h
def Sl (n : Int) (cn : Nat) (kind : Int) (k : Nat) (ρ : Rho) : Prop := ∃ (ts : List PD) (ls ms : List Int) (c : Cl), ρ = [.ow ts, .fr (.int cn), .fr (.int kind), .ow (ls.map PyData.int), .ow (ms.map PyData.int), .no, c] ∧ ms.length = cn ∧ (∀ m ∈ ms, 0 ≤ m ∧ m ≤ 1) ∧ (∀ l ∈ ls, 0 ≤ l ∧ l < cn) ∧ ls.length + k = cn ∧ Tk (n + k) ts
theorem map_eraseIdx' {α β : Type} (f : α → β) : ∀ (l : List α) (i : Nat), (l.map f).eraseIdx i = (l.eraseIdx i).map f
  | [], _ => rfl
  | _ :: _, 0 => rfl
  | a :: l, i + 1 => by simp [List.eraseIdx, map_eraseIdx' f l i]
theorem s_law_slits {n size : Int} {ts : List PD} {Q : Rv → Rho → Prop} (hT : Tk n ts) (hn : n ≤ 10 ^ 8) (h1 : 1 ≤ size) (h2 : size ≤ 40)
    (h : ∀ (ms : List Int) ts', (ms.length : Int) = size → (∀ m ∈ ms, 0 ≤ m ∧ m ≤ 1) → Tk (n + 100) ts' → Q (.ow (ms.map PyData.int)) [.ow ts', .fr (.int size)]) : Wp (m_law_slits [.ow ts, .fr (.int size)]) Q := by
  have b1 : big62 size = true := big62_of (by omega) (by omega)
  obtain ⟨cn, rfl⟩ : ∃ cn : Nat, size = cn := ⟨size.toNat, by omega⟩
  have f1 : cn ≤ 1000000 := by omega
  have f2 : (cn : Int) < 4611686018427387904 := by omega
  unfold m_law_slits
  have ok : okArgs [0] 2 [.ow ts, .fr (.int (cn : Int))] = true := rfl
  rw [w_fnM]
  refine And.intro ok ?_
  show Wp (b_law_slits ([.ow ts, .fr (.int (cn : Int)), .no, .no, .no, .no, .no] : Rho)) _
  unfold b_law_slits
  rw [w_seq]
  simp
  refine s_law_draw hT (by omega) (by decide) (by decide) fun kind ts1 k0 k1 hT1 => ?_
  simp [b1, f1]
  refine lc_inv (fun ds acc ρ => ∃ (ts : List PD) (ms : List Int), ρ = [.ow ts, .fr (.int cn), .fr (.int kind), .ow (rangeD 0 cn), .no, .no, .no] ∧ acc = ms.map PyData.int ∧ ds.length + ms.length = cn ∧ (∀ m ∈ ms, (0 : Int) ≤ m ∧ m ≤ 1) ∧ Tk (n + 1 + ms.length) ts)
    ⟨ts1, [], rfl, rfl, by simp, by simp, hT1.mono (by simp)⟩ (fun d ds acc ρ hI => ?_) (fun acc ρ hI => ?_)
  · obtain ⟨ts, ms, rfl, rfl, hl, hm, hT3⟩ := hI
    rw [w_turnL]
    simp at hl
    simp
    refine s_law_draw hT3 (by omega) (by omega) (by omega) fun x ts4 x0 x1 hT4 => ?_
    simp
    refine ⟨ms ++ [x], by simp, by simp; omega, fun m hm' => ?_, hT4.mono (by simp; omega)⟩
    rcases List.mem_append.mp hm' with hm' | hm'
    · exact hm m hm'
    · simp at hm'
      subst hm'
      exact ⟨x0, by omega⟩
  obtain ⟨ts3, ms, rfl, rfl, hl, hm, hT3⟩ := hI
  simp only [List.length_nil, Nat.zero_add] at hl
  simp only [lz_app, cl_ow, cl_fr, back_cons, back_nil, List.length_set, List.length_cons, List.length_nil, List.set_cons_succ, List.set_cons_zero, List.getElem?_cons_succ, List.getElem?_cons_zero]
  refine ⟨by decide, ?_⟩
  by_cases hk : 0 < kind
  · have hk' : ¬ kind ≤ 0 := by omega
    obtain ⟨c, hc, e⟩ := atI_pick (l := [(cn : Int), (cn : Int) / 2, min 3 (cn : Int), (cn : Int) - min 2 (cn : Int)]) (x := kind) (by omega) (by simpa using k1)
    simp only [List.map_cons, List.map_nil, List.mem_cons, List.not_mem_nil, or_false] at e hc
    have c1 : 0 ≤ c ∧ c ≤ cn := by omega
    have e5 : (cn : Int).fdiv 2 = (cn : Int) / 2 := Int.fdiv_eq_ediv_of_nonneg _ (by omega)
    have od : okDiv 2 = true := rfl
    have m3 : (if (cn : Int) < 3 then (cn : Int) else 3) = min 3 (cn : Int) := by omega
    have m2 : (if (cn : Int) < 2 then (cn : Int) else 2) = min 2 (cn : Int) := by omega
    have b2 : big62 c = true := big62_of (by omega) (by omega)
    simp [hk, hk', f1, f2, rep_one, e5, od, m3, m2, e, b2]
    refine for_range (n := c.toNat) (Sl (n + 1 + cn) cn kind) ⟨ts3, (List.range cn).map fun (i : Nat) => (i : Int), List.replicate cn 0, .no, ?_, by simp, fun m hm => ?_, fun l hl => ?_, by simp, hT3.mono (by simp; omega)⟩ (fun k ρ hkc hI => ?_) (fun ρ hI => ?_)
    · rw [rangeD_eq, List.map_map, List.map_replicate]; rfl
    · rw [List.eq_of_mem_replicate hm]; decide
    · obtain ⟨i, hi, rfl⟩ := List.mem_map.mp hl
      have := List.mem_range.mp hi
      omega
    · obtain ⟨ts, ls, ms, c', rfl, hl, hm, hls, hlk, hT⟩ := hI
      rw [w_turnF]
      simp
      refine s_law_draw hT (by omega) (by omega) (by omega) fun x ts4 x0 x1 hT4 => ?_
      have x1' : x.toNat < ls.length := by omega
      have e6 : L2.ixN ls.length x = some x.toNat := ixN_lt x0 x1
      have y := hls _ (List.getElem_mem x1')
      have e7 : L2.ixN ms.length ls[x.toNat] = some (ls[x.toNat]).toNat := ixN_lt y.1 (by omega)
      simp [e6, List.getElem?_eq_getElem x1', e7]
      refine ⟨by omega, ts4, ls.eraseIdx x.toNat, ms.set (ls[x.toNat]).toNat 1, .fr (.int k), ?_, by simpa using hl, fun m hm' => ?_, fun l hl' => hls l (List.mem_of_mem_eraseIdx hl'), ?_, hT4.mono (by omega)⟩
      · rw [map_eraseIdx', List.map_set]
      · rcases List.mem_or_eq_of_mem_set hm' with z | z
        · exact hm m z
        · subst z; decide
      · rw [List.length_eraseIdx_of_lt x1']; omega
    · obtain ⟨ts, ls, ms, c', rfl, hl, hm, hls, hlk, hT⟩ := hI
      simp [outs]
      exact h ms ts (by omega) hm (hT.mono (by omega))
  · have hk' : kind ≤ 0 := by omega
    simp [hk, hk', outs]
    exact h ms ts3 (by omega) hm (hT3.mono (by omega))
theorem dc_rep {ns : List Int} (hd : Dc ns) : gRepr (il ns) = some (.str (txt ns)) := repr_ints (dc_bn hd) (by have := hd.2.1; omega)
def Lown (as : List Int) (k : Nat) (ρ : Rho) : Prop := ∃ a b, ρ = [.fr (il as), .fr (.int as.length), .ow (((List.range k).map (ow1 as)).map PyData.int), a, b]
theorem lown_mk {as : List Int} {k : Nat} {fs : List PD} {a b : Cl} (h : fs = ((List.range k).map (ow1 as)).map PyData.int) : Lown as k [.fr (il as), .fr (.int as.length), .ow fs, a, b] := ⟨a, b, by rw [h]⟩
theorem s_law_own {as : List Int} {Q : Rv → Rho → Prop} (ha : Dc as) (h : Q (.ow ((ownl as).map PyData.int)) [.fr (il as)]) : Wp (m_law_own [.fr (il as)]) Q := by
  have h1 := ha.1
  have h2 := ha.2.1
  have hne : as ≠ [] := fun z => by subst z; simp at h1
  have b1 : big62 (as.length : Int) = true := big62_of (by omega) (by omega)
  unfold m_law_own
  rw [w_fnM]
  refine ⟨rfl, ?_⟩
  unfold b_law_own
  simp [outs, b1]
  refine for_range (n := as.length) (Lown as) ?_ (fun k ρ hk hI => ?_) (fun ρ hI => ?_)
  · exact lown_mk (by simp)
  · obtain ⟨a, b, rfl⟩ := hI
    rw [w_turnF]
    simp [b1]
    refine ⟨by omega, ?_⟩
    refine lc_range (f := fun s => nth as s * nth as (((s : Int) - k) % as.length).toNat) (fun s hs => ?_) ?_
    · rw [w_turnL]
      have e1 := at_nat (as := as) hs
      have e3 : ((s : Int) - k).fmod as.length = ((s : Int) - k) % as.length := Int.fmod_eq_emod_of_nonneg _ (by omega)
      have e2 := at_mod (bs := as) (t := (s : Int) - k) (by omega)
      have hp : (((s : Int) - k) % as.length).toNat < as.length := by
        have q1 := Int.emod_nonneg ((s : Int) - k) (show (as.length : Int) ≠ 0 by omega)
        have q2 := Int.emod_lt_of_pos ((s : Int) - k) (show 0 < (as.length : Int) by omega)
        omega
      have o := it_mul (getD_it ha.2.2 hs) (getD_it ha.2.2 hp)
      simp only [List.getElem?_map] at e1
      simp [e1, e2, e3, o, hne]
    · simp [upto_range]
      exact ⟨by omega, lown_mk (by simp [List.range_succ, ow1])⟩
  · obtain ⟨a, b, rfl⟩ := hI
    simp [outs]
    simpa [ownl] using h
theorem s_law_form {as : List Int} {Q : Rv → Rho → Prop} (ha : Dc as) (h : Q (.fr (frm as)) [.fr (il as)]) : Wp (m_law_form [.fr (il as)]) Q := by
  have h1 := ha.1
  have h2 := ha.2.1
  have b1 : big62 (as.length : Int) = true := big62_of (by omega) (by omega)
  unfold m_law_form b_law_form
  rw [w_fnM]
  refine ⟨rfl, ?_⟩
  simp [outs]
  refine s_law_back ha ?_
  rw [bk_mir]
  have hh := hardAll_ints (mir as)
  simp [Rv.hard, hh, b1]
  refine ⟨by omega, ?_⟩
  rw [rangeD_eq]
  refine lc_map (f := fun (t : Nat) => il (rot t as)) (fun t ht => ?_) ?_
  · rw [w_turnL]
    simp
    refine s_law_turnedP ha ?_
    rw [tn_rot]
    have hh := hardAll_ints (rot (t : Int) as)
    simp [Rv.hard, hh]
  simp [b1]
  refine ⟨by omega, ?_⟩
  rw [rangeD_eq]
  refine lc_map (f := fun (t : Nat) => il (rot t (mir as))) (fun t ht => ?_) ?_
  · rw [w_turnL]
    simp
    refine s_law_turnedP (dc_mir ha) ?_
    rw [tn_rot]
    have hh := hardAll_ints (rot (t : Int) (mir as))
    simp [Rv.hard, hh]
  have e1 := rotD_eq as
  have e2 := rotD_eq (mir as)
  rw [mir_len] at e2
  rw [← e1, ← e2]
  simp [g_frm h1]
  exact ⟨by omega, h⟩
def zAug2 (i : Nat) (f : Int → Int → Int) (n y : Int) (Qf : Fl → Rho → Prop) : Rv → Rho → Prop := fun r ρ2 => ∃ ds2 z j, ρ2.owL i = some ds2 ∧ r.d = .int z ∧ L2.ixN ds2.length n = some j ∧ Qf .nx (ρ2.set i (.ow (ds2.set j (.int (f y z)))))
def zAug1 (i : Nat) (f : Int → Int → Int) (me : Rho → Rz Rv) (Qf : Fl → Rho → Prop) : Rv → Rho → Prop := fun ix ρ1 => ∃ ds n y, ρ1.owL i = some ds ∧ ix.d = .int n ∧ L2.atI ds n = some (.int y) ∧ Wp (me ρ1) (zAug2 i f n y Qf)
theorem w_aug {c : Cl} {ρ : Rho} {i : Nat} {f : Int → Int → Int} {mi me : Rho → Rz Rv} {Qf : Fl → Rho → Prop} (h0 : (Rho.owL (c :: ρ) i).isSome = true) (h : Wp (mi (c :: ρ)) (zAug1 i f me Qf)) : Wp (mAugIx i f mi me (c :: ρ)) Qf := by
  unfold mAugIx
  cases e : Rho.owL (c :: ρ) i with
  | none => rw [e] at h0; cases h0
  | some ds0 =>
    show Wp ((mi (c :: ρ)).bind _) Qf
    rw [wp_bind]
    refine h.mono fun ix ρ1 ⟨ds, n, y, h1, h2, h3, h4⟩ => ?_
    simp only [h1, h2, h3]
    rw [wp_bind]
    refine h4.mono fun r ρ2 ⟨ds2, z, j, q1, q2, q3, q4⟩ => ?_
    simp only [q1, q2, q3]
    exact wp_ok.mpr q4
theorem ixMod {n : Nat} {t : Int} (h1 : -(n : Int) < t) (h2 : t < n) : L2.ixN n t = some (t % n).toNat := by
  unfold L2.ixN
  by_cases h : 0 ≤ t
  · rw [if_pos h, if_pos (by omega), Int.emod_eq_of_lt h h2]
  · rw [if_neg h, if_pos (by omega)]
    congr 1
    have : t % n = t + n := by rw [← Int.add_emod_right, Int.emod_eq_of_lt (by omega) (by omega)]
    omega
def Fn (n : Nat) (g : Nat → Int) : List Int := (List.range n).map g
theorem fn_len {n : Nat} {g : Nat → Int} : (Fn n g).length = n := by simp [Fn]
theorem fn_nth {n i : Nat} {g : Nat → Int} (h : i < n) : nth (Fn n g) i = g i := nth_map h
theorem fn_set {n d : Nat} {g : Nat → Int} (h : d < n) (x : Int) : (Fn n g).set d (g d + x) = Fn n fun t => g t + if d = t then x else 0 := by
  refine List.ext_getElem (by simp [Fn]) fun i h1 h2 => ?_
  rw [List.getElem_set]
  simp only [Fn, List.getElem_map, List.getElem_range]
  by_cases e : d = i
  · subst e; simp
  · simp [e]
def dif (n : Nat) (i j : Nat) : Nat := (((i : Int) - j) % n).toNat
theorem dif_lt {n i j : Nat} (h : 0 < n) : dif n i j < n := (em_lt h).1
def cnt (n i t : Nat) (js : List Nat) : Int := (js.map fun j => if dif n i j = t then (1 : Int) else 0).sum
def cnt2 (n t : Nat) (is js : List Nat) : Int := (is.map fun i => cnt n i t js).sum
theorem cnt_snoc {n i t j : Nat} {js : List Nat} : cnt n i t (js ++ [j]) = cnt n i t js + if dif n i j = t then 1 else 0 := by simp [cnt]
theorem cnt2_snoc {n i t : Nat} {is js : List Nat} : cnt2 n t (is ++ [i]) js = cnt2 n t is js + cnt n i t js := by simp [cnt2]
def plD (ps : List Nat) : List PD := ps.map fun (i : Nat) => PyData.int (i : Int)
theorem s_open_lights {n : Nat} {ps : List Nat} {Q : Rv → Rho → Prop} (h0 : 1 ≤ n) (h14 : n ≤ 40) (hp : ∀ p ∈ ps, p < n)
    (h : Q (.ow ((Fn n fun t => cnt2 n t ps ps).map PyData.int)) [.fr (.int n), .fr (.list (plD ps))]) : Wp (m_open_lights [.fr (.int n), .fr (.list (plD ps))]) Q := by
  have b1 : big62 (n : Int) = true := big62_of (by omega) (by omega)
  unfold m_open_lights b_open_lights
  rw [w_fnM]
  refine ⟨rfl, ?_⟩
  simp [outs, b1, itemsOf]
  have st : List.replicate n (PyData.int 0) = (Fn n fun t => cnt2 n t [] ps).map PyData.int := by
    refine List.ext_getElem (by simp [Fn]) fun i h1 h2 => ?_
    simp [Fn, cnt2]
  refine ⟨fun _ _ => ?_, by omega, by omega⟩
  rw [st]
  unfold plD
  refine for_map (fun k ρ => ∃ c3 c4, ρ = [.fr (.int n), .fr (.list (plD ps)), .ow ((Fn n fun t => cnt2 n t (ps.take k) ps).map PyData.int), c3, c4]) ⟨_, _, rfl⟩ (fun k hk ρ hI => ?_) (fun ρ hI => ?_)
  · obtain ⟨c3, c4, rfl⟩ := hI
    have pk := hp _ (List.getElem_mem hk)
    rw [w_turnF]
    simp [itemsOf]
    unfold plD
    refine for_map (fun l ρ => ∃ c4, ρ = [.fr (.int n), .fr (.list (plD ps)), .ow ((Fn n fun t => cnt2 n t (ps.take k) ps + cnt n ps[k] t (ps.take l)).map PyData.int), .fr (.int (ps[k] : Nat)), c4]) ⟨c4, by simp [cnt, plD]⟩ (fun l hl ρ hJ => ?_) (fun ρ hJ => ?_)
    · obtain ⟨c4, rfl⟩ := hJ
      have pl := hp _ (List.getElem_mem hl)
      rw [w_turnF]
      simp
      refine w_aug rfl ?_
      simp
      have d0 := dif_lt (n := n) (i := ps[k]) (j := ps[l]) (by omega)
      refine ⟨_, (ps[k] : Int) - ps[l], cnt2 n (dif n ps[k] ps[l]) (ps.take k) ps + cnt n ps[k] (dif n ps[k] ps[l]) (ps.take l), rfl, rfl, ?_, ?_⟩
      · have e := at_neg (bs := Fn n fun t => cnt2 n t (ps.take k) ps + cnt n ps[k] t (ps.take l)) (t := (ps[k] : Int) - ps[l]) (by rw [fn_len]; omega) (by rw [fn_len]; omega)
        rw [fn_len] at e
        rw [e]
        have e3 : nth (Fn n fun t => cnt2 n t (ps.take k) ps + cnt n ps[k] t (ps.take l)) (((ps[k] : Int) - ps[l]) % n).toNat = cnt2 n (dif n ps[k] ps[l]) (ps.take k) ps + cnt n ps[k] (dif n ps[k] ps[l]) (ps.take l) := fn_nth (g := fun t => cnt2 n t (ps.take k) ps + cnt n ps[k] t (ps.take l)) d0
        rw [e3]
      · simp
        refine ⟨_, 1, dif n ps[k] ps[l], rfl, rfl, ?_, ?_⟩
        · rw [List.length_map, fn_len]
          exact ixMod (by omega) (by omega)
        · simp
          have e2 := fn_set (g := fun t => cnt2 n t (ps.take k) ps + cnt n ps[k] t (ps.take l)) d0 1
          rw [← List.map_set, e2, List.take_succ_eq_append_getElem hl]
          have e4 : (fun t => cnt2 n t (ps.take k) ps + cnt n ps[k] t (ps.take l ++ [ps[l]])) = fun t => cnt2 n t (ps.take k) ps + cnt n ps[k] t (ps.take l) + if dif n ps[k] ps[l] = t then 1 else 0 := funext fun t => by rw [cnt_snoc, Int.add_assoc]
          rw [e4]
    · obtain ⟨c4, rfl⟩ := hJ
      simp
      rw [List.take_succ_eq_append_getElem hk]
      have e4 : (fun t => cnt2 n t (ps.take k ++ [ps[k]]) ps) = fun t => cnt2 n t (ps.take k) ps + cnt n ps[k] t (ps.take ps.length) := funext fun t => by rw [cnt2_snoc, List.take_length]
      rw [e4, List.take_length]
      exact ⟨rfl, rfl⟩
  · obtain ⟨c3, c4, rfl⟩ := hI
    simp [outs]
    exact h
def bbit (r n s : Nat) : Int := ((r / 2 ^ (n - 1 - s) % 2 : Nat) : Int)
def bbs (r n : Nat) : List Int := (List.range n).map (bbit r n)
theorem bbs_len (r n : Nat) : (bbs r n).length = n := by simp [bbs]
theorem bbit_01 (r n s : Nat) : bbit r n s = 0 ∨ bbit r n s = 1 := by
  unfold bbit
  omega
theorem bbs_01 {r n : Nat} : ∀ x ∈ bbs r n, x = 0 ∨ x = 1 := fun x hx => by
  obtain ⟨s, _, rfl⟩ := List.mem_map.mp hx
  exact bbit_01 r n s
def opn (as : List Int) : List Nat := (List.range as.length).filter fun s => decide (nth as s = 1)
theorem opn_lt {as : List Int} : ∀ p ∈ opn as, p < as.length := fun p hp => List.mem_range.mp (List.mem_filter.mp hp).1
theorem sum_filt {n : Nat} {p : Nat → Bool} {g : Nat → Int} : (((List.range n).filter p).map g).sum = upto (fun s => if p s = true then g s else 0) n := by
  rw [← upto_range]
  induction n with
  | zero => rfl
  | succ n ih =>
    rw [List.range_succ, List.filter_append, List.map_append, List.map_append, List.sum_append, List.sum_append, ih]
    congr 1
    by_cases c : p n = true <;> simp [c]
theorem dif_eq {n i j t : Nat} (hn : 0 < n) (hj : j < n) (ht : t < n) : dif n i j = t ↔ j = (((i : Int) - t) % n).toNat := by
  unfold dif
  have a1 := em_lt (i := (i : Int) - j) hn
  have a2 := em_lt (i := (i : Int) - t) hn
  constructor
  · intro e
    have e1 : ((i : Int) - j) % n = t := by omega
    have e2 : ((i : Int) - t) % n = j := by
      have z : ((i : Int) - t) = j + (((i : Int) - j) - t) := by omega
      have z2 : (((i : Int) - j) - t) % n = 0 := by
        have := Int.emod_emod_of_dvd ((i : Int) - j) (Int.dvd_refl n)
        rw [Int.sub_emod, e1]
        rw [Int.emod_eq_of_lt (a := (t : Int)) (by omega) (by omega)]
        simp
      rw [z, Int.add_emod, z2, Int.add_zero, Int.emod_emod, Int.emod_eq_of_lt (by omega) (by omega)]
    omega
  · intro e
    have e1 : ((i : Int) - t) % n = j := by omega
    have e2 : ((i : Int) - j) % n = t := by
      have z : ((i : Int) - j) = t + (((i : Int) - t) - j) := by omega
      have z2 : (((i : Int) - t) - j) % n = 0 := by
        rw [Int.sub_emod, e1]
        rw [Int.emod_eq_of_lt (a := (j : Int)) (by omega) (by omega)]
        simp
      rw [z, Int.add_emod, z2, Int.add_zero, Int.emod_emod, Int.emod_eq_of_lt (by omega) (by omega)]
    omega
theorem own_cnt {as : List Int} (h01 : ∀ x ∈ as, x = 0 ∨ x = 1) (h0 : 0 < as.length) : (Fn as.length fun t => cnt2 as.length t (opn as) (opn as)) = ownl as := by
  unfold Fn ownl
  refine List.map_congr_left fun t ht => ?_
  have ht := List.mem_range.mp ht
  have nth01 : ∀ s, s < as.length → nth as s = 0 ∨ nth as s = 1 := fun s hs => by
    unfold nth
    rw [List.getD_eq_getElem?_getD, List.getElem?_eq_getElem hs]
    exact h01 _ (List.getElem_mem hs)
  unfold cnt2 ow1 opn
  rw [sum_filt]
  refine upto_congr fun i hi => ?_
  have hq := em_lt (i := (i : Int) - t) h0
  have e1 : cnt as.length i t ((List.range as.length).filter fun s => decide (nth as s = 1)) = nth as (((i : Int) - t) % as.length).toNat := by
    unfold cnt
    rw [sum_filt, upto_one (k := (((i : Int) - t) % as.length).toNat) hq.1 (fun j hj ne => ?_)]
    · have z := (dif_eq (i := i) h0 hq.1 ht).mpr rfl
      rw [if_pos z]
      rcases nth01 _ hq.1 with w | w <;> simp [w]
    · have z : ¬ dif as.length i j = t := fun z => ne ((dif_eq h0 hj ht).mp z)
      rw [if_neg z]
      split <;> rfl
  rw [e1]
  rcases nth01 i hi with w | w <;> simp [w]
theorem pw14 {n : Nat} (h : n ≤ 14) : okShl 1 (n : Int) = true ∧ (2 : Int) ^ n ≤ 16384 ∧ (0 : Int) ≤ 2 ^ n ∧ big62 ((2 : Int) ^ n) = true ∧ ((2 : Int) ^ n).toNat = 2 ^ n ∧ 2 ^ n ≤ 16384 := by
  have p14 : 2 ^ n ≤ 2 ^ 14 := Nat.pow_le_pow_right (by decide) h
  have e : ((2 ^ n : Nat) : Int) = (2 : Int) ^ n := by simp
  have p0 : (0 : Int) ≤ 2 ^ n := Int.le_of_lt (Int.pow_pos (by decide))
  refine ⟨?_, by omega, p0, big62_of (by omega) (by omega), by omega, by omega⟩
  unfold okShl
  have : lg 1 = 0 := by decide
  rw [this]
  simp
  omega
def ofSum (n : Nat) (c : Int) (r : Nat) : Bool := decide ((bbs r n).sum = c)
def slI (n r : Nat) : PD := .tuple [il (bbs r n), il (ownl (bbs r n))]
def slD (n : Nat) (c : Int) (k : Nat) : List PD := ((List.range k).filter (ofSum n c)).map (slI n)
theorem slD_len {n k : Nat} {c : Int} : (slD n c k).length ≤ k := by
  unfold slD
  rw [List.length_map]
  exact Nat.le_trans (List.length_filter_le ..) (by simp)
theorem slD_succ (n k : Nat) (c : Int) : slD n c (k + 1) = slD n c k ++ if (bbs k n).sum = c then [slI n k] else [] := by
  unfold slD
  rw [List.range_succ, List.filter_append, List.map_append]
  congr 1
  by_cases q : (bbs k n).sum = c <;> simp [ofSum, q]
theorem s_slotted_discs {n : Nat} {c : Int} {Q : Rv → Rho → Prop} (h0 : 1 ≤ n) (hn : n ≤ 14) (h : Q (.ow (slD n c (2 ^ n))) [.fr (.int n), .fr (.int c)]) : Wp (m_slotted_discs [.fr (.int n), .fr (.int c)]) Q := by
  have b1 : big62 (n : Int) = true := big62_of (by omega) (by omega)
  obtain ⟨o1, o2, o3, o4, o5, o6⟩ := pw14 hn
  unfold m_slotted_discs b_slotted_discs
  rw [w_fnM]
  refine ⟨rfl, ?_⟩
  simp [outs, o1, o4]
  rw [o5]
  refine for_range (fun k ρ => ∃ a b d, ρ = [.fr (.int n), .fr (.int c), .ow (slD n c k), a, b, d]) ⟨_, _, _, rfl⟩ (fun k ρ hk hI => ?_) (fun ρ hI => ?_)
  · obtain ⟨a, b, d, rfl⟩ := hI
    rw [w_turnF]
    simp [b1]
    refine ⟨by omega, ?_⟩
    refine lc_range (f := bbit k n) (fun s hs => ?_) ?_
    · rw [w_turnL]
      have e0 : (0 : Int) ≤ (n : Int) - 1 - s := by omega
      have e1 : ((n : Int) - 1 - s).toNat = n - 1 - s := by omega
      have e2 : Builtin.bitAnd ((k : Int) / 2 ^ (n - 1 - s)) 1 = bbit k n s := by
        rw [PyProof.Rows.bitAnd_m1]
        unfold bbit
        simp
      have e3 : (s : Int) ≤ (n : Int) - 1 := by omega
      simp [e0, e1, e2, e3]
    · have eb : (List.range n).map (bbit k n) = bbs k n := rfl
      rw [eb]
      simp [-List.map_map]
      have nx := slD_succ n k c
      by_cases q : (bbs k n).sum = c
      · rw [if_pos q] at nx
        simp [q, b1]
        refine ⟨by omega, ?_⟩
        rw [rangeD_eq]
        refine lc_filtR (f := fun (s : Nat) => PyData.int (s : Int)) (p := fun s => decide (nth (bbs k n) s = 1)) (fun ρ' => ρ' = [.fr (.int n), .fr (.int c), .ow (slD n c k), .fr (.int k), .fr (.list (List.map PyData.int (bbs k n))), .no]) rfl (fun s hs ρ hR => ?_) (fun ρ hR => ?_)
        · subst hR
          have hs := List.mem_range.mp hs
          rw [w_turnL]
          have e1 := at_nat (as := bbs k n) (s := s) (by rw [bbs_len]; exact hs)
          simp only [List.getElem?_map] at e1
          simp [e1]
        · subst hR
          simp
          have eo : ((List.range n).filter fun s => decide (nth (bbs k n) s = 1)) = opn (bbs k n) := by unfold opn; rw [bbs_len]
          have hp : ∀ p ∈ opn (bbs k n), p < n := fun p hp => by have := opn_lt p hp; rwa [bbs_len] at this
          rw [eo]
          refine s_open_lights h0 (by omega) hp ?_
          have e5 := own_cnt (as := bbs k n) bbs_01 (by rw [bbs_len]; omega)
          rw [bbs_len] at e5
          rw [e5]
          simp [Rv.hard, hardAll_ints]
          rw [nx]
          exact ⟨by have := slD_len (n := n) (k := k) (c := c); omega, rfl⟩
      · rw [if_neg q, List.append_nil] at nx
        simp [q]
        rw [nx]
  · obtain ⟨a, b, d, rfl⟩ := hI
    simp [outs]
    exact h
def fitW (n : Nat) (ls : List Int) (r : Nat) : Bool := decide (ownl (bbs r n) = ls)
theorem fl_ints (xs : List Int) : flatD (xs.map PyData.int) = true := by
  unfold flatD
  rw [ints?_map]; rfl
theorem wp_get {α : Type} {r : Rz α} {Q : α → Rho → Prop} (h : Wp r Q) : ∃ a ρ, r = .ok a ρ ∧ Q a ρ := by
  cases r with
  | ok a ρ => exact ⟨a, ρ, rfl, wp_ok.mp h⟩
  | _ => exact h.ok.elim
def stepA (c : Int) (xs : List (List Int)) : List (List Int) := xs.flatMap fun s => (([0, 1] : List Int).filter fun l => decide (s.sum + l ≤ c)).map fun l => s ++ [l]
def laL (c : Int) : Nat → List (List Int)
  | 0 => [[]]
  | k + 1 => stepA c (laL c k)
theorem stepA_len (c : Int) : ∀ xs : List (List Int), (stepA c xs).length ≤ 2 * xs.length
  | [] => by simp [stepA]
  | x :: xs => by
    have ih := stepA_len c xs
    have e : stepA c (x :: xs) = ((([0, 1] : List Int).filter fun l => decide (x.sum + l ≤ c)).map fun l => x ++ [l]) ++ stepA c xs := by simp [stepA]
    rw [e, List.length_append, List.length_map, List.length_cons]
    have : (([0, 1] : List Int).filter fun l => decide (x.sum + l ≤ c)).length ≤ 2 := Nat.le_trans (List.length_filter_le ..) (by simp)
    omega
theorem laL_len (c : Int) : ∀ k, (laL c k).length ≤ 2 ^ k
  | 0 => by simp [laL]
  | k + 1 => by
    have := laL_len c k
    have h := stepA_len c (laL c k)
    rw [Nat.pow_succ]
    show (stepA c (laL c k)).length ≤ _
    omega
def slow (c : Int) (s : List Int) : Bool := decide (s.sum ≤ c)
theorem stepA_eq (c : Int) : ∀ L : List (List Int), stepA c (L.filter (slow c)) = (L.flatMap fun s => [s ++ [0], s ++ [1]]).filter (slow c)
  | [] => rfl
  | s :: L => by
    have ih := stepA_eq c L
    rw [List.flatMap_cons, List.filter_append, ← ih]
    by_cases h : s.sum ≤ c
    · have f : slow c s = true := by simp [slow, h]
      rw [List.filter_cons_of_pos f]
      have e : ∀ M, stepA c (s :: M) = ((([0, 1] : List Int).filter fun l => decide (s.sum + l ≤ c)).map fun l => s ++ [l]) ++ stepA c M := fun M => by simp [stepA]
      rw [e]
      congr 1
      by_cases h1 : s.sum + 1 ≤ c <;> simp [slow, h, h1]
    · have f : ¬ slow c s = true := by simp [slow]; omega
      rw [List.filter_cons_of_neg f]
      have h1 : ¬ s.sum + 1 ≤ c := by omega
      simp [slow, h, h1]
theorem dbl {α : Type} (f : Nat → α) : ∀ m, (List.range (2 * m)).map f = (List.range m).flatMap fun q => [f (2 * q), f (2 * q + 1)]
  | 0 => rfl
  | m + 1 => by
    rw [show 2 * (m + 1) = 2 * m + 1 + 1 by omega, List.range_succ, List.range_succ, List.map_append, List.map_append, dbl f m, List.range_succ, List.flatMap_append]
    simp
theorem bbs_snoc (r k : Nat) : bbs r (k + 1) = bbs (r / 2) k ++ [((r % 2 : Nat) : Int)] := by
  unfold bbs
  rw [List.range_succ, List.map_append]
  congr 1
  · refine List.map_congr_left fun s hs => ?_
    have h := List.mem_range.mp hs
    unfold bbit
    rw [Nat.div_div_eq_div_mul]
    have e : 2 * 2 ^ (k - 1 - s) = 2 ^ (k + 1 - 1 - s) := by
      have z : k + 1 - 1 - s = (k - 1 - s) + 1 := by omega
      rw [z, Nat.pow_succ, Nat.mul_comm]
    rw [e]
  · simp [bbit]
theorem laL_eq {c : Int} (h0 : 0 ≤ c) : ∀ k, laL c k = ((List.range (2 ^ k)).map fun r => bbs r k).filter (slow c)
  | 0 => by
    have : slow c [] = true := by simp [slow, h0]
    simp [laL, bbs, this]
  | k + 1 => by
    show stepA c (laL c k) = _
    rw [laL_eq h0 k, stepA_eq, Nat.pow_succ, Nat.mul_comm, dbl, List.flatMap_map]
    congr 1
    congr 1
    funext q
    have a1 : 2 * q / 2 = q := by omega
    have a2 : (2 * q + 1) / 2 = q := by omega
    have a3 : 2 * q % 2 = 0 := by omega
    have a4 : (2 * q + 1) % 2 = 1 := by omega
    rw [bbs_snoc, bbs_snoc, a1, a2, a3, a4]
    rfl
theorem laL_sum {c : Int} {n : Nat} (h0 : 0 ≤ c) : (laL c n).filter (fun s => decide (s.sum = c)) = ((List.range (2 ^ n)).filter (ofSum n c)).map fun r => bbs r n := by
  rw [laL_eq h0, List.filter_filter, List.filter_map]
  congr 1
  refine List.filter_congr fun r _ => ?_
  simp only [Function.comp, slow, ofSum]
  by_cases h : (bbs r n).sum = c <;> simp [h]
theorem bbs_lt14 {n : Nat} (h : n ≤ 14) : 2 ^ n ≤ 16384 := (pw14 h).2.2.2.2.2
theorem laL_it (c : Int) : ∀ k, ∀ s ∈ laL c k, s.length = k
  | 0, s, h => by
    rw [List.mem_singleton.mp h]; rfl
  | k + 1, s, h => by
    obtain ⟨s0, h1, h2⟩ := List.mem_flatMap.mp h
    obtain ⟨l, _, rfl⟩ := List.mem_map.mp h2
    rw [List.length_append, laL_it c k s0 h1]; rfl
def AllI (n : Nat) (c : Int) (k : Nat) (ρ : Rho) : Prop := ∃ x a b d e, (x = .fr (.list ((laL c k).map ilf)) ∨ x = .ow ((laL c k).map ilf)) ∧ ρ = [.fr (.int n), .fr (.int c), x, a, b, d, e]
theorem s_law_all_k23 {n : Nat} {c : Int} {Q : Rv → Rho → Prop} (hn : n ≤ 14) (h0 : 0 ≤ c) (h : Q (.ow (((List.range (2 ^ n)).filter (ofSum n c)).map fun r => il (bbs r n))) [.fr (.int n), .fr (.int c)]) : Wp (m_law_all_k23 [.fr (.int n), .fr (.int c)]) Q := by
  have b1 : big62 (n : Int) = true := big62_of (by omega) (by omega)
  unfold m_law_all_k23 b_law_all_k23
  rw [w_fnM]
  refine ⟨rfl, ?_⟩
  simp [outs, b1]
  refine for_range (AllI n c) ⟨_, _, _, _, _, .inr rfl, rfl⟩ (fun k ρ hk hI => ?_) (fun ρ hI => ?_)
  · obtain ⟨x, a, b, d, e, hx, rfl⟩ := hI
    have hl := laL_len c k
    have p1 : 2 ^ k ≤ 2 ^ 14 := Nat.pow_le_pow_right (by decide) (by omega)
    rw [w_turnF]
    have go : Wp (forR (turnF (gN 5) (mSeq (mSet 4 (mOp2 gAdd (mV 4) (mLc (mItems (mTup (mCons (mC (.int 0)) (mCons (mC (.int 1)) mNil)))) (gN 6) (mB (mOp2 qLe (mOp2 gAdd (mCB cSum (mCons (mV 5) mNil)) (mV 6)) (mV 1))) (mOp2 gAdd (mV 5) (mLst (mCons (mV 6) mNil))) [6]))) mNx)) ((laL c k).map ilf) [.fr (.int n), .fr (.int c), .fr (.list ((laL c k).map ilf)), .fr (.int k), .ow [], d, e]) fun fl ρ' => fl = .nx ∧ ∃ d e, ρ' = [.fr (.int n), .fr (.int c), .fr (.list ((laL c k).map ilf)), .fr (.int k), .ow ((laL c (k + 1)).map ilf), d, e] := by
      refine for_map (fun l ρ => ∃ d e, ρ = [.fr (.int n), .fr (.int c), .fr (.list ((laL c k).map ilf)), .fr (.int k), .ow ((stepA c ((laL c k).take l)).map ilf), d, e]) ⟨d, e, rfl⟩ (fun l hl2 ρ hJ => ?_) (fun ρ hJ => ?_)
      · obtain ⟨d, e, rfl⟩ := hJ
        rw [w_turnF]
        simp [itemsOf, ilf]
        have tk1 : ((laL c k).take l).length ≤ 2 ^ 14 := by rw [List.length_take]; omega
        have sl1 := stepA_len c ((laL c k).take l)
        rw [show [PyData.int 0, PyData.int 1] = ([0, 1] : List Int).map PyData.int from rfl]
        refine lc_filtR (f := fun (b : Int) => ilf ((laL c k)[l] ++ [b])) (p := fun b => decide ((laL c k)[l].sum + b ≤ c)) (fun ρ' => ρ' = [.fr (.int n), .fr (.int c), .fr (.list ((laL c k).map ilf)), .fr (.int k), .fr (.list ((stepA c ((laL c k).take l)).map ilf)), .fr (.list ((laL c k)[l].map PyData.int)), .no]) rfl (fun b hb ρ hR => ?_) (fun ρ hR => ?_)
        · subst hR
          rw [w_turnL]
          simp [ilf]
          have hk := laL_it c k _ (List.getElem_mem hl2)
          split
          · rename_i q
            exact ⟨by omega, q⟩
          · omega
        · subst hR
          simp
          have f2 : (([0, 1] : List Int).filter fun b => decide ((laL c k)[l].sum + b ≤ c)).length ≤ 2 := Nat.le_trans (List.length_filter_le ..) (by simp)
          have es : stepA c ((laL c k).take (l + 1)) = stepA c ((laL c k).take l) ++ ((([0, 1] : List Int).filter fun b => decide ((laL c k)[l].sum + b ≤ c)).map fun b => (laL c k)[l] ++ [b]) := by
            rw [List.take_succ_eq_append_getElem hl2]
            simp only [stepA, List.flatMap_append, List.flatMap_cons, List.flatMap_nil, List.append_nil]
          refine ⟨by omega, ?_⟩
          rw [es, List.map_append, List.map_map]
          rfl
      · obtain ⟨d, e, rfl⟩ := hJ
        rw [List.take_length]
        exact ⟨rfl, d, e, rfl⟩
    rcases hx with rfl | rfl
    · simp [itemsOf]
      refine go.mono fun fl ρ' ⟨e1, d, e, e2⟩ => ?_
      subst e1 e2
      simp
      exact ⟨_, _, _, _, _, .inl rfl, rfl⟩
    · simp [itemsOf]
      refine go.mono fun fl ρ' ⟨e1, d, e, e2⟩ => ?_
      subst e1 e2
      simp
      exact ⟨_, _, _, _, _, .inl rfl, rfl⟩
  · obtain ⟨x, a, b, d, e, hx, rfl⟩ := hI
    have hl := laL_len c n
    have p1 : 2 ^ n ≤ 2 ^ 14 := Nat.pow_le_pow_right (by decide) hn
    have fin : ∀ b', Wp (lcR (turnL (gN 5) (mB (mOp2 qEq (mCB cSum (mCons (mV 5) mNil)) (mV 1))) (mV 5) [5]) ((laL c n).map ilf) [] [.fr (.int n), .fr (.int c), .fr (.list ((laL c n).map ilf)), a, b', .no, e]) fun ds ρ' => ds = (((List.range (2 ^ n)).filter (ofSum n c)).map fun r => il (bbs r n)) ∧ ρ' = [.fr (.int n), .fr (.int c), .fr (.list ((laL c n).map ilf)), a, b', .no, e] := fun b' => by
      refine lc_filtR (f := ilf) (p := fun s => decide (s.sum = c)) (fun ρ' => ρ' = [.fr (.int n), .fr (.int c), .fr (.list ((laL c n).map ilf)), a, b', .no, e]) rfl (fun s hs ρ hR => ?_) (fun ρ hR => ?_)
      · subst hR
        rw [w_turnL]
        simp [ilf]
      · rw [laL_sum h0, List.map_map]
        exact ⟨rfl, hR⟩
    rcases hx with rfl | rfl
    · simp [itemsOf]
      refine ⟨by omega, (fin b).mono fun ds ρ' ⟨e1, e2⟩ => ?_⟩
      subst e1 e2
      simp [outs]
      exact h
    · simp [itemsOf]
      refine ⟨by omega, (fin b).mono fun ds ρ' ⟨e1, e2⟩ => ?_⟩
      subst e1 e2
      simp [outs]
      exact h
theorem bbs_dc {r n : Nat} (h0 : 1 ≤ n) (hn : n ≤ 40) : Dc (bbs r n) := ⟨by rw [bbs_len]; exact h0, by rw [bbs_len]; exact hn, fun x hx => by
  rcases bbs_01 x hx with rfl | rfl <;> exact ⟨by decide, by decide⟩⟩
def Z1 (as : List Int) : Prop := ∀ x ∈ as, 0 ≤ x ∧ x ≤ 1
theorem ow1_cyc {as : List Int} {t : Nat} : ow1 as t = upto (fun s => cyc as s * cyc as ((s : Int) - t)) as.length := by
  unfold ow1
  refine upto_congr fun s hs => ?_
  rw [cyc_nat hs]; rfl
theorem bbs_on : ∀ (n : Nat) (as : List Int), as.length = n → (∀ x ∈ as, x = 0 ∨ x = 1) → ∃ r, r < 2 ^ n ∧ as = bbs r n
  | 0, as, h, _ => ⟨0, by simp, by rw [List.eq_nil_of_length_eq_zero h]; rfl⟩
  | n + 1, as, h, z => by
    have ne : as ≠ [] := fun e => by rw [e] at h; simp at h
    have e := List.dropLast_concat_getLast ne
    obtain ⟨r, h1, h2⟩ := bbs_on n as.dropLast (by rw [List.length_dropLast, h]; rfl) fun x hx => z x ((List.dropLast_sublist as).subset hx)
    rcases z _ (List.getLast_mem ne) with q | q
    · refine ⟨2 * r, by rw [Nat.pow_succ]; omega, ?_⟩
      rw [bbs_snoc, show 2 * r / 2 = r by omega, show 2 * r % 2 = 0 by omega, ← h2, ← e]
      simp [q]
    · refine ⟨2 * r + 1, by rw [Nat.pow_succ]; omega, ?_⟩
      rw [bbs_snoc, show (2 * r + 1) / 2 = r by omega, show (2 * r + 1) % 2 = 1 by omega, ← h2, ← e]
      simp [q]
theorem own0 {as : List Int} (z : ∀ x ∈ as, x = 0 ∨ x = 1) (h0 : 0 < as.length) : nth (ownl as) 0 = as.sum := by
  unfold ownl
  rw [nth_map h0, sum_nth]
  refine upto_congr fun s hs => ?_
  have e : (((s : Int) - (0 : Nat)) % as.length).toNat = s := by
    rw [Int.emod_eq_of_lt (by omega) (by omega)]
    omega
  rw [e]
  have : nth as s = 0 ∨ nth as s = 1 := by
    unfold nth
    rw [List.getD_eq_getElem?_getD, List.getElem?_eq_getElem hs]
    exact z _ (List.getElem_mem hs)
  rcases this with w | w <;> simp [w]
theorem own_ext {as bs : List Int} (hl : as.length = bs.length) (h : ∀ t, t < as.length → ow1 as t = ow1 bs t) : ownl as = ownl bs := by
  unfold ownl
  rw [hl]
  exact List.map_congr_left fun t ht => h t (by rw [hl]; exact List.mem_range.mp ht)
theorem cyc2 {as : List Int} {t : Int} (i : Int) : cyc as (i % as.length) * cyc as (i % as.length - t) = cyc as i * cyc as (i - t) := by
  rw [cyc_emod]
  congr 1
  exact cyc_congr (by rw [Int.sub_emod, Int.emod_emod_of_dvd _ (Int.dvd_refl _), ← Int.sub_emod])
theorem own_rot {as : List Int} {b : Int} (h0 : 0 < as.length) : ownl (rot b as) = ownl as := by
  refine own_ext (by simp) fun t ht => ?_
  rw [ow1_cyc, ow1_cyc, rot_len]
  rw [← upto_sh (n := as.length) (f := fun i => cyc as i * cyc as (i - t)) (s := b) h0 cyc2]
  refine upto_congr fun s hs => ?_
  rw [cyc_rot h0, cyc_rot h0]
  congr 2
  omega
theorem own_mir {as : List Int} (h0 : 0 < as.length) : ownl (mir as) = ownl as := by
  refine own_ext (by simp) fun t ht => ?_
  rw [ow1_cyc, ow1_cyc, mir_len]
  have e1 := upto_sh (n := as.length) (f := fun i => cyc as i * cyc as (i - t)) (s := -(t : Int)) h0 cyc2
  have e2 := upto_neg (n := as.length) (f := fun i => cyc as (i - -(t : Int)) * cyc as (i - -(t : Int) - t)) h0 fun i => by
    have := cyc2 (as := as) (t := (t : Int)) (i % as.length - -(t : Int))
    rw [← this]
    have := cyc2 (as := as) (t := (t : Int)) (i - -(t : Int))
    rw [← this]
    rw [Int.sub_emod (i % as.length), Int.emod_emod_of_dvd _ (Int.dvd_refl _), ← Int.sub_emod]
  rw [← e1, ← e2]
  refine upto_congr fun s hs => ?_
  rw [cyc_mir h0, cyc_mir h0, Int.mul_comm]
  congr 2 <;> omega
theorem z1_01 {as : List Int} (z : Z1 as) : ∀ x ∈ as, x = 0 ∨ x = 1 := fun x hx => by have := z x hx; omega
open Classical in
noncomputable def mulL (t : Int) (as : List Int) : List Int := if h : ∃ L, Mo t as L then h.choose else []
def cop (n : Nat) (t : Nat) : Bool := decide (Nat.gcd t n = 1)
open Classical in
noncomputable def tur (as : List Int) (t : Nat) : Bool := decide (mulL t as ∈ rots as)
noncomputable def facs (as : List Int) : List Int := ((List.range (max 2 as.length - 1)).filter fun i => cop as.length (1 + i) && tur as (1 + i)).map fun (i : Nat) => 1 + (i : Int)
def frmL (as : List Int) : List Int := match frm as with
  | .list ds => (ints? ds).getD []
  | _ => []
theorem frmL_of {as L : List Int} (e : frm as = il L) : frmL as = L := by
  unfold frmL
  rw [e]
  simp [ints?_map]
theorem frmL_eq {as : List Int} (h : 0 < as.length) : frm as = il (frmL as) ∧ IsLst (rots as ++ rots (mir as)) (frmL as) := by
  obtain ⟨L, h1, e⟩ := frm_il h
  rw [frmL_of e]
  exact ⟨e, h1⟩
theorem s_unlike_forms {xss : List (List Int)} {Q : Rv → Rho → Prop} (hx : ∀ x ∈ xss, Dc x) (hl : xss.length ≤ 100000) (ok : okSrt (xss.map frmL) = true)
    (h : Q (.ow ((dstL (xss.map frmL)).map lstI)) [.fr (.list (xss.map lstI))]) : Wp (m_unlike_forms [.fr (.list (xss.map lstI))]) Q := by
  unfold m_unlike_forms b_unlike_forms
  rw [w_fnM]
  refine ⟨rfl, ?_⟩
  simp [outs, itemsOf]
  refine ⟨by omega, ?_⟩
  refine lc_map (f := fun xs => tupI (frmL xs)) (fun xs hxs => ?_) ?_
  · have hd := hx xs hxs
    have e := (frmL_eq (as := xs) hd.1).1
    rw [w_turnL]
    simp
    refine s_least_like hd ?_
    rw [e]
    simp
    rfl
  · have e1 : (xss.map fun xs => tupI (frmL xs)) = (xss.map frmL).map tupI := by rw [List.map_map]; rfl
    rw [e1]
    obtain ⟨d, _, _, few⟩ := okSrt.inv ok
    simp [gSrtT_tups ok, itemsOf, -List.map_map]
    refine ⟨by omega, ?_⟩
    refine lc_map (f := lstI) (fun xs hxs => ?_) ?_
    · rw [w_turnL]
      simp [tupI, gListOf, lstI]
    · simp
      exact h
def ofS (n : Nat) (c : Int) : List Nat := (List.range (2 ^ n)).filter (ofSum n c)
def twsR (as : List Int) : List Nat := (ofS as.length as.sum).filter (fitW as.length (ownl as))
def twsU (as : List Int) : List (List Int) := dstL ((twsR as).map fun r => frmL (bbs r as.length))
theorem ofS_len {n : Nat} {c : Int} (hn : n ≤ 14) : (ofS n c).length ≤ 16384 := by
  have := bbs_lt14 hn
  unfold ofS
  exact Nat.le_trans (List.length_filter_le ..) (by simpa using this)
theorem lc_slD {n : Nat} {c : Int} {c0 x0 : Cl} {mt : Rho → Rz Bool} {me : Rho → Rz Rv} {p : Nat → Bool} {f : Nat → PD} {Ql : List PD → Rho → Prop} (C : Cl → Prop) (hx : C x0)
    (h : ∀ r x, C x → Wp (mt [c0, x, .fr (il (bbs r n)), .fr (il (ownl (bbs r n)))]) fun b ρ => b = p r ∧ ∃ x', C x' ∧ ρ = [c0, x', .fr (il (bbs r n)), .fr (il (ownl (bbs r n)))])
    (h' : ∀ r x, C x → p r = true → Wp (me [c0, x, .fr (il (bbs r n)), .fr (il (ownl (bbs r n)))]) fun v ρ => v.d = f r ∧ ∃ x', C x' ∧ ρ = [c0, x', .fr (il (bbs r n)), .fr (il (ownl (bbs r n)))])
    (fin : ∀ x, C x → Ql (((ofS n c).filter p).map f) [c0, x, .no, .no]) : Wp (lcR (turnL (gTp 2 (gsCons (gN 2) (gsCons (gN 3) gsNil))) mt me [2, 3]) (slD n c (2 ^ n)) [] [c0, x0, .no, .no]) Ql := by
  unfold slD
  refine lc_filtR (f := f) (p := p) (fun ρ' => ∃ x, C x ∧ ρ' = [c0, x, .no, .no]) ⟨x0, hx, rfl⟩ (fun r hr ρ hR => ?_) (fun ρ hR => ?_)
  · obtain ⟨x, cx, rfl⟩ := hR
    rw [w_turnL]
    simp [slI]
    refine (h r x cx).mono fun b ρ ⟨e1, x', cx', e2⟩ => ?_
    subst e2
    cases c : p r with
    | true =>
      rw [c] at e1
      subst e1
      simp
      refine (h' r x' cx' c).mono fun v ρ ⟨e3, x2, cx2, e4⟩ => ?_
      subst e4
      exact ⟨e3, x2, cx2, rfl⟩
    | false =>
      rw [c] at e1
      subst e1
      simp
      exact cx'
  · obtain ⟨x, cx, rfl⟩ := hR
    exact fin x cx
theorem sum_01 {as : List Int} (z : ∀ x ∈ as, 0 ≤ x ∧ x ≤ 1) : 0 ≤ as.sum ∧ as.sum ≤ as.length := by
  induction as with
  | nil => simp
  | cons x xs ih =>
    have i := ih fun y hy => z y (List.mem_cons_of_mem _ hy)
    have j := z x (List.mem_cons_self ..)
    (rw [List.sum_cons, List.length_cons])
    omega
@[simp] theorem shut_len {as : List Int} : (shut as).length = as.length := by simp [shut]
theorem frmL_lk {as : List Int} (h : 0 < as.length) : lk as (frmL as) := lk_of_mem h (frmL_eq h).2.1
theorem frmL_len {as : List Int} (h : 0 < as.length) : (frmL as).length = as.length := lk_len (frmL_lk h)
theorem frmL_same {as bs : List Int} (h : 0 < as.length) (q : lk as bs) : frmL bs = frmL as := by
  unfold frmL
  rw [lk_frm h q]
theorem own_lk {as bs : List Int} (h : 0 < as.length) (q : lk as bs) : ownl bs = ownl as := by
  obtain ⟨t, rfl | rfl⟩ := q
  · exact own_rot h
  · exact (own_rot (by simpa using h)).trans (own_mir h)
theorem lk_all {as bs : List Int} {P : Int → Prop} (q : lk as bs) (z : ∀ x ∈ as, P x) : ∀ x ∈ bs, P x := by
  obtain ⟨t, rfl | rfl⟩ := q
  · exact fun x hx => z x (mem_rot hx)
  · exact fun x hx => z x (mem_mir (mem_rot hx))
theorem frmL_01 {as : List Int} (h : 0 < as.length) (z : ∀ x ∈ as, x = 0 ∨ x = 1) : ∀ x ∈ frmL as, x = 0 ∨ x = 1 := lk_all (frmL_lk h) z
theorem frmL_le {as : List Int} (h : 0 < as.length) (t : Int) : frmL as ≤ rot t (frmL as) := by
  have l := frmL_len h
  refine (frmL_eq h).2.2 _ ((lk_mem h (frmL_lk h) _).mp (List.mem_append_left _ ?_))
  exact (mem_rots (by omega)).mpr ⟨t, rfl⟩
theorem le_at : ∀ {xs ys : List Int} {k : Nat}, xs ≤ ys → xs.length = ys.length → k < xs.length → (∀ j, j < k → nth xs j = nth ys j) → nth xs k ≤ nth ys k
  | [], _, k, _, _, hk, _ => absurd hk (by simp)
  | x :: xs, [], k, _, hl, _, _ => absurd hl (by simp)
  | x :: xs, y :: ys, 0, h, _, _, _ => by
    show x ≤ y
    refine Int.not_lt.mp fun z => ?_
    exact absurd h (List.not_le.mpr (List.cons_lt_cons_iff.mpr (.inl z)))
  | x :: xs, y :: ys, k + 1, h, hl, hk, he => by
    have e0 : x = y := he 0 (by omega)
    subst e0
    have h' : xs ≤ ys := List.not_lt.mp fun z => absurd h (List.not_le.mpr (List.cons_lt_cons_iff.mpr (.inr ⟨rfl, z⟩)))
    exact le_at (k := k) h' (by simpa using hl) (by simpa using hk) fun j hj => he (j + 1) (by omega)
theorem nth_rot {as : List Int} {t : Int} {i : Nat} (h : 0 < as.length) (hi : i < as.length) : nth (rot t as) i = cyc as (i - t) := by
  rw [← cyc_rot h, cyc_nat (by simpa using hi)]
theorem frm_ends {L : List Int} (h : 0 < L.length) (z : ∀ x ∈ L, x = 0 ∨ x = 1) (le : ∀ t : Int, L ≤ rot t L) : (∀ x ∈ L, x = 0) ∨ (∀ x ∈ L, x = 1) ∨ (nth L 0 = 0 ∧ nth L (L.length - 1) = 1) := by
  have at01 : ∀ s, s < L.length → nth L s = 0 ∨ nth L s = 1 := fun s hs => by
    unfold nth
    rw [List.getD_eq_getElem?_getD, List.getElem?_eq_getElem hs]
    exact z _ (List.getElem_mem hs)
  have memAt : ∀ x ∈ L, ∃ s, s < L.length ∧ nth L s = x := fun x hx => by
    obtain ⟨s, hs, e⟩ := List.mem_iff_getElem.mp hx
    exact ⟨s, hs, by unfold nth; rw [List.getD_eq_getElem?_getD, List.getElem?_eq_getElem hs, ← e]; rfl⟩
  -- the first one is the least
  have hd : ∀ s, s < L.length → nth L 0 ≤ nth L s := fun s hs => by
    have := le_at (k := 0) (le (-(s : Int))) (by simp) h (fun j hj => absurd hj (by omega))
    rw [nth_rot h h] at this
    have e : cyc L ((0 : Nat) - -(s : Int)) = nth L s := by
      rw [show ((0 : Nat) : Int) - -(s : Int) = (s : Int) by omega]
      exact cyc_nat hs
    rwa [e] at this
  by_cases c1 : ∀ x ∈ L, x = 1
  · exact .inr (.inl c1)
  by_cases c0 : ∀ x ∈ L, x = 0
  · exact .inl c0
  refine .inr (.inr ⟨?_, ?_⟩)
  · obtain ⟨x, hx, ne⟩ : ∃ x, x ∈ L ∧ x ≠ 1 := Classical.byContradiction fun q => c1 fun x hx => Classical.byContradiction fun w => q ⟨x, hx, w⟩
    obtain ⟨s, hs, e⟩ := memAt x hx
    have := hd s hs
    rcases at01 0 h with q | q <;> rcases at01 s hs with w | w <;> omega
  · rcases at01 (L.length - 1) (by omega) with q | q
    · exfalso
      refine c0 fun x hx => ?_
      have all0 : ∀ k, k < L.length → nth L k = 0 := by
        intro k
        induction k using Nat.strongRecOn with
        | _ k ih =>
          intro hk
          have eqs : ∀ j, j < k → nth L j = nth (rot 1 L) j := fun j hj => by
            rw [ih j hj (by omega), nth_rot h (by omega)]
            cases j with
            | zero =>
              have e : cyc L (((0 : Nat) : Int) - 1) = nth L (L.length - 1) := by
                rw [← cyc_nat (by omega : L.length - 1 < L.length)]
                exact cyc_congr (by rw [← Int.add_emod_right]; congr 1; omega)
              rw [e, q]
            | succ j =>
              have e : cyc L (((j + 1 : Nat) : Int) - 1) = nth L j := by
                rw [← cyc_nat (by omega : j < L.length)]
                congr 1
                omega
              rw [e, ih j (by omega) (by omega)]
          have := le_at (le 1) (by simp) hk eqs
          rw [nth_rot h hk] at this
          have e0 : cyc L ((k : Int) - 1) = 0 := by
            cases k with
            | zero =>
              have e : cyc L (((0 : Nat) : Int) - 1) = nth L (L.length - 1) := by
                rw [← cyc_nat (by omega : L.length - 1 < L.length)]
                exact cyc_congr (by rw [← Int.add_emod_right]; congr 1; omega)
              rw [e, q]
            | succ j =>
              have e : cyc L (((j + 1 : Nat) : Int) - 1) = nth L j := by
                rw [← cyc_nat (by omega : j < L.length)]
                congr 1
                omega
              rw [e, ih j (by omega) (by omega)]
          rw [e0] at this
          rcases at01 k hk with w | w <;> omega
      obtain ⟨s, hs, e⟩ := memAt x hx
      rw [← e]
      exact all0 s hs
    · exact q
def candR (n : Nat) (c : Int) : List Nat := (ofS n c).filter fun r => decide (nth (bbs r n) 0 = 0) && decide (nth (bbs r n) (n - 1) = 1)
def cand (n : Nat) (c : Int) : List (List Int) := (candR n c).map (fun r => bbs r n) ++ [List.replicate n 0, List.replicate n 1]
theorem cand9 : ((List.range 10).all fun n => (List.range 10).all fun c => decide ((candR n (c : Nat)).length ≤ 60)) = true := by decide +kernel
theorem cand_len {n : Nat} {c : Int} (hn : n ≤ 9) (c0 : 0 ≤ c) (c1 : c ≤ n) : (cand n c).length ≤ 62 := by
  have h := List.all_eq_true.mp (List.all_eq_true.mp cand9 n (List.mem_range.mpr (by omega))) c.toNat (List.mem_range.mpr (by omega))
  have e : ((c.toNat : Nat) : Int) = c := by omega
  rw [e] at h
  have := of_decide_eq_true h
  unfold cand
  rw [List.length_append, List.length_map]
  simp
  omega
theorem mem_ofS {n r : Nat} {c : Int} : r ∈ ofS n c ↔ r < 2 ^ n ∧ (bbs r n).sum = c := by
  unfold ofS ofSum
  rw [List.mem_filter, List.mem_range, decide_eq_true_eq]
theorem sum_lk {as bs : List Int} (h : 0 < as.length) (z : ∀ x ∈ as, x = 0 ∨ x = 1) (q : lk as bs) : bs.sum = as.sum := by
  rw [← own0 z h, ← own0 (lk_all q z) (by rw [lk_len q]; exact h), own_lk h q]
theorem frm_cand {n r : Nat} {c : Int} (h1 : 1 ≤ n) (h : r ∈ ofS n c) : frmL (bbs r n) ∈ cand n c := by
  have h0 : 0 < (bbs r n).length := by rw [bbs_len]; omega
  have l := frmL_len h0
  rw [bbs_len] at l
  have z := frmL_01 h0 bbs_01
  have hs := (mem_ofS.mp h).2
  unfold cand
  rcases frm_ends (by omega) z (fun t => frmL_le h0 t) with q | q | q
  · refine List.mem_append_right _ ?_
    rw [List.eq_replicate_of_mem q, l]
    simp
  · refine List.mem_append_right _ ?_
    rw [List.eq_replicate_of_mem q, l]
    simp
  · refine List.mem_append_left _ ?_
    obtain ⟨r', lt, e⟩ := bbs_on n _ l z
    rw [l] at q
    refine List.mem_map.mpr ⟨r', List.mem_filter.mpr ⟨mem_ofS.mpr ⟨lt, ?_⟩, ?_⟩, e.symm⟩
    · rw [← e, sum_lk h0 bbs_01 (frmL_lk h0), hs]
    · rw [← e]
      simp [q.1, q.2]
theorem dst_nodup (xs : List (List Int)) : (dstL xs).Nodup := (dstL_asc xs).imp fun {a b} h e => absurd (e ▸ h) (List.lt_irrefl _)
theorem dst_le {X D : List (List Int)} (h : ∀ x ∈ X, x ∈ D) : (dstL X).length ≤ D.length := nodup_le _ _ (dst_nodup X) fun x hx => h x (mem_dstL.mp hx)
theorem okSrt_of {xss : List (List Int)} {d : Nat} (h1 : 1 ≤ d) (hl : ∀ x ∈ xss, x.length = d) (hb : ∀ x ∈ xss, ∀ y ∈ x, y = 0 ∨ y = 1) (few : (dstL xss).length < 63) : okSrt xss = true := by
  unfold okSrt
  simp only [Bool.and_eq_true, List.all_eq_true, decide_eq_true_eq]
  refine ⟨⟨?_, fun x hx y hy => ?_⟩, few⟩
  · cases xss with
    | nil => rfl
    | cons x xss =>
      simp only [Bool.and_eq_true, List.all_eq_true, decide_eq_true_eq]
      exact ⟨by rw [hl x List.mem_cons_self]; exact h1, fun y hy => (hl y hy).trans (hl x List.mem_cons_self).symm⟩
  · rcases hb x hx y hy with rfl | rfl <;> decide
theorem forms_ok {n : Nat} {c : Int} {R : List Nat} (h1 : 1 ≤ n) (hR : ∀ r ∈ R, r ∈ ofS n c) (few : (dstL ((R.map fun r => bbs r n).map frmL)).length < 63) : okSrt ((R.map fun r => bbs r n).map frmL) = true := by
  refine okSrt_of (d := n) h1 (fun x hx => ?_) (fun x hx => ?_) few
  · obtain ⟨b, hb, rfl⟩ := List.mem_map.mp hx
    obtain ⟨r, hr, rfl⟩ := List.mem_map.mp hb
    rw [frmL_len (by rw [bbs_len]; omega), bbs_len]
  · obtain ⟨b, hb, rfl⟩ := List.mem_map.mp hx
    obtain ⟨r, hr, rfl⟩ := List.mem_map.mp hb
    exact frmL_01 (by rw [bbs_len]; omega) bbs_01
theorem forms_few {n : Nat} {c : Int} {R : List Nat} (h1 : 1 ≤ n) (hR : ∀ r ∈ R, r ∈ ofS n c) : (dstL ((R.map fun r => bbs r n).map frmL)).length ≤ (cand n c).length := dst_le fun x hx => by
  (obtain ⟨b, hb, rfl⟩ := List.mem_map.mp hx)
  obtain ⟨r, hr, rfl⟩ := List.mem_map.mp hb
  exact frm_cand h1 (hR r hr)
theorem mem_ofS_of {n : Nat} {c : Int} {b : List Int} (hl : b.length = n) (z : ∀ x ∈ b, x = 0 ∨ x = 1) (hs : b.sum = c) : ∃ r, r ∈ ofS n c ∧ b = bbs r n := by
  obtain ⟨r, lt, e⟩ := bbs_on n b hl z
  exact ⟨r, mem_ofS.mpr ⟨lt, by rw [← e]; exact hs⟩, e⟩
theorem mem_tws {as x : List Int} (h : 0 < as.length) (za : ∀ y ∈ as, y = 0 ∨ y = 1) : x ∈ twsU as ↔ ∃ b : List Int, b.length = as.length ∧ (∀ y ∈ b, y = 0 ∨ y = 1) ∧ ownl b = ownl as ∧ x = frmL b := by
  unfold twsU twsR
  rw [mem_dstL, List.mem_map]
  constructor
  · rintro ⟨r, hr, rfl⟩
    have hr := List.mem_filter.mp hr
    exact ⟨_, bbs_len r _, bbs_01, by simpa [fitW] using hr.2, rfl⟩
  · rintro ⟨b, h1, h2, h3, rfl⟩
    have hs : b.sum = as.sum := by rw [← own0 h2 (by omega), ← own0 za h, h3]
    obtain ⟨r, hr, rfl⟩ := mem_ofS_of h1 h2 hs
    exact ⟨r, List.mem_filter.mpr ⟨hr, by simp [fitW, h3]⟩, rfl⟩
theorem s_law_unlike {xss : List (List Int)} {Q : Rv → Rho → Prop} (hl : xss.length ≤ 100000) (ok : okSrt xss = true) (h : Q (.ow ((dstL xss).map lstI)) [.fr (.list (xss.map lstI))]) : Wp (m_law_unlike_k23 [.fr (.list (xss.map lstI))]) Q := by
  unfold m_law_unlike_k23 b_law_unlike_k23
  rw [w_fnM]
  refine ⟨rfl, ?_⟩
  simp [outs, itemsOf]
  refine ⟨by omega, ?_⟩
  refine lc_map (f := tupI) (fun xs hxs => ?_) ?_
  · rw [w_turnL]
    simp [lstI, gTupleOf]
    rfl
  · obtain ⟨d, _, _, few⟩ := okSrt.inv ok
    simp [gSrtT_tups ok, itemsOf, -List.map_map]
    refine ⟨by omega, ?_⟩
    refine lc_map (f := lstI) (fun xs hxs => ?_) ?_
    · rw [w_turnL]
      simp [tupI, gListOf, lstI]
    · simp
      exact h
section
variable {i : Nat} {mn : Rho → Rz (List (List PD))} {m m' : TM} {n : List (List PD) → Rho → Rz Fl} {t : Rho → Rz Bool} {ρ : Rho} {dss : List (List PD)} {Qf : Fl → Rho → Prop} {Qt : TR → Rho → Prop}
theorem w_told {fz : List Nat} (h : Wp (mn (frzR fz ρ)) fun dss ρ1 => i < ρ1.length ∧ Wp (n dss (ρ1.set i .no)) Qf) : Wp (mTold i fz mn n ρ) Qf := by
  unfold mTold
  rw [wp_bind]
  refine h.mono fun dss ρ1 ⟨h1, h2⟩ => ?_
  rw [if_pos h1]
  exact h2
def kTE (n : List (List PD) → Rho → Rz Fl) (Qf : Fl → Rho → Prop) : TR → Rho → Prop := fun r ρ1 => match r with
  | .go dss1 => Wp (n dss1 ρ1) Qf
  | .rt r => Qf (.rt r) ρ1
theorem w_toEnd (h : Wp (m dss ρ) (kTE n Qf)) : Wp (toEnd m n dss ρ) Qf := by
  unfold toEnd
  rw [wp_bind]
  refine h.mono fun r ρ1 h => ?_
  cases r with
  | go d => exact h
  | rt r => exact wp_ok.mpr h
def kTS (n : TM) (Qt : TR → Rho → Prop) : TR → Rho → Prop := fun r ρ1 => match r with
  | .go dss1 => Wp (n dss1 ρ1) Qt
  | .rt r => Qt (.rt r) ρ1
theorem w_toIf (h : Wp (t (ρ.set i (.fr (.list (dss.map PyData.list))))) fun b ρ3 => if b = true then Wp (m dss ((joinR ρ ρ3).set i .no)) Qt else Qt (.go dss) ((joinR ρ ρ3).set i .no)) : Wp (toIf i t m dss ρ) Qt := by
  unfold toIf
  rw [wp_bind]
  refine h.mono fun b ρ3 h => ?_
  cases b with
  | true => exact h
  | false => exact wp_ok.mpr h
theorem w_toApp0 {ds : List PD} {r : List (List PD)} (c : okLen (ds.length + 1) = true) (h : Qt (.go ((ds ++ [.none]) :: r)) ρ) : Wp (toApp0 (ds :: r) ρ) Qt := by
  show Wp (if okLen (ds.length + 1) = true then Rz.ok (TR.go ((ds ++ [.none]) :: r)) ρ else .stuck) Qt
  rw [if_pos c]
  exact wp_ok.mpr h
end
def lastR (n : Nat) (c : Int) (r : Nat) : Bool := decide (nth (bbs r n) (n - 1) = 1) || decide (c = 0)
theorem last_turn {b : List Int} (h : 0 < b.length) (z : ∀ y ∈ b, y = 0 ∨ y = 1) (hs : b.sum ≠ 0) : ∃ t : Int, nth (rot t b) (b.length - 1) = 1 := by
  have : ∃ s, s < b.length ∧ nth b s = 1 := Classical.byContradiction fun q => hs (by
    rw [sum_nth]
    have : ∀ s, s < b.length → nth b s = 0 := fun s hs' => by
      have m : nth b s = 0 ∨ nth b s = 1 := by
        unfold nth
        rw [List.getD_eq_getElem?_getD, List.getElem?_eq_getElem hs']
        exact z _ (List.getElem_mem hs')
      rcases m with w | w
      · exact w
      · exact absurd ⟨s, hs', w⟩ q
    rw [upto_congr (h := fun _ => 0) this, upto_zero])
  obtain ⟨s, hs', e⟩ := this
  refine ⟨(b.length : Int) - 1 - s, ?_⟩
  rw [nth_rot h (by omega)]
  rw [show (((b.length - 1 : Nat) : Int) - ((b.length : Int) - 1 - s)) = (s : Int) by omega, cyc_nat hs', e]
theorem rows_sh : ∀ {U : List (List Int)}, (∀ x ∈ U, ∀ y ∈ x, y = 0 ∨ y = 1) → shNs (U.map lstI) = true
  | [], _ => rfl
  | x :: U, h => by
    simp only [List.map_cons, shNs, Bool.and_eq_true]
    refine ⟨?_, rows_sh fun y hy => h y (List.mem_cons_of_mem _ hy)⟩
    unfold lstI
    simp only [shN]
    refine shNs_ints fun n hn => ?_
    rcases h x List.mem_cons_self n hn with rfl | rfl <;> (show Int.natAbs _ < 10 ^ 200; decide)
theorem rows_cost : ∀ {U : List (List Int)}, (∀ x ∈ U, x.length ≤ 40) → costs (U.map lstI) ≤ 10000 * U.length
  | [], _ => by simp [costs]
  | x :: U, h => by
    have ih := rows_cost fun y hy => h y (List.mem_cons_of_mem _ hy)
    have hx := h x List.mem_cons_self
    simp only [List.map_cons, costs, List.length_cons]
    unfold lstI at ih ⊢
    simp only [cost]
    rw [costs_ints]
    omega
theorem rows_dep : ∀ U : List (List Int), PyData.depthAll (U.map lstI) ≤ 1
  | [] => by simp only [List.map_nil, PyData.depthAll]; omega
  | x :: U => by
    have ih := rows_dep U
    (rw [List.map_cons, PyData.depthAll])
    refine Nat.max_le.mpr ⟨?_, ih⟩
    unfold lstI
    rw [PyData.depth, PySem.W.ke_depthAll]
    omega
theorem rows_repr {U : List (List Int)} (h1 : ∀ x ∈ U, ∀ y ∈ x, y = 0 ∨ y = 1) (h2 : ∀ x ∈ U, x.length ≤ 40) (h3 : U.length ≤ 100) : gRepr (.list (U.map lstI)) = some (.str (PyData.list (U.map lstI)).shown) ∧ SOk (PyData.list (U.map lstI)).shown := by
  have sh : shN (.list (U.map lstI)) = true := by simp only [shN]; exact rows_sh h1
  refine ⟨gRepr_of sh ?_ ?_, sok_shown _ sh⟩
  · have := rows_cost h2
    simp only [cost]
    omega
  · have := rows_dep U
    rw [PyData.depth]
    omega
section
variable {c : Cl} {j : Nat} {ρ : Rho} {Q : Rv → Rho → Prop}
@[simp] theorem w_sumN : Wp (mSumN j (c :: ρ)) Q ↔ WpO (Rho.peek (c :: ρ) j) fun z => WpO (gSumL z) fun d => Q (.fr d) (c :: ρ) := by
  unfold mSumN
  cases h : Rho.peek (c :: ρ) j with
  | none => simp
  | some z =>
    cases h2 : gSumL z with
    | none => simp [h2]
    | some d => simp [h2]
theorem w_kwL {mc : Rho → Rz Rv} {mk : Rho → Rz (List PD)} {Q : List (List PD) → Rho → Prop} (h : Wp (mk ρ) fun es ρ1 => ∃ (ns : List Int) (nss : List (List Int)), es = [.list (ns.map PyData.int)] ∧ mc [.ow (ns.map PyData.int)] = .ok (.ow (nss.map lstI)) [.ow (ns.map PyData.int)] ∧ nss.Nodup ∧ Q (rowsD nss) ρ1) : Wp (mKwL mc mk ρ) Q := by
  unfold mKwL
  rw [wp_bind]
  refine h.mono fun es ρ1 ⟨ns, nss, h1, h2, h3, h4⟩ => ?_
  subst h1
  simp only [lentR, ints?_map, h2, if_true]
  show Wp (newV (nss.map lstI) ρ1) Q
  unfold newV
  rw [lists?_map]
  show Wp (if nss.Nodup then .ok (rowsD nss) ρ1 else .stuck) Q
  rw [if_pos h3]
  exact wp_ok.mpr h4
end
theorem s_twin_b {as : List Int} {c0 : Cl} {Qf : Fl → Rho → Prop} (hc : c0 = .fr (il as) ∨ c0 = .ow (as.map PyData.int)) (hd : Sd1 as) (h2 : as.length ≤ 14) (ok : okSrt (((twsR as).map fun r => bbs r as.length).map frmL) = true)
    (h : ∀ c1, Qf (.rt (.ow ((twsU as).map lstI))) [c0, c1, .no, .no]) : Wp (b_twin_discsL [c0, .no, .no, .no]) Qf := by
  have h1 := hd.1
  have hb : big62 (as.length : Int) = true := big62_of (by omega) (by omega)
  unfold b_twin_discsL
  rcases hc with rfl | rfl
  all_goals
    simp [outs]
    refine s_require_slotted hd (by omega) ?_
    simp [hard, Rv.hard]
    refine s_own_of (sd_dc hd) ?_
    simp [hardAll_ints, Rv.hard, hb]
    refine s_slotted_discs h1 h2 ?_
    simp [itemsOf]
    have sl := slD_len (n := as.length) (k := 2 ^ as.length) (c := as.sum)
    have b14 := bbs_lt14 h2
    refine ⟨by omega, ?_⟩
    refine lc_slD (p := fitW as.length (ownl as)) (f := fun r => il (bbs r as.length)) (fun x => x = .ow ((ownl as).map PyData.int) ∨ x = .fr (il (ownl as))) (.inl rfl) (fun r x hx => ?_) (fun r x hx _ => ?_) fun x hx => ?_
    · rcases hx with rfl | rfl <;> simp [gEq_ints, fitW]
    · rcases hx with rfl | rfl <;> simp
    · have e1 : (((ofS as.length as.sum).filter (fitW as.length (ownl as))).map fun r => il (bbs r as.length)) = ((twsR as).map fun r => bbs r as.length).map lstI := by rw [List.map_map]; rfl
      rw [e1]
      simp [-List.map_map]
      refine s_unlike_forms (fun x hx => ?_) ?_ ok ?_
      · obtain ⟨r, _, rfl⟩ := List.mem_map.mp hx
        exact bbs_dc h1 (by omega)
      · rw [List.length_map]
        have := ofS_len (c := as.sum) h2
        have q : (twsR as).length ≤ (ofS as.length as.sum).length := List.length_filter_le ..
        omega
      · rw [List.map_map]
        simp [-List.map_map]
        exact h _
theorem s_twin_discsL {as : List Int} {Q : Rv → Rho → Prop} (hd : Sd1 as) (h2 : as.length ≤ 14) (ok : okSrt (((twsR as).map fun r => bbs r as.length).map frmL) = true)
    (h : Q (.ow ((twsU as).map lstI)) [.fr (il as)]) : Wp (m_twin_discsL [.fr (il as)]) Q := by
  unfold m_twin_discsL
  rw [w_fnM]
  refine ⟨rfl, ?_⟩
  refine s_twin_b (.inl rfl) hd h2 ok fun c1 => ?_
  simp [outs]
  exact h
theorem s_twin_lent {as : List Int} {Q : Rv → Rho → Prop} (hd : Sd1 as) (h2 : as.length ≤ 14) (ok : okSrt (((twsR as).map fun r => bbs r as.length).map frmL) = true)
    (h : Q (.ow ((twsU as).map lstI)) [.ow (as.map PyData.int)]) : Wp (fnM [0] 1 4 b_twin_discsL [.ow (as.map PyData.int)]) Q := by
  rw [w_fnM]
  refine ⟨rfl, ?_⟩
  refine s_twin_b (.inr rfl) hd h2 ok fun c1 => ?_
  simp [outs]
  exact h
theorem due_tws {as : List Int} (h0 : 0 < as.length) (za : ∀ x ∈ as, x = 0 ∨ x = 1) : dstL ((((ofS as.length as.sum).filter (lastR as.length as.sum)).filter (fitW as.length (ownl as))).map fun r => frmL (bbs r as.length)) = twsU as := asc_sameL (dstL_asc _) (dstL_asc _) fun x => by
  have e1 : x ∈ dstL ((twsR as).map fun r => frmL (bbs r as.length)) ↔ _ := mem_tws h0 za
  show x ∈ _ ↔ x ∈ dstL ((twsR as).map fun r => frmL (bbs r as.length))
  rw [e1, mem_dstL, List.mem_map]
  constructor
  · rintro ⟨r, hr, rfl⟩
    have hr := List.mem_filter.mp hr
    exact ⟨_, bbs_len r _, bbs_01, by simpa [fitW] using hr.2, rfl⟩
  · rintro ⟨b, hl, z, ho, rfl⟩
    have hb : 0 < b.length := by omega
    have hs : b.sum = as.sum := by rw [← own0 z hb, ← own0 za h0, ho]
    by_cases c0 : as.sum = 0
    · obtain ⟨r, hr, rfl⟩ := mem_ofS_of hl z hs
      exact ⟨r, List.mem_filter.mpr ⟨List.mem_filter.mpr ⟨hr, by simp [lastR, c0]⟩, by simp [fitW, ho]⟩, rfl⟩
    · obtain ⟨t, ht⟩ := last_turn hb z (by rw [hs]; exact c0)
      have lk1 : lk b (rot t b) := ⟨t, .inl rfl⟩
      obtain ⟨r, hr, e⟩ := mem_ofS_of (n := as.length) (c := as.sum) (b := rot t b) (by simp [hl]) (lk_all lk1 z) (by rw [sum_lk hb z lk1, hs])
      refine ⟨r, List.mem_filter.mpr ⟨List.mem_filter.mpr ⟨hr, ?_⟩, ?_⟩, ?_⟩
      · unfold lastR
        rw [← e]
        rw [hl] at ht
        simp [ht]
      · unfold fitW
        rw [← e, own_rot hb, ho]
        simp
      · rw [← e, frmL_same hb lk1]
def leastB (n : Nat) (b : List Int) : Bool := (List.range n).all fun t => !decide (rot (t : Nat) b < b) && !decide (rot (t : Nat) (mir b) < b)
def tsb (n : Nat) (c : Int) (b : List Int) : Bool := decide (b.sum = c) && (decide (nth b 0 = 0) && (decide (nth b (n - 1) = 1) && leastB n b))
def brL (n : Nat) (c : Int) : List (List Int) := (laL c n).filter (tsb n c)
theorem frmL_leM {as : List Int} (h : 0 < as.length) (t : Int) : frmL as ≤ rot t (mir (frmL as)) := by
  have l := frmL_len h
  refine (frmL_eq h).2.2 _ ((lk_mem h (frmL_lk h) _).mp (List.mem_append_right _ ?_))
  exact (mem_rots (by rw [mir_len]; omega)).mpr ⟨t, rfl⟩
theorem frm_leastB {as : List Int} (h : 0 < as.length) (n : Nat) : leastB n (frmL as) = true := by
  unfold leastB
  refine List.all_eq_true.mpr fun t _ => ?_
  have h1 := List.not_lt.mpr (frmL_le h (t : Nat))
  have h2 := List.not_lt.mpr (frmL_leM h (t : Nat))
  simp [h1, h2]
theorem forms_br {n : Nat} {c : Int} {R : List Nat} (h1 : 1 ≤ n) (c0 : 0 ≤ c) (hR : ∀ r ∈ R, r ∈ ofS n c) : (dstL (R.map fun r => frmL (bbs r n))).length ≤ (brL n c).length + 2 := by
  have h := dst_le (X := R.map fun r => frmL (bbs r n)) (D := brL n c ++ [List.replicate n 0, List.replicate n 1]) fun x hx => by
    obtain ⟨r, hr, rfl⟩ := List.mem_map.mp hx
    have hr := hR r hr
    have h0 : 0 < (bbs r n).length := by rw [bbs_len]; omega
    rcases List.mem_append.mp (frm_cand (by omega) hr) with q | q
    · obtain ⟨r', h', e⟩ := List.mem_map.mp q
      have h' := List.mem_filter.mp h'
      (simp only [Bool.and_eq_true, decide_eq_true_eq] at h')
      have e' : bbs r' n = frmL (bbs r n) := e
      have inL : bbs r' n ∈ (laL c n).filter fun s => decide (s.sum = c) := by
        rw [laL_sum c0]
        exact List.mem_map.mpr ⟨r', h'.1, rfl⟩
      have inL := List.mem_filter.mp inL
      have lb := frm_leastB h0 n
      rw [← e'] at lb
      refine List.mem_append_left _ ?_
      rw [← e]
      refine List.mem_filter.mpr ⟨inL.1, ?_⟩
      unfold tsb
      (simp only [Bool.and_eq_true, decide_eq_true_eq])
      exact ⟨by simpa using inL.2, h'.2.1, h'.2.2, lb⟩
    · exact List.mem_append_right _ q
  rw [List.length_append] at h
  exact h
theorem br_10 : ((List.range 11).all fun c => decide ((brL 10 (c : Nat)).length ≤ 60)) = true := by decide +kernel
theorem br_11 : ((List.range 5).all fun c => decide ((brL 11 (c : Nat)).length ≤ 60)) = true := by decide +kernel
theorem br_12 : ((List.range 5).all fun c => decide ((brL 12 (c : Nat)).length ≤ 60)) = true := by decide +kernel
theorem br_12_6 : (brL 12 6).length ≤ 60 := by decide +kernel
theorem br_14 : (brL 14 2).length ≤ 60 ∧ (brL 14 0).length ≤ 60 := by decide +kernel
def fewS (n : Nat) (c : Int) : Prop := n ≤ 10 ∨ ((n = 11 ∨ n = 12) ∧ c ≤ 4) ∨ (n = 12 ∧ c = 6) ∨ (n = 14 ∧ (c = 2 ∨ c = 0))
theorem few_of {n : Nat} {c : Int} {R : List Nat} (h1 : 1 ≤ n) (c0 : 0 ≤ c) (c1 : c ≤ n) (f : fewS n c) (hR : ∀ r ∈ R, r ∈ ofS n c) : (dstL (R.map fun r => frmL (bbs r n))).length ≤ 62 := by
  have b := forms_br (R := R) h1 c0 hR
  obtain ⟨k, rfl⟩ : ∃ k : Nat, c = k := ⟨c.toNat, by omega⟩
  have at_ : ∀ m N, ((List.range m).all fun c => decide ((brL N (c : Nat)).length ≤ 60)) = true → k < m → (brL N (k : Nat)).length ≤ 60 := fun m N h lt => of_decide_eq_true (List.all_eq_true.mp h k (List.mem_range.mpr lt))
  rcases f with f | ⟨f | f, f2⟩ | ⟨f, f2⟩ | ⟨f, f2 | f2⟩
  · by_cases c10 : n = 10
    · subst c10
      have := at_ 11 10 br_10 (by omega)
      omega
    · have q := forms_few (n := n) (c := k) (R := R) h1 hR
      rw [List.map_map] at q
      exact Nat.le_trans q (cand_len (by omega) c0 c1)
  · subst f
    have := at_ 5 11 br_11 (by omega)
    omega
  · subst f
    have := at_ 5 12 br_12 (by omega)
    omega
  · subst f
    rw [f2] at b
    have := br_12_6
    omega
  · subst f
    rw [f2] at b
    have := br_14.1
    omega
  · subst f
    rw [f2] at b
    have := br_14.2
    omega
theorem tws_few {as : List Int} (hd : Sd1 as) (f : fewS as.length as.sum) : okSrt (((twsR as).map fun r => bbs r as.length).map frmL) = true ∧ (twsU as).length ≤ 62 := by
  have sm := sum_01 hd.2.2
  have q := few_of (R := twsR as) hd.1 sm.1 sm.2 f fun r hr => (List.mem_filter.mp hr).1
  exact ⟨forms_ok (c := as.sum) hd.1 (fun r hr => (List.mem_filter.mp hr).1) (by rw [List.map_map]; exact Nat.lt_succ_of_le q), q⟩
theorem tws_it {as : List Int} (hd : Sd1 as) : ∀ x ∈ twsU as, (∀ y ∈ x, y = 0 ∨ y = 1) ∧ x.length = as.length := fun x hx => by
  obtain ⟨b, hl, z, ho, rfl⟩ := (mem_tws hd.1 (z1_01 hd.2.2)).mp hx
  have hb : 0 < b.length := by have := hd.1; omega
  exact ⟨frmL_01 hb z, by rw [frmL_len hb, hl]⟩
theorem s_law_right_k23 {as : List Int} {Q : Rv → Rho → Prop} (hd : Sd1 as) (h2 : as.length ≤ 14) (f : fewS as.length as.sum) (h : ∀ ρ', Q (.fr (.bool true)) ρ') : Wp (m_law_right_k23 [.fr (il as)]) Q := by
  have h1 := hd.1
  have dc := sd_dc hd
  have za := z1_01 hd.2.2
  have sm := sum_01 hd.2.2
  obtain ⟨ok, few⟩ := tws_few hd f
  have due := due_tws h1 za
  have of14 := ofS_len (c := as.sum) h2
  obtain ⟨rp, so⟩ := rows_repr (U := twsU as) (fun x hx => (tws_it hd x hx).1) (fun x hx => by rw [(tws_it hd x hx).2]; omega) (by omega)
  have nt := gNe_str so
  have et := gEq_str so
  have rpa := dc_rep dc
  have nta := gNe_txt (dc_bn dc)
  have call := s_twin_lent (as := as) (Q := fun r ρ => r = .ow ((twsU as).map lstI) ∧ ρ = [.ow (as.map PyData.int)]) hd h2 ok ⟨rfl, rfl⟩
  obtain ⟨rv, ρv, ev, ev', ev2⟩ := wp_get call
  subst ev' ev2
  unfold m_law_right_k23 b_law_right_k23
  rw [w_fnM]
  refine ⟨rfl, ?_⟩
  simp [outs, rpa]
  refine s_law_own dc ?_
  simp [Rv.hard, hardAll_ints]
  refine s_law_all_k23 h2 sm.1 ?_
  rw [show (List.range (2 ^ as.length)).filter (ofSum as.length as.sum) = ofS as.length as.sum from rfl]
  simp [itemsOf]
  refine ⟨by omega, ?_⟩
  refine lc_filtR (f := fun r => il (bbs r as.length)) (p := lastR as.length as.sum) (fun ρ' => ∃ c3, ρ' = [.fr (il as), .fr (.str (txt as)), .ow ((ownl as).map PyData.int), .no, c3, .no, .no]) ⟨_, rfl⟩ (fun r hr ρ hR => ?_) (fun ρ hR => ?_)
  · obtain ⟨c3, rfl⟩ := hR
    have em : L2.atI ((bbs r as.length).map PyData.int) (-1) = some (.int (nth (bbs r as.length) (as.length - 1))) := by
      have e : ((-1 : Int) + (as.length : Int)).toNat = as.length - 1 := by omega
      unfold L2.atI L2.ixN
      rw [List.length_map, bbs_len, if_neg (by decide), if_pos (by omega), e]
      simp only [Option.bind_some]
      rw [at_nat (by rw [bbs_len]; omega)]
    have sr : (bbs r as.length).sum = as.sum := (mem_ofS.mp hr).2
    rw [w_turnL]
    simp [em, sr]
    unfold lastR
    split
    · rename_i q; simp [q]
    · rename_i q
      split
      · rename_i q2; simp [q2]
      · rename_i q2; simp [q, q2]
  · obtain ⟨c3, rfl⟩ := hR
    have lf : ((ofS as.length as.sum).filter (lastR as.length as.sum)).length ≤ 16384 := Nat.le_trans (List.length_filter_le ..) of14
    have inO : ∀ r ∈ (ofS as.length as.sum).filter (lastR as.length as.sum), r ∈ ofS as.length as.sum := fun r hr => (List.mem_filter.mp hr).1
    generalize hR1 : (ofS as.length as.sum).filter (lastR as.length as.sum) = R1 at due lf inO
    simp [itemsOf]
    refine ⟨by omega, ?_⟩
    refine lc_filtR (f := fun r => lstI (frmL (bbs r as.length))) (p := fitW as.length (ownl as)) (fun ρ' => ∃ c2, (c2 = .ow ((ownl as).map PyData.int) ∨ c2 = .fr (il (ownl as))) ∧ ρ' = [.fr (il as), .fr (.str (txt as)), c2, .fr (.list (R1.map fun r => il (bbs r as.length))), .no, .no, .no]) ⟨_, .inl rfl, rfl⟩ (fun r hr ρ hR => ?_) (fun ρ hR => ?_)
    · obtain ⟨c2, hc, rfl⟩ := hR
      have bd := bbs_dc (r := r) h1 (show as.length ≤ 40 by omega)
      rw [w_turnL]
      simp
      refine s_law_own bd ?_
      simp [Rv.hard, hardAll_ints]
      rcases hc with rfl | rfl
      all_goals
        simp [gEq_ints]
        by_cases q : ownl (bbs r as.length) = ownl as
        · simp [q]
          refine s_law_form bd ?_
          rw [(frmL_eq (as := bbs r as.length) bd.1).1]
          simp [fitW, q]
          rfl
        · simp [q, fitW]
    · obtain ⟨c2, hc, rfl⟩ := hR
      have e1 : ((R1.filter (fitW as.length (ownl as))).map fun r => lstI (frmL (bbs r as.length))) = ((R1.filter (fitW as.length (ownl as))).map fun r => frmL (bbs r as.length)).map lstI := by rw [List.map_map]; rfl
      rw [e1]
      have lf2 : (R1.filter (fitW as.length (ownl as))).length ≤ 16384 := Nat.le_trans (List.length_filter_le ..) lf
      have ok2 : okSrt ((R1.filter (fitW as.length (ownl as))).map fun r => frmL (bbs r as.length)) = true := by
        have := forms_ok (n := as.length) (c := as.sum) (R := R1.filter (fitW as.length (ownl as))) h1 (fun r hr => inO r (List.mem_filter.mp hr).1) (by
          rw [List.map_map]
          show (dstL ((R1.filter (fitW as.length (ownl as))).map fun r => frmL (bbs r as.length))).length < 63
          rw [due]
          omega)
        rwa [List.map_map] at this
      simp [-List.map_map]
      refine s_law_unlike (by rw [List.length_map]; omega) ok2 ?_
      rw [due]
      simp [-List.map_map]
      refine w_told (w_kwL ?_)
      simp [frzR, -List.map_map]
      refine ⟨as, rfl, twsU as, ev, dst_nodup _, ?_⟩
      have jr : ∀ U : List (List Int), (rowsD U).map PyData.list = U.map lstI := fun U => by unfold rowsD; rw [List.map_map]; rfl
      have shp : ∀ xss : List (List Int), SeqAt.shaped (.list (xss.map lstI)) = true := fun xss => shaped_ils xss
      refine w_toEnd (w_toIf ?_)
      have jc : joinC c2 c2 = c2 := by rcases hc with rfl | rfl <;> simp [joinC, fl_ints]
      have j1 : ∀ d, joinC (.fr d) (.fr d) = .fr d := fun _ => rfl
      have j2 : ∀ c, joinC .no c = .no := fun c => by cases c <;> rfl
      simp [jr, rp, nt, rpa, nta, joinR, jc, j1, j2, -List.map_map]
      show Wp (toEnd _ _ _ _) _
      generalize hU : twsU as = U at *
      cases U with
      | nil =>
        exfalso
        have := (mem_tws hd.1 za).mpr ⟨as, rfl, za, rfl, rfl⟩
        rw [hU] at this
        cases this
      | cons x U =>
        have lu : U.length ≤ 61 := by simpa using few
        have lx : x.length ≤ 14 := by
          have := (tws_it hd x (by rw [hU]; simp)).2
          omega
        have cF : ∀ xs : List PD, cutL xs (some 1) none = xs.drop 1 := fun xs => cutL_from (by decide)
        have okx : okLen ((x.map PyData.int).length + 1) = true := by rw [List.length_map]; exact decide_eq_true (by omega)
        refine w_toEnd (w_toApp0 (ds := x.map PyData.int) (r := rowsD U) okx ?_)
        show Wp (toEnd _ _ _ _) _
        refine w_toEnd (w_toIf ?_)
        simp [jr, cF, -List.map_map]
        rw [gNe_same (shp _)]
        simp [joinR, jc, j1, j2, kTS, toNx, kTE, toApp, -List.map_map]
        refine ⟨by unfold rowsD; rw [List.length_map]; omega, ?_⟩
        refine s_twin_discsL hd h2 ok ?_
        rw [hU]
        simp only [List.map_cons] at rp et
        simp [rp, et, -List.map_map]
        exact h _
def l23T : Rho → Rz Fl := (mSeq (mSet 8 (mLst (mCons (mC (.int 1)) (mCons (mC (.int 1)) (mCons (mC (.int 0)) (mCons (mC (.int 1)) (mCons (mC (.int 1)) (mCons (mC (.int 0)) (mCons (mC (.int 0)) (mCons (mC (.int 0)) mNil))))))))))
  (mSeq (mRet (mOp2 qEq (mCall m_twin_discsL (mCons (mV 8) mNil)) (mLst (mCons (mLst (mCons (mC (.int 0)) (mCons (mC (.int 0)) (mCons (mC (.int 0)) (mCons (mC (.int 1)) (mCons (mC (.int 1)) (mCons (mC (.int 0)) (mCons (mC (.int 1)) (mCons (mC (.int 1)) mNil))))))))) (mCons (mLst (mCons (mC (.int 0)) (mCons (mC (.int 0)) (mCons (mC (.int 1)) (mCons (mC (.int 0)) (mCons (mC (.int 0)) (mCons (mC (.int 1)) (mCons (mC (.int 1)) (mCons (mC (.int 1)) mNil))))))))) mNil)))))
  mNx))
theorem l23T_eq : b_law_k23 = (mSeq (mFor (mG gRange1 (mCons (mCB cMax (mCons (mC (.int 1)) (mCons (mCB cMin (mCons (mC (.int 3)) (mCons (mLenN 0) mNil))) mNil))) mNil)) (gN 1) (mSeq (mSet 2 (mCallP m_law_pool (mPkA 0 (mPkA 1 mNil))))
  (mSeq (mFor (mItems (mTup (mCons (mOp2 gAdd (mC (.int 1)) (mCall0 2 m_law_draw (mCons (mC (.int 4)) mNil))) (mCons (mOp2 gAdd (mC (.int 5)) (mCall0 2 m_law_draw (mCons (mC (.int 4)) mNil))) (mCons (mC (.int 8)) mNil))))) (gN 3) (mSeq (mIfS (mNotT (mTr (mCallP m_law_right_k23 (mCons (mCall0 2 m_law_slits (mCons (mV 3) mNil)) mNil)))) (mSeq (mRet (mC (.bool false)))
  mNx) mNx)
  mNx))
  (mSeq (mIfS (mAndT (mB (mOp2 qEq (mV 1) (mC (.int 0)))) (mNotT (mTr (mCallP m_law_right_k23 (mCons (mCall0 2 m_law_slits (mCons (mOp2 gAdd (mC (.int 9)) (mCB cInt (mCons (mOp2 qEq (mCall0 2 m_law_draw (mCons (mC (.int 8)) mNil)) (mC (.int 0))) mNil))) mNil)) mNil))))) (mSeq (mRet (mC (.bool false)))
  mNx) mNx)
  (mSeq (mIfS (mAndT (mB (mOp2 qEq (mV 1) (mC (.int 0)))) (mB (mOp2 qEq (mCall0 2 m_law_draw (mCons (mC (.int 3)) mNil)) (mC (.int 0))))) (mSeq (mPar 4 5 (mListRg (mC (.int 12))) (mOp2 gMul (mLst (mCons (mC (.int 0)) mNil)) (mOp2 gAdd (mC (.int 11)) (mCall0 2 m_law_draw (mCons (mC (.int 2)) mNil)))))
  (mSeq (mFor (mG gRange1 (mCons (mC (.int 4)) mNil)) (gN 6) (mSeq (mSetIx 5 (mOp2 qSub (mPopAt 4 (mCall0 2 m_law_draw (mCons (mLenN 4) mNil))) (mC (.int 1))) (mC (.int 1)))
  mNx))
  (mSeq (mIfS (mNotT (mTr (mCallP m_law_right_k23 (mPkA 5 mNil)))) (mSeq (mRet (mC (.bool false)))
  mNx) mNx)
  mNx))) mNx)
  mNx))))) (mSeq (mIfS (mB (mOp2 qEqS (mV 0) (mLst mNil))) (mSeq (mSet 5 (mOp2 gAdd (mLst (mCons (mC (.int 1)) mNil)) (mLc (mG gRange2 (mCons (mC (.int 1)) (mCons (mC (.int 14)) mNil))) (gN 7) mYes (mCB cInt (mCons (mOp2 qEq (mV 7) (mC (.int 5))) mNil)) [7])))
  (mSeq (mIfS (mOrT (mB (mOp2 qNe (mCall m_twin_discsL (mCons (mV 5) mNil)) (mLst (mCons (mCall m_law_form (mCons (mV 5) mNil)) mNil)))) (mB (mOp2 qNe (mCall m_twin_discsL (mCons (mOp2 gMul (mLst (mCons (mC (.int 0)) mNil)) (mC (.int 14))) mNil)) (mLst (mCons (mOp2 gMul (mLst (mCons (mC (.int 0)) mNil)) (mC (.int 14))) mNil))))) (mSeq (mRet (mC (.bool false)))
  mNx) mNx)
  (mSeq (mIfS (mOrT (mNotT (mTr (mCallP m_law_right_k23 (mCons (mLst (mCons (mC (.int 1)) (mCons (mC (.int 1)) (mCons (mC (.int 0)) (mCons (mC (.int 1)) (mCons (mC (.int 0)) (mCons (mC (.int 0)) (mCons (mC (.int 0)) (mCons (mC (.int 1)) (mCons (mC (.int 0)) (mCons (mC (.int 0)) (mCons (mC (.int 0)) (mCons (mC (.int 0)) mNil))))))))))))) mNil)))) (mNotT (mTr (mCallP m_law_right_k23 (mCons (mLst (mCons (mC (.int 1)) (mCons (mC (.int 1)) (mCons (mC (.int 1)) (mCons (mC (.int 0)) (mCons (mC (.int 1)) (mCons (mC (.int 0)) (mCons (mC (.int 1)) (mCons (mC (.int 0)) (mCons (mC (.int 0)) (mCons (mC (.int 1)) (mCons (mC (.int 0)) (mCons (mC (.int 0)) mNil))))))))))))) mNil))))) (mSeq (mRet (mC (.bool false)))
  mNx) mNx)
  mNx))) mNx) l23T)) := rfl
theorem tws_laL {as : List Int} (z : ∀ x ∈ as, 0 ≤ x ∧ x ≤ 1) : twsU as = dstL ((((laL as.sum as.length).filter fun s => decide (s.sum = as.sum)).filter fun b => decide (ownl b = ownl as)).map frmL) := by
  rw [laL_sum (sum_01 z).1, List.filter_map, List.map_map]
  rfl
def first8 : List Int := [1, 1, 0, 1, 1, 0, 0, 0]
def two14 : List Int := [1, 0, 0, 0, 0, 1, 0, 0, 0, 0, 0, 0, 0, 0]
def none14 : List Int := [0, 0, 0, 0, 0, 0, 0, 0, 0, 0, 0, 0, 0, 0]
def four12 : List Int := [1, 1, 0, 1, 0, 0, 0, 1, 0, 0, 0, 0]
def six12 : List Int := [1, 1, 1, 0, 1, 0, 1, 0, 0, 1, 0, 0]
theorem tw_first : twsU first8 = [[0, 0, 0, 1, 1, 0, 1, 1], [0, 0, 1, 0, 0, 1, 1, 1]] := by rw [tws_laL (by decide)]; decide +kernel
theorem tw_two : twsU two14 = [frmL two14] := by rw [tws_laL (by decide)]; decide +kernel
theorem tw_none : twsU none14 = [none14] := by rw [tws_laL (by decide)]; decide +kernel
theorem sd_of {as : List Int} (h1 : 1 ≤ as.length) (h2 : as.length ≤ 40) (z : ∀ x ∈ as, 0 ≤ x ∧ x ≤ 1) : Sd1 as := ⟨h1, h2, z⟩
theorem sd_first : Sd1 first8 := sd_of (by decide) (by decide) (by decide)
theorem sd_two : Sd1 two14 := sd_of (by decide) (by decide) (by decide)
theorem sd_none : Sd1 none14 := sd_of (by decide) (by decide) (by decide)
theorem sd_four : Sd1 four12 := sd_of (by decide) (by decide) (by decide)
theorem sd_six : Sd1 six12 := sd_of (by decide) (by decide) (by decide)
theorem s_l23T {ns : List Int} {c1 c2 c3 c4 c5 c6 c7 : Cl} {Qf : Fl → Rho → Prop} (h : ∀ ρ', Qf (.rt (.fr (.bool true))) ρ') : Wp (l23T [.fr (scr ns), c1, c2, c3, c4, c5, c6, c7, .no]) Qf := by
  have e : (PyData.list [.int 1, .int 1, .int 0, .int 1, .int 1, .int 0, .int 0, .int 0]) = il first8 := rfl
  unfold l23T
  simp
  refine s_twin_discsL (as := first8) sd_first (by decide) (tws_few sd_first (.inl (by decide))).1 ?_
  rw [tw_first]
  simp [lstI]
  rw [gEq_same (by decide +kernel)]
  simp
  exact h _
theorem sum_set_le : ∀ {ms : List Int} {j : Nat}, (∀ m ∈ ms, 0 ≤ m) → (ms.set j 1).sum ≤ ms.sum + 1
  | [], j, _ => by simp
  | m :: ms, 0, h => by
    have := h m List.mem_cons_self
    simp only [List.set_cons_zero, List.sum_cons]
    omega
  | m :: ms, j + 1, h => by
    have ih := sum_set_le (ms := ms) (j := j) fun x hx => h x (List.mem_cons_of_mem _ hx)
    simp only [List.set_cons_succ, List.sum_cons]
    omega
theorem mn63e {n : Int} (h : 0 ≤ n) (k : Int) (h1 : 1 ≤ k) (h2 : k ≤ 100) : 0 ≤ (if (if n < k then n else k) > 1 then (if n < k then n else k) else 1) ∧ (if (if n < k then n else k) > 1 then (if n < k then n else k) else 1) ≤ 100 := by
  split <;> split at * <;> omega
def Lp23 (ns : List Int) (at0 : Nat) (m : Int) (k : Nat) (ρ : Rho) : Prop := ∃ ts c d e f g, ρ = [.fr (scr ns), .fr (.int at0), .ow ts, c, d, e, f, g, .no] ∧ Tk (m + 3000 * k) ts
def Lq23 (ns : List Int) (N : Nat) (k : Nat) (ρ : Rho) : Prop := ∃ ts c f g, ∃ ls ms : List Int, ρ = [.fr (scr ns), .fr (.int 0), .ow ts, c, .ow (ls.map PyData.int), .ow (ms.map PyData.int), f, g, .no] ∧ Tk (50000 + k) ts ∧ ls.length + k = 12 ∧ (∀ l ∈ ls, 0 ≤ l ∧ l ≤ 11) ∧ ms.length = N ∧ (∀ m ∈ ms, 0 ≤ m ∧ m ≤ 1) ∧ ms.sum ≤ k
theorem s_law_k23 {ns : List Int} : Wp (m_law_k23 [.fr (scr ns)]) fun r _ => r = .fr (.bool true) := by
  unfold m_law_k23
  rw [l23T_eq, w_fnM]
  refine ⟨rfl, ?_⟩
  have hm := mn63e (show 0 ≤ (ns.length : Int) by omega) 3 (by decide) (by decide)
  have hb := big62_of (i := (if (if (ns.length : Int) < 3 then (ns.length : Int) else 3) > 1 then (if (ns.length : Int) < 3 then (ns.length : Int) else 3) else 1)) (by omega) (by omega)
  simp [outs]
  refine ⟨by simpa using hb, ?_⟩
  refine for_inv (fun ds ρ => (∃ a b c d e f g, ρ = [.fr (scr ns), a, b, c, d, e, f, g, .no]) ∧ ∀ d ∈ ds, ∃ k : Nat, d = .int k ∧ k ≤ 100) ⟨⟨_, _, _, _, _, _, _, rfl⟩, fun d hd => ?_⟩ (fun d ds ρ hI => ?_) (fun ρ hI => ?_)
  · simp only [rangeD, List.mem_map, List.mem_range] at hd
    obtain ⟨k, hk, rfl⟩ := hd
    refine ⟨k, by simp, ?_⟩
    omega
  · obtain ⟨⟨a, b, c, d', e, f, g, rfl⟩, hds⟩ := hI
    obtain ⟨at0, rfl, hat⟩ := hds d (List.mem_cons_self ..)
    have hds' : ∀ d ∈ ds, ∃ k : Nat, d = .int k ∧ k ≤ 100 := fun d hd => hds d (List.mem_cons_of_mem _ hd)
    rw [w_turnF]
    simp
    refine s_law_pool hat fun ts hT => ?_
    have hh : hardAll ts = true := by
      obtain ⟨t0, t1, t2, rfl, _⟩ := hT
      rfl
    simp [Rv.hard, hh]
    refine s_law_draw hT (by omega) (by decide) (by decide) fun x ts2 x0 x1 hT2 => ?_
    simp
    refine s_law_draw hT2 (by omega) (by decide) (by decide) fun y ts3 y0 y1 hT3 => ?_
    simp [itemsOf]
    rw [show [PyData.int (1 + x), PyData.int (5 + y), PyData.int 8] = [1 + x, 5 + y, 8].map PyData.int from rfl]
    refine for_map (Lp23 ns at0 10) ⟨ts3, _, _, _, _, _, rfl, hT3.mono (by simp)⟩ (fun k hk ρ hI => ?_) (fun ρ hI => ?_)
    · obtain ⟨ts, c, d, e, f, g, rfl, hT⟩ := hI
      simp only [List.length_cons, List.length_nil] at hk
      rw [w_turnF]
      have hr : 1 ≤ [1 + x, 5 + y, 8][k] ∧ [1 + x, 5 + y, 8][k] ≤ 8 := by
        have : ∀ z ∈ [1 + x, 5 + y, 8], 1 ≤ z ∧ z ≤ 8 := by
          intro z hz
          simp only [List.mem_cons, List.not_mem_nil, or_false] at hz
          rcases hz with rfl | rfl | rfl <;> omega
        exact this _ (List.getElem_mem _)
      generalize [1 + x, 5 + y, 8][k] = sz at hr
      simp
      refine s_law_slits hT (by omega) (by omega) (by omega) fun ms ts4 hl hz hT4 => ?_
      simp [Rv.hard, hardAll_ints]
      refine s_law_right_k23 ⟨by omega, by omega, hz⟩ (by omega) (.inl (by omega)) fun ρ' => ?_
      simp [Rv.hard, hard]
      exact ⟨ts4, _, _, _, _, _, rfl, hT4.mono (by omega)⟩
    · obtain ⟨ts, c, d, e, f, g, rfl, hT⟩ := hI
      simp only [List.length_cons, List.length_nil] at hT
      simp
      by_cases z : at0 = 0
      · subst z
        simp
        refine s_law_draw hT (by omega) (by decide) (by decide) fun w ts4 w0 w1 hT4 => ?_
        obtain ⟨q, hq, q1, q2⟩ : ∃ q : Int, (gInt (.bool (decide (w = 0))) = some (.int q)) ∧ 0 ≤ q ∧ q ≤ 1 := by
          by_cases z : w = 0
          · exact ⟨1, by simp [gInt, z], by decide, by decide⟩
          · exact ⟨0, by simp [gInt, z], by decide, by decide⟩
        simp [hq]
        refine s_law_slits hT4 (by omega) (by omega) (by omega) fun ms ts5 hl hz hT5 => ?_
        simp [Rv.hard, hardAll_ints]
        refine s_law_right_k23 ⟨by omega, by omega, hz⟩ (by omega) (.inl (by omega)) fun ρ' => ?_
        simp [Rv.hard, hard]
        refine s_law_draw hT5 (by omega) (by decide) (by decide) fun u ts6 u0 u1 hT6 => ?_
        by_cases zu : u = 0
        · have b12 : big62 12 = true := rfl
          simp [zu, b12]
          refine s_law_draw hT6 (by omega) (by decide) (by decide) fun v ts7 v0 v1 hT7 => ?_
          obtain ⟨N, hN, n1, n2⟩ : ∃ N : Nat, 11 + v = N ∧ 11 ≤ N ∧ N ≤ 12 := ⟨(11 + v).toNat, by omega, by omega, by omega⟩
          have b4 : big62 4 = true := rfl
          have f1 : N ≤ 1000000 := by omega
          have f2 : (N : Int) < 4611686018427387904 := by omega
          simp [hN, b4, f1, f2]
          refine for_range (n := 4) (Lq23 ns N) ⟨ts7, c, f, g, (List.range 12).map fun (i : Nat) => (i : Int), List.replicate N 0, ?_, hT7.mono (by omega), by simp, fun l hl => ?_, by simp, fun m hm => ?_, by simp⟩ (fun k ρ hkc hI => ?_) (fun ρ hI => ?_)
          · rw [show rangeD 0 12 = rangeD 0 (12 : Nat) from rfl, rangeD_eq, List.map_map, List.map_replicate]; rfl
          · obtain ⟨i, hi, rfl⟩ := List.mem_map.mp hl
            have := List.mem_range.mp hi
            omega
          · rw [List.eq_of_mem_replicate hm]; decide
          · obtain ⟨ts, c, f, g, ls, ms, rfl, hT, hlk, hls, hl, hm, hs⟩ := hI
            rw [w_turnF]
            simp
            refine s_law_draw hT (by omega) (by omega) (by omega) fun x ts4 x0 x1 hT4 => ?_
            have x1' : x.toNat < ls.length := by omega
            have e6 : L2.ixN ls.length x = some x.toNat := ixN_lt x0 x1
            have y := hls _ (List.getElem_mem x1')
            obtain ⟨j, e7, hj⟩ : ∃ j : Nat, L2.ixN ms.length (ls[x.toNat] - 1) = some j ∧ j < ms.length := by
              unfold L2.ixN
              by_cases z : 0 ≤ ls[x.toNat] - 1
              · rw [if_pos z, if_pos (by omega)]
                exact ⟨_, rfl, by omega⟩
              · rw [if_neg z, if_pos (by omega)]
                exact ⟨_, rfl, by omega⟩
            simp [e6, List.getElem?_eq_getElem x1', e7]
            refine ⟨by omega, ts4, c, .fr (.int k), g, ls.eraseIdx x.toNat, ms.set j 1, ?_, hT4.mono (by omega), ?_, fun l hl' => hls l (List.mem_of_mem_eraseIdx hl'), by simpa using hl, fun m hm' => ?_, ?_⟩
            · rw [map_eraseIdx', List.map_set]
            · rw [List.length_eraseIdx_of_lt x1']; omega
            · rcases List.mem_or_eq_of_mem_set hm' with z | z
              · exact hm m z
              · subst z; decide
            · have := sum_set_le (ms := ms) (j := j) fun m hm' => (hm m hm').1
              omega
          · obtain ⟨ts, c, f, g, ls, ms, rfl, hT, hlk, hls, hl, hm, hs⟩ := hI
            simp
            refine s_law_right_k23 ⟨by omega, by omega, hm⟩ (by omega) (.inr (.inl ⟨by omega, hs⟩)) fun ρ' => ?_
            simp [Rv.hard, hard, hardAll_ints]
            exact hds'
        · simp [zu]
          exact hds'
      · have z' : ¬ (at0 : Int) = 0 := by omega
        simp [z]
        exact hds'
  · obtain ⟨⟨a, b, c, d, e, f, g, rfl⟩, _⟩ := hI
    simp
    cases ns with
    | cons n ns =>
      simp
      exact s_l23T fun ρ' => rfl
    | nil =>
      have b1 : big62 1 = true := rfl
      have b14 : big62 14 = true := rfl
      simp [b1, b14]
      have er : rangeD 1 13 = ([1, 2, 3, 4, 5, 6, 7, 8, 9, 10, 11, 12, 13] : List Int).map PyData.int := rfl
      rw [er]
      refine lc_ints (f := fun y => if y = 5 then 1 else 0) (fun y hy => ?_) ?_
      · rw [w_turnL]
        by_cases z : y = 5
        · simp [gInt, z]
        · simp [gInt, z]
      · simp
        have e14 : PyData.list [.int 1, .int 0, .int 0, .int 0, .int 0, .int 1, .int 0, .int 0, .int 0, .int 0, .int 0, .int 0, .int 0, .int 0] = il two14 := rfl
        refine s_twin_discsL (as := two14) sd_two (by decide) (tws_few sd_two (.inr (.inr (.inr ⟨rfl, .inl (by decide)⟩)))).1 ?_
        rw [tw_two]
        simp
        refine s_law_form (as := two14) (sd_dc sd_two) ?_
        rw [(frmL_eq (as := two14) (by decide)).1]
        simp [lstI]
        have g2 : gNe (.list [PyData.list (List.map PyData.int (frmL two14))]) (.list [PyData.list (List.map PyData.int (frmL two14))]) = some (.bool false) := gNe_same (shaped_ils [frmL two14])
        rw [g2]
        simp
        refine s_twin_discsL (as := none14) sd_none (by decide) (tws_few sd_none (.inr (.inr (.inr ⟨rfl, .inr (by decide)⟩)))).1 ?_
        rw [tw_none]
        simp [lstI, none14]
        rw [gNe_same (by decide +kernel)]
        simp
        refine s_law_right_k23 (as := four12) sd_four (by decide) (.inr (.inl ⟨.inr rfl, by decide⟩)) fun ρ' => ?_
        simp [Rv.hard, hard]
        refine s_law_right_k23 (as := six12) sd_six (by decide) (.inr (.inr (.inl ⟨rfl, by decide⟩))) fun ρ' => ?_
        simp [Rv.hard, hard]
        exact s_l23T fun ρ' => rfl
theorem law_k23_true : LawM 63 m_law_k23 := fun ns _ => by
  obtain ⟨r, ρ', e, h⟩ := (s_law_k23 (ns := ns)).out
  subst h
  exact ⟨ρ', e⟩
end Sd
namespace LK23
open PySem PySem.Spec PyProof.Rows L2 Sd
def topS (i : Nat) : Stmt := PySem.Challenge.pw_slitdiscs_k23_twins_by_all_discs.main.body.getD i (.Pass ⟨0, 0, 0, 0⟩)
/-! is_integer -/
abbrev st_is_integer : Stmt := topS 6
abbrev N_is_integer : List Str := ["value"]
theorem sc_is_integer : FnScope N_is_integer ["value"] (defScope st_is_integer) := ⟨rfl, rfl, rfl, by decide +kernel, rfl, by decide +kernel, by decide +kernel⟩
/-! turned_by -/
abbrev st_turned_by : Stmt := topS 12
abbrev N_turned_by : List Str := ["disc", "turn", "cut"]
theorem sc_turned_by : FnScope N_turned_by ["disc", "turn"] (defScope st_turned_by) := ⟨rfl, rfl, rfl, by decide +kernel, rfl, by decide +kernel, by decide +kernel⟩
/-! mirrored_by -/
abbrev st_mirrored_by : Stmt := topS 13
abbrev N_mirrored_by : List Str := ["disc"]
theorem sc_mirrored_by : FnScope N_mirrored_by ["disc"] (defScope st_mirrored_by) := ⟨rfl, rfl, rfl, by decide +kernel, rfl, by decide +kernel, by decide +kernel⟩
/-! own_of -/
abbrev st_own_of : Stmt := topS 18
abbrev N_own_of : List Str := ["disc", "slots", "slot", "turn"]
theorem sc_own_of : FnScope N_own_of ["disc"] (defScope st_own_of) := ⟨rfl, rfl, rfl, by decide +kernel, rfl, by decide +kernel, by decide +kernel⟩
/-! open_lights -/
abbrev st_open_lights : Stmt := topS 19
abbrev N_open_lights : List Str := ["slots", "places", "found", "one", "other"]
theorem sc_open_lights : FnScope N_open_lights ["slots", "places"] (defScope st_open_lights) := ⟨rfl, rfl, rfl, by decide +kernel, rfl, by decide +kernel, by decide +kernel⟩
/-! _law_pool -/
abbrev st_law_pool : Stmt := topS 24
abbrev N_law_pool : List Str := ["script", "at", "cell"]
theorem sc_law_pool : FnScope N_law_pool ["script", "at"] (defScope st_law_pool) := ⟨rfl, rfl, rfl, by decide +kernel, rfl, by decide +kernel, by decide +kernel⟩
/-! _law_draw -/
abbrev st_law_draw : Stmt := topS 25
abbrev N_law_draw : List Str := ["pool", "top", "drawn", "mixed"]
theorem sc_law_draw : FnScope N_law_draw ["pool", "top"] (defScope st_law_draw) := ⟨rfl, rfl, rfl, by decide +kernel, rfl, by decide +kernel, by decide +kernel⟩
/-! _law_own -/
abbrev st_law_own : Stmt := topS 28
abbrev N_law_own : List Str := ["plate", "size", "found", "turn", "spot"]
theorem sc_law_own : FnScope N_law_own ["plate"] (defScope st_law_own) := ⟨rfl, rfl, rfl, by decide +kernel, rfl, by decide +kernel, by decide +kernel⟩
/-! _law_turned -/
abbrev st_law_turned : Stmt := topS 29
abbrev N_law_turned : List Str := ["plate", "by", "size", "spot"]
theorem sc_law_turned : FnScope N_law_turned ["plate", "by"] (defScope st_law_turned) := ⟨rfl, rfl, rfl, by decide +kernel, rfl, by decide +kernel, by decide +kernel⟩
/-! _law_back -/
abbrev st_law_back : Stmt := topS 30
abbrev N_law_back : List Str := ["plate", "size", "spot"]
theorem sc_law_back : FnScope N_law_back ["plate"] (defScope st_law_back) := ⟨rfl, rfl, rfl, by decide +kernel, rfl, by decide +kernel, by decide +kernel⟩
/-! _law_all -/
abbrev st_law_all : Stmt := topS 32
abbrev N_law_all : List Str := ["size", "count", "found", "spot", "later", "some", "light"]
theorem sc_law_all : FnScope N_law_all ["size", "count"] (defScope st_law_all) := ⟨rfl, rfl, rfl, by decide +kernel, rfl, by decide +kernel, by decide +kernel⟩
/-! _law_unlike -/
abbrev st_law_unlike : Stmt := topS 33
abbrev N_law_unlike : List Str := ["rows", "some", "row"]
theorem sc_law_unlike : FnScope N_law_unlike ["rows"] (defScope st_law_unlike) := ⟨rfl, rfl, rfl, by decide +kernel, rfl, by decide +kernel, by decide +kernel⟩
/-! is_at_least -/
abbrev st_is_at_least : Stmt := topS 7
abbrev N_is_at_least : List Str := ["value", "least"]
theorem sc_is_at_least : FnScope N_is_at_least ["value", "least"] (defScope st_is_at_least) := ⟨rfl, rfl, rfl, by decide +kernel, rfl, by decide +kernel, by decide +kernel⟩
/-! turned_all -/
abbrev st_turned_all : Stmt := topS 14
abbrev N_turned_all : List Str := ["disc", "turn"]
theorem sc_turned_all : FnScope N_turned_all ["disc"] (defScope st_turned_all) := ⟨rfl, rfl, rfl, by decide +kernel, rfl, by decide +kernel, by decide +kernel⟩
/-! slotted_discs -/
abbrev st_slotted_discs : Stmt := topS 20
abbrev N_slotted_discs : List Str := ["slots", "many", "found", "number", "disc", "slot"]
theorem sc_slotted_discs : FnScope N_slotted_discs ["slots", "many"] (defScope st_slotted_discs) := ⟨rfl, rfl, rfl, by decide +kernel, rfl, by decide +kernel, by decide +kernel⟩
/-! _law_slits -/
abbrev st_law_slits : Stmt := topS 27
abbrev N_law_slits : List Str := ["pool", "size", "kind", "left", "found", "spot", "turn"]
theorem sc_law_slits : FnScope N_law_slits ["pool", "size"] (defScope st_law_slits) := ⟨rfl, rfl, rfl, by decide +kernel, rfl, by decide +kernel, by decide +kernel⟩
/-! _law_form -/
abbrev st_law_form : Stmt := topS 31
abbrev N_law_form : List Str := ["plate", "back", "size", "by"]
theorem sc_law_form : FnScope N_law_form ["plate"] (defScope st_law_form) := ⟨rfl, rfl, rfl, by decide +kernel, rfl, by decide +kernel, by decide +kernel⟩
/-! is_item -/
abbrev st_is_item : Stmt := topS 8
abbrev N_is_item : List Str := ["value"]
theorem sc_is_item : FnScope N_is_item ["value"] (defScope st_is_item) := ⟨rfl, rfl, rfl, by decide +kernel, rfl, by decide +kernel, by decide +kernel⟩
/-! least_like -/
abbrev st_least_like : Stmt := topS 15
abbrev N_least_like : List Str := ["disc"]
theorem sc_least_like : FnScope N_least_like ["disc"] (defScope st_least_like) := ⟨rfl, rfl, rfl, by decide +kernel, rfl, by decide +kernel, by decide +kernel⟩
/-! slotted_fault -/
abbrev st_slotted_fault : Stmt := topS 9
abbrev N_slotted_fault : List Str := ["value", "index", "item"]
theorem sc_slotted_fault : FnScope N_slotted_fault ["value"] (defScope st_slotted_fault) := ⟨rfl, rfl, rfl, by decide +kernel, rfl, by decide +kernel, by decide +kernel⟩
/-! unlike_forms -/
abbrev st_unlike_forms : Stmt := topS 21
abbrev N_unlike_forms : List Str := ["discs", "form", "disc"]
theorem sc_unlike_forms : FnScope N_unlike_forms ["discs"] (defScope st_unlike_forms) := ⟨rfl, rfl, rfl, by decide +kernel, rfl, by decide +kernel, by decide +kernel⟩
/-! require_slotted -/
abbrev st_require_slotted : Stmt := topS 10
abbrev N_require_slotted : List Str := ["disc", "most", "fault"]
theorem sc_require_slotted : FnScope N_require_slotted ["disc", "most"] (defScope st_require_slotted) := ⟨rfl, rfl, rfl, by decide +kernel, rfl, by decide +kernel, by decide +kernel⟩
/-! twin_discs -/
abbrev st_twin_discs : Stmt := topS 22
abbrev N_twin_discs : List Str := ["disc", "wanted", "other", "lights"]
theorem sc_twin_discs : FnScope N_twin_discs ["disc"] (defScope st_twin_discs) := ⟨rfl, rfl, rfl, by decide +kernel, rfl, by decide +kernel, by decide +kernel⟩
/-! _law_right -/
abbrev st_law_right : Stmt := topS 34
abbrev N_law_right : List Str := ["plate", "kept", "wanted", "some", "row", "due", "told"]
theorem sc_law_right : FnScope N_law_right ["plate"] (defScope st_law_right) := ⟨rfl, rfl, rfl, by decide +kernel, rfl, by decide +kernel, by decide +kernel⟩
/-! law -/
abbrev st_law : Stmt := topS 35
abbrev N_law : List Str := ["script", "at", "pool", "size", "left", "plate", "turn", "one", "first"]
theorem sc_law : FnScope N_law ["script"] (defScope st_law) := ⟨rfl, rfl, rfl, by decide +kernel, rfl, by decide +kernel, by decide +kernel⟩
structure Al (K : PySem.W.Frag) (mg : Str → Option Value) : Prop where
  d_is_integer : Df K mg "is_integer" st_is_integer ["value"]
  d_turned_by : Df K mg "turned_by" st_turned_by ["disc", "turn"]
  d_mirrored_by : Df K mg "mirrored_by" st_mirrored_by ["disc"]
  d_own_of : Df K mg "own_of" st_own_of ["disc"]
  d_open_lights : Df K mg "open_lights" st_open_lights ["slots", "places"]
  d_law_pool : Df K mg "_law_pool" st_law_pool ["script", "at"]
  d_law_draw : Df K mg "_law_draw" st_law_draw ["pool", "top"]
  d_law_own : Df K mg "_law_own" st_law_own ["plate"]
  d_law_turned : Df K mg "_law_turned" st_law_turned ["plate", "by"]
  d_law_back : Df K mg "_law_back" st_law_back ["plate"]
  d_law_all : Df K mg "_law_all" st_law_all ["size", "count"]
  d_law_unlike : Df K mg "_law_unlike" st_law_unlike ["rows"]
  d_is_at_least : Df K mg "is_at_least" st_is_at_least ["value", "least"]
  d_turned_all : Df K mg "turned_all" st_turned_all ["disc"]
  d_slotted_discs : Df K mg "slotted_discs" st_slotted_discs ["slots", "many"]
  d_law_slits : Df K mg "_law_slits" st_law_slits ["pool", "size"]
  d_law_form : Df K mg "_law_form" st_law_form ["plate"]
  d_is_item : Df K mg "is_item" st_is_item ["value"]
  d_least_like : Df K mg "least_like" st_least_like ["disc"]
  d_slotted_fault : Df K mg "slotted_fault" st_slotted_fault ["value"]
  d_unlike_forms : Df K mg "unlike_forms" st_unlike_forms ["discs"]
  d_require_slotted : Df K mg "require_slotted" st_require_slotted ["disc", "most"]
  d_twin_discs : Df K mg "twin_discs" st_twin_discs ["disc"]
  d_law_right : Df K mg "_law_right" st_law_right ["plate"]
  d_law : Df K mg "law" st_law ["script"]
  z_abs : mg "abs" = none
  z_bool : mg "bool" = none
  z_enumerate : mg "enumerate" = none
  z_int : mg "int" = none
  z_isinstance : mg "isinstance" = none
  z_len : mg "len" = none
  z_list : mg "list" = none
  z_max : mg "max" = none
  z_min : mg "min" = none
  z_range : mg "range" = none
  z_repr : mg "repr" = none
  z_set : mg "set" = none
  z_sorted : mg "sorted" = none
  z_sum : mg "sum" = none
  z_tuple : mg "tuple" = none
  c_MOST_LIGHT : ∃ u, mg "MOST_LIGHT" = some u ∧ RelV (.int 1000000000000000000000000000000) u
  c_MOST_SLOTS : ∃ u, mg "MOST_SLOTS" = some u ∧ RelV (.int 40) u
  c_MOST_TWINS : ∃ u, mg "MOST_TWINS" = some u ∧ RelV (.int 14) u
section
variable {P : Program} {w : World} {mg : Str → Option Value} {base : Heap} {K : PySem.W.Frag}
theorem k_is_integer (A : Al K mg) : Dk K mg P w base 1 "is_integer" [] ["value"] 1 1 b_is_integer :=
  Df.dk A.d_is_integer [] sc_is_integer (by decide) fun f cdv A0 outer s H vs E o =>
    (xs_cons (xs_ret (xe_and (xe_isi o .int A.z_isinstance A.z_int (xe_v 0)) (xe_one (xe_not (xe_isi o .bool A.z_isinstance A.z_bool (xe_v 0))))))
      xs_nil)
theorem k_turned_by (A : Al K mg) : Dk K mg P w base 1 "turned_by" [] ["disc", "turn"] 2 3 b_turned_by :=
  Df.dk A.d_turned_by [] sc_turned_by (by decide) fun f cdv A0 outer s H vs E o =>
    (xs_cons (xs_set o 2 (xe_mod (xe_neg (xe_v 1)) (xe_lenN o 0 A.z_len)))
      (xs_cons (xs_ret (xe_add (xe_cutN o 0 (xo_so (xe_v 2)) xo_no) (xe_cutN o 0 xo_no (xo_so (xe_v 2)))))
      xs_nil))
theorem k_mirrored_by (A : Al K mg) : Dk K mg P w base 1 "mirrored_by" [] ["disc"] 1 1 b_mirrored_by :=
  Df.dk A.d_mirrored_by [] sc_mirrored_by (by decide) fun f cdv A0 outer s H vs E o =>
    (xs_cons (xs_ret (xe_add (xe_cutN o 0 xo_no (xo_so xe_int)) (xe_stepN o 0 xo_no (xo_so xe_int) (xo_so (xe_neg xe_int)))))
      xs_nil)
theorem k_own_of (A : Al K mg) : Dk K mg P w base 1 "own_of" [] ["disc"] 1 4 b_own_of :=
  Df.dk A.d_own_of [] sc_own_of (by decide) fun f cdv A0 outer s H vs E o =>
    (xs_cons (xs_set o 1 (xe_lenN o 0 A.z_len))
      (xs_cons (xs_ret (xe_lc o (xi_range1 o A.z_range (xa_cons (xe_v 1) xa_nil)) (own := [("turn", 3)]) (blk_ok (by rfl)) (fun s H C cl fp => (xg_name (by exact o.nd) 3)) (fun s H C cl fp o => xts_nil) (fun s H C cl fp o => (xe_sum o A.z_sum (xa_cons (xe_lc o (xi_range1 o A.z_range (xa_cons (xe_v 1) xa_nil)) (own := [("slot", 2)]) (blk_ok (by rfl)) (fun s H C cl fp => (xg_name (by exact o.nd) 2)) (fun s H C cl fp o => xts_nil) (fun s H C cl fp o => (xe_mul (xe_ixN o 0 (xe_v 2)) (xe_ixN o 0 (xe_sub (xe_v 2) (xe_v 3)))))) xa_nil)))))
      xs_nil))
theorem k_open_lights (A : Al K mg) : Dk K mg P w base 1 "open_lights" [] ["slots", "places"] 2 5 b_open_lights :=
  Df.dk A.d_open_lights [] sc_open_lights (by decide) fun f cdv A0 outer s H vs E o =>
    (xs_cons (xs_set o 2 (xe_mul (xe_lst (xa_cons xe_int xa_nil)) (xe_v 0)))
      (xs_cons (xs_for o (xi_any o (xe_v 1)) (xg_name o.nd 3) (xs_cons (xs_for o (xi_any o (xe_v 1)) (xg_name o.nd 4) (xs_cons (xs_augIx o 2 ip_add (xe_sub (xe_v 3) (xe_v 4)) xe_int)
      xs_nil))
      xs_nil))
      (xs_cons (xs_ret (xe_mv 2))
      xs_nil)))
theorem k_law_pool (A : Al K mg) : Dk K mg P w base 1 "_law_pool" [] ["script", "at"] 2 3 b_law_pool :=
  Df.dk A.d_law_pool [] sc_law_pool (by decide) fun f cdv A0 outer s H vs E o =>
    (xs_cons (xs_set o 2 (xe_if (xt_lt o (xe_v 1) (xe_lenN o 0 A.z_len)) (xe_ixN o 0 (xe_v 1)) xe_int))
      (xs_cons (xs_ret (xe_lst (xa_cons (xe_max2 o A.z_max (xa_cons xe_int (xa_cons (xe_sub (xe_abs o A.z_abs (xa_cons (xe_v 2) xa_nil)) (xe_pow xe_int xe_int)) xa_nil))) (xa_cons (xe_add (xe_mod (xe_intc o A.z_int (xa_cons (xe_v 2) xa_nil)) (xe_add (xe_pow xe_int xe_int) xe_int)) (xe_mul xe_int (xe_add (xe_v 1) xe_int))) (xa_cons xe_int xa_nil)))))
      xs_nil))
theorem k_law_draw (A : Al K mg) : Dk K mg P w base 1 "_law_draw" [0] ["pool", "top"] 2 4 b_law_draw :=
  Df.dk A.d_law_draw [0] sc_law_draw (by decide) fun f cdv A0 outer s H vs E o =>
    (xs_cons (xs_if (xt_gt o (xe_ixN o 0 xe_int) xe_int) (xs_cons (xs_set o 2 (xe_mod (xe_intc o A.z_int (xa_cons (xe_ixN o 0 xe_int) xa_nil)) (xe_v 1)))
      (xs_cons (xs_setIx o 0 xe_int (xe_div (xe_ixN o 0 xe_int) (xe_v 1)))
      (xs_cons (xs_ret (xe_mv 2))
      xs_nil))) xs_nil)
      (xs_cons (xs_setIx o 0 xe_int (xe_add (xe_ixN o 0 xe_int) xe_int))
      (xs_cons (xs_set o 3 (xe_mod (xe_intc o A.z_int (xa_cons (xe_pow (xe_add (xe_ixN o 0 xe_int) (xe_mul xe_int (xe_ixN o 0 xe_int))) xe_int) xa_nil)) (xe_add (xe_pow xe_int xe_int) xe_int)))
      (xs_cons (xs_set o 3 (xe_mod (xe_intc o A.z_int (xa_cons (xe_pow (xe_add (xe_v 3) (xe_mul xe_int (xe_ixN o 0 xe_int))) xe_int) xa_nil)) (xe_add (xe_pow xe_int xe_int) xe_int)))
      (xs_cons (xs_ret (xe_mod (xe_intc o A.z_int (xa_cons (xe_div (xe_v 3) xe_int) xa_nil)) (xe_v 1)))
      xs_nil)))))
theorem k_law_own (A : Al K mg) : Dk K mg P w base 1 "_law_own" [] ["plate"] 1 5 b_law_own :=
  Df.dk A.d_law_own [] sc_law_own (by decide) fun f cdv A0 outer s H vs E o =>
    (xs_cons (xs_parC o 1 2 (xe_lenN o 0 A.z_len) (xe_lst xa_nil))
      (xs_cons (xs_for o (xi_range1 o A.z_range (xa_cons (xe_v 1) xa_nil)) (xg_name o.nd 3) (xs_cons (xs_expr (xe_append 2 (pe_bm PySem.F.plainAttrs_list PySem.F.slot_list_append PySem.F.type_list_append mt_append (pv 2) (pa_cons (xe_sum o A.z_sum (xa_cons (xe_lc o (xi_range1 o A.z_range (xa_cons (xe_v 1) xa_nil)) (own := [("spot", 4)]) (blk_ok (by rfl)) (fun s H C cl fp => (xg_name (by exact o.nd) 4)) (fun s H C cl fp o => xts_nil) (fun s H C cl fp o => (xe_mul (xe_ixN o 0 (xe_v 4)) (xe_ixN o 0 (xe_mod (xe_intc o A.z_int (xa_cons (xe_sub (xe_v 4) (xe_v 3)) xa_nil)) (xe_v 1)))))) xa_nil)) pa_nil))))
      xs_nil))
      (xs_cons (xs_ret (xe_mv 2))
      xs_nil)))
theorem k_law_turned (A : Al K mg) : Dk K mg P w base 1 "_law_turned" [] ["plate", "by"] 2 4 b_law_turnedP :=
  Df.dk A.d_law_turned [] sc_law_turned (by decide) fun f cdv A0 outer s H vs E o =>
    (xs_cons (xs_set o 2 (xe_lenN o 0 A.z_len))
      (xs_cons (xs_ret (xe_lc o (xi_range1 o A.z_range (xa_cons (xe_v 2) xa_nil)) (own := [("spot", 3)]) (blk_ok (by rfl)) (fun s H C cl fp => (xg_name (by exact o.nd) 3)) (fun s H C cl fp o => xts_nil) (fun s H C cl fp o => (xe_ixN o 0 (xe_mod (xe_intc o A.z_int (xa_cons (xe_sub (xe_v 3) (xe_v 1)) xa_nil)) (xe_v 2))))))
      xs_nil))
theorem k_law_back (A : Al K mg) : Dk K mg P w base 1 "_law_back" [] ["plate"] 1 3 b_law_back :=
  Df.dk A.d_law_back [] sc_law_back (by decide) fun f cdv A0 outer s H vs E o =>
    (xs_cons (xs_set o 1 (xe_lenN o 0 A.z_len))
      (xs_cons (xs_ret (xe_lc o (xi_range1 o A.z_range (xa_cons (xe_v 1) xa_nil)) (own := [("spot", 2)]) (blk_ok (by rfl)) (fun s H C cl fp => (xg_name (by exact o.nd) 2)) (fun s H C cl fp o => xts_nil) (fun s H C cl fp o => (xe_ixN o 0 (xe_mod (xe_intc o A.z_int (xa_cons (xe_sub xe_int (xe_v 2)) xa_nil)) (xe_v 1))))))
      xs_nil))
theorem k_law_all (A : Al K mg) : Dk K mg P w base 1 "_law_all" [] ["size", "count"] 2 7 b_law_all_k23 :=
  Df.dk A.d_law_all [] sc_law_all (by decide) fun f cdv A0 outer s H vs E o =>
    (xs_cons (xs_set o 2 (xe_lst (xa_cons (xe_lst xa_nil) xa_nil)))
      (xs_cons (xs_for o (xi_range1 o A.z_range (xa_cons (xe_v 0) xa_nil)) (xg_name o.nd 3) (xs_cons (xs_set o 4 (xe_lst xa_nil))
      (xs_cons (xs_for o (xi_any o (xe_v 2)) (xg_name o.nd 5) (xs_cons (xs_set o 4 (xe_add (xe_v 4) (xe_lc o (xi_any o (xe_tup (xa_cons xe_int (xa_cons xe_int xa_nil)))) (own := [("light", 6)]) (blk_ok (by rfl)) (fun s H C cl fp => (xg_name (by exact o.nd) 6)) (fun s H C cl fp o => (xts_one (xt_le o (xe_add (xe_sum o A.z_sum (xa_cons (xe_v 5) xa_nil)) (xe_v 6)) (xe_v 1)))) (fun s H C cl fp o => (xe_add (xe_v 5) (xe_lst (xa_cons (xe_v 6) xa_nil)))))))
      xs_nil))
      (xs_cons (xs_set o 2 (xe_v 4))
      xs_nil))))
      (xs_cons (xs_ret (xe_lc o (xi_any o (xe_v 2)) (own := [("some", 5)]) (blk_ok (by rfl)) (fun s H C cl fp => (xg_name (by exact o.nd) 5)) (fun s H C cl fp o => (xts_one (xt_eq o (xe_sum o A.z_sum (xa_cons (xe_v 5) xa_nil)) (xe_v 1)))) (fun s H C cl fp o => (xe_v 5))))
      xs_nil)))
theorem k_law_unlike (A : Al K mg) : Dk K mg P w base 1 "_law_unlike" [] ["rows"] 1 3 b_law_unlike_k23 :=
  Df.dk A.d_law_unlike [] sc_law_unlike (by decide) fun f cdv A0 outer s H vs E o =>
    (xs_cons (xs_ret (xe_lc o (xi_any o (xe_srtT o A.z_sorted A.z_set (xa_cons (xe_lc o (xi_any o (xe_v 0)) (own := [("row", 2)]) (blk_ok (by rfl)) (fun s H C cl fp => (xg_name (by exact o.nd) 2)) (fun s H C cl fp o => xts_nil) (fun s H C cl fp o => (xe_tupleOf o A.z_tuple (xa_cons (xe_v 2) xa_nil)))) xa_nil))) (own := [("some", 1)]) (blk_ok (by rfl)) (fun s H C cl fp => (xg_name (by exact o.nd) 1)) (fun s H C cl fp o => xts_nil) (fun s H C cl fp o => (xe_listOf o A.z_list (xa_cons (xe_v 1) xa_nil)))))
      xs_nil)
theorem k_is_at_least (A : Al K mg) : Dk K mg P w base 2 "is_at_least" [] ["value", "least"] 2 2 b_is_at_least :=
  Df.dk A.d_is_at_least [] sc_is_at_least (by decide) fun f cdv A0 outer s H vs E o =>
    (xs_cons (xs_ret (xe_and (xe_callP o ((k_is_integer A).mono (by decide)) (xap_pk 0 xap_nil)) (xe_one (xe_ge o (xe_v 0) (xe_v 1)))))
      xs_nil)
theorem k_turned_all (A : Al K mg) : Dk K mg P w base 2 "turned_all" [] ["disc"] 1 2 b_turned_all :=
  Df.dk A.d_turned_all [] sc_turned_all (by decide) fun f cdv A0 outer s H vs E o =>
    (xs_cons (xs_ret (xe_lc o (xi_range1 o A.z_range (xa_cons (xe_lenN o 0 A.z_len) xa_nil)) (own := [("turn", 1)]) (blk_ok (by rfl)) (fun s H C cl fp => (xg_name (by exact o.nd) 1)) (fun s H C cl fp o => xts_nil) (fun s H C cl fp o => (xe_callP o ((k_turned_by A).mono (by decide)) (xap_pk 0 (xap_pk 1 xap_nil))))))
      xs_nil)
theorem k_slotted_discs (A : Al K mg) : Dk K mg P w base 2 "slotted_discs" [] ["slots", "many"] 2 6 b_slotted_discs :=
  Df.dk A.d_slotted_discs [] sc_slotted_discs (by decide) fun f cdv A0 outer s H vs E o =>
    (xs_cons (xs_set o 2 (xe_lst xa_nil))
      (xs_cons (xs_for o (xi_range1 o A.z_range (xa_cons (xe_shl xe_int (xe_v 0)) xa_nil)) (xg_name o.nd 3) (xs_cons (xs_set o 4 (xe_lc o (xi_range1 o A.z_range (xa_cons (xe_v 0) xa_nil)) (own := [("slot", 5)]) (blk_ok (by rfl)) (fun s H C cl fp => (xg_name (by exact o.nd) 5)) (fun s H C cl fp o => xts_nil) (fun s H C cl fp o => (xe_band (xe_shr (xe_v 3) (xe_sub (xe_sub (xe_v 0) xe_int) (xe_v 5))) xe_int))))
      (xs_cons (xs_if (xt_eq o (xe_sum o A.z_sum (xa_cons (xe_v 4) xa_nil)) (xe_v 1)) (xs_cons (xs_expr (xe_append 2 (pe_bm PySem.F.plainAttrs_list PySem.F.slot_list_append PySem.F.type_list_append mt_append (pv 2) (pa_cons (xe_tup (xa_cons (xe_v 4) (xa_cons (xe_callP o ((k_open_lights A).mono (by decide)) (xap_pk 0 (xap_cons (xe_lc o (xi_range1 o A.z_range (xa_cons (xe_v 0) xa_nil)) (own := [("slot", 5)]) (blk_ok (by rfl)) (fun s H C cl fp => (xg_name (by exact o.nd) 5)) (fun s H C cl fp o => (xts_one (xt_eq o (xe_ixN o 4 (xe_v 5)) xe_int))) (fun s H C cl fp o => (xe_v 5))) xap_nil))) xa_nil))) pa_nil))))
      xs_nil) xs_nil)
      xs_nil)))
      (xs_cons (xs_ret (xe_mv 2))
      xs_nil)))
theorem k_law_slits (A : Al K mg) : Dk K mg P w base 2 "_law_slits" [0] ["pool", "size"] 2 7 b_law_slits :=
  Df.dk A.d_law_slits [0] sc_law_slits (by decide) fun f cdv A0 outer s H vs E o =>
    (xs_cons (xs_par o 2 3 (xe_callT o ((k_law_draw A).mono (by decide)) (by rfl) 0 (xa_cons xe_int xa_nil)) (xe_listRg o A.z_list A.z_range (xe_v 1)))
      (xs_cons (xs_setLc o 4 (by rfl) (xi_range1 o A.z_range (xa_cons (xe_v 1) xa_nil)) (own := [("spot", 5)]) (blk_ok (by rfl)) (fun s H C cl fp => (xg_name (by exact o.nd) 5)) (fun s H C cl fp o => xts_nil) (fun s H C cl fp o => (xe_callT o ((k_law_draw A).mono (by decide)) (by rfl) 0 (xa_cons xe_int xa_nil))))
      (xs_cons (xs_if (xt_gt o (xe_v 2) xe_int) (xs_cons (xs_set o 4 (xe_mul (xe_lst (xa_cons xe_int xa_nil)) (xe_v 1)))
      (xs_cons (xs_for o (xi_range1 o A.z_range (xa_cons (xe_ix o (xe_lst (xa_cons (xe_v 1) (xa_cons (xe_div (xe_v 1) xe_int) (xa_cons (xe_min2 o A.z_min (xa_cons xe_int (xa_cons (xe_v 1) xa_nil))) (xa_cons (xe_sub (xe_v 1) (xe_min2 o A.z_min (xa_cons xe_int (xa_cons (xe_v 1) xa_nil)))) xa_nil))))) (xe_v 2)) xa_nil)) (xg_name o.nd 6) (xs_cons (xs_setIx o 4 (xe_popAt 3 (pe_bm PySem.F.plainAttrs_list PySem.F.slot_list_pop PySem.F.type_list_pop mt_popAt (pv 3) (pa_cons (xe_callT o ((k_law_draw A).mono (by decide)) (by rfl) 0 (xa_cons (xe_lenN o 3 A.z_len) xa_nil)) pa_nil))) xe_int)
      xs_nil))
      xs_nil)) xs_nil)
      (xs_cons (xs_ret (xe_mv 4))
      xs_nil))))
theorem k_law_form (A : Al K mg) : Dk K mg P w base 2 "_law_form" [] ["plate"] 1 4 b_law_form :=
  Df.dk A.d_law_form [] sc_law_form (by decide) fun f cdv A0 outer s H vs E o =>
    (xs_cons (xs_parC o 1 2 (xe_callP o ((k_law_back A).mono (by decide)) (xap_pk 0 xap_nil)) (xe_lenN o 0 A.z_len))
      (xs_cons (xs_ret (xe_minL o A.z_min (xa_cons (xe_add (xe_lc o (xi_range1 o A.z_range (xa_cons (xe_v 2) xa_nil)) (own := [("by", 3)]) (blk_ok (by rfl)) (fun s H C cl fp => (xg_name (by exact o.nd) 3)) (fun s H C cl fp o => xts_nil) (fun s H C cl fp o => (xe_callP o ((k_law_turned A).mono (by decide)) (xap_pk 0 (xap_pk 3 xap_nil))))) (xe_lc o (xi_range1 o A.z_range (xa_cons (xe_v 2) xa_nil)) (own := [("by", 3)]) (blk_ok (by rfl)) (fun s H C cl fp => (xg_name (by exact o.nd) 3)) (fun s H C cl fp o => xts_nil) (fun s H C cl fp o => (xe_callP o ((k_law_turned A).mono (by decide)) (xap_pk 1 (xap_pk 3 xap_nil)))))) xa_nil)))
      xs_nil))
theorem k_is_item (A : Al K mg) : Dk K mg P w base 3 "is_item" [] ["value"] 1 1 b_is_item :=
  Df.dk A.d_is_item [] sc_is_item (by decide) fun f cdv A0 outer s H vs E o =>
    (xs_cons (xs_ret (xe_and (xe_callP o ((k_is_at_least A).mono (by decide)) (xap_pk 0 (xap_cons xe_int xap_nil))) (xe_one (xe_le o (xe_v 0) (xe_gint (by rfl) A.c_MOST_LIGHT)))))
      xs_nil)
theorem k_least_like (A : Al K mg) : Dk K mg P w base 3 "least_like" [] ["disc"] 1 1 b_least_like :=
  Df.dk A.d_least_like [] sc_least_like (by decide) fun f cdv A0 outer s H vs E o =>
    (xs_cons (xs_ret (xe_minL o A.z_min (xa_cons (xe_add (xe_call o ((k_turned_all A).mono (by decide)) (by rfl) (xa_cons (xe_v 0) xa_nil)) (xe_call o ((k_turned_all A).mono (by decide)) (by rfl) (xa_cons (xe_callP o ((k_mirrored_by A).mono (by decide)) (xap_pk 0 xap_nil)) xa_nil))) xa_nil)))
      xs_nil)
theorem k_slotted_fault (A : Al K mg) : Dk K mg P w base 4 "slotted_fault" [] ["value"] 1 3 b_slotted_fault :=
  Df.dk A.d_slotted_fault [] sc_slotted_fault (by decide) fun f cdv A0 outer s H vs E o =>
    (xs_cons (xs_if (XW.t (xw_or (xt_not (xt_tr o.hK (xe_isi o .list A.z_isinstance A.z_list (xe_v 0)))) (xw_or1 (xt_not (xt_chain op_le op_le sim_le sim_le xe_int (xe_lenN o 0 A.z_len) (xe_gint (by rfl) A.c_MOST_SLOTS)))))) (xs_cons (xs_ret (xe_tup (xa_cons xe_non xa_nil)))
      xs_nil) xs_nil)
      (xs_cons (xs_for o (xi_enum o A.z_enumerate (xa_cons (xe_v 0) xa_nil)) (xg_tup o.calm o.hK (xgs_cons (xg_name o.nd 1) (xgs_cons (xg_name o.nd 2) xgs_nil))) (xs_cons (xs_if (XW.t (xw_or (xt_not (xt_tr o.hK (xe_callP o ((k_is_item A).mono (by decide)) (xap_pk 2 xap_nil)))) (xw_or1 (xt_gt o (xe_v 2) xe_int)))) (xs_cons (xs_ret (xe_tup (xa_cons (xe_v 1) xa_nil)))
      xs_nil) xs_nil)
      xs_nil))
      (xs_cons (xs_ret (xe_tup xa_nil))
      xs_nil)))
theorem k_unlike_forms (A : Al K mg) : Dk K mg P w base 4 "unlike_forms" [] ["discs"] 1 3 b_unlike_forms :=
  Df.dk A.d_unlike_forms [] sc_unlike_forms (by decide) fun f cdv A0 outer s H vs E o =>
    (xs_cons (xs_ret (xe_lc o (xi_any o (xe_srtT o A.z_sorted A.z_set (xa_cons (xe_lc o (xi_any o (xe_v 0)) (own := [("disc", 2)]) (blk_ok (by rfl)) (fun s H C cl fp => (xg_name (by exact o.nd) 2)) (fun s H C cl fp o => xts_nil) (fun s H C cl fp o => (xe_tupleOf o A.z_tuple (xa_cons (xe_call o ((k_least_like A).mono (by decide)) (by rfl) (xa_cons (xe_v 2) xa_nil)) xa_nil)))) xa_nil))) (own := [("form", 1)]) (blk_ok (by rfl)) (fun s H C cl fp => (xg_name (by exact o.nd) 1)) (fun s H C cl fp o => xts_nil) (fun s H C cl fp o => (xe_listOf o A.z_list (xa_cons (xe_v 1) xa_nil)))))
      xs_nil)
theorem k_require_slotted (A : Al K mg) : Dk K mg P w base 5 "require_slotted" [] ["disc", "most"] 2 3 b_require_slotted :=
  Df.dk A.d_require_slotted [] sc_require_slotted (by decide) fun f cdv A0 outer s H vs E o =>
    (xs_cons (xs_set o 2 (xe_callP o ((k_slotted_fault A).mono (by decide)) (xap_pk 0 xap_nil)))
      (xs_cons (xs_if (xt_ne o (xe_v 2) (xe_tup xa_nil)) (xs_cons xs_never
      xs_nil) xs_nil)
      (xs_cons (xs_if (xt_gt o (xe_lenN o 0 A.z_len) (xe_v 1)) (xs_cons xs_never
      xs_nil) xs_nil)
      xs_nil)))
theorem k_twin_discs (A : Al K mg) : Dk K mg P w base 6 "twin_discs" [] ["disc"] 1 4 b_twin_discsL :=
  Df.dk A.d_twin_discs [] sc_twin_discs (by decide) fun f cdv A0 outer s H vs E o =>
    (xs_cons (xs_expr (xe_callP o ((k_require_slotted A).mono (by decide)) (xap_pk 0 (xap_cons (xe_gint (by rfl) A.c_MOST_TWINS) xap_nil))))
      (xs_cons (xs_set o 1 (xe_callP o ((k_own_of A).mono (by decide)) (xap_pk 0 xap_nil)))
      (xs_cons (xs_ret (xe_call o ((k_unlike_forms A).mono (by decide)) (by rfl) (xa_cons (xe_lc o (xi_any o (xe_call o ((k_slotted_discs A).mono (by decide)) (by rfl) (xa_cons (xe_lenN o 0 A.z_len) (xa_cons (xe_sumN o 0 A.z_sum) xa_nil)))) (own := [("other", 2), ("lights", 3)]) (blk_ok (by rfl)) (fun s H C cl fp => (xg_tup (by exact o.calm) (by exact o.hK) (xgs_cons (xg_name (by exact o.nd) 2) (xgs_cons (xg_name (by exact o.nd) 3) xgs_nil)))) (fun s H C cl fp o => (xts_one (xt_eq o (xe_v 3) (xe_v 1)))) (fun s H C cl fp o => (xe_v 2))) xa_nil)))
      xs_nil)))
theorem k_twin_discsL (A : Al K mg) : Dk K mg P w base 6 "twin_discs" [0] ["disc"] 1 4 b_twin_discsL :=
  Df.dk A.d_twin_discs [0] sc_twin_discs (by decide) fun f cdv A0 outer s H vs E o =>
    (xs_cons (xs_expr (xe_callP o ((k_require_slotted A).mono (by decide)) (xap_pk 0 (xap_cons (xe_gint (by rfl) A.c_MOST_TWINS) xap_nil))))
      (xs_cons (xs_set o 1 (xe_callP o ((k_own_of A).mono (by decide)) (xap_pk 0 xap_nil)))
      (xs_cons (xs_ret (xe_call o ((k_unlike_forms A).mono (by decide)) (by rfl) (xa_cons (xe_lc o (xi_any o (xe_call o ((k_slotted_discs A).mono (by decide)) (by rfl) (xa_cons (xe_lenN o 0 A.z_len) (xa_cons (xe_sumN o 0 A.z_sum) xa_nil)))) (own := [("other", 2), ("lights", 3)]) (blk_ok (by rfl)) (fun s H C cl fp => (xg_tup (by exact o.calm) (by exact o.hK) (xgs_cons (xg_name (by exact o.nd) 2) (xgs_cons (xg_name (by exact o.nd) 3) xgs_nil)))) (fun s H C cl fp o => (xts_one (xt_eq o (xe_v 3) (xe_v 1)))) (fun s H C cl fp o => (xe_v 2))) xa_nil)))
      xs_nil)))
theorem lw_twin_discs (A : Al K mg) : DkwL K mg P w base 6 "twin_discs" 4 b_twin_discsL ["disc"] :=
  Dk.kwL ["disc"] A.d_twin_discs (k_twin_discsL A) fun _ _ _ _ _ _ us ws h1 h2 => match us, h1, ws, h2 with | [], _, [_], _ => rfl
theorem k_law_right (A : Al K mg) : Dk K mg P w base 7 "_law_right" [] ["plate"] 1 7 b_law_right_k23 :=
  Df.dk A.d_law_right [] sc_law_right (by decide) fun f cdv A0 outer s H vs E o =>
    (xs_cons (xs_parC o 1 2 (xe_reprN o 0 A.z_repr) (xe_callP o ((k_law_own A).mono (by decide)) (xap_pk 0 xap_nil)))
      (xs_cons (xs_setLc o 3 (by rfl) (xi_any o (xe_call o ((k_law_all A).mono (by decide)) (by rfl) (xa_cons (xe_lenN o 0 A.z_len) (xa_cons (xe_sum o A.z_sum (xa_cons (xe_v 0) xa_nil)) xa_nil)))) (own := [("row", 4)]) (blk_ok (by rfl)) (fun s H C cl fp => (xg_name (by exact o.nd) 4)) (fun s H C cl fp o => (xts_one (XW.t (xw_or (xt_eq o (xe_ixN o 4 (xe_neg xe_int)) xe_int) (xw_or1 (xt_eq o (xe_sum o A.z_sum (xa_cons (xe_v 4) xa_nil)) xe_int)))))) (fun s H C cl fp o => (xe_v 4)))
      (xs_cons (xs_set o 5 (xe_call o ((k_law_unlike A).mono (by decide)) (by rfl) (xa_cons (xe_lc o (xi_any o (xe_v 3)) (own := [("row", 4)]) (blk_ok (by rfl)) (fun s H C cl fp => (xg_name (by exact o.nd) 4)) (fun s H C cl fp o => (xts_one (xt_eq o (xe_callP o ((k_law_own A).mono (by decide)) (xap_pk 4 xap_nil)) (xe_v 2)))) (fun s H C cl fp o => (xe_call o ((k_law_form A).mono (by decide)) (by rfl) (xa_cons (xe_v 4) xa_nil)))) xa_nil)))
      (xs_told o (fun _ => rfl) 6 [0, 1, 5] (xv_kwL o ((lw_twin_discs A).mono (by decide)) (by rfl) (xk_cons (xe_v 0) xk_nil))
      (to_end (to_if (nj rfl) (XW.t (xw_or (xt_ne o (xe_reprN o 6 A.z_repr) (xe_reprN o 5 A.z_repr)) (xw_or1 (xt_ne o (xe_reprN o 0 A.z_repr) (xe_v 1))))) (to_cons to_retF to_nil))
      (to_end (to_app0 6 (by rfl) (by first | exact Or.inl rfl | exact Or.inr (Or.inl rfl) | exact Or.inr (Or.inr rfl)) (by decide) (by decide) (fun hp => ps_expr (pe_bm PySem.F.plainAttrs_list PySem.F.slot_list_append PySem.F.type_list_append mt_append hp (pa_cons pe_non pa_nil))) (by intro _ _; rfl))
      (to_end (to_if (nj rfl) (xt_ne o (xe_cutN o 6 (xo_so xe_int) xo_no) (xe_cutN o 5 (xo_so xe_int) xo_no)) (to_cons to_retF to_nil))
      (to_app 6 (by rfl) (by first | exact Or.inl rfl | exact Or.inr (Or.inl rfl) | exact Or.inr (Or.inr rfl)) (by decide) (by decide) (fun hp => ps_expr (pe_bm PySem.F.plainAttrs_list PySem.F.slot_list_append PySem.F.type_list_append mt_append hp (pa_cons pe_non pa_nil)))
      (xs_cons (xs_ret (xe_eq o (xe_repr o A.z_repr (xa_cons (xe_call o ((k_twin_discs A).mono (by decide)) (by rfl) (xa_cons (xe_v 0) xa_nil)) xa_nil)) (xe_reprN o 5 A.z_repr)))
      xs_nil))))) (nj rfl) (by rfl) (by first | exact Or.inl rfl | exact Or.inr rfl) (by rfl) (by first | exact .inl rfl | exact .inr rfl | assumption)))))
theorem k_law (A : Al K mg) : Dk K mg P w base 8 "law" [] ["script"] 1 9 b_law_k23 :=
  Df.dk A.d_law [] sc_law (by decide) fun f cdv A0 outer s H vs E o =>
    (xs_cons (xs_for o (xi_range1 o A.z_range (xa_cons (xe_max2 o A.z_max (xa_cons xe_int (xa_cons (xe_min2 o A.z_min (xa_cons xe_int (xa_cons (xe_lenN o 0 A.z_len) xa_nil))) xa_nil))) xa_nil)) (xg_name o.nd 1) (xs_cons (xs_set o 2 (xe_callP o ((k_law_pool A).mono (by decide)) (xap_pk 0 (xap_pk 1 xap_nil))))
      (xs_cons (xs_for o (xi_any o (xe_tup (xa_cons (xe_add xe_int (xe_callT o ((k_law_draw A).mono (by decide)) (by rfl) 2 (xa_cons xe_int xa_nil))) (xa_cons (xe_add xe_int (xe_callT o ((k_law_draw A).mono (by decide)) (by rfl) 2 (xa_cons xe_int xa_nil))) (xa_cons xe_int xa_nil))))) (xg_name o.nd 3) (xs_cons (xs_if (xt_not (xt_tr o.hK (xe_callP o ((k_law_right A).mono (by decide)) (xap_cons (xe_callT o ((k_law_slits A).mono (by decide)) (by rfl) 2 (xa_cons (xe_v 3) xa_nil)) xap_nil)))) (xs_cons (xs_ret xe_bl)
      xs_nil) xs_nil)
      xs_nil))
      (xs_cons (xs_if (XW.t (xw_and (xt_eq o (xe_v 1) xe_int) (xw_and1 (xt_not (xt_tr o.hK (xe_callP o ((k_law_right A).mono (by decide)) (xap_cons (xe_callT o ((k_law_slits A).mono (by decide)) (by rfl) 2 (xa_cons (xe_add xe_int (xe_intc o A.z_int (xa_cons (xe_eq o (xe_callT o ((k_law_draw A).mono (by decide)) (by rfl) 2 (xa_cons xe_int xa_nil)) xe_int) xa_nil))) xa_nil)) xap_nil))))))) (xs_cons (xs_ret xe_bl)
      xs_nil) xs_nil)
      (xs_cons (xs_if (XW.t (xw_and (xt_eq o (xe_v 1) xe_int) (xw_and1 (xt_eq o (xe_callT o ((k_law_draw A).mono (by decide)) (by rfl) 2 (xa_cons xe_int xa_nil)) xe_int)))) (xs_cons (xs_par o 4 5 (xe_listRg o A.z_list A.z_range xe_int) (xe_mul (xe_lst (xa_cons xe_int xa_nil)) (xe_add xe_int (xe_callT o ((k_law_draw A).mono (by decide)) (by rfl) 2 (xa_cons xe_int xa_nil)))))
      (xs_cons (xs_for o (xi_range1 o A.z_range (xa_cons xe_int xa_nil)) (xg_name o.nd 6) (xs_cons (xs_setIx o 5 (xe_sub (xe_popAt 4 (pe_bm PySem.F.plainAttrs_list PySem.F.slot_list_pop PySem.F.type_list_pop mt_popAt (pv 4) (pa_cons (xe_callT o ((k_law_draw A).mono (by decide)) (by rfl) 2 (xa_cons (xe_lenN o 4 A.z_len) xa_nil)) pa_nil))) xe_int) xe_int)
      xs_nil))
      (xs_cons (xs_if (xt_not (xt_tr o.hK (xe_callP o ((k_law_right A).mono (by decide)) (xap_pk 5 xap_nil)))) (xs_cons (xs_ret xe_bl)
      xs_nil) xs_nil)
      xs_nil))) xs_nil)
      xs_nil)))))
      (xs_cons (xs_if (xt_eqS o (xe_v 0) (xe_lst xa_nil)) (xs_cons (xs_set o 5 (xe_add (xe_lst (xa_cons xe_int xa_nil)) (xe_lc o (xi_range2 o A.z_range (xa_cons xe_int (xa_cons xe_int xa_nil))) (own := [("one", 7)]) (blk_ok (by rfl)) (fun s H C cl fp => (xg_name (by exact o.nd) 7)) (fun s H C cl fp o => xts_nil) (fun s H C cl fp o => (xe_intc o A.z_int (xa_cons (xe_eq o (xe_v 7) xe_int) xa_nil))))))
      (xs_cons (xs_if (XW.t (xw_or (xt_ne o (xe_call o ((k_twin_discs A).mono (by decide)) (by rfl) (xa_cons (xe_v 5) xa_nil)) (xe_lst (xa_cons (xe_call o ((k_law_form A).mono (by decide)) (by rfl) (xa_cons (xe_v 5) xa_nil)) xa_nil))) (xw_or1 (xt_ne o (xe_call o ((k_twin_discs A).mono (by decide)) (by rfl) (xa_cons (xe_mul (xe_lst (xa_cons xe_int xa_nil)) xe_int) xa_nil)) (xe_lst (xa_cons (xe_mul (xe_lst (xa_cons xe_int xa_nil)) xe_int) xa_nil)))))) (xs_cons (xs_ret xe_bl)
      xs_nil) xs_nil)
      (xs_cons (xs_if (XW.t (xw_or (xt_not (xt_tr o.hK (xe_callP o ((k_law_right A).mono (by decide)) (xap_cons (xe_lst (xa_cons xe_int (xa_cons xe_int (xa_cons xe_int (xa_cons xe_int (xa_cons xe_int (xa_cons xe_int (xa_cons xe_int (xa_cons xe_int (xa_cons xe_int (xa_cons xe_int (xa_cons xe_int (xa_cons xe_int xa_nil))))))))))))) xap_nil)))) (xw_or1 (xt_not (xt_tr o.hK (xe_callP o ((k_law_right A).mono (by decide)) (xap_cons (xe_lst (xa_cons xe_int (xa_cons xe_int (xa_cons xe_int (xa_cons xe_int (xa_cons xe_int (xa_cons xe_int (xa_cons xe_int (xa_cons xe_int (xa_cons xe_int (xa_cons xe_int (xa_cons xe_int (xa_cons xe_int xa_nil))))))))))))) xap_nil))))))) (xs_cons (xs_ret xe_bl)
      xs_nil) xs_nil)
      xs_nil))) xs_nil)
      (xs_cons (xs_set o 8 (xe_lst (xa_cons xe_int (xa_cons xe_int (xa_cons xe_int (xa_cons xe_int (xa_cons xe_int (xa_cons xe_int (xa_cons xe_int (xa_cons xe_int xa_nil))))))))))
      (xs_cons (xs_ret (xe_eq o (xe_call o ((k_twin_discs A).mono (by decide)) (by rfl) (xa_cons (xe_v 8) xa_nil)) (xe_lst (xa_cons (xe_lst (xa_cons xe_int (xa_cons xe_int (xa_cons xe_int (xa_cons xe_int (xa_cons xe_int (xa_cons xe_int (xa_cons xe_int (xa_cons xe_int xa_nil))))))))) (xa_cons (xe_lst (xa_cons xe_int (xa_cons xe_int (xa_cons xe_int (xa_cons xe_int (xa_cons xe_int (xa_cons xe_int (xa_cons xe_int (xa_cons xe_int xa_nil))))))))) xa_nil)))))
      xs_nil))))
end
theorem all_mk {l : PySem.W.OpenLaw} {w : World} {K : PySem.W.Frag} {h : Heap} {mg : Str → Option Value} {fa : Addr} (X : K.In h) (G : h.Ns mainGlobals mg) (hfa : mg "law" = some (.ref fa))
    {f_is_integer : Addr} {od_is_integer an_is_integer : Option Addr} {sl_is_integer : Array (Option Value)} {oc_is_integer kV_is_integer dc_is_integer pm_is_integer cd_is_integer ct_is_integer : Value}
    {f_turned_by : Addr} {od_turned_by an_turned_by : Option Addr} {sl_turned_by : Array (Option Value)} {oc_turned_by kV_turned_by dc_turned_by pm_turned_by cd_turned_by ct_turned_by : Value}
    {f_mirrored_by : Addr} {od_mirrored_by an_mirrored_by : Option Addr} {sl_mirrored_by : Array (Option Value)} {oc_mirrored_by kV_mirrored_by dc_mirrored_by pm_mirrored_by cd_mirrored_by ct_mirrored_by : Value}
    {f_own_of : Addr} {od_own_of an_own_of : Option Addr} {sl_own_of : Array (Option Value)} {oc_own_of kV_own_of dc_own_of pm_own_of cd_own_of ct_own_of : Value}
    {f_open_lights : Addr} {od_open_lights an_open_lights : Option Addr} {sl_open_lights : Array (Option Value)} {oc_open_lights kV_open_lights dc_open_lights pm_open_lights cd_open_lights ct_open_lights : Value}
    {f_law_pool : Addr} {od_law_pool an_law_pool : Option Addr} {sl_law_pool : Array (Option Value)} {oc_law_pool kV_law_pool dc_law_pool pm_law_pool cd_law_pool ct_law_pool : Value}
    {f_law_draw : Addr} {od_law_draw an_law_draw : Option Addr} {sl_law_draw : Array (Option Value)} {oc_law_draw kV_law_draw dc_law_draw pm_law_draw cd_law_draw ct_law_draw : Value}
    {f_law_own : Addr} {od_law_own an_law_own : Option Addr} {sl_law_own : Array (Option Value)} {oc_law_own kV_law_own dc_law_own pm_law_own cd_law_own ct_law_own : Value}
    {f_law_turned : Addr} {od_law_turned an_law_turned : Option Addr} {sl_law_turned : Array (Option Value)} {oc_law_turned kV_law_turned dc_law_turned pm_law_turned cd_law_turned ct_law_turned : Value}
    {f_law_back : Addr} {od_law_back an_law_back : Option Addr} {sl_law_back : Array (Option Value)} {oc_law_back kV_law_back dc_law_back pm_law_back cd_law_back ct_law_back : Value}
    {f_law_all : Addr} {od_law_all an_law_all : Option Addr} {sl_law_all : Array (Option Value)} {oc_law_all kV_law_all dc_law_all pm_law_all cd_law_all ct_law_all : Value}
    {f_law_unlike : Addr} {od_law_unlike an_law_unlike : Option Addr} {sl_law_unlike : Array (Option Value)} {oc_law_unlike kV_law_unlike dc_law_unlike pm_law_unlike cd_law_unlike ct_law_unlike : Value}
    {f_is_at_least : Addr} {od_is_at_least an_is_at_least : Option Addr} {sl_is_at_least : Array (Option Value)} {oc_is_at_least kV_is_at_least dc_is_at_least pm_is_at_least cd_is_at_least ct_is_at_least : Value}
    {f_turned_all : Addr} {od_turned_all an_turned_all : Option Addr} {sl_turned_all : Array (Option Value)} {oc_turned_all kV_turned_all dc_turned_all pm_turned_all cd_turned_all ct_turned_all : Value}
    {f_slotted_discs : Addr} {od_slotted_discs an_slotted_discs : Option Addr} {sl_slotted_discs : Array (Option Value)} {oc_slotted_discs kV_slotted_discs dc_slotted_discs pm_slotted_discs cd_slotted_discs ct_slotted_discs : Value}
    {f_law_slits : Addr} {od_law_slits an_law_slits : Option Addr} {sl_law_slits : Array (Option Value)} {oc_law_slits kV_law_slits dc_law_slits pm_law_slits cd_law_slits ct_law_slits : Value}
    {f_law_form : Addr} {od_law_form an_law_form : Option Addr} {sl_law_form : Array (Option Value)} {oc_law_form kV_law_form dc_law_form pm_law_form cd_law_form ct_law_form : Value}
    {f_is_item : Addr} {od_is_item an_is_item : Option Addr} {sl_is_item : Array (Option Value)} {oc_is_item kV_is_item dc_is_item pm_is_item cd_is_item ct_is_item : Value}
    {f_least_like : Addr} {od_least_like an_least_like : Option Addr} {sl_least_like : Array (Option Value)} {oc_least_like kV_least_like dc_least_like pm_least_like cd_least_like ct_least_like : Value}
    {f_slotted_fault : Addr} {od_slotted_fault an_slotted_fault : Option Addr} {sl_slotted_fault : Array (Option Value)} {oc_slotted_fault kV_slotted_fault dc_slotted_fault pm_slotted_fault cd_slotted_fault ct_slotted_fault : Value}
    {f_unlike_forms : Addr} {od_unlike_forms an_unlike_forms : Option Addr} {sl_unlike_forms : Array (Option Value)} {oc_unlike_forms kV_unlike_forms dc_unlike_forms pm_unlike_forms cd_unlike_forms ct_unlike_forms : Value}
    {f_require_slotted : Addr} {od_require_slotted an_require_slotted : Option Addr} {sl_require_slotted : Array (Option Value)} {oc_require_slotted kV_require_slotted dc_require_slotted pm_require_slotted cd_require_slotted ct_require_slotted : Value}
    {f_twin_discs : Addr} {od_twin_discs an_twin_discs : Option Addr} {sl_twin_discs : Array (Option Value)} {oc_twin_discs kV_twin_discs dc_twin_discs pm_twin_discs cd_twin_discs ct_twin_discs : Value}
    {f_law_right : Addr} {od_law_right an_law_right : Option Addr} {sl_law_right : Array (Option Value)} {oc_law_right kV_law_right dc_law_right pm_law_right cd_law_right ct_law_right : Value}
    {f_law : Addr} {od_law an_law : Option Addr} {sl_law : Array (Option Value)} {oc_law kV_law dc_law pm_law cd_law ct_law : Value}
    {t_MOST_SLOTS : Tok}
    {t_MOST_TWINS : Tok}
    (a_is_integer : PySem.W.nsIn K mainGlobals "is_integer" = some (some (.ref f_is_integer))) (l_is_integer : K.lookup f_is_integer = some ⟨oc_is_integer, od_is_integer, .func (PySem.W.fnOf "is_integer" "is_integer" (defArgs st_is_integer) (defBody st_is_integer) (defScope st_is_integer) .none kV_is_integer dc_is_integer pm_is_integer an_is_integer cd_is_integer ct_is_integer), sl_is_integer⟩) (y_is_integer : PySem.W.codeIn K cd_is_integer "is_integer" = true) (e_is_integer : PySem.W.keepIn K (.ref f_is_integer) = true)
    (a_turned_by : PySem.W.nsIn K mainGlobals "turned_by" = some (some (.ref f_turned_by))) (l_turned_by : K.lookup f_turned_by = some ⟨oc_turned_by, od_turned_by, .func (PySem.W.fnOf "turned_by" "turned_by" (defArgs st_turned_by) (defBody st_turned_by) (defScope st_turned_by) .none kV_turned_by dc_turned_by pm_turned_by an_turned_by cd_turned_by ct_turned_by), sl_turned_by⟩) (y_turned_by : PySem.W.codeIn K cd_turned_by "turned_by" = true) (e_turned_by : PySem.W.keepIn K (.ref f_turned_by) = true)
    (a_mirrored_by : PySem.W.nsIn K mainGlobals "mirrored_by" = some (some (.ref f_mirrored_by))) (l_mirrored_by : K.lookup f_mirrored_by = some ⟨oc_mirrored_by, od_mirrored_by, .func (PySem.W.fnOf "mirrored_by" "mirrored_by" (defArgs st_mirrored_by) (defBody st_mirrored_by) (defScope st_mirrored_by) .none kV_mirrored_by dc_mirrored_by pm_mirrored_by an_mirrored_by cd_mirrored_by ct_mirrored_by), sl_mirrored_by⟩) (y_mirrored_by : PySem.W.codeIn K cd_mirrored_by "mirrored_by" = true) (e_mirrored_by : PySem.W.keepIn K (.ref f_mirrored_by) = true)
    (a_own_of : PySem.W.nsIn K mainGlobals "own_of" = some (some (.ref f_own_of))) (l_own_of : K.lookup f_own_of = some ⟨oc_own_of, od_own_of, .func (PySem.W.fnOf "own_of" "own_of" (defArgs st_own_of) (defBody st_own_of) (defScope st_own_of) .none kV_own_of dc_own_of pm_own_of an_own_of cd_own_of ct_own_of), sl_own_of⟩) (y_own_of : PySem.W.codeIn K cd_own_of "own_of" = true) (e_own_of : PySem.W.keepIn K (.ref f_own_of) = true)
    (a_open_lights : PySem.W.nsIn K mainGlobals "open_lights" = some (some (.ref f_open_lights))) (l_open_lights : K.lookup f_open_lights = some ⟨oc_open_lights, od_open_lights, .func (PySem.W.fnOf "open_lights" "open_lights" (defArgs st_open_lights) (defBody st_open_lights) (defScope st_open_lights) .none kV_open_lights dc_open_lights pm_open_lights an_open_lights cd_open_lights ct_open_lights), sl_open_lights⟩) (y_open_lights : PySem.W.codeIn K cd_open_lights "open_lights" = true) (e_open_lights : PySem.W.keepIn K (.ref f_open_lights) = true)
    (a_law_pool : PySem.W.nsIn K mainGlobals "_law_pool" = some (some (.ref f_law_pool))) (l_law_pool : K.lookup f_law_pool = some ⟨oc_law_pool, od_law_pool, .func (PySem.W.fnOf "_law_pool" "_law_pool" (defArgs st_law_pool) (defBody st_law_pool) (defScope st_law_pool) .none kV_law_pool dc_law_pool pm_law_pool an_law_pool cd_law_pool ct_law_pool), sl_law_pool⟩) (y_law_pool : PySem.W.codeIn K cd_law_pool "_law_pool" = true) (e_law_pool : PySem.W.keepIn K (.ref f_law_pool) = true)
    (a_law_draw : PySem.W.nsIn K mainGlobals "_law_draw" = some (some (.ref f_law_draw))) (l_law_draw : K.lookup f_law_draw = some ⟨oc_law_draw, od_law_draw, .func (PySem.W.fnOf "_law_draw" "_law_draw" (defArgs st_law_draw) (defBody st_law_draw) (defScope st_law_draw) .none kV_law_draw dc_law_draw pm_law_draw an_law_draw cd_law_draw ct_law_draw), sl_law_draw⟩) (y_law_draw : PySem.W.codeIn K cd_law_draw "_law_draw" = true) (e_law_draw : PySem.W.keepIn K (.ref f_law_draw) = true)
    (a_law_own : PySem.W.nsIn K mainGlobals "_law_own" = some (some (.ref f_law_own))) (l_law_own : K.lookup f_law_own = some ⟨oc_law_own, od_law_own, .func (PySem.W.fnOf "_law_own" "_law_own" (defArgs st_law_own) (defBody st_law_own) (defScope st_law_own) .none kV_law_own dc_law_own pm_law_own an_law_own cd_law_own ct_law_own), sl_law_own⟩) (y_law_own : PySem.W.codeIn K cd_law_own "_law_own" = true) (e_law_own : PySem.W.keepIn K (.ref f_law_own) = true)
    (a_law_turned : PySem.W.nsIn K mainGlobals "_law_turned" = some (some (.ref f_law_turned))) (l_law_turned : K.lookup f_law_turned = some ⟨oc_law_turned, od_law_turned, .func (PySem.W.fnOf "_law_turned" "_law_turned" (defArgs st_law_turned) (defBody st_law_turned) (defScope st_law_turned) .none kV_law_turned dc_law_turned pm_law_turned an_law_turned cd_law_turned ct_law_turned), sl_law_turned⟩) (y_law_turned : PySem.W.codeIn K cd_law_turned "_law_turned" = true) (e_law_turned : PySem.W.keepIn K (.ref f_law_turned) = true)
    (a_law_back : PySem.W.nsIn K mainGlobals "_law_back" = some (some (.ref f_law_back))) (l_law_back : K.lookup f_law_back = some ⟨oc_law_back, od_law_back, .func (PySem.W.fnOf "_law_back" "_law_back" (defArgs st_law_back) (defBody st_law_back) (defScope st_law_back) .none kV_law_back dc_law_back pm_law_back an_law_back cd_law_back ct_law_back), sl_law_back⟩) (y_law_back : PySem.W.codeIn K cd_law_back "_law_back" = true) (e_law_back : PySem.W.keepIn K (.ref f_law_back) = true)
    (a_law_all : PySem.W.nsIn K mainGlobals "_law_all" = some (some (.ref f_law_all))) (l_law_all : K.lookup f_law_all = some ⟨oc_law_all, od_law_all, .func (PySem.W.fnOf "_law_all" "_law_all" (defArgs st_law_all) (defBody st_law_all) (defScope st_law_all) .none kV_law_all dc_law_all pm_law_all an_law_all cd_law_all ct_law_all), sl_law_all⟩) (y_law_all : PySem.W.codeIn K cd_law_all "_law_all" = true) (e_law_all : PySem.W.keepIn K (.ref f_law_all) = true)
    (a_law_unlike : PySem.W.nsIn K mainGlobals "_law_unlike" = some (some (.ref f_law_unlike))) (l_law_unlike : K.lookup f_law_unlike = some ⟨oc_law_unlike, od_law_unlike, .func (PySem.W.fnOf "_law_unlike" "_law_unlike" (defArgs st_law_unlike) (defBody st_law_unlike) (defScope st_law_unlike) .none kV_law_unlike dc_law_unlike pm_law_unlike an_law_unlike cd_law_unlike ct_law_unlike), sl_law_unlike⟩) (y_law_unlike : PySem.W.codeIn K cd_law_unlike "_law_unlike" = true) (e_law_unlike : PySem.W.keepIn K (.ref f_law_unlike) = true)
    (a_is_at_least : PySem.W.nsIn K mainGlobals "is_at_least" = some (some (.ref f_is_at_least))) (l_is_at_least : K.lookup f_is_at_least = some ⟨oc_is_at_least, od_is_at_least, .func (PySem.W.fnOf "is_at_least" "is_at_least" (defArgs st_is_at_least) (defBody st_is_at_least) (defScope st_is_at_least) .none kV_is_at_least dc_is_at_least pm_is_at_least an_is_at_least cd_is_at_least ct_is_at_least), sl_is_at_least⟩) (y_is_at_least : PySem.W.codeIn K cd_is_at_least "is_at_least" = true) (e_is_at_least : PySem.W.keepIn K (.ref f_is_at_least) = true)
    (a_turned_all : PySem.W.nsIn K mainGlobals "turned_all" = some (some (.ref f_turned_all))) (l_turned_all : K.lookup f_turned_all = some ⟨oc_turned_all, od_turned_all, .func (PySem.W.fnOf "turned_all" "turned_all" (defArgs st_turned_all) (defBody st_turned_all) (defScope st_turned_all) .none kV_turned_all dc_turned_all pm_turned_all an_turned_all cd_turned_all ct_turned_all), sl_turned_all⟩) (y_turned_all : PySem.W.codeIn K cd_turned_all "turned_all" = true) (e_turned_all : PySem.W.keepIn K (.ref f_turned_all) = true)
    (a_slotted_discs : PySem.W.nsIn K mainGlobals "slotted_discs" = some (some (.ref f_slotted_discs))) (l_slotted_discs : K.lookup f_slotted_discs = some ⟨oc_slotted_discs, od_slotted_discs, .func (PySem.W.fnOf "slotted_discs" "slotted_discs" (defArgs st_slotted_discs) (defBody st_slotted_discs) (defScope st_slotted_discs) .none kV_slotted_discs dc_slotted_discs pm_slotted_discs an_slotted_discs cd_slotted_discs ct_slotted_discs), sl_slotted_discs⟩) (y_slotted_discs : PySem.W.codeIn K cd_slotted_discs "slotted_discs" = true) (e_slotted_discs : PySem.W.keepIn K (.ref f_slotted_discs) = true)
    (a_law_slits : PySem.W.nsIn K mainGlobals "_law_slits" = some (some (.ref f_law_slits))) (l_law_slits : K.lookup f_law_slits = some ⟨oc_law_slits, od_law_slits, .func (PySem.W.fnOf "_law_slits" "_law_slits" (defArgs st_law_slits) (defBody st_law_slits) (defScope st_law_slits) .none kV_law_slits dc_law_slits pm_law_slits an_law_slits cd_law_slits ct_law_slits), sl_law_slits⟩) (y_law_slits : PySem.W.codeIn K cd_law_slits "_law_slits" = true) (e_law_slits : PySem.W.keepIn K (.ref f_law_slits) = true)
    (a_law_form : PySem.W.nsIn K mainGlobals "_law_form" = some (some (.ref f_law_form))) (l_law_form : K.lookup f_law_form = some ⟨oc_law_form, od_law_form, .func (PySem.W.fnOf "_law_form" "_law_form" (defArgs st_law_form) (defBody st_law_form) (defScope st_law_form) .none kV_law_form dc_law_form pm_law_form an_law_form cd_law_form ct_law_form), sl_law_form⟩) (y_law_form : PySem.W.codeIn K cd_law_form "_law_form" = true) (e_law_form : PySem.W.keepIn K (.ref f_law_form) = true)
    (a_is_item : PySem.W.nsIn K mainGlobals "is_item" = some (some (.ref f_is_item))) (l_is_item : K.lookup f_is_item = some ⟨oc_is_item, od_is_item, .func (PySem.W.fnOf "is_item" "is_item" (defArgs st_is_item) (defBody st_is_item) (defScope st_is_item) .none kV_is_item dc_is_item pm_is_item an_is_item cd_is_item ct_is_item), sl_is_item⟩) (y_is_item : PySem.W.codeIn K cd_is_item "is_item" = true) (e_is_item : PySem.W.keepIn K (.ref f_is_item) = true)
    (a_least_like : PySem.W.nsIn K mainGlobals "least_like" = some (some (.ref f_least_like))) (l_least_like : K.lookup f_least_like = some ⟨oc_least_like, od_least_like, .func (PySem.W.fnOf "least_like" "least_like" (defArgs st_least_like) (defBody st_least_like) (defScope st_least_like) .none kV_least_like dc_least_like pm_least_like an_least_like cd_least_like ct_least_like), sl_least_like⟩) (y_least_like : PySem.W.codeIn K cd_least_like "least_like" = true) (e_least_like : PySem.W.keepIn K (.ref f_least_like) = true)
    (a_slotted_fault : PySem.W.nsIn K mainGlobals "slotted_fault" = some (some (.ref f_slotted_fault))) (l_slotted_fault : K.lookup f_slotted_fault = some ⟨oc_slotted_fault, od_slotted_fault, .func (PySem.W.fnOf "slotted_fault" "slotted_fault" (defArgs st_slotted_fault) (defBody st_slotted_fault) (defScope st_slotted_fault) .none kV_slotted_fault dc_slotted_fault pm_slotted_fault an_slotted_fault cd_slotted_fault ct_slotted_fault), sl_slotted_fault⟩) (y_slotted_fault : PySem.W.codeIn K cd_slotted_fault "slotted_fault" = true) (e_slotted_fault : PySem.W.keepIn K (.ref f_slotted_fault) = true)
    (a_unlike_forms : PySem.W.nsIn K mainGlobals "unlike_forms" = some (some (.ref f_unlike_forms))) (l_unlike_forms : K.lookup f_unlike_forms = some ⟨oc_unlike_forms, od_unlike_forms, .func (PySem.W.fnOf "unlike_forms" "unlike_forms" (defArgs st_unlike_forms) (defBody st_unlike_forms) (defScope st_unlike_forms) .none kV_unlike_forms dc_unlike_forms pm_unlike_forms an_unlike_forms cd_unlike_forms ct_unlike_forms), sl_unlike_forms⟩) (y_unlike_forms : PySem.W.codeIn K cd_unlike_forms "unlike_forms" = true) (e_unlike_forms : PySem.W.keepIn K (.ref f_unlike_forms) = true)
    (a_require_slotted : PySem.W.nsIn K mainGlobals "require_slotted" = some (some (.ref f_require_slotted))) (l_require_slotted : K.lookup f_require_slotted = some ⟨oc_require_slotted, od_require_slotted, .func (PySem.W.fnOf "require_slotted" "require_slotted" (defArgs st_require_slotted) (defBody st_require_slotted) (defScope st_require_slotted) .none kV_require_slotted dc_require_slotted pm_require_slotted an_require_slotted cd_require_slotted ct_require_slotted), sl_require_slotted⟩) (y_require_slotted : PySem.W.codeIn K cd_require_slotted "require_slotted" = true) (e_require_slotted : PySem.W.keepIn K (.ref f_require_slotted) = true)
    (a_twin_discs : PySem.W.nsIn K mainGlobals "twin_discs" = some (some (.ref f_twin_discs))) (l_twin_discs : K.lookup f_twin_discs = some ⟨oc_twin_discs, od_twin_discs, .func (PySem.W.fnOf "twin_discs" "twin_discs" (defArgs st_twin_discs) (defBody st_twin_discs) (defScope st_twin_discs) .none kV_twin_discs dc_twin_discs pm_twin_discs an_twin_discs cd_twin_discs ct_twin_discs), sl_twin_discs⟩) (y_twin_discs : PySem.W.codeIn K cd_twin_discs "twin_discs" = true) (e_twin_discs : PySem.W.keepIn K (.ref f_twin_discs) = true)
    (a_law_right : PySem.W.nsIn K mainGlobals "_law_right" = some (some (.ref f_law_right))) (l_law_right : K.lookup f_law_right = some ⟨oc_law_right, od_law_right, .func (PySem.W.fnOf "_law_right" "_law_right" (defArgs st_law_right) (defBody st_law_right) (defScope st_law_right) .none kV_law_right dc_law_right pm_law_right an_law_right cd_law_right ct_law_right), sl_law_right⟩) (y_law_right : PySem.W.codeIn K cd_law_right "_law_right" = true) (e_law_right : PySem.W.keepIn K (.ref f_law_right) = true)
    (a_law : PySem.W.nsIn K mainGlobals "law" = some (some (.ref f_law))) (l_law : K.lookup f_law = some ⟨oc_law, od_law, .func (PySem.W.fnOf "law" "law" (defArgs st_law) (defBody st_law) (defScope st_law) .none kV_law dc_law pm_law an_law cd_law ct_law), sl_law⟩) (y_law : PySem.W.codeIn K cd_law "law" = true) (e_law : PySem.W.keepIn K (.ref f_law) = true)
    (z_abs : PySem.W.nsIn K mainGlobals "abs" = some none)
    (z_bool : PySem.W.nsIn K mainGlobals "bool" = some none)
    (z_enumerate : PySem.W.nsIn K mainGlobals "enumerate" = some none)
    (z_int : PySem.W.nsIn K mainGlobals "int" = some none)
    (z_isinstance : PySem.W.nsIn K mainGlobals "isinstance" = some none)
    (z_len : PySem.W.nsIn K mainGlobals "len" = some none)
    (z_list : PySem.W.nsIn K mainGlobals "list" = some none)
    (z_max : PySem.W.nsIn K mainGlobals "max" = some none)
    (z_min : PySem.W.nsIn K mainGlobals "min" = some none)
    (z_range : PySem.W.nsIn K mainGlobals "range" = some none)
    (z_repr : PySem.W.nsIn K mainGlobals "repr" = some none)
    (z_set : PySem.W.nsIn K mainGlobals "set" = some none)
    (z_sorted : PySem.W.nsIn K mainGlobals "sorted" = some none)
    (z_sum : PySem.W.nsIn K mainGlobals "sum" = some none)
    (z_tuple : PySem.W.nsIn K mainGlobals "tuple" = some none)
    (c_MOST_LIGHT : ∃ u, mg "MOST_LIGHT" = some u ∧ RelV (.int 1000000000000000000000000000000) u)
    (c_MOST_SLOTS : PySem.W.nsIn K mainGlobals "MOST_SLOTS" = some (some (.int 40 t_MOST_SLOTS)))
    (c_MOST_TWINS : PySem.W.nsIn K mainGlobals "MOST_TWINS" = some (some (.int 14 t_MOST_TWINS)))
    : ∃ fd : FuncData, (∀ (s : Shared) (v : Value), BindsTo s fd ⟨[v], []⟩ [("script", v)]) ∧ ∀ base : Heap, K.In base → base.Ns mainGlobals mg → FnG l.prog w K mg base 8 fa fd ["script"] (spM K mg 1 m_law_k23) := by
  have e := hfa.symm.trans (PySem.W.mg_of X G a_law)
  cases e
  have A : Al K mg := ⟨⟨⟨f_is_integer, _, fun_mk l_is_integer y_is_integer e_is_integer, PySem.W.mg_of X G a_is_integer, (fun_mk (st := st_is_integer) l_is_integer y_is_integer e_is_integer).binds fun _ _ _ _ _ _ us hl => match us, hl with | [_], _ => rfl⟩⟩,
    ⟨⟨f_turned_by, _, fun_mk l_turned_by y_turned_by e_turned_by, PySem.W.mg_of X G a_turned_by, (fun_mk (st := st_turned_by) l_turned_by y_turned_by e_turned_by).binds fun _ _ _ _ _ _ us hl => match us, hl with | [_, _], _ => rfl⟩⟩,
    ⟨⟨f_mirrored_by, _, fun_mk l_mirrored_by y_mirrored_by e_mirrored_by, PySem.W.mg_of X G a_mirrored_by, (fun_mk (st := st_mirrored_by) l_mirrored_by y_mirrored_by e_mirrored_by).binds fun _ _ _ _ _ _ us hl => match us, hl with | [_], _ => rfl⟩⟩,
    ⟨⟨f_own_of, _, fun_mk l_own_of y_own_of e_own_of, PySem.W.mg_of X G a_own_of, (fun_mk (st := st_own_of) l_own_of y_own_of e_own_of).binds fun _ _ _ _ _ _ us hl => match us, hl with | [_], _ => rfl⟩⟩,
    ⟨⟨f_open_lights, _, fun_mk l_open_lights y_open_lights e_open_lights, PySem.W.mg_of X G a_open_lights, (fun_mk (st := st_open_lights) l_open_lights y_open_lights e_open_lights).binds fun _ _ _ _ _ _ us hl => match us, hl with | [_, _], _ => rfl⟩⟩,
    ⟨⟨f_law_pool, _, fun_mk l_law_pool y_law_pool e_law_pool, PySem.W.mg_of X G a_law_pool, (fun_mk (st := st_law_pool) l_law_pool y_law_pool e_law_pool).binds fun _ _ _ _ _ _ us hl => match us, hl with | [_, _], _ => rfl⟩⟩,
    ⟨⟨f_law_draw, _, fun_mk l_law_draw y_law_draw e_law_draw, PySem.W.mg_of X G a_law_draw, (fun_mk (st := st_law_draw) l_law_draw y_law_draw e_law_draw).binds fun _ _ _ _ _ _ us hl => match us, hl with | [_, _], _ => rfl⟩⟩,
    ⟨⟨f_law_own, _, fun_mk l_law_own y_law_own e_law_own, PySem.W.mg_of X G a_law_own, (fun_mk (st := st_law_own) l_law_own y_law_own e_law_own).binds fun _ _ _ _ _ _ us hl => match us, hl with | [_], _ => rfl⟩⟩,
    ⟨⟨f_law_turned, _, fun_mk l_law_turned y_law_turned e_law_turned, PySem.W.mg_of X G a_law_turned, (fun_mk (st := st_law_turned) l_law_turned y_law_turned e_law_turned).binds fun _ _ _ _ _ _ us hl => match us, hl with | [_, _], _ => rfl⟩⟩,
    ⟨⟨f_law_back, _, fun_mk l_law_back y_law_back e_law_back, PySem.W.mg_of X G a_law_back, (fun_mk (st := st_law_back) l_law_back y_law_back e_law_back).binds fun _ _ _ _ _ _ us hl => match us, hl with | [_], _ => rfl⟩⟩,
    ⟨⟨f_law_all, _, fun_mk l_law_all y_law_all e_law_all, PySem.W.mg_of X G a_law_all, (fun_mk (st := st_law_all) l_law_all y_law_all e_law_all).binds fun _ _ _ _ _ _ us hl => match us, hl with | [_, _], _ => rfl⟩⟩,
    ⟨⟨f_law_unlike, _, fun_mk l_law_unlike y_law_unlike e_law_unlike, PySem.W.mg_of X G a_law_unlike, (fun_mk (st := st_law_unlike) l_law_unlike y_law_unlike e_law_unlike).binds fun _ _ _ _ _ _ us hl => match us, hl with | [_], _ => rfl⟩⟩,
    ⟨⟨f_is_at_least, _, fun_mk l_is_at_least y_is_at_least e_is_at_least, PySem.W.mg_of X G a_is_at_least, (fun_mk (st := st_is_at_least) l_is_at_least y_is_at_least e_is_at_least).binds fun _ _ _ _ _ _ us hl => match us, hl with | [_, _], _ => rfl⟩⟩,
    ⟨⟨f_turned_all, _, fun_mk l_turned_all y_turned_all e_turned_all, PySem.W.mg_of X G a_turned_all, (fun_mk (st := st_turned_all) l_turned_all y_turned_all e_turned_all).binds fun _ _ _ _ _ _ us hl => match us, hl with | [_], _ => rfl⟩⟩,
    ⟨⟨f_slotted_discs, _, fun_mk l_slotted_discs y_slotted_discs e_slotted_discs, PySem.W.mg_of X G a_slotted_discs, (fun_mk (st := st_slotted_discs) l_slotted_discs y_slotted_discs e_slotted_discs).binds fun _ _ _ _ _ _ us hl => match us, hl with | [_, _], _ => rfl⟩⟩,
    ⟨⟨f_law_slits, _, fun_mk l_law_slits y_law_slits e_law_slits, PySem.W.mg_of X G a_law_slits, (fun_mk (st := st_law_slits) l_law_slits y_law_slits e_law_slits).binds fun _ _ _ _ _ _ us hl => match us, hl with | [_, _], _ => rfl⟩⟩,
    ⟨⟨f_law_form, _, fun_mk l_law_form y_law_form e_law_form, PySem.W.mg_of X G a_law_form, (fun_mk (st := st_law_form) l_law_form y_law_form e_law_form).binds fun _ _ _ _ _ _ us hl => match us, hl with | [_], _ => rfl⟩⟩,
    ⟨⟨f_is_item, _, fun_mk l_is_item y_is_item e_is_item, PySem.W.mg_of X G a_is_item, (fun_mk (st := st_is_item) l_is_item y_is_item e_is_item).binds fun _ _ _ _ _ _ us hl => match us, hl with | [_], _ => rfl⟩⟩,
    ⟨⟨f_least_like, _, fun_mk l_least_like y_least_like e_least_like, PySem.W.mg_of X G a_least_like, (fun_mk (st := st_least_like) l_least_like y_least_like e_least_like).binds fun _ _ _ _ _ _ us hl => match us, hl with | [_], _ => rfl⟩⟩,
    ⟨⟨f_slotted_fault, _, fun_mk l_slotted_fault y_slotted_fault e_slotted_fault, PySem.W.mg_of X G a_slotted_fault, (fun_mk (st := st_slotted_fault) l_slotted_fault y_slotted_fault e_slotted_fault).binds fun _ _ _ _ _ _ us hl => match us, hl with | [_], _ => rfl⟩⟩,
    ⟨⟨f_unlike_forms, _, fun_mk l_unlike_forms y_unlike_forms e_unlike_forms, PySem.W.mg_of X G a_unlike_forms, (fun_mk (st := st_unlike_forms) l_unlike_forms y_unlike_forms e_unlike_forms).binds fun _ _ _ _ _ _ us hl => match us, hl with | [_], _ => rfl⟩⟩,
    ⟨⟨f_require_slotted, _, fun_mk l_require_slotted y_require_slotted e_require_slotted, PySem.W.mg_of X G a_require_slotted, (fun_mk (st := st_require_slotted) l_require_slotted y_require_slotted e_require_slotted).binds fun _ _ _ _ _ _ us hl => match us, hl with | [_, _], _ => rfl⟩⟩,
    ⟨⟨f_twin_discs, _, fun_mk l_twin_discs y_twin_discs e_twin_discs, PySem.W.mg_of X G a_twin_discs, (fun_mk (st := st_twin_discs) l_twin_discs y_twin_discs e_twin_discs).binds fun _ _ _ _ _ _ us hl => match us, hl with | [_], _ => rfl⟩⟩,
    ⟨⟨f_law_right, _, fun_mk l_law_right y_law_right e_law_right, PySem.W.mg_of X G a_law_right, (fun_mk (st := st_law_right) l_law_right y_law_right e_law_right).binds fun _ _ _ _ _ _ us hl => match us, hl with | [_], _ => rfl⟩⟩,
    ⟨⟨fa, _, fun_mk l_law y_law e_law, PySem.W.mg_of X G a_law, (fun_mk (st := st_law) l_law y_law e_law).binds fun _ _ _ _ _ _ us hl => match us, hl with | [_], _ => rfl⟩⟩,
    PySem.W.mg_none_of X G z_abs,
    PySem.W.mg_none_of X G z_bool,
    PySem.W.mg_none_of X G z_enumerate,
    PySem.W.mg_none_of X G z_int,
    PySem.W.mg_none_of X G z_isinstance,
    PySem.W.mg_none_of X G z_len,
    PySem.W.mg_none_of X G z_list,
    PySem.W.mg_none_of X G z_max,
    PySem.W.mg_none_of X G z_min,
    PySem.W.mg_none_of X G z_range,
    PySem.W.mg_none_of X G z_repr,
    PySem.W.mg_none_of X G z_set,
    PySem.W.mg_none_of X G z_sorted,
    PySem.W.mg_none_of X G z_sum,
    PySem.W.mg_none_of X G z_tuple,
    c_MOST_LIGHT,
    ⟨_, PySem.W.mg_of X G c_MOST_SLOTS, _, rfl⟩,
    ⟨_, PySem.W.mg_of X G c_MOST_TWINS, _, rfl⟩⟩
  refine ⟨PySem.W.fnOf "law" "law" (defArgs st_law) (defBody st_law) (defScope st_law) .none kV_law dc_law pm_law an_law cd_law ct_law, fun s v => .of_eq rfl, fun base _ _ => ?_⟩
  obtain ⟨f', fd', a1, a2, a3, a4, a5, o, a6, a7⟩ := (k_law (P := l.prog) (w := w) (base := base) A).ex
  rw [PySem.W.mg_of X G a_law] at a3
  cases a3
  rw [l_law] at a6
  cases a6
  cases a7
  exact a2
end LK23
open PySem PyProof.Rows PySem.W
open Sd (m_law_k23 law_k23_true)
set_option maxHeartbeats 0 in
theorem PySem.Challenge.cw_slitdiscs_k23_twins_by_all_discs_holds : PySem.Challenge.rw_slitdiscs_k23_twins_by_all_discs.Holds := by
  w_on; o_law; k_head
  (case hw => w_witness2)
  k_fill
  refine Sd.walk_ofG (l := PySem.Challenge.rw_slitdiscs_k23_twins_by_all_discs) (most := 63) (k := 8) (x := "script") (m := m_law_k23) rfl (by decide) rfl (by decide +kernel) (fun w => by kernel_rfl) ⟨rfl, by decide, by decide⟩ (fun w h yp => PySem.W.kIn_of yp) ?F law_k23_true
  case F =>
    intro w mg fa h KX G hx hmg
    refine' LK23.all_mk KX G hmg ?a_is_integer ?l_is_integer ?y_is_integer ?e_is_integer ?a_turned_by ?l_turned_by ?y_turned_by ?e_turned_by ?a_mirrored_by ?l_mirrored_by ?y_mirrored_by ?e_mirrored_by ?a_own_of ?l_own_of ?y_own_of ?e_own_of ?a_open_lights ?l_open_lights ?y_open_lights ?e_open_lights ?a_law_pool ?l_law_pool ?y_law_pool ?e_law_pool ?a_law_draw ?l_law_draw ?y_law_draw ?e_law_draw ?a_law_own ?l_law_own ?y_law_own ?e_law_own ?a_law_turned ?l_law_turned ?y_law_turned ?e_law_turned ?a_law_back ?l_law_back ?y_law_back ?e_law_back ?a_law_all ?l_law_all ?y_law_all ?e_law_all ?a_law_unlike ?l_law_unlike ?y_law_unlike ?e_law_unlike ?a_is_at_least ?l_is_at_least ?y_is_at_least ?e_is_at_least ?a_turned_all ?l_turned_all ?y_turned_all ?e_turned_all ?a_slotted_discs ?l_slotted_discs ?y_slotted_discs ?e_slotted_discs ?a_law_slits ?l_law_slits ?y_law_slits ?e_law_slits ?a_law_form ?l_law_form ?y_law_form ?e_law_form ?a_is_item ?l_is_item ?y_is_item ?e_is_item ?a_least_like ?l_least_like ?y_least_like ?e_least_like ?a_slotted_fault ?l_slotted_fault ?y_slotted_fault ?e_slotted_fault ?a_unlike_forms ?l_unlike_forms ?y_unlike_forms ?e_unlike_forms ?a_require_slotted ?l_require_slotted ?y_require_slotted ?e_require_slotted ?a_twin_discs ?l_twin_discs ?y_twin_discs ?e_twin_discs ?a_law_right ?l_law_right ?y_law_right ?e_law_right ?a_law ?l_law ?y_law ?e_law ?z_abs ?z_bool ?z_enumerate ?z_int ?z_isinstance ?z_len ?z_list ?z_max ?z_min ?z_range ?z_repr ?z_set ?z_sorted ?z_sum ?z_tuple ?c_MOST_LIGHT ?c_MOST_SLOTS ?c_MOST_TWINS
    (case a_is_integer => k_is); (case l_is_integer => k_is); (case y_is_integer => k_is); (case e_is_integer => k_is); (case a_turned_by => k_is); (case l_turned_by => k_is); (case y_turned_by => k_is); (case e_turned_by => k_is); (case a_mirrored_by => k_is); (case l_mirrored_by => k_is); (case y_mirrored_by => k_is); (case e_mirrored_by => k_is); (case a_own_of => k_is); (case l_own_of => k_is); (case y_own_of => k_is); (case e_own_of => k_is); (case a_open_lights => k_is); (case l_open_lights => k_is); (case y_open_lights => k_is); (case e_open_lights => k_is); (case a_law_pool => k_is); (case l_law_pool => k_is); (case y_law_pool => k_is); (case e_law_pool => k_is); (case a_law_draw => k_is); (case l_law_draw => k_is); (case y_law_draw => k_is); (case e_law_draw => k_is); (case a_law_own => k_is); (case l_law_own => k_is); (case y_law_own => k_is); (case e_law_own => k_is); (case a_law_turned => k_is); (case l_law_turned => k_is); (case y_law_turned => k_is); (case e_law_turned => k_is); (case a_law_back => k_is); (case l_law_back => k_is); (case y_law_back => k_is); (case e_law_back => k_is); (case a_law_all => k_is); (case l_law_all => k_is); (case y_law_all => k_is); (case e_law_all => k_is); (case a_law_unlike => k_is); (case l_law_unlike => k_is); (case y_law_unlike => k_is); (case e_law_unlike => k_is); (case a_is_at_least => k_is); (case l_is_at_least => k_is); (case y_is_at_least => k_is); (case e_is_at_least => k_is); (case a_turned_all => k_is); (case l_turned_all => k_is); (case y_turned_all => k_is); (case e_turned_all => k_is); (case a_slotted_discs => k_is); (case l_slotted_discs => k_is); (case y_slotted_discs => k_is); (case e_slotted_discs => k_is); (case a_law_slits => k_is); (case l_law_slits => k_is); (case y_law_slits => k_is); (case e_law_slits => k_is); (case a_law_form => k_is); (case l_law_form => k_is); (case y_law_form => k_is); (case e_law_form => k_is); (case a_is_item => k_is); (case l_is_item => k_is); (case y_is_item => k_is); (case e_is_item => k_is); (case a_least_like => k_is); (case l_least_like => k_is); (case y_least_like => k_is); (case e_least_like => k_is); (case a_slotted_fault => k_is); (case l_slotted_fault => k_is); (case y_slotted_fault => k_is); (case e_slotted_fault => k_is); (case a_unlike_forms => k_is); (case l_unlike_forms => k_is); (case y_unlike_forms => k_is); (case e_unlike_forms => k_is); (case a_require_slotted => k_is); (case l_require_slotted => k_is); (case y_require_slotted => k_is); (case e_require_slotted => k_is); (case a_twin_discs => k_is); (case l_twin_discs => k_is); (case y_twin_discs => k_is); (case e_twin_discs => k_is); (case a_law_right => k_is); (case l_law_right => k_is); (case y_law_right => k_is); (case e_law_right => k_is); (case a_law => k_is); (case l_law => k_is); (case y_law => k_is); (case e_law => k_is); (case z_abs => k_is); (case z_bool => k_is); (case z_enumerate => k_is); (case z_int => k_is); (case z_isinstance => k_is); (case z_len => k_is); (case z_list => k_is); (case z_max => k_is); (case z_min => k_is); (case z_range => k_is); (case z_repr => k_is); (case z_set => k_is); (case z_sorted => k_is); (case z_sum => k_is); (case z_tuple => k_is); (case c_MOST_SLOTS => k_is); (case c_MOST_TWINS => k_is)
    (case c_MOST_LIGHT => exact Sd.loose_int hx.2 (List.mem_of_elem_eq_true (by decide +kernel)))
