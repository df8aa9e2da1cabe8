import PyProof.Rows.All
import Wide.All
import OpenK.AllK
import Wide.FinOn
import HandS.ForMost
import HandS.ForExc
import HandS.Walk
import HandS.TupAny
import HandS.TupLe
import HandS.TupMul
import HandS.Deep
import HandS.IsInst
import HandS.SortOrd
import HandS.SortRule
import HandS.SortInts
import HandS.TupSets
import HandS.Conv
import HandS.Strs
import HandS.ExcValue
import HandS.ExcIs
import HandS.Wide
import HandS.FStr
import HandS.Zip
import HandS.DictTup
import HandS.Style
import HandS.Flow
import HandS.Codes
import HandS.OwnEq
import HandS.CallLocal
import HandS.Defaults
import HandS.Head0
import HandS.Head1
import HandS.Head2
import HandS.HeadEnd
import HandS.HeadHook1
import HandS.HeadHook2
import PySem.Challenge.RW_lotcolours_k20_whole_colours
set_option Elab.async false
set_option linter.all false
set_option maxRecDepth 100000
set_option maxHeartbeats 4000000
namespace Lc
open PySem L2

/-! ### the heap without the mutable places -/
def cut (A : List Addr) (H : Hp) : Hp := fun a => if a ∈ A then none else H a
theorem cut_out {A : List Addr} {H : Hp} {a : Addr} (h : a ∉ A) : cut A H a = H a := by unfold cut; rw [if_neg h]
theorem cut_in {A : List Addr} {H : Hp} {a : Addr} (h : a ∈ A) : cut A H a = none := by unfold cut; rw [if_pos h]
theorem cut_some {A : List Addr} {H : Hp} {a : Addr} {o : HO} (h : cut A H a = some o) : a ∉ A ∧ H a = some o := by
  by_cases ha : a ∈ A
  · rw [cut_in ha] at h; cases h
  · rw [cut_out ha] at h; exact ⟨ha, h⟩
theorem cut_nil {H : Hp} : cut [] H = H := by funext a; exact cut_out (by simp)
def Live (A : List Addr) (H : Hp) : Prop := ∀ a ∈ A, H a ≠ none
theorem Live.nil {H : Hp} : Live [] H := fun a h => by simp at h
theorem Live.same {A : List Addr} {H H' : Hp} (l : Live A H) (s : Same H H') : Live A H' := fun a ha e => by
  cases q : H a with
  | none => exact l a ha q
  | some o => rw [s a o q] at e; cases e
theorem Live.fresh {A : List Addr} {H : Hp} {p : Addr} (l : Live A H) (h : H p = none) : p ∉ A := fun hp => l p hp h
theorem cut_same {A : List Addr} {H H' : Hp} (s : Same H H') : Same (cut A H) (cut A H') := fun a o e => by
  obtain ⟨h1, h2⟩ := cut_some e
  rw [cut_out h1]; exact s a o h2
theorem same_cut {A : List Addr} {H : Hp} : Same (cut A H) H := fun a o e => (cut_some e).2
theorem same_new {H : Hp} {p : Addr} {o : HO} (h : H p = none) : Same H (upd H p o) := fun a u e => by
  rw [upd_ne (ne_of_none e h)]; exact e
theorem cut_new {A : List Addr} {H : Hp} {p : Addr} {o : HO} (l : Live A H) (h : H p = none) : cut A (upd H p o) p = some o := by
  rw [cut_out (l.fresh h)]; exact upd_same

/-! ### deep data -/
theorem rd_same {F F' : Hp} {a : Addr} {u : HO} (s : Same F F') (h : Rd F a u) : Rd F' a u := by
  rcases h with h | ⟨o, h⟩
  · exact .inl (s a _ h)
  · exact .inr ⟨o, s a _ h⟩
theorem sql_same {K : PySem.W.Frag} {F F' : Hp} {a : Addr} {xs : List V} (s : Same F F') (h : SqL K F a xs) : SqL K F' a xs := by
  rcases h with h | h
  · exact .inl (rd_same s h)
  · exact .inr h
theorem sqt_same {K : PySem.W.Frag} {F F' : Hp} {a : Addr} {xs : List V} (s : Same F F') (h : SqT K F a xs) : SqT K F' a xs := by
  rcases h with h | h
  · exact .inl (rd_same s h)
  · exact .inr h
/-- the script, an address as it is, a class -/
def scrD (ns : List Int) : PyData := .dict [(.list (ns.map .int), .none)]
def adrD (a : Addr) : PyData := .dict [(.int (a : Nat), .none)]
def tyD (n : String) : PyData := .dict [(.str (Str.ofString n), .none)]
mutual
inductive Dq (K : PySem.W.Frag) (H : Hp) : V → PyData → Prop
  | non : Dq K H .non .none
  | bl (b : Bool) : Dq K H (.bl b) (.bool b)
  | int (i : Int) : Dq K H (.int i) (.int i)
  | str (x : Str) : Dq K H (.str x) (.str x)
  | lst {a : Addr} {xs : List V} {ds : List PyData} : H a = some (.lst xs) → DqAll K H xs ds → Dq K H (.ref a) (.list ds)
  | tup {a : Addr} {xs : List V} {ds : List PyData} : H a = some (.tup xs) → DqAll K H xs ds → Dq K H (.ref a) (.tuple ds)
  | scr {a : Addr} {ns : List Int} : SqL K H a (ns.map V.int) → Dq K H (.ref a) (scrD ns)
  | adr (a : Addr) : Dq K H (.ref a) (adrD a)
  | ty (n : String) : Dq K H (.ty n) (tyD n)
inductive DqAll (K : PySem.W.Frag) (H : Hp) : List V → List PyData → Prop
  | nil : DqAll K H [] []
  | cons {v : V} {vs : List V} {d : PyData} {ds : List PyData} : Dq K H v d → DqAll K H vs ds → DqAll K H (v :: vs) (d :: ds)
end
theorem Dq.listI {K : PySem.W.Frag} {H : Hp} {v : V} {ds : List PyData} (h : Dq K H v (.list ds)) : ∃ a xs, v = .ref a ∧ H a = some (.lst xs) ∧ DqAll K H xs ds := by
  cases h with
  | lst h1 h2 => exact ⟨_, _, rfl, h1, h2⟩
theorem Dq.tupI {K : PySem.W.Frag} {H : Hp} {v : V} {ds : List PyData} (h : Dq K H v (.tuple ds)) : ∃ a xs, v = .ref a ∧ H a = some (.tup xs) ∧ DqAll K H xs ds := by
  cases h with
  | tup h1 h2 => exact ⟨_, _, rfl, h1, h2⟩
theorem ints_inj : ∀ {ns ms : List Int}, ns.map PyData.int = ms.map PyData.int → ns = ms
  | [], [], _ => rfl
  | [], _ :: _, h => by simp at h
  | _ :: _, [], h => by simp at h
  | n :: ns, m :: ms, h => by
    simp only [List.map_cons, List.cons.injEq, PyData.int.injEq] at h
    rw [h.1, ints_inj h.2]
theorem Dq.scrI {K : PySem.W.Frag} {H : Hp} {v : V} {ns : List Int} (h : Dq K H v (scrD ns)) : ∃ a, v = .ref a ∧ SqL K H a (ns.map V.int) := by
  generalize e : scrD ns = d at h
  cases h with
  | scr h1 =>
    rename_i a ms
    have : ns = ms := ints_inj (by simpa [scrD] using e)
    subst this
    exact ⟨_, rfl, h1⟩
  | adr a => simp [scrD, adrD] at e
  | ty n => simp [scrD, tyD] at e
  | _ => simp [scrD] at e
theorem Dq.adrI {K : PySem.W.Frag} {H : Hp} {v : V} {a : Addr} (h : Dq K H v (adrD a)) : v = .ref a := by
  generalize e : adrD a = d at h
  cases h with
  | adr b =>
    have : a = b := by
      have h1 : ((a : Nat) : Int) = ((b : Nat) : Int) := by simpa [adrD] using e
      exact Int.ofNat.inj h1
    rw [this]
  | scr h1 => simp [scrD, adrD] at e
  | ty n => simp [adrD, tyD] at e
  | _ => simp [adrD] at e
mutual
theorem dp_same {K : PySem.W.Frag} {F F' : Hp} (s : Same F F') : ∀ {d : PyData} {v : V}, Dq K F v d → Dq K F' v d
  | _, _, .non => .non
  | _, _, .bl b => .bl b
  | _, _, .int i => .int i
  | _, _, .str x => .str x
  | _, _, .lst h1 h2 => .lst (s _ _ h1) (dpall_same s h2)
  | _, _, .tup h1 h2 => .tup (s _ _ h1) (dpall_same s h2)
  | _, _, .scr h1 => .scr (sql_same s h1)
  | _, _, .adr a => .adr a
  | _, _, .ty n => .ty n
theorem dpall_same {K : PySem.W.Frag} {F F' : Hp} (s : Same F F') : ∀ {ds : List PyData} {vs : List V}, DqAll K F vs ds → DqAll K F' vs ds
  | _, _, .nil => .nil
  | _, _, .cons h1 h2 => .cons (dp_same s h1) (dpall_same s h2)
end
theorem DqAll.length {K : PySem.W.Frag} {F : Hp} : ∀ {vs : List V} {ds : List PyData}, DqAll K F vs ds → vs.length = ds.length
  | _, _, .nil => rfl
  | _, _, .cons _ t => by simp [DqAll.length t]
theorem DqAll.get {K : PySem.W.Frag} {F : Hp} : ∀ {vs : List V} {ds : List PyData} {i : Nat} {d : PyData}, DqAll K F vs ds → ds[i]? = some d → ∃ v, vs[i]? = some v ∧ Dq K F v d
  | _, _, _, _, .nil, h => by simp at h
  | _, _, 0, _, .cons h _, e => by simp at e; subst e; exact ⟨_, rfl, h⟩
  | _, _, i + 1, d, .cons _ t, e => by
    obtain ⟨v, h1, h2⟩ := DqAll.get (i := i) (d := d) t (by simpa using e)
    exact ⟨v, by simpa using h1, h2⟩
theorem DqAll.getV {K : PySem.W.Frag} {F : Hp} : ∀ {vs : List V} {ds : List PyData} {i : Nat} {v : V}, DqAll K F vs ds → vs[i]? = some v → ∃ d, ds[i]? = some d ∧ Dq K F v d
  | _, _, _, _, .nil, h => by simp at h
  | _, _, 0, _, .cons h _, e => by simp at e; subst e; exact ⟨_, rfl, h⟩
  | _, _, i + 1, d, .cons _ t, e => by
    obtain ⟨v, h1, h2⟩ := DqAll.getV (i := i) (v := d) t (by simpa using e)
    exact ⟨v, by simpa using h1, h2⟩
theorem DqAll.append {K : PySem.W.Frag} {F : Hp} : ∀ {vs us : List V} {ds es : List PyData}, DqAll K F vs ds → DqAll K F us es → DqAll K F (vs ++ us) (ds ++ es)
  | _, _, _, _, .nil, h => h
  | _, _, _, _, .cons h t, h' => .cons h (DqAll.append t h')
theorem DqAll.drop {K : PySem.W.Frag} {F : Hp} : ∀ (n : Nat) {vs : List V} {ds : List PyData}, DqAll K F vs ds → DqAll K F (vs.drop n) (ds.drop n)
  | 0, _, _, h => h
  | _ + 1, _, _, .nil => .nil
  | n + 1, _, _, .cons _ t => DqAll.drop n t
theorem DqAll.take {K : PySem.W.Frag} {F : Hp} : ∀ (n : Nat) {vs : List V} {ds : List PyData}, DqAll K F vs ds → DqAll K F (vs.take n) (ds.take n)
  | 0, _, _, _ => .nil
  | _ + 1, _, _, .nil => .nil
  | n + 1, _, _, .cons h t => .cons h (DqAll.take n t)
theorem DqAll.ints {K : PySem.W.Frag} {F : Hp} : ∀ {vs : List V} {ns : List Int}, DqAll K F vs (ns.map PyData.int) → vs = ns.map V.int
  | _, [], h => by cases h; rfl
  | _, n :: ns, h => by
    cases h with
    | cons h1 h2 => cases h1; rw [DqAll.ints h2]; rfl
theorem DqAll.ofInts {K : PySem.W.Frag} {F : Hp} : ∀ (ns : List Int), DqAll K F (ns.map V.int) (ns.map PyData.int)
  | [] => .nil
  | n :: ns => .cons (.int n) (DqAll.ofInts ns)
theorem DqAll.bools {K : PySem.W.Frag} {F : Hp} : ∀ {vs : List V} {ns : List Bool}, DqAll K F vs (ns.map PyData.bool) → vs = ns.map V.bl
  | _, [], h => by cases h; rfl
  | _, n :: ns, h => by
    cases h with
    | cons h1 h2 => cases h1; rw [DqAll.bools h2]; rfl
theorem DqAll.strs {K : PySem.W.Frag} {F : Hp} : ∀ {vs : List V} {ns : List Str}, DqAll K F vs (ns.map PyData.str) → vs = ns.map V.str
  | _, [], h => by cases h; rfl
  | _, n :: ns, h => by
    cases h with
    | cons h1 h2 => cases h1; rw [DqAll.strs h2]; rfl

/-! ### the slots -/
abbrev Rho := List (Option PyData)
def SlotR (K : PySem.W.Frag) (F : Hp) : Option V → Option PyData → Prop
  | some v, some d => Dq K F v d
  | none, some _ => False
  | _, none => True
inductive EnvD (K : PySem.W.Frag) (F : Hp) : St → Rho → Prop
  | nil : EnvD K F [] []
  | cons {o : Option V} {r : Option PyData} {σ : St} {ρ : Rho} : SlotR K F o r → EnvD K F σ ρ → EnvD K F (o :: σ) (r :: ρ)
section
variable {K : PySem.W.Frag} {F F' : Hp}
theorem SlotR.same (s : Same F F') : ∀ {o : Option V} {r : Option PyData}, SlotR K F o r → SlotR K F' o r
  | some _, some _, h => dp_same s h
  | none, some _, h => h
  | some _, none, _ => trivial
  | none, none, _ => trivial
theorem EnvD.same (s : Same F F') : ∀ {σ : St} {ρ : Rho}, EnvD K F σ ρ → EnvD K F' σ ρ
  | _, _, .nil => .nil
  | _, _, .cons h t => .cons (h.same s) (t.same s)
theorem EnvD.get : ∀ {σ : St} {ρ : Rho} {i : Nat} {d : PyData}, EnvD K F σ ρ → ρ[i]? = some (some d) → ∃ v, σ[i]? = some (some v) ∧ Dq K F v d
  | _, _, _, _, .nil, h => by simp at h
  | o :: _, _, 0, d, .cons h _, e => by
    simp at e; subst e
    cases o with
    | none => exact h.elim
    | some v => exact ⟨v, rfl, h⟩
  | _, _, i + 1, d, .cons _ t, e => by
    obtain ⟨v, h1, h2⟩ := EnvD.get (i := i) (d := d) t (by simpa using e)
    exact ⟨v, by simpa using h1, h2⟩
theorem EnvD.set {v : V} {d : PyData} (h : Dq K F v d) : ∀ (i : Nat) {σ : St} {ρ : Rho}, EnvD K F σ ρ → EnvD K F (σ.set i (some v)) (ρ.set i (some d))
  | _, _, _, .nil => .nil
  | 0, _, _, .cons _ t => .cons h t
  | i + 1, _, _, .cons q t => .cons q (EnvD.set h i t)
theorem EnvD.forget (o : Option V) : ∀ (i : Nat) {σ : St} {ρ : Rho}, EnvD K F σ ρ → EnvD K F (σ.set i o) (ρ.set i none)
  | _, _, _, .nil => .nil
  | 0, _, _, .cons _ t => .cons (by cases o <;> trivial) t
  | i + 1, _, _, .cons q t => .cons q (EnvD.forget o i t)
theorem EnvD.keep (i : Nat) {σ : St} {ρ : Rho} (h : EnvD K F σ ρ) : EnvD K F σ (ρ.set i none) := by
  induction h generalizing i with
  | nil => exact .nil
  | cons q t ih =>
    rename_i o r σ ρ
    cases i with
    | zero => exact .cons (by cases o <;> trivial) t
    | succ i => exact .cons q (ih i)
end
def wipeD (ρ : Rho) : List Nat → Rho
  | [] => ρ
  | v :: vs => (wipeD ρ vs).set v none
theorem EnvD.wipe {K : PySem.W.Frag} {F : Hp} {σ : St} {ρ : Rho} (h : EnvD K F σ ρ) : ∀ vs : List Nat, EnvD K F (L2.wipe σ vs) (wipeD ρ vs)
  | [] => h
  | v :: vs => EnvD.forget none v (h.wipe vs)
theorem wipe_set (σ : St) (x : Option V) : ∀ (vs : List Nat) (j : Nat), j ∈ vs → wipe (σ.set j x) vs = wipe σ vs
  | [], j, h => by simp at h
  | v :: vs, j, h => by
    show (wipe (σ.set j x) vs).set v none = (wipe σ vs).set v none
    by_cases hj : j ∈ vs
    · rw [wipe_set σ x vs j hj]
    · have hv : j = v := by simpa [hj] using h
      subst hv
      have aux : ∀ (ws : List Nat), j ∉ ws → wipe (σ.set j x) ws = (wipe σ ws).set j x := by
        intro ws
        induction ws with
        | nil => intro _; rfl
        | cons w ws ih =>
          intro hw
          have h1 : j ≠ w := fun e => hw (by simp [e])
          have h2 : j ∉ ws := fun e => hw (by simp [e])
          show (wipe (σ.set j x) ws).set w none = ((wipe σ ws).set w none).set j x
          rw [ih h2, List.set_comm _ _ h1]
      rw [aux vs hj, List.set_set]
theorem wipe_wipe (σ : St) : ∀ (vs : List Nat), wipe (wipe σ vs) vs = wipe σ vs := by
  have key : ∀ (ws vs : List Nat) (τ : St), (∀ w ∈ ws, w ∈ vs) → wipe (wipe τ ws) vs = wipe τ vs := by
    intro ws
    induction ws with
    | nil => intro vs τ _; rfl
    | cons w ws ih =>
      intro vs τ h
      show wipe ((wipe τ ws).set w none) vs = wipe τ vs
      rw [wipe_set _ _ vs w (h w (by simp)), ih vs τ (fun x hx => h x (by simp [hx]))]
  intro vs
  exact key vs vs σ (fun _ h => h)
theorem wipe_back (σ : St) (x : Option V) (vs : List Nat) (j : Nat) (h : j ∈ vs) : wipe ((wipe σ vs).set j x) vs = wipe σ vs := by
  rw [wipe_set _ _ _ _ h, wipe_wipe]

/-! ### what evaluates to what -/
def EvD (K : PySem.W.Frag) (te : TE) (ρ : Rho) (d : PyData) : Prop :=
  ∀ A σ H, Live A H → EnvD K (cut A H) σ ρ → ∀ Q : VK, (∀ v H', Same H H' → Dq K (cut A H') v d → Q v H') → te σ H Q
def EvT (K : PySem.W.Frag) (tt : TT) (ρ : Rho) (b : Bool) : Prop :=
  ∀ A σ H, Live A H → EnvD K (cut A H) σ ρ → ∀ Q : Bool → Hp → Prop, (∀ H', Same H H' → Q b H') → tt σ H Q
def EvA (K : PySem.W.Frag) (ta : TA) (ρ : Rho) (ds : List PyData) : Prop :=
  ∀ A σ H, Live A H → EnvD K (cut A H) σ ρ → ∀ Q : List V → Hp → Prop, (∀ vs H', Same H H' → DqAll K (cut A H') vs ds → Q vs H') → ta σ H Q
/-- operations on values -/
def OpD (K : PySem.W.Frag) (r : R2) (d e f : PyData) : Prop :=
  ∀ A x y H, Live A H → Dq K (cut A H) x d → Dq K (cut A H) y e → ∀ Q : VK, (∀ v H', Same H H' → Dq K (cut A H') v f → Q v H') → r x y H Q
def UnD (K : PySem.W.Frag) (r : V → Hp → VK → Prop) (d f : PyData) : Prop :=
  ∀ A x H, Live A H → Dq K (cut A H) x d → ∀ Q : VK, (∀ v H', Same H H' → Dq K (cut A H') v f → Q v H') → r x H Q
def CaD (K : PySem.W.Frag) (r : List V → Hp → VK → Prop) (ds : List PyData) (f : PyData) : Prop :=
  ∀ A xs H, Live A H → DqAll K (cut A H) xs ds → ∀ Q : VK, (∀ v H', Same H H' → Dq K (cut A H') v f → Q v H') → r xs H Q
section
variable {K : PySem.W.Frag} {ρ : Rho} {ta tb tc te : TE} {t u : TT} {d e f : PyData} {b : Bool}
theorem ev_var {i : Nat} (h : ρ[i]? = some (some d)) : EvD K (tVar i) ρ d := fun A σ H _ hE Q q => by
  obtain ⟨v, h1, h2⟩ := hE.get h
  exact ⟨v, h1, q v H (Same.refl H) h2⟩
theorem ev_c {v : V} (h : ∀ F, Dq K F v d) : EvD K (tC v) ρ d := fun A σ H _ hE Q q => q v H (Same.refl H) (h _)
theorem ev_int {i : Int} : EvD K (tC (.int i)) ρ (.int i) := ev_c fun _ => .int i
theorem ev_bl {i : Bool} : EvD K (tC (.bl i)) ρ (.bool i) := ev_c fun _ => .bl i
theorem ev_str {i : Str} : EvD K (tC (.str i)) ρ (.str i) := ev_c fun _ => .str i
theorem ev_non : EvD K (tC .non) ρ .none := ev_c fun _ => .non
theorem ev_op {r : R2} (ha : EvD K ta ρ d) (hb : EvD K tb ρ e) (hr : OpD K r d e f) : EvD K (tOp r ta tb) ρ f := fun A σ H l hE Q q =>
  ha A σ H l hE _ fun x H1 s1 hx => hb A σ H1 (l.same s1) (hE.same (cut_same s1)) _ fun y H2 s2 hy =>
    hr A x y H2 ((l.same s1).same s2) (dp_same (cut_same s2) hx) hy Q fun v H3 s3 hv => q v H3 ((s1.trans s2).trans s3) hv
theorem ev_un {r : V → Hp → VK → Prop} (ha : EvD K ta ρ d) (hr : UnD K r d f) : EvD K (tUn r ta) ρ f := fun A σ H l hE Q q =>
  ha A σ H l hE _ fun x H1 s1 hx => hr A x H1 (l.same s1) hx Q fun v H3 s3 hv => q v H3 (s1.trans s3) hv
theorem ea_nil : EvA K tNil ρ [] := fun A σ H l hE Q q => q [] H (Same.refl H) .nil
theorem ea_cons {tr : TA} {ds : List PyData} (ha : EvD K ta ρ d) (hr : EvA K tr ρ ds) : EvA K (tCons ta tr) ρ (d :: ds) := fun A σ H l hE Q q =>
  ha A σ H l hE _ fun x H1 s1 hx => hr A σ H1 (l.same s1) (hE.same (cut_same s1)) _ fun xs H2 s2 hxs => q _ H2 (s1.trans s2) (.cons (dp_same (cut_same s2) hx) hxs)
theorem ev_cb {r : List V → Hp → VK → Prop} {tr : TA} {ds : List PyData} (ha : EvA K tr ρ ds) (hr : CaD K r ds f) : EvD K (tCB r tr) ρ f := fun A σ H l hE Q q =>
  ha A σ H l hE _ fun xs H1 s1 hx => hr A xs H1 (l.same s1) hx Q fun v H3 s3 hv => q v H3 (s1.trans s3) hv
theorem ev_tup {tr : TA} {ds : List PyData} (ha : EvA K tr ρ ds) (hz : ds.length ≤ 100000) : EvD K (tTup tr) ρ (.tuple ds) := fun A σ H l hE Q q =>
  ha A σ H l hE _ fun xs H1 s1 hx => ⟨Nat.le_trans (by rw [hx.length]; exact hz) (by decide), fun p hp =>
    q _ _ (s1.trans (same_new hp)) (.tup (cut_new (l.same s1) hp) (dpall_same (cut_same (same_new hp)) hx))⟩
theorem ev_lst {tr : TA} {ds : List PyData} (ha : EvA K tr ρ ds) (hz : ds.length ≤ 100000) : EvD K (tLst tr) ρ (.list ds) := fun A σ H l hE Q q =>
  ha A σ H l hE _ fun xs H1 s1 hx => ⟨Nat.le_trans (by rw [hx.length]; exact hz) (by decide), fun p hp =>
    q _ _ (s1.trans (same_new hp)) (.lst (cut_new (l.same s1) hp) (dpall_same (cut_same (same_new hp)) hx))⟩
theorem ev_to {d' : PyData} (h : EvD K te ρ d) (e : d = d') : EvD K te ρ d' := e ▸ h
theorem et_to {b' : Bool} (h : EvT K t ρ b) (e : b = b') : EvT K t ρ b' := e ▸ h
/-! tests -/
theorem et_B (h : EvD K te ρ (.bool b)) : EvT K (tB te) ρ b := fun A σ H l hE Q q => h A σ H l hE _ fun v H' s hv => by
  cases hv; exact ⟨b, rfl, q H' s⟩
theorem et_test (h : EvD K te ρ (.bool b)) : EvT K (tTest te) ρ b := fun A σ H l hE Q q => h A σ H l hE _ fun v H' s hv => by
  cases hv; exact ⟨b, rfl, q H' s⟩
theorem et_not (h : EvT K t ρ b) : EvT K (tNot t) ρ (!b) := fun A σ H l hE Q q => h A σ H l hE _ fun H' s => q H' s
theorem et_and {c : Bool} (h1 : EvT K t ρ b) (h2 : b = true → EvT K u ρ c) : EvT K (tAnd t u) ρ (b && c) := fun A σ H l hE Q q => h1 A σ H l hE _ fun H1 s1 => by
  cases b with
  | true =>
    show (if true = true then u σ H1 Q else Q false H1)
    rw [if_pos rfl]
    exact h2 rfl A σ H1 (l.same s1) (hE.same (cut_same s1)) Q fun H2 s2 => q H2 (s1.trans s2)
  | false => exact iteF (q H1 s1)
theorem et_or {c : Bool} (h1 : EvT K t ρ b) (h2 : b = false → EvT K u ρ c) : EvT K (tOr t u) ρ (b || c) := fun A σ H l hE Q q => h1 A σ H l hE _ fun H1 s1 => by
  cases b with
  | false =>
    show (if false = true then Q true H1 else u σ H1 Q)
    rw [if_neg Bool.false_ne_true]
    exact h2 rfl A σ H1 (l.same s1) (hE.same (cut_same s1)) Q fun H2 s2 => q H2 (s1.trans s2)
  | true => exact iteT (q H1 s1)
theorem ev_if (h : EvT K t ρ b) (h1 : b = true → EvD K ta ρ d) (h2 : b = false → EvD K tb ρ d) : EvD K (tIf t ta tb) ρ d := fun A σ H l hE Q q => h A σ H l hE _ fun H1 s1 => by
  cases b with
  | true => exact iteT (h1 rfl A σ H1 (l.same s1) (hE.same (cut_same s1)) Q fun v H2 s2 => q v H2 (s1.trans s2))
  | false => exact iteF (h2 rfl A σ H1 (l.same s1) (hE.same (cut_same s1)) Q fun v H2 s2 => q v H2 (s1.trans s2))
theorem ev_and {c : Bool} (h1 : EvD K ta ρ (.bool b)) (h2 : b = true → EvD K tb ρ (.bool c)) : EvD K (tAndV ta tb) ρ (.bool (b && c)) := fun A σ H l hE Q q => h1 A σ H l hE _ fun v H1 s1 hv => by
  cases hv
  refine ⟨b, rfl, ?_⟩
  cases b with
  | true => exact iteT (h2 rfl A σ H1 (l.same s1) (hE.same (cut_same s1)) Q fun v H2 s2 => q v H2 (s1.trans s2))
  | false => exact iteF (q _ H1 s1 (.bl _))
theorem ev_or {c : Bool} (h1 : EvD K ta ρ (.bool b)) (h2 : b = false → EvD K tb ρ (.bool c)) : EvD K (tOrV ta tb) ρ (.bool (b || c)) := fun A σ H l hE Q q => h1 A σ H l hE _ fun v H1 s1 hv => by
  cases hv
  refine ⟨b, rfl, ?_⟩
  cases b with
  | true => exact iteT (q _ H1 s1 (.bl _))
  | false => exact iteF (h2 rfl A σ H1 (l.same s1) (hE.same (cut_same s1)) Q fun v H2 s2 => q v H2 (s1.trans s2))
theorem ev_not (h1 : EvD K ta ρ (.bool b)) : EvD K (tNotV ta) ρ (.bool (!b)) := fun A σ H l hE Q q => h1 A σ H l hE _ fun v H1 s1 hv => by
  cases hv
  exact ⟨b, rfl, q _ H1 s1 (.bl _)⟩
theorem ev_chain {r r' : R2} {c : Bool} (ha : EvD K ta ρ d) (hb : EvD K tb ρ e) (hr : OpD K r d e (.bool b)) (hc : b = true → EvD K tc ρ f) (hr' : b = true → OpD K r' e f (.bool c)) :
    EvD K (tChain r r' ta tb tc) ρ (.bool (b && c)) := fun A σ H l hE Q q =>
  ha A σ H l hE _ fun x H1 s1 hx => hb A σ H1 (l.same s1) (hE.same (cut_same s1)) _ fun y H2 s2 hy =>
    hr A x y H2 ((l.same s1).same s2) (dp_same (cut_same s2) hx) hy _ fun v H3 s3 hv => by
      cases hv
      refine ⟨b, rfl, ?_⟩
      have s13 := (s1.trans s2).trans s3
      cases b with
      | true =>
        refine iteT (hc rfl A σ H3 (l.same s13) (hE.same (cut_same s13)) _ fun z H4 s4 hz => ?_)
        exact hr' rfl A y z H4 ((l.same s13).same s4) (dp_same (cut_same (s3.trans s4)) hy) hz Q fun w H5 s5 hw => q w H5 ((s13.trans s4).trans s5) hw
      | false => exact iteF (q _ H3 s13 (.bl _))
end
end Lc

set_option Elab.async false
set_option linter.all false
set_option maxRecDepth 100000
set_option maxHeartbeats 4000000
namespace Lc
open PySem L2

/-! ### what is kept outside of A -/
def Keep (A : List Addr) (H H' : Hp) : Prop := ∀ a o, a ∉ A → H a = some o → H' a = some o
theorem Keep.refl {A : List Addr} {H : Hp} : Keep A H H := fun _ _ _ h => h
theorem Keep.of {A : List Addr} {H H' : Hp} (s : Same H H') : Keep A H H' := fun a o _ h => s a o h
theorem Keep.trans {A : List Addr} {H H1 H2 : Hp} (a : Keep A H H1) (b : Keep A H1 H2) : Keep A H H2 := fun x o hx h => b x o hx (a x o hx h)
theorem Keep.cut {A : List Addr} {H H' : Hp} (g : Keep A H H') : Same (cut A H) (cut A H') := fun a o e => by
  obtain ⟨h1, h2⟩ := cut_some e
  rw [cut_out h1]; exact g a o h1 h2
theorem Keep.mono {A B : List Addr} {H H' : Hp} (g : Keep A H H') (h : ∀ a ∈ A, a ∈ B) : Keep B H H' := fun a o ha e => g a o (fun z => ha (h a z)) e
/-- B does not touch what A's side sees in H -/
def Off (A : List Addr) (H : Hp) (B : List Addr) : Prop := ∀ a o, cut A H a = some o → a ∉ B
theorem Off.refl {A : List Addr} {H : Hp} : Off A H A := fun a o e => (cut_some e).1
theorem Off.cut {A B : List Addr} {H H' : Hp} (o : Off A H B) (k : Keep A H H') : Same (cut A H) (cut B H') := fun a u e => by
  rw [cut_out (o a u e)]
  exact k a u (cut_some e).1 (cut_some e).2
theorem off_new {A : List Addr} {H : Hp} {D : Addr} (h : H D = none) : Off A H (D :: A) := fun a o e hm => by
  obtain ⟨h1, h2⟩ := cut_some e
  rcases List.mem_cons.mp hm with z | z
  · rw [z, h] at h2; cases h2
  · exact h1 z

/-! ### what is walked -/
structure ItOk (K : PySem.W.Frag) (A : List Addr) (J : It) (ds : List PyData) (H1 : Hp) : Prop where
  goes : ∀ i H, i < ds.length → Keep A H1 H → J.go i H
  stops : ∀ H, Keep A H1 H → J.stop ds.length H
  yields : ∀ i H x H' B, i < ds.length → Keep A H1 H → Live B H → Off A H1 B → J.yld i H x H' → Same H H' ∧ ∃ d, ds[i]? = some d ∧ Dq K (cut B H') x d
def ItD (K : PySem.W.Frag) (wi : TI) (ρ : Rho) (ds : List PyData) : Prop :=
  ∀ A σ H, Live A H → EnvD K (cut A H) σ ρ → ∀ R : It → Hp → Prop, (∀ J H1, Same H H1 → ItOk K A J ds H1 → R J H1) → wi σ H R
def rngD (lo : Int) (n : Nat) : List PyData := (List.range n).map fun (i : Nat) => PyData.int (lo + (i : Int))
theorem rngD_len {lo : Int} {n : Nat} : (rngD lo n).length = n := by simp [rngD]
theorem rngD_at {lo : Int} {n i : Nat} (h : i < n) : (rngD lo n)[i]? = some (.int (lo + (i : Int))) := by simp [rngD, h]
def zipD (xs ys : List PyData) : List PyData := (xs.zip ys).map fun p => .tuple [p.1, p.2]
theorem zipD_at {xs ys : List PyData} {i : Nat} {d e : PyData} (h1 : xs[i]? = some d) (h2 : ys[i]? = some e) : (zipD xs ys)[i]? = some (.tuple [d, e]) := by
  unfold zipD
  rw [List.getElem?_map, List.getElem?_zip_eq_some.mpr (show xs[i]? = some (d, e).1 ∧ ys[i]? = some (d, e).2 from ⟨h1, h2⟩)] <;> rfl
def enumD (xs : List PyData) : List PyData := zipD (rngD 0 xs.length) xs
section
variable {K : PySem.W.Frag} {A : List Addr} {ρ : Rho} {ta tb tc te : TE} {t u : TT} {d e f : PyData} {b : Bool}
theorem itok_list {a : Addr} {xs : List V} {ds : List PyData} {H1 : Hp} (h1 : cut A H1 a = some (.lst xs)) (h2 : DqAll K (cut A H1) xs ds) : ItOk K A (Itl K a) ds H1 where
  goes := fun i H hi k => walk_list.goes i H (by rw [h2.length]; exact hi) (sql_same (k.cut.trans same_cut) (SqL.of h1))
  stops := fun H k => by rw [← h2.length]; exact walk_list.stops H (sql_same (k.cut.trans same_cut) (SqL.of h1))
  yields := fun i H x H' B hi k l o y => by
    obtain ⟨e, h⟩ := walk_list.yields i H x H' (by rw [h2.length]; exact hi) (sql_same (k.cut.trans same_cut) (SqL.of h1)) y
    subst e
    obtain ⟨d, q1, q2⟩ := h2.getV h
    exact ⟨Same.refl _, d, q1, dp_same (o.cut k) q2⟩
theorem itok_tup {a : Addr} {xs : List V} {ds : List PyData} {H1 : Hp} (h1 : cut A H1 a = some (.tup xs)) (h2 : DqAll K (cut A H1) xs ds) : ItOk K A (Itt K a) ds H1 where
  goes := fun i H hi k => walk_tup.goes i H (by rw [h2.length]; exact hi) (sqt_same (k.cut.trans same_cut) (SqT.of h1))
  stops := fun H k => by rw [← h2.length]; exact walk_tup.stops H (sqt_same (k.cut.trans same_cut) (SqT.of h1))
  yields := fun i H x H' B hi k l o y => by
    obtain ⟨e, h⟩ := walk_tup.yields i H x H' (by rw [h2.length]; exact hi) (sqt_same (k.cut.trans same_cut) (SqT.of h1)) y
    subst e
    obtain ⟨d, q1, q2⟩ := h2.getV h
    exact ⟨Same.refl _, d, q1, dp_same (o.cut k) q2⟩
theorem itok_rng {lo : Int} {n : Nat} {H1 : Hp} : ItOk K A (Itr lo n) (rngD lo n) H1 where
  goes := fun i H hi _ => walk_range.goes i H (by rw [rngD_len] at hi; exact hi) trivial
  stops := fun H _ => by rw [rngD_len]; exact walk_range.stops H trivial
  yields := fun i H x H' B hi _ l _ y => by
    have h : i < n := by rw [rngD_len] at hi; exact hi
    obtain ⟨e, h2⟩ := walk_range.yields i H x H' h trivial y
    subst e
    refine ⟨Same.refl _, .int (lo + (i : Int)), rngD_at h, ?_⟩
    rw [h2]; exact .int _
/-- a new pair each -/
theorem itok_pair {J : It} {n : Nat} {G : Hp → Prop} {fx fy : Nat → Option V} {ds : List PyData} {H1 : Hp} (w : Walk J n G (YPair fx fy)) (hn : n = ds.length) (hG : ∀ H, Keep A H1 H → G H)
    (hx : ∀ i x y, i < n → fx i = some x → fy i = some y → ∃ d e, ds[i]? = some (.tuple [d, e]) ∧ Dq K (cut A H1) x d ∧ Dq K (cut A H1) y e) : ItOk K A J ds H1 where
  goes := fun i H hi k => w.goes i H (by omega) (hG H k)
  stops := fun H k => by rw [← hn]; exact w.stops H (hG H k)
  yields := fun i H x H' B hi k l o y => by
    obtain ⟨T, p, q, rfl, hT, rfl, h1, h2⟩ := w.yields i H x H' (by omega) (hG H k) y
    obtain ⟨d, e, k1, k2, k3⟩ := hx i p q (by omega) h1 h2
    have s : Same (cut A H1) (cut B (upd H T (.tup [p, q]))) := (o.cut k).trans (cut_same (same_new hT))
    exact ⟨same_new hT, _, k1, .tup (cut_new l hT) (.cons (dp_same s k2) (.cons (dp_same s k3) .nil))⟩
/-- a list or a tuple walked -/
def iSeq (K : PySem.W.Frag) (te : TE) : TI := fun σ H R => iList K te σ H R ∨ iTup K te σ H R
theorem pi_seq {X : Cx} {tg l : Expr} {tl : TE} (hl : PE X l tl) : PI X tg l (iSeq X.K tl) := ⟨fun pins s σ H R I h => by
  rcases h with h | h
  · exact (pi_list hl).run pins s σ H R I h
  · exact (pi_tup hl).run pins s σ H R I h⟩
theorem it_seqL {ds : List PyData} (h : EvD K te ρ (.list ds)) : ItD K (iSeq K te) ρ ds := fun A σ H l hE R q => .inl (h A σ H l hE _ fun v H1 s1 hv => by
  cases hv with
  | lst h1 h2 => exact ⟨_, rfl, ⟨_, sql_same same_cut (SqL.of h1)⟩, q _ H1 s1 (itok_list h1 h2)⟩)
theorem it_seqT {ds : List PyData} (h : EvD K te ρ (.tuple ds)) : ItD K (iSeq K te) ρ ds := fun A σ H l hE R q => .inr (h A σ H l hE _ fun v H1 s1 hv => by
  cases hv with
  | tup h1 h2 => exact ⟨_, rfl, ⟨_, sqt_same same_cut (SqT.of h1)⟩, q _ H1 s1 (itok_tup h1 h2)⟩)
theorem it_rng1 {n : Int} (h : EvD K te ρ (.int n)) (hn : -(2 ^ 62) ≤ n ∧ n < 2 ^ 62) : ItD K (iRng1 (tCons te tNil)) ρ (rngD 0 n.toNat) := fun A σ H l hE R q =>
  ea_cons h ea_nil A σ H l hE _ fun vs H1 s1 hv => by
    cases hv with
    | cons h1 h2 =>
      cases h1; cases h2
      exact ⟨n, rfl, hn.1, hn.2, q _ H1 s1 itok_rng⟩
theorem it_rng2 {m n : Int} (h : EvD K ta ρ (.int m)) (h' : EvD K tb ρ (.int n)) (hm : -(2 ^ 62) ≤ m ∧ m < 2 ^ 62) (hn : -(2 ^ 62) ≤ n ∧ n < 2 ^ 62) : ItD K (iRng2 (tCons ta (tCons tb tNil))) ρ (rngD m (n - m).toNat) := fun A σ H l hE R q =>
  ea_cons h (ea_cons h' ea_nil) A σ H l hE _ fun vs H1 s1 hv => by
    cases hv with
    | cons h1 h2 =>
      cases h1
      cases h2 with
      | cons h3 h4 =>
        cases h3; cases h4
        exact ⟨m, n, rfl, ⟨hm.1, hm.2, hn.1, hn.2⟩, q _ H1 s1 itok_rng⟩
theorem it_zip {xs ys : List PyData} (h : EvD K ta ρ (.list xs)) (h' : EvD K tb ρ (.list ys)) : ItD K (iZip K (tCons ta (tCons tb tNil))) ρ (zipD xs ys) := fun A σ H l hE R q =>
  ea_cons h (ea_cons h' ea_nil) A σ H l hE _ fun vs H1 s1 hv => by
    cases hv with
    | cons h1 h2 =>
      cases h2 with
      | cons h3 h4 =>
        cases h4
        cases h1 with
        | lst a1 a2 =>
          cases h3 with
          | lst b1 b2 =>
            refine ⟨_, _, _, _, rfl, sql_same same_cut (SqL.of a1), sql_same same_cut (SqL.of b1), q _ H1 s1 (itok_pair (walk_zip rfl) (by rw [a2.length, b2.length]; simp [zipD])
              (fun H k => ⟨sql_same (k.cut.trans same_cut) (SqL.of a1), sql_same (k.cut.trans same_cut) (SqL.of b1)⟩) (fun i x y hi e1 e2 => ?_))⟩
            obtain ⟨d, k1, k2⟩ := a2.getV e1
            obtain ⟨e, k3, k4⟩ := b2.getV e2
            exact ⟨d, e, zipD_at k1 k3, k2, k4⟩
theorem it_enum {xs : List PyData} (h : EvD K ta ρ (.list xs)) : ItD K (iEnum K (tCons ta tNil)) ρ (enumD xs) := fun A σ H l hE R q =>
  ea_cons h ea_nil A σ H l hE _ fun vs H1 s1 hv => by
    cases hv with
    | cons h1 h4 =>
      cases h4
      cases h1 with
      | lst a1 a2 =>
        refine ⟨_, _, rfl, sql_same same_cut (SqL.of a1), q _ H1 s1 (itok_pair walk_enum (by rw [a2.length]; simp [enumD, zipD, rngD])
          (fun H k => sql_same (k.cut.trans same_cut) (SqL.of a1)) (fun i x y hi e1 e2 => ?_))⟩
        obtain ⟨d, k1, k2⟩ := a2.getV e2
        cases e1
        refine ⟨.int ((i : Nat) : Int), d, ?_, .int _, k2⟩
        have h0 : i < xs.length := by rw [← a2.length]; exact hi
        have h1 : (rngD 0 xs.length)[i]? = some (.int ((i : Nat) : Int)) := by rw [rngD_at h0, Int.zero_add]
        exact zipD_at h1 k1

/-! ### targets -/
def TgD (K : PySem.W.Frag) (g : TG) (d : PyData) (ρ ρ' : Rho) (vs : List Nat) : Prop :=
  ∀ A σ H v, Live A H → EnvD K (cut A H) σ ρ → Dq K (cut A H) v d → ∀ Q : St → Hp → Prop, (∀ σ', EnvD K (cut A H) σ' ρ' → (∀ ws : List Nat, (∀ i ∈ vs, i ∈ ws) → wipe σ' ws = wipe σ ws) → Q σ' H) → g v σ H Q
theorem tg_name {i : Nat} : TgD K (gName i) d ρ (ρ.set i (some d)) [i] := fun A σ H v l hE hv Q q =>
  q _ (hE.set hv i) fun ws hw => wipe_set σ _ ws i (hw i (by simp))
def TgsD (K : PySem.W.Frag) (g : TGs) (ds : List PyData) (ρ ρ' : Rho) (vs : List Nat) : Prop :=
  ∀ A σ H us, Live A H → EnvD K (cut A H) σ ρ → DqAll K (cut A H) us ds → ∀ Q : St → Hp → Prop, (∀ σ', EnvD K (cut A H) σ' ρ' → (∀ ws : List Nat, (∀ i ∈ vs, i ∈ ws) → wipe σ' ws = wipe σ ws) → Q σ' H) → g us σ H Q
theorem tgs_nil : TgsD K gNil [] ρ ρ [] := fun A σ H us l hE hv Q q => by
  cases hv; exact ⟨rfl, q σ hE fun _ _ => rfl⟩
theorem tgs_cons {g : TG} {gs : TGs} {ds : List PyData} {ρ1 ρ2 : Rho} {vs ws : List Nat} (h1 : TgD K g d ρ ρ1 vs) (h2 : TgsD K gs ds ρ1 ρ2 ws) : TgsD K (gCons g gs) (d :: ds) ρ ρ2 (vs ++ ws) := fun A σ H us l hE hv Q q => by
  cases hv with
  | cons k1 k2 =>
    exact ⟨_, _, rfl, h1 A σ H _ l hE k1 _ fun σ1 hE1 w1 => h2 A σ1 H _ l hE1 k2 Q fun σ2 hE2 w2 => q σ2 hE2 fun zs hz =>
      (w2 zs fun i hi => hz i (List.mem_append_right _ hi)).trans (w1 zs fun i hi => hz i (List.mem_append_left _ hi))⟩
theorem tg_tup {n : Nat} {gs : TGs} {ds : List PyData} {ρ' : Rho} {vs : List Nat} (h : TgsD K gs ds ρ ρ' vs) (hn : ds.length = n) : TgD K (gTup K n gs) (.tuple ds) ρ ρ' vs := fun A σ H v l hE hv Q q => by
  cases hv with
  | tup k1 k2 => exact ⟨_, _, rfl, sqt_same same_cut (SqT.of k1), by rw [k2.length]; exact hn, h A σ H _ l hE k2 Q q⟩
theorem tg_two {i j : Nat} {e : PyData} : TgD K (gTup K 2 (gCons (gName i) (gCons (gName j) gNil))) (.tuple [d, e]) ρ ((ρ.set i (some d)).set j (some e)) [i, j] :=
  tg_tup (tgs_cons tg_name (tgs_cons tg_name tgs_nil)) rfl

/-! ### comprehensions -/
/-- one turn's store in the list that grows -/
theorem ev_lcF {α : Type} {wi : TI} {g : TG} {tt : TT} {vs ws : List Nat} (xs : List α) (enc : α → PyData) (p : α → Bool) (out : α → PyData) (r2 : α → Rho) (hi : ItD K wi ρ (xs.map enc)) (hz : xs.length ≤ 100000) (hw : ∀ i ∈ ws, i ∈ vs)
    (hg : ∀ x ∈ xs, TgD K g (enc x) (wipeD ρ vs) (r2 x) ws) (ht : ∀ x ∈ xs, EvT K tt (r2 x) (p x)) (he : ∀ x ∈ xs, p x = true → EvD K te (r2 x) (out x)) :
    EvD K (tLc wi g tt te vs) ρ (.list ((xs.filter p).map out)) := fun A σ H l hE Q q => hi A σ H l hE _ fun J H1 s1 hJ => fun D hD => by
  have l1 := l.same s1
  have hDA : D ∉ A := l1.fresh hD
  have E1 : EnvD K (cut A H1) (wipe σ vs) (wipeD ρ vs) := (hE.same (cut_same s1)).wipe vs
  have oD : Off A H1 (D :: A) := off_new hD
  refine ⟨fun i m H' => m = xs.length - i ∧ i ≤ xs.length ∧ Keep [D] H1 H' ∧ ∃ us, H' D = some (.lst us) ∧ DqAll K (cut (D :: A) H') us ((((xs.take i).filter p).map out)), ⟨xs.length, ?_⟩, ?_⟩
  · refine ⟨by simp, Nat.zero_le _, fun a o ha h => by rw [upd_ne (by simpa using ha)]; exact h, [], upd_same, ?_⟩
    simp; exact .nil
  · rintro i m H' ⟨rfl, hle, hk, us, hus, hdp⟩
    have kA : Keep A H1 H' := fun a o ha h => hk a o (fun z => by rw [List.mem_singleton.mp z, hD] at h; cases h) h
    have lv : Live (D :: A) H' := fun a ha e => by
      rcases List.mem_cons.mp ha with z | z
      · rw [z, hus] at e; cases e
      · cases q1 : H1 a with
        | none => exact l1 a z q1
        | some o => rw [hk a o (fun w => hDA (List.mem_singleton.mp w ▸ z)) q1] at e; cases e
    by_cases hlt : i < xs.length
    · refine .inr ⟨hJ.goes i H' (by simpa using hlt) kA, fun H2 => Keep [D] H1 H2 ∧ ∃ us, H2 D = some (.lst us) ∧ DqAll K (cut (D :: A) H2) us ((((xs.take (i + 1)).filter p).map out)), fun H2 h2 => ⟨xs.length - (i + 1), by omega, rfl, hlt, h2⟩, fun x H2 hy => ?_⟩
      obtain ⟨s2, d, hd, hx⟩ := hJ.yields i H' x H2 (D :: A) (by simpa using hlt) kA lv oD hy
      have hdi : d = enc xs[i] := by
        rw [List.getElem?_map, List.getElem?_eq_getElem hlt] at hd
        exact (Option.some.inj hd).symm
      subst hdi
      have hm : xs[i] ∈ xs := List.getElem_mem hlt
      have lv2 := lv.same s2
      refine hg _ hm (D :: A) (wipe σ vs) H2 x lv2 (E1.same (oD.cut (kA.trans (Keep.of s2)))) hx _ fun σ2 hE2 w2 => ⟨?_, ?_⟩
      · rw [w2 vs hw, wipe_wipe]
      · refine ht _ hm (D :: A) σ2 H2 lv2 hE2 _ fun H3 s3 => ?_
        have tk : (xs.take (i + 1)) = xs.take i ++ [xs[i]] := by rw [List.take_add_one, List.getElem?_eq_getElem hlt] <;> rfl
        have s23 := s2.trans s3
        cases hp : p xs[i] with
        | false =>
          refine iteF ⟨hk.trans (Keep.of s23), us, s23 D _ hus, ?_⟩
          have e : (((xs.take (i + 1)).filter p).map out) = ((xs.take i).filter p).map out := by
            rw [tk, List.filter_append, List.filter_cons_of_neg (by rw [hp]; decide)]; simp
          rw [e]
          exact dpall_same (cut_same s23) hdp
        | true =>
          refine iteT (he _ hm hp (D :: A) σ2 H3 (lv2.same s3) (hE2.same (cut_same s3)) _ fun y H4 s4 hy4 => ?_)
          have s24 := s23.trans s4
          have kp : Keep (D :: A) H4 (upd H4 D (.lst (us ++ [y]))) := fun a o ha h => by
            rw [upd_ne (fun z => ha (by simp [z]))]; exact h
          refine ⟨us, s24 D _ hus, ?_, fun a o ha h => by rw [upd_ne (by simpa using ha)]; exact s24 a o (hk a o ha h), us ++ [y], upd_same, ?_⟩
          · have := hdp.length
            rw [List.length_map] at this
            have h2 := List.length_filter_le p (xs.take i)
            rw [List.length_take] at h2
            have : us.length < 100000 := by omega
            exact Nat.lt_of_lt_of_le this (by decide)
          · have e : (((xs.take (i + 1)).filter p).map out) = ((xs.take i).filter p).map out ++ [out xs[i]] := by
              rw [tk, List.filter_append, List.filter_cons_of_pos hp]; simp
            rw [e]
            exact (dpall_same ((cut_same s24).trans kp.cut) hdp).append (.cons (dp_same kp.cut hy4) .nil)
    · have e : i = xs.length := by omega
      subst e
      refine .inl ⟨by have := hJ.stops H' kA; simpa using this, q _ H' ?_ ?_⟩
      · exact fun a o h => hk a o (fun z => by rw [List.mem_singleton.mp z] at h; rw [s1 _ _ h] at hD; cases hD) (s1 a o h)
      · refine .lst (by rw [cut_out hDA]; exact hus) ?_
        rw [List.take_length] at hdp
        refine dpall_same (fun a o e => ?_) hdp
        obtain ⟨h1, h2⟩ := cut_some e
        rw [cut_out (fun z => h1 (List.mem_cons_of_mem _ z))]; exact h2
theorem et_yes : EvT K tYes ρ true := fun A σ H l hE Q q => q H (Same.refl H)
theorem ev_lc {α : Type} {wi : TI} {g : TG} {vs ws : List Nat} (xs : List α) (enc : α → PyData) (out : α → PyData) (r2 : α → Rho) (hi : ItD K wi ρ (xs.map enc)) (hz : xs.length ≤ 100000) (hw : ∀ i ∈ ws, i ∈ vs)
    (hg : ∀ x ∈ xs, TgD K g (enc x) (wipeD ρ vs) (r2 x) ws) (he : ∀ x ∈ xs, EvD K te (r2 x) (out x)) :
    EvD K (tLc wi g tYes te vs) ρ (.list (xs.map out)) := by
  have h := ev_lcF (tt := tYes) xs enc (fun _ => true) out r2 hi hz hw hg (fun _ _ => et_yes) (fun x hx _ => he x hx)
  have e : xs.filter (fun _ => true) = xs := by simp
  rw [e] at h
  exact h
/-- the target a name -/
theorem ev_lcN {α : Type} {wi : TI} {j : Nat} {vs : List Nat} (xs : List α) (enc : α → PyData) (out : α → PyData) (hi : ItD K wi ρ (xs.map enc)) (hz : xs.length ≤ 100000) (hw : j ∈ vs)
    (he : ∀ x ∈ xs, EvD K te ((wipeD ρ vs).set j (some (enc x))) (out x)) :
    EvD K (tLc wi (gName j) tYes te vs) ρ (.list (xs.map out)) :=
  ev_lc (ws := [j]) xs enc out (fun x => (wipeD ρ vs).set j (some (enc x))) hi hz (fun i h => by rw [List.mem_singleton.mp h]; exact hw) (fun x _ => tg_name) he
theorem ev_lcNF {α : Type} {wi : TI} {j : Nat} {tt : TT} {vs : List Nat} (xs : List α) (enc : α → PyData) (p : α → Bool) (out : α → PyData) (hi : ItD K wi ρ (xs.map enc)) (hz : xs.length ≤ 100000) (hw : j ∈ vs)
    (ht : ∀ x ∈ xs, EvT K tt ((wipeD ρ vs).set j (some (enc x))) (p x)) (he : ∀ x ∈ xs, p x = true → EvD K te ((wipeD ρ vs).set j (some (enc x))) (out x)) :
    EvD K (tLc wi (gName j) tt te vs) ρ (.list ((xs.filter p).map out)) :=
  ev_lcF (ws := [j]) xs enc p out (fun x => (wipeD ρ vs).set j (some (enc x))) hi hz (fun i h => by rw [List.mem_singleton.mp h]; exact hw) (fun x _ => tg_name) ht he
end
end Lc

set_option Elab.async false
set_option linter.all false
set_option maxRecDepth 100000
set_option maxHeartbeats 4000000
namespace Lc
open PySem L2
section
variable {K : PySem.W.Frag} {A : List Addr} {ρ : Rho} {ta tb tc te : TE} {t u : TT} {d e f : PyData} {b : Bool}
/-! ### two clauses -/
theorem ev_lc2 {α β : Type} {wi wi1 : TI} {g g1 : TG} {tt tt1 : TT} {vs vs1 ws ws1 : List Nat} (xs : List α) (enc : α → PyData) (r2 : α → Rho) (ys : α → List β) (enc1 : α → β → PyData) (r3 : α → β → Rho) (p1 : α → β → Bool) (out : α → β → PyData)
    (hi : ItD K wi ρ (xs.map enc)) (hz : (xs.flatMap ys).length < 100000) (hw : ∀ i ∈ ws, i ∈ vs) (hw1 : ∀ i ∈ ws1, i ∈ vs1)
    (hg : ∀ x ∈ xs, TgD K g (enc x) (wipeD ρ vs) (r2 x) ws) (ht : ∀ x ∈ xs, EvT K tt (r2 x) true) (hi1 : ∀ x ∈ xs, ItD K wi1 (r2 x) ((ys x).map (enc1 x)))
    (hg1 : ∀ x ∈ xs, ∀ y ∈ ys x, TgD K g1 (enc1 x y) (wipeD (r2 x) vs1) (r3 x y) ws1) (ht1 : ∀ x ∈ xs, ∀ y ∈ ys x, EvT K tt1 (r3 x y) (p1 x y)) (he : ∀ x ∈ xs, ∀ y ∈ ys x, p1 x y = true → EvD K te (r3 x y) (out x y)) :
    EvD K (tLc2 wi g tt wi1 g1 tt1 te vs vs1) ρ (.list (xs.flatMap fun x => ((ys x).filter (p1 x)).map (out x))) := fun A σ H l hE Q q => hi A σ H l hE _ fun J H1 s1 hJ => fun D hD => by
  have l1 := l.same s1
  have hDA : D ∉ A := l1.fresh hD
  have E1 : EnvD K (cut A H1) (wipe σ vs) (wipeD ρ vs) := (hE.same (cut_same s1)).wipe vs
  have oD : Off A H1 (D :: A) := off_new hD
  let res : List α → List PyData := fun zs => zs.flatMap fun x => ((ys x).filter (p1 x)).map (out x)
  let res1 : α → Nat → List PyData := fun x j => (((ys x).take j).filter (p1 x)).map (out x)
  have szs : ∀ i (hlt : i < xs.length) (j : Nat), (res (xs.take i)).length + (res1 xs[i] j).length < 100000 ∨ (ys xs[i]).length ≤ j ∨ (res (xs.take i)).length + (res1 xs[i] j).length < 100000 := by
    intro i hlt j
    refine .inl ?_
    have h1 : (res (xs.take i)).length + (res1 xs[i] j).length ≤ (xs.flatMap ys).length := by
      have a1 : ∀ zs : List α, (res zs).length ≤ (zs.flatMap ys).length := by
        intro zs
        induction zs with
        | nil => simp [res]
        | cons z zs ih =>
          have e1 : res (z :: zs) = ((ys z).filter (p1 z)).map (out z) ++ res zs := by simp [res]
          rw [e1, List.flatMap_cons, List.length_append, List.length_append, List.length_map]
          have := List.length_filter_le (p1 z) (ys z)
          omega
      have a2 : (res1 xs[i] j).length ≤ (ys xs[i]).length := by
        show ((((ys xs[i]).take j).filter (p1 xs[i])).map (out xs[i])).length ≤ _
        rw [List.length_map]
        have := List.length_filter_le (p1 xs[i]) ((ys xs[i]).take j)
        rw [List.length_take] at this
        omega
      have a3 : xs = xs.take i ++ xs[i] :: xs.drop (i + 1) := by simp
      have a4 : (xs.flatMap ys).length = ((xs.take i).flatMap ys).length + ((ys xs[i]).length + ((xs.drop (i + 1)).flatMap ys).length) := by
        conv => lhs; rw [a3]
        rw [List.flatMap_append, List.flatMap_cons, List.length_append, List.length_append]
      have := a1 (xs.take i)
      omega
    omega
  refine ⟨fun i m H' => m = xs.length - i ∧ i ≤ xs.length ∧ Keep [D] H1 H' ∧ ∃ us, H' D = some (.lst us) ∧ DqAll K (cut (D :: A) H') us (res (xs.take i)), ⟨xs.length, ?_⟩, ?_⟩
  · refine ⟨by simp, Nat.zero_le _, fun a o ha h => by rw [upd_ne (by simpa using ha)]; exact h, [], upd_same, ?_⟩
    simp [res]; exact .nil
  · rintro i m H' ⟨rfl, hle, hk, us, hus, hdp⟩
    have live_of : ∀ H' us, Keep [D] H1 H' → H' D = some (.lst us) → Live (D :: A) H' := fun H' us hk hus a ha e => by
      rcases List.mem_cons.mp ha with z | z
      · rw [z, hus] at e; cases e
      · cases q1 : H1 a with
        | none => exact l1 a z q1
        | some o => rw [hk a o (fun w => hDA (List.mem_singleton.mp w ▸ z)) q1] at e; cases e
    have kA : ∀ H', Keep [D] H1 H' → Keep A H1 H' := fun H' hk a o ha h => hk a o (fun z => by rw [List.mem_singleton.mp z, hD] at h; cases h) h
    have lv := live_of H' us hk hus
    by_cases hlt : i < xs.length
    · refine .inr ⟨hJ.goes i H' (by simpa using hlt) (kA _ hk), fun H2 => Keep [D] H1 H2 ∧ ∃ us, H2 D = some (.lst us) ∧ DqAll K (cut (D :: A) H2) us (res (xs.take (i + 1))), fun H2 h2 => ⟨xs.length - (i + 1), by omega, rfl, hlt, h2⟩, fun x H2 hy => ?_⟩
      obtain ⟨s2, d, hd, hx⟩ := hJ.yields i H' x H2 (D :: A) (by simpa using hlt) (kA _ hk) lv oD hy
      have hdi : d = enc xs[i] := by
        rw [List.getElem?_map, List.getElem?_eq_getElem hlt] at hd
        exact (Option.some.inj hd).symm
      subst hdi
      have hm : xs[i] ∈ xs := List.getElem_mem hlt
      have lv2 := lv.same s2
      have tk : (xs.take (i + 1)) = xs.take i ++ [xs[i]] := by rw [List.take_add_one, List.getElem?_eq_getElem hlt] <;> rfl
      refine hg _ hm (D :: A) (wipe σ vs) H2 x lv2 (E1.same (oD.cut ((kA _ hk).trans (Keep.of s2)))) hx _ fun σ2 hE2 w2 => ⟨?_, ?_⟩
      · rw [w2 vs hw, wipe_wipe]
      · refine ht _ hm (D :: A) σ2 H2 lv2 hE2 _ fun H3 s3 => iteT ?_
        have s23 := s2.trans s3
        refine hi1 _ hm (D :: A) σ2 H3 (lv2.same s3) (hE2.same (cut_same s3)) _ fun J1 H4 s4 hJ1 => ?_
        have s24 := s23.trans s4
        have E4 : EnvD K (cut (D :: A) H4) (wipe σ2 vs1) (wipeD (r2 xs[i]) vs1) := (hE2.same ((cut_same s3).trans (cut_same s4))).wipe vs1
        refine ⟨fun j m H' => m = (ys xs[i]).length - j ∧ j ≤ (ys xs[i]).length ∧ Keep [D] H4 H' ∧ ∃ us, H' D = some (.lst us) ∧ DqAll K (cut (D :: A) H') us (res (xs.take i) ++ res1 xs[i] j), ⟨(ys xs[i]).length, ?_⟩, ?_⟩
        · refine ⟨by simp, Nat.zero_le _, Keep.refl, us, s24 D _ hus, ?_⟩
          have e0 : res1 xs[i] 0 = [] := by simp [res1]
          rw [e0, List.append_nil]
          exact dpall_same (cut_same s24) hdp
        · rintro j m H5 ⟨rfl, hjle, hk5, us5, hus5, hdp5⟩
          have hk15 : Keep [D] H1 H5 := (hk.trans (Keep.of s24)).trans hk5
          have lv5 := live_of H5 us5 hk15 hus5
          have k45 : Keep (D :: A) H4 H5 := hk5.mono (by simp)
          have oo : Off (D :: A) H4 (D :: A) := Off.refl
          by_cases hjlt : j < (ys xs[i]).length
          · refine .inr ⟨hJ1.goes j H5 (by simpa using hjlt) k45, fun H6 => Keep [D] H4 H6 ∧ ∃ us, H6 D = some (.lst us) ∧ DqAll K (cut (D :: A) H6) us (res (xs.take i) ++ res1 xs[i] (j + 1)), fun H6 h6 => ⟨(ys xs[i]).length - (j + 1), by omega, rfl, hjlt, h6⟩, fun x6 H6 hy6 => ?_⟩
            obtain ⟨s6, d6, hd6, hx6⟩ := hJ1.yields j H5 x6 H6 (D :: A) (by simpa using hjlt) k45 lv5 oo hy6
            have hdi6 : d6 = enc1 xs[i] (ys xs[i])[j] := by
              rw [List.getElem?_map, List.getElem?_eq_getElem hjlt] at hd6
              exact (Option.some.inj hd6).symm
            subst hdi6
            have hm6 : (ys xs[i])[j] ∈ ys xs[i] := List.getElem_mem hjlt
            have lv6 := lv5.same s6
            refine hg1 _ hm _ hm6 (D :: A) (wipe σ2 vs1) H6 x6 lv6 (E4.same ((k45.cut).trans (cut_same s6))) hx6 _ fun σ7 hE7 w7 => ⟨?_, ?_⟩
            · rw [w7 vs1 hw1, wipe_wipe]
            · refine ht1 _ hm _ hm6 (D :: A) σ7 H6 lv6 hE7 _ fun H8 s8 => ?_
              have tk1 : ((ys xs[i]).take (j + 1)) = (ys xs[i]).take j ++ [(ys xs[i])[j]] := by rw [List.take_add_one, List.getElem?_eq_getElem hjlt] <;> rfl
              have s68 := s6.trans s8
              cases hp : p1 xs[i] (ys xs[i])[j] with
              | false =>
                refine iteF ⟨hk5.trans (Keep.of s68), us5, s68 D _ hus5, ?_⟩
                have e : res1 xs[i] (j + 1) = res1 xs[i] j := by
                  show ((((ys xs[i]).take (j + 1)).filter (p1 xs[i])).map (out xs[i])) = _
                  rw [tk1, List.filter_append, List.filter_cons_of_neg (by rw [hp]; decide)]; simp [res1]
                rw [e]
                exact dpall_same (cut_same s68) hdp5
              | true =>
                refine iteT (he _ hm _ hm6 hp (D :: A) σ7 H8 (lv6.same s8) (hE7.same (cut_same s8)) _ fun y H9 s9 hy9 => ?_)
                have s69 := s68.trans s9
                have kp : Keep (D :: A) H9 (upd H9 D (.lst (us5 ++ [y]))) := fun a o ha h => by
                  rw [upd_ne (fun z => ha (by simp [z]))]; exact h
                refine ⟨us5, s69 D _ hus5, ?_, fun a o ha h => by rw [upd_ne (by simpa using ha)]; exact s69 a o (hk5 a o ha h), us5 ++ [y], upd_same, ?_⟩
                · have hl := hdp5.length
                  rw [List.length_append] at hl
                  have := szs i hlt j
                  have : us5.length < 100000 := by omega
                  exact Nat.lt_of_lt_of_le this (by decide)
                · have e : res1 xs[i] (j + 1) = res1 xs[i] j ++ [out xs[i] (ys xs[i])[j]] := by
                    show ((((ys xs[i]).take (j + 1)).filter (p1 xs[i])).map (out xs[i])) = _
                    rw [tk1, List.filter_append, List.filter_cons_of_pos hp]; simp [res1]
                  rw [e, ← List.append_assoc]
                  exact (dpall_same ((cut_same s69).trans kp.cut) hdp5).append (.cons (dp_same kp.cut hy9) .nil)
          · have e : j = (ys xs[i]).length := by omega
            subst e
            refine .inl ⟨by have := hJ1.stops H5 k45; simpa using this, hk15, us5, hus5, ?_⟩
            have e : res (xs.take (i + 1)) = res (xs.take i) ++ res1 xs[i] (ys xs[i]).length := by
              rw [tk]
              show List.flatMap _ _ = _
              rw [List.flatMap_append]
              simp [res, res1]
            rw [e]
            exact hdp5
    · have e : i = xs.length := by omega
      subst e
      refine .inl ⟨by have := hJ.stops H' (kA _ hk); simpa using this, q _ H' ?_ ?_⟩
      · exact fun a o h => hk a o (fun z => by rw [List.mem_singleton.mp z] at h; rw [s1 _ _ h] at hD; cases hD) (s1 a o h)
      · refine .lst (by rw [cut_out hDA]; exact hus) ?_
        rw [List.take_length] at hdp
        refine dpall_same (fun a o e => ?_) hdp
        obtain ⟨h1, h2⟩ := cut_some e
        rw [cut_out (fun z => h1 (List.mem_cons_of_mem _ z))]; exact h2

/-! ### statements -/
inductive Out where
  | nx (ρ : Rho) | rt (d : PyData) | ex (C : Addr)
def Cont (K : PySem.W.Frag) (A : List Addr) (E : XK) (D : Ends) (H : Hp) : Out → Prop
  | .nx ρ => ∀ σ' H', Same H H' → EnvD K (cut A H') σ' ρ → D.nx σ' H'
  | .rt d => ∀ v H', Same H H' → Dq K (cut A H') v d → D.rt v H'
  | .ex C => ∀ H', Same H H' → E (.ref C) none H'
def ExS (K : PySem.W.Frag) (E : XK) (ts : TS) (ρ : Rho) (o : Out) : Prop :=
  ∀ A σ H D, Live A H → EnvD K (cut A H) σ ρ → Cont K A E D H o → ts D σ H
variable {E : XK} {ts tz tw : TS} {o : Out} {ρ1 ρ2 : Rho}
theorem Cont.same {D : Ends} {H H' : Hp} (s : Same H H') (c : Cont K A E D H o) : Cont K A E D H' o := by
  cases o with
  | nx ρ => exact fun σ' H2 s2 => c σ' H2 (s.trans s2)
  | rt d => exact fun v H2 s2 => c v H2 (s.trans s2)
  | ex C => exact fun H2 s2 => c H2 (s.trans s2)
theorem xs_seq (h1 : ExS K E ts ρ (.nx ρ1)) (h2 : ExS K E tz ρ1 o) : ExS K E (tSeq ts tz) ρ o := fun A σ H D l hE c =>
  h1 A σ H { D with nx := tz D } l hE fun σ' H' s hE' => h2 A σ' H' D (l.same s) hE' (c.same s)
theorem xs_seqR (h1 : ExS K E ts ρ (.rt d)) : ExS K E (tSeq ts tz) ρ (.rt d) := fun A σ H D l hE c =>
  h1 A σ H { D with nx := tz D } l hE fun v H' s hv => c v H' s hv
theorem xs_seqX {C : Addr} (h1 : ExS K E ts ρ (.ex C)) : ExS K E (tSeq ts tz) ρ (.ex C) := fun A σ H D l hE c =>
  h1 A σ H { D with nx := tz D } l hE fun H' s => c H' s
theorem xs_next : ExS K E tNext ρ (.nx ρ) := fun A σ H D l hE c => c σ H (Same.refl H) hE
theorem xs_ret (h : EvD K te ρ d) : ExS K E (tRet te) ρ (.rt d) := fun A σ H D l hE c => h A σ H l hE _ fun v H' s hv => c v H' s hv
theorem xs_drop (h : EvD K te ρ d) : ExS K E (tDrop te) ρ (.nx ρ) := fun A σ H D l hE c => h A σ H l hE _ fun v H' s hv => c σ H' s (hE.same (cut_same s))
theorem xs_asg {i : Nat} (h : EvD K te ρ d) : ExS K E (tAsg te (gName i)) ρ (.nx (ρ.set i (some d))) := fun A σ H D l hE c =>
  h A σ H l hE _ fun v H' s hv => c _ H' s ((hE.same (cut_same s)).set hv i)
theorem xs_asgT {g : TG} {vs : List Nat} (h : EvD K te ρ d) (hg : TgD K g d ρ ρ1 vs) : ExS K E (tAsg te g) ρ (.nx ρ1) := fun A σ H D l hE c =>
  h A σ H l hE _ fun v H' s hv => hg A σ H' v (l.same s) (hE.same (cut_same s)) hv _ fun σ' hE' _ => c σ' H' s hE'
theorem xs_par {i j : Nat} {ta : TA} (h : EvA K ta ρ [d, e]) : ExS K E (tPar i j ta) ρ (.nx ((ρ.set i (some d)).set j (some e))) := fun A σ H D l hE c =>
  h A σ H l hE _ fun vs H' s hv => by
    cases hv with
    | cons h1 h2 =>
      cases h2 with
      | cons h3 h4 =>
        cases h4
        exact ⟨_, _, rfl, c _ H' s (((hE.same (cut_same s)).set h1 i).set h3 j)⟩
theorem xs_if (h : EvT K t ρ b) (h1 : b = true → ExS K E ts ρ o) (h2 : b = false → ExS K E tz ρ o) : ExS K E (tIfS t ts tz) ρ o := fun A σ H D l hE c => h A σ H l hE _ fun H' s => by
  cases b with
  | true => exact iteT (h1 rfl A σ H' D (l.same s) (hE.same (cut_same s)) (c.same s))
  | false => exact iteF (h2 rfl A σ H' D (l.same s) (hE.same (cut_same s)) (c.same s))
theorem xs_raise {C : Addr} : ExS K E (fun _ _ H => E (.ref C) none H) ρ (.ex C) := fun A σ H D l hE c => c H (Same.refl H)
/-- a for that runs through -/
theorem xs_for {α : Type} {wi : TI} {g : TG} (xs : List α) (enc : α → PyData) (r : Nat → Rho) (r2 : Nat → Rho) {ws : List Nat} (hi : ItD K wi ρ (xs.map enc)) (h0 : r 0 = ρ)
    (hg : ∀ i (h : i < xs.length), TgD K g (enc xs[i]) (r i) (r2 i) ws) (hb : ∀ i, i < xs.length → ExS K E ts (r2 i) (.nx (r (i + 1)))) : ExS K E (tFor wi g ts) ρ (.nx (r xs.length)) := fun A σ H D l hE c => hi A σ H l hE _ fun J H1 s1 hJ => by
  refine ⟨fun i m σ' H' => m = xs.length - i ∧ i ≤ xs.length ∧ Same H1 H' ∧ EnvD K (cut A H') σ' (r i), ⟨xs.length, by simp, Nat.zero_le _, Same.refl _, by rw [h0]; exact hE.same (cut_same s1)⟩, ?_⟩
  rintro i m σ' H' ⟨rfl, hle, hk, hE'⟩
  have lv : Live A H' := (l.same s1).same hk
  by_cases hlt : i < xs.length
  · refine .inr ⟨hJ.goes i H' (by simpa using hlt) (Keep.of hk), fun σ2 H2 => Same H1 H2 ∧ EnvD K (cut A H2) σ2 (r (i + 1)), fun σ2 H2 h2 => ⟨xs.length - (i + 1), by omega, rfl, hlt, h2.1, h2.2⟩, fun x H2 hy => ?_⟩
    obtain ⟨s2, d, hd, hx⟩ := hJ.yields i H' x H2 A (by simpa using hlt) (Keep.of hk) lv Off.refl hy
    have hdi : d = enc xs[i] := by
      rw [List.getElem?_map, List.getElem?_eq_getElem hlt] at hd
      exact (Option.some.inj hd).symm
    subst hdi
    refine hg i hlt A σ' H2 x (lv.same s2) (hE'.same (cut_same s2)) hx _ fun σ2 hE2 _ => ?_
    exact hb i hlt A σ2 H2 _ (lv.same s2) hE2 fun σ3 H3 s3 hE3 => ⟨(hk.trans s2).trans s3, hE3⟩
  · have e : i = xs.length := by omega
    subst e
    exact .inl ⟨by have := hJ.stops H' (Keep.of hk); simpa using this, c σ' H' (s1.trans hk) hE'⟩
/-- a for that is left by a return in turn n -/
theorem xs_forR {α : Type} {wi : TI} {g : TG} (xs : List α) (enc : α → PyData) (r : Nat → Rho) (r2 : Nat → Rho) (n : Nat) {ws : List Nat} (hn : n < xs.length) (hi : ItD K wi ρ (xs.map enc)) (h0 : r 0 = ρ)
    (hg : ∀ i (h : i < xs.length), i ≤ n → TgD K g (enc xs[i]) (r i) (r2 i) ws) (hb : ∀ i, i < n → ExS K E ts (r2 i) (.nx (r (i + 1)))) (hr : ExS K E ts (r2 n) (.rt d)) : ExS K E (tFor wi g ts) ρ (.rt d) := fun A σ H D l hE c => hi A σ H l hE _ fun J H1 s1 hJ => by
  refine ⟨fun i m σ' H' => m = xs.length - i ∧ i ≤ n ∧ Same H1 H' ∧ EnvD K (cut A H') σ' (r i), ⟨xs.length, by simp, Nat.zero_le _, Same.refl _, by rw [h0]; exact hE.same (cut_same s1)⟩, ?_⟩
  rintro i m σ' H' ⟨rfl, hle, hk, hE'⟩
  have lv : Live A H' := (l.same s1).same hk
  have hlt : i < xs.length := by omega
  refine .inr ⟨hJ.goes i H' (by simpa using hlt) (Keep.of hk), fun σ2 H2 => i < n ∧ Same H1 H2 ∧ EnvD K (cut A H2) σ2 (r (i + 1)), fun σ2 H2 h2 => ⟨xs.length - (i + 1), by omega, rfl, by omega, h2.2.1, h2.2.2⟩, fun x H2 hy => ?_⟩
  obtain ⟨s2, d, hd, hx⟩ := hJ.yields i H' x H2 A (by simpa using hlt) (Keep.of hk) lv Off.refl hy
  have hdi : d = enc xs[i] := by
    rw [List.getElem?_map, List.getElem?_eq_getElem hlt] at hd
    exact (Option.some.inj hd).symm
  subst hdi
  refine hg i hlt hle A σ' H2 x (lv.same s2) (hE'.same (cut_same s2)) hx _ fun σ2 hE2 _ => ?_
  by_cases hin : i < n
  · exact hb i hin A σ2 H2 _ (lv.same s2) hE2 fun σ3 H3 s3 hE3 => ⟨hin, (hk.trans s2).trans s3, hE3⟩
  · have e : i = n := by omega
    subst e
    exact hr A σ2 H2 _ (lv.same s2) hE2 fun v H3 s3 hv => c v H3 (s1.trans ((hk.trans s2).trans s3)) hv
/-- a while: the states r 0, r 1, .. r n, the test true ahead of n -/
theorem xs_while (r : Nat → Rho) (n : Nat) (h0 : r 0 = ρ) (ht : ∀ i, i < n → EvT K t (r i) true) (hf : EvT K t (r n) false) (hb : ∀ i, i < n → ExS K E ts (r i) (.nx (r (i + 1)))) : ExS K E (tWhile t ts) ρ (.nx (r n)) := fun A σ H D l hE c => by
  refine ⟨fun m σ' H' => ∃ i, m = n - i ∧ i ≤ n ∧ Same H H' ∧ EnvD K (cut A H') σ' (r i), ⟨n, 0, by simp, Nat.zero_le _, Same.refl _, by rw [h0]; exact hE⟩, ?_⟩
  rintro m σ' H' ⟨i, rfl, hle, hk, hE'⟩
  have lv : Live A H' := l.same hk
  by_cases hlt : i < n
  · refine ht i hlt A σ' H' lv hE' _ fun H2 s2 => iteT ⟨fun σ2 H3 => Same H H3 ∧ EnvD K (cut A H3) σ2 (r (i + 1)), fun σ2 H3 h3 => ⟨n - (i + 1), by omega, i + 1, rfl, hlt, h3.1, h3.2⟩, ?_⟩
    exact hb i hlt A σ' H2 _ (lv.same s2) (hE'.same (cut_same s2)) fun σ3 H3 s3 hE3 => ⟨(hk.trans s2).trans s3, hE3⟩
  · have e : i = n := by omega
    subst e
    exact hf A σ' H' lv hE' _ fun H2 s2 => iteF (c σ' H2 (hk.trans s2) (hE'.same (cut_same s2)))
end
end Lc

set_option Elab.async false
set_option linter.all false
set_option maxRecDepth 100000
set_option maxHeartbeats 4000000
namespace Lc
open PySem L2 PySem.Spec PyProof.Rows

/-! ### shapes -/
def Sh (n : Nat) (d : PyData) : Prop := d.canLay0 = true ∧ d.depth ≤ n
theorem Sh.shaped {n : Nat} {d : PyData} (h : Sh n d) (hn : n ≤ 64) : SeqAt.shaped d = true := by
  show (d.canLay0 && decide (d.depth ≤ 64)) = true
  rw [h.1, decide_eq_true (Nat.le_trans h.2 hn)]; rfl
theorem Sh.mono {m n : Nat} {d : PyData} (h : Sh m d) (hn : m ≤ n) : Sh n d := ⟨h.1, Nat.le_trans h.2 hn⟩
theorem sh_int {n : Nat} {i : Int} : Sh n (.int i) := ⟨by simp [PyData.canLay0], by simp [PyData.depth]⟩
theorem sh_bool {n : Nat} {i : Bool} : Sh n (.bool i) := ⟨by simp [PyData.canLay0], by simp [PyData.depth]⟩
theorem sh_none {n : Nat} : Sh n .none := ⟨by simp [PyData.canLay0], by simp [PyData.depth]⟩
theorem sh_all {n : Nat} : ∀ {ds : List PyData}, (∀ d ∈ ds, Sh n d) → PyData.canLayAll0 ds = true ∧ PyData.depthAll ds ≤ n
  | [], _ => ⟨by simp [PyData.canLayAll0], by simp [PyData.depthAll]⟩
  | d :: ds, h => by
    obtain ⟨h1, h2⟩ := sh_all (n := n) (ds := ds) fun x hx => h x (by simp [hx])
    obtain ⟨h3, h4⟩ := h d (by simp)
    exact ⟨by simp [PyData.canLayAll0, h1, h3], by simp only [PyData.depthAll]; omega⟩
theorem sh_tup {n : Nat} {ds : List PyData} (h : ∀ d ∈ ds, Sh n d) : Sh (n + 1) (.tuple ds) := by
  obtain ⟨h1, h2⟩ := sh_all h
  exact ⟨by simp only [PyData.canLay0]; exact h1, by simp only [PyData.depth]; omega⟩
theorem sh_lst {n : Nat} {ds : List PyData} (h : ∀ d ∈ ds, Sh n d) : Sh (n + 1) (.list ds) := by
  obtain ⟨h1, h2⟩ := sh_all h
  exact ⟨by simp only [PyData.canLay0]; exact h1, by simp only [PyData.depth]; omega⟩
theorem sh_tupI {n : Nat} {ns : List Int} : Sh (n + 1) (.tuple (ns.map .int)) := sh_tup fun d hd => by
  obtain ⟨i, _, rfl⟩ := List.mem_map.mp hd
  exact sh_int
theorem sh_nil {n : Nat} : Sh (n + 1) (.tuple []) := sh_tup fun d hd => by simp at hd
theorem sh_nilL {n : Nat} : Sh (n + 1) (.list []) := sh_lst fun d hd => by simp at hd
mutual
theorem dq_dp {K : PySem.W.Frag} {H : Hp} : ∀ (d : PyData) {v : V}, d.canLay0 = true → Dq K H v d → Dp K H v d
  | .none, _, _, h => by cases h; exact .non
  | .bool b, _, _, h => by cases h; exact .bl b
  | .int i, _, _, h => by cases h; exact .int i
  | .str x, _, _, h => by cases h; exact .str x
  | .list ds, _, c, h => by cases h with | lst h1 h2 => exact .lst (SqL.of h1) (dq_dps ds (by simpa [PyData.canLay0] using c) h2)
  | .tuple ds, _, c, h => by cases h with | tup h1 h2 => exact .tup (SqT.of h1) (dq_dps ds (by simpa [PyData.canLay0] using c) h2)
  | .dict _, _, c, h => by simp [PyData.canLay0] at c
theorem dq_dps {K : PySem.W.Frag} {H : Hp} : ∀ (ds : List PyData) {vs : List V}, PyData.canLayAll0 ds = true → DqAll K H vs ds → DpAll K H vs ds
  | [], _, _, h => by cases h; exact .nil
  | d :: ds, _, c, h => by
    cases h with
    | cons h1 h2 =>
      have c' : d.canLay0 = true ∧ PyData.canLayAll0 ds = true := by simpa [PyData.canLayAll0] using c
      exact .cons (dq_dp d c'.1 h1) (dq_dps ds c'.2 h2)
end
theorem dq_out {K : PySem.W.Frag} {A : List Addr} {H : Hp} {v : V} {d : PyData} (h : Dq K (cut A H) v d) : Dq K H v d := dp_same same_cut h
theorem dqs_out {K : PySem.W.Frag} {A : List Addr} {H : Hp} {v : List V} {d : List PyData} (h : DqAll K (cut A H) v d) : DqAll K H v d := dpall_same same_cut h

/-! ### one of two readings -/
def rO (r r' : R2) : R2 := fun x y H Q => r x y H Q ∨ r' x y H Q
theorem opr_o {X : Cx} {f : Value → Value → Sem Value} {r r' : R2} (h : OpR X f r) (h' : OpR X f r') : OpR X f (rO r r') := by
  intro pins s σ H x y v u Q I rx ry q
  rcases q with q | q
  · exact h pins s σ H x y v u Q I rx ry q
  · exact h' pins s σ H x y v u Q I rx ry q
theorem ixr_o {X : Cx} {r r' : R2} (h : IxR X r) (h' : IxR X r') : IxR X (rO r r') := h.or h'
def cO (r r' : List V → Hp → VK → Prop) : List V → Hp → VK → Prop := fun xs H Q => r xs H Q ∨ r' xs H Q
theorem cr_o {X : Cx} {f : Value} {r r' : List V → Hp → VK → Prop} (h : CallR X f r) (h' : CallR X f r') : CallR X f (cO r r') := by
  intro pins s σ H xs us Q I rs q
  rcases q with q | q
  · exact h pins s σ H xs us Q I rs q
  · exact h' pins s σ H xs us Q I rs q
section
variable {K : PySem.W.Frag} {r r' : R2} {d e f : PyData}
theorem OpD.inl (h : OpD K r d e f) : OpD K (rO r r') d e f := fun A x y H l hx hy Q q => .inl (h A x y H l hx hy Q q)
theorem OpD.inr (h : OpD K r' d e f) : OpD K (rO r r') d e f := fun A x y H l hx hy Q q => .inr (h A x y H l hx hy Q q)
theorem CaD.inl {r r' : List V → Hp → VK → Prop} {ds : List PyData} (h : CaD K r ds f) : CaD K (cO r r') ds f := fun A xs H l hx Q q => .inl (h A xs H l hx Q q)
theorem CaD.inr {r r' : List V → Hp → VK → Prop} {ds : List PyData} (h : CaD K r' ds f) : CaD K (cO r r') ds f := fun A xs H l hx Q q => .inr (h A xs H l hx Q q)
end

/-! ### + - * // % ** -/
def rAddStr : R2 := fun x y H Q => ∃ i j, x = .str i ∧ y = .str j ∧ i.length + j.length ≤ sizeLine ∧ Q (.str (i ++ j)) H
def rAddU (K : PySem.W.Frag) : R2 := rO (rI0 fun i j => .int (i + j)) (rO (rCatA K) (rO rCat rAddStr))
theorem op_addU {X : Cx} : OpR X (binaryOp .Add) (rAddU X.K) := opr_o op_add (opr_o op_catA (opr_o op_cat op_add_str))
abbrev rSubU : R2 := rI0 fun i j => .int (i - j)
abbrev rModU : R2 := rI (fun _ j => 0 < j) fun i j => .int (i % j)
def rDivU : R2 := rO (rI CDiv fun i j => .int (i / j)) (rI CDivW fun i j => .int (i / j))
theorem op_divU {X : Cx} : OpR X (binaryOp .FloorDiv) rDivU := opr_o op_fdiv op_fdivW
abbrev rPowU : R2 := rI CPow fun i j => .int (i ^ j.toNat)
/-- a tuple times 0, times 1 -/
def rRepT1 (K : PySem.W.Frag) : R2 := fun x y H Q => ∃ l xs, x = .ref l ∧ y = .int 1 ∧ SqT K H l xs ∧ Q (.ref l) H
theorem tuple_mul1 (l : Addr) (items : Array Value) (n : Nat) (dd : Option Addr) (sl : Array (Option Value)) (u : Tok) :
    Meets (Builtin.«tuple.__mul__» ⟨[.ref l, .int 1 u], []⟩) (fun _ R s => s.heap.get? l = some { cls := .type "tuple", dict := dd, data := .seq items n, slots := sl } ∧ R (.ok (.ret (Value.ref l))) s) :=
  .of_wp fun prog w A R s h => by
    obtain ⟨hp, g, d, tk, os⟩ := s
    obtain ⟨hl, h⟩ := h
    have f1 := AutoSeq1.idx_int
    have c0 : (decide ((1 : Int) < -(2 ^ 63)) || decide ((1 : Int) ≥ 2 ^ 63)) = false := by decide
    have c1 : (items.isEmpty || (1 : Int) == 1) = true := by simp
    wp_walk using wpAny_loadPart' hl
    repeat (first
      | (refine wpAny_ite_false (decide_eq_false (by rw [c0]; exact Bool.false_ne_true)) ?_; wp_walk using wpAny_loadPart' hl)
      | (refine wpAny_ite_true (decide_eq_true (by rw [c1])) ?_; wp_walk using wpAny_loadPart' hl))
    exact ⟨_, rfl, h⟩
theorem tuple_mul0 (l : Addr) (items : Array Value) (n : Nat) (dd : Option Addr) (sl : Array (Option Value)) (u : Tok) (hi : items.isEmpty = false) :
    Meets (Builtin.«tuple.__mul__» ⟨[.ref l, .int 0 u], []⟩) (fun _ R s => s.heap.get? l = some { cls := .type "tuple", dict := dd, data := .seq items n, slots := sl } ∧
      R (.ok (.ret (Value.ref s.heap.objs.size))) { s with heap := s.heap.push { cls := Value.type "tuple", data := Data.seq #[] } }) :=
  .of_wp fun prog w A R s h => by
    obtain ⟨hp, g, d, tk, os⟩ := s
    obtain ⟨hl, h⟩ := h
    have f1 := AutoSeq1.idx_int
    have c0 : (decide ((0 : Int) < -(2 ^ 63)) || decide ((0 : Int) ≥ 2 ^ 63)) = false := by decide
    have c1 : (items.isEmpty || (0 : Int) == 1) = false := by rw [hi]; rfl
    have c2 : (decide ((0 : Int) ≤ 0) || items.isEmpty) = true := by simp
    wp_walk using wpAny_loadPart' hl
    repeat (first
      | (refine wpAny_ite_false (decide_eq_false (by rw [c0]; exact Bool.false_ne_true)) ?_; wp_walk using wpAny_loadPart' hl)
      | (refine wpAny_ite_false (decide_eq_false (by rw [c1]; exact Bool.false_ne_true)) ?_; wp_walk using wpAny_loadPart' hl)
      | (refine wpAny_ite_true (decide_eq_true (by rw [c2])) ?_; wp_walk using wpAny_loadPart' hl))
    exact ⟨_, rfl, h⟩
def rRepT0 (K : PySem.W.Frag) : R2 := fun x y H Q => ∃ l xs, x = .ref l ∧ y = .int 0 ∧ SqT K H l xs ∧ xs ≠ [] ∧ ∀ p, H p = none → Q (.ref p) (upd H p (.tup []))
theorem op_repT1 {X : Cx} : OpR X (binaryOp .Mult) (rRepT1 X.K) := by
  intro pins s σ H x y v u Q I rx ry h
  obtain ⟨l, xs, rfl, rfl, hT, q⟩ := h
  cases rx
  obtain ⟨t, rfl⟩ := ry
  obtain ⟨its, r, ⟨⟨cls, dd, data, sl⟩, ho, hc, n, hd⟩, hs⟩ := I.tuple hT
  simp only at hc hd
  subst hc hd
  exact wpAny_binaryOp_repeat_ref (T := "tuple") (U := "int") (by decide) ⟨_, ho, rfl⟩ (fun s' => typeIs_int s' 1 t) noFill_tuple_mul F.fills_int_mul F.slot_int_rmul repeat_tuple F.slot_int_index.lookup
    (call_meets F.slot_int_rmul (typeIs_int s 1 t) F.entry_int_rmul (F.args_int_rmul_2 _ _) (int_rmul_tuple 1 t l its.toArray n dd sl)
      ⟨ho, rfl, ⟨_, ho, rfl⟩, call_meets F.slot_tuple_mul ⟨_, ho, rfl⟩ F.entry_tuple_mul (F.args_tuple_mul_2 _ _) (tuple_mul1 l its.toArray n dd sl t) ⟨ho, .ref l, H, I, rfl, q⟩⟩)
theorem op_repT0 {X : Cx} : OpR X (binaryOp .Mult) (rRepT0 X.K) := by
  intro pins s σ H x y v u Q I rx ry h
  obtain ⟨l, xs, rfl, rfl, hT, hne, q⟩ := h
  cases rx
  obtain ⟨t, rfl⟩ := ry
  obtain ⟨its, r, ⟨⟨cls, dd, data, sl⟩, ho, hc, n, hd⟩, hs⟩ := I.tuple hT
  simp only at hc hd
  subst hc hd
  have hi : its.toArray.isEmpty = false := by
    cases its with
    | nil => exact absurd (List.eq_nil_of_length_eq_zero r.length) hne
    | cons a b => rfl
  refine wpAny_binaryOp_repeat_ref (T := "tuple") (U := "int") (by decide) ⟨_, ho, rfl⟩ (fun s' => typeIs_int s' 0 t) noFill_tuple_mul F.fills_int_mul F.slot_int_rmul repeat_tuple F.slot_int_index.lookup
    (call_meets F.slot_int_rmul (typeIs_int s 0 t) F.entry_int_rmul (F.args_int_rmul_2 _ _) (int_rmul_tuple 0 t l its.toArray n dd sl)
      ⟨ho, rfl, ⟨_, ho, rfl⟩, call_meets F.slot_tuple_mul ⟨_, ho, rfl⟩ F.entry_tuple_mul (F.args_tuple_mul_2 _ _) (tuple_mul0 l its.toArray n dd sl t hi) ⟨ho, ?_⟩⟩)
  refine ⟨.ref s.heap.objs.size, _, I.laid (t' := s.toks) (o := .tup []) (fun b ob q => Heap.get?_push_of_some _ q) (Nat.le_refl _) ?_, rfl, q _ (I.hok.fresh (Nat.le_refl _))⟩
  exact ⟨Nat.zero_le _, [], .nil, IsTup.new _ _⟩
def rMulU (K : PySem.W.Frag) : R2 := rO (rI CMul fun i j => .int (i * j)) (rO (rI CMulW fun i j => .int (i * j)) (rO (rRepT K) (rO (rRepT1 K) (rO (rRepT0 K) rRep))))
theorem op_mulU {X : Cx} : OpR X (binaryOp .Mult) (rMulU X.K) := opr_o op_mul (opr_o op_mulW (opr_o op_repT (opr_o op_repT1 (opr_o op_repT0 op_rep))))

/-! ### comparisons -/
abbrev rLtI : R2 := rI0 fun i j => .bl (decide (i < j))
abbrev rLeI : R2 := rI0 fun i j => .bl (decide (i ≤ j))
abbrev rGtI : R2 := rI0 fun i j => .bl (decide (j < i))
abbrev rGeI : R2 := rI0 fun i j => .bl (decide (j ≤ i))
def rLtU (K : PySem.W.Frag) : R2 := rO rLtI (rLtT K)
theorem op_ltU {X : Cx} (hu : X.A.units < cLine) : OpR X (compareOp .Lt) (rLtU X.K) := opr_o op_lt (op_ltT hu)
/-- in a tuple, items of any depth -/
def rInTD (K : PySem.W.Frag) : R2 := fun x y H Q => ∃ d ds, Dp K H x d ∧ Dp K H y (.tuple ds) ∧ SeqAt.shaped d = true ∧ SeqAt.shaped (.tuple ds) = true ∧ Q (.bl (ds.any fun z => PyData.eqv z d)) H
def rNotInTD (K : PySem.W.Frag) : R2 := fun x y H Q => ∃ d ds, Dp K H x d ∧ Dp K H y (.tuple ds) ∧ SeqAt.shaped d = true ∧ SeqAt.shaped (.tuple ds) = true ∧ Q (.bl (!ds.any fun z => PyData.eqv z d)) H
theorem op_inTD {X : Cx} (hu : X.A.units + 65 < cLine) : OpR X (compareOp .In) (rInTD X.K) := by
  intro pins s σ H x y v u Q I rx ry h
  obtain ⟨d, ds, hd, he, sd, se, q⟩ := h
  obtain ⟨as, r1⟩ := Dp.reads I d x v hd rx
  obtain ⟨bs, r2⟩ := Dp.reads I (.tuple ds) y u he ry
  exact SeqAt.in_tuple_reads r2 r1 (SeqAt.canLay_of_shaped se) (SeqAt.canLay_of_shaped sd) (room_in_shaped sd hu) ⟨.bl _, H, I, rfl, q⟩
theorem op_notInTD {X : Cx} (hu : X.A.units + 65 < cLine) : OpR X (compareOp .NotIn) (rNotInTD X.K) := by
  intro pins s σ H x y v u Q I rx ry h
  obtain ⟨d, ds, hd, he, sd, se, q⟩ := h
  obtain ⟨as, r1⟩ := Dp.reads I d x v hd rx
  obtain ⟨bs, r2⟩ := Dp.reads I (.tuple ds) y u he ry
  exact SeqAt.notIn_tuple_reads r2 r1 (SeqAt.canLay_of_shaped se) (SeqAt.canLay_of_shaped sd) (room_in_shaped sd hu) ⟨.bl _, H, I, rfl, q⟩
def rInSign : R2 := fun x y H Q => ∃ (c : Nat) (z : Str), x = .str ⟨#[c]⟩ ∧ y = .str z ∧ Q (.bl (decide (c ∈ z.cps.toList))) H
def rNotInSign : R2 := fun x y H Q => ∃ (c : Nat) (z : Str), x = .str ⟨#[c]⟩ ∧ y = .str z ∧ Q (.bl (!decide (c ∈ z.cps.toList))) H
def rInU (K : PySem.W.Frag) : R2 := rO (rInTD K) (rO (rInD K) rInSign)
def rNotInU (K : PySem.W.Frag) : R2 := rO (rNotInTD K) (rO (rNotInD K) rNotInSign)
theorem op_inU {X : Cx} (hu : X.A.units + 65 < cLine) : OpR X (compareOp .In) (rInU X.K) := opr_o (op_inTD hu) (opr_o (op_inD hu) op_in_sign)
theorem op_notInU {X : Cx} (hu : X.A.units + 65 < cLine) : OpR X (compareOp .NotIn) (rNotInU X.K) := opr_o (op_notInTD hu) (opr_o (op_notInD hu) op_notIn_sign)
def rIsNone : R2 := fun x y H Q => y = .non ∧ Q (.bl (decide (x = .non))) H
def rNotNone : R2 := fun x y H Q => y = .non ∧ Q (.bl (!decide (x = .non))) H
def rIsBl : R2 := fun x y H Q => ∃ a b, x = .bl a ∧ y = .bl b ∧ Q (.bl (decide (a = b))) H
def rNotBl : R2 := fun x y H Q => ∃ a b, x = .bl a ∧ y = .bl b ∧ Q (.bl (!decide (a = b))) H
def rIsU : R2 := rO rIsNone rIsBl
def rNotU : R2 := rO rNotNone rNotBl
theorem op_isU {X : Cx} : OpR X (compareOp .Is) rIsU := opr_o op_isN L2.op_isBl
theorem op_notU {X : Cx} : OpR X (compareOp .IsNot) rNotU := opr_o op_notN L2.op_notBl

/-! ### built-ins -/
def rLenSeq (K : PySem.W.Frag) : List V → Hp → VK → Prop := fun xs H Q => ∃ p ys, xs = [.ref p] ∧ (SqL K H p ys ∨ SqT K H p ys) ∧ Q (.int ys.length) H
def rLenStr : List V → Hp → VK → Prop := fun xs H Q => ∃ z, xs = [.str z] ∧ z.length ≤ sizeLine ∧ Q (.int z.length) H
def rLenU (K : PySem.W.Frag) : List V → Hp → VK → Prop := cO (rLenSeq K) rLenStr
theorem cr_lenU {X : Cx} : CallR X (.builtin "len") (rLenU X.K) := cr_o call_len_seq call_len_str
def rAbsI : List V → Hp → VK → Prop := fun xs H Q => ∃ i, xs = [.int i] ∧ Q (.int (if i < 0 then -i else i)) H
theorem cr_absI {X : Cx} : CallR X (.builtin "abs") rAbsI := call_abs
def rMin2 : List V → Hp → VK → Prop := fun xs H Q => ∃ i j, xs = [.int i, .int j] ∧ Q (.int (if j < i then j else i)) H
def rMax2 : List V → Hp → VK → Prop := fun xs H Q => ∃ i j, xs = [.int i, .int j] ∧ Q (.int (if j > i then j else i)) H
def rMinU (K : PySem.W.Frag) : List V → Hp → VK → Prop := cO (rMin K) rMin2
def rMaxU (K : PySem.W.Frag) : List V → Hp → VK → Prop := cO (rMax K) rMax2
theorem cr_minU {X : Cx} (hc : X.calm = true) : CallR X (.builtin "min") (rMinU X.K) := cr_o (cr_min hc) (call_min2 hc)
theorem cr_maxU {X : Cx} (hc : X.calm = true) : CallR X (.builtin "max") (rMaxU X.K) := cr_o (cr_max hc) (call_max2 hc)
def rTupleOf (K : PySem.W.Frag) : List V → Hp → VK → Prop := fun xs H Q => ∃ p ys, xs = [.ref p] ∧ ((SqL K H p ys ∧ ∀ l, H l = none → Q (.ref l) (upd H l (.tup ys))) ∨ (SqT K H p ys ∧ Q (.ref p) H))
theorem cr_tupleOf {X : Cx} : CallR X (.type "tuple") (rTupleOf X.K) := call_tuple_of
def rListOf (K : PySem.W.Frag) : List V → Hp → VK → Prop := fun xs H Q => ∃ p ys, xs = [.ref p] ∧ (SqL K H p ys ∨ SqT K H p ys) ∧ ∀ l, H l = none → Q (.ref l) (upd H l (.lst ys))
theorem cr_listOf {X : Cx} : CallR X (.type "list") (rListOf X.K) := call_list_of
def rInt1 : List V → Hp → VK → Prop := fun xs H Q => (∃ i, xs = [.int i] ∧ Q (.int i) H) ∨ ∃ k, xs = [.bl k] ∧ Q (.int (if k then 1 else 0)) H
theorem cr_int1 {X : Cx} : CallR X (.type "int") rInt1 := call_int1

/-! ### what they are worth on data -/
section
variable {K : PySem.W.Frag} {r r' : R2} {d e f : PyData} {ρ : Rho} {ta tb te : TE}
theorem od_I0 {g : Int → Int → V} {h : Int → Int → PyData} (hg : ∀ i j F, Dq K F (g i j) (h i j)) {i j : Int} : OpD K (rI0 g) (.int i) (.int j) (h i j) := fun A x y H l hx hy Q q => by
  cases hx; cases hy; exact ⟨i, j, rfl, rfl, q _ H (Same.refl H) (hg i j _)⟩
theorem od_I {C : Int → Int → Prop} {g : Int → Int → V} {h : Int → Int → PyData} (hg : ∀ i j F, Dq K F (g i j) (h i j)) {i j : Int} (hc : C i j) : OpD K (rI C g) (.int i) (.int j) (h i j) := fun A x y H l hx hy Q q => by
  cases hx; cases hy; exact ⟨i, j, rfl, rfl, hc, q _ H (Same.refl H) (hg i j _)⟩
theorem od_add {i j : Int} : OpD K (rAddU K) (.int i) (.int j) (.int (i + j)) := OpD.inl (od_I0 (h := fun i j => .int (i + j)) fun _ _ _ => .int _)
theorem od_sub {i j : Int} : OpD K rSubU (.int i) (.int j) (.int (i - j)) := od_I0 (h := fun i j => .int (i - j)) fun _ _ _ => .int _
theorem od_mod {i j : Int} (h : 0 < j) : OpD K rModU (.int i) (.int j) (.int (i % j)) := od_I (C := fun _ j => 0 < j) (h := fun i j => .int (i % j)) (fun _ _ _ => .int _) h
theorem od_div {i j : Int} (h : 0 < j) (h2 : j < 1073741824) : OpD K rDivU (.int i) (.int j) (.int (i / j)) := OpD.inl (od_I (C := CDiv) (h := fun i j => .int (i / j)) (fun _ _ _ => .int _) ⟨h, h2⟩)
theorem od_divW {i j : Int} (h : 0 < j) (h2 : j.natAbs.log2 < 9000) : OpD K rDivU (.int i) (.int j) (.int (i / j)) := OpD.inr (od_I (C := CDivW) (h := fun i j => .int (i / j)) (fun _ _ _ => .int _) ⟨h, h2⟩)
theorem od_pow {i j : Int} (h : CPow i j) : OpD K rPowU (.int i) (.int j) (.int (i ^ j.toNat)) := od_I (C := CPow) (h := fun i j => .int (i ^ j.toNat)) (fun _ _ _ => .int _) h
theorem od_mul {i j : Int} (h : CMul i j) : OpD K (rMulU K) (.int i) (.int j) (.int (i * j)) := OpD.inl (od_I (C := CMul) (h := fun i j => .int (i * j)) (fun _ _ _ => .int _) h)
theorem od_mulW {i j : Int} (h : CMulW i j) : OpD K (rMulU K) (.int i) (.int j) (.int (i * j)) := OpD.inr (OpD.inl (od_I (C := CMulW) (h := fun i j => .int (i * j)) (fun _ _ _ => .int _) h))
theorem od_lt {i j : Int} : OpD K (rLtU K) (.int i) (.int j) (.bool (decide (i < j))) := OpD.inl (od_I0 (h := fun i j => .bool (decide (i < j))) fun _ _ _ => .bl _)
theorem od_le {i j : Int} : OpD K rLeI (.int i) (.int j) (.bool (decide (i ≤ j))) := od_I0 (h := fun i j => .bool (decide (i ≤ j))) fun _ _ _ => .bl _
theorem od_gt {i j : Int} : OpD K rGtI (.int i) (.int j) (.bool (decide (j < i))) := od_I0 (h := fun i j => .bool (decide (j < i))) fun _ _ _ => .bl _
theorem od_ge {i j : Int} : OpD K rGeI (.int i) (.int j) (.bool (decide (j ≤ i))) := od_I0 (h := fun i j => .bool (decide (j ≤ i))) fun _ _ _ => .bl _
theorem od_ltT {ns ms : List Int} : OpD K (rLtU K) (.tuple (ns.map .int)) (.tuple (ms.map .int)) (.bool (HT.lexLt ns ms)) := OpD.inr fun A x y H l hx hy Q q => by
  cases hx with
  | tup h1 h2 =>
    cases hy with
    | tup h3 h4 =>
      have e1 := h2.ints; have e2 := h4.ints; subst e1 e2
      exact ⟨_, _, ns, ms, rfl, rfl, SqT.of (same_cut _ _ h1), SqT.of (same_cut _ _ h3), q _ H (Same.refl H) (.bl _)⟩
theorem od_addT {ds es : List PyData} (hz : ds.length + es.length ≤ 100000) : OpD K (rAddU K) (.tuple ds) (.tuple es) (.tuple (ds ++ es)) := OpD.inr (OpD.inl fun A x y H l hx hy Q q => by
  cases hx with
  | tup h1 h2 =>
    cases hy with
    | tup h3 h4 =>
      refine ⟨_, _, _, _, rfl, rfl, SqT.of (same_cut _ _ h1), SqT.of (same_cut _ _ h3), Nat.le_trans (by rw [h2.length, h4.length]; exact hz) (by decide), fun e => ?_, fun _ e => ?_, fun _ _ p hp => ?_⟩
      · subst e; cases h2; exact q _ H (Same.refl H) (.tup h3 h4)
      · subst e; cases h4; exact q _ H (Same.refl H) (by rw [List.append_nil]; exact .tup h1 h2)
      · exact q _ _ (same_new hp) (.tup (cut_new l hp) (dpall_same (cut_same (same_new hp)) (h2.append h4))))
theorem od_addL {ds es : List PyData} (hz : ds.length + es.length ≤ 100000) : OpD K (rAddU K) (.list ds) (.list es) (.list (ds ++ es)) := OpD.inr (OpD.inr (OpD.inl fun A x y H l hx hy Q q => by
  cases hx with
  | lst h1 h2 =>
    cases hy with
    | lst h3 h4 =>
      refine ⟨_, _, _, _, rfl, rfl, same_cut _ _ h1, same_cut _ _ h3, Nat.le_trans (by rw [h2.length, h4.length]; exact hz) (by decide), fun p hp => ?_⟩
      exact q _ _ (same_new hp) (.lst (cut_new l hp) (dpall_same (cut_same (same_new hp)) (h2.append h4)))))
theorem od_addS {x y : Str} (hz : x.length + y.length ≤ 100000) : OpD K (rAddU K) (.str x) (.str y) (.str (x ++ y)) := OpD.inr (OpD.inr (OpD.inr fun A v w H l hx hy Q q => by
  cases hx; cases hy
  exact ⟨x, y, rfl, rfl, Nat.le_trans hz (by decide), q _ H (Same.refl H) (.str _)⟩))
theorem dqall_rep {F : Hp} {vs : List V} {ds : List PyData} (h : DqAll K F vs ds) : ∀ n, DqAll K F (List.replicate n vs).flatten (List.replicate n ds).flatten
  | 0 => .nil
  | n + 1 => by
    rw [List.replicate_succ, List.replicate_succ, List.flatten_cons, List.flatten_cons]
    exact h.append (dqall_rep h n)
theorem od_repT {ds : List PyData} {k : Int} (hd : ds ≠ []) (h0 : 0 ≤ k) (h1 : k ≤ 1000) (hz : ds.length ≤ 1000) : OpD K (rMulU K) (.tuple ds) (.int k) (.tuple (List.replicate k.toNat ds).flatten) := OpD.inr (OpD.inr fun A x y H l hx hy Q q => by
  cases hy
  cases hx with
  | tup h3 h4 =>
    rename_i a xs
    have hne : xs ≠ [] := fun e => hd (by subst e; cases h4; rfl)
    by_cases k0 : k = 0
    · subst k0
      exact .inr (.inr (.inl ⟨_, _, rfl, rfl, SqT.of (same_cut _ _ h3), hne, fun p hp => q _ _ (same_new hp) (by simpa using Dq.tup (cut_new l hp) .nil)⟩))
    · by_cases k1 : k = 1
      · subst k1
        exact .inr (.inl ⟨_, _, rfl, rfl, SqT.of (same_cut _ _ h3), q _ H (Same.refl H) (by simpa using Dq.tup h3 h4)⟩)
      · exact .inl ⟨_, k, _, rfl, rfl, SqT.of (same_cut _ _ h3), hne, by omega, h1, by rw [h4.length]; exact hz, fun p hp => q _ _ (same_new hp) (.tup (cut_new l hp) (dpall_same (cut_same (same_new hp)) (dqall_rep h4 _)))⟩)
theorem od_repL {ds : List PyData} {k : Int} (h0 : -1000 ≤ k) (h1 : k ≤ 1000) (hz : ds.length ≤ 1000) : OpD K (rMulU K) (.list ds) (.int k) (.list (List.replicate k.toNat ds).flatten) := OpD.inr (OpD.inr (OpD.inr (OpD.inr (OpD.inr fun A x y H l hx hy Q q => by
  cases hy
  cases hx with
  | lst h3 h4 =>
    refine ⟨_, k, _, rfl, rfl, same_cut _ _ h3, by omega, by omega, ?_, fun p hp => q _ _ (same_new hp) (.lst (cut_new l hp) (dpall_same (cut_same (same_new hp)) (dqall_rep h4 _)))⟩
    rw [h4.length]
    exact Nat.le_trans (Nat.mul_le_mul hz (show k.toNat ≤ 1000 by omega)) (by decide)))))
theorem od_eq {n m : Nat} (h1 : Sh n d) (h2 : Sh m e) (hn : n ≤ 64 := by decide) (hm : m ≤ 64 := by decide) : OpD K (rEqD K) d e (.bool (PyData.eqv d e)) := fun A x y H l hx hy Q q =>
  ⟨d, e, dq_dp d h1.1 (dq_out hx), dq_dp e h2.1 (dq_out hy), h1.shaped hn, h2.shaped hm, q _ H (Same.refl H) (.bl _)⟩
theorem od_ne {n m : Nat} (h1 : Sh n d) (h2 : Sh m e) (hn : n ≤ 64 := by decide) (hm : m ≤ 64 := by decide) : OpD K (rNeD K) d e (.bool (!PyData.eqv d e)) := fun A x y H l hx hy Q q =>
  ⟨d, e, dq_dp d h1.1 (dq_out hx), dq_dp e h2.1 (dq_out hy), h1.shaped hn, h2.shaped hm, q _ H (Same.refl H) (.bl _)⟩
theorem od_inT {ds : List PyData} {n m : Nat} (h1 : Sh n d) (h2 : Sh m (.tuple ds)) (hn : n ≤ 64 := by decide) (hm : m ≤ 64 := by decide) : OpD K (rInU K) d (.tuple ds) (.bool (ds.any fun z => PyData.eqv z d)) := OpD.inl fun A x y H l hx hy Q q =>
  ⟨d, ds, dq_dp d h1.1 (dq_out hx), dq_dp _ h2.1 (dq_out hy), h1.shaped hn, h2.shaped hm, q _ H (Same.refl H) (.bl _)⟩
theorem od_inL {ds : List PyData} {n m : Nat} (h1 : Sh n d) (h2 : Sh m (.list ds)) (hn : n ≤ 64 := by decide) (hm : m ≤ 64 := by decide) : OpD K (rInU K) d (.list ds) (.bool (ds.any fun z => PyData.eqv z d)) := OpD.inr (OpD.inl fun A x y H l hx hy Q q =>
  ⟨d, ds, dq_dp d h1.1 (dq_out hx), dq_dp _ h2.1 (dq_out hy), h1.shaped hn, h2.shaped hm, q _ H (Same.refl H) (.bl _)⟩)
theorem od_niT {ds : List PyData} {n m : Nat} (h1 : Sh n d) (h2 : Sh m (.tuple ds)) (hn : n ≤ 64 := by decide) (hm : m ≤ 64 := by decide) : OpD K (rNotInU K) d (.tuple ds) (.bool (!ds.any fun z => PyData.eqv z d)) := OpD.inl fun A x y H l hx hy Q q =>
  ⟨d, ds, dq_dp d h1.1 (dq_out hx), dq_dp _ h2.1 (dq_out hy), h1.shaped hn, h2.shaped hm, q _ H (Same.refl H) (.bl _)⟩
theorem od_niL {ds : List PyData} {n m : Nat} (h1 : Sh n d) (h2 : Sh m (.list ds)) (hn : n ≤ 64 := by decide) (hm : m ≤ 64 := by decide) : OpD K (rNotInU K) d (.list ds) (.bool (!ds.any fun z => PyData.eqv z d)) := OpD.inr (OpD.inl fun A x y H l hx hy Q q =>
  ⟨d, ds, dq_dp d h1.1 (dq_out hx), dq_dp _ h2.1 (dq_out hy), h1.shaped hn, h2.shaped hm, q _ H (Same.refl H) (.bl _)⟩)
def isNone : PyData → Bool
  | .none => true
  | _ => false
theorem dq_non {F : Hp} {v : V} (h : Dq K F v d) : decide (v = .non) = isNone d := by
  cases h <;> simp [isNone, scrD, adrD, tyD]
theorem od_isN : OpD K rIsU d .none (.bool (isNone d)) := OpD.inl fun A x y H l hx hy Q q => by
  cases hy; exact ⟨rfl, by rw [dq_non hx]; exact q _ H (Same.refl H) (.bl _)⟩
theorem od_notN : OpD K rNotU d .none (.bool (!isNone d)) := OpD.inl fun A x y H l hx hy Q q => by
  cases hy; exact ⟨rfl, by rw [dq_non hx]; exact q _ H (Same.refl H) (.bl _)⟩
theorem od_isB {a b : Bool} : OpD K rIsU (.bool a) (.bool b) (.bool (decide (a = b))) := OpD.inr fun A x y H l hx hy Q q => by
  cases hx; cases hy; exact ⟨a, b, rfl, rfl, q _ H (Same.refl H) (.bl _)⟩
theorem od_notB {a b : Bool} : OpD K rNotU (.bool a) (.bool b) (.bool (!decide (a = b))) := OpD.inr fun A x y H l hx hy Q q => by
  cases hx; cases hy; exact ⟨a, b, rfl, rfl, q _ H (Same.refl H) (.bl _)⟩
theorem atI_dq {F : Hp} {vs : List V} {ds : List PyData} {i : Int} (h : DqAll K F vs ds) (hi : atI ds i = some d) : ∃ v, atI vs i = some v ∧ Dq K F v d := by
  unfold atI at hi ⊢
  rw [h.length]
  cases e : ixN ds.length i with
  | none => rw [e] at hi; cases hi
  | some j =>
    rw [e] at hi
    obtain ⟨v, h1, h2⟩ := h.get (i := j) (d := d) hi
    exact ⟨v, h1, h2⟩
theorem od_ixT {ds : List PyData} {i : Int} (h : atI ds i = some d) : OpD K (rIx K) (.tuple ds) (.int i) d := fun A x y H l hx hy Q q => by
  cases hy
  cases hx with
  | tup h1 h2 =>
    obtain ⟨v, k1, k2⟩ := atI_dq h2 h
    exact .inr (.inl ⟨_, _, i, v, rfl, rfl, SqT.of (same_cut _ _ h1), k1, q _ H (Same.refl H) k2⟩)
theorem od_ixL {ds : List PyData} {i : Int} (h : atI ds i = some d) : OpD K (rIx K) (.list ds) (.int i) d := fun A x y H l hx hy Q q => by
  cases hy
  cases hx with
  | lst h1 h2 =>
    obtain ⟨v, k1, k2⟩ := atI_dq h2 h
    exact .inl ⟨_, _, i, v, rfl, rfl, SqL.of (same_cut _ _ h1), k1, q _ H (Same.refl H) k2⟩
theorem od_ixS {z : Str} {i : Int} {c : Nat} (hz : z.length ≤ 100000) (h : atI z.cps.toList i = some c) : OpD K (rIx K) (.str z) (.int i) (.str ⟨#[c]⟩) := fun A x y H l hx hy Q q => by
  cases hy
  cases hx
  exact .inr (.inr ⟨z, i, c, rfl, rfl, Nat.le_trans hz (by decide), h, q _ H (Same.refl H) (.str _)⟩)
theorem atI_nat {α : Type} {ds : List α} {d : α} {i : Nat} (h : ds[i]? = some d) : atI ds (i : Int) = some d := L2.atI_nat h
theorem atI_of {α : Type} {ds : List α} {d : α} {i : Int} (h0 : 0 ≤ i) (h : ds[i.toNat]? = some d) : atI ds i = some d := by
  have e : i = (i.toNat : Int) := by omega
  rw [e]; exact L2.atI_nat h
theorem ud_neg {i : Int} : UnD K (rU fun i => .int (-i)) (.int i) (.int (-i)) := fun A x H l hx Q q => by
  cases hx; exact ⟨i, rfl, q _ H (Same.refl H) (.int _)⟩
/-! calls -/
theorem ca_lenT {ds : List PyData} : CaD K (rLenU K) [.tuple ds] (.int ds.length) := CaD.inl fun A xs H l hx Q q => by
  cases hx with
  | cons h1 h2 =>
    cases h2
    cases h1 with
    | tup k1 k2 => exact ⟨_, _, rfl, .inr (SqT.of (same_cut _ _ k1)), q _ H (Same.refl H) (by rw [k2.length]; exact .int _)⟩
theorem ca_lenL {ds : List PyData} : CaD K (rLenU K) [.list ds] (.int ds.length) := CaD.inl fun A xs H l hx Q q => by
  cases hx with
  | cons h1 h2 =>
    cases h2
    cases h1 with
    | lst k1 k2 => exact ⟨_, _, rfl, .inl (SqL.of (same_cut _ _ k1)), q _ H (Same.refl H) (by rw [k2.length]; exact .int _)⟩
theorem ca_lenS {z : Str} (hz : z.length ≤ 100000) : CaD K (rLenU K) [.str z] (.int z.length) := CaD.inr fun A xs H l hx Q q => by
  cases hx with
  | cons h1 h2 =>
    cases h2
    cases h1
    exact ⟨z, rfl, Nat.le_trans hz (by decide), q _ H (Same.refl H) (.int _)⟩
theorem ca_abs {i : Int} : CaD K rAbsI [.int i] (.int (i.natAbs : Int)) := fun A xs H l hx Q q => by
  cases hx with
  | cons h1 h2 =>
    cases h2; cases h1
    refine ⟨i, rfl, q _ H (Same.refl H) ?_⟩
    have e : (if i < 0 then -i else i) = (i.natAbs : Int) := by split <;> omega
    rw [e]; exact .int _
theorem ca_sum {ns : List Int} : CaD K (rSum K) [.list (ns.map .int)] (.int ns.sum) := fun A xs H l hx Q q => by
  cases hx with
  | cons h1 h2 =>
    cases h2
    cases h1 with
    | lst k1 k2 =>
      have e := k2.ints; subst e
      exact ⟨_, ns, rfl, SqL.of (same_cut _ _ k1), q _ H (Same.refl H) (.int _)⟩
theorem ca_all {bs : List Bool} : CaD K (rAll K) [.list (bs.map .bool)] (.bool (bs.all id)) := fun A xs H l hx Q q => by
  cases hx with
  | cons h1 h2 =>
    cases h2
    cases h1 with
    | lst k1 k2 =>
      have e := k2.bools; subst e
      exact ⟨_, bs, rfl, SqL.of (same_cut _ _ k1), q _ H (Same.refl H) (.bl _)⟩
theorem ca_max {ns : List Int} {m : Int} (h0 : m ∈ ns) (hm : ∀ x ∈ ns, x ≤ m) : CaD K (rMaxU K) [.list (ns.map .int)] (.int m) := CaD.inl fun A xs H l hx Q q => by
  cases hx with
  | cons h1 h2 =>
    cases h2
    cases h1 with
    | lst k1 k2 =>
      have e := k2.ints; subst e
      refine ⟨_, ns, rfl, SqL.of (same_cut _ _ k1), List.length_pos_of_mem h0, fun m' h' hm' => ?_⟩
      have : m' = m := Int.le_antisymm (hm m' h') (hm' m h0)
      rw [this]
      exact q _ H (Same.refl H) (.int _)
theorem ca_min {ns : List Int} {m : Int} (h0 : m ∈ ns) (hm : ∀ x ∈ ns, m ≤ x) : CaD K (rMinU K) [.list (ns.map .int)] (.int m) := CaD.inl fun A xs H l hx Q q => by
  cases hx with
  | cons h1 h2 =>
    cases h2
    cases h1 with
    | lst k1 k2 =>
      have e := k2.ints; subst e
      refine ⟨_, ns, rfl, SqL.of (same_cut _ _ k1), List.length_pos_of_mem h0, fun m' h' hm' => ?_⟩
      have : m' = m := Int.le_antisymm (hm' m h0) (hm m' h')
      rw [this]
      exact q _ H (Same.refl H) (.int _)
theorem ca_min2 {i j : Int} : CaD K (rMinU K) [.int i, .int j] (.int (min i j)) := CaD.inr fun A xs H l hx Q q => by
  cases hx with
  | cons h1 h2 =>
    cases h2 with
    | cons h3 h4 =>
      cases h4; cases h1; cases h3
      refine ⟨i, j, rfl, q _ H (Same.refl H) ?_⟩
      have e : (if j < i then j else i) = min i j := by rw [Int.min_def]; split <;> split <;> omega
      rw [e]; exact .int _
theorem ca_tupleL {ds : List PyData} : CaD K (rTupleOf K) [.list ds] (.tuple ds) := fun A xs H l hx Q q => by
  cases hx with
  | cons h1 h2 =>
    cases h2
    cases h1 with
    | lst k1 k2 => exact ⟨_, _, rfl, .inl ⟨SqL.of (same_cut _ _ k1), fun p hp => q _ _ (same_new hp) (.tup (cut_new l hp) (dpall_same (cut_same (same_new hp)) k2))⟩⟩
theorem ca_listL {ds : List PyData} : CaD K (rListOf K) [.list ds] (.list ds) := fun A xs H l hx Q q => by
  cases hx with
  | cons h1 h2 =>
    cases h2
    cases h1 with
    | lst k1 k2 => exact ⟨_, _, rfl, .inl (SqL.of (same_cut _ _ k1)), fun p hp => q _ _ (same_new hp) (.lst (cut_new l hp) (dpall_same (cut_same (same_new hp)) k2))⟩
theorem ca_listT {ds : List PyData} : CaD K (rListOf K) [.tuple ds] (.list ds) := fun A xs H l hx Q q => by
  cases hx with
  | cons h1 h2 =>
    cases h2
    cases h1 with
    | tup k1 k2 => exact ⟨_, _, rfl, .inr (SqT.of (same_cut _ _ k1)), fun p hp => q _ _ (same_new hp) (.lst (cut_new l hp) (dpall_same (cut_same (same_new hp)) k2))⟩
theorem ca_listScr {ns : List Int} : CaD K (rListOf K) [scrD ns] (.list (ns.map .int)) := fun A xs H l hx Q q => by
  cases hx with
  | cons h1 h2 =>
    cases h2
    obtain ⟨a, rfl, k⟩ := h1.scrI
    exact ⟨_, _, rfl, .inl (sql_same same_cut k), fun p hp => q _ _ (same_new hp) (.lst (cut_new l hp) (DqAll.ofInts ns))⟩
theorem ca_intB {b : Bool} : CaD K rInt1 [.bool b] (.int (if b then 1 else 0)) := fun A xs H l hx Q q => by
  cases hx with
  | cons h1 h2 => cases h2; cases h1; exact .inr ⟨b, rfl, q _ H (Same.refl H) (.int _)⟩
end

/-! ### promises -/
def ResC (K : PySem.W.Frag) (A : List Addr) (E : XK) (Q : VK) (H : Hp) : Out → Prop
  | .nx _ => False
  | .rt d => ∀ v H', Same H H' → Dq K (cut A H') v d → Q v H'
  | .ex C => ∀ H', Same H H' → E (.ref C) none H'
/-- a def on data: R tells what comes of arguments -/
def spD (K : PySem.W.Frag) (R : List PyData → Out → Prop) : Sp := fun vs H Q E => ∃ A ds o, Live A H ∧ DqAll K (cut A H) vs ds ∧ R ds o ∧ ResC K A E Q H o
def startD (n : Nat) (ds : List PyData) : Rho := ds.map some ++ List.replicate (n - ds.length) none
theorem env_start {K : PySem.W.Frag} {F : Hp} : ∀ {vs : List V} {ds : List PyData} {m : Nat}, DqAll K F vs ds → EnvD K F (vs.map some ++ List.replicate m none) (ds.map some ++ List.replicate m none)
  | _, _, 0, .nil => .nil
  | _, _, m + 1, .nil => .cons trivial (env_start (m := m) .nil)
  | _, _, m, .cons h t => .cons h (env_start t)
theorem env_of {K : PySem.W.Frag} {F : Hp} {N : List Str} {vs : List V} {ds : List PyData} (h : DqAll K F vs ds) : EnvD K F (L2.start N vs) (startD N.length ds) := by
  unfold L2.start startD
  rw [h.length]
  exact env_start h
section
variable {K : PySem.W.Frag} {ρ : Rho} {ta tb te : TE} {E : XK} {d : PyData} {ts : TS}
/-- the body keeps the promise -/
theorem sp_body {R : List PyData → Out → Prop} {N : List Str} {t : TS} {vs : List V} {H : Hp} {Q : VK} (h : ∀ ds o, R ds o → ExS K E t (startD N.length ds) o ∨ (o = .rt .none ∧ ∃ ρ', ExS K E t (startD N.length ds) (.nx ρ')))
    (hs : spD K R vs H Q E) : t { nx := fun _ H' => Q .non H', rt := Q } (L2.start N vs) H := by
  obtain ⟨A, ds, o, l, hv, hR, c⟩ := hs
  rcases h ds o hR with h1 | ⟨rfl, ρ', h1⟩
  · refine h1 A _ H _ l (env_of hv) ?_
    cases o with
    | nx ρ => exact c.elim
    | rt d => exact c
    | ex C => exact c
  · exact h1 A _ H _ l (env_of hv) fun σ' H' s hE => c .non H' s .non
theorem ev_call {R : List PyData → Out → Prop} {t : TA} {ds : List PyData} (ha : EvA K t ρ ds) (hR : R ds (.rt d)) : EvD K (tCall (spD K R) [] E t) ρ d := fun A σ H l hE Q q =>
  ha A σ H l hE _ fun vs H1 s1 hv => by
    rw [List.append_nil]
    exact ⟨A, ds, .rt d, l.same s1, hv, hR, fun v H2 s2 h2 => q v H2 (s1.trans s2) h2⟩
/-- it raises -/
def EvX (K : PySem.W.Frag) (E : XK) (te : TE) (ρ : Rho) (C : Addr) : Prop :=
  ∀ A σ H, Live A H → EnvD K (cut A H) σ ρ → ∀ Q : VK, (∀ H', Same H H' → E (.ref C) none H') → te σ H Q
theorem ex_call {R : List PyData → Out → Prop} {t : TA} {ds : List PyData} {C : Addr} (ha : EvA K t ρ ds) (hR : R ds (.ex C)) : EvX K E (tCall (spD K R) [] E t) ρ C := fun A σ H l hE Q q =>
  ha A σ H l hE _ fun vs H1 s1 hv => by
    rw [List.append_nil]
    exact ⟨A, ds, .ex C, l.same s1, hv, hR, fun H2 s2 => q H2 (s1.trans s2)⟩
theorem xs_dropX {C : Addr} (h : EvX K E te ρ C) : ExS K E (tDrop te) ρ (.ex C) := fun A σ H D l hE c => h A σ H l hE _ c
theorem xs_asgX {C : Addr} {g : TG} (h : EvX K E te ρ C) : ExS K E (tAsg te g) ρ (.ex C) := fun A σ H D l hE c => h A σ H l hE _ c
theorem xs_retX {C : Addr} (h : EvX K E te ρ C) : ExS K E (tRet te) ρ (.ex C) := fun A σ H D l hE c => h A σ H l hE _ c
end
end Lc

set_option Elab.async false
set_option linter.all false
set_option maxRecDepth 100000
set_option maxHeartbeats 4000000
namespace Lc
open PySem L2 PySem.Spec PyProof.Rows

/-! ### the order of data: ints, and tuples of such -/
mutual
def ltD : PyData → PyData → Bool
  | .int i, .int j => decide (i < j)
  | .tuple xs, .tuple ys => ltAll xs ys
  | _, _ => false
def ltAll : List PyData → List PyData → Bool
  | [], [] => false
  | [], _ :: _ => true
  | _ :: _, [] => false
  | x :: xs, y :: ys => if PyData.eqv x y then ltAll xs ys else ltD x y
end
mutual
def cmb : PyData → PyData → Bool
  | .int _, .int _ => true
  | .tuple xs, .tuple ys => cmbAll xs ys
  | _, _ => false
def cmbAll : List PyData → List PyData → Bool
  | x :: xs, y :: ys => cmb x y && cmbAll xs ys
  | [], _ => true
  | _ :: _, [] => true
end
section
variable {s : Shared} {A : Around}
/-- place by place -/
theorem readsAll_get {h : Heap} : ∀ {vs : List Value} {ds : List PyData} {as : List Addr}, ReadsAll h vs ds as → ∀ (j : Nat) (h1 : j < vs.length), ∃ d bs, ds[j]? = some d ∧ Reads h vs[j] d bs
  | _, _, _, .nil, j, h1 => by simp at h1
  | _, _, _, .cons r t, 0, _ => ⟨_, _, rfl, r⟩
  | _, _, _, .cons r t, j + 1, h1 => by
    obtain ⟨d, bs, e, q⟩ := readsAll_get t j (by simpa using h1)
    exact ⟨d, bs, by simpa using e, by simpa using q⟩
theorem readsAll_len {h : Heap} : ∀ {vs : List Value} {ds : List PyData} {as : List Addr}, ReadsAll h vs ds as → vs.length = ds.length
  | _, _, _, .nil => rfl
  | _, _, _, .cons _ t => by simp [readsAll_len t]
theorem lex_all (xs ys : List PyData) : ∀ (i k : Nat), k = min xs.length ys.length - i → i ≤ min xs.length ys.length →
    Ob.lexAt (fun j => PyData.eqv (xs.getD j .none) (ys.getD j .none)) (fun j => ltD (xs.getD j .none) (ys.getD j .none)) (decide (xs.length < ys.length)) i k = ltAll (xs.drop i) (ys.drop i) := by
  intro i k
  induction k generalizing i with
  | zero =>
    intro hk hi
    rw [Ob.lexAt_zero]
    rcases Nat.lt_or_ge xs.length ys.length with h | h
    · rw [decide_eq_true h]
      have e : i = xs.length := by omega
      rw [e, List.drop_length, List.drop_eq_getElem_cons h] <;> rfl
    · rw [decide_eq_false (by omega)]
      have e : i = ys.length := by omega
      rw [e, List.drop_length]
      rcases Nat.lt_or_ge ys.length xs.length with h2 | h2
      · rw [List.drop_eq_getElem_cons h2] <;> rfl
      · have : xs.drop ys.length = [] := List.drop_eq_nil_of_le h2
        rw [this] <;> rfl
  | succ k ih =>
    intro hk hi
    have h1 : i < xs.length := by omega
    have h2 : i < ys.length := by omega
    rw [Ob.lexAt_succ, List.drop_eq_getElem_cons h1, List.drop_eq_getElem_cons h2]
    have g1 : xs.getD i .none = xs[i] := by simp [h1]
    have g2 : ys.getD i .none = ys[i] := by simp [h2]
    simp only [g1, g2, ltAll]
    rw [ih (i + 1) (by omega) (by omega)]
theorem cmbAll_at : ∀ {xs ys : List PyData}, cmbAll xs ys = true → ∀ (j : Nat) (a b : PyData), xs[j]? = some a → ys[j]? = some b → cmb a b = true
  | [], _, _, j, _, _, h, _ => by simp at h
  | _ :: _, [], _, j, _, _, _, h => by simp at h
  | x :: xs, y :: ys, h, 0, a, b, h1, h2 => by
    simp at h1 h2; subst h1 h2
    exact (Bool.and_eq_true_iff.mp (by simpa [cmbAll] using h)).1
  | x :: xs, y :: ys, h, j + 1, a, b, h1, h2 => by
    have h' : cmb x y = true ∧ cmbAll xs ys = true := by simpa [cmbAll] using h
    exact cmbAll_at h'.2 j a b (by simpa using h1) (by simpa using h2)
theorem canLay_at : ∀ {xs : List PyData}, PyData.canLayAll0 xs = true → ∀ (j : Nat) (a : PyData), xs[j]? = some a → a.canLay0 = true ∧ a.depth ≤ PyData.depthAll xs
  | [], _, j, _, h => by simp at h
  | x :: xs, h, 0, a, h1 => by
    simp at h1; subst h1
    exact ⟨(Bool.and_eq_true_iff.mp (by simpa [PyData.canLayAll0] using h)).1, by simp only [PyData.depthAll]; omega⟩
  | x :: xs, h, j + 1, a, h1 => by
    have h' : x.canLay0 = true ∧ PyData.canLayAll0 xs = true := by simpa [PyData.canLayAll0] using h
    obtain ⟨k1, k2⟩ := canLay_at h'.2 j a (by simpa using h1)
    exact ⟨k1, by simp only [PyData.depthAll]; omega⟩
/-- < of two data -/
theorem lt_data : ∀ (n : Nat) (A : Around) (x y : PyData) (v u : Value) (as bs : List Addr), x.depth ≤ n → cmb x y = true → x.canLay0 = true → y.canLay0 = true → Reads s.heap v x as → Reads s.heap u y bs → A.units + n + 1 < cLine → Ob.RcOp .Lt A s v u (ltD x y) := by
  intro n
  induction n with
  | zero =>
    intro A x y v u as bs hd hc hx hy rv ru hu
    cases x with
    | int i =>
      cases y with
      | int j =>
        cases rv; cases ru
        exact Ob.RcOp.lt_int _ _ _ _
      | _ => simp [cmb] at hc
    | tuple xs => simp [PyData.depth] at hd
    | _ => cases y <;> simp [cmb] at hc
  | succ n ih =>
    intro A x y v u as bs hd hc hx hy rv ru hu
    cases x with
    | int i =>
      cases y with
      | int j =>
        cases rv; cases ru
        exact Ob.RcOp.lt_int _ _ _ _
      | _ => simp [cmb] at hc
    | tuple xs =>
      cases y with
      | tuple ys =>
        have hc' : cmbAll xs ys = true := by simpa [cmb] using hc
        have hx' : PyData.canLayAll0 xs = true := by simpa [PyData.canLay0] using hx
        have hy' : PyData.canLayAll0 ys = true := by simpa [PyData.canLay0] using hy
        have hd' : PyData.depthAll xs ≤ n := by simp only [PyData.depth] at hd; omega
        cases rv with
        | tuple o1 c1 d1 r1 =>
          cases ru with
          | tuple o2 c2 d2 r2 =>
            rename_i a1 ob1 vs1 n1 a2 ob2 vs2 n2
            have l1 := readsAll_len r1
            have l2 := readsAll_len r2
            simp only [Array.length_toList] at l1 l2
            have key := Ob.RcOp.tuples_lt (A := A) (s := s) (l := a1) (b := a2) (items := vs1) (items2 := vs2) (e := fun j => PyData.eqv (xs.getD j .none) (ys.getD j .none)) (r := fun j => ltD (xs.getD j .none) (ys.getD j .none))
              ⟨_, o1, c1, _, d1⟩ ⟨_, o2, c2, _, d2⟩ (by omega) (fun j h1 h2 => ?_) (fun j h1 h2 _ => ?_)
            · have e := lex_all xs ys 0 (min vs1.size vs2.size) (by rw [l1, l2]; rfl) (Nat.zero_le _)
              rw [l1, l2] at key e
              rw [e] at key
              exact key
            · obtain ⟨d, ds, e1, q1⟩ := readsAll_get r1 j (by simpa using h1)
              obtain ⟨e, es, e2, q2⟩ := readsAll_get r2 j (by simpa using h2)
              have g1 : xs.getD j .none = d := by rw [List.getD_eq_getElem?_getD, e1] <;> rfl
              have g2 : ys.getD j .none = e := by rw [List.getD_eq_getElem?_getD, e2] <;> rfl
              obtain ⟨k1, k2⟩ := canLay_at hx' j d e1
              obtain ⟨k3, k4⟩ := canLay_at hy' j e e2
              show SeqAt.EqAt A.in1 s vs1[j] vs2[j] (PyData.eqv (xs.getD j .none) (ys.getD j .none))
              rw [g1, g2]
              refine SeqAt.eqAt_reads d e A.in1 s _ _ _ _ (by simpa using q1) (by simpa using q2) k1 k3 ?_
              show A.units + 1 + min d.depth e.depth < cLine
              have := Nat.min_le_left d.depth e.depth
              omega
            · obtain ⟨d, ds, e1, q1⟩ := readsAll_get r1 j (by simpa using h1)
              obtain ⟨e, es, e2, q2⟩ := readsAll_get r2 j (by simpa using h2)
              have g1 : xs.getD j .none = d := by rw [List.getD_eq_getElem?_getD, e1] <;> rfl
              have g2 : ys.getD j .none = e := by rw [List.getD_eq_getElem?_getD, e2] <;> rfl
              obtain ⟨k1, k2⟩ := canLay_at hx' j d e1
              obtain ⟨k3, k4⟩ := canLay_at hy' j e e2
              show Ob.RcOp .Lt A.in1 s vs1[j] vs2[j] (ltD (xs.getD j .none) (ys.getD j .none))
              rw [g1, g2]
              refine ih A.in1 d e _ _ _ _ (by omega) (cmbAll_at hc' j d e e1 e2) k1 k3 (by simpa using q1) (by simpa using q2) ?_
              show A.units + 1 + n + 1 < cLine
              omega
      | _ => simp [cmb] at hc
    | _ => cases y <;> simp [cmb] at hc
end
/-! ### one order for all: a strict weak one -/
def cmpI (i j : Int) : Ordering := if i < j then .lt else if j < i then .gt else .eq
mutual
def cmpX : PyData → PyData → Ordering
  | .int i, .int j => cmpI i j
  | .int _, _ => .lt
  | .tuple _, .int _ => .gt
  | .tuple xs, .tuple ys => cmpXs xs ys
  | .tuple _, _ => .lt
  | _, .int _ => .gt
  | _, .tuple _ => .gt
  | _, _ => .eq
def cmpXs : List PyData → List PyData → Ordering
  | [], [] => .eq
  | [], _ :: _ => .lt
  | _ :: _, [] => .gt
  | x :: xs, y :: ys => match cmpX x y with
    | .eq => cmpXs xs ys
    | o => o
end
def ltX (x y : PyData) : Bool := cmpX x y == .lt
def ltXs (x y : List PyData) : Bool := cmpXs x y == .lt
theorem cmpI_swap (i j : Int) : cmpI j i = (cmpI i j).swap := by
  unfold cmpI
  by_cases h1 : i < j
  · rw [if_pos h1, if_neg (by omega), if_pos h1]; rfl
  · by_cases h2 : j < i
    · rw [if_pos h2, if_neg h1, if_pos h2]; rfl
    · rw [if_neg h2, if_neg h1, if_neg h1, if_neg h2]; rfl
mutual
theorem cmpX_swap : ∀ x y : PyData, cmpX y x = (cmpX x y).swap
  | .int i, .int j => by simp only [cmpX]; exact cmpI_swap i j
  | .tuple xs, .tuple ys => by simp only [cmpX]; exact cmpXs_swap xs ys
  | .int _, .tuple _ => rfl | .int _, .none => rfl | .int _, .bool _ => rfl | .int _, .str _ => rfl | .int _, .list _ => rfl | .int _, .dict _ => rfl
  | .tuple _, .int _ => rfl | .tuple _, .none => rfl | .tuple _, .bool _ => rfl | .tuple _, .str _ => rfl | .tuple _, .list _ => rfl | .tuple _, .dict _ => rfl
  | .none, .int _ => rfl | .none, .tuple _ => rfl | .none, .none => rfl | .none, .bool _ => rfl | .none, .str _ => rfl | .none, .list _ => rfl | .none, .dict _ => rfl
  | .bool _, .int _ => rfl | .bool _, .tuple _ => rfl | .bool _, .none => rfl | .bool _, .bool _ => rfl | .bool _, .str _ => rfl | .bool _, .list _ => rfl | .bool _, .dict _ => rfl
  | .str _, .int _ => rfl | .str _, .tuple _ => rfl | .str _, .none => rfl | .str _, .bool _ => rfl | .str _, .str _ => rfl | .str _, .list _ => rfl | .str _, .dict _ => rfl
  | .list _, .int _ => rfl | .list _, .tuple _ => rfl | .list _, .none => rfl | .list _, .bool _ => rfl | .list _, .str _ => rfl | .list _, .list _ => rfl | .list _, .dict _ => rfl
  | .dict _, .int _ => rfl | .dict _, .tuple _ => rfl | .dict _, .none => rfl | .dict _, .bool _ => rfl | .dict _, .str _ => rfl | .dict _, .list _ => rfl | .dict _, .dict _ => rfl
theorem cmpXs_swap : ∀ xs ys : List PyData, cmpXs ys xs = (cmpXs xs ys).swap
  | [], [] => rfl
  | [], _ :: _ => rfl
  | _ :: _, [] => rfl
  | x :: xs, y :: ys => by
    simp only [cmpXs]
    rw [cmpX_swap x y, cmpXs_swap xs ys]
    cases cmpX x y <;> rfl
end
/-- x ≤ y ≤ z -/
def Tri (a b c : Ordering) : Prop := a ≠ .gt → b ≠ .gt → c ≠ .gt ∧ (c = .eq → a = .eq ∧ b = .eq)
theorem tri_I (i j k : Int) : Tri (cmpI i j) (cmpI j k) (cmpI i k) := by
  unfold Tri cmpI
  (repeat' split) <;> first | omega | simp
theorem tri_gt {b c : Ordering} : Tri .gt b c := fun h _ => absurd rfl h
theorem tri_gt2 {a c : Ordering} : Tri a .gt c := fun _ h => absurd rfl h
theorem tri_lt {a b : Ordering} : Tri a b .lt := fun _ _ => ⟨by simp, by simp⟩
theorem tri_eq : Tri .eq .eq .eq := fun _ _ => ⟨by simp, by simp⟩
mutual
theorem tri_X : ∀ x y z : PyData, Tri (cmpX x y) (cmpX y z) (cmpX x z)
  | .int i, .int j, .int k => by simp only [cmpX]; exact tri_I i j k
  | .tuple xs, .tuple ys, .tuple zs => by simp only [cmpX]; exact tri_Xs xs ys zs
  | .int _, _, .tuple _ => tri_lt | .int _, _, .none => tri_lt | .int _, _, .bool _ => tri_lt | .int _, _, .str _ => tri_lt | .int _, _, .list _ => tri_lt | .int _, _, .dict _ => tri_lt
  | .tuple _, _, .none => tri_lt | .tuple _, _, .bool _ => tri_lt | .tuple _, _, .str _ => tri_lt | .tuple _, _, .list _ => tri_lt | .tuple _, _, .dict _ => tri_lt
  | .int _, .tuple _, .int _ => tri_gt2 | .int _, .none, .int _ => tri_gt2 | .int _, .bool _, .int _ => tri_gt2 | .int _, .str _, .int _ => tri_gt2 | .int _, .list _, .int _ => tri_gt2 | .int _, .dict _, .int _ => tri_gt2
  | .tuple _, .int _, .int _ => tri_gt | .tuple _, .int _, .tuple _ => tri_gt
  | .tuple _, .tuple _, .int _ => tri_gt2
  | .tuple _, .none, .int _ => tri_gt2 | .tuple _, .bool _, .int _ => tri_gt2 | .tuple _, .str _, .int _ => tri_gt2 | .tuple _, .list _, .int _ => tri_gt2 | .tuple _, .dict _, .int _ => tri_gt2
  | .tuple _, .none, .tuple _ => tri_gt2 | .tuple _, .bool _, .tuple _ => tri_gt2 | .tuple _, .str _, .tuple _ => tri_gt2 | .tuple _, .list _, .tuple _ => tri_gt2 | .tuple _, .dict _, .tuple _ => tri_gt2
  | .none, .int _, _ => tri_gt | .none, .tuple _, _ => tri_gt
  | .bool _, .int _, _ => tri_gt | .bool _, .tuple _, _ => tri_gt
  | .str _, .int _, _ => tri_gt | .str _, .tuple _, _ => tri_gt
  | .list _, .int _, _ => tri_gt | .list _, .tuple _, _ => tri_gt
  | .dict _, .int _, _ => tri_gt | .dict _, .tuple _, _ => tri_gt
  | .none, y, z => by cases y <;> cases z <;> first | exact tri_eq | exact tri_gt2 | exact tri_gt
  | .bool _, y, z => by cases y <;> cases z <;> first | exact tri_eq | exact tri_gt2 | exact tri_gt
  | .str _, y, z => by cases y <;> cases z <;> first | exact tri_eq | exact tri_gt2 | exact tri_gt
  | .list _, y, z => by cases y <;> cases z <;> first | exact tri_eq | exact tri_gt2 | exact tri_gt
  | .dict _, y, z => by cases y <;> cases z <;> first | exact tri_eq | exact tri_gt2 | exact tri_gt
theorem tri_Xs : ∀ xs ys zs : List PyData, Tri (cmpXs xs ys) (cmpXs ys zs) (cmpXs xs zs)
  | [], [], [] => tri_eq
  | [], _, _ :: _ => tri_lt
  | [], _ :: _, [] => tri_gt2
  | _ :: _, [], _ => tri_gt
  | _ :: _, _ :: _, [] => tri_gt2
  | x :: xs, y :: ys, z :: zs => by
    have h1 := tri_X x y z
    have h2 := tri_Xs xs ys zs
    simp only [cmpXs]
    cases e1 : cmpX x y <;> cases e2 : cmpX y z <;> cases e3 : cmpX x z <;> simp_all [Tri]
end
theorem ltXs_asym (xs ys : List PyData) (h : ltXs xs ys = true) : ltXs ys xs = false := by
  unfold ltXs at *
  rw [cmpXs_swap xs ys]
  have e : cmpXs xs ys = .lt := by simpa using h
  rw [e]; rfl
theorem ltXs_tr (xs ys zs : List PyData) (h1 : ltXs ys xs = false) (h2 : ltXs zs ys = false) : ltXs zs xs = false := by
  unfold ltXs at *
  have a1 : cmpXs xs ys ≠ .gt := fun e => by rw [cmpXs_swap xs ys, e] at h1; simp [Ordering.swap] at h1
  have a2 : cmpXs ys zs ≠ .gt := fun e => by rw [cmpXs_swap ys zs, e] at h2; simp [Ordering.swap] at h2
  have := (tri_Xs xs ys zs a1 a2).1
  rw [cmpXs_swap xs zs]
  cases e : cmpXs xs zs <;> simp_all [Ordering.swap]
theorem swo_Xs : SrtO.Swo ltXs := ⟨ltXs_asym, ltXs_tr⟩
/-! on ints and tuples of such -/
mutual
def frg : PyData → Bool
  | .int _ => true
  | .tuple xs => frgs xs
  | _ => false
def frgs : List PyData → Bool
  | [] => true
  | x :: xs => frg x && frgs xs
end
mutual
theorem eqv_cmpX : ∀ x y : PyData, frg x = true → frg y = true → PyData.eqv x y = (cmpX x y == .eq)
  | .int i, .int j, _, _ => by
    have : PyData.eqv (.int i) (.int j) = (i == j) := by simp only [PyData.eqv]
    rw [this]
    simp only [cmpX, cmpI]
    by_cases h : i = j
    · subst h; simp
    · have h1 : (i == j) = false := by simpa using h
      rw [h1]
      rcases Int.lt_or_gt_of_ne h with h2 | h2
      · rw [if_pos h2]; rfl
      · rw [if_neg (by omega), if_pos h2]; rfl
  | .int i, .tuple ys, _, _ => by simp [PyData.eqv, cmpX]
  | .tuple xs, .int j, _, _ => by simp [PyData.eqv, cmpX]
  | .tuple xs, .tuple ys, h1, h2 => by
    have : PyData.eqv (.tuple xs) (.tuple ys) = PyData.eqvAll xs ys := by simp only [PyData.eqv]
    rw [this]
    simp only [cmpX]
    exact eqv_cmpXs xs ys (by simpa [frg] using h1) (by simpa [frg] using h2)
  | .none, _, h, _ => by simp [frg] at h
  | .bool _, _, h, _ => by simp [frg] at h
  | .str _, _, h, _ => by simp [frg] at h
  | .list _, _, h, _ => by simp [frg] at h
  | .dict _, _, h, _ => by simp [frg] at h
  | .int _, .none, _, h => by simp [frg] at h
  | .int _, .bool _, _, h => by simp [frg] at h
  | .int _, .str _, _, h => by simp [frg] at h
  | .int _, .list _, _, h => by simp [frg] at h
  | .int _, .dict _, _, h => by simp [frg] at h
  | .tuple _, .none, _, h => by simp [frg] at h
  | .tuple _, .bool _, _, h => by simp [frg] at h
  | .tuple _, .str _, _, h => by simp [frg] at h
  | .tuple _, .list _, _, h => by simp [frg] at h
  | .tuple _, .dict _, _, h => by simp [frg] at h
theorem eqv_cmpXs : ∀ xs ys : List PyData, frgs xs = true → frgs ys = true → PyData.eqvAll xs ys = (cmpXs xs ys == .eq)
  | [], [], _, _ => by simp [PyData.eqvAll, cmpXs]
  | [], _ :: _, _, _ => by simp [PyData.eqvAll, cmpXs]
  | _ :: _, [], _, _ => by simp [PyData.eqvAll, cmpXs]
  | x :: xs, y :: ys, h1, h2 => by
    have a : frg x = true ∧ frgs xs = true := by simpa [frgs] using h1
    have b : frg y = true ∧ frgs ys = true := by simpa [frgs] using h2
    have : PyData.eqvAll (x :: xs) (y :: ys) = (PyData.eqv x y && PyData.eqvAll xs ys) := by simp only [PyData.eqvAll]
    rw [this, eqv_cmpX x y a.1 b.1, eqv_cmpXs xs ys a.2 b.2]
    simp only [cmpXs]
    cases cmpX x y <;> simp
end
mutual
theorem ltD_ltX : ∀ x y : PyData, frg x = true → frg y = true → cmb x y = true → ltD x y = ltX x y
  | .int i, .int j, _, _, _ => by
    simp only [ltD, ltX, cmpX, cmpI]
    by_cases h : i < j
    · rw [if_pos h, decide_eq_true h]; rfl
    · rw [if_neg h, decide_eq_false h]
      by_cases h2 : j < i
      · rw [if_pos h2]; rfl
      · rw [if_neg h2]; rfl
  | .tuple xs, .tuple ys, h1, h2, h3 => by
    simp only [ltD, ltX, cmpX]
    exact ltAll_ltXs xs ys (by simpa [frg] using h1) (by simpa [frg] using h2) (by simpa [cmb] using h3)
  | .int _, .tuple _, _, _, h => by simp [cmb] at h
  | .tuple _, .int _, _, _, h => by simp [cmb] at h
  | .none, _, h, _, _ => by simp [frg] at h
  | .bool _, _, h, _, _ => by simp [frg] at h
  | .str _, _, h, _, _ => by simp [frg] at h
  | .list _, _, h, _, _ => by simp [frg] at h
  | .dict _, _, h, _, _ => by simp [frg] at h
  | .int _, .none, _, h, _ => by simp [frg] at h
  | .int _, .bool _, _, h, _ => by simp [frg] at h
  | .int _, .str _, _, h, _ => by simp [frg] at h
  | .int _, .list _, _, h, _ => by simp [frg] at h
  | .int _, .dict _, _, h, _ => by simp [frg] at h
  | .tuple _, .none, _, h, _ => by simp [frg] at h
  | .tuple _, .bool _, _, h, _ => by simp [frg] at h
  | .tuple _, .str _, _, h, _ => by simp [frg] at h
  | .tuple _, .list _, _, h, _ => by simp [frg] at h
  | .tuple _, .dict _, _, h, _ => by simp [frg] at h
theorem ltAll_ltXs : ∀ xs ys : List PyData, frgs xs = true → frgs ys = true → cmbAll xs ys = true → ltAll xs ys = ltXs xs ys
  | [], [], _, _, _ => by simp [ltAll, ltXs, cmpXs]
  | [], _ :: _, _, _, _ => by simp [ltAll, ltXs, cmpXs]
  | _ :: _, [], _, _, _ => by simp [ltAll, ltXs, cmpXs]
  | x :: xs, y :: ys, h1, h2, h3 => by
    have a : frg x = true ∧ frgs xs = true := by simpa [frgs] using h1
    have b : frg y = true ∧ frgs ys = true := by simpa [frgs] using h2
    have c : cmb x y = true ∧ cmbAll xs ys = true := by simpa [cmbAll] using h3
    have ih := ltAll_ltXs xs ys a.2 b.2 c.2
    unfold ltXs at ih ⊢
    simp only [ltAll, cmpXs]
    rw [eqv_cmpX x y a.1 b.1, ltD_ltX x y a.1 b.1 c.1, ih]
    unfold ltX
    cases cmpX x y <;> simp
end
mutual
theorem frg_lay : ∀ x : PyData, frg x = true → x.canLay0 = true
  | .int _, _ => by simp [PyData.canLay0]
  | .tuple xs, h => by simp only [PyData.canLay0]; exact frgs_lay xs (by simpa [frg] using h)
  | .none, h => by simp [frg] at h
  | .bool _, h => by simp [frg] at h
  | .str _, h => by simp [frg] at h
  | .list _, h => by simp [frg] at h
  | .dict _, h => by simp [frg] at h
theorem frgs_lay : ∀ x : List PyData, frgs x = true → PyData.canLayAll0 x = true
  | [], _ => by simp [PyData.canLayAll0]
  | x :: xs, h => by
    have a : frg x = true ∧ frgs xs = true := by simpa [frgs] using h
    simp [PyData.canLayAll0, frg_lay x a.1, frgs_lay xs a.2]
end

/-! ### a plain stable sort -/
section sort
variable {α : Type} {lt : α → α → Bool}
def ins (lt : α → α → Bool) (x : α) : List α → List α
  | [] => [x]
  | y :: ys => if lt y x then y :: ins lt x ys else x :: y :: ys
def isort (lt : α → α → Bool) : List α → List α
  | [] => []
  | x :: xs => ins lt x (isort lt xs)
theorem ins_perm (x : α) : ∀ l : List α, (ins lt x l).Perm (x :: l)
  | [] => List.Perm.refl _
  | y :: ys => by
    unfold ins
    split
    · exact ((ins_perm x ys).cons y).trans (List.Perm.swap x y ys)
    · exact List.Perm.refl _
theorem isort_perm : ∀ l : List α, (isort lt l).Perm l
  | [] => List.Perm.refl _
  | x :: xs => (ins_perm x _).trans ((isort_perm xs).cons x)
theorem ins_sorted (O : SrtO.Swo lt) (x : α) : ∀ l : List α, SrtO.Srtd lt l → SrtO.Srtd lt (ins lt x l)
  | [], _ => SrtO.srtd_one x
  | y :: ys, h => by
    unfold ins
    have h' := List.pairwise_cons.mp h
    cases q : lt y x with
    | true =>
      rw [if_pos rfl]
      refine List.pairwise_cons.mpr ⟨fun z hz => ?_, ins_sorted O x ys h'.2⟩
      rcases List.mem_cons.mp ((ins_perm x ys).mem_iff.mp hz) with e | hz
      · rw [e]; exact O.asym y x q
      · exact h'.1 z hz
    | false =>
      rw [if_neg (by decide)]
      refine List.pairwise_cons.mpr ⟨fun z hz => ?_, h⟩
      rcases List.mem_cons.mp hz with e | hz
      · rw [e]; exact q
      · exact O.tr x y z q (h'.1 z hz)
theorem isort_sorted (O : SrtO.Swo lt) : ∀ l : List α, SrtO.Srtd lt (isort lt l)
  | [] => List.Pairwise.nil
  | x :: xs => ins_sorted O x _ (isort_sorted O xs)
theorem ins_stb (O : SrtO.Swo lt) (x : α) : ∀ l : List α, SrtO.Stb lt (ins lt x l) (x :: l)
  | [] => SrtO.Stb.refl _
  | y :: ys => by
    unfold ins
    cases q : lt y x with
    | true =>
      rw [if_pos rfl]
      have h1 : SrtO.Stb lt ([y] ++ ins lt x ys) ([y] ++ (x :: ys)) := (SrtO.Stb.refl [y]).app (ins_stb O x ys)
      have h2 : SrtO.Stb lt (([y] ++ [x]) ++ ys) (([x] ++ [y]) ++ ys) := (SrtO.Stb.swap O (A := [y]) (B := [x]) fun a ha b hb => by rw [List.mem_singleton.mp ha, List.mem_singleton.mp hb]; exact q).app (SrtO.Stb.refl ys)
      exact h1.trans h2
    | false => rw [if_neg (by decide)]; exact SrtO.Stb.refl _
theorem isort_stb (O : SrtO.Swo lt) : ∀ l : List α, SrtO.Stb lt (isort lt l) l
  | [] => SrtO.Stb.refl _
  | x :: xs => (ins_stb O x _).trans ((SrtO.Stb.refl [x]).app (isort_stb O xs))
end sort
end Lc

set_option Elab.async false
set_option linter.all false
set_option maxRecDepth 100000
set_option maxHeartbeats 4000000
namespace SrtO
open PySem PyProof.Rows Srt Lc
section
variable {prog : Program} {w : World} {A : Around} {E : Value → Shared → Prop} {s : Shared}
theorem katlex_data {b : Bool} (hu : A.units + 60 < cLine) : ∀ (xs ys : List Value) (ds es : List PyData) (as bs : List Addr) (i : Nat), ReadsAll s.heap xs ds as → ReadsAll s.heap ys es bs → frgs ds = true → frgs es = true → PyData.depthAll ds ≤ 40 → cmbAll ds es = true →
    (b = true → i = 0 → (∀ d r, ds = d :: r → ∃ n, d = .int n) ∧ (∀ d r, es = d :: r → ∃ n, d = .int n)) →
    PySem.W.KatLex prog w A b (decide (xs.length < ys.length)) (fun r s' => s' = s ∧ r = ltAll ds es) (xs.zip ys) i s
  | [], [], _, _, _, _, i, .nil, .nil, _, _, _, _, _ => PySem.W.kat_nil ⟨rfl, by simp [ltAll]⟩
  | [], _ :: _, _, _, _, _, i, .nil, .cons _ _, _, _, _, _, _ => PySem.W.kat_nil ⟨rfl, by simp [ltAll]⟩
  | _ :: _, [], _, _, _, _, i, .cons _ _, .nil, _, _, _, _, _ => PySem.W.kat_nil ⟨rfl, by simp [ltAll]⟩
  | x :: xs, y :: ys, d :: ds, e :: es, _, _, i, .cons rx tx, .cons ry ty, f1, f2, hd, hc, hb => by
    have a : frg d = true ∧ frgs ds = true := by simpa [frgs] using f1
    have b' : frg e = true ∧ frgs es = true := by simpa [frgs] using f2
    have c : cmb d e = true ∧ cmbAll ds es = true := by simpa [cmbAll] using hc
    have hd1 : d.depth ≤ 40 ∧ PyData.depthAll ds ≤ 40 := by simp only [PyData.depthAll] at hd; omega
    have hmin := Nat.min_le_left d.depth e.depth
    have ih := katlex_data (b := b) hu xs ys ds es _ _ (i + 1) tx ty a.2 b'.2 hd1.2 c.2 (fun _ h => by omega)
    refine PySem.W.kat_cons (SeqAt.eqAt_reads d e A s x y _ _ rx ry (frg_lay d a.1) (frg_lay e b'.1) (by omega) prog w _ _ ?_)
    refine PySem.W.kat_go (fun e1 => ?_) (fun e1 => ?_)
    · have el : ltAll (d :: ds) (e :: es) = ltAll ds es := by simp only [ltAll]; rw [e1]; rfl
      rw [el]
      have ez : decide ((x :: xs).length < (y :: ys).length) = decide (xs.length < ys.length) := by simp
      rw [ez]
      exact PySem.W.kat_yes ih
    · have el : ltAll (d :: ds) (e :: es) = ltD d e := by simp only [ltAll]; rw [e1]; rfl
      rw [el]
      refine PySem.W.kat_no ?_
      cases hbi : (b && i == 0) with
      | true =>
        have hb1 : b = true ∧ i = 0 := by simpa using hbi
        obtain ⟨k1, k2⟩ := hb hb1.1 hb1.2
        obtain ⟨n, rfl⟩ := k1 d ds rfl
        obtain ⟨m, rfl⟩ := k2 e es rfl
        cases rx; cases ry
        exact oneLt_int ⟨rfl, by simp [ltD]⟩
      | false =>
        refine PySem.W.kat_one _ _ (lt_data 40 A d e x y _ _ hd1.1 c.1 (frg_lay d a.1) (frg_lay e b'.1) rx ry (by omega) prog w _ _ ?_)
        exact (show s = s ∧ ltD d e = ltD d e from ⟨rfl, rfl⟩)
/-- v is a tuple of the data k -/
def IsTD (h : Heap) (v : Value) (k : List PyData) : Prop := ∃ a o vs n as, v = .ref a ∧ h.get? a = some o ∧ o.cls = .type "tuple" ∧ o.data = .seq vs n ∧ ReadsAll h vs.toList k as ∧ frgs k = true ∧ PyData.depthAll k ≤ 40
theorem tups_cmp {vs : List Value} {k : Value → List PyData} {b : Bool} (hu : A.units + 60 < cLine) (hk : ∀ v ∈ vs, IsTD s.heap v (k v)) (hc : ∀ v ∈ vs, ∀ u ∈ vs, cmbAll (k v) (k u) = true) (hb : b = true → ∀ v ∈ vs, ∃ n r, k v = .int n :: r) :
    Cmp prog w A s (tuples' b) (fun p => p.1 ∈ vs) (lt2 fun v u => ltXs (k v) (k u)) := by
  intro p q hm hm'
  show wpAny (model prog w) A (keyLt' (tuples' b) p.1 q.1) (fun r s' => s' = s ∧ r = ltXs (k p.1) (k q.1)) (fun _ _ => False) s
  have c := hc _ hm _ hm'
  have b1 := fun h => hb h _ hm
  have b2 := fun h => hb h _ hm'
  have h1 := hk _ hm
  have h2 := hk _ hm'
  generalize k p.1 = d at *
  generalize k q.1 = e at *
  obtain ⟨a, o, xs, n, as, e1, ho, hcl, hd, r1, f1, z1⟩ := h1
  obtain ⟨a', o', ys, n', as', e2, ho', hcl', hd', r2, f2, z2⟩ := h2
  rw [e1, e2, ← ltAll_ltXs d e f1 f2 c]
  refine PySem.W.kat_lt ho hd ho' hd' ?_
  have key := katlex_data (prog := prog) (w := w) (s := s) (b := b) hu xs.toList ys.toList d e as as' 0 r1 r2 f1 f2 z1 c (fun hbt _ => ⟨fun d' r' ed => ?_, fun d' r' ed => ?_⟩)
  · simpa using key
  · obtain ⟨n, r, eq⟩ := b1 hbt
    rw [eq] at ed; cases ed; exact ⟨n, rfl⟩
  · obtain ⟨n, r, eq⟩ := b2 hbt
    rw [eq] at ed; cases ed; exact ⟨n, rfl⟩
theorem katTups_of {h : Heap} : ∀ (vs : List Value) {k : Value → List PyData}, (∀ v ∈ vs, IsTD h v (k v)) → (∀ v ∈ vs, k v ≠ []) → ∃ fs, PySem.W.KatTups h vs fs ∧ fs.length = vs.length ∧ ∀ f ∈ fs, ∃ v ∈ vs, ∃ d r as, k v = d :: r ∧ Reads h f d as
  | [], _, _, _ => ⟨[], trivial, rfl, fun f hf => by simp at hf⟩
  | v :: vs, k, hk, hn => by
    obtain ⟨fs, h1, h2, h3⟩ := katTups_of vs (k := k) (fun u hu => hk u (by simp [hu])) (fun u hu => hn u (by simp [hu]))
    obtain ⟨a, o, xs, n, as, e1, ho, hc, hd, r1, f1, z1⟩ := hk v (by simp)
    have hne := hn v (by simp)
    cases ek : k v with
    | nil => exact absurd ek hne
    | cons d r =>
      rw [ek] at r1
      cases hxs : xs.toList with
      | nil => rw [hxs] at r1; cases r1
      | cons f fr =>
        rw [hxs] at r1
        cases r1 with
        | cons rf rt =>
          have hf : xs[0]? = some f := by
            rw [← Array.getElem?_toList, hxs] <;> rfl
          subst e1
          refine ⟨f :: fs, ⟨⟨a, o, xs, n, rfl, ho, hc, hd, hf⟩, h1⟩, by simp [h2], fun g hg => ?_⟩
          rcases List.mem_cons.mp hg with e | hg
          · subst e; exact ⟨_, by simp, d, r, _, ek, rf⟩
          · obtain ⟨u, hu, q⟩ := h3 g hg
            exact ⟨u, by simp [hu], q⟩
mutual
theorem reads_keeps {h h' : Heap} (kp : ∀ b o, h.get? b = some o → o.cls = .type "tuple" → h'.get? b = some o) : ∀ (d : PyData) {v : Value} {as : List Addr}, frg d = true → Reads h v d as → Reads h' v d as
  | .int i, _, _, _, r => by cases r; exact .int _ _
  | .tuple xs, _, _, f, r => by
    cases r with
    | tuple h1 h2 h3 h4 => exact .tuple (kp _ _ h1 h2) h2 h3 (readsAll_keeps kp xs (by simpa [frg] using f) h4)
  | .none, _, _, f, _ => by simp [frg] at f
  | .bool _, _, _, f, _ => by simp [frg] at f
  | .str _, _, _, f, _ => by simp [frg] at f
  | .list _, _, _, f, _ => by simp [frg] at f
  | .dict _, _, _, f, _ => by simp [frg] at f
theorem readsAll_keeps {h h' : Heap} (kp : ∀ b o, h.get? b = some o → o.cls = .type "tuple" → h'.get? b = some o) : ∀ (ds : List PyData) {vs : List Value} {as : List Addr}, frgs ds = true → ReadsAll h vs ds as → ReadsAll h' vs ds as
  | [], _, _, _, r => by cases r; exact .nil
  | d :: ds, _, _, f, r => by
    have a : frg d = true ∧ frgs ds = true := by simpa [frgs] using f
    cases r with
    | cons h1 h2 => exact .cons (reads_keeps kp d a.1 h1) (readsAll_keeps kp ds a.2 h2)
end
theorem IsTD.keeps {h h' : Heap} {v : Value} {k : List PyData} (x : IsTD h v k) (kp : ∀ b o, h.get? b = some o → o.cls = .type "tuple" → h'.get? b = some o) : IsTD h' v k := by
  obtain ⟨a, o, xs, n, as, e1, ho, hc, hd, r1, f1, z1⟩ := x
  exact ⟨a, o, xs, n, as, e1, kp _ _ ho hc, hc, hd, readsAll_keeps kp k f1 r1, f1, z1⟩
def FirstsOk (ds : List (List PyData)) : Prop := (∀ d ∈ ds, ∃ i r, d = .int i :: r) ∨ (∀ d ∈ ds, ∃ t r, d = .tuple t :: r)
theorem tups_sortable {a : Addr} {vs : List Value} {k : Value → List PyData} (h0 : 0 < vs.length) (hu : A.units + 60 < cLine) (hk : ∀ v ∈ vs, IsTD s.heap v (k v)) (hc : ∀ v ∈ vs, ∀ u ∈ vs, cmbAll (k v) (k u) = true) (hf : FirstsOk (vs.map k))
    (ha : ∀ o, s.heap.get? a = some o → o.cls ≠ .type "tuple") : SortableO prog w A s a vs fun v u => ltXs (k v) (k u) := by
  intro h' keep
  have hk' : ∀ v ∈ vs, IsTD h' v (k v) := fun v hm => (hk v hm).keeps fun b o e c => keep b o (fun z => by subst z; exact ha o e c) e
  have hn : ∀ v ∈ vs, k v ≠ [] := fun v hv => by
    rcases hf with hf | hf
    · obtain ⟨i, r, e⟩ := hf (k v) (List.mem_map.mpr ⟨v, hv, rfl⟩); rw [e]; simp
    · obtain ⟨i, r, e⟩ := hf (k v) (List.mem_map.mpr ⟨v, hv, rfl⟩); rw [e]; simp
  obtain ⟨fs, h1, h2, h3⟩ := katTups_of (h := h') vs hk' hn
  rcases hf with hf | hf
  · refine ⟨tuples' true, fun Q E hq => ?_, tups_cmp (s := { s with heap := h' }) hu hk' hc fun _ v hv => hf (k v) (List.mem_map.mpr ⟨v, hv, rfl⟩)⟩
    refine PySem.W.kat_kind (T := .type "int") h1 (by omega) (fun f hm => ?_) (by rfl) ?_
    · obtain ⟨v, hv, d, r, as, e, rd⟩ := h3 f hm
      obtain ⟨i, r', e'⟩ := hf (k v) (List.mem_map.mpr ⟨v, hv, rfl⟩)
      rw [e'] at e
      cases e
      cases rd
      exact PySem.W.Looks.now
    · have e : (Value.type "int" != Value.type "tuple") = true := by first | decide +kernel | rfl | decide
      rw [e]
      exact hq
  · refine ⟨tuples' false, fun Q E hq => ?_, tups_cmp (s := { s with heap := h' }) hu hk' hc (fun z => by cases z)⟩
    refine PySem.W.kat_kind (T := .type "tuple") h1 (by omega) (fun f hm => ?_) (by rfl) ?_
    · obtain ⟨v, hv, d, r, as, e, rd⟩ := h3 f hm
      obtain ⟨i, r', e'⟩ := hf (k v) (List.mem_map.mpr ⟨v, hv, rfl⟩)
      rw [e'] at e
      cases e
      cases rd with
      | tuple q1 q2 q3 q4 => exact fun A Q E s k q => wpAny_typeOf_ref (k _ _ q1) (by rw [q2]; exact q)
    · have e : (Value.type "tuple" != Value.type "tuple") = false := by first | decide +kernel | rfl | decide
      rw [e]
      exact hq
theorem swo_k (k : Value → List PyData) : Swo fun v u => ltXs (k v) (k u) := ⟨fun x y h => ltXs_asym _ _ h, fun x y z h1 h2 => ltXs_tr _ _ _ h1 h2⟩
theorem sorted_tupsD {l : Addr} {vs : List Value} {k : Value → List PyData} {Q : Value → Shared → Prop} (hu : A.units + 70 < cLine) (hl : s.heap.IsList l vs.toArray) (hz : vs.length ≤ sizeLine) (hk : ∀ v ∈ vs, IsTD s.heap v (k v)) (hc : ∀ v ∈ vs, ∀ u ∈ vs, cmbAll (k v) (k u) = true) (hf : FirstsOk (vs.map k))
    (h : ∀ (h' : Heap) (d : Addr) (out : List Value), Srtd (fun v u => ltXs (k v) (k u)) out → Stb (fun v u => ltXs (k v) (k u)) out vs → (∀ b o, s.heap.get? b = some o → h'.get? b = some o) → s.heap.objs.size ≤ d → (∃ n, h'.get? d = some (seqObj "list" out.toArray n)) → Q (.ref d) { s with heap := h' }) :
    wpAny (model prog w) A (call (.builtin "sorted") [.ref l]) Q E s := by
  refine sorted_ord (swo_k k) hl hz (fun h2 h₁ a ha kk => ?_) fun out hs hb => ?_
  · refine tups_sortable (A := A.in1.in1) (s := { s with heap := h₁ }) (by omega) (show A.units + 1 + 1 + 60 < cLine by omega) (fun v hm => (hk v hm).keeps fun b o e _ => (kk b o e).2) hc hf fun o e => ?_
    have e' : some o = some (seqObj "list" vs.toArray 0) := e.symm.trans ha
    cases e'
    intro c
    exact absurd (Value.type.inj c) (by decide)
  · exact h _ _ out hs hb (fun b o e => sortedAll_old e) (Nat.le_succ _) (sortedAll_at s.heap vs out.toArray)
end
end SrtO

set_option Elab.async false
set_option linter.all false
set_option maxRecDepth 100000
set_option maxHeartbeats 4000000
namespace Lc
open PySem L2 PySem.Spec PyProof.Rows
mutual
theorem dq_uniq {K : PySem.W.Frag} {F : Hp} : ∀ (d e : PyData) {v : V}, frg d = true → frg e = true → Dq K F v d → Dq K F v e → d = e
  | .int i, .int j, _, _, _, h1, h2 => by cases h1; cases h2; rfl
  | .tuple xs, .tuple ys, _, f1, f2, h1, h2 => by
    cases h1 with
    | tup a1 a2 =>
      cases h2 with
      | tup b1 b2 =>
        rw [a1] at b1
        cases b1
        rw [dqs_uniq xs ys (by simpa [frg] using f1) (by simpa [frg] using f2) a2 b2]
  | .int _, .tuple _, _, _, _, h1, h2 => by cases h1; cases h2
  | .tuple _, .int _, _, _, _, h1, h2 => by cases h2; cases h1
  | .none, _, _, f, _, _, _ => by simp [frg] at f
  | .bool _, _, _, f, _, _, _ => by simp [frg] at f
  | .str _, _, _, f, _, _, _ => by simp [frg] at f
  | .list _, _, _, f, _, _, _ => by simp [frg] at f
  | .dict _, _, _, f, _, _, _ => by simp [frg] at f
  | .int _, .none, _, _, f, _, _ => by simp [frg] at f
  | .int _, .bool _, _, _, f, _, _ => by simp [frg] at f
  | .int _, .str _, _, _, f, _, _ => by simp [frg] at f
  | .int _, .list _, _, _, f, _, _ => by simp [frg] at f
  | .int _, .dict _, _, _, f, _, _ => by simp [frg] at f
  | .tuple _, .none, _, _, f, _, _ => by simp [frg] at f
  | .tuple _, .bool _, _, _, f, _, _ => by simp [frg] at f
  | .tuple _, .str _, _, _, f, _, _ => by simp [frg] at f
  | .tuple _, .list _, _, _, f, _, _ => by simp [frg] at f
  | .tuple _, .dict _, _, _, f, _, _ => by simp [frg] at f
theorem dqs_uniq {K : PySem.W.Frag} {F : Hp} : ∀ (ds es : List PyData) {vs : List V}, frgs ds = true → frgs es = true → DqAll K F vs ds → DqAll K F vs es → ds = es
  | [], [], _, _, _, _, _ => rfl
  | [], _ :: _, _, _, _, h1, h2 => by cases h1; cases h2
  | _ :: _, [], _, _, _, h1, h2 => by cases h2; cases h1
  | d :: ds, e :: es, _, f1, f2, h1, h2 => by
    have a : frg d = true ∧ frgs ds = true := by simpa [frgs] using f1
    have b : frg e = true ∧ frgs es = true := by simpa [frgs] using f2
    cases h1 with
    | cons h3 h4 =>
      cases h2 with
      | cons h5 h6 => rw [dq_uniq d e a.1 b.1 h3 h5, dqs_uniq ds es a.2 b.2 h4 h6]
end
/-- sorted(xs), xs a list of tuples of ints and of such tuples: a new list -/
def rSortTD (K : PySem.W.Frag) : List V → Hp → VK → Prop := fun vs H Q => ∃ (F : Hp) (a : Addr) (xs : List V) (ds : List (List PyData)), vs = [V.ref a] ∧ Same F H ∧ H a = some (.lst xs) ∧ DqAll K F xs (ds.map .tuple) ∧
  (∀ d ∈ ds, frgs d = true ∧ PyData.depthAll d ≤ 40) ∧ (∀ d ∈ ds, ∀ e ∈ ds, cmbAll d e = true) ∧ SrtO.FirstsOk ds ∧ ∀ ys p, DqAll K F ys ((isort ltXs ds).map .tuple) → H p = none → Q (.ref p) (upd H p (.lst ys))
theorem dqall_of {K : PySem.W.Frag} {F : Hp} {k : V → List PyData} : ∀ (vs : List V), (∀ v ∈ vs, Dq K F v (.tuple (k v))) → DqAll K F vs ((vs.map k).map .tuple)
  | [], _ => .nil
  | v :: vs, h => .cons (h v (by simp)) (dqall_of vs fun u hu => h u (by simp [hu]))
theorem dqall_map {K : PySem.W.Frag} {F : Hp} : ∀ {vs : List V} {ds : List (List PyData)} {k : V → List PyData}, DqAll K F vs (ds.map .tuple) → (∀ v d, v ∈ vs → d ∈ ds → Dq K F v (.tuple d) → k v = d) → vs.map k = ds
  | [], [], _, _, _ => rfl
  | [], _ :: _, _, h, _ => by cases h
  | _ :: _, [], _, h, _ => by cases h
  | v :: vs, d :: ds, k, h, hk => by
    cases h with
    | cons h1 h2 =>
      rw [List.map_cons, hk v d (by simp) (by simp) h1, dqall_map h2 fun u e hu he => hk u e (by simp [hu]) (by simp [he])]
theorem cr_sortTD {X : Cx} (hu : X.A.units + 70 < cLine) : CallR X (.builtin "sorted") (rSortTD X.K) := by
  intro pins s σ H vs us Q I r h
  obtain ⟨F, a, xs, ds, rfl, sF, hs, hx, hfr, hcm, hfi, q⟩ := h
  obtain ⟨its, rv, hl, hz⟩ := I.list (SqL.of hs)
  obtain ⟨u, rfl, ru⟩ := vals1 r
  obtain rfl : u = Value.ref a := ru
  classical
  let k : V → List PyData := fun v => if h : ∃ d, d ∈ ds ∧ Dq X.K F v (.tuple d) then h.choose else []
  have hkv : ∀ v d, d ∈ ds → Dq X.K F v (.tuple d) → k v = d := fun v d hd h => by
    have hex : ∃ d, d ∈ ds ∧ Dq X.K F v (.tuple d) := ⟨d, hd, h⟩
    show (if h : ∃ d, d ∈ ds ∧ Dq X.K F v (.tuple d) then h.choose else []) = d
    rw [dif_pos hex]
    have h2 := hex.choose_spec
    have h3 := dq_uniq (.tuple hex.choose) (.tuple d) (by simp only [frg]; exact (hfr _ h2.1).1) (by simp only [frg]; exact (hfr d hd).1) h2.2 h
    exact PyData.tuple.inj h3
  have hmem : ∀ v ∈ xs, ∃ d, d ∈ ds ∧ Dq X.K F v (.tuple d) := fun v hv => by
    obtain ⟨i, hi, e⟩ := List.mem_iff_getElem.mp hv
    have h1 : xs[i]? = some v := by rw [List.getElem?_eq_getElem hi, e]
    obtain ⟨d, h2, h3⟩ := hx.getV h1
    rw [List.getElem?_map] at h2
    cases q : ds[i]? with
    | none => rw [q] at h2; cases h2
    | some d' =>
      rw [q] at h2
      have e2 : PyData.tuple d' = d := Option.some.inj h2
      subst e2
      exact ⟨d', List.mem_of_getElem? q, h3⟩
  have emap : xs.map k = ds := dqall_map hx fun v d _ hd h => hkv v d hd h
  obtain ⟨e1, e2⟩ := refs_back rv fun x m => by
    obtain ⟨d, _, h⟩ := hmem x m
    cases h with
    | tup _ _ => exact ⟨_, rfl⟩
  have hit : ∀ v ∈ its, backV v ∈ xs := fun v hv => by rw [e1]; exact List.mem_map.mpr ⟨v, hv, rfl⟩
  have kits : its.map (fun u => k (backV u)) = ds := by rw [← emap, e1, List.map_map]; rfl
  refine SrtO.sorted_tupsD (k := fun u => k (backV u)) hu hl.isList (by rw [← rv.length]; exact hz) (fun v hv => ?_) (fun v hv u hu' => ?_) (by rw [kits]; exact hfi) fun h' d out h1 h2 kp hd hn => ?_
  · obtain ⟨t, rfl⟩ := e2 v hv
    obtain ⟨d, hd, h⟩ := hmem _ (hit _ hv)
    have ek : k (backV (.ref t)) = d := hkv _ d hd h
    show SrtO.IsTD s.heap (.ref t) (k (backV (.ref t)))
    rw [ek]
    have hd' : Dq X.K H (V.ref t) (.tuple d) := dp_same sF h
    have hdp := dq_dp _ (frg_lay (.tuple d) (by simp only [frg]; exact (hfr d hd).1)) hd'
    obtain ⟨as, rd⟩ := Dp.reads I (.tuple d) _ (.ref t) hdp rfl
    cases rd with
    | tuple q1 q2 q3 q4 => exact ⟨t, _, _, _, as, rfl, q1, q2, q3, q4, (hfr d hd).1, (hfr d hd).2⟩
  · obtain ⟨d, hd, h⟩ := hmem _ (hit _ hv)
    obtain ⟨d', hd', h'⟩ := hmem _ (hit _ hu')
    show cmbAll (k (backV v)) (k (backV u)) = true
    rw [hkv _ d hd h, hkv _ d' hd' h']
    exact hcm d hd d' hd'
  · have h3 : ∀ u ∈ out, u ∈ its := fun u hu => h2.perm.mem_iff.mp hu
    obtain ⟨n, hn⟩ := hn
    have hb := SrtO.Stb.map swo_Xs (fun u => k (backV u)) h2
    have hsd := SrtO.srtd_map (lt := ltXs) (f := fun u => k (backV u)) h1
    rw [kits] at hb
    have eo : out.map (fun u => k (backV u)) = isort ltXs ds := by
      refine SrtO.stb_uniq swo_Xs hsd (isort_sorted swo_Xs ds) (hb.trans ?_)
      have h := isort_stb swo_Xs ds
      exact ⟨h.perm.symm, fun x => (h.cls x).symm⟩
    have ho : ∀ v ∈ out.map backV, Dq X.K F v (.tuple (k v)) := fun v hv => by
      obtain ⟨u, hu, rfl⟩ := List.mem_map.mp hv
      obtain ⟨d, hd, h⟩ := hmem _ (hit _ (h3 u hu))
      rw [hkv _ d hd h]; exact h
    have hall := dqall_of (out.map backV) ho
    have hall' : DqAll X.K F (out.map backV) ((isort ltXs ds).map .tuple) := by
      rw [← eo]
      have e3 : (out.map backV).map k = out.map (fun u => k (backV u)) := by rw [List.map_map]; rfl
      rw [e3] at hall
      exact hall
    refine ⟨.ref d, upd H d (.lst (out.map backV)), I.laid (t' := s.toks) kp hd ⟨?_, out, n, vals_back (fun u hu => e2 u (h3 u hu)), hn⟩, rfl, q _ d hall' (I.hok.fresh hd)⟩
    rw [List.length_map, h2.perm.length_eq, ← rv.length]; exact hz
/-- sorted: of ints, of tuples -/
def rSortD (K : PySem.W.Frag) : List V → Hp → VK → Prop := cO (rSortedI K) (rSortTD K)
theorem cr_sortD {X : Cx} (hu : X.A.units + 70 < cLine) : CallR X (.builtin "sorted") (rSortD X.K) := cr_o cr_sortedI (cr_sortTD hu)
section
variable {K : PySem.W.Frag}
theorem ca_sortT {ds : List (List PyData)} (h1 : ∀ d ∈ ds, frgs d = true ∧ PyData.depthAll d ≤ 40) (h2 : ∀ d ∈ ds, ∀ e ∈ ds, cmbAll d e = true) (h3 : SrtO.FirstsOk ds) : CaD K (rSortD K) [.list (ds.map .tuple)] (.list ((isort ltXs ds).map .tuple)) := CaD.inr fun A xs H l hx Q q => by
  cases hx with
  | cons h4 h5 =>
    cases h5
    cases h4 with
    | lst k1 k2 => exact ⟨cut A H, _, _, ds, rfl, same_cut, same_cut _ _ k1, k2, h1, h2, h3, fun ys p hy hp => q _ _ (same_new hp) (.lst (cut_new l hp) (dpall_same (cut_same (same_new hp)) hy))⟩
/-- ints -/
def ltI (i j : Int) : Bool := decide (i < j)
theorem swo_I : SrtO.Swo ltI := ⟨fun x y h => by simp [ltI] at *; omega, fun x y z h1 h2 => by simp [ltI] at *; omega⟩
theorem perm_sorted_eq : ∀ {l m : List Int}, l.Perm m → l.Pairwise (· ≤ ·) → m.Pairwise (· ≤ ·) → l = m := fun {l m} h h1 h2 =>
  SrtO.stb_uniq (lt := ltI) swo_I (h1.imp fun {a b} hab => by simp [ltI]; omega) (h2.imp fun {a b} hab => by simp [ltI]; omega) ⟨h, fun x => by
    have aux : ∀ k : List Int, k.filter (SrtO.eqv ltI x) = List.replicate (k.count x) x := by
      intro k
      induction k with
      | nil => rfl
      | cons y k ih =>
        by_cases e : y = x
        · subst e
          rw [List.filter_cons_of_pos (by simp [SrtO.eqv, ltI]), ih, List.count_cons_self]; rfl
        · rw [List.filter_cons_of_neg (by simp [SrtO.eqv, ltI]; omega), ih, List.count_cons_of_ne (by simpa using e)]
    rw [aux, aux, h.count_eq]⟩
theorem ca_sortI {ns : List Int} : CaD K (rSortD K) [.list (ns.map .int)] (.list ((isort ltI ns).map .int)) := CaD.inl fun A xs H l hx Q q => by
  cases hx with
  | cons h4 h5 =>
    cases h5
    cases h4 with
    | lst k1 k2 =>
      have e := k2.ints; subst e
      refine ⟨_, ns, rfl, SqL.of (same_cut _ _ k1), fun ns' p hp hs hn => q _ _ (same_new hn) (.lst (cut_new l hn) ?_)⟩
      have e : ns' = isort ltI ns := perm_sorted_eq (hp.trans (isort_perm ns).symm) hs ((isort_sorted swo_I ns).imp fun {a b} hab => by simp [ltI] at hab; omega)
      rw [e]
      exact DqAll.ofInts _
end
end Lc

set_option Elab.async false
set_option linter.all false
set_option maxRecDepth 100000
set_option maxHeartbeats 4000000
namespace Lc
open PySem L2 PySem.Spec PyProof.Rows
/-! ### isinstance -/
def tyName : PyData → Option String
  | .none => some "NoneType"
  | .bool _ => some "bool"
  | .int _ => some "int"
  | .str _ => some "str"
  | .list _ => some "list"
  | .tuple _ => some "tuple"
  | .dict _ => none
theorem dq_ty {K : PySem.W.Frag} {H : Hp} {v : V} {d : PyData} {n : String} (h : Dq K H v d) (hn : tyName d = some n) : TyX K H v (.type n) := by
  cases h with
  | non => cases hn; exact .base .non
  | bl b => cases hn; exact .base (.bl b)
  | int i => cases hn; exact .base (.int i)
  | str x => cases hn; exact .base (.str x)
  | lst h1 h2 => cases hn; exact .base (.lst h1)
  | tup h1 h2 => cases hn; exact .base (.tup h1)
  | scr h1 => simp [tyName, scrD] at hn
  | adr a => simp [tyName, adrD] at hn
  | ty n => simp [tyName, tyD] at hn
def isTuple : PyData → Bool
  | .tuple _ => true
  | _ => false
def isIntB : PyData → Bool
  | .int _ => true
  | .bool _ => true
  | _ => false
def isBool : PyData → Bool
  | .bool _ => true
  | _ => false
def isStr : PyData → Bool
  | .str _ => true
  | _ => false
section
variable {K : PySem.W.Frag} {d : PyData} {ρ : Rho} {ta : TE}
/-- isinstance(e, T), T a built-in class -/
def tIsi (K : PySem.W.Frag) (T : String) (ta : TE) : TE := tCB (rIsi K) (tCons ta (tCons (tC (.ty T)) tNil))
theorem ev_isi {T : String} {n : String} {b : Bool} (h : EvD K ta ρ d) (hn : tyName d = some n) (hb : kitB n T = some b) : EvD K (tIsi K T ta) ρ (.bool b) := fun A σ H l hE Q q =>
  h A σ H l hE _ fun v H1 s1 hv => ⟨v, .ty T, .type n, .type T, b, rfl, .ty T, dq_ty (dq_out hv) hn, kit_ty hb, q _ H1 s1 (.bl _)⟩
theorem ev_isTuple (h : EvD K ta ρ d) (hd : (tyName d).isSome = true) : EvD K (tIsi K "tuple" ta) ρ (.bool (isTuple d)) := by
  cases d with
  | dict _ => simp [tyName] at hd
  | none => first | exact ev_isi (b := true) h rfl (by decide +kernel) | exact ev_isi (b := false) h rfl (by decide +kernel)
  | bool _ => first | exact ev_isi (b := true) h rfl (by decide +kernel) | exact ev_isi (b := false) h rfl (by decide +kernel)
  | int _ => first | exact ev_isi (b := true) h rfl (by decide +kernel) | exact ev_isi (b := false) h rfl (by decide +kernel)
  | str _ => first | exact ev_isi (b := true) h rfl (by decide +kernel) | exact ev_isi (b := false) h rfl (by decide +kernel)
  | list _ => first | exact ev_isi (b := true) h rfl (by decide +kernel) | exact ev_isi (b := false) h rfl (by decide +kernel)
  | tuple _ => first | exact ev_isi (b := true) h rfl (by decide +kernel) | exact ev_isi (b := false) h rfl (by decide +kernel)
theorem ev_isInt (h : EvD K ta ρ d) (hd : (tyName d).isSome = true) : EvD K (tIsi K "int" ta) ρ (.bool (isIntB d)) := by
  cases d with
  | dict _ => simp [tyName] at hd
  | none => first | exact ev_isi (b := true) h rfl (by decide +kernel) | exact ev_isi (b := false) h rfl (by decide +kernel)
  | bool _ => first | exact ev_isi (b := true) h rfl (by decide +kernel) | exact ev_isi (b := false) h rfl (by decide +kernel)
  | int _ => first | exact ev_isi (b := true) h rfl (by decide +kernel) | exact ev_isi (b := false) h rfl (by decide +kernel)
  | str _ => first | exact ev_isi (b := true) h rfl (by decide +kernel) | exact ev_isi (b := false) h rfl (by decide +kernel)
  | list _ => first | exact ev_isi (b := true) h rfl (by decide +kernel) | exact ev_isi (b := false) h rfl (by decide +kernel)
  | tuple _ => first | exact ev_isi (b := true) h rfl (by decide +kernel) | exact ev_isi (b := false) h rfl (by decide +kernel)
theorem ev_isBool (h : EvD K ta ρ d) (hd : (tyName d).isSome = true) : EvD K (tIsi K "bool" ta) ρ (.bool (isBool d)) := by
  cases d with
  | dict _ => simp [tyName] at hd
  | none => first | exact ev_isi (b := true) h rfl (by decide +kernel) | exact ev_isi (b := false) h rfl (by decide +kernel)
  | bool _ => first | exact ev_isi (b := true) h rfl (by decide +kernel) | exact ev_isi (b := false) h rfl (by decide +kernel)
  | int _ => first | exact ev_isi (b := true) h rfl (by decide +kernel) | exact ev_isi (b := false) h rfl (by decide +kernel)
  | str _ => first | exact ev_isi (b := true) h rfl (by decide +kernel) | exact ev_isi (b := false) h rfl (by decide +kernel)
  | list _ => first | exact ev_isi (b := true) h rfl (by decide +kernel) | exact ev_isi (b := false) h rfl (by decide +kernel)
  | tuple _ => first | exact ev_isi (b := true) h rfl (by decide +kernel) | exact ev_isi (b := false) h rfl (by decide +kernel)
theorem ev_isStr (h : EvD K ta ρ d) (hd : (tyName d).isSome = true) : EvD K (tIsi K "str" ta) ρ (.bool (isStr d)) := by
  cases d with
  | dict _ => simp [tyName] at hd
  | none => first | exact ev_isi (b := true) h rfl (by decide +kernel) | exact ev_isi (b := false) h rfl (by decide +kernel)
  | bool _ => first | exact ev_isi (b := true) h rfl (by decide +kernel) | exact ev_isi (b := false) h rfl (by decide +kernel)
  | int _ => first | exact ev_isi (b := true) h rfl (by decide +kernel) | exact ev_isi (b := false) h rfl (by decide +kernel)
  | str _ => first | exact ev_isi (b := true) h rfl (by decide +kernel) | exact ev_isi (b := false) h rfl (by decide +kernel)
  | list _ => first | exact ev_isi (b := true) h rfl (by decide +kernel) | exact ev_isi (b := false) h rfl (by decide +kernel)
  | tuple _ => first | exact ev_isi (b := true) h rfl (by decide +kernel) | exact ev_isi (b := false) h rfl (by decide +kernel)
theorem sh_ty {n : Nat} (h : Sh n d) : (tyName d).isSome = true := by
  cases d <;> first | rfl | (have := h.1; simp [PyData.canLay0] at this)
/-! slices -/
def cutD (xs : List PyData) (lo hi : Option Int) : List PyData := (xs.drop (HT.sIx xs.length 0 lo)).take (HT.sIx xs.length xs.length hi - HT.sIx xs.length 0 lo)
theorem cut_dq {F : Hp} {vs : List V} {ds : List PyData} {lo hi : Option Int} (h : DqAll K F vs ds) : DqAll K F (cutV vs lo hi) (cutD ds lo hi) := by
  unfold cutV cutD
  rw [h.length]
  exact (h.drop _).take _
def rSlStr : V → Option Int → Option Int → Hp → VK → Prop := fun x lo hi H Q => ∃ z, x = .str z ∧ z.length ≤ sizeLine ∧ Q (.str (cutS z lo hi)) H
def rSlU (K : PySem.W.Frag) : V → Option Int → Option Int → Hp → VK → Prop := fun x lo hi H Q => rSlL K x lo hi H Q ∨ rSlA K x lo hi H Q ∨ rSlStr x lo hi H Q
def EvO (K : PySem.W.Frag) (to : TO) (ρ : Rho) (o : Option Int) : Prop :=
  ∀ A σ H, Live A H → EnvD K (cut A H) σ ρ → ∀ Q : Option Int → Hp → Prop, (∀ H', Same H H' → Q o H') → to σ H Q
theorem eo_none : EvO K tNoPart ρ none := fun A σ H l hE Q q => q H (Same.refl H)
theorem eo_some {i : Int} (h : EvD K ta ρ (.int i)) : EvO K (tPart ta) ρ (some i) := fun A σ H l hE Q q => h A σ H l hE _ fun v H1 s1 hv => by
  cases hv; exact ⟨i, rfl, q H1 s1⟩
theorem ev_slT {ds : List PyData} {lo hi : TO} {i j : Option Int} (h : EvD K ta ρ (.tuple ds)) (hl : EvO K lo ρ i) (hh : EvO K hi ρ j) : EvD K (tSl (rSlU K) ta lo hi) ρ (.tuple (cutD ds i j)) := fun A σ H l hE Q q =>
  h A σ H l hE _ fun v H1 s1 hv => hl A σ H1 (l.same s1) (hE.same (cut_same s1)) _ fun H2 s2 => hh A σ H2 (l.same (s1.trans s2)) (hE.same (cut_same (s1.trans s2))) _ fun H3 s3 => by
    have hv3 := dp_same (cut_same (s2.trans s3)) hv
    cases hv3 with
    | tup k1 k2 =>
      rename_i a0 xs0
      refine .inr (.inl ⟨_, _, rfl, SqT.of (same_cut _ _ k1), fun hw => ?_, fun _ p hp => ?_⟩)
      · refine q _ H3 ((s1.trans s2).trans s3) ?_
        have e : cutD ds i j = ds := by
          unfold cutD
          rw [← k2.length, hw.1, hw.2, List.drop_zero, Nat.sub_zero, k2.length, List.take_length]
        rw [e]; exact .tup k1 k2
      · have sn := same_new (o := .tup (cutV xs0 i j)) hp
        exact q _ _ (((s1.trans s2).trans s3).trans sn) (.tup (cut_new (l.same ((s1.trans s2).trans s3)) hp) (dpall_same (cut_same sn) (cut_dq k2)))
theorem ev_slL {ds : List PyData} {lo hi : TO} {i j : Option Int} (h : EvD K ta ρ (.list ds)) (hl : EvO K lo ρ i) (hh : EvO K hi ρ j) : EvD K (tSl (rSlU K) ta lo hi) ρ (.list (cutD ds i j)) := fun A σ H l hE Q q =>
  h A σ H l hE _ fun v H1 s1 hv => hl A σ H1 (l.same s1) (hE.same (cut_same s1)) _ fun H2 s2 => hh A σ H2 (l.same (s1.trans s2)) (hE.same (cut_same (s1.trans s2))) _ fun H3 s3 => by
    have hv3 := dp_same (cut_same (s2.trans s3)) hv
    cases hv3 with
    | lst k1 k2 =>
      rename_i a0 xs0
      refine .inl ⟨_, _, rfl, SqL.of (same_cut _ _ k1), fun p hp => ?_⟩
      have sn := same_new (o := .lst (cutV xs0 i j)) hp
      exact q _ _ (((s1.trans s2).trans s3).trans sn) (.lst (cut_new (l.same ((s1.trans s2).trans s3)) hp) (dpall_same (cut_same sn) (cut_dq k2)))
theorem ev_slS {z : Str} {lo hi : TO} {i j : Option Int} (h : EvD K ta ρ (.str z)) (hl : EvO K lo ρ i) (hh : EvO K hi ρ j) (hz : z.length ≤ 100000) : EvD K (tSl (rSlU K) ta lo hi) ρ (.str (cutS z i j)) := fun A σ H l hE Q q =>
  h A σ H l hE _ fun v H1 s1 hv => hl A σ H1 (l.same s1) (hE.same (cut_same s1)) _ fun H2 s2 => hh A σ H2 (l.same (s1.trans s2)) (hE.same (cut_same (s1.trans s2))) _ fun H3 s3 => by
    cases hv
    exact .inr (.inr ⟨z, rfl, Nat.le_trans hz (by decide), q _ H3 ((s1.trans s2).trans s3) (.str _)⟩)
end
theorem sl_U {X : Cx} : SlR X (rSlU X.K) := by
  intro pins s σ H x v vl vu lo hi sl Q I rx hs pl pu h
  rcases h with h | h | h
  · exact sl_list pins s σ H x v vl vu lo hi sl Q I rx hs pl pu h
  · exact sl_tupA pins s σ H x v vl vu lo hi sl Q I rx hs pl pu h
  · exact sl_str pins s σ H x v vl vu lo hi sl Q I rx hs pl pu h
theorem units65 {k : Nat} {A : Around} (r : Room k A) : A.units + 65 < cLine := by have := r.un; omega
theorem units70 {k : Nat} {A : Around} (r : Room k A) : A.units + 70 < cLine := by have := r.un; omega
/-! tuple(range(..)), list(range(..)) -/
section
variable {K : PySem.W.Frag} {ρ : Rho} {ta tb : TE}
theorem rgV_dq {F : Hp} (a b : Int) : DqAll K F (rgV a b) (rngD a (b - a).toNat) := by
  unfold rgV rngD
  generalize List.range (b - a).toNat = l
  induction l with
  | nil => exact .nil
  | cons x xs ih => exact .cons (.int _) ih
theorem ev_tupRg1 {n : Int} (h : EvD K ta ρ (.int n)) (h1 : n ≤ 16777216) (h0 : 0 ≤ n) : EvD K (tTupRg (tRg1 ta)) ρ (.tuple (rngD 0 n.toNat)) := fun A σ H l hE Q q => h A σ H l hE _ fun v H1 s1 hv => by
  cases hv
  refine ⟨n, rfl, RgOk.of_le (by omega) h1 (by omega) h0, fun p hp => q _ _ (s1.trans (same_new hp)) (.tup (cut_new (l.same s1) hp) ?_)⟩
  have e := rgV_dq (K := K) (F := cut A (upd H1 p (.tup (rgV 0 n)))) 0 n
  rw [Int.sub_zero] at e
  exact e
theorem ev_lstRg1 {n : Int} (h : EvD K ta ρ (.int n)) (h1 : n ≤ 16777216) (h0 : 0 ≤ n) : EvD K (tLstRg (tRg1 ta)) ρ (.list (rngD 0 n.toNat)) := fun A σ H l hE Q q => h A σ H l hE _ fun v H1 s1 hv => by
  cases hv
  refine ⟨n, rfl, RgOk.of_le (by omega) h1 (by omega) h0, fun p hp => q _ _ (s1.trans (same_new hp)) (.lst (cut_new (l.same s1) hp) ?_)⟩
  have e := rgV_dq (K := K) (F := cut A (upd H1 p (.lst (rgV 0 n)))) 0 n
  rw [Int.sub_zero] at e
  exact e
theorem ev_tupRg2 {m n : Int} (h : EvD K ta ρ (.int m)) (h' : EvD K tb ρ (.int n)) (h0 : 0 ≤ m) (h1 : n ≤ 16777216) (h2 : m ≤ 16777216) (h3 : 0 ≤ n) : EvD K (tTupRg (tRg2 ta tb)) ρ (.tuple (rngD m (n - m).toNat)) := fun A σ H l hE Q q =>
  h A σ H l hE _ fun v H1 s1 hv => h' A σ H1 (l.same s1) (hE.same (cut_same s1)) _ fun u H2 s2 hu => by
  cases hv; cases hu
  exact ⟨m, n, rfl, rfl, RgOk.of_le h0 h1 h2 h3, fun p hp => q _ _ ((s1.trans s2).trans (same_new hp)) (.tup (cut_new (l.same (s1.trans s2)) hp) (rgV_dq m n))⟩
end
end Lc

set_option Elab.async false
set_option linter.all false
set_option maxRecDepth 100000
set_option maxHeartbeats 4000000
namespace Lc
open PySem L2 PySem.Spec PyProof.Rows
/-! ### a def where it stands -/
def FnAt (P : Program) (w : World) (K : PySem.W.Frag) (mg : Str → Option Value) (base : Heap) (k : Nat) (x : Str) (ps : List Str) (sp : Sp) : Prop :=
  ∃ f fd, FnOk P w K mg base (L2.CX P w) k f fd ps sp ∧ mg x = some (.ref f) ∧ PySem.W.keepIn K (.ref f) = true ∧ Binds K fd ps []
section
variable {X : Cx} {k : Nat} {x : Str} {ps : List Str} {sp : Sp} {E : XK} {p pos : Pos} {e : Expr} {es : List Expr} {t : TA}
theorem pe_callF (F : FnAt X.prog X.w X.K X.mg X.base k x ps sp) (hr : Room k X.A) (hg : Gl X x) (hx : Passes (L2.CX X.prog X.w) X E)
    (ha : PA X (e :: es) t) (hdb : (x == ("__debug__" : Str)) = false := by decide) (he : starEach (e :: es) X.env = (false, eval e X.env) :: starEach es X.env := by rfl) (hpl : (backTo pos (starEach es X.env)).any (·.1) = false := by rfl) :
    PE X (.Call (.Name x p) (e :: es) [] pos) (tCall sp [] E t) := by
  obtain ⟨f, fd, F1, g, kp, b⟩ := F
  exact pe_call F1 hr hg g kp b .nil hx ha hdb he hpl
end
/-! ### raise -/
structure ExcAt (K : PySem.W.Frag) (mg : Str → Option Value) (x : Str) : Prop where
  g : mg x = some (.ref (He.ga K x))
  ok : PySem.W.excIn K (He.ga K x) He.veBase "ValueError.__new__" = true
  kp : PySem.W.keepIn K (.ref (He.ga K x)) = true
  sb : PySem.W.subIn K (.ref (He.ga K x)) (.type "BaseException") = some true
  ty : PySem.W.typeIn K (.ref (He.ga K x)) = some (.type "type")
def tRaise (C : Addr) (E : XK) : TS := fun _ _ H => E (.ref C) none H
theorem xs_raiseF {K : PySem.W.Frag} {E : XK} {ρ : Rho} {C : Addr} : ExS K E (tRaise C E) ρ (.ex C) := xs_raise
theorem ps_raiseF {X : Cx} {x m : Str} {j : Nat} {p p2 pos pos2 : Pos} {E : XK} {E₁ : Value → Shared → Prop} (h : ExcAt X.K X.mg x) (hg : Gl X x := by rfl) (hc : X.calm = true := by rfl) (hs : X.stack = X.env :: X.outer := by rfl) (hf : X.env.frame = some X.env.locals := by rfl) (hex : X.ex = [] := by rfl)
    (hx : X.xe = fun e s' => wpAny (model X.prog X.w) X.A (leaving X.env e) (fun _ s'' => L2.CX X.prog X.w X.outer X.H_0 X.s_0 E e s'') E₁ s' := by rfl) (hdb : (x == ("__debug__" : Str)) = false := by decide) :
    PS X (.Raise (some (.Call (.Name x p) [.Constant (.str m) j p2] [] pos)) none pos2) (tRaise (He.ga X.K x) E) :=
  ps_raise hc (takes_of hs hf hex hx) (pmk_own PySem.F.excBase_ValueError h.ok h.g h.kp (raises_own h.sb h.ty) hg hdb)
/-! ### the names of built-ins are free -/
structure Bl (mg : Str → Option Value) : Prop where
  b_len : mg "len" = none
  b_isinstance : mg "isinstance" = none
  b_int : mg "int" = none
  b_bool : mg "bool" = none
  b_tuple : mg "tuple" = none
  b_list : mg "list" = none
  b_dict : mg "dict" = none
  b_str : mg "str" = none
  b_set : mg "set" = none
  b_all : mg "all" = none
  b_any : mg "any" = none
  b_range : mg "range" = none
  b_sum : mg "sum" = none
  b_max : mg "max" = none
  b_min : mg "min" = none
  b_abs : mg "abs" = none
  b_sorted : mg "sorted" = none
  b_enumerate : mg "enumerate" = none
  b_zip : mg "zip" = none
  b_ValueError : mg "ValueError" = none
/-! ### unions to come -/
def rListU (K : PySem.W.Frag) : List V → Hp → VK → Prop := rListOf K
theorem cr_listU {X : Cx} (hc : X.calm = true) : CallR X (.type "list") (rListU X.K) := cr_listOf
def rIntU : List V → Hp → VK → Prop := cO rInt1 fun xs H Q => ∃ a n, xs = [.str a] ∧ PySem.intText? a = some n ∧ a.length ≤ 640 ∧ Q (.int n) H
theorem cr_intU {X : Cx} : CallR X (.type "int") rIntU := cr_o cr_int1 call_int_str
def rStrU : List V → Hp → VK → Prop := fun xs H Q => ∃ i, xs = [.int i] ∧ i.natAbs.log2 < 1920 ∧ Q (.str (toString i)) H
theorem cr_strU {X : Cx} : CallR X (.type "str") rStrU := call_str_int
end Lc

set_option Elab.async false
set_option linter.all false
set_option maxRecDepth 100000
set_option maxHeartbeats 4000000
namespace Lc
open PySem L2 PySem.Spec PyProof.Rows
/-! ### the town: what the law's draws change -/
def TownOk (ns : List Int) (c : Nat) (ts : List Int) : Prop := ts.length = ns.length + 1 ∧ 0 ≤ ts.getD 0 0 ∧ ts.getD 0 0 ≤ (c : Int)
def Town (ns : List Int) (tn : Addr) (c : Nat) (H : Hp) : Prop := ∃ ts : List Int, H tn = some (.lst (ts.map V.int)) ∧ TownOk ns c ts
theorem Town.mono {ns : List Int} {tn : Addr} {c c' : Nat} {H : Hp} (t : Town ns tn c H) (h : c ≤ c') : Town ns tn c' H := by
  obtain ⟨ts, h1, h2, h3, h4⟩ := t
  exact ⟨ts, h1, h2, h3, by omega⟩
theorem Town.same {ns : List Int} {tn : Addr} {c : Nat} {H H' : Hp} (t : Town ns tn c H) (s : Same H H') : Town ns tn c H' := by
  obtain ⟨ts, h1, h2⟩ := t
  exact ⟨ts, s _ _ h1, h2⟩
theorem Town.live {ns : List Int} {tn : Addr} {c : Nat} {H : Hp} (t : Town ns tn c H) : H tn ≠ none := by
  obtain ⟨ts, h1, _⟩ := t
  rw [h1]; simp
theorem live_keep {A : List Addr} {tn : Addr} {ns : List Int} {c : Nat} {H H' : Hp} (l : Live A H) (k : Keep [tn] H H') (t : Town ns tn c H') : Live A H' := fun a ha e => by
  by_cases h : a = tn
  · subst h; exact t.live e
  · cases q : H a with
    | none => exact l a ha q
    | some o => rw [k a o (by simpa using h) q] at e; cases e
theorem keep_cut {A : List Addr} {tn : Addr} {H H' : Hp} (hm : tn ∈ A) (k : Keep [tn] H H') : Same (cut A H) (cut A H') := (k.mono (B := A) (by simpa using hm)).cut
/-- at most M draws in all -/
abbrev MD : Nat := 1000000
section
variable (K : PySem.W.Frag) (tn : Addr) (ns : List Int)
def EvW (te : TE) (ρ : Rho) (n : Nat) (R : PyData → Prop) : Prop :=
  ∀ c A σ H, c + n ≤ MD → Live A H → tn ∈ A → Town ns tn c H → EnvD K (cut A H) σ ρ → ∀ Q : VK, (∀ d v H', R d → Keep [tn] H H' → Town ns tn (c + n) H' → Dq K (cut A H') v d → Q v H') → te σ H Q
def EtW (tt : TT) (ρ : Rho) (n : Nat) (R : Bool → Prop) : Prop :=
  ∀ c A σ H, c + n ≤ MD → Live A H → tn ∈ A → Town ns tn c H → EnvD K (cut A H) σ ρ → ∀ Q : Bool → Hp → Prop, (∀ b H', R b → Keep [tn] H H' → Town ns tn (c + n) H' → Q b H') → tt σ H Q
def EaW (ta : TA) (ρ : Rho) (n : Nat) (R : List PyData → Prop) : Prop :=
  ∀ c A σ H, c + n ≤ MD → Live A H → tn ∈ A → Town ns tn c H → EnvD K (cut A H) σ ρ → ∀ Q : List V → Hp → Prop, (∀ ds vs H', R ds → Keep [tn] H H' → Town ns tn (c + n) H' → DqAll K (cut A H') vs ds → Q vs H') → ta σ H Q
end
section
variable {K : PySem.W.Frag} {tn : Addr} {ns : List Int} {ρ : Rho} {ta tb te : TE} {t u : TT} {d e f : PyData} {n m : Nat}
theorem ew_pure (h : EvD K te ρ d) : EvW K tn ns te ρ 0 (· = d) := fun c A σ H hc l hm ht hE Q q =>
  h A σ H l hE Q fun v H' s hv => q d v H' rfl (Keep.of s) (ht.same s) hv
theorem et_pure {b : Bool} (h : EvT K t ρ b) : EtW K tn ns t ρ 0 (· = b) := fun c A σ H hc l hm ht hE Q q =>
  h A σ H l hE Q fun H' s => q b H' rfl (Keep.of s) (ht.same s)
theorem EvW.mono {R R' : PyData → Prop} (h : EvW K tn ns te ρ n R) (hn : n ≤ m) (hR : ∀ d, R d → R' d) : EvW K tn ns te ρ m R' := fun c A σ H hc l hm ht hE Q q =>
  h c A σ H (by omega) l hm ht hE Q fun d v H' r k t hv => q d v H' (hR d r) k (t.mono (by omega)) hv
theorem EtW.mono {R R' : Bool → Prop} (h : EtW K tn ns t ρ n R) (hn : n ≤ m) (hR : ∀ d, R d → R' d) : EtW K tn ns t ρ m R' := fun c A σ H hc l hm ht hE Q q =>
  h c A σ H (by omega) l hm ht hE Q fun d H' r k t => q d H' (hR d r) k (t.mono (by omega))
theorem ew_op {r : R2} {Ra Rb R : PyData → Prop} (ha : EvW K tn ns ta ρ n Ra) (hb : EvW K tn ns tb ρ m Rb) (hr : ∀ d e, Ra d → Rb e → ∃ f, OpD K r d e f ∧ R f) : EvW K tn ns (tOp r ta tb) ρ (n + m) R := fun c A σ H hc l hm ht hE Q q =>
  ha c A σ H (by omega) l hm ht hE _ fun d x H1 rd k1 t1 hx => hb (c + n) A σ H1 (by omega) (live_keep l k1 t1) hm t1 (hE.same (keep_cut hm k1)) _ fun e y H2 re k2 t2 hy => by
    obtain ⟨f, ho, rf⟩ := hr d e rd re
    refine ho A x y H2 (live_keep (live_keep l k1 t1) k2 t2) (dp_same (keep_cut hm k2) hx) hy Q fun v H3 s3 hv => ?_
    exact q f v H3 rf ((k1.trans k2).trans (Keep.of s3)) ((t2.mono (by omega)).same s3) hv
theorem ea_nilW : EaW K tn ns tNil ρ 0 (· = []) := fun c A σ H hc l hm ht hE Q q => q [] [] H rfl Keep.refl ht .nil
theorem ea_consW {tr : TA} {Ra : PyData → Prop} {Rs R : List PyData → Prop} (ha : EvW K tn ns ta ρ n Ra) (hr : EaW K tn ns tr ρ m Rs) (hR : ∀ d ds, Ra d → Rs ds → R (d :: ds)) : EaW K tn ns (tCons ta tr) ρ (n + m) R := fun c A σ H hc l hm ht hE Q q =>
  ha c A σ H (by omega) l hm ht hE _ fun d x H1 rd k1 t1 hx => hr (c + n) A σ H1 (by omega) (live_keep l k1 t1) hm t1 (hE.same (keep_cut hm k1)) _ fun ds xs H2 re k2 t2 hxs =>
    q (d :: ds) _ H2 (hR d ds rd re) (k1.trans k2) (t2.mono (by omega)) (.cons (dp_same (keep_cut hm k2) hx) hxs)
theorem ew_cb {r : List V → Hp → VK → Prop} {tr : TA} {Rs : List PyData → Prop} {R : PyData → Prop} (ha : EaW K tn ns tr ρ n Rs) (hr : ∀ ds, Rs ds → ∃ f, CaD K r ds f ∧ R f) : EvW K tn ns (tCB r tr) ρ n R := fun c A σ H hc l hm ht hE Q q =>
  ha c A σ H hc l hm ht hE _ fun ds xs H1 rd k1 t1 hx => by
    obtain ⟨f, ho, rf⟩ := hr ds rd
    exact ho A xs H1 (live_keep l k1 t1) hx Q fun v H3 s3 hv => q f v H3 rf (k1.trans (Keep.of s3)) (t1.same s3) hv
theorem ew_tup {tr : TA} {Rs : List PyData → Prop} {R : PyData → Prop} (ha : EaW K tn ns tr ρ n Rs) (hr : ∀ ds, Rs ds → ds.length ≤ 100000 ∧ R (.tuple ds)) : EvW K tn ns (tTup tr) ρ n R := fun c A σ H hc l hm ht hE Q q =>
  ha c A σ H hc l hm ht hE _ fun ds xs H1 rd k1 t1 hx => ⟨Nat.le_trans (by rw [hx.length]; exact (hr ds rd).1) (by decide), fun p hp =>
    q _ _ _ (hr ds rd).2 (k1.trans (Keep.of (same_new hp))) (t1.same (same_new hp)) (.tup (cut_new (live_keep l k1 t1) hp) (dpall_same (cut_same (same_new hp)) hx))⟩
theorem ew_lst {tr : TA} {Rs : List PyData → Prop} {R : PyData → Prop} (ha : EaW K tn ns tr ρ n Rs) (hr : ∀ ds, Rs ds → ds.length ≤ 100000 ∧ R (.list ds)) : EvW K tn ns (tLst tr) ρ n R := fun c A σ H hc l hm ht hE Q q =>
  ha c A σ H hc l hm ht hE _ fun ds xs H1 rd k1 t1 hx => ⟨Nat.le_trans (by rw [hx.length]; exact (hr ds rd).1) (by decide), fun p hp =>
    q _ _ _ (hr ds rd).2 (k1.trans (Keep.of (same_new hp))) (t1.same (same_new hp)) (.lst (cut_new (live_keep l k1 t1) hp) (dpall_same (cut_same (same_new hp)) hx))⟩
theorem et_testW {R : PyData → Prop} {P : Bool → Prop} (h : EvW K tn ns te ρ n R) (hR : ∀ d, R d → ∃ b, d = .bool b ∧ P b) : EtW K tn ns (tTest te) ρ n P := fun c A σ H hc l hm ht hE Q q => h c A σ H hc l hm ht hE _ fun d v H' r k t hv => by
  obtain ⟨b, rfl, p⟩ := hR d r
  cases hv; exact ⟨b, rfl, q b H' p k t⟩
theorem et_BW {R : PyData → Prop} {P : Bool → Prop} (h : EvW K tn ns te ρ n R) (hR : ∀ d, R d → ∃ b, d = .bool b ∧ P b) : EtW K tn ns (tB te) ρ n P := fun c A σ H hc l hm ht hE Q q => h c A σ H hc l hm ht hE _ fun d v H' r k t hv => by
  obtain ⟨b, rfl, p⟩ := hR d r
  cases hv; exact ⟨b, rfl, q b H' p k t⟩
theorem ew_and {P P' : Bool → Prop} {R R' : PyData → Prop} (h1 : EvW K tn ns ta ρ n R) (hR : ∀ d, R d → ∃ b, d = .bool b ∧ P b) (h2 : EvW K tn ns tb ρ m R') : EvW K tn ns (tAndV ta tb) ρ (n + m) (fun d => (d = .bool false ∧ P false) ∨ (P true ∧ R' d)) := fun c A σ H hc l hm ht hE Q q => h1 c A σ H (by omega) l hm ht hE _ fun d v H1 r k1 t1 hv => by
  obtain ⟨b, rfl, p⟩ := hR d r
  cases hv
  refine ⟨b, rfl, ?_⟩
  cases b with
  | true => exact iteT (h2 (c + n) A σ H1 (by omega) (live_keep l k1 t1) hm t1 (hE.same (keep_cut hm k1)) Q fun d v H2 r2 k2 t2 hv => q d v H2 (.inr ⟨p, r2⟩) (k1.trans k2) (t2.mono (by omega)) hv)
  | false => exact iteF (q _ _ H1 (.inl ⟨rfl, p⟩) k1 (t1.mono (by omega)) (.bl _))
theorem ew_if {P : Bool → Prop} {R : PyData → Prop} (h : EtW K tn ns t ρ n P) (h1 : P true → EvW K tn ns ta ρ m R) (h2 : P false → EvW K tn ns tb ρ m R) : EvW K tn ns (tIf t ta tb) ρ (n + m) R := fun c A σ H hc l hm ht hE Q q => h c A σ H (by omega) l hm ht hE _ fun b H1 p k1 t1 => by
  cases b with
  | true => exact iteT (h1 p (c + n) A σ H1 (by omega) (live_keep l k1 t1) hm t1 (hE.same (keep_cut hm k1)) Q fun d v H2 r2 k2 t2 hv => q d v H2 r2 (k1.trans k2) (t2.mono (by omega)) hv)
  | false => exact iteF (h2 p (c + n) A σ H1 (by omega) (live_keep l k1 t1) hm t1 (hE.same (keep_cut hm k1)) Q fun d v H2 r2 k2 t2 hv => q d v H2 r2 (k1.trans k2) (t2.mono (by omega)) hv)
/-- a def on data, its arguments drawn -/
theorem ew_callP {Rp : List PyData → Out → Prop} {E : XK} {tr : TA} {Rs : List PyData → Prop} {R : PyData → Prop} (ha : EaW K tn ns tr ρ n Rs) (hr : ∀ ds, Rs ds → ∃ d, Rp ds (.rt d) ∧ R d) : EvW K tn ns (tCall (spD K Rp) [] E tr) ρ n R := fun c A σ H hc l hm ht hE Q q =>
  ha c A σ H hc l hm ht hE _ fun ds xs H1 rd k1 t1 hx => by
    obtain ⟨d, hp, rd⟩ := hr ds rd
    rw [List.append_nil]
    exact ⟨A, ds, .rt d, live_keep l k1 t1, hx, hp, fun v H2 s2 h2 => q d v H2 rd (k1.trans (Keep.of s2)) (t1.same s2) h2⟩
/-- a def that draws: script, town and more; at most n draws -/
def spT (K : PySem.W.Frag) (n : Nat) (P : List PyData → Prop) (R : List PyData → PyData → Prop) : Sp := fun vs H Q _ =>
  ∃ A tn ns c, c + n ≤ MD ∧ Live A H ∧ tn ∈ A ∧ Town ns tn c H ∧ ∃ ds, DqAll K (cut A H) vs (scrD ns :: adrD tn :: ds) ∧ P ds ∧ ∀ d v H', R ds d → Keep [tn] H H' → Town ns tn (c + n) H' → Dq K (cut A H') v d → Q v H'
theorem ew_callT {P : List PyData → Prop} {Rt : List PyData → PyData → Prop} {E : XK} {tr : TA} {Rs : List PyData → Prop} {R : PyData → Prop} (ha : EaW K tn ns tr ρ n Rs) (hr : ∀ ds, Rs ds → ∃ es, ds = scrD ns :: adrD tn :: es ∧ P es ∧ ∀ d, Rt es d → R d) : EvW K tn ns (tCall (spT K m P Rt) [] E tr) ρ (n + m) R := fun c A σ H hc l hm ht hE Q q =>
  ha c A σ H (by omega) l hm ht hE _ fun ds xs H1 rd k1 t1 hx => by
    obtain ⟨es, rfl, hp, hR⟩ := hr ds rd
    rw [List.append_nil]
    exact ⟨A, tn, ns, c + n, by omega, live_keep l k1 t1, hm, t1, es, hx, hp, fun d v H2 r2 k2 t2 h2 => q d v H2 (hR d r2) (k1.trans k2) (t2.mono (by omega)) h2⟩
/-! ### comprehensions that draw -/
def LcR {α : Type} (R : α → Option PyData → Prop) : List α → List PyData → Prop
  | [], ds => ds = []
  | x :: xs, ds => (∃ d ds', R x (some d) ∧ ds = d :: ds' ∧ LcR R xs ds') ∨ (R x none ∧ LcR R xs ds)
theorem LcR.snoc {α : Type} {R : α → Option PyData → Prop} {x : α} {d : PyData} (h : R x (some d)) : ∀ {xs : List α} {ds : List PyData}, LcR R xs ds → LcR R (xs ++ [x]) (ds ++ [d])
  | [], ds, e => by cases e; exact .inl ⟨d, [], h, rfl, rfl⟩
  | y :: xs, ds, .inl ⟨e, ds', h1, h2, h3⟩ => by subst h2; exact .inl ⟨e, _, h1, rfl, LcR.snoc h h3⟩
  | y :: xs, ds, .inr ⟨h1, h2⟩ => .inr ⟨h1, LcR.snoc h h2⟩
theorem LcR.skip {α : Type} {R : α → Option PyData → Prop} {x : α} (h : R x none) : ∀ {xs : List α} {ds : List PyData}, LcR R xs ds → LcR R (xs ++ [x]) ds
  | [], ds, e => by cases e; exact .inr ⟨h, rfl⟩
  | y :: xs, ds, .inl ⟨e, ds', h1, h2, h3⟩ => .inl ⟨e, ds', h1, h2, LcR.skip h h3⟩
  | y :: xs, ds, .inr ⟨h1, h2⟩ => .inr ⟨h1, LcR.skip h h2⟩
theorem LcR.len {α : Type} {R : α → Option PyData → Prop} : ∀ {xs : List α} {ds : List PyData}, LcR R xs ds → ds.length ≤ xs.length
  | [], ds, e => by cases e; simp
  | y :: xs, ds, .inl ⟨e, ds', h1, h2, h3⟩ => by subst h2; simpa using h3.len
  | y :: xs, ds, .inr ⟨h1, h2⟩ => by have := h2.len; simp; omega
theorem ew_lc {α : Type} {wi : TI} {g : TG} {tt : TT} {vs ws : List Nat} {n1 n2 : Nat} (xs : List α) (enc : α → PyData) (P : α → Bool → Prop) (Ro : α → PyData → Prop) (r2 : α → Rho) (hi : ItD K wi ρ (xs.map enc)) (hz : xs.length ≤ 50000) (hw : ∀ i ∈ ws, i ∈ vs)
    (hg : ∀ x ∈ xs, TgD K g (enc x) (wipeD ρ vs) (r2 x) ws) (ht : ∀ x ∈ xs, EtW K tn ns tt (r2 x) n1 (P x)) (he : ∀ x ∈ xs, EvW K tn ns te (r2 x) n2 (Ro x)) :
    EvW K tn ns (tLc wi g tt te vs) ρ (xs.length * (n1 + n2)) (fun d => ∃ ds, d = .list ds ∧ LcR (fun x o => match o with | some d => P x true ∧ Ro x d | none => P x false) xs ds) := fun c A σ H hc l hm htw hE Q q => hi A σ H l hE _ fun J H1 s1 hJ => fun D hD => by
  have l1 := l.same s1
  have hDA : D ∉ A := l1.fresh hD
  have hDt : D ≠ tn := fun z => hDA (z ▸ hm)
  have E1 : EnvD K (cut A H1) (wipe σ vs) (wipeD ρ vs) := (hE.same (cut_same s1)).wipe vs
  have oD : Off A H1 (D :: A) := off_new hD
  have hmD : tn ∈ D :: A := List.mem_cons_of_mem _ hm
  let RR : α → Option PyData → Prop := fun x o => match o with | some d => P x true ∧ Ro x d | none => P x false
  refine ⟨fun i m H' => m = xs.length - i ∧ i ≤ xs.length ∧ Keep [tn, D] H1 H' ∧ Town ns tn (c + i * (n1 + n2)) H' ∧ ∃ us ds, H' D = some (.lst us) ∧ DqAll K (cut (D :: A) H') us ds ∧ LcR RR (xs.take i) ds, ⟨xs.length, ?_⟩, ?_⟩
  · refine ⟨by simp, Nat.zero_le _, fun a o ha h => by rw [upd_ne (fun z => ha (by simp [z]))]; exact h, ?_, [], [], upd_same, .nil, by simp [LcR]⟩
    rw [Nat.zero_mul, Nat.add_zero]
    exact (htw.same s1).same (same_new hD)
  · rintro i m H' ⟨rfl, hle, hk, hT, us, ds, hus, hdp, hlc⟩
    have kA : Keep A H1 H' := fun a o ha h => hk a o (fun z => by
      rcases List.mem_cons.mp z with z | z
      · exact ha (z ▸ hm)
      · rw [List.mem_singleton.mp z, hD] at h; cases h) h
    have lv : Live (D :: A) H' := fun a ha e => by
      rcases List.mem_cons.mp ha with z | z
      · rw [z, hus] at e; cases e
      · by_cases ht : a = tn
        · subst ht; exact hT.live e
        · cases q1 : H1 a with
          | none => exact l1 a z q1
          | some o => rw [hk a o (fun w => by
              rcases List.mem_cons.mp w with w | w
              · exact ht w
              · exact hDA (List.mem_singleton.mp w ▸ z)) q1] at e; cases e
    by_cases hlt : i < xs.length
    · have hstep : (i + 1) * (n1 + n2) ≤ xs.length * (n1 + n2) := Nat.mul_le_mul_right _ hlt
      have hexp : (i + 1) * (n1 + n2) = i * (n1 + n2) + (n1 + n2) := Nat.succ_mul _ _
      refine .inr ⟨hJ.goes i H' (by simpa using hlt) kA, fun H2 => Keep [tn, D] H1 H2 ∧ Town ns tn (c + (i + 1) * (n1 + n2)) H2 ∧ ∃ us ds, H2 D = some (.lst us) ∧ DqAll K (cut (D :: A) H2) us ds ∧ LcR RR (xs.take (i + 1)) ds, fun H2 h2 => ⟨xs.length - (i + 1), by omega, rfl, hlt, h2⟩, fun x H2 hy => ?_⟩
      obtain ⟨s2, d, hd, hx⟩ := hJ.yields i H' x H2 (D :: A) (by simpa using hlt) kA lv oD hy
      have hdi : d = enc xs[i] := by
        rw [List.getElem?_map, List.getElem?_eq_getElem hlt] at hd
        exact (Option.some.inj hd).symm
      subst hdi
      have hmx : xs[i] ∈ xs := List.getElem_mem hlt
      have lv2 := lv.same s2
      have tk : (xs.take (i + 1)) = xs.take i ++ [xs[i]] := by rw [List.take_add_one, List.getElem?_eq_getElem hlt] <;> rfl
      refine hg _ hmx (D :: A) (wipe σ vs) H2 x lv2 (E1.same (oD.cut (kA.trans (Keep.of s2)))) hx _ fun σ2 hE2 w2 => ⟨?_, ?_⟩
      · rw [w2 vs hw, wipe_wipe]
      · refine ht _ hmx (c + i * (n1 + n2)) (D :: A) σ2 H2 (by omega) lv2 hmD (hT.same s2) hE2 _ fun b H3 pb k3 t3 => ?_
        have kk : Keep [tn] H' H3 := (Keep.of s2).trans k3
        have toD : Keep [tn, D] H1 H3 := hk.trans (kk.mono (by simp))
        have hD3 : H3 D = some (.lst us) := kk D _ (by simpa using hDt) hus
        cases b with
        | false =>
          refine iteF ⟨toD, t3.mono (by omega), us, ds, hD3, dpall_same (keep_cut hmD kk) hdp, ?_⟩
          rw [tk]
          exact LcR.skip (R := RR) pb hlc
        | true =>
          have lv3 := live_keep lv2 k3 t3
          refine iteT (he _ hmx (c + i * (n1 + n2) + n1) (D :: A) σ2 H3 (by omega) lv3 hmD t3 (hE2.same (keep_cut hmD k3)) _ fun d4 y H4 rd k4 t4 hy4 => ?_)
          have kk4 : Keep [tn] H' H4 := kk.trans k4
          have kp : Keep (D :: A) H4 (upd H4 D (.lst (us ++ [y]))) := fun a o ha h => by
            rw [upd_ne (fun z => ha (by simp [z]))]; exact h
          have hlen := hlc.len
          rw [List.length_take] at hlen
          refine ⟨us, kk4 D _ (by simpa using hDt) hus, ?_, ?_, ?_, us ++ [y], ds ++ [d4], upd_same, ?_, ?_⟩
          · have := hdp.length
            have : us.length < 100000 := by omega
            exact Nat.lt_of_lt_of_le this (by decide)
          · exact fun a o ha h => by
              rw [upd_ne (fun z => ha (by simp [z]))]
              exact (hk.trans (kk4.mono (by simp))) a o ha h
          · obtain ⟨ts, q1, q2⟩ := t4
            refine Town.mono ⟨ts, ?_, q2⟩ (by omega)
            rw [upd_ne (Ne.symm hDt)]; exact q1
          · exact (dpall_same ((keep_cut hmD kk4).trans kp.cut) hdp).append (.cons (dp_same kp.cut hy4) .nil)
          · rw [tk]
            exact LcR.snoc (R := RR) ⟨pb, rd⟩ hlc
    · have e : i = xs.length := by omega
      subst e
      refine .inl ⟨by have := hJ.stops H' kA; simpa using this, q (.list ds) _ H' ⟨ds, rfl, by rw [List.take_length] at hlc; exact hlc⟩ ?_ hT ?_⟩
      · exact fun a o ha h => hk a o (fun z => by
          rcases List.mem_cons.mp z with z | z
          · exact ha (by simp [z])
          · rw [List.mem_singleton.mp z] at h; rw [s1 _ _ h] at hD; cases hD) (s1 a o h)
      · refine .lst (by rw [cut_out hDA]; exact hus) ?_
        refine dpall_same (fun a o e => ?_) hdp
        obtain ⟨h1, h2⟩ := cut_some e
        rw [cut_out (fun z => h1 (List.mem_cons_of_mem _ z))]; exact h2
end
end Lc

set_option Elab.async false
set_option linter.all false
set_option maxRecDepth 100000
set_option maxHeartbeats 4000000
namespace Lc
open PySem L2 PySem.Spec PyProof.Rows
section
variable (K : PySem.W.Frag) (tn : Addr) (ns : List Int)
def ExW (ts : TS) (ρ : Rho) (n : Nat) (Pn : Rho → Prop) (Pr : PyData → Prop) : Prop :=
  ∀ c A σ H D, c + n ≤ MD → Live A H → tn ∈ A → Town ns tn c H → EnvD K (cut A H) σ ρ →
    (∀ ρ' σ' H', Pn ρ' → Keep [tn] H H' → Town ns tn (c + n) H' → EnvD K (cut A H') σ' ρ' → D.nx σ' H') →
    (∀ d v H', Pr d → Keep [tn] H H' → Town ns tn (c + n) H' → Dq K (cut A H') v d → D.rt v H') → ts D σ H
end
section
variable {K : PySem.W.Frag} {tn : Addr} {ns : List Int} {ρ ρ1 : Rho} {ta tb te : TE} {t u : TT} {d e f : PyData} {n m : Nat} {ts tz tw : TS} {Pn Pn' Pm : Rho → Prop} {Pr Pr' : PyData → Prop} {E : XK}
theorem ExW.mono (h : ExW K tn ns ts ρ n Pn Pr) (hn : n ≤ m) (h1 : ∀ ρ, Pn ρ → Pn' ρ) (h2 : ∀ d, Pr d → Pr' d) : ExW K tn ns ts ρ m Pn' Pr' := fun c A σ H D hc l hm ht hE q1 q2 =>
  h c A σ H D (by omega) l hm ht hE (fun ρ' σ' H' p k t hE' => q1 ρ' σ' H' (h1 _ p) k (t.mono (by omega)) hE') (fun d v H' p k t hv => q2 d v H' (h2 _ p) k (t.mono (by omega)) hv)
theorem xw_pure (h : ExS K E ts ρ (.nx ρ1)) : ExW K tn ns ts ρ 0 (· = ρ1) Pr := fun c A σ H D hc l hm ht hE q1 q2 =>
  h A σ H D l hE fun σ' H' s hE' => q1 ρ1 σ' H' rfl (Keep.of s) (ht.same s) hE'
theorem xw_pureR (h : ExS K E ts ρ (.rt d)) (hd : Pr d) : ExW K tn ns ts ρ 0 Pn Pr := fun c A σ H D hc l hm ht hE q1 q2 =>
  h A σ H D l hE fun v H' s hv => q2 d v H' hd (Keep.of s) (ht.same s) hv
theorem xw_seq (h1 : ExW K tn ns ts ρ n Pn Pr) (h2 : ∀ ρ', Pn ρ' → ExW K tn ns tz ρ' m Pm Pr) : ExW K tn ns (tSeq ts tz) ρ (n + m) Pm Pr := fun c A σ H D hc l hm ht hE q1 q2 =>
  h1 c A σ H { D with nx := tz D } (by omega) l hm ht hE
    (fun ρ' σ' H' p k t hE' => h2 ρ' p (c + n) A σ' H' D (by omega) (live_keep l k t) hm t hE' (fun ρ2 σ2 H2 p2 k2 t2 hE2 => q1 ρ2 σ2 H2 p2 (k.trans k2) (t2.mono (by omega)) hE2) (fun d v H2 p2 k2 t2 hv => q2 d v H2 p2 (k.trans k2) (t2.mono (by omega)) hv))
    (fun d v H' p k t hv => q2 d v H' p k (t.mono (by omega)) hv)
/-- a pure statement, then the rest -/
theorem xw_seqP (h1 : ExS K E ts ρ (.nx ρ1)) (h2 : ExW K tn ns tz ρ1 m Pm Pr) : ExW K tn ns (tSeq ts tz) ρ m Pm Pr := by
  have := xw_seq (tn := tn) (ns := ns) (Pr := Pr) (xw_pure h1) (fun ρ' e => by rw [e]; exact h2)
  rw [Nat.zero_add] at this
  exact this
theorem xw_next : ExW K tn ns tNext ρ 0 (· = ρ) Pr := fun c A σ H D hc l hm ht hE q1 q2 => q1 ρ σ H rfl Keep.refl ht hE
theorem xw_ret {R : PyData → Prop} (h : EvW K tn ns te ρ n R) : ExW K tn ns (tRet te) ρ n Pn R := fun c A σ H D hc l hm ht hE q1 q2 =>
  h c A σ H hc l hm ht hE _ fun d v H' r k t hv => q2 d v H' r k t hv
theorem xw_drop {R : PyData → Prop} (h : EvW K tn ns te ρ n R) : ExW K tn ns (tDrop te) ρ n (· = ρ) Pr := fun c A σ H D hc l hm ht hE q1 q2 =>
  h c A σ H hc l hm ht hE _ fun d v H' r k t hv => q1 ρ σ H' rfl k t (hE.same (keep_cut hm k))
theorem xw_asg {R : PyData → Prop} {i : Nat} (h : EvW K tn ns te ρ n R) : ExW K tn ns (tAsg te (gName i)) ρ n (fun ρ' => ∃ d, R d ∧ ρ' = ρ.set i (some d)) Pr := fun c A σ H D hc l hm ht hE q1 q2 =>
  h c A σ H hc l hm ht hE _ fun d v H' r k t hv => q1 _ _ H' ⟨d, r, rfl⟩ k t ((hE.same (keep_cut hm k)).set hv i)
theorem xw_asgT {R : PyData → Prop} {g : TG} {ws : List Nat} {r2 : PyData → Rho} (h : EvW K tn ns te ρ n R) (hg : ∀ d, R d → TgD K g d ρ (r2 d) ws) : ExW K tn ns (tAsg te g) ρ n (fun ρ' => ∃ d, R d ∧ ρ' = r2 d) Pr := fun c A σ H D hc l hm ht hE q1 q2 =>
  h c A σ H hc l hm ht hE _ fun d v H' r k t hv => hg d r A σ H' v (live_keep l k t) (hE.same (keep_cut hm k)) hv _ fun σ' hE' _ => q1 _ σ' H' ⟨d, r, rfl⟩ k t hE'
theorem xw_par {i j : Nat} {ta : TA} {R : List PyData → Prop} (h : EaW K tn ns ta ρ n R) (hR : ∀ ds, R ds → ds.length = 2) : ExW K tn ns (tPar i j ta) ρ n (fun ρ' => ∃ d e, R [d, e] ∧ ρ' = (ρ.set i (some d)).set j (some e)) Pr := fun c A σ H D hc l hm ht hE q1 q2 =>
  h c A σ H hc l hm ht hE _ fun ds vs H' r k t hv => by
    have hl := hR ds r
    match ds, hl, hv with
    | [d, e], _, .cons h1 (.cons h2 .nil) => exact ⟨_, _, rfl, q1 _ _ H' ⟨d, e, r, rfl⟩ k t (((hE.same (keep_cut hm k)).set h1 i).set h2 j)⟩
theorem xw_if {P : Bool → Prop} (h : EtW K tn ns t ρ n P) (h1 : P true → ExW K tn ns ts ρ m Pn Pr) (h2 : P false → ExW K tn ns tz ρ m Pn Pr) : ExW K tn ns (tIfS t ts tz) ρ (n + m) Pn Pr := fun c A σ H D hc l hm ht hE q1 q2 =>
  h c A σ H (by omega) l hm ht hE _ fun b H1 p k1 t1 => by
    have E1 := hE.same (keep_cut hm k1)
    have L1 := live_keep l k1 t1
    cases b with
    | true => exact iteT (h1 p (c + n) A σ H1 D (by omega) L1 hm t1 E1 (fun ρ2 σ2 H2 p2 k2 t2 hE2 => q1 ρ2 σ2 H2 p2 (k1.trans k2) (t2.mono (by omega)) hE2) (fun d v H2 p2 k2 t2 hv => q2 d v H2 p2 (k1.trans k2) (t2.mono (by omega)) hv))
    | false => exact iteF (h2 p (c + n) A σ H1 D (by omega) L1 hm t1 E1 (fun ρ2 σ2 H2 p2 k2 t2 hE2 => q1 ρ2 σ2 H2 p2 (k1.trans k2) (t2.mono (by omega)) hE2) (fun d v H2 p2 k2 t2 hv => q2 d v H2 p2 (k1.trans k2) (t2.mono (by omega)) hv))
/-- a pure test that is known -/
theorem xw_ifP {b : Bool} (h : EvT K t ρ b) (h1 : b = true → ExW K tn ns ts ρ m Pn Pr) (h2 : b = false → ExW K tn ns tz ρ m Pn Pr) : ExW K tn ns (tIfS t ts tz) ρ m Pn Pr := by
  have := xw_if (tn := tn) (ns := ns) (m := m) (et_pure (tn := tn) (ns := ns) h) (fun e => h1 e.symm) (fun e => h2 e.symm)
  rw [Nat.zero_add] at this
  exact this
/-- a for over what is known; I: what holds between two turns -/
theorem xw_for {α : Type} {wi : TI} {g : TG} {ws : List Nat} (xs : List α) (enc : α → PyData) (I : Nat → Rho → Prop) (r2 : α → Rho → Rho) (hi : ItD K wi ρ (xs.map enc)) (h0 : I 0 ρ)
    (hg : ∀ i (h : i < xs.length) ρ', I i ρ' → TgD K g (enc xs[i]) ρ' (r2 xs[i] ρ') ws) (hb : ∀ i (h : i < xs.length) ρ', I i ρ' → ExW K tn ns ts (r2 xs[i] ρ') n (I (i + 1)) Pr) :
    ExW K tn ns (tFor wi g ts) ρ (xs.length * n) (I xs.length) Pr := fun c A σ H D hc l hm ht hE q1 q2 => hi A σ H l hE _ fun J H1 s1 hJ => by
  refine ⟨fun i m σ' H' => m = xs.length - i ∧ i ≤ xs.length ∧ Keep [tn] H1 H' ∧ Town ns tn (c + i * n) H' ∧ ∃ ρ', I i ρ' ∧ EnvD K (cut A H') σ' ρ', ⟨xs.length, by simp, Nat.zero_le _, Keep.refl, by rw [Nat.zero_mul, Nat.add_zero]; exact ht.same s1, ρ, h0, hE.same (cut_same s1)⟩, ?_⟩
  rintro i m σ' H' ⟨rfl, hle, hk, hT, ρ', hI, hE'⟩
  have lv : Live A H' := live_keep (l.same s1) hk hT
  have kA : Keep A H1 H' := hk.mono (by simpa using hm)
  by_cases hlt : i < xs.length
  · have hstep : (i + 1) * n ≤ xs.length * n := Nat.mul_le_mul_right _ hlt
    have hexp : (i + 1) * n = i * n + n := Nat.succ_mul _ _
    refine .inr ⟨hJ.goes i H' (by simpa using hlt) kA, fun σ2 H2 => Keep [tn] H1 H2 ∧ Town ns tn (c + (i + 1) * n) H2 ∧ ∃ ρ2, I (i + 1) ρ2 ∧ EnvD K (cut A H2) σ2 ρ2, fun σ2 H2 h2 => ⟨xs.length - (i + 1), by omega, rfl, hlt, h2⟩, fun x H2 hy => ?_⟩
    obtain ⟨s2, d, hd, hx⟩ := hJ.yields i H' x H2 A (by simpa using hlt) kA lv Off.refl hy
    have hdi : d = enc xs[i] := by
      rw [List.getElem?_map, List.getElem?_eq_getElem hlt] at hd
      exact (Option.some.inj hd).symm
    subst hdi
    refine hg i hlt ρ' hI A σ' H2 x (lv.same s2) (hE'.same (cut_same s2)) hx _ fun σ2 hE2 _ => ?_
    refine hb i hlt ρ' hI (c + i * n) A σ2 H2 _ (by omega) (lv.same s2) hm (hT.same s2) hE2 (fun ρ3 σ3 H3 p3 k3 t3 hE3 => ⟨(hk.trans (Keep.of s2)).trans k3, t3.mono (by omega), ρ3, p3, hE3⟩) (fun d v H3 p3 k3 t3 hv => ?_)
    exact q2 d v H3 p3 (((Keep.of s1).trans (hk.trans (Keep.of s2))).trans k3) (t3.mono (by omega)) hv
  · have e : i = xs.length := by omega
    subst e
    exact .inl ⟨by have := hJ.stops H' kA; simpa using this, q1 ρ' σ' H' hI ((Keep.of s1).trans hk) hT hE'⟩
/-- the body of a def that draws -/
theorem sp_bodyT {P : List PyData → Prop} {R : List PyData → PyData → Prop} {N : List Str} {t : TS} {vs : List V} {H : Hp} {Q : VK} (h : ∀ tn ns ds, P ds → ExW K tn ns t (startD N.length (scrD ns :: adrD tn :: ds)) n (fun _ => False) (R ds))
    (hs : spT K n P R vs H Q E) : t { nx := fun _ H' => Q .non H', rt := Q } (L2.start N vs) H := by
  obtain ⟨A, tn, ns, c, hc, l, hm, hT, ds, hv, hP, q⟩ := hs
  exact h tn ns ds hP c A _ H _ hc l hm hT (env_of hv) (fun _ _ _ z => z.elim) q
theorem spT_len {P : List PyData → Prop} {R : List PyData → PyData → Prop} {k : Nat} (hP : ∀ ds, P ds → ds.length = k) {vs : List V} {H : Hp} {Q : VK} (hs : spT K n P R vs H Q E) : vs.length = k + 2 := by
  obtain ⟨A, tn, ns, c, hc, l, hm, hT, ds, hv, hp, q⟩ := hs
  rw [hv.length]
  simp [hP ds hp]
theorem spD_len {R : List PyData → Out → Prop} {k : Nat} (hR : ∀ ds o, R ds o → ds.length = k) {vs : List V} {H : Hp} {Q : VK} (hs : spD K R vs H Q E) : vs.length = k := by
  obtain ⟨A, ds, o, l, hv, hr, c⟩ := hs
  rw [hv.length]
  exact hR ds o hr
/-! ### the town is made -/
def spTown (K : PySem.W.Frag) : Sp := fun vs H Q _ => ∃ A ns, Live A H ∧ ns.length ≤ 1000 ∧ DqAll K (cut A H) vs [scrD ns] ∧ ∀ p H', H p = none → Same H H' → H' p = some (.lst (((0 : Int) :: ns).map V.int)) → Q (.ref p) H'
theorem spTown_len {vs : List V} {H : Hp} {Q : VK} (hs : spTown K vs H Q E) : vs.length = 1 := by
  obtain ⟨A, ns, l, _, hv, q⟩ := hs
  rw [hv.length]; rfl
/-- the reading of [0] + list(script) -/
def t_law_town (K : PySem.W.Frag) (E : XK) : TS := (tRet (tOp (rAddU K) (tLst (tCons (tC (.int 0)) tNil)) (tCB (rListU K) (tCons (tVar 0) tNil))))
theorem pure_law_town {vs : List V} {H : Hp} {Q : VK} (hs : spTown K vs H Q E) : t_law_town K E { nx := fun _ H' => Q .non H', rt := Q } (L2.start ["script"] vs) H := by
  obtain ⟨A, ns, l, hz, hv, q⟩ := hs
  cases hv with
  | cons h1 h2 =>
    cases h2
    obtain ⟨a, rfl, k⟩ := h1.scrI
    refine ⟨by decide, fun p hp => ⟨.ref a, rfl, ?_⟩⟩
    refine ⟨a, _, rfl, .inl (sql_same (same_cut.trans (same_new hp)) k), fun p2 hp2 => ?_⟩
    have hne : p ≠ p2 := fun z => by rw [← z, upd_same] at hp2; cases hp2
    refine .inr (.inr (.inl ⟨p, p2, [.int 0], _, rfl, rfl, by rw [upd_ne hne]; exact upd_same, upd_same, ?_, fun p3 hp3 => ?_⟩))
    · rw [List.length_map]
      exact Nat.le_trans (show 1 + ns.length ≤ 2000 by omega) (by decide)
    · exact q p3 _ (((same_new hp).trans (same_new hp2)).free hp3) (((same_new hp).trans (same_new hp2)).trans (same_new hp3)) upd_same
end
end Lc

set_option Elab.async false
set_option linter.all false
set_option maxRecDepth 100000
set_option maxHeartbeats 4000000
namespace Lc
open PySem L2 PySem.Spec PyProof.Rows
section
variable {K : PySem.W.Frag} {E : XK}
theorem dps_ints {H : Hp} : ∀ ns : List Int, DpAll K H (ns.map V.int) (ns.map PyData.int)
  | [] => .nil
  | n :: ns => .cons (.int n) (dps_ints ns)
theorem sh_lstI {n : Nat} {ns : List Int} : Sh (n + 1) (.list (ns.map .int)) := sh_lst fun d hd => by
  obtain ⟨i, _, rfl⟩ := List.mem_map.mp hd
  exact sh_int
theorem od_eqScr {ns : List Int} {e : PyData} (h : Sh 40 e) : OpD K (rEqD K) (scrD ns) e (.bool (PyData.eqv (.list (ns.map .int)) e)) := fun A x y H l hx hy Q q => by
  obtain ⟨a, rfl, k⟩ := hx.scrI
  exact ⟨.list (ns.map .int), e, .lst (sql_same same_cut k) (dps_ints ns), dq_dp e h.1 (dq_out hy), (sh_lstI (n := 10)).shaped (by decide), h.shaped (by decide), q _ H (Same.refl H) (.bl _)⟩
theorem ca_lenScr {ns : List Int} : CaD K (rLenU K) [scrD ns] (.int ns.length) := CaD.inl fun A xs H l hx Q q => by
  cases hx with
  | cons h1 h2 =>
    cases h2
    obtain ⟨a, rfl, k⟩ := h1.scrI
    exact ⟨_, _, rfl, .inl (sql_same same_cut k), q _ H (Same.refl H) (by rw [List.length_map]; exact .int _)⟩
theorem od_ixScr {ns : List Int} {i : Int} {z : Int} (h : atI ns i = some z) : OpD K (rIx K) (scrD ns) (.int i) (.int z) := fun A x y H l hx hy Q q => by
  cases hy
  obtain ⟨a, rfl, k⟩ := hx.scrI
  refine .inl ⟨_, _, i, .int z, rfl, rfl, sql_same same_cut k, ?_, q _ H (Same.refl H) (.int _)⟩
  unfold atI at h ⊢
  rw [List.length_map]
  cases e : ixN ns.length i with
  | none => rw [e] at h; cases h
  | some j =>
    rw [e] at h
    have h' : ns[j]? = some z := h
    show (ns.map V.int)[j]? = some (V.int z)
    rw [List.getElem?_map, h'] <;> rfl
def t_law_draw (K : PySem.W.Frag) (E : XK) : TS := (tSeq (tAsg (tOp (rAddU K) (tOp (rIx K) (tVar 1) (tC (.int 0))) (tC (.int 1))) (gSub (tVar 1) (tC (.int 0)) rSetL))
  (tSeq (tIfS (tTest (tOp (rEqD K) (tVar 0) (tLst tNil))) (tRet (tOp rModU (tOp rDivU (tOp (rMulU K) (tOp (rMulU K) (tOp (rIx K) (tVar 1) (tC (.int 0))) (tOp (rIx K) (tVar 1) (tC (.int 0)))) (tC (.int 7))) (tC (.int 3))) (tVar 2))) tNext)
  (tSeq (tAsg (tOp rModU (tOp (rIx K) (tVar 1) (tC (.int 0))) (tCB (rLenU K) (tCons (tVar 0) tNil))) (gName 3))
  (tSeq (tAsg (tOp (rIx K) (tVar 1) (tOp (rAddU K) (tC (.int 1)) (tVar 3))) (gName 4))
  (tSeq (tIfS (tAnd (tTest (tOp rGeI (tOp (rIx K) (tVar 0) (tVar 3)) (tOp rPowU (tC (.int 10)) (tC (.int 18))))) (tTest (tOp rGtI (tVar 4) (tC (.int 0))))) (tSeq (tAsg (tOp rDivU (tVar 4) (tVar 2)) (gSub (tVar 1) (tOp (rAddU K) (tC (.int 1)) (tVar 3)) rSetL))
  (tRet (tOp rModU (tVar 4) (tVar 2)))) tNext)
  (tSeq (tAsg (tOp rModU (tOp (rAddU K) (tOp (rIx K) (tVar 0) (tVar 3)) (tOp (rMulU K) (tC (.int 104729)) (tOp (rIx K) (tVar 1) (tC (.int 0))))) (tC (.int 4294967291))) (gName 5))
  (tSeq (tAsg (tOp rModU (tOp rPowU (tVar 5) (tC (.int 5))) (tC (.int 4294967279))) (gName 5))
  (tRet (tOp rModU (tOp rDivU (tOp rModU (tOp (rAddU K) (tOp (rMulU K) (tOp rDivU (tVar 5) (tC (.int 64))) (tC (.int 69621))) (tVar 5)) (tC (.int 4294967231))) (tC (.int 8))) (tVar 2))))))))))
def pDraw : List PyData → Prop := fun ds => ∃ limit : Int, ds = [.int limit] ∧ 0 < limit ∧ limit < 1073741824
def rDraw : List PyData → PyData → Prop := fun ds d => ∃ limit r : Int, ds = [.int limit] ∧ d = .int r ∧ 0 ≤ r ∧ r < limit
def spDraw (K : PySem.W.Frag) : Sp := spT K 1 pDraw rDraw
theorem ed_nat (a b : Int) (h : 0 < b) : 0 ≤ a % b ∧ a % b < b := ⟨Int.emod_nonneg _ (by omega), Int.emod_lt_of_pos _ h⟩
theorem cmulL {i j : Int} (h1 : -1000000000000 ≤ i) (h2 : i ≤ 1000000000000) : CMul i j := .inl ⟨by omega, by omega⟩
theorem cmulR {i j : Int} (h1 : -1000000000000 ≤ j) (h2 : j ≤ 1000000000000) : CMul i j := .inr ⟨by omega, by omega⟩
/-- data that is an int is that int under any places -/
theorem dq_int {F F' : Hp} {v : V} {i : Int} (h : Dq K F v (.int i)) : Dq K F' v (.int i) := by cases h; exact .int i
theorem pure_law_draw {vs : List V} {H : Hp} {Q : VK} (hs : spDraw K vs H Q E) : t_law_draw K E { nx := fun _ H' => Q .non H', rt := Q } (L2.start ["script", "town", "limit", "at", "left", "number"] vs) H := by
  obtain ⟨A, tn, ns, c, hc, l, hm, ⟨ts, hts, tl, t0, t1⟩, ds, hv, ⟨limit, rfl, hl0, hl1⟩, q⟩ := hs
  have hlen : 0 < ts.length := by omega
  have hc' : c + 1 ≤ 1000000 := hc
  -- the places without the town
  let B := A.filter (fun a => decide (a ≠ tn))
  have hB : ∀ a, a ∈ B → a ∈ A := fun a ha => (List.mem_filter.mp ha).1
  have htB : tn ∉ B := fun h => by have := (List.mem_filter.mp h).2; simp at this
  have sAB : ∀ H : Hp, Same (cut A H) (cut B H) := fun H a o e => by
    obtain ⟨h1, h2⟩ := cut_some e
    rw [cut_out (fun z => h1 (hB a z))]; exact h2
  have lB : ∀ H' : Hp, Keep [tn] H H' → Live B H' := fun H' k a ha e => by
    have hne : a ≠ tn := fun z => htB (z ▸ ha)
    cases q1 : H a with
    | none => exact l a (hB a ha) q1
    | some o => rw [k a o (by simpa using hne) q1] at e; cases e
  match vs, hv with
  | [vs0, vs1, vs2], .cons hs0 (.cons ha0 (.cons hl0' .nil)) =>
    cases hl0'
    have e1 := ha0.adrI
    subst e1
    have env : ∀ (H' : Hp) (us : List Int), Keep [tn] H H' → H' tn = some (.lst (us.map V.int)) → EnvD K (cut B H') [some vs0, some (.ref tn), some (.int limit), none, none, none] [some (scrD ns), some (.list (us.map .int)), some (.int limit), none, none, none] := fun H' us k hu =>
      .cons (dp_same ((keep_cut hm k).trans (sAB H')) hs0) (.cons (.lst (by rw [cut_out htB]; exact hu) (DqAll.ofInts us)) (.cons (.int limit) (.cons trivial (.cons trivial (.cons trivial .nil)))))
    have g0 : ∀ us : List Int, 0 < us.length → atI (us.map PyData.int) 0 = some (.int (us.getD 0 0)) := fun us hu => by
      have : (us.map PyData.int)[0]? = some (.int (us.getD 0 0)) := by
        cases us with
        | nil => simp at hu
        | cons a r => rfl
      exact atI_nat (i := 0) this
    -- the count
    let us := ts.set 0 (ts.getD 0 0 + 1)
    have ul : us.length = ts.length := by simp [us]
    have u0 : us.getD 0 0 = ts.getD 0 0 + 1 := by
      cases ts with
      | nil => simp at hlen
      | cons a r => rfl
    have step1 : EvD K (tOp (rAddU K) (tOp (rIx K) (tVar 1) (tC (.int 0))) (tC (.int 1))) [some (scrD ns), some (.list (ts.map .int)), some (.int limit), none, none, none] (.int (ts.getD 0 0 + 1)) :=
      ev_op (ev_op (ev_var rfl) ev_int (od_ixL (g0 ts hlen))) ev_int od_add
    refine step1 B _ H (lB H Keep.refl) (env H ts Keep.refl hts) _ fun x H1 s1 hx => ?_
    cases hx
    refine ⟨.ref tn, rfl, tn, ts.map V.int, 0, 0, rfl, rfl, s1 _ _ hts, by unfold ixN; rw [List.length_map, if_pos (Int.le_refl 0), if_pos (by omega)]; rfl, ?_⟩
    have eset : (ts.map V.int).set 0 (.int (ts.getD 0 0 + 1)) = us.map V.int := by simp [us, List.map_set]
    rw [eset]
    have k2 : Keep [tn] H (upd H1 tn (.lst (us.map V.int))) := fun a o ha h => by
      rw [upd_ne (by simpa using ha)]; exact s1 a o h
    have hus : upd H1 tn (.lst (us.map V.int)) tn = some (.lst (us.map V.int)) := upd_same
    generalize hH2 : upd H1 tn (.lst (us.map V.int)) = H2 at k2 hus ⊢
    have E2 := env H2 us k2 hus
    have L2' := lB H2 k2
    have towns : ∀ (H' : Hp) (zs : List Int), Keep [tn] H H' → H' tn = some (.lst (zs.map V.int)) → zs.length = ts.length → zs.getD 0 0 = us.getD 0 0 → Town ns tn (c + 1) H' := fun H' zs k hz hl h0 => ⟨zs, hz, by omega, by rw [h0, u0]; omega, by rw [h0, u0]; push_cast; omega⟩
    -- a pure end
    have fin : ∀ (tz : TS) (r : Int), ExS K E tz [some (scrD ns), some (.list (us.map .int)), some (.int limit), none, none, none] (.rt (.int r)) → 0 ≤ r → r < limit → tz { nx := fun _ H' => Q .non H', rt := Q } [some vs0, some (.ref tn), some (.int limit), none, none, none] H2 := fun tz r h h0 h1 =>
      h B _ H2 _ L2' E2 fun v H3 s3 hv => q (.int r) v H3 ⟨limit, r, rfl, rfl, h0, h1⟩ (k2.trans (Keep.of s3)) (towns H3 us (k2.trans (Keep.of s3)) (s3 _ _ hus) ul rfl) (dq_int hv)
    have v1 : EvD K (tOp (rIx K) (tVar 1) (tC (.int 0))) [some (scrD ns), some (.list (us.map .int)), some (.int limit), none, none, none] (.int (us.getD 0 0)) := ev_op (ev_var rfl) ev_int (od_ixL (g0 us (by omega)))
    have hub : 0 ≤ us.getD 0 0 ∧ us.getD 0 0 ≤ 1000001 := by rw [u0]; omega
    by_cases hn : ns = []
    · -- an empty script
      have htest : EvT K (tTest (tOp (rEqD K) (tVar 0) (tLst tNil))) [some (scrD ns), some (.list (us.map .int)), some (.int limit), none, none, none] true :=
        et_test (ev_op (ev_var rfl) (ev_lst ea_nil (by simp)) (by
          have := od_eqScr (K := K) (ns := ns) (e := .list []) sh_nilL
          rw [hn] at this ⊢
          exact this))
      have hret := ed_nat (us.getD 0 0 * us.getD 0 0 * 7 / 3) limit hl0
      refine fin _ _ (xs_seqR (xs_if htest (fun _ => xs_ret (ev_op (ev_op (ev_op (ev_op v1 v1 (od_mul (cmulL (by omega) (by omega)))) ev_int (od_mul (cmulR (by omega) (by omega)))) ev_int (od_div (by omega) (by omega))) (ev_var rfl) (od_mod hl0))) (fun z => by cases z))) hret.1 hret.2
    · have hnl : 0 < ns.length := List.length_pos_iff.mpr hn
      have htest : EvT K (tTest (tOp (rEqD K) (tVar 0) (tLst tNil))) [some (scrD ns), some (.list (us.map .int)), some (.int limit), none, none, none] false :=
        et_test (ev_op (ev_var rfl) (ev_lst ea_nil (by simp)) (by
          have h := od_eqScr (K := K) (ns := ns) (e := .list []) sh_nilL
          cases ns with
          | nil => exact absurd rfl hn
          | cons a r => simpa [PyData.eqv, PyData.eqvAll] using h))
      let j := us.getD 0 0 % (ns.length : Int)
      have hj := ed_nat (us.getD 0 0) (ns.length : Int) (by omega)
      have hjn : j.toNat < ns.length := by show (us.getD 0 0 % (ns.length : Int)).toNat < ns.length; omega
      have hat : atI ns j = some (ns.getD j.toNat 0) := atI_of hj.1 (by simp [hjn])
      have hleft : atI (us.map PyData.int) (1 + j) = some (.int (us.getD (1 + j).toNat 0)) := by
        have h1 : (1 + j).toNat < us.length := by omega
        exact atI_of (by omega) (by simp [h1])
      have s3 : ExS K E (tAsg (tOp rModU (tOp (rIx K) (tVar 1) (tC (.int 0))) (tCB (rLenU K) (tCons (tVar 0) tNil))) (gName 3)) [some (scrD ns), some (.list (us.map .int)), some (.int limit), none, none, none] (.nx [some (scrD ns), some (.list (us.map .int)), some (.int limit), some (.int j), none, none]) :=
        xs_asg (ev_op v1 (ev_cb (ea_cons (ev_var rfl) ea_nil) ca_lenScr) (od_mod (by omega)))
      have s4 : ExS K E (tAsg (tOp (rIx K) (tVar 1) (tOp (rAddU K) (tC (.int 1)) (tVar 3))) (gName 4)) [some (scrD ns), some (.list (us.map .int)), some (.int limit), some (.int j), none, none] (.nx [some (scrD ns), some (.list (us.map .int)), some (.int limit), some (.int j), some (.int (us.getD (1 + j).toNat 0)), none]) :=
        xs_asg (ev_op (ev_var rfl) (ev_op ev_int (ev_var rfl) od_add) (od_ixL hleft))
      have vat : ∀ (x : Option PyData), EvD K (tOp (rIx K) (tVar 0) (tVar 3)) [some (scrD ns), some (.list (us.map .int)), some (.int limit), some (.int j), some (.int (us.getD (1 + j).toNat 0)), x] (.int (ns.getD j.toNat 0)) := fun x => ev_op (ev_var rfl) (ev_var rfl) (od_ixScr hat)
      have v1' : ∀ (x : Option PyData), EvD K (tOp (rIx K) (tVar 1) (tC (.int 0))) [some (scrD ns), some (.list (us.map .int)), some (.int limit), some (.int j), some (.int (us.getD (1 + j).toNat 0)), x] (.int (us.getD 0 0)) := fun x => ev_op (ev_var rfl) ev_int (od_ixL (g0 us (by omega)))
      have ht5 : EvT K (tAnd (tTest (tOp rGeI (tOp (rIx K) (tVar 0) (tVar 3)) (tOp rPowU (tC (.int 10)) (tC (.int 18))))) (tTest (tOp rGtI (tVar 4) (tC (.int 0))))) [some (scrD ns), some (.list (us.map .int)), some (.int limit), some (.int j), some (.int (us.getD (1 + j).toNat 0)), none] (decide ((10 : Int) ^ (18 : Int).toNat ≤ ns.getD j.toNat 0) && decide (0 < us.getD (1 + j).toNat 0)) :=
        et_and (et_test (ev_op (vat none) (ev_op ev_int ev_int (od_pow ⟨by omega, by omega, by decide⟩)) od_ge)) (fun _ => et_test (ev_op (ev_var rfl) ev_int od_gt))
      have s2 : ExS K E (tIfS (tTest (tOp (rEqD K) (tVar 0) (tLst tNil))) (tRet (tOp rModU (tOp rDivU (tOp (rMulU K) (tOp (rMulU K) (tOp (rIx K) (tVar 1) (tC (.int 0))) (tOp (rIx K) (tVar 1) (tC (.int 0)))) (tC (.int 7))) (tC (.int 3))) (tVar 2))) tNext) [some (scrD ns), some (.list (us.map .int)), some (.int limit), none, none, none] (.nx [some (scrD ns), some (.list (us.map .int)), some (.int limit), none, none, none]) :=
        xs_if htest (fun z => by cases z) (fun _ => xs_next)
      cases hb : (decide ((10 : Int) ^ (18 : Int).toNat ≤ ns.getD j.toNat 0) && decide (0 < us.getD (1 + j).toNat 0)) with
      | false =>
        rw [hb] at ht5
        let z1 := (ns.getD j.toNat 0 + 104729 * us.getD 0 0) % 4294967291
        have hz1 := ed_nat (ns.getD j.toNat 0 + 104729 * us.getD 0 0) 4294967291 (by omega)
        let z2 := z1 ^ (5 : Int).toNat % 4294967279
        have hz2 := ed_nat (z1 ^ (5 : Int).toNat) 4294967279 (by omega)
        have hret := ed_nat ((z2 / 64 * 69621 + z2) % 4294967231 / 8) limit hl0
        refine fin _ _ (xs_seq s2 (xs_seq s3 (xs_seq s4 (xs_seq (xs_if ht5 (fun z => by cases z) (fun _ => xs_next)) (xs_seq (xs_asg (d := .int z1) (ev_op (ev_op (vat none) (ev_op ev_int (v1' none) (od_mul (cmulL (by omega) (by omega)))) od_add) ev_int (od_mod (by omega)))) (xs_seq (xs_asg (d := .int z2) (ev_op (ev_op (ev_var rfl) ev_int (od_pow ⟨by omega, by omega, ?_⟩)) ev_int (od_mod (by omega)))) (xs_ret (ev_op (ev_op (ev_op (ev_op (ev_op (ev_op (ev_var rfl) ev_int (od_div (by omega) (by omega))) ev_int (od_mul (cmulR (by omega) (by omega)))) (ev_var rfl) od_add) ev_int (od_mod (by omega))) ev_int (od_div (by omega) (by omega))) (ev_var rfl) (od_mod hl0))))))))) hret.1 hret.2
        have a1 : 0 ≤ z1 ∧ z1 < 4294967291 := hz1
        have : z1.natAbs < 4294967291 := by omega
        exact Nat.lt_trans this (by decide)
      | true =>
        rw [hb] at ht5
        have eat : EvD K (tOp rModU (tOp (rIx K) (tVar 1) (tC (.int 0))) (tCB (rLenU K) (tCons (tVar 0) tNil))) [some (scrD ns), some (.list (us.map .int)), some (.int limit), none, none, none] (.int j) :=
          ev_op v1 (ev_cb (ea_cons (ev_var rfl) ea_nil) ca_lenScr) (od_mod (by omega))
        have elf : EvD K (tOp (rIx K) (tVar 1) (tOp (rAddU K) (tC (.int 1)) (tVar 3))) [some (scrD ns), some (.list (us.map .int)), some (.int limit), some (.int j), none, none] (.int (us.getD (1 + j).toNat 0)) :=
          ev_op (ev_var rfl) (ev_op ev_int (ev_var rfl) od_add) (od_ixL hleft)
        refine htest B _ H2 L2' E2 _ fun H3 sm3 => iteF ?_
        have E3 := E2.same (cut_same sm3)
        refine eat B _ H3 (L2'.same sm3) E3 _ fun x H4 sm4 hx => ?_
        cases hx
        have E4 := (E3.same (cut_same sm4)).set (Dq.int j) 3
        refine elf B _ H4 ((L2'.same sm3).same sm4) E4 _ fun x H5 sm5 hx => ?_
        cases hx
        have E5 := (E4.same (cut_same sm5)).set (Dq.int (us.getD (1 + j).toNat 0)) 4
        have s25 := (sm3.trans sm4).trans sm5
        refine ht5 B _ H5 (L2'.same s25) E5 _ fun H6 sm6 => iteT ?_
        have s26 := s25.trans sm6
        have E6 := E5.same (cut_same sm6)
        have hq : EvD K (tOp rDivU (tVar 4) (tVar 2)) [some (scrD ns), some (.list (us.map .int)), some (.int limit), some (.int j), some (.int (us.getD (1 + j).toNat 0)), none] (.int (us.getD (1 + j).toNat 0 / limit)) := ev_op (ev_var rfl) (ev_var rfl) (od_div hl0 hl1)
        refine hq B _ H6 (L2'.same s26) E6 _ fun x H7 sm7 hx => ?_
        cases hx
        have s27 := s26.trans sm7
        have E7 := E6.same (cut_same sm7)
        refine ⟨.ref tn, rfl, ?_⟩
        have hix : EvD K (tOp (rAddU K) (tC (.int 1)) (tVar 3)) [some (scrD ns), some (.list (us.map .int)), some (.int limit), some (.int j), some (.int (us.getD (1 + j).toNat 0)), none] (.int (1 + j)) := ev_op ev_int (ev_var rfl) od_add
        refine hix B _ H7 (L2'.same s27) E7 _ fun x H8 sm8 hx => ?_
        cases hx
        have s28 := s27.trans sm8
        have hin : (1 + j).toNat < us.length := by omega
        refine ⟨tn, us.map V.int, 1 + j, (1 + j).toNat, rfl, rfl, s28 _ _ hus, ?_, ?_⟩
        · unfold ixN
          rw [List.length_map, if_pos (by omega), if_pos (by omega)]
        have eset2 : (us.map V.int).set (1 + j).toNat (.int (us.getD (1 + j).toNat 0 / limit)) = (us.set (1 + j).toNat (us.getD (1 + j).toNat 0 / limit)).map V.int := by simp [List.map_set]
        rw [eset2]
        have hret := ed_nat (us.getD (1 + j).toNat 0) limit hl0
        refine ⟨_, rfl, _, rfl, _, _, rfl, rfl, hl0, ?_⟩
        have k9 : Keep [tn] H (upd H8 tn (.lst ((us.set (1 + j).toNat (us.getD (1 + j).toNat 0 / limit)).map V.int))) := fun a o ha h => by
          rw [upd_ne (by simpa using ha)]; exact s28 a o (k2 a o ha h)
        refine q (.int _) _ _ ⟨limit, _, rfl, rfl, hret.1, hret.2⟩ k9 (towns _ _ k9 upd_same (by rw [List.length_set]; exact ul) ?_) (.int _)
        have hne : (1 + j).toNat ≠ 0 := by omega
        rw [List.getD_eq_getElem?_getD, List.getElem?_set_ne hne, ← List.getD_eq_getElem?_getD]
end
end Lc

set_option Elab.async false
set_option linter.all false
set_option maxRecDepth 100000
set_option maxHeartbeats 4000000
namespace Lc
open PySem L2 PySem.Spec PyProof.Rows
/-! ### the program's data and what its defs are worth -/
def tI (l : List Int) : PyData := .tuple (l.map .int)
def famD (n : Int) (ss : List (List Int)) : PyData := .tuple [.int n, .tuple (ss.map tI)]
def btw (d : PyData) (lo hi : Int) : Bool := match d with
  | .int i => decide (lo ≤ i) && decide (i ≤ hi)
  | _ => false
def intOf : PyData → Int
  | .int i => i
  | _ => 0
def ascI : List Int → Bool
  | a :: b :: r => decide (a < b) && ascI (b :: r)
  | _ => true
def isLot (n : Int) (d : PyData) : Bool := match d with
  | .tuple ds => !ds.isEmpty && ds.all (fun x => btw x 0 (n - 1)) && ascI (ds.map intOf)
  | _ => false
def tupOf : PyData → List Int
  | .tuple ds => ds.map intOf
  | _ => []
def ascT : List (List Int) → Bool
  | a :: b :: r => HT.lexLt a b && ascT (b :: r)
  | _ => true
def isFam (d : PyData) : Bool := match d with
  | .tuple [.int n, .tuple ss] => decide (1 ≤ n) && decide (n ≤ 7) && decide (1 ≤ ss.length) && decide (ss.length ≤ 8) && ss.all (fun s => isLot n s) && ascT (ss.map tupOf)
  | _ => false
def LotOk (n : Int) (l : List Int) : Prop := l ≠ [] ∧ (∀ x ∈ l, 0 ≤ x ∧ x < n) ∧ ascI l = true
structure FamOk (n : Int) (ss : List (List Int)) : Prop where
  n1 : 1 ≤ n
  n7 : n ≤ 7
  s1 : 1 ≤ ss.length
  s8 : ss.length ≤ 8
  lots : ∀ s ∈ ss, LotOk n s
  asc : ascT ss = true
theorem tI_inj : ∀ {l m : List Int}, tI l = tI m → l = m := fun h => ints_inj (PyData.tuple.inj h)
theorem intOf_ints : ∀ l : List Int, (l.map PyData.int).map intOf = l
  | [] => rfl
  | a :: r => by rw [List.map_cons, List.map_cons, intOf_ints r]; rfl
theorem tupOf_one (l : List Int) : tupOf (tI l) = l := by unfold tI tupOf; exact intOf_ints l
theorem btw_int {i lo hi : Int} : btw (.int i) lo hi = (decide (lo ≤ i) && decide (i ≤ hi)) := rfl
theorem all_btw : ∀ {ds : List PyData} {lo hi : Int}, ds.all (fun x => btw x lo hi) = true → ds = (ds.map intOf).map .int ∧ ∀ x ∈ ds.map intOf, lo ≤ x ∧ x ≤ hi
  | [], _, _, _ => ⟨rfl, fun x h => by simp at h⟩
  | d :: ds, lo, hi, h => by
    have h' : btw d lo hi = true ∧ ds.all (fun x => btw x lo hi) = true := by simpa using h
    obtain ⟨e, k⟩ := all_btw h'.2
    cases d with
    | int i =>
      have hi' : lo ≤ i ∧ i ≤ hi := by simpa [btw] using h'.1
      refine ⟨by rw [List.map_cons, List.map_cons, ← e]; rfl, fun x hx => ?_⟩
      rcases List.mem_cons.mp hx with z | z
      · rw [z]; exact hi'
      · exact k x z
    | _ => simp [btw] at h'
theorem isLot_tI {n : Int} {l : List Int} : isLot n (tI l) = true ↔ LotOk n l := by
  unfold isLot tI LotOk
  simp only [intOf_ints, Bool.and_eq_true]
  constructor
  · rintro ⟨⟨h1, h2⟩, h3⟩
    refine ⟨fun e => by subst e; simp at h1, fun x hx => ?_, h3⟩
    have := (all_btw h2).2
    rw [intOf_ints] at this
    have := this x hx
    omega
  · rintro ⟨h1, h2, h3⟩
    refine ⟨⟨?_, ?_⟩, h3⟩
    · cases l with
      | nil => exact absurd rfl h1
      | cons a r => rfl
    · rw [List.all_eq_true]
      intro x hx
      obtain ⟨i, hi, rfl⟩ := List.mem_map.mp hx
      have := h2 i hi
      simp [btw]; omega
theorem isLot_inv {n : Int} {d : PyData} (h : isLot n d = true) : ∃ l, d = tI l ∧ LotOk n l := by
  cases d with
  | tuple ds =>
    have h0 := h
    unfold isLot at h
    simp only [Bool.and_eq_true] at h
    obtain ⟨e, _⟩ := all_btw h.1.2
    refine ⟨ds.map intOf, by unfold tI; rw [← e], ?_⟩
    have e2 : PyData.tuple ds = tI (ds.map intOf) := by unfold tI; rw [← e]
    rw [e2] at h0
    exact isLot_tI.mp h0
  | _ => simp [isLot] at h
theorem tupOf_tI : ∀ ss : List (List Int), (ss.map tI).map tupOf = ss
  | [] => rfl
  | a :: r => by rw [List.map_cons, List.map_cons, tupOf_tI r, tupOf_one]
theorem isFam_famD {n : Int} {ss : List (List Int)} : isFam (famD n ss) = true ↔ FamOk n ss := by
  unfold famD isFam
  simp only [Bool.and_eq_true, decide_eq_true_eq, List.length_map, tupOf_tI]
  constructor
  · rintro ⟨⟨⟨⟨⟨h1, h2⟩, h3⟩, h4⟩, h5⟩, h6⟩
    exact ⟨h1, h2, h3, h4, fun s hs => isLot_tI.mp (List.all_eq_true.mp h5 _ (List.mem_map.mpr ⟨s, hs, rfl⟩)), h6⟩
  · rintro ⟨h1, h2, h3, h4, h5, h6⟩
    refine ⟨⟨⟨⟨⟨h1, h2⟩, h3⟩, h4⟩, List.all_eq_true.mpr fun x hx => ?_⟩, h6⟩
    obtain ⟨s, hs, rfl⟩ := List.mem_map.mp hx
    exact isLot_tI.mpr (h5 s hs)
theorem all_lots : ∀ {n : Int} {ss : List PyData}, ss.all (fun s => isLot n s) = true → ss = (ss.map tupOf).map tI
  | _, [], _ => rfl
  | n, s :: ss, h => by
    have h' : isLot n s = true ∧ ss.all (fun s => isLot n s) = true := by simpa using h
    obtain ⟨l, rfl, _⟩ := isLot_inv h'.1
    rw [List.map_cons, List.map_cons, ← all_lots h'.2, tupOf_one]
theorem isFam_inv {d : PyData} (h : isFam d = true) : ∃ n ss, d = famD n ss ∧ FamOk n ss := by
  unfold isFam at h
  split at h
  · rename_i n ss
    have h5 : ss.all (fun s => isLot n s) = true := by simp only [Bool.and_eq_true] at h; exact h.1.2
    have e := all_lots h5
    refine ⟨n, ss.map tupOf, by unfold famD; rw [← e], ?_⟩
    apply isFam_famD.mp
    unfold famD
    rw [← e]
    unfold isFam
    exact h
  · cases h
/-! ### promises -/
abbrev Ret (o : Out) (d : PyData) : Prop := o = .rt d
def R_is_between : List PyData → Out → Prop := fun ds o => ∃ d lo hi, (tyName d).isSome = true ∧ ds = [d, .int lo, .int hi] ∧ o = .rt (.bool (btw d lo hi))
def sp_is_between (K : PySem.W.Frag) : Sp := spD K R_is_between
def R_is_lot : List PyData → Out → Prop := fun ds o => ∃ n d, Sh 40 d ∧ ds = [.int n, d] ∧ (∀ l, d = .tuple l → l.length ≤ 10000) ∧ o = .rt (.bool (isLot n d))
def sp_is_lot (K : PySem.W.Frag) : Sp := spD K R_is_lot
/-- short at every depth -/
def Short (d : PyData) : Prop := ∀ l, d = .tuple l → l.length ≤ 10000 ∧ ∀ x ∈ l, ∀ m, x = .tuple m → m.length ≤ 10000 ∧ ∀ y ∈ m, ∀ k, y = .tuple k → k.length ≤ 10000
def R_is_family : List PyData → Out → Prop := fun ds o => ∃ d, Sh 40 d ∧ Short d ∧ ds = [d] ∧ o = .rt (.bool (isFam d))
def sp_is_family (K : PySem.W.Frag) : Sp := spD K R_is_family
def R_check_family (K : PySem.W.Frag) : List PyData → Out → Prop := fun ds o => ∃ d, Sh 40 d ∧ Short d ∧ ds = [d] ∧ o = if isFam d then .rt .none else .ex (He.ga K "InvalidFamily")
def sp_check_family (K : PySem.W.Frag) : Sp := spD K (R_check_family K)
/-! colours -/
def isPM (d : PyData) : Bool := match d with
  | .int i => decide (i = -1) || decide (i = 1)
  | _ => false
def areCol (n : Int) (d : PyData) : Bool := match d with
  | .tuple ds => decide ((ds.length : Int) = n) && ds.all isPM
  | _ => false
def ColOk (n : Int) (c : List Int) : Prop := (c.length : Int) = n ∧ ∀ x ∈ c, x = -1 ∨ x = 1
theorem all_pm : ∀ {ds : List PyData}, ds.all isPM = true → ds = (ds.map intOf).map .int ∧ ∀ x ∈ ds.map intOf, x = -1 ∨ x = 1
  | [], _ => ⟨rfl, fun x h => by simp at h⟩
  | d :: ds, h => by
    have h' : isPM d = true ∧ ds.all isPM = true := by simpa using h
    obtain ⟨e, k⟩ := all_pm h'.2
    cases d with
    | int i =>
      have hi' : i = -1 ∨ i = 1 := by simpa [isPM] using h'.1
      refine ⟨by rw [List.map_cons, List.map_cons, ← e]; rfl, fun x hx => ?_⟩
      rcases List.mem_cons.mp hx with z | z
      · rw [z]; exact hi'
      · exact k x z
    | _ => simp [isPM] at h'
theorem areCol_tI {n : Int} {c : List Int} : areCol n (tI c) = true ↔ ColOk n c := by
  unfold areCol tI ColOk
  simp only [List.length_map, Bool.and_eq_true, decide_eq_true_eq]
  constructor
  · rintro ⟨h1, h2⟩
    have := (all_pm h2).2
    rw [intOf_ints] at this
    exact ⟨h1, this⟩
  · rintro ⟨h1, h2⟩
    refine ⟨h1, List.all_eq_true.mpr fun x hx => ?_⟩
    obtain ⟨i, hi, rfl⟩ := List.mem_map.mp hx
    rcases h2 i hi with e | e <;> subst e <;> rfl
theorem areCol_inv {n : Int} {d : PyData} (h : areCol n d = true) : ∃ c, d = tI c ∧ ColOk n c := by
  cases d with
  | tuple ds =>
    have h0 := h
    unfold areCol at h
    simp only [Bool.and_eq_true] at h
    obtain ⟨e, _⟩ := all_pm h.2
    have e2 : PyData.tuple ds = tI (ds.map intOf) := by unfold tI; rw [← e]
    refine ⟨_, e2, ?_⟩
    rw [e2] at h0
    exact areCol_tI.mp h0
  | _ => simp [areCol] at h
def R_are_colours : List PyData → Out → Prop := fun ds o => ∃ n ss d, Sh 40 d ∧ (∀ l, d = .tuple l → l.length ≤ 10000) ∧ ds = [famD n ss, d] ∧ o = .rt (.bool (areCol n d))
def sp_are_colours (K : PySem.W.Frag) : Sp := spD K R_are_colours
/-- a def of a family and a value: the family is looked at first -/
def R_fam (K : PySem.W.Frag) (R : Int → List (List Int) → List PyData → Out → Prop) : List PyData → Out → Prop := fun ds o => ∃ d r, ds = d :: r ∧ ((Sh 40 d ∧ Short d ∧ isFam d = false ∧ o = .ex (He.ga K "InvalidFamily")) ∨ ∃ n ss, FamOk n ss ∧ d = famD n ss ∧ R n ss r o)
def R_is_colours (K : PySem.W.Frag) : List PyData → Out → Prop := fun ds o => ds.length = 2 ∧ R_fam K (fun n ss r o => ∃ d, Sh 40 d ∧ (∀ l, d = .tuple l → l.length ≤ 10000) ∧ r = [d] ∧ o = .rt (.bool (areCol n d))) ds o
def sp_is_colours (K : PySem.W.Frag) : Sp := spD K (R_is_colours K)
def R_check_both (K : PySem.W.Frag) : List PyData → Out → Prop := fun ds o => ds.length = 2 ∧ R_fam K (fun n ss r o => ∃ d, Sh 40 d ∧ (∀ l, d = .tuple l → l.length ≤ 10000) ∧ r = [d] ∧ o = if areCol n d then .rt .none else .ex (He.ga K "InvalidColours")) ds o
def sp_check_both (K : PySem.W.Frag) : Sp := spD K (R_check_both K)
/-- the sum of a set, of all sets -/
def sumM (c : List Int) (s : List Int) : Int := (s.map fun x => c.getD x.toNat 0).sum
def sumsM (ss : List (List Int)) (c : List Int) : List Int := ss.map (sumM c)
/-- the greatest of numbers that are not negative -/
def maxM (l : List Int) : Int := l.foldr max 0
def minM : List Int → Int
  | [] => 0
  | x :: xs => xs.foldl min x
def unevM (ss : List (List Int)) (c : List Int) : Int := maxM ((sumsM ss c).map fun x => (x.natAbs : Int))
/-- the sets' things have places in c -/
def InC (ss : List (List Int)) (c : List Int) : Prop := ss.length ≤ 1000 ∧ ∀ s ∈ ss, s.length ≤ 1000 ∧ ∀ x ∈ s, 0 ≤ x ∧ x < (c.length : Int)
def R_found_sums : List PyData → Out → Prop := fun ds o => ∃ n ss c, InC ss c ∧ ds = [famD n ss, tI c] ∧ o = .rt (tI (sumsM ss c))
def sp_found_sums (K : PySem.W.Frag) : Sp := spD K R_found_sums
def R_found_uneven : List PyData → Out → Prop := fun ds o => ∃ n ss c, InC ss c ∧ ss ≠ [] ∧ ds = [famD n ss, tI c] ∧ o = .rt (.int (unevM ss c))
def sp_found_uneven (K : PySem.W.Frag) : Sp := spD K R_found_uneven
def R_sums (K : PySem.W.Frag) : List PyData → Out → Prop := fun ds o => ds.length = 2 ∧ R_fam K (fun n ss r o => ∃ d, Sh 40 d ∧ (∀ l, d = .tuple l → l.length ≤ 10000) ∧ r = [d] ∧ o = if areCol n d then .rt (tI (sumsM ss (tupOf d))) else .ex (He.ga K "InvalidColours")) ds o
def sp_sums (K : PySem.W.Frag) : Sp := spD K (R_sums K)
def R_uneven (K : PySem.W.Frag) : List PyData → Out → Prop := fun ds o => ds.length = 2 ∧ R_fam K (fun n ss r o => ∃ d, Sh 40 d ∧ (∀ l, d = .tuple l → l.length ≤ 10000) ∧ r = [d] ∧ o = if areCol n d then .rt (.int (unevM ss (tupOf d))) else .ex (He.ga K "InvalidColours")) ds o
def sp_uneven (K : PySem.W.Frag) : Sp := spD K (R_uneven K)
/-- all rows of so many choices -/
def rowsM (ch : List Int) : Nat → List (List Int)
  | 0 => [[]]
  | k + 1 => (rowsM ch k).flatMap fun r => ch.map fun x => r ++ [x]
def lD (rows : List (List Int)) : PyData := .list (rows.map tI)
def colsM (k : Nat) : List (List Int) := rowsM [-1, 1] k
def R_all_colours : List PyData → Out → Prop := fun ds o => ∃ k : Nat, k ≤ 7 ∧ ds = [.int (k : Int)] ∧ o = .rt (lD (colsM k))
def sp_all_colours (K : PySem.W.Frag) : Sp := spD K R_all_colours
def leastM (n : Int) (ss : List (List Int)) : Int := minM ((colsM n.toNat).map (unevM ss))
/-- a family whose sets may be any (a family within a lot) -/
def FamW (n : Int) (ss : List (List Int)) : Prop := 0 ≤ n ∧ n ≤ 7 ∧ ss ≠ [] ∧ ss.length ≤ 1000 ∧ ∀ s ∈ ss, s.length ≤ 1000 ∧ ∀ x ∈ s, 0 ≤ x ∧ x < n
def R_found_least : List PyData → Out → Prop := fun ds o => ∃ n ss, FamW n ss ∧ ds = [famD n ss] ∧ o = .rt (.int (leastM n ss))
def sp_found_least (K : PySem.W.Frag) : Sp := spD K R_found_least
def R_least_uneven (K : PySem.W.Frag) : List PyData → Out → Prop := fun ds o => ds.length = 1 ∧ R_fam K (fun n ss r o => r = [] ∧ o = .rt (.int (leastM n ss))) ds o
def sp_least_uneven (K : PySem.W.Frag) : Sp := spD K (R_least_uneven K)
def bestM (n : Int) (ss : List (List Int)) : List (List Int) := (colsM n.toNat).filter fun c => decide (unevM ss c = leastM n ss)
def tD (rows : List (List Int)) : PyData := .tuple (rows.map tI)
def R_all_best (K : PySem.W.Frag) : List PyData → Out → Prop := fun ds o => ds.length = 1 ∧ R_fam K (fun n ss r o => r = [] ∧ o = .rt (tD (bestM n ss))) ds o
def sp_all_best (K : PySem.W.Frag) : Sp := spD K (R_all_best K)
end Lc

set_option Elab.async false
set_option linter.all false
namespace Lc
open PySem L2 PySem.Spec PyProof.Rows
def t_is_between (K : PySem.W.Frag) (E : XK) : TS := (tRet (tAndV (tIsi K "int" (tVar 0)) (tAndV (tNotV (tIsi K "bool" (tVar 0))) (tChain rLeI rLeI (tVar 1) (tVar 0) (tVar 2)))))
def t_is_lot (K : PySem.W.Frag) (E : XK) : TS := (tSeq (tIfS (tOr (tNot (tB (tIsi K "tuple" (tVar 1)))) (tOr (tTest (tOp (rEqD K) (tVar 1) (tTup tNil))) (tNot (tB (tCB (rAll K) (tCons (tLc (iSeq K (tVar 1)) (gName 2) tYes (tCall (sp_is_between K) [] E0 (tCons (tVar 2) (tCons (tC (.int 0)) (tCons (tOp rSubU (tVar 0) (tC (.int 1))) tNil)))) [2]) tNil)))))) (tRet (tC (.bl false))) tNext)
  (tRet (tCB (rAll K) (tCons (tLc (iRng1 (tCons (tOp rSubU (tCB (rLenU K) (tCons (tVar 1) tNil)) (tC (.int 1))) tNil)) (gName 3) tYes (tOp (rLtU K) (tOp (rIx K) (tVar 1) (tVar 3)) (tOp (rIx K) (tVar 1) (tOp (rAddU K) (tVar 3) (tC (.int 1))))) [3]) tNil))))
def t_is_family (K : PySem.W.Frag) (E : XK) : TS := (tSeq (tIfS (tOr (tNot (tB (tIsi K "tuple" (tVar 0)))) (tOr (tTest (tOp (rNeD K) (tCB (rLenU K) (tCons (tVar 0) tNil)) (tC (.int 2)))) (tNot (tB (tCall (sp_is_between K) [] E0 (tCons (tOp (rIx K) (tVar 0) (tC (.int 0))) (tCons (tC (.int 1)) (tCons (tC (.int 7)) tNil)))))))) (tRet (tC (.bl false))) tNext)
  (tSeq (tAsg (tVar 0) (gTup K 2 (gCons (gName 1) (gCons (gName 2) gNil))))
  (tSeq (tIfS (tOr (tNot (tB (tIsi K "tuple" (tVar 2)))) (tOr (tNot (tTest (tChain rLeI rLeI (tC (.int 1)) (tCB (rLenU K) (tCons (tVar 2) tNil)) (tC (.int 8))))) (tNot (tB (tCB (rAll K) (tCons (tLc (iSeq K (tVar 2)) (gName 3) tYes (tCall (sp_is_lot K) [] E0 (tCons (tVar 1) (tCons (tVar 3) tNil))) [3]) tNil)))))) (tRet (tC (.bl false))) tNext)
  (tRet (tCB (rAll K) (tCons (tLc (iRng1 (tCons (tOp rSubU (tCB (rLenU K) (tCons (tVar 2) tNil)) (tC (.int 1))) tNil)) (gName 4) tYes (tOp (rLtU K) (tOp (rIx K) (tVar 2) (tVar 4)) (tOp (rIx K) (tVar 2) (tOp (rAddU K) (tVar 4) (tC (.int 1))))) [4]) tNil))))))
def t_check_family (K : PySem.W.Frag) (E : XK) : TS := (tIfS (tNot (tB (tCall (sp_is_family K) [] E0 (tCons (tVar 0) tNil)))) (tRaise (He.ga K "InvalidFamily") E) tNext)
def t_are_colours (K : PySem.W.Frag) (E : XK) : TS := (tSeq (tIfS (tOr (tNot (tB (tIsi K "tuple" (tVar 1)))) (tTest (tOp (rNeD K) (tCB (rLenU K) (tCons (tVar 1) tNil)) (tOp (rIx K) (tVar 0) (tC (.int 0)))))) (tRet (tC (.bl false))) tNext)
  (tRet (tCB (rAll K) (tCons (tLc (iSeq K (tVar 1)) (gName 2) tYes (tAndV (tIsi K "int" (tVar 2)) (tAndV (tNotV (tIsi K "bool" (tVar 2))) (tOp (rInU K) (tVar 2) (tTup (tCons (tUn (rU fun i => .int (-i)) (tC (.int 1))) (tCons (tC (.int 1)) tNil)))))) [2]) tNil))))
def t_is_colours (K : PySem.W.Frag) (E : XK) : TS := (tSeq (tDrop (tCall (sp_check_family K) [] E (tCons (tVar 0) tNil)))
  (tRet (tCall (sp_are_colours K) [] E0 (tCons (tVar 0) (tCons (tVar 1) tNil)))))
def t_check_both (K : PySem.W.Frag) (E : XK) : TS := (tSeq (tDrop (tCall (sp_check_family K) [] E (tCons (tVar 0) tNil)))
  (tIfS (tNot (tB (tCall (sp_are_colours K) [] E0 (tCons (tVar 0) (tCons (tVar 1) tNil))))) (tRaise (He.ga K "InvalidColours") E) tNext))
def t_found_sums (K : PySem.W.Frag) (E : XK) : TS := (tRet (tCB (rTupleOf K) (tCons (tLc (iSeq K (tOp (rIx K) (tVar 0) (tC (.int 1)))) (gName 3) tYes (tCB (rSum K) (tCons (tLc (iSeq K (tVar 3)) (gName 2) tYes (tOp (rIx K) (tVar 1) (tVar 2)) [2]) tNil)) [3]) tNil)))
def t_found_uneven (K : PySem.W.Frag) (E : XK) : TS := (tRet (tCB (rMaxU K) (tCons (tLc (iSeq K (tCall (sp_found_sums K) [] E0 (tCons (tVar 0) (tCons (tVar 1) tNil)))) (gName 2) tYes (tCB rAbsI (tCons (tVar 2) tNil)) [2]) tNil)))
def t_sums (K : PySem.W.Frag) (E : XK) : TS := (tSeq (tDrop (tCall (sp_check_both K) [] E (tCons (tVar 0) (tCons (tVar 1) tNil))))
  (tRet (tCall (sp_found_sums K) [] E0 (tCons (tVar 0) (tCons (tVar 1) tNil)))))
def t_uneven (K : PySem.W.Frag) (E : XK) : TS := (tSeq (tDrop (tCall (sp_check_both K) [] E (tCons (tVar 0) (tCons (tVar 1) tNil))))
  (tRet (tCall (sp_found_uneven K) [] E0 (tCons (tVar 0) (tCons (tVar 1) tNil)))))
def t_all_colours (K : PySem.W.Frag) (E : XK) : TS := (tSeq (tAsg (tLst (tCons (tTup tNil) tNil)) (gName 1))
  (tSeq (tFor (iRng1 (tCons (tVar 0) tNil)) (gName 2) (tAsg (tLc2 (iSeq K (tVar 1)) (gName 3) tYes (iSeq K (tTup (tCons (tUn (rU fun i => .int (-i)) (tC (.int 1))) (tCons (tC (.int 1)) tNil)))) (gName 4) tYes (tOp (rAddU K) (tVar 3) (tTup (tCons (tVar 4) tNil))) [3, 4] [4]) (gName 1)))
  (tRet (tVar 1))))
def t_found_least (K : PySem.W.Frag) (E : XK) : TS := (tRet (tCB (rMinU K) (tCons (tLc (iSeq K (tCall (sp_all_colours K) [] E0 (tCons (tOp (rIx K) (tVar 0) (tC (.int 0))) tNil))) (gName 1) tYes (tCall (sp_found_uneven K) [] E0 (tCons (tVar 0) (tCons (tVar 1) tNil))) [1]) tNil)))
def t_least_uneven (K : PySem.W.Frag) (E : XK) : TS := (tSeq (tDrop (tCall (sp_check_family K) [] E (tCons (tVar 0) tNil)))
  (tRet (tCall (sp_found_least K) [] E0 (tCons (tVar 0) tNil))))
def t_all_best (K : PySem.W.Frag) (E : XK) : TS := (tSeq (tDrop (tCall (sp_check_family K) [] E (tCons (tVar 0) tNil)))
  (tSeq (tAsg (tCall (sp_found_least K) [] E0 (tCons (tVar 0) tNil)) (gName 1))
  (tRet (tCB (rTupleOf K) (tCons (tLc (iSeq K (tCall (sp_all_colours K) [] E0 (tCons (tOp (rIx K) (tVar 0) (tC (.int 0))) tNil))) (gName 2) (tTest (tOp (rEqD K) (tCall (sp_found_uneven K) [] E0 (tCons (tVar 0) (tCons (tVar 2) tNil))) (tVar 1))) (tVar 2) [2]) tNil)))))
end Lc

set_option Elab.async false
set_option linter.all false
set_option maxRecDepth 100000
set_option maxHeartbeats 4000000
namespace Lc
open PySem L2 PySem.Spec PyProof.Rows
section
variable {K : PySem.W.Frag} {ρ : Rho} {ta tb te : TE} {t u : TT} {d e : PyData} {b c : Bool} {E : XK}
theorem et_orT (h : EvT K t ρ true) : EvT K (tOr t u) ρ true := fun A σ H l hE Q q => h A σ H l hE _ fun H1 s1 => iteT (q H1 s1)
theorem et_orF (h : EvT K t ρ false) (h2 : EvT K u ρ c) : EvT K (tOr t u) ρ c := et_to (et_or h fun _ => h2) (Bool.false_or c)
theorem et_andF (h : EvT K t ρ false) : EvT K (tAnd t u) ρ false := fun A σ H l hE Q q => h A σ H l hE _ fun H1 s1 => iteF (q H1 s1)
theorem et_andT (h : EvT K t ρ true) (h2 : EvT K u ρ c) : EvT K (tAnd t u) ρ c := et_to (et_and h fun _ => h2) (Bool.true_and c)
theorem ev_andF (h : EvD K ta ρ (.bool false)) : EvD K (tAndV ta tb) ρ (.bool false) := ev_to (ev_and (c := false) h fun z => by cases z) (by rfl)
theorem ev_andT (h : EvD K ta ρ (.bool true)) (h2 : EvD K tb ρ (.bool c)) : EvD K (tAndV ta tb) ρ (.bool c) := ev_to (ev_and h fun _ => h2) (by rw [Bool.true_and])
theorem ev_orT (h : EvD K ta ρ (.bool true)) : EvD K (tOrV ta tb) ρ (.bool true) := ev_to (ev_or (c := true) h fun z => by cases z) (by rfl)
theorem ev_orF (h : EvD K ta ρ (.bool false)) (h2 : EvD K tb ρ (.bool c)) : EvD K (tOrV ta tb) ρ (.bool c) := ev_to (ev_or h fun _ => h2) (by rw [Bool.false_or])
theorem it_id {wi : TI} {ds : List PyData} (h : ItD K wi ρ ds) : ItD K wi ρ (ds.map fun x => x) := by rw [List.map_id']; exact h
theorem it_eq {wi : TI} {ds es : List PyData} (h : ItD K wi ρ ds) (e : ds = es) : ItD K wi ρ es := e ▸ h
/-- all([..]), tuple([..]), sum([..]), max([..]), min([..]) of a comprehension over one name -/
theorem ev_all {α : Type} {wi : TI} {j : Nat} {vs : List Nat} (xs : List α) (enc : α → PyData) (p : α → Bool) (hi : ItD K wi ρ (xs.map enc)) (hz : xs.length ≤ 100000) (hw : j ∈ vs)
    (he : ∀ x ∈ xs, EvD K te ((wipeD ρ vs).set j (some (enc x))) (.bool (p x))) : EvD K (tCB (rAll K) (tCons (tLc wi (gName j) tYes te vs) tNil)) ρ (.bool (xs.all p)) := by
  have h := ev_lcN xs enc (fun x => .bool (p x)) hi hz hw he
  have e1 : xs.map (fun x => PyData.bool (p x)) = (xs.map p).map .bool := by rw [List.map_map]; rfl
  rw [e1] at h
  have h2 := ev_cb (ea_cons h ea_nil) (ca_all (K := K) (bs := xs.map p))
  have e2 : (xs.map p).all id = xs.all p := by rw [List.all_map]; rfl
  rw [e2] at h2
  exact h2
theorem ev_tupLc {α : Type} {wi : TI} {j : Nat} {vs : List Nat} (xs : List α) (enc : α → PyData) (out : α → PyData) (hi : ItD K wi ρ (xs.map enc)) (hz : xs.length ≤ 100000) (hw : j ∈ vs)
    (he : ∀ x ∈ xs, EvD K te ((wipeD ρ vs).set j (some (enc x))) (out x)) : EvD K (tCB (rTupleOf K) (tCons (tLc wi (gName j) tYes te vs) tNil)) ρ (.tuple (xs.map out)) :=
  ev_cb (ea_cons (ev_lcN xs enc out hi hz hw he) ea_nil) ca_tupleL
theorem ev_tupLcF {α : Type} {wi : TI} {j : Nat} {tt : TT} {vs : List Nat} (xs : List α) (enc : α → PyData) (p : α → Bool) (out : α → PyData) (hi : ItD K wi ρ (xs.map enc)) (hz : xs.length ≤ 100000) (hw : j ∈ vs)
    (ht : ∀ x ∈ xs, EvT K tt ((wipeD ρ vs).set j (some (enc x))) (p x)) (he : ∀ x ∈ xs, p x = true → EvD K te ((wipeD ρ vs).set j (some (enc x))) (out x)) : EvD K (tCB (rTupleOf K) (tCons (tLc wi (gName j) tt te vs) tNil)) ρ (.tuple ((xs.filter p).map out)) :=
  ev_cb (ea_cons (ev_lcNF xs enc p out hi hz hw ht he) ea_nil) ca_tupleL
theorem map_int {α : Type} (xs : List α) (f : α → Int) : xs.map (fun x => PyData.int (f x)) = (xs.map f).map .int := by rw [List.map_map]; rfl
theorem ev_lcI {α : Type} {wi : TI} {j : Nat} {vs : List Nat} (xs : List α) (enc : α → PyData) (f : α → Int) (hi : ItD K wi ρ (xs.map enc)) (hz : xs.length ≤ 100000) (hw : j ∈ vs)
    (he : ∀ x ∈ xs, EvD K te ((wipeD ρ vs).set j (some (enc x))) (.int (f x))) : EvD K (tLc wi (gName j) tYes te vs) ρ (.list ((xs.map f).map .int)) := by
  have h := ev_lcN xs enc (fun x => .int (f x)) hi hz hw he
  rw [map_int] at h
  exact h
theorem ev_sumLc {α : Type} {wi : TI} {j : Nat} {vs : List Nat} (xs : List α) (enc : α → PyData) (f : α → Int) (hi : ItD K wi ρ (xs.map enc)) (hz : xs.length ≤ 100000) (hw : j ∈ vs)
    (he : ∀ x ∈ xs, EvD K te ((wipeD ρ vs).set j (some (enc x))) (.int (f x))) : EvD K (tCB (rSum K) (tCons (tLc wi (gName j) tYes te vs) tNil)) ρ (.int (xs.map f).sum) :=
  ev_cb (ea_cons (ev_lcI xs enc f hi hz hw he) ea_nil) ca_sum
end
end Lc

set_option Elab.async false
set_option linter.all false
set_option maxRecDepth 100000
set_option maxHeartbeats 4000000
namespace Lc
open PySem L2 PySem.Spec PyProof.Rows
section
variable {K : PySem.W.Frag} {E : XK}
/-! ### is_between -/
theorem x_is_between {d : PyData} {lo hi : Int} (hd : (tyName d).isSome = true) : ExS K E (t_is_between K E) [some d, some (.int lo), some (.int hi)] (.rt (.bool (btw d lo hi))) := by
  refine xs_ret ?_
  have h1 := ev_isInt (K := K) (ρ := [some d, some (.int lo), some (.int hi)]) (ta := tVar 0) (ev_var rfl) hd
  have h2 := ev_isBool (K := K) (ρ := [some d, some (.int lo), some (.int hi)]) (ta := tVar 0) (ev_var rfl) hd
  cases d with
  | int i => exact ev_andT h1 (ev_andT (ev_not h2) (ev_chain (ev_var rfl) (ev_var rfl) od_le (fun _ => ev_var rfl) (fun _ => od_le)))
  | bool b => exact ev_andT h1 (ev_andF (ev_not h2))
  | _ => exact ev_andF h1
theorem pure_is_between {vs : List V} {H : Hp} {Q : VK} (hs : sp_is_between K vs H Q E) : t_is_between K E { nx := fun _ H' => Q .non H', rt := Q } (L2.start ["value", "low", "high"] vs) H :=
  sp_body (R := R_is_between) (fun ds o h => by
    obtain ⟨d, lo, hi, hd, rfl, rfl⟩ := h
    exact .inl (x_is_between hd)) hs
/-! ### is_lot -/
theorem asc_range : ∀ l : List Int, (List.range (l.length - 1)).all (fun k => decide (l.getD k 0 < l.getD (k + 1) 0)) = ascI l
  | [] => rfl
  | [a] => rfl
  | a :: b :: r => by
    have ih := asc_range (b :: r)
    have e1 : (a :: b :: r).length - 1 = (b :: r).length - 1 + 1 := by simp
    rw [e1, List.range_succ_eq_map, List.all_cons, List.all_map]
    show (decide (a < b) && _) = (decide (a < b) && ascI (b :: r))
    rw [← ih]
    rfl
theorem x_is_lot {n : Int} {d : PyData} (hd : Sh 40 d) (hz : ∀ l, d = .tuple l → l.length ≤ 10000) : ExS K E (t_is_lot K E) [some (.int n), some d, none, none] (.rt (.bool (isLot n d))) := by
  have h1 := ev_isTuple (K := K) (ρ := [some (.int n), some d, none, none]) (ta := tVar 1) (ev_var rfl) (sh_ty hd)
  cases d with
  | tuple ds =>
    have hl := hz ds rfl
    have hsub : ∀ x ∈ ds, (tyName x).isSome = true := fun x hx => by
      obtain ⟨i, hi⟩ := List.mem_iff_getElem?.mp hx
      have := (canLay_at (by simpa [PyData.canLay0] using hd.1) i x hi).1
      exact sh_ty (n := x.depth) ⟨this, Nat.le_refl _⟩
    have h2 : EvT K (tTest (tOp (rEqD K) (tVar 1) (tTup tNil))) [some (.int n), some (.tuple ds), none, none] ds.isEmpty := by
      have h := et_test (ev_op (ρ := [some (.int n), some (.tuple ds), none, none]) (ev_var (i := 1) rfl) (ev_tup ea_nil (by simp)) (od_eq (K := K) hd (sh_nil (n := 3))))
      refine et_to h ?_
      cases ds <;> simp [PyData.eqv, PyData.eqvAll]
    have h3 := ev_all (K := K) (ρ := [some (.int n), some (.tuple ds), none, none]) (j := 2) (vs := [2]) (te := tCall (sp_is_between K) [] E0 (tCons (tVar 2) (tCons (tC (.int 0)) (tCons (tOp rSubU (tVar 0) (tC (.int 1))) tNil)))) ds (fun x => x) (fun x => btw x 0 (n - 1)) (it_id (it_seqT (ev_var (i := 1) rfl))) (by omega) (by simp)
      (fun x hx => ev_call (ea_cons (ev_var rfl) (ea_cons ev_int (ea_cons (ev_op (ev_var rfl) ev_int od_sub) ea_nil))) ⟨x, 0, n - 1, hsub x hx, rfl, rfl⟩)
    cases he : ds.isEmpty with
    | true =>
      rw [he] at h2
      have e : isLot n (.tuple ds) = false := by simp [isLot, he]
      rw [e]
      exact xs_seqR (xs_if (et_orF (et_not (et_B h1)) (et_orT h2)) (fun _ => xs_ret ev_bl) (fun z => by cases z))
    | false =>
      rw [he] at h2
      cases ha : ds.all (fun x => btw x 0 (n - 1)) with
      | false =>
        rw [ha] at h3
        have e : isLot n (.tuple ds) = false := by simp only [isLot, ha]; simp
        rw [e]
        exact xs_seqR (xs_if (et_orF (et_not (et_B h1)) (et_orF h2 (et_not (et_B h3)))) (fun _ => xs_ret ev_bl) (fun z => by cases z))
      | true =>
        rw [ha] at h3
        obtain ⟨eds, _⟩ := all_btw ha
        generalize hl' : ds.map intOf = l at eds
        have e : isLot n (.tuple ds) = ascI l := by simp only [isLot, he, ha, hl']; simp
        rw [e]
        refine xs_seq (xs_if (et_orF (et_not (et_B h1)) (et_orF h2 (et_not (et_B h3)))) (fun z => by cases z) (fun _ => xs_next)) (xs_ret ?_)
        rw [← asc_range l]
        have hll : l.length = ds.length := by rw [← hl', List.length_map]
        have hlen : EvD K (tOp rSubU (tCB (rLenU K) (tCons (tVar 1) tNil)) (tC (.int 1))) [some (.int n), some (.tuple ds), none, none] (.int ((l.length : Int) - 1)) := by
          rw [hll]
          exact ev_op (ev_cb (ea_cons (ev_var rfl) ea_nil) ca_lenT) ev_int od_sub
        have hit := it_rng1 hlen (by omega)
        have e2 : ((l.length : Int) - 1).toNat = l.length - 1 := by omega
        rw [e2] at hit
        refine ev_all (List.range (l.length - 1)) (fun i => .int (0 + (i : Int))) (fun k => decide (l.getD k 0 < l.getD (k + 1) 0)) hit (by rw [List.length_range]; omega) (by simp) (fun k hk => ?_)
        have hk' : k < l.length - 1 := List.mem_range.mp hk
        have g : ∀ j : Nat, j < l.length → atI ds (j : Int) = some (.int (l.getD j 0)) := fun j hj => by
          refine atI_nat ?_
          rw [eds, List.getElem?_map]
          simp [hj]
        have g1 := g k (by omega)
        have g2 := g (k + 1) (by omega)
        refine ev_op (ev_op (ev_var rfl) (ev_var rfl) (od_ixT ?_)) (ev_op (ev_var rfl) (ev_op (ev_var rfl) ev_int od_add) (od_ixT ?_)) od_lt
        · rw [Int.zero_add]; exact g1
        · rw [Int.zero_add]; exact_mod_cast g2
  | _ =>
    refine xs_seqR (xs_if (et_orT (et_not (et_B h1))) (fun _ => xs_ret ev_bl) (fun z => by cases z))
theorem pure_is_lot {vs : List V} {H : Hp} {Q : VK} (hs : sp_is_lot K vs H Q E) : t_is_lot K E { nx := fun _ H' => Q .non H', rt := Q } (L2.start ["things", "value", "one", "k"] vs) H :=
  sp_body (R := R_is_lot) (fun ds o h => by
    obtain ⟨n, d, hd, rfl, hz, rfl⟩ := h
    exact .inl (x_is_lot hd hz)) hs
end
end Lc

set_option Elab.async false
set_option linter.all false
set_option maxRecDepth 100000
set_option maxHeartbeats 4000000
namespace Lc
open PySem L2 PySem.Spec PyProof.Rows
section
variable {K : PySem.W.Frag} {E : XK}
/-! ### is_family -/
theorem lex_range : ∀ l : List (List Int), (List.range (l.length - 1)).all (fun k => HT.lexLt (l.getD k []) (l.getD (k + 1) [])) = ascT l
  | [] => rfl
  | [a] => rfl
  | a :: b :: r => by
    have ih := lex_range (b :: r)
    have e1 : (a :: b :: r).length - 1 = (b :: r).length - 1 + 1 := by simp
    rw [e1, List.range_succ_eq_map, List.all_cons, List.all_map]
    show (HT.lexLt a b && _) = (HT.lexLt a b && ascT (b :: r))
    rw [← ih]
    rfl
theorem sh_sub {n : Nat} {ds : List PyData} (h : Sh (n + 1) (.tuple ds)) : ∀ x ∈ ds, Sh n x := fun x hx => by
  obtain ⟨i, hi⟩ := List.mem_iff_getElem?.mp hx
  obtain ⟨h1, h2⟩ := canLay_at (by simpa [PyData.canLay0] using h.1) i x hi
  have := h.2
  simp only [PyData.depth] at this
  exact ⟨h1, by omega⟩
theorem sh_ix {n : Nat} {ds : List PyData} (h : Sh (n + 1) (.tuple ds)) {i : Nat} {x : PyData} (e : ds[i]? = some x) : Sh n x := sh_sub h x (List.mem_of_getElem? e)
theorem x_is_family {d : PyData} (hd : Sh 40 d) (hz : Short d) : ExS K E (t_is_family K E) [some d, none, none, none, none] (.rt (.bool (isFam d))) := by
  have h1 := ev_isTuple (K := K) (ρ := [some d, none, none, none, none]) (ta := tVar 0) (ev_var rfl) (sh_ty hd)
  cases d with
  | tuple ds =>
    obtain ⟨hl, hz1⟩ := hz ds rfl
    have h2 : EvT K (tTest (tOp (rNeD K) (tCB (rLenU K) (tCons (tVar 0) tNil)) (tC (.int 2)))) [some (.tuple ds), none, none, none, none] (!decide (ds.length = 2)) := by
      refine et_to (et_test (ev_op (ev_cb (ea_cons (ev_var rfl) ea_nil) ca_lenT) ev_int (od_ne (sh_int (n := 1)) (sh_int (n := 1))))) ?_
      simp only [PyData.eqv]
      by_cases h : ds.length = 2
      · simp [h]
      · simp only [decide_eq_false h]
        have : ((ds.length : Int) == 2) = false := by simpa using (by omega : ¬ (ds.length : Int) = 2)
        rw [this]
    by_cases hlen : ds.length = 2
    · obtain ⟨a, b, rfl⟩ : ∃ a b, ds = [a, b] := by
        match ds, hlen with
        | [a, b], _ => exact ⟨a, b, rfl⟩
      have ha : Sh 39 a := sh_sub hd a (by simp)
      have hb : Sh 39 b := sh_sub hd b (by simp)
      rw [decide_eq_true hlen] at h2
      have h3 : EvD K (tCall (sp_is_between K) [] E0 (tCons (tOp (rIx K) (tVar 0) (tC (.int 0))) (tCons (tC (.int 1)) (tCons (tC (.int 7)) tNil)))) [some (.tuple [a, b]), none, none, none, none] (.bool (btw a 1 7)) :=
        ev_call (ea_cons (ev_op (ev_var rfl) ev_int (od_ixT (d := a) rfl)) (ea_cons ev_int (ea_cons ev_int ea_nil))) ⟨a, 1, 7, sh_ty ha, rfl, rfl⟩
      cases hbt : btw a 1 7 with
      | false =>
        rw [hbt] at h3
        have e : isFam (.tuple [a, b]) = false := by
          unfold isFam
          split
          · rename_i n ss heq
            simp only [PyData.tuple.injEq, List.cons.injEq, and_true] at heq
            obtain ⟨rfl, rfl⟩ := heq
            simp only [btw, Bool.and_eq_false_iff, decide_eq_false_iff_not] at hbt
            simp only [Bool.and_eq_false_iff, decide_eq_false_iff_not]
            rcases hbt with h | h
            · exact .inl (.inl (.inl (.inl (.inl h))))
            · exact .inl (.inl (.inl (.inl (.inr h))))
          · rfl
        rw [e]
        exact xs_seqR (xs_if (et_orF (et_not (et_B h1)) (et_orF h2 (et_not (et_B h3)))) (fun _ => xs_ret ev_bl) (fun z => by cases z))
      | true =>
        rw [hbt] at h3
        obtain ⟨n, rfl⟩ : ∃ n, a = .int n := by
          cases a with
          | int n => exact ⟨n, rfl⟩
          | _ => simp [btw] at hbt
        have hn : 1 ≤ n ∧ n ≤ 7 := by simpa [btw] using hbt
        refine xs_seq (xs_if (et_orF (et_not (et_B h1)) (et_orF h2 (et_not (et_B h3)))) (fun z => by cases z) (fun _ => xs_next)) ?_
        refine xs_seq (xs_asgT (ev_var (i := 0) rfl) tg_two) ?_
        show ExS K E _ [some (.tuple [.int n, b]), some (.int n), some b, none, none] _
        have k1 := ev_isTuple (K := K) (ρ := [some (.tuple [.int n, b]), some (.int n), some b, none, none]) (ta := tVar 2) (ev_var rfl) (sh_ty hb)
        cases b with
        | tuple ss =>
          obtain ⟨hsl, hz2⟩ := hz1 (.tuple ss) (by simp) ss rfl
          have hlen2 : EvD K (tCB (rLenU K) (tCons (tVar 2) tNil)) [some (.tuple [.int n, .tuple ss]), some (.int n), some (.tuple ss), none, none] (.int ss.length) := ev_cb (ea_cons (ev_var rfl) ea_nil) ca_lenT
          have k2 := et_test (ev_chain (ρ := [some (.tuple [.int n, .tuple ss]), some (.int n), some (.tuple ss), none, none]) (ev_int (K := K) (i := 1)) hlen2 od_le (fun _ => ev_int (i := 8)) (fun _ => od_le))
          have k3 := ev_all (K := K) (ρ := [some (.tuple [.int n, .tuple ss]), some (.int n), some (.tuple ss), none, none]) (j := 3) (vs := [3]) (te := tCall (sp_is_lot K) [] E0 (tCons (tVar 1) (tCons (tVar 3) tNil))) ss (fun x => x) (fun x => isLot n x) (it_id (it_seqT (ev_var (i := 2) rfl))) (by omega) (by simp)
            (fun x hx => ev_call (ea_cons (ev_var rfl) (ea_cons (ev_var rfl) ea_nil)) ⟨n, x, (sh_sub hb x hx).mono (by omega), rfl, fun l hl => hz2 x hx l hl, rfl⟩)
          cases hc : (decide ((1 : Int) ≤ (ss.length : Int)) && decide ((ss.length : Int) ≤ 8)) with
          | false =>
            rw [hc] at k2
            have e : isFam (.tuple [.int n, .tuple ss]) = false := by
              unfold isFam
              simp only [Bool.and_eq_false_iff, decide_eq_false_iff_not] at hc ⊢
              rcases hc with h | h
              · exact .inl (.inl (.inl (.inr (by omega))))
              · exact .inl (.inl (.inr (by omega)))
            rw [e]
            exact xs_seqR (xs_if (et_orF (et_not (et_B k1)) (et_orT (et_not k2))) (fun _ => xs_ret ev_bl) (fun z => by cases z))
          | true =>
            rw [hc] at k2
            have hc' : 1 ≤ ss.length ∧ ss.length ≤ 8 := by
              simp only [Bool.and_eq_true, decide_eq_true_eq] at hc
              omega
            cases hal : ss.all (fun x => isLot n x) with
            | false =>
              rw [hal] at k3
              have e : isFam (.tuple [.int n, .tuple ss]) = false := by
                unfold isFam
                simp only [hal, Bool.and_false, Bool.false_and]
              rw [e]
              exact xs_seqR (xs_if (et_orF (et_not (et_B k1)) (et_orF (et_not k2) (et_not (et_B k3)))) (fun _ => xs_ret ev_bl) (fun z => by cases z))
            | true =>
              rw [hal] at k3
              have ess := all_lots hal
              generalize hll : ss.map tupOf = l at ess
              have e : isFam (.tuple [.int n, .tuple ss]) = ascT l := by
                unfold isFam
                simp only [hal, hll, decide_eq_true hn.1, decide_eq_true hn.2, decide_eq_true hc'.1, decide_eq_true hc'.2, Bool.true_and]
              rw [e]
              refine xs_seq (xs_if (et_orF (et_not (et_B k1)) (et_orF (et_not k2) (et_not (et_B k3)))) (fun z => by cases z) (fun _ => xs_next)) (xs_ret ?_)
              rw [← lex_range l]
              have hls : l.length = ss.length := by rw [← hll, List.length_map]
              have hit := it_rng1 (ev_op hlen2 ev_int od_sub) (by omega : -(2 ^ 62) ≤ (ss.length : Int) - 1 ∧ (ss.length : Int) - 1 < 2 ^ 62)
              have e2 : ((ss.length : Int) - 1).toNat = l.length - 1 := by omega
              rw [e2] at hit
              refine ev_all (List.range (l.length - 1)) (fun i => .int (0 + (i : Int))) (fun k => HT.lexLt (l.getD k []) (l.getD (k + 1) [])) hit (by rw [List.length_range]; omega) (by simp) (fun k hk => ?_)
              have hk' : k < l.length - 1 := List.mem_range.mp hk
              have g : ∀ j : Nat, j < l.length → atI ss (j : Int) = some (tI (l.getD j [])) := fun j hj => by
                refine atI_nat ?_
                rw [ess, List.getElem?_map]
                simp [hj]
              have g1 := g k (by omega)
              have g2 := g (k + 1) (by omega)
              refine ev_op (ev_op (ev_var rfl) (ev_var rfl) (od_ixT ?_)) (ev_op (ev_var rfl) (ev_op (ev_var rfl) ev_int od_add) (od_ixT ?_)) od_ltT
              · rw [Int.zero_add]; exact g1
              · rw [Int.zero_add]; exact_mod_cast g2
        | _ => exact xs_seqR (xs_if (et_orT (et_not (et_B k1))) (fun _ => xs_ret ev_bl) (fun z => by cases z))
    · rw [decide_eq_false hlen] at h2
      have e : isFam (.tuple ds) = false := by
        unfold isFam
        split
        · rename_i n ss heq
          have := PyData.tuple.inj heq
          subst this
          simp at hlen
        · rfl
      rw [e]
      exact xs_seqR (xs_if (et_orF (et_not (et_B h1)) (et_orT h2)) (fun _ => xs_ret ev_bl) (fun z => by cases z))
  | _ => exact xs_seqR (xs_if (et_orT (et_not (et_B h1))) (fun _ => xs_ret ev_bl) (fun z => by cases z))
theorem pure_is_family {vs : List V} {H : Hp} {Q : VK} (hs : sp_is_family K vs H Q E) : t_is_family K E { nx := fun _ H' => Q .non H', rt := Q } (L2.start ["value", "things", "sets", "one", "k"] vs) H :=
  sp_body (R := R_is_family) (fun ds o h => by
    obtain ⟨d, hd, hz, rfl, rfl⟩ := h
    exact .inl (x_is_family hd hz)) hs
/-! ### check_family -/
theorem pure_check_family {vs : List V} {H : Hp} {Q : VK} (hs : sp_check_family K vs H Q E) : t_check_family K E { nx := fun _ H' => Q .non H', rt := Q } (L2.start ["value"] vs) H :=
  sp_body (R := R_check_family K) (fun ds o h => by
    obtain ⟨d, hd, hz, rfl, rfl⟩ := h
    have ht : EvT K (tNot (tB (tCall (sp_is_family K) [] E0 (tCons (tVar 0) tNil)))) [some d] (!isFam d) := et_not (et_B (ev_call (ea_cons (ev_var rfl) ea_nil) ⟨d, hd, hz, rfl, rfl⟩))
    cases hf : isFam d with
    | true =>
      rw [hf] at ht
      exact .inr ⟨by simp, [some d], xs_if ht (fun z => by cases z) (fun _ => xs_next)⟩
    | false =>
      rw [hf] at ht
      exact .inl (xs_if ht (fun _ => xs_raiseF) (fun z => by cases z))) hs
end
end Lc

set_option Elab.async false
set_option linter.all false
set_option maxRecDepth 100000
set_option maxHeartbeats 4000000
namespace Lc
open PySem L2 PySem.Spec PyProof.Rows
section
variable {K : PySem.W.Frag} {E : XK}
/-! ### families as data -/
theorem sh_fam {n : Int} {ss : List (List Int)} : Sh 3 (famD n ss) := sh_tup fun d hd => by
  simp only [List.mem_cons, List.mem_nil_iff, or_false] at hd
  rcases hd with rfl | rfl
  · exact sh_int
  · exact sh_tup fun d hd => by
      obtain ⟨s, _, rfl⟩ := List.mem_map.mp hd
      exact sh_tupI
theorem LotOk.len {n : Int} {s : List Int} (h : LotOk n s) (hn : n ≤ 7) : s.length ≤ 7 := by
  obtain ⟨h1, h2, h3⟩ := h
  have aux : ∀ (l : List Int) (a : Int), ascI l = true → (∀ x ∈ l, a ≤ x ∧ x < n) → (l.length : Int) ≤ max 0 (n - a) := by
    intro l
    induction l with
    | nil => intro a _ _; simp; omega
    | cons x r ih =>
      intro a hasc hb
      have hx := hb x (by simp)
      have hr : ascI r = true ∧ ∀ y ∈ r, x + 1 ≤ y := by
        clear ih hb
        induction r generalizing x with
        | nil => exact ⟨rfl, fun y hy => by simp at hy⟩
        | cons y r ih2 =>
          have h' : x < y ∧ ascI (y :: r) = true := by simpa [ascI] using hasc
          by_cases hy : a ≤ y ∧ y < n
          · have := ih2 y h'.2 hy
            exact ⟨h'.2, fun z hz => by
              rcases List.mem_cons.mp hz with e | e
              · omega
              · have := this.2 z e; omega⟩
          · refine ⟨h'.2, fun z hz => ?_⟩
            have key : ∀ (r : List Int) (y : Int), ascI (y :: r) = true → ∀ z ∈ y :: r, y ≤ z := by
              intro r
              induction r with
              | nil => intro y _ z hz; have := List.mem_singleton.mp hz; omega
              | cons w r ih3 =>
                intro y hy z hz
                have h2 : y < w ∧ ascI (w :: r) = true := by simpa [ascI] using hy
                rcases List.mem_cons.mp hz with e | e
                · omega
                · have := ih3 w h2.2 z e; omega
            have := key r y h'.2 z hz
            omega
      have := ih (x + 1) hr.1 (fun y hy => ⟨hr.2 y hy, (hb y (by simp [hy])).2⟩)
      simp only [List.length_cons]
      push_cast
      omega
  have := aux s 0 h3 h2
  omega
theorem FamOk.short {n : Int} {ss : List (List Int)} (h : FamOk n ss) : Short (famD n ss) := fun l hl => by
  have := PyData.tuple.inj hl
  subst this
  refine ⟨by simp, fun x hx m hm => ?_⟩
  simp only [List.mem_cons, List.mem_nil_iff, or_false] at hx
  rcases hx with rfl | rfl
  · cases hm
  · have := PyData.tuple.inj hm
    subst this
    refine ⟨by rw [List.length_map]; have := h.s8; omega, fun y hy k hk => ?_⟩
    obtain ⟨s, hs, rfl⟩ := List.mem_map.mp hy
    have := PyData.tuple.inj hk
    subst this
    have := (h.lots s hs).len h.n7
    rw [List.length_map]; omega
theorem FamOk.isFam {n : Int} {ss : List (List Int)} (h : FamOk n ss) : isFam (famD n ss) = true := isFam_famD.mpr h
theorem FamOk.w {n : Int} {ss : List (List Int)} (h : FamOk n ss) : FamW n ss :=
  ⟨by have := h.n1; omega, h.n7, fun e => by have := h.s1; rw [e] at this; simp at this, by have := h.s8; omega, fun s hs => ⟨by have := (h.lots s hs).len h.n7; omega, (h.lots s hs).2.1⟩⟩
theorem FamW.inC {n : Int} {ss : List (List Int)} {c : List Int} (h : FamW n ss) (hc : (c.length : Int) = n) : InC ss c := ⟨h.2.2.2.1, fun s hs => ⟨(h.2.2.2.2 s hs).1, fun x hx => by have := (h.2.2.2.2 s hs).2 x hx; omega⟩⟩
/-- check_family(family) in a body: it passes, it raises -/
theorem xs_check {ρ : Rho} {i : Nat} {n : Int} {ss : List (List Int)} (h : FamOk n ss) (hi : ρ[i]? = some (some (famD n ss))) : ExS K E (tDrop (tCall (sp_check_family K) [] E (tCons (tVar i) tNil))) ρ (.nx ρ) :=
  xs_drop (ev_call (ea_cons (ev_var hi) ea_nil) ⟨famD n ss, sh_fam.mono (by omega), h.short, rfl, by rw [h.isFam]; rfl⟩)
theorem xs_checkX {ρ : Rho} {i : Nat} {d : PyData} (h1 : Sh 40 d) (h2 : Short d) (h : isFam d = false) (hi : ρ[i]? = some (some d)) : ExS K E (tDrop (tCall (sp_check_family K) [] E (tCons (tVar i) tNil))) ρ (.ex (He.ga K "InvalidFamily")) :=
  xs_dropX (ex_call (ea_cons (ev_var hi) ea_nil) ⟨d, h1, h2, rfl, by rw [h]; rfl⟩)
/-! ### are_colours -/
theorem pm_eqv (i : Int) : ([PyData.int (-1), .int 1].any fun z => PyData.eqv z (.int i)) = isPM (.int i) := by
  simp only [List.any_cons, List.any_nil, PyData.eqv, isPM, Bool.or_false]
  by_cases h1 : i = -1
  · subst h1; rfl
  · by_cases h2 : i = 1
    · subst h2; rfl
    · have a : ((-1 : Int) == i) = false := by simpa using fun z => h1 z.symm
      have b : ((1 : Int) == i) = false := by simpa using fun z => h2 z.symm
      rw [a, b, decide_eq_false h1, decide_eq_false h2]
theorem x_are_colours {n : Int} {ss : List (List Int)} {d : PyData} (hd : Sh 40 d) (hz : ∀ l, d = .tuple l → l.length ≤ 10000) : ExS K E (t_are_colours K E) [some (famD n ss), some d, none] (.rt (.bool (areCol n d))) := by
  have h1 := ev_isTuple (K := K) (ρ := [some (famD n ss), some d, none]) (ta := tVar 1) (ev_var rfl) (sh_ty hd)
  cases d with
  | tuple ds =>
    have hl := hz ds rfl
    have h2 : EvT K (tTest (tOp (rNeD K) (tCB (rLenU K) (tCons (tVar 1) tNil)) (tOp (rIx K) (tVar 0) (tC (.int 0))))) [some (famD n ss), some (.tuple ds), none] (!decide ((ds.length : Int) = n)) := by
      refine et_to (et_test (ev_op (ev_cb (ea_cons (ev_var rfl) ea_nil) ca_lenT) (ev_op (ev_var rfl) ev_int (od_ixT (d := .int n) rfl)) (od_ne (sh_int (n := 1)) (sh_int (n := 1))))) ?_
      simp only [PyData.eqv]
      rw [Bool.beq_eq_decide_eq]
    cases hn : decide ((ds.length : Int) = n) with
    | false =>
      rw [hn] at h2
      have e : areCol n (.tuple ds) = false := by simp only [areCol, hn, Bool.false_and]
      rw [e]
      exact xs_seqR (xs_if (et_orF (et_not (et_B h1)) h2) (fun _ => xs_ret ev_bl) (fun z => by cases z))
    | true =>
      rw [hn] at h2
      have e : areCol n (.tuple ds) = ds.all isPM := by simp only [areCol, hn, Bool.true_and]
      rw [e]
      refine xs_seq (xs_if (et_orF (et_not (et_B h1)) h2) (fun z => by cases z) (fun _ => xs_next)) (xs_ret ?_)
      refine ev_all ds (fun x => x) isPM (it_id (it_seqT (ev_var rfl))) (by omega) (by simp) (fun x hx => ?_)
      have hty : (tyName x).isSome = true := sh_ty (sh_sub hd x hx)
      have k1 := ev_isInt (K := K) (ρ := [some (famD n ss), some (.tuple ds), some x]) (ta := tVar 2) (ev_var rfl) hty
      have k2 := ev_isBool (K := K) (ρ := [some (famD n ss), some (.tuple ds), some x]) (ta := tVar 2) (ev_var rfl) hty
      show EvD K _ [some (famD n ss), some (.tuple ds), some x] _
      cases x with
      | int i =>
        refine ev_andT k1 (ev_andT (ev_not k2) ?_)
        rw [← pm_eqv]
        exact ev_op (ev_var rfl) (ev_tup (ea_cons (ev_un ev_int ud_neg) (ea_cons ev_int ea_nil)) (by simp)) (od_inT (sh_int (n := 1)) (sh_tup (n := 1) fun d hd => by
          simp only [List.mem_cons, List.mem_nil_iff, or_false] at hd
          rcases hd with rfl | rfl <;> exact sh_int))
      | bool b => exact ev_andT k1 (ev_andF (ev_not k2))
      | _ => exact ev_andF k1
  | _ => exact xs_seqR (xs_if (et_orT (et_not (et_B h1))) (fun _ => xs_ret ev_bl) (fun z => by cases z))
theorem pure_are_colours {vs : List V} {H : Hp} {Q : VK} (hs : sp_are_colours K vs H Q E) : t_are_colours K E { nx := fun _ H' => Q .non H', rt := Q } (L2.start ["family", "value", "one"] vs) H :=
  sp_body (R := R_are_colours) (fun ds o h => by
    obtain ⟨n, ss, d, hd, hz, rfl, rfl⟩ := h
    exact .inl (x_are_colours hd hz)) hs
theorem pure_is_colours {vs : List V} {H : Hp} {Q : VK} (hs : sp_is_colours K vs H Q E) : t_is_colours K E { nx := fun _ H' => Q .non H', rt := Q } (L2.start ["family", "value"] vs) H :=
  sp_body (R := R_is_colours K) (fun ds o h => by
    obtain ⟨hl, d, r, rfl, h⟩ := h
    rcases h with ⟨h1, h2, h3, rfl⟩ | ⟨n, ss, hF, rfl, d, hd, hz, rfl, rfl⟩
    · match r, hl with
      | [y], _ => exact .inl (xs_seqX (xs_checkX h1 h2 h3 rfl))
    · exact .inl (xs_seq (xs_check hF rfl) (xs_ret (ev_call (ea_cons (ev_var rfl) (ea_cons (ev_var rfl) ea_nil)) ⟨n, ss, d, hd, hz, rfl, rfl⟩)))) hs
theorem pure_check_both {vs : List V} {H : Hp} {Q : VK} (hs : sp_check_both K vs H Q E) : t_check_both K E { nx := fun _ H' => Q .non H', rt := Q } (L2.start ["family", "colours"] vs) H :=
  sp_body (R := R_check_both K) (fun ds o h => by
    obtain ⟨hl, d, r, rfl, h⟩ := h
    rcases h with ⟨h1, h2, h3, rfl⟩ | ⟨n, ss, hF, rfl, d, hd, hz, rfl, rfl⟩
    · match r, hl with
      | [y], _ => exact .inl (xs_seqX (xs_checkX h1 h2 h3 rfl))
    · have ht : EvT K (tNot (tB (tCall (sp_are_colours K) [] E0 (tCons (tVar 0) (tCons (tVar 1) tNil))))) [some (famD n ss), some d] (!areCol n d) := et_not (et_B (ev_call (ea_cons (ev_var rfl) (ea_cons (ev_var rfl) ea_nil)) ⟨n, ss, d, hd, hz, rfl, rfl⟩))
      cases hf : areCol n d with
      | true =>
        rw [hf] at ht
        exact .inr ⟨by simp, [some (famD n ss), some d], xs_seq (xs_check hF rfl) (xs_if ht (fun z => by cases z) (fun _ => xs_next))⟩
      | false =>
        rw [hf] at ht
        exact .inl (xs_seq (xs_check hF rfl) (xs_if ht (fun _ => xs_raiseF) (fun z => by cases z)))) hs
/-! ### sums -/
theorem ev_fam1 {ρ : Rho} {i : Nat} {n : Int} {ss : List (List Int)} (h : ρ[i]? = some (some (famD n ss))) : EvD K (tOp (rIx K) (tVar i) (tC (.int 1))) ρ (.tuple (ss.map tI)) := ev_op (ev_var h) ev_int (od_ixT rfl)
theorem ev_fam0 {ρ : Rho} {i : Nat} {n : Int} {ss : List (List Int)} (h : ρ[i]? = some (some (famD n ss))) : EvD K (tOp (rIx K) (tVar i) (tC (.int 0))) ρ (.int n) := ev_op (ev_var h) ev_int (od_ixT rfl)
theorem at_tI {c : List Int} {x : Int} (h0 : 0 ≤ x) (h1 : x < (c.length : Int)) : atI (c.map PyData.int) x = some (.int (c.getD x.toNat 0)) := atI_of h0 (by
  have : x.toNat < c.length := by omega
  simp [this])
theorem x_found_sums {n : Int} {ss : List (List Int)} {c : List Int} (h : InC ss c) : ExS K E (t_found_sums K E) [some (famD n ss), some (tI c), none, none] (.rt (tI (sumsM ss c))) := by
  refine xs_ret ?_
  have e : tI (sumsM ss c) = .tuple (ss.map fun s => .int (sumM c s)) := by unfold tI sumsM; rw [List.map_map]; rfl
  rw [e]
  refine ev_tupLc ss tI (fun s => .int (sumM c s)) (it_seqT (ev_fam1 rfl)) (by have := h.1; omega) (by simp) (fun s hs => ?_)
  obtain ⟨hsl, hsx⟩ := h.2 s hs
  exact ev_sumLc s .int (fun x => c.getD x.toNat 0) (it_seqT (ev_var rfl)) (by omega) (by simp) (fun x hx => ev_op (ev_var rfl) (ev_var rfl) (od_ixT (at_tI (hsx x hx).1 (hsx x hx).2)))
theorem pure_found_sums {vs : List V} {H : Hp} {Q : VK} (hs : sp_found_sums K vs H Q E) : t_found_sums K E { nx := fun _ H' => Q .non H', rt := Q } (L2.start ["family", "colours", "thing", "one"] vs) H :=
  sp_body (R := R_found_sums) (fun ds o h => by
    obtain ⟨n, ss, c, hc, rfl, rfl⟩ := h
    exact .inl (x_found_sums hc)) hs
theorem maxM_mem : ∀ {l : List Int}, l ≠ [] → (∀ x ∈ l, 0 ≤ x) → maxM l ∈ l
  | [], h, _ => absurd rfl h
  | [a], _, h => by
    have := h a (by simp)
    show max a 0 ∈ [a]
    have e : max a 0 = a := by omega
    rw [e]; simp
  | a :: b :: r, _, h => by
    have ih := maxM_mem (l := b :: r) (by simp) (fun x hx => h x (by simp [hx]))
    show max a (maxM (b :: r)) ∈ _
    rcases Int.le_total a (maxM (b :: r)) with h1 | h1
    · have e : max a (maxM (b :: r)) = maxM (b :: r) := by omega
      rw [e]; simp [ih]
    · have e : max a (maxM (b :: r)) = a := by omega
      rw [e]; simp
theorem maxM_le : ∀ {l : List Int} {x : Int}, x ∈ l → x ≤ maxM l
  | a :: r, x, h => by
    show x ≤ max a (maxM r)
    rcases List.mem_cons.mp h with e | e
    · omega
    · have := maxM_le e; omega
theorem maxM_nonneg : ∀ l : List Int, 0 ≤ maxM l
  | [] => Int.le_refl 0
  | a :: r => by have := maxM_nonneg r; show 0 ≤ max a (maxM r); omega
theorem minM_mem : ∀ {l : List Int}, l ≠ [] → minM l ∈ l
  | [], h => absurd rfl h
  | a :: r, _ => by
    show r.foldl min a ∈ a :: r
    induction r generalizing a with
    | nil => simp
    | cons b r ih =>
      show r.foldl min (min a b) ∈ _
      have := ih (min a b) (by simp)
      rcases List.mem_cons.mp this with e | e
      · rcases Int.le_total a b with h | h
        · have : min a b = a := by omega
          rw [e, this]; simp
        · have : min a b = b := by omega
          rw [e, this]; simp
      · simp [e]
theorem foldl_min_le : ∀ (r : List Int) (a : Int), r.foldl min a ≤ a ∧ ∀ x ∈ r, r.foldl min a ≤ x
  | [], a => ⟨Int.le_refl _, fun x h => by simp at h⟩
  | b :: r, a => by
    obtain ⟨h1, h2⟩ := foldl_min_le r (min a b)
    refine ⟨by show r.foldl min (min a b) ≤ a; omega, fun x hx => ?_⟩
    show r.foldl min (min a b) ≤ x
    rcases List.mem_cons.mp hx with e | e
    · omega
    · exact h2 x e
theorem minM_le : ∀ {l : List Int} {x : Int}, x ∈ l → minM l ≤ x
  | a :: r, x, h => by
    show r.foldl min a ≤ x
    rcases List.mem_cons.mp h with e | e
    · rw [e]; exact (foldl_min_le r a).1
    · exact (foldl_min_le r a).2 x e
theorem x_found_uneven {n : Int} {ss : List (List Int)} {c : List Int} (h : InC ss c) (hne : ss ≠ []) : ExS K E (t_found_uneven K E) [some (famD n ss), some (tI c), none] (.rt (.int (unevM ss c))) := by
  refine xs_ret (ev_cb (ea_cons (ev_lcI (sumsM ss c) .int (fun x => (x.natAbs : Int)) (it_seqT (ev_call (ea_cons (ev_var rfl) (ea_cons (ev_var rfl) ea_nil)) ⟨n, ss, c, h, rfl, rfl⟩)) ?_ (by simp) (fun x hx => ev_cb (ea_cons (ev_var rfl) ea_nil) ca_abs)) ea_nil) (ca_max (maxM_mem ?_ ?_) (fun x hx => maxM_le hx)))
  · rw [show (sumsM ss c).length = ss.length by simp [sumsM]]; have := h.1; omega
  · simp [sumsM, hne]
  · intro x hx
    obtain ⟨y, _, rfl⟩ := List.mem_map.mp hx
    omega
theorem pure_found_uneven {vs : List V} {H : Hp} {Q : VK} (hs : sp_found_uneven K vs H Q E) : t_found_uneven K E { nx := fun _ H' => Q .non H', rt := Q } (L2.start ["family", "colours", "one"] vs) H :=
  sp_body (R := R_found_uneven) (fun ds o h => by
    obtain ⟨n, ss, c, hc, hne, rfl, rfl⟩ := h
    exact .inl (x_found_uneven hc hne)) hs
end
end Lc

set_option Elab.async false
set_option linter.all false
set_option maxRecDepth 100000
set_option maxHeartbeats 4000000
namespace Lc
open PySem L2 PySem.Spec PyProof.Rows
section
variable {K : PySem.W.Frag} {E : XK}
/-- check_both(family, colours) in a body -/
theorem xs_both {ρ : Rho} {i j : Nat} {n : Int} {ss : List (List Int)} {d : PyData} (h : FamOk n ss) (hi : ρ[i]? = some (some (famD n ss))) (hj : ρ[j]? = some (some d)) (hd : Sh 40 d) (hz : ∀ l, d = .tuple l → l.length ≤ 10000) (hc : areCol n d = true) :
    ExS K E (tDrop (tCall (sp_check_both K) [] E (tCons (tVar i) (tCons (tVar j) tNil)))) ρ (.nx ρ) :=
  xs_drop (ev_call (ea_cons (ev_var hi) (ea_cons (ev_var hj) ea_nil)) ⟨rfl, famD n ss, [d], rfl, .inr ⟨n, ss, h, rfl, d, hd, hz, rfl, by rw [hc]; rfl⟩⟩)
theorem xs_bothX {ρ : Rho} {i j : Nat} {n : Int} {ss : List (List Int)} {d : PyData} (h : FamOk n ss) (hi : ρ[i]? = some (some (famD n ss))) (hj : ρ[j]? = some (some d)) (hd : Sh 40 d) (hz : ∀ l, d = .tuple l → l.length ≤ 10000) (hc : areCol n d = false) :
    ExS K E (tDrop (tCall (sp_check_both K) [] E (tCons (tVar i) (tCons (tVar j) tNil)))) ρ (.ex (He.ga K "InvalidColours")) :=
  xs_dropX (ex_call (ea_cons (ev_var hi) (ea_cons (ev_var hj) ea_nil)) ⟨rfl, famD n ss, [d], rfl, .inr ⟨n, ss, h, rfl, d, hd, hz, rfl, by rw [hc]; rfl⟩⟩)
theorem xs_bothF {ρ : Rho} {i j : Nat} {d e : PyData} (h1 : Sh 40 d) (h2 : Short d) (h3 : isFam d = false) (hi : ρ[i]? = some (some d)) (hj : ρ[j]? = some (some e)) :
    ExS K E (tDrop (tCall (sp_check_both K) [] E (tCons (tVar i) (tCons (tVar j) tNil)))) ρ (.ex (He.ga K "InvalidFamily")) :=
  xs_dropX (ex_call (ea_cons (ev_var hi) (ea_cons (ev_var hj) ea_nil)) ⟨rfl, d, [e], rfl, .inl ⟨h1, h2, h3, rfl⟩⟩)
theorem pure_sums {vs : List V} {H : Hp} {Q : VK} (hs : sp_sums K vs H Q E) : t_sums K E { nx := fun _ H' => Q .non H', rt := Q } (L2.start ["family", "colours"] vs) H :=
  sp_body (R := R_sums K) (fun ds o h => by
    obtain ⟨hl, d, r, rfl, h⟩ := h
    rcases h with ⟨h1, h2, h3, rfl⟩ | ⟨n, ss, hF, rfl, d, hd, hz, rfl, rfl⟩
    · match r, hl with
      | [y], _ => exact .inl (xs_seqX (xs_bothF h1 h2 h3 rfl rfl))
    · cases hc : areCol n d with
      | false => exact .inl (xs_seqX (xs_bothX hF rfl rfl hd hz hc))
      | true =>
        obtain ⟨c, rfl, hok⟩ := areCol_inv hc
        rw [tupOf_one]
        exact .inl (xs_seq (xs_both hF rfl rfl hd hz hc) (xs_ret (ev_call (ea_cons (ev_var rfl) (ea_cons (ev_var rfl) ea_nil)) ⟨n, ss, c, hF.w.inC hok.1, rfl, rfl⟩)))) hs
theorem pure_uneven {vs : List V} {H : Hp} {Q : VK} (hs : sp_uneven K vs H Q E) : t_uneven K E { nx := fun _ H' => Q .non H', rt := Q } (L2.start ["family", "colours"] vs) H :=
  sp_body (R := R_uneven K) (fun ds o h => by
    obtain ⟨hl, d, r, rfl, h⟩ := h
    rcases h with ⟨h1, h2, h3, rfl⟩ | ⟨n, ss, hF, rfl, d, hd, hz, rfl, rfl⟩
    · match r, hl with
      | [y], _ => exact .inl (xs_seqX (xs_bothF h1 h2 h3 rfl rfl))
    · cases hc : areCol n d with
      | false => exact .inl (xs_seqX (xs_bothX hF rfl rfl hd hz hc))
      | true =>
        obtain ⟨c, rfl, hok⟩ := areCol_inv hc
        rw [tupOf_one]
        exact .inl (xs_seq (xs_both hF rfl rfl hd hz hc) (xs_ret (ev_call (ea_cons (ev_var rfl) (ea_cons (ev_var rfl) ea_nil)) ⟨n, ss, c, hF.w.inC hok.1, hF.w.2.2.1, rfl, rfl⟩)))) hs
/-! ### all_colours -/
theorem rowsM_len (ch : List Int) : ∀ k r, r ∈ rowsM ch k → r.length = k
  | 0, r, h => by rw [List.mem_singleton.mp h]; rfl
  | k + 1, r, h => by
    obtain ⟨r', h1, h2⟩ := List.mem_flatMap.mp h
    obtain ⟨x, _, rfl⟩ := List.mem_map.mp h2
    rw [List.length_append, rowsM_len ch k r' h1]; rfl
theorem rowsM_mem (ch : List Int) : ∀ k r, r ∈ rowsM ch k ↔ r.length = k ∧ ∀ x ∈ r, x ∈ ch
  | 0, r => by
    constructor
    · intro h; rw [List.mem_singleton.mp h]; exact ⟨rfl, fun x hx => by simp at hx⟩
    · rintro ⟨h, _⟩; rw [List.eq_nil_of_length_eq_zero h]; simp [rowsM]
  | k + 1, r => by
    constructor
    · intro h
      obtain ⟨r', h1, h2⟩ := List.mem_flatMap.mp h
      obtain ⟨x, hx, rfl⟩ := List.mem_map.mp h2
      obtain ⟨k1, k2⟩ := (rowsM_mem ch k r').mp h1
      refine ⟨by rw [List.length_append, k1]; rfl, fun y hy => ?_⟩
      rcases List.mem_append.mp hy with z | z
      · exact k2 y z
      · rw [List.mem_singleton.mp z]; exact hx
    · rintro ⟨h1, h2⟩
      have hne : r ≠ [] := fun e => by subst e; simp at h1
      have er : r = r.dropLast ++ [r.getLast hne] := (List.dropLast_concat_getLast hne).symm
      rw [er]
      refine List.mem_flatMap.mpr ⟨r.dropLast, (rowsM_mem ch k _).mpr ⟨by rw [List.length_dropLast]; omega, fun x hx => h2 x (List.dropLast_subset r hx)⟩, List.mem_map.mpr ⟨_, h2 _ (List.getLast_mem hne), rfl⟩⟩
theorem rowsM_size (ch : List Int) : ∀ k, (rowsM ch k).length = ch.length ^ k
  | 0 => rfl
  | k + 1 => by
    show ((rowsM ch k).flatMap fun r => ch.map fun x => r ++ [x]).length = _
    have aux : ∀ l : List (List Int), (l.flatMap fun r => ch.map fun x => r ++ [x]).length = l.length * ch.length := by
      intro l
      induction l with
      | nil => simp
      | cons a l ih => rw [List.flatMap_cons, List.length_append, ih, List.length_map, List.length_cons, Nat.succ_mul]; omega
    rw [aux, rowsM_size ch k, Nat.pow_succ]
/-- one turn of the loop that makes the rows -/
theorem ev_rows {ρ : Rho} {tt1 : TE} {i j l : Nat} (ch : List Int) (k : Nat) (hk : k < 7) (hch : ch.length ≤ 2) (hij : j ≠ l) (hi : (wipeD ρ [j, l]).length = ρ.length) (hr : ρ[i]? = some (some (lD (rowsM ch k)))) (hjl : j < ρ.length) (hll : l < ρ.length)
    (ht : ∀ r, EvD K tt1 ((wipeD ρ [j, l]).set j (some r)) (tI ch)) :
    EvD K (tLc2 (iSeq K (tVar i)) (gName j) tYes (iSeq K tt1) (gName l) tYes (tOp (rAddU K) (tVar j) (tTup (tCons (tVar l) tNil))) [j, l] [l]) ρ (lD (rowsM ch (k + 1))) := by
  have e : lD (rowsM ch (k + 1)) = .list ((rowsM ch k).flatMap fun r => (ch.filter (fun _ => true)).map fun x => tI (r ++ [x])) := by
    unfold lD
    congr 1
    show ((rowsM ch k).flatMap fun r => ch.map fun x => r ++ [x]).map tI = _
    rw [List.map_flatMap]
    congr 1
    funext r
    have : ch.filter (fun _ => true) = ch := by simp
    rw [this, List.map_map]; rfl
  rw [e]
  refine ev_lc2 (rowsM ch k) tI (fun r => (wipeD ρ [j, l]).set j (some (tI r))) (fun _ => ch) (fun _ x => .int x) (fun r x => (wipeD ((wipeD ρ [j, l]).set j (some (tI r))) [l]).set l (some (.int x))) (fun _ _ => true) (fun r x => tI (r ++ [x])) (ws := [j]) (ws1 := [l])
    (it_seqL (ev_var hr)) ?_ (by simp) (by simp) (fun r _ => tg_name) (fun r _ => et_yes) (fun r _ => it_seqT (ht _)) (fun r _ x _ => tg_name) (fun r _ x _ => et_yes) (fun r hr x hx _ => ?_)
  · have h1 : ((rowsM ch k).flatMap fun _ => ch).length = (rowsM ch k).length * ch.length := by
      generalize rowsM ch k = z
      induction z with
      | nil => simp
      | cons a z ih => rw [List.flatMap_cons, List.length_append, ih, List.length_cons, Nat.succ_mul]; omega
    rw [h1, rowsM_size]
    have h2 : ch.length ^ k ≤ 2 ^ 7 := Nat.le_trans (Nat.pow_le_pow_left hch k) (Nat.pow_le_pow_right (by omega) (by omega))
    have : ch.length ^ k * ch.length ≤ 2 ^ 7 * 2 := Nat.mul_le_mul h2 hch
    have h3 : (2 : Nat) ^ 7 * 2 = 256 := by decide
    omega
  · have hlen := rowsM_len ch k r hr
    have e2 : tI (r ++ [x]) = .tuple (r.map .int ++ [.int x]) := by unfold tI; rw [List.map_append]; rfl
    rw [e2]
    refine ev_op (ev_var (d := tI r) ?_) (ev_tup (ea_cons (ev_var (d := .int x) ?_) ea_nil) (by simp)) (od_addT (by simp; omega))
    · rw [List.getElem?_set_ne (Ne.symm hij)]
      show ((((wipeD ρ [j, l]).set j (some (tI r))).set l none))[j]? = _
      rw [List.getElem?_set_ne (Ne.symm hij), List.getElem?_set_self (by rw [hi]; exact hjl)]
    · rw [List.getElem?_set_self]
      show l < (((wipeD ρ [j, l]).set j (some (tI r))).set l none).length
      rw [List.length_set, List.length_set, hi]; exact hll
theorem x_all_colours {k : Nat} (hk : k ≤ 7) : ExS K E (t_all_colours K E) [some (.int (k : Int)), none, none, none, none] (.rt (lD (colsM k))) := by
  refine xs_seq (xs_asg (d := lD (colsM 0)) (ev_lst (ea_cons (ev_tup ea_nil (by simp)) ea_nil) (by decide))) ?_
  show ExS K E _ [some (.int (k : Int)), some (lD (colsM 0)), none, none, none] _
  have hit := it_rng1 (K := K) (ρ := [some (.int (k : Int)), some (lD (colsM 0)), none, none, none]) (te := tVar 0) (ev_var rfl) (by omega : -(2 ^ 62) ≤ (k : Int) ∧ (k : Int) < 2 ^ 62)
  rw [Int.toNat_natCast] at hit
  have hfor := xs_for (K := K) (E := E) (g := gName 2) (ts := (tAsg (tLc2 (iSeq K (tVar 1)) (gName 3) tYes (iSeq K (tTup (tCons (tUn (rU fun i => .int (-i)) (tC (.int 1))) (tCons (tC (.int 1)) tNil)))) (gName 4) tYes (tOp (rAddU K) (tVar 3) (tTup (tCons (tVar 4) tNil))) [3, 4] [4]) (gName 1))) (List.range k) (fun i => .int (0 + (i : Int)))
    (fun i => [some (.int (k : Int)), some (lD (colsM i)), if i = 0 then none else some (.int (0 + ((i - 1 : Nat) : Int))), none, none]) (fun i => [some (.int (k : Int)), some (lD (colsM i)), some (.int (0 + (i : Int))), none, none]) (ws := [2]) hit rfl
    (fun i hi => by
      rw [List.length_range] at hi
      rw [List.getElem_range]
      exact tg_name) (fun i hi => by
      rw [List.length_range] at hi
      refine xs_asg (ev_rows [-1, 1] i (by omega) (by simp) (by decide) rfl rfl (by simp) (by simp) (fun r => ?_))
      exact ev_tup (ea_cons (ev_un ev_int ud_neg) (ea_cons ev_int ea_nil)) (by simp))
  rw [List.length_range] at hfor
  exact xs_seq hfor (xs_ret (ev_var rfl))
theorem pure_all_colours {vs : List V} {H : Hp} {Q : VK} (hs : sp_all_colours K vs H Q E) : t_all_colours K E { nx := fun _ H' => Q .non H', rt := Q } (L2.start ["things", "rows", "thing", "row", "one"] vs) H :=
  sp_body (R := R_all_colours) (fun ds o h => by
    obtain ⟨k, hk, rfl, rfl⟩ := h
    exact .inl (x_all_colours hk)) hs
/-! ### found_least, least_uneven, all_best -/
theorem colsM_ne (k : Nat) : colsM k ≠ [] := fun e => by
  have := rowsM_size [-1, 1] k
  rw [show rowsM [-1, 1] k = [] from e] at this
  have h2 : 0 < 2 ^ k := Nat.pow_pos (by omega)
  simp at this
  omega
theorem colsM_small {k : Nat} (h : k ≤ 7) : (colsM k).length ≤ 128 := by
  show (rowsM [-1, 1] k).length ≤ 128
  rw [rowsM_size]
  exact Nat.le_trans (Nat.pow_le_pow_right (by simp) h) (by decide)
theorem ev_cols {ρ : Rho} {i : Nat} {n : Int} {ss : List (List Int)} (h0 : 0 ≤ n) (h7 : n ≤ 7) (h : ρ[i]? = some (some (famD n ss))) : EvD K (tCall (sp_all_colours K) [] E0 (tCons (tOp (rIx K) (tVar i) (tC (.int 0))) tNil)) ρ (lD (colsM n.toNat)) := by
  refine ev_call (ea_cons (ev_fam0 h) ea_nil) ⟨n.toNat, by omega, ?_, rfl⟩
  rw [Int.toNat_of_nonneg h0]
theorem FamW.col {n : Int} {ss : List (List Int)} {c : List Int} (h : FamW n ss) (hc : c ∈ colsM n.toNat) : InC ss c := h.inC (by have := rowsM_len _ _ _ hc; have := h.1; omega)
theorem x_found_least {n : Int} {ss : List (List Int)} (h : FamW n ss) : ExS K E (t_found_least K E) [some (famD n ss), none] (.rt (.int (leastM n ss))) := by
  have hsm := colsM_small (show n.toNat ≤ 7 by have := h.2.1; omega)
  refine xs_ret (ev_cb (ea_cons (ev_lcI (colsM n.toNat) tI (unevM ss) (it_seqL (ev_cols h.1 h.2.1 rfl)) (by omega) (by simp) (fun c hc => ev_call (ea_cons (ev_var rfl) (ea_cons (ev_var rfl) ea_nil)) ⟨n, ss, c, h.col hc, h.2.2.1, rfl, rfl⟩)) ea_nil) (ca_min (minM_mem ?_) (fun x hx => minM_le hx)))
  simp [colsM_ne]
theorem pure_found_least {vs : List V} {H : Hp} {Q : VK} (hs : sp_found_least K vs H Q E) : t_found_least K E { nx := fun _ H' => Q .non H', rt := Q } (L2.start ["family", "colours"] vs) H :=
  sp_body (R := R_found_least) (fun ds o h => by
    obtain ⟨n, ss, hw, rfl, rfl⟩ := h
    exact .inl (x_found_least hw)) hs
theorem pure_least_uneven {vs : List V} {H : Hp} {Q : VK} (hs : sp_least_uneven K vs H Q E) : t_least_uneven K E { nx := fun _ H' => Q .non H', rt := Q } (L2.start ["family"] vs) H :=
  sp_body (R := R_least_uneven K) (fun ds o h => by
    obtain ⟨hl, d, r, rfl, h⟩ := h
    rcases h with ⟨h1, h2, h3, rfl⟩ | ⟨n, ss, hF, rfl, rfl, rfl⟩
    · match r, hl with
      | [], _ => exact .inl (xs_seqX (xs_checkX h1 h2 h3 rfl))
    · exact .inl (xs_seq (xs_check hF rfl) (xs_ret (ev_call (ea_cons (ev_var rfl) ea_nil) ⟨n, ss, hF.w, rfl, rfl⟩)))) hs
theorem x_all_best {n : Int} {ss : List (List Int)} (hF : FamOk n ss) : ExS K E (t_all_best K E) [some (famD n ss), none, none] (.rt (tD (bestM n ss))) := by
  have hw := hF.w
  have hsm := colsM_small (show n.toNat ≤ 7 by have := hw.2.1; omega)
  refine xs_seq (xs_check hF rfl) (xs_seq (xs_asg (ev_call (ea_cons (ev_var rfl) ea_nil) ⟨n, ss, hw, rfl, rfl⟩)) (xs_ret ?_))
  show EvD K _ [some (famD n ss), some (.int (leastM n ss)), none] _
  refine ev_tupLcF (colsM n.toNat) tI (fun c => decide (unevM ss c = leastM n ss)) tI (it_seqL (ev_cols hw.1 hw.2.1 rfl)) (by omega) (by simp) (fun c hc => ?_) (fun c hc _ => ev_var rfl)
  refine et_to (et_test (ev_op (ev_call (ea_cons (ev_var rfl) (ea_cons (ev_var rfl) ea_nil)) ⟨n, ss, c, hw.col hc, hw.2.2.1, rfl, rfl⟩) (ev_var rfl) (od_eq (sh_int (n := 1)) (sh_int (n := 1))))) ?_
  simp only [PyData.eqv]
  rw [Bool.beq_eq_decide_eq]
theorem pure_all_best {vs : List V} {H : Hp} {Q : VK} (hs : sp_all_best K vs H Q E) : t_all_best K E { nx := fun _ H' => Q .non H', rt := Q } (L2.start ["family", "least", "colours"] vs) H :=
  sp_body (R := R_all_best K) (fun ds o h => by
    obtain ⟨hl, d, r, rfl, h⟩ := h
    rcases h with ⟨h1, h2, h3, rfl⟩ | ⟨n, ss, hF, rfl, rfl, rfl⟩
    · match r, hl with
      | [], _ => exact .inl (xs_seqX (xs_checkX h1 h2 h3 rfl))
    · exact .inl (x_all_best hF)) hs
end
end Lc

set_option Elab.async false
set_option linter.all false
set_option maxRecDepth 100000
set_option maxHeartbeats 4000000
namespace Lc
open PySem L2 PySem.Spec PyProof.Rows
/-! ### the order of tuples of ints -/
theorem cmpXs_ints : ∀ a b : List Int, cmpXs (a.map .int) (b.map .int) = .lt ↔ HT.lexLt a b = true
  | [], [] => by simp [cmpXs, HT.lexLt]
  | [], _ :: _ => by simp [cmpXs, HT.lexLt]
  | _ :: _, [] => by simp [cmpXs, HT.lexLt]
  | x :: a, y :: b => by
    have ih := cmpXs_ints a b
    simp only [List.map_cons, cmpXs, cmpX, cmpI, HT.lexLt_cons]
    by_cases h1 : x < y
    · rw [if_pos h1]
      have h2 : ¬ x = y := by omega
      rw [if_neg h2, decide_eq_true h1]; simp
    · by_cases h2 : y < x
      · rw [if_neg h1, if_pos h2]
        have h3 : ¬ x = y := by omega
        rw [if_neg h3, decide_eq_false h1]; simp
      · rw [if_neg h1, if_neg h2]
        have h3 : x = y := by omega
        rw [if_pos h3]; exact ih
theorem ltXs_ints (a b : List Int) : ltXs (a.map .int) (b.map .int) = HT.lexLt a b := by
  unfold ltXs
  cases h : HT.lexLt a b with
  | true => rw [(cmpXs_ints a b).mpr h]; rfl
  | false =>
    have : ¬ cmpXs (a.map .int) (b.map .int) = .lt := fun e => by rw [(cmpXs_ints a b).mp e] at h; cases h
    simpa using this
theorem swo_lex : SrtO.Swo HT.lexLt := ⟨fun x y h => by rw [← ltXs_ints] at h ⊢; exact ltXs_asym _ _ h, fun x y z h1 h2 => by rw [← ltXs_ints] at h1 h2 ⊢; exact ltXs_tr _ _ _ h1 h2⟩
theorem lex_tri : ∀ a b : List Int, a ≠ b → HT.lexLt b a = false → HT.lexLt a b = true
  | [], [], h, _ => absurd rfl h
  | [], _ :: _, _, _ => rfl
  | _ :: _, [], _, h => by simp [HT.lexLt] at h
  | x :: a, y :: b, h, h2 => by
    rw [HT.lexLt_cons] at h2 ⊢
    by_cases e : x = y
    · subst e
      rw [if_pos rfl] at h2 ⊢
      exact lex_tri a b (fun z => h (by rw [z])) h2
    · rw [if_neg (Ne.symm e)] at h2
      rw [if_neg e]
      simp at h2 ⊢
      omega
theorem lex_irr (a : List Int) : HT.lexLt a a = false := swo_lex.refl a
theorem ascT_of : ∀ {l : List (List Int)}, l.Pairwise (fun x y => HT.lexLt x y = true) → ascT l = true
  | [], _ => rfl
  | [_], _ => rfl
  | a :: b :: r, h => by
    have h' := List.pairwise_cons.mp h
    show (HT.lexLt a b && ascT (b :: r)) = true
    rw [h'.1 b (by simp), ascT_of h'.2]; rfl
theorem ascT_pw : ∀ {l : List (List Int)}, ascT l = true → l.Pairwise (fun x y => HT.lexLt x y = true)
  | [], _ => List.Pairwise.nil
  | [_], _ => List.pairwise_singleton _ _
  | a :: b :: r, h => by
    have h' : HT.lexLt a b = true ∧ ascT (b :: r) = true := by simpa [ascT] using h
    have ih := ascT_pw h'.2
    refine List.pairwise_cons.mpr ⟨fun z hz => ?_, ih⟩
    rcases List.mem_cons.mp hz with e | e
    · rw [e]; exact h'.1
    · exact swo_lex.ltle h'.1 (swo_lex.asym _ _ ((List.pairwise_cons.mp ih).1 z e))
theorem sorted_asc {l : List (List Int)} (h : SrtO.Srtd HT.lexLt l) (hn : l.Nodup) : ascT l = true :=
  ascT_of (List.Pairwise.imp₂ (fun a b h1 h2 => lex_tri a b h2 h1) h hn)
theorem isort_map {α β : Type} (lt : β → β → Bool) (f : α → β) : ∀ l : List α, isort lt (l.map f) = (isort (fun x y => lt (f x) (f y)) l).map f
  | [] => rfl
  | x :: xs => by
    show ins lt (f x) (isort lt (xs.map f)) = _
    rw [isort_map lt f xs]
    show ins lt (f x) ((isort (fun x y => lt (f x) (f y)) xs).map f) = (ins (fun x y => lt (f x) (f y)) x (isort (fun x y => lt (f x) (f y)) xs)).map f
    generalize isort (fun x y => lt (f x) (f y)) xs = z
    induction z with
    | nil => rfl
    | cons y z ih =>
      show (if lt (f y) (f x) then f y :: ins lt (f x) (z.map f) else f x :: f y :: z.map f) = List.map f (if lt (f y) (f x) then y :: ins (fun x y => lt (f x) (f y)) x z else x :: y :: z)
      by_cases h : lt (f y) (f x) = true
      · rw [if_pos h, if_pos h, ih]; rfl
      · rw [if_neg h, if_neg h]; rfl
theorem frgs_ints : ∀ l : List Int, frgs (l.map .int) = true
  | [] => rfl
  | a :: r => by simp [frgs, frg, frgs_ints r]
theorem depth_ints : ∀ l : List Int, PyData.depthAll (l.map .int) = 0
  | [] => by simp [PyData.depthAll]
  | a :: r => by simp only [List.map_cons, PyData.depthAll, PyData.depth, depth_ints r]; rfl
theorem cmb_ints : ∀ a b : List Int, cmbAll (a.map .int) (b.map .int) = true
  | [], [] => rfl
  | [], _ :: _ => rfl
  | _ :: _, [] => rfl
  | x :: a, y :: b => by simp [cmbAll, cmb, cmb_ints a b]
section
variable {K : PySem.W.Frag} {E : XK}
theorem ca_sortLD {fs : List (List Int)} (hne : ∀ f ∈ fs, f ≠ []) : CaD K (rSortD K) [lD fs] (lD (isort HT.lexLt fs)) := by
  have h := ca_sortT (K := K) (ds := fs.map fun f => f.map .int) (fun d hd => by
    obtain ⟨f, _, rfl⟩ := List.mem_map.mp hd
    exact ⟨frgs_ints f, by rw [depth_ints]; omega⟩) (fun d hd e he => by
    obtain ⟨f, _, rfl⟩ := List.mem_map.mp hd
    obtain ⟨g, _, rfl⟩ := List.mem_map.mp he
    exact cmb_ints f g) (.inl fun d hd => by
    obtain ⟨f, hf, rfl⟩ := List.mem_map.mp hd
    cases f with
    | nil => exact absurd rfl (hne _ hf)
    | cons i r => exact ⟨i, r.map .int, rfl⟩)
  rw [isort_map] at h
  have e : (fun (x y : List Int) => ltXs (x.map .int) (y.map .int)) = HT.lexLt := by funext x y; exact ltXs_ints x y
  rw [e, List.map_map, List.map_map] at h
  exact h
theorem sh_lD {n : Nat} {fs : List (List Int)} : Sh (n + 2) (lD fs) := sh_lst fun d hd => by
  obtain ⟨s, _, rfl⟩ := List.mem_map.mp hd
  exact sh_tupI
theorem sh_tD {n : Nat} {fs : List (List Int)} : Sh (n + 2) (tD fs) := sh_tup fun d hd => by
  obtain ⟨s, _, rfl⟩ := List.mem_map.mp hd
  exact sh_tupI
theorem sh_tI {n : Nat} {f : List Int} : Sh (n + 1) (tI f) := sh_tupI
/-! equality of such data -/
theorem eqv_ints : ∀ a b : List Int, PyData.eqvAll (a.map .int) (b.map .int) = decide (a = b)
  | [], [] => by simp [PyData.eqvAll]
  | [], _ :: _ => by simp [PyData.eqvAll]
  | _ :: _, [] => by simp [PyData.eqvAll]
  | x :: a, y :: b => by
    simp only [List.map_cons, PyData.eqvAll, PyData.eqv, eqv_ints a b]
    by_cases h : x = y
    · subst h; simp
    · have : (x == y) = false := by simpa using h
      rw [this]; simp [h]
theorem eqv_int (i j : Int) : PyData.eqv (.int i) (.int j) = decide (i = j) := by simp only [PyData.eqv]; rw [Bool.beq_eq_decide_eq]
theorem eqv_bool (i j : Bool) : PyData.eqv (.bool i) (.bool j) = decide (i = j) := by simp only [PyData.eqv]; cases i <;> cases j <;> rfl
theorem eqv_tI (a b : List Int) : PyData.eqv (tI a) (tI b) = decide (a = b) := by
  have : PyData.eqv (tI a) (tI b) = PyData.eqvAll (a.map .int) (b.map .int) := by simp only [tI, PyData.eqv]
  rw [this, eqv_ints]
theorem eqv_tIs : ∀ a b : List (List Int), PyData.eqvAll (a.map tI) (b.map tI) = decide (a = b)
  | [], [] => by simp [PyData.eqvAll]
  | [], _ :: _ => by simp [PyData.eqvAll]
  | _ :: _, [] => by simp [PyData.eqvAll]
  | x :: a, y :: b => by
    simp only [List.map_cons, PyData.eqvAll, eqv_tIs a b, eqv_tI]
    by_cases h : x = y
    · subst h; simp
    · simp [h]
theorem eqv_tD (a b : List (List Int)) : PyData.eqv (tD a) (tD b) = decide (a = b) := by
  have : PyData.eqv (tD a) (tD b) = PyData.eqvAll (a.map tI) (b.map tI) := by simp only [tD, PyData.eqv]
  rw [this, eqv_tIs]
theorem eqv_lD (a b : List (List Int)) : PyData.eqv (lD a) (lD b) = decide (a = b) := by
  have : PyData.eqv (lD a) (lD b) = PyData.eqvAll (a.map tI) (b.map tI) := by simp only [lD, PyData.eqv]
  rw [this, eqv_tIs]
theorem any_tI (a : List Int) : ∀ fs : List (List Int), (fs.map tI).any (fun z => PyData.eqv z (tI a)) = decide (a ∈ fs)
  | [] => by simp
  | f :: fs => by
    rw [List.map_cons, List.any_cons, any_tI a fs, eqv_tI]
    by_cases h : f = a
    · subst h; simp
    · have h2 : ¬ a = f := fun z => h z.symm
      simp [h, h2]
theorem any_ints (a : Int) : ∀ fs : List Int, (fs.map PyData.int).any (fun z => PyData.eqv z (.int a)) = decide (a ∈ fs)
  | [] => by simp
  | f :: fs => by
    rw [List.map_cons, List.any_cons, any_ints a fs, eqv_int]
    by_cases h : f = a
    · subst h; simp
    · have h2 : ¬ a = f := fun z => h z.symm
      simp [h, h2]
/-! ### what is walked, drawn -/
variable {tn : Addr} {ns : List Int} {ρ : Rho} {ta te : TE} {n m : Nat} {ts : TS} {Pr : PyData → Prop}
def ItW (K : PySem.W.Frag) (tn : Addr) (ns : List Int) (wi : TI) (ρ : Rho) (n : Nat) (P : List PyData → Prop) : Prop :=
  ∀ c A σ H, c + n ≤ MD → Live A H → tn ∈ A → Town ns tn c H → EnvD K (cut A H) σ ρ → ∀ R : It → Hp → Prop, (∀ J H1 ds, P ds → Keep [tn] H H1 → Town ns tn (c + n) H1 → ItOk K A J ds H1 → R J H1) → wi σ H R
theorem iw_rng1 {R : PyData → Prop} {B : Nat} (h : EvW K tn ns te ρ n R) (hR : ∀ d, R d → ∃ k : Nat, d = .int (k : Int) ∧ k ≤ B) (hB : B ≤ 100000) : ItW K tn ns (iRng1 (tCons te tNil)) ρ n (fun ds => ∃ k : Nat, k ≤ B ∧ R (.int (k : Int)) ∧ ds = rngD 0 k) := fun c A σ H hc l hm ht hE Q q =>
  h c A σ H hc l hm ht hE _ fun d v H1 r k t hv => by
    obtain ⟨j, rfl, hj⟩ := hR d r
    cases hv
    refine ⟨(j : Int), rfl, by omega, by omega, q _ H1 _ ⟨j, hj, r, rfl⟩ k t ?_⟩
    rw [Int.toNat_natCast]
    exact itok_rng
/-- a for over a drawn range -/
theorem xw_forR {R : PyData → Prop} {Q : Rho → Prop} {B j : Nat} {te : TE} (h : EvW K tn ns te ρ n R) (hR : ∀ d, R d → ∃ k : Nat, d = .int (k : Int) ∧ k ≤ B) (hB : B ≤ 100000) (I : Nat → Rho → Prop) (h0 : I 0 ρ)
    (hb : ∀ i ρ', i < B → I i ρ' → ExW K tn ns ts (ρ'.set j (some (.int (0 + (i : Int))))) m (I (i + 1)) Pr) (hd : ∀ (k : Nat) ρ', R (.int (k : Int)) → I k ρ' → Q ρ') :
    ExW K tn ns (tFor (iRng1 (tCons te tNil)) (gName j) ts) ρ (n + B * m) Q Pr := fun c A σ H D hc l hm ht hE q1 q2 =>
  iw_rng1 h hR hB c A σ H (by omega) l hm ht hE _ fun J H1 ds ⟨k, hk, hRk, eds⟩ k1 t1 hJ => by
    subst eds
    refine ⟨fun i m' σ' H' => m' = k - i ∧ i ≤ k ∧ Keep [tn] H1 H' ∧ Town ns tn (c + n + i * m) H' ∧ ∃ ρ', I i ρ' ∧ EnvD K (cut A H') σ' ρ', ⟨k, by simp, Nat.zero_le _, Keep.refl, by rw [Nat.zero_mul, Nat.add_zero]; exact t1, ρ, h0, hE.same (keep_cut hm k1)⟩, ?_⟩
    rintro i m' σ' H' ⟨rfl, hle, hk', hT, ρ', hI, hE'⟩
    have lv : Live A H' := live_keep (live_keep l k1 t1) hk' hT
    have kA : Keep A H1 H' := hk'.mono (by simpa using hm)
    by_cases hlt : i < k
    · have hstep : (i + 1) * m ≤ B * m := Nat.mul_le_mul_right _ (by omega)
      have hexp : (i + 1) * m = i * m + m := Nat.succ_mul _ _
      refine .inr ⟨hJ.goes i H' (by rw [rngD_len]; exact hlt) kA, fun σ2 H2 => Keep [tn] H1 H2 ∧ Town ns tn (c + n + (i + 1) * m) H2 ∧ ∃ ρ2, I (i + 1) ρ2 ∧ EnvD K (cut A H2) σ2 ρ2, fun σ2 H2 h2 => ⟨k - (i + 1), by omega, rfl, hlt, h2⟩, fun x H2 hy => ?_⟩
      obtain ⟨s2, d, hd', hx⟩ := hJ.yields i H' x H2 A (by rw [rngD_len]; exact hlt) kA lv Off.refl hy
      rw [rngD_at hlt] at hd'
      cases hd'
      refine hb i ρ' (by omega) hI (c + n + i * m) A _ H2 _ (by omega) (lv.same s2) hm (hT.same s2) ((hE'.same (cut_same s2)).set hx j) (fun ρ3 σ3 H3 p3 k3 t3 hE3 => ⟨(hk'.trans (Keep.of s2)).trans k3, t3.mono (by omega), ρ3, p3, hE3⟩) (fun d v H3 p3 k3 t3 hv => ?_)
      exact q2 d v H3 p3 ((k1.trans (hk'.trans (Keep.of s2))).trans k3) (t3.mono (by omega)) hv
    · have e : i = k := by omega
      subst e
      have hstep : i * m ≤ B * m := Nat.mul_le_mul_right _ (by omega)
      exact .inl ⟨by have := hJ.stops H' kA; rw [rngD_len] at this; exact this, q1 ρ' σ' H' (hd i ρ' hRk hI) (k1.trans hk') (hT.mono (by omega)) hE'⟩
/-- a draw -/
theorem ew_draw {E' : XK} {k : Int} {tl : TE} {i j : Nat} (hi : ρ[i]? = some (some (scrD ns))) (hj : ρ[j]? = some (some (adrD tn))) (hk : EvD K tl ρ (.int k)) (h0 : 0 < k) (h1 : k < 1073741824) :
    EvW K tn ns (tCall (spDraw K) [] E' (tCons (tVar i) (tCons (tVar j) (tCons tl tNil)))) ρ 1 (fun d => ∃ r : Int, d = .int r ∧ 0 ≤ r ∧ r < k) := by
  have ha : EaW K tn ns (tCons (tVar i) (tCons (tVar j) (tCons tl tNil))) ρ 0 (· = [scrD ns, adrD tn, .int k]) :=
    ea_consW (ew_pure (ev_var hi)) (ea_consW (ew_pure (ev_var hj)) (ea_consW (ew_pure hk) ea_nilW (R := (· = [.int k])) (by rintro d ds rfl rfl; rfl)) (R := (· = [adrD tn, .int k])) (by rintro d ds rfl rfl; rfl)) (by rintro d ds rfl rfl; rfl)
  have := ew_callT (m := 1) (P := pDraw) (Rt := rDraw) (E := E') (R := fun d => ∃ r : Int, d = .int r ∧ 0 ≤ r ∧ r < k) ha (fun ds e => ⟨[.int k], e, ⟨k, rfl, h0, h1⟩, fun d ⟨l, r, h2, h3, h4, h5⟩ => by
    have : k = l := by simpa using h2
    subst this
    exact ⟨r, h3, h4, h5⟩⟩)
  exact this
end
end Lc

set_option Elab.async false
set_option linter.all false
set_option maxRecDepth 100000
set_option maxHeartbeats 4000000
namespace Lc
open PySem L2 PySem.Spec PyProof.Rows
/-! ### the law's own defs: promises -/
def sp_law_town (K : PySem.W.Frag) : Sp := spTown K
def sp_law_draw (K : PySem.W.Frag) : Sp := spDraw K
def P_law_family : List PyData → Prop := fun ds => ∃ most : Int, ds = [.int most] ∧ 1 ≤ most ∧ most ≤ 7
def R_law_family : List PyData → PyData → Prop := fun ds d => ∃ most n ss, ds = [.int most] ∧ FamOk n ss ∧ n ≤ most ∧ d = famD n ss
def sp_law_family (K : PySem.W.Frag) : Sp := spT K 100 P_law_family R_law_family
def R_law_all : List PyData → Out → Prop := fun ds o => ∃ (k : Nat) (a b : Int), k ≤ 7 ∧ ds = [.int (k : Int), tI [a, b]] ∧ o = .rt (lD (rowsM [a, b] k))
def sp_law_all (K : PySem.W.Frag) : Sp := spD K R_law_all
def sp_law_sums (K : PySem.W.Frag) : Sp := spD K R_found_sums
def sp_law_uneven (K : PySem.W.Frag) : Sp := spD K R_found_uneven
def P_law_hues : List PyData → Prop := fun ds => ∃ n : Int, ds = [.int n] ∧ 0 ≤ n ∧ n ≤ 7
def R_law_hues : List PyData → PyData → Prop := fun ds d => ∃ n c, ds = [.int n] ∧ ColOk n c ∧ d = tI c
def sp_law_hues (K : PySem.W.Frag) : Sp := spT K 7 P_law_hues R_law_hues
def t_law_family (K : PySem.W.Frag) (E : XK) : TS := (tSeq (tPar 3 4 (tCons (tOp (rAddU K) (tC (.int 1)) (tCall (sp_law_draw K) [] E0 (tCons (tVar 0) (tCons (tVar 1) (tCons (tVar 2) tNil))))) (tCons (tLst tNil) tNil)))
  (tSeq (tAsg (tTup (tCons (tOp (rAddU K) (tC (.int 1)) (tCall (sp_law_draw K) [] E0 (tCons (tVar 0) (tCons (tVar 1) (tCons (tC (.int 3)) tNil))))) (tCons (tAndV (tOp rGtI (tVar 3) (tC (.int 2))) (tOp (rEqD K) (tCall (sp_law_draw K) [] E0 (tCons (tVar 0) (tCons (tVar 1) (tCons (tC (.int 2)) tNil)))) (tC (.int 0)))) tNil))) (gTup K 2 (gCons (gName 5) (gCons (gName 6) gNil))))
  (tSeq (tFor (iRng1 (tCons (tOp (rAddU K) (tC (.int 1)) (tCall (sp_law_draw K) [] E0 (tCons (tVar 0) (tCons (tVar 1) (tCons (tC (.int 8)) tNil))))) tNil)) (gName 7) (tSeq (tIfS (tB (tVar 6)) (tSeq (tAsg (tCall (sp_law_draw K) [] E0 (tCons (tVar 0) (tCons (tVar 1) (tCons (tVar 3) tNil)))) (gName 8))
  (tAsg (tCB (rSortD K) (tCons (tLst (tCons (tVar 8) (tCons (tOp rModU (tOp (rAddU K) (tOp (rAddU K) (tVar 8) (tC (.int 1))) (tCall (sp_law_draw K) [] E0 (tCons (tVar 0) (tCons (tVar 1) (tCons (tC (.int 2)) tNil))))) (tVar 3)) tNil))) tNil)) (gName 9))) (tAsg (tLc (iRng1 (tCons (tVar 3) tNil)) (gName 8) (tTest (tOp (rLtU K) (tCall (sp_law_draw K) [] E0 (tCons (tVar 0) (tCons (tVar 1) (tCons (tC (.int 4)) tNil)))) (tVar 5))) (tVar 8) [8]) (gName 9)))
  (tSeq (tAsg (tCB (rTupleOf K) (tCons (tIf (tTest (tOp (rNeD K) (tVar 9) (tLst tNil))) (tVar 9) (tLst (tCons (tCall (sp_law_draw K) [] E0 (tCons (tVar 0) (tCons (tVar 1) (tCons (tVar 3) tNil)))) tNil))) tNil)) (gName 9))
  (tAsg (tOp (rAddU K) (tVar 4) (tIf (tTest (tOp (rNotInU K) (tVar 9) (tVar 4))) (tLst (tCons (tVar 9) tNil)) (tLst tNil))) (gName 4)))))
  (tRet (tTup (tCons (tVar 3) (tCons (tCB (rTupleOf K) (tCons (tCB (rSortD K) (tCons (tVar 4) tNil)) tNil)) tNil)))))))
def t_law_all (K : PySem.W.Frag) (E : XK) : TS := (tSeq (tAsg (tLst (tCons (tTup tNil) tNil)) (gName 2))
  (tSeq (tFor (iRng1 (tCons (tVar 0) tNil)) (gName 3) (tSeq (tAsg (tLst tNil) (gName 4))
  (tSeq (tFor (iSeq K (tVar 2)) (gName 5) (tAsg (tOp (rAddU K) (tVar 4) (tLc (iSeq K (tVar 1)) (gName 6) tYes (tOp (rAddU K) (tVar 5) (tTup (tCons (tVar 6) tNil))) [6])) (gName 4)))
  (tAsg (tVar 4) (gName 2)))))
  (tRet (tVar 2))))
def t_law_sums (K : PySem.W.Frag) (E : XK) : TS := (tRet (tCB (rTupleOf K) (tCons (tLc (iSeq K (tOp (rIx K) (tVar 0) (tC (.int 1)))) (gName 3) tYes (tCB (rSum K) (tCons (tLc (iSeq K (tVar 3)) (gName 2) tYes (tOp (rIx K) (tVar 1) (tVar 2)) [2]) tNil)) [3]) tNil)))
def t_law_uneven (K : PySem.W.Frag) (E : XK) : TS := (tRet (tCB (rMaxU K) (tCons (tLc (iSeq K (tCall (sp_law_sums K) [] E0 (tCons (tVar 0) (tCons (tVar 1) tNil)))) (gName 2) tYes (tCB rAbsI (tCons (tVar 2) tNil)) [2]) tNil)))
def t_law_hues (K : PySem.W.Frag) (E : XK) : TS := (tRet (tCB (rTupleOf K) (tCons (tLc (iRng1 (tCons (tVar 2) tNil)) (gName 3) tYes (tOp rSubU (tOp (rMulU K) (tC (.int 2)) (tCall (sp_law_draw K) [] E0 (tCons (tVar 0) (tCons (tVar 1) (tCons (tC (.int 2)) tNil))))) (tC (.int 1))) [3]) tNil)))
end Lc

set_option Elab.async false
set_option linter.all false
set_option maxRecDepth 100000
set_option maxHeartbeats 4000000
namespace Lc
open PySem L2 PySem.Spec PyProof.Rows
section
variable {K : PySem.W.Frag} {E : XK}
theorem pure_law_sums {vs : List V} {H : Hp} {Q : VK} (hs : sp_law_sums K vs H Q E) : t_law_sums K E { nx := fun _ H' => Q .non H', rt := Q } (L2.start ["family", "hues", "k", "one"] vs) H :=
  sp_body (R := R_found_sums) (fun ds o h => by
    obtain ⟨n, ss, c, hc, rfl, rfl⟩ := h
    exact .inl (x_found_sums hc)) hs
theorem pure_law_uneven {vs : List V} {H : Hp} {Q : VK} (hs : sp_law_uneven K vs H Q E) : t_law_uneven K E { nx := fun _ H' => Q .non H', rt := Q } (L2.start ["family", "hues", "one"] vs) H :=
  sp_body (R := R_found_uneven) (fun ds o h => by
    obtain ⟨n, ss, c, hc, hne, rfl, rfl⟩ := h
    exact .inl (x_found_uneven hc hne)) hs
/-! ### _law_all -/
theorem x_law_all {k : Nat} {a b : Int} (hk : k ≤ 7) : ExS K E (t_law_all K E) [some (.int (k : Int)), some (tI [a, b]), none, none, none, none, none] (.rt (lD (rowsM [a, b] k))) := by
  refine xs_seq (xs_asg (d := lD (rowsM [a, b] 0)) (ev_lst (ea_cons (ev_tup ea_nil (by simp)) ea_nil) (by show 1 ≤ 100000; decide))) ?_
  show ExS K E _ [some (.int (k : Int)), some (tI [a, b]), some (lD (rowsM [a, b] 0)), none, none, none, none] _
  have hit := it_rng1 (K := K) (ρ := [some (.int (k : Int)), some (tI [a, b]), some (lD (rowsM [a, b] 0)), none, none, none, none]) (te := tVar 0) (ev_var rfl) (by omega : -(2 ^ 62) ≤ (k : Int) ∧ (k : Int) < 2 ^ 62)
  rw [Int.toNat_natCast] at hit
  -- the state between two turns; what the inner names hold is not told
  let r : Nat → Rho := fun i => [some (.int (k : Int)), some (tI [a, b]), some (lD (rowsM [a, b] i)), none, none, none, none]
  have weak : ∀ {o1 o2 o3 o4 : Option PyData} {i : Nat} {ts : TS} {o : Out}, ExS K E ts (r i) o → ExS K E ts [some (.int (k : Int)), some (tI [a, b]), some (lD (rowsM [a, b] i)), o1, o2, o3, o4] o := fun {o1 o2 o3 o4 i ts o} h A σ H D l hE c => by
    refine h A σ H D l ?_ c
    have h3 := ((((hE.keep 3).keep 4).keep 5).keep 6)
    exact h3
  have turn : ∀ i, i < k → ∃ o1 o2 o3 o4, ExS K E (tSeq (tAsg (tLst tNil) (gName 4)) (tSeq (tFor (iSeq K (tVar 2)) (gName 5) (tAsg (tOp (rAddU K) (tVar 4) (tLc (iSeq K (tVar 1)) (gName 6) tYes (tOp (rAddU K) (tVar 5) (tTup (tCons (tVar 6) tNil))) [6])) (gName 4))) (tAsg (tVar 4) (gName 2))))
      [some (.int (k : Int)), some (tI [a, b]), some (lD (rowsM [a, b] i)), some (.int (0 + (i : Int))), none, none, none] (.nx [some (.int (k : Int)), some (tI [a, b]), some (lD (rowsM [a, b] (i + 1))), o1, o2, o3, o4]) := by
    intro i hi
    have hsz : (rowsM [a, b] i).length ≤ 128 := by
      rw [rowsM_size]
      exact Nat.le_trans (Nat.pow_le_pow_right (by simp) (show i ≤ 7 by omega)) (by show 2 ^ 7 ≤ 128; decide)
    let part : Nat → List (List Int) := fun j => ((rowsM [a, b] i).take j).flatMap fun r => [a, b].map fun x => r ++ [x]
    have hpl : ∀ j, (part j).length ≤ 256 := fun j => by
      have aux : ∀ l : List (List Int), (l.flatMap fun r => [a, b].map fun x => r ++ [x]).length = 2 * l.length := by
        intro l
        induction l with
        | nil => rfl
        | cons z l ih => rw [List.flatMap_cons, List.length_append, ih, List.length_map, List.length_cons]; simp; omega
      have : (part j).length = 2 * ((rowsM [a, b] i).take j).length := aux _
      rw [this, List.length_take]; omega
    have hfor := xs_for (K := K) (E := E) (ρ := [some (.int (k : Int)), some (tI [a, b]), some (lD (rowsM [a, b] i)), some (.int (0 + (i : Int))), some (lD []), none, none]) (g := gName 5) (ts := (tAsg (tOp (rAddU K) (tVar 4) (tLc (iSeq K (tVar 1)) (gName 6) tYes (tOp (rAddU K) (tVar 5) (tTup (tCons (tVar 6) tNil))) [6])) (gName 4))) (rowsM [a, b] i) tI
      (fun j => [some (.int (k : Int)), some (tI [a, b]), some (lD (rowsM [a, b] i)), some (.int (0 + (i : Int))), some (lD (part j)), if j = 0 then none else some (tI ((rowsM [a, b] i).getD (j - 1) [])), none])
      (fun j => [some (.int (k : Int)), some (tI [a, b]), some (lD (rowsM [a, b] i)), some (.int (0 + (i : Int))), some (lD (part j)), some (tI ((rowsM [a, b] i).getD j [])), none]) (ws := [5]) (wi := iSeq K (tVar 2)) (it_seqL (ev_var rfl)) (by simp [part])
      (fun j hj => by
        have : (rowsM [a, b] i)[j] = (rowsM [a, b] i).getD j [] := by simp [hj]
        rw [this]
        exact tg_name) (fun j hj => by
        have hlen : ((rowsM [a, b] i).getD j []).length = i := rowsM_len [a, b] i _ (by simp [hj])
        have h1 : EvD K (tLc (iSeq K (tVar 1)) (gName 6) tYes (tOp (rAddU K) (tVar 5) (tTup (tCons (tVar 6) tNil))) [6]) [some (.int (k : Int)), some (tI [a, b]), some (lD (rowsM [a, b] i)), some (.int (0 + (i : Int))), some (lD (part j)), some (tI ((rowsM [a, b] i).getD j [])), none] (.list ([a, b].map fun x => tI ((rowsM [a, b] i).getD j [] ++ [x]))) :=
          ev_lcN [a, b] .int (fun x => tI ((rowsM [a, b] i).getD j [] ++ [x])) (it_seqT (ev_var rfl)) (by simp) (by simp) (fun x _ => by
            have e2 : tI ((rowsM [a, b] i).getD j [] ++ [x]) = .tuple (((rowsM [a, b] i).getD j []).map .int ++ [.int x]) := by unfold tI; rw [List.map_append]; rfl
            rw [e2]
            exact ev_op (ev_var rfl) (ev_tup (ea_cons (ev_var rfl) ea_nil) (by simp)) (od_addT (by rw [List.length_map, hlen]; simp; omega)))
        have h2 := xs_asg (i := 4) (E := E) (ev_op (ev_var (i := 4) rfl) h1 (od_addL (by have := hpl j; simp; omega)))
        have e3 : part (j + 1) = part j ++ [a, b].map fun x => (rowsM [a, b] i).getD j [] ++ [x] := by
          show ((rowsM [a, b] i).take (j + 1)).flatMap _ = _
          rw [List.take_add_one, List.flatMap_append]
          have : (rowsM [a, b] i)[j]? = some ((rowsM [a, b] i).getD j []) := by simp [hj]
          rw [this]
          simp [part]
        have e4 : lD (part (j + 1)) = .list ((part j).map tI ++ [a, b].map fun x => tI ((rowsM [a, b] i).getD j [] ++ [x])) := by
          unfold lD
          rw [e3, List.map_append, List.map_map]; rfl
        rw [e4]
        exact h2)
    have hall : part (rowsM [a, b] i).length = rowsM [a, b] (i + 1) := by show List.flatMap _ _ = _; rw [List.take_length]; rfl
    rw [hall] at hfor
    exact ⟨_, _, _, _, xs_seq (xs_asg (d := lD []) (ev_lst ea_nil (by simp))) (xs_seq hfor (xs_asg (ev_var rfl)))⟩
  have hfor := xs_for (K := K) (E := E) (ρ := [some (.int (k : Int)), some (tI [a, b]), some (lD (rowsM [a, b] 0)), none, none, none, none]) (g := gName 3) (ts := (tSeq (tAsg (tLst tNil) (gName 4)) (tSeq (tFor (iSeq K (tVar 2)) (gName 5) (tAsg (tOp (rAddU K) (tVar 4) (tLc (iSeq K (tVar 1)) (gName 6) tYes (tOp (rAddU K) (tVar 5) (tTup (tCons (tVar 6) tNil))) [6])) (gName 4))) (tAsg (tVar 4) (gName 2))))) (List.range k) (fun i => .int (0 + (i : Int)))
    r (fun i => [some (.int (k : Int)), some (tI [a, b]), some (lD (rowsM [a, b] i)), some (.int (0 + (i : Int))), none, none, none]) (ws := [3]) hit rfl
    (fun i hi => by
      rw [List.length_range] at hi
      rw [List.getElem_range]
      exact tg_name) (fun i hi => by
      rw [List.length_range] at hi
      obtain ⟨o1, o2, o3, o4, h⟩ := turn i hi
      exact fun A σ H D l hE c => h A σ H D l hE fun σ' H' s hE' => c σ' H' s ((((hE'.keep 3).keep 4).keep 5).keep 6))
  rw [List.length_range] at hfor
  exact xs_seq hfor (xs_ret (ev_var rfl))
theorem pure_law_all {vs : List V} {H : Hp} {Q : VK} (hs : sp_law_all K vs H Q E) : t_law_all K E { nx := fun _ H' => Q .non H', rt := Q } (L2.start ["things", "choices", "rows", "turn", "longer", "row", "one"] vs) H :=
  sp_body (R := R_law_all) (fun ds o h => by
    obtain ⟨k, a, b, hk, rfl, rfl⟩ := h
    exact .inl (x_law_all hk)) hs
/-! ### _law_hues -/
theorem lcr_len {α : Type} {R : α → Option PyData → Prop} (h : ∀ x, ¬ R x none) : ∀ {xs : List α} {ds : List PyData}, LcR R xs ds → ds.length = xs.length
  | [], ds, e => by cases e; rfl
  | x :: xs, ds, .inl ⟨e, ds', h1, h2, h3⟩ => by subst h2; simp [lcr_len h h3]
  | x :: xs, ds, .inr ⟨h1, _⟩ => absurd h1 (h x)
theorem lcr_all {α : Type} {R : α → Option PyData → Prop} {P : PyData → Prop} (h : ∀ x d, R x (some d) → P d) : ∀ {xs : List α} {ds : List PyData}, LcR R xs ds → ∀ d ∈ ds, P d
  | [], ds, e => by cases e; intro d hd; simp at hd
  | x :: xs, ds, .inl ⟨e, ds', h1, h2, h3⟩ => by
    subst h2
    intro d hd
    rcases List.mem_cons.mp hd with z | z
    · rw [z]; exact h x e h1
    · exact lcr_all h h3 d z
  | x :: xs, ds, .inr ⟨h1, h2⟩ => lcr_all h h2
theorem ints_of {P : Int → Prop} : ∀ {ds : List PyData}, (∀ d ∈ ds, ∃ i, d = .int i ∧ P i) → ∃ l : List Int, ds = l.map .int ∧ ∀ x ∈ l, P x
  | [], _ => ⟨[], rfl, fun x h => by simp at h⟩
  | d :: ds, h => by
    obtain ⟨l, h1, h2⟩ := ints_of (ds := ds) fun x hx => h x (by simp [hx])
    obtain ⟨i, h3, h4⟩ := h d (by simp)
    exact ⟨i :: l, by rw [h1, h3]; rfl, fun x hx => by
      rcases List.mem_cons.mp hx with z | z
      · rw [z]; exact h4
      · exact h2 x z⟩
theorem pure_law_hues {vs : List V} {H : Hp} {Q : VK} (hs : sp_law_hues K vs H Q E) : t_law_hues K E { nx := fun _ H' => Q .non H', rt := Q } (L2.start ["script", "town", "things", "k"] vs) H :=
  sp_bodyT (fun tn ns ds ⟨n, hds, h0, h7⟩ => by
    subst hds
    show ExW K tn ns (t_law_hues K E) [some (scrD ns), some (adrD tn), some (.int n), none] _ _ _
    have hit := it_rng1 (K := K) (ρ := [some (scrD ns), some (adrD tn), some (.int n), none]) (te := tVar 2) (ev_var rfl) (by omega : -(2 ^ 62) ≤ n ∧ n < 2 ^ 62)
    have hlc := ew_lc (K := K) (tn := tn) (ns := ns) (ρ := [some (scrD ns), some (adrD tn), some (.int n), none]) (wi := iRng1 (tCons (tVar 2) tNil)) (g := gName 3) (tt := tYes) (vs := [3]) (ws := [3]) (n1 := 0) (n2 := 1) (te := (tOp rSubU (tOp (rMulU K) (tC (.int 2)) (tCall (sp_law_draw K) [] E0 (tCons (tVar 0) (tCons (tVar 1) (tCons (tC (.int 2)) tNil))))) (tC (.int 1)))) (List.range n.toNat) (fun i => .int (0 + (i : Int))) (fun _ b => b = true) (fun _ d => ∃ i : Int, d = .int i ∧ (i = -1 ∨ i = 1)) (fun i => [some (scrD ns), some (adrD tn), some (.int n), some (.int (0 + (i : Int)))]) hit (by rw [List.length_range]; omega) (by simp)
      (fun i _ => tg_name) (fun i _ => et_pure et_yes) (fun i _ => by
        have hd := ew_draw (K := K) (tn := tn) (ns := ns) (E' := E0) (ρ := [some (scrD ns), some (adrD tn), some (.int n), some (.int (0 + (i : Int)))]) (i := 0) (j := 1) (tl := tC (.int 2)) (k := 2) rfl rfl ev_int (by omega) (by omega)
        have h1 := ew_op (R := fun d => ∃ r : Int, d = .int (2 * r) ∧ 0 ≤ r ∧ r < 2) (ew_pure (ev_int (K := K) (i := 2))) hd (r := rMulU K) (fun d e h1 h2 => by
          obtain ⟨r, rfl, h3, h4⟩ := h2
          subst h1
          exact ⟨_, od_mul (cmulL (by omega) (by omega)), r, rfl, h3, h4⟩)
        exact ew_op h1 (ew_pure (ev_int (K := K) (i := 1))) (fun d e h1 h2 => by
          obtain ⟨r, rfl, h3, h4⟩ := h1
          subst h2
          exact ⟨_, od_sub, _, rfl, by omega⟩))
    refine ExW.mono (xw_ret (ew_cb (ea_consW hlc ea_nilW (R := fun ds => ∃ l : List Int, ColOk n l ∧ ds = [.list (l.map .int)]) (fun d ds h1 h2 => ?_)) (R := R_law_hues [.int n]) (fun ds h => ?_))) ?_ (fun _ h => h) (fun _ h => h)
    · obtain ⟨es, rfl, h3⟩ := h1
      subst h2
      have hl := lcr_len (fun x (hx : false = true) => by cases hx) h3
      obtain ⟨l, rfl, hl2⟩ := ints_of (P := fun i => i = -1 ∨ i = 1) (lcr_all (P := fun d => ∃ i : Int, d = .int i ∧ (i = -1 ∨ i = 1)) (fun x d h => h.2) h3)
      refine ⟨l, ⟨?_, hl2⟩, rfl⟩
      rw [List.length_map, List.length_range] at hl
      omega
    · obtain ⟨l, h1, rfl⟩ := h
      exact ⟨_, ca_tupleL, n, l, rfl, h1, rfl⟩
    · rw [List.length_range]; omega) hs
end
end Lc

set_option Elab.async false
set_option linter.all false
set_option maxRecDepth 100000
set_option maxHeartbeats 4000000
namespace Lc
open PySem L2 PySem.Spec PyProof.Rows
/-! ### _law_family -/
/-- strictly ascending, within 0 .. n - 1, perhaps empty -/
def AscIn (n : Int) (l : List Int) : Prop := (∀ x ∈ l, 0 ≤ x ∧ x < n) ∧ ascI l = true
theorem ascI_of : ∀ {l : List Int}, l.Pairwise (· < ·) → ascI l = true
  | [], _ => rfl
  | [_], _ => rfl
  | a :: b :: r, h => by
    have h' := List.pairwise_cons.mp h
    have h1 : a < b := h'.1 b (by simp)
    show (decide (a < b) && ascI (b :: r)) = true
    rw [decide_eq_true h1, ascI_of h'.2]; rfl
theorem ascI_pw : ∀ {l : List Int}, ascI l = true → l.Pairwise (· < ·)
  | [], _ => List.Pairwise.nil
  | [_], _ => List.pairwise_singleton _ _
  | a :: b :: r, h => by
    have h' : a < b ∧ ascI (b :: r) = true := by simpa [ascI] using h
    have ih := ascI_pw h'.2
    refine List.pairwise_cons.mpr ⟨fun z hz => ?_, ih⟩
    rcases List.mem_cons.mp hz with e | e
    · rw [e]; exact h'.1
    · have := (List.pairwise_cons.mp ih).1 z e; omega
theorem lcr_asc {R : Nat → Option PyData → Prop} (h : ∀ x d, R x (some d) → d = .int (0 + (x : Int))) : ∀ {xs : List Nat} {ds : List PyData}, xs.Pairwise (· < ·) → LcR R xs ds → ∃ l : List Int, ds = l.map .int ∧ l.Pairwise (· < ·) ∧ ∀ y ∈ l, ∃ x ∈ xs, y = (x : Int)
  | [], ds, _, e => by cases e; exact ⟨[], rfl, List.Pairwise.nil, fun y hy => by simp at hy⟩
  | x :: xs, ds, hp, .inl ⟨e, ds', h1, h2, h3⟩ => by
    have hp' := List.pairwise_cons.mp hp
    obtain ⟨l, k1, k2, k3⟩ := lcr_asc h hp'.2 h3
    refine ⟨(x : Int) :: l, ?_, List.pairwise_cons.mpr ⟨fun y hy => ?_, k2⟩, fun y hy => ?_⟩
    · rw [h2, h x e h1, k1, Int.zero_add]; rfl
    · obtain ⟨z, hz, rfl⟩ := k3 y hy
      have := hp'.1 z hz
      omega
    · rcases List.mem_cons.mp hy with e | e
      · exact ⟨x, by simp, e⟩
      · obtain ⟨z, hz, e2⟩ := k3 y e
        exact ⟨z, by simp [hz], e2⟩
  | x :: xs, ds, hp, .inr ⟨h1, h2⟩ => by
    obtain ⟨l, k1, k2, k3⟩ := lcr_asc h (List.pairwise_cons.mp hp).2 h2
    exact ⟨l, k1, k2, fun y hy => by
      obtain ⟨z, hz, e2⟩ := k3 y hy
      exact ⟨z, by simp [hz], e2⟩⟩
theorem range_pw : ∀ n : Nat, (List.range n).Pairwise (· < ·) := fun n => List.pairwise_lt_range
theorem asc_two {n k r : Int} (hn : 2 < n) (h0 : 0 ≤ k) (h1 : k < n) (hr0 : 0 ≤ r) (hr1 : r < 2) : AscIn n (isort ltI [k, (k + 1 + r) % n]) := by
  have hm := ed_nat (k + 1 + r) n (by omega)
  have hne : (k + 1 + r) % n ≠ k := by
    intro e
    by_cases h : k + 1 + r < n
    · rw [Int.emod_eq_of_lt (by omega) h] at e; omega
    · have : (k + 1 + r) % n = k + 1 + r - n := by
        rw [← Int.sub_emod_right, Int.emod_eq_of_lt (by omega) (by omega)]
      omega
  have hsplit : isort ltI [k, (k + 1 + r) % n] = if ltI ((k + 1 + r) % n) k then [(k + 1 + r) % n, k] else [k, (k + 1 + r) % n] := rfl
  rw [hsplit]
  by_cases h : (k + 1 + r) % n < k
  · rw [if_pos (by simpa [ltI] using h)]
    exact ⟨fun x hx => by simp at hx; omega, by simp [ascI]; omega⟩
  · rw [if_neg (by simpa [ltI] using h)]
    exact ⟨fun x hx => by simp at hx; omega, by simp [ascI]; omega⟩
def GoodF (n : Int) (fs : List (List Int)) : Prop := (∀ f ∈ fs, LotOk n f) ∧ fs.Nodup
section
variable {K : PySem.W.Frag} {E : XK} {tn : Addr} {ns : List Int}
/-- the slots of the body -/
abbrev rF (tn : Addr) (ns : List Int) (most n : Int) (fs : List (List Int)) (o : Int) (p : Bool) (a b c : Option PyData) : Rho := [some (scrD ns), some (adrD tn), some (.int most), some (.int n), some (lD fs), some (.int o), some (.bool p), a, b, c]
theorem fam_one {most n o : Int} {p : Bool} {fs : List (List Int)} {a b c : Option PyData} (hn : 1 ≤ n) (hn7 : n ≤ 7) (hp : p = true → 2 < n) :
    ExW K tn ns (tIfS (tB (tVar 6)) (tSeq (tAsg (tCall (sp_law_draw K) [] E0 (tCons (tVar 0) (tCons (tVar 1) (tCons (tVar 3) tNil)))) (gName 8))
      (tAsg (tCB (rSortD K) (tCons (tLst (tCons (tVar 8) (tCons (tOp rModU (tOp (rAddU K) (tOp (rAddU K) (tVar 8) (tC (.int 1))) (tCall (sp_law_draw K) [] E0 (tCons (tVar 0) (tCons (tVar 1) (tCons (tC (.int 2)) tNil))))) (tVar 3)) tNil))) tNil)) (gName 9)))
      (tAsg (tLc (iRng1 (tCons (tVar 3) tNil)) (gName 8) (tTest (tOp (rLtU K) (tCall (sp_law_draw K) [] E0 (tCons (tVar 0) (tCons (tVar 1) (tCons (tC (.int 4)) tNil)))) (tVar 5))) (tVar 8) [8]) (gName 9)))
      (rF tn ns most n fs o p a b c) 7 (fun ρ' => ∃ l b', AscIn n l ∧ ρ' = rF tn ns most n fs o p a b' (some (.list (l.map .int)))) (fun _ => False) := by
  refine xw_ifP (et_B (ev_var rfl)) (fun e => ?_) (fun e => ?_)
  · subst e
    have hn2 := hp rfl
    refine ExW.mono (xw_seq (m := 1) (Pm := fun ρ' => ∃ l b', AscIn n l ∧ ρ' = rF tn ns most n fs o true a b' (some (.list (l.map .int)))) (xw_asg (ew_draw rfl rfl (ev_var rfl) (by omega) (by omega))) (fun ρ' h => ?_)) (by omega) (fun _ h => h) (fun _ h => h)
    obtain ⟨d, ⟨k, rfl, h0, h1⟩, rfl⟩ := h
    show ExW K tn ns _ (rF tn ns most n fs o true a (some (.int k)) c) _ _ _
    have hd := ew_draw (K := K) (tn := tn) (ns := ns) (E' := E0) (ρ := rF tn ns most n fs o true a (some (.int k)) c) (i := 0) (j := 1) (tl := tC (.int 2)) (k := 2) rfl rfl ev_int (by omega) (by omega)
    have h2 := ew_op (r := rAddU K) (R := fun d => ∃ r : Int, d = .int (k + 1 + r) ∧ 0 ≤ r ∧ r < 2) (ew_pure (ev_op (K := K) (ρ := rF tn ns most n fs o true a (some (.int k)) c) (ev_var (i := 8) rfl) (ev_int (i := 1)) od_add)) hd (fun d e h1 h2 => by
      obtain ⟨r, rfl, h3, h4⟩ := h2
      subst h1
      exact ⟨_, od_add, r, rfl, h3, h4⟩)
    have h3 := ew_op (r := rModU) (R := fun d => ∃ r : Int, d = .int ((k + 1 + r) % n) ∧ 0 ≤ r ∧ r < 2) h2 (ew_pure (ev_var (K := K) (ρ := rF tn ns most n fs o true a (some (.int k)) c) (i := 3) (d := .int n) rfl)) (fun d e h1 h2 => by
      obtain ⟨r, rfl, h3, h4⟩ := h1
      subst h2
      exact ⟨_, od_mod (by omega), r, rfl, h3, h4⟩)
    have h4 := ea_consW (R := fun ds => ∃ r : Int, ds = [.int k, .int ((k + 1 + r) % n)] ∧ 0 ≤ r ∧ r < 2) (ew_pure (ev_var (K := K) (ρ := rF tn ns most n fs o true a (some (.int k)) c) (i := 8) (d := .int k) rfl)) (ea_consW (R := fun ds => ∃ r : Int, ds = [.int ((k + 1 + r) % n)] ∧ 0 ≤ r ∧ r < 2) h3 ea_nilW (by rintro d ds ⟨r, rfl, h3, h4⟩ rfl; exact ⟨r, rfl, h3, h4⟩)) (by rintro d ds rfl ⟨r, rfl, h3, h4⟩; exact ⟨r, rfl, h3, h4⟩)
    have h5 := ew_lst (R := fun d => ∃ r : Int, d = .list ([k, (k + 1 + r) % n].map .int) ∧ 0 ≤ r ∧ r < 2) h4 (by rintro ds ⟨r, rfl, h3, h4⟩; exact ⟨by simp, r, rfl, h3, h4⟩)
    have h6 := ew_cb (r := rSortD K) (R := fun d => ∃ l, AscIn n l ∧ d = .list (l.map .int)) (ea_consW (R := fun ds => ∃ r : Int, ds = [.list ([k, (k + 1 + r) % n].map .int)] ∧ 0 ≤ r ∧ r < 2) h5 ea_nilW (by rintro d ds ⟨r, rfl, h3, h4⟩ rfl; exact ⟨r, rfl, h3, h4⟩)) (by
      rintro ds ⟨r, rfl, h3, h4⟩
      exact ⟨_, ca_sortI, _, asc_two hn2 h0 h1 h3 h4, rfl⟩)
    exact ExW.mono (xw_asg h6) (by omega) (fun ρ' ⟨d, ⟨l, h7, h8⟩, h9⟩ => ⟨l, some (.int k), h7, by rw [h9, h8]; rfl⟩) (fun _ h => h)
  · have hit := it_rng1 (K := K) (ρ := rF tn ns most n fs o p a b c) (te := tVar 3) (ev_var rfl) (by omega : -(2 ^ 62) ≤ n ∧ n < 2 ^ 62)
    have hlc := ew_lc (K := K) (tn := tn) (ns := ns) (ρ := rF tn ns most n fs o p a b c) (wi := iRng1 (tCons (tVar 3) tNil)) (g := gName 8) (tt := (tTest (tOp (rLtU K) (tCall (sp_law_draw K) [] E0 (tCons (tVar 0) (tCons (tVar 1) (tCons (tC (.int 4)) tNil)))) (tVar 5)))) (vs := [8]) (ws := [8]) (n1 := 1) (n2 := 0) (te := tVar 8) (List.range n.toNat) (fun i => .int (0 + (i : Int))) (fun _ _ => True) (fun i d => d = .int (0 + (i : Int))) (fun i => rF tn ns most n fs o p a (some (.int (0 + (i : Int)))) c) hit (by rw [List.length_range]; omega) (by simp)
      (fun i _ => tg_name) (fun i _ => by
        have hd := ew_draw (K := K) (tn := tn) (ns := ns) (E' := E0) (ρ := rF tn ns most n fs o p a (some (.int (0 + (i : Int)))) c) (i := 0) (j := 1) (tl := tC (.int 4)) (k := 4) rfl rfl ev_int (by omega) (by omega)
        exact et_testW (ew_op (r := rLtU K) (R := fun d => ∃ b, d = .bool b ∧ True) hd (ew_pure (ev_var (K := K) (ρ := rF tn ns most n fs o p a (some (.int (0 + (i : Int)))) c) (i := 5) (d := .int o) rfl)) (by
          rintro d e ⟨r, rfl, _, _⟩ rfl
          exact ⟨_, od_lt, _, rfl, trivial⟩)) (fun d h => h)) (fun i _ => ew_pure (ev_var rfl))
    refine ExW.mono (xw_asg hlc) (by rw [List.length_range]; omega) (fun ρ' h => ?_) (fun _ h => h)
    obtain ⟨d, ⟨ds, rfl, h1⟩, rfl⟩ := h
    obtain ⟨l, rfl, h2, h3⟩ := lcr_asc (fun x d h => h.2) (range_pw _) h1
    refine ⟨l, b, ⟨fun x hx => ?_, ascI_of h2⟩, rfl⟩
    obtain ⟨z, hz, rfl⟩ := h3 x hx
    have := List.mem_range.mp hz
    omega
theorem fam_two {most n o : Int} {p : Bool} {fs : List (List Int)} {a b : Option PyData} {l : List Int} (hn : 1 ≤ n) (hn7 : n ≤ 7) (hl : AscIn n l) :
    ExW K tn ns (tAsg (tCB (rTupleOf K) (tCons (tIf (tTest (tOp (rNeD K) (tVar 9) (tLst tNil))) (tVar 9) (tLst (tCons (tCall (sp_law_draw K) [] E0 (tCons (tVar 0) (tCons (tVar 1) (tCons (tVar 3) tNil)))) tNil))) tNil)) (gName 9))
      (rF tn ns most n fs o p a b (some (.list (l.map .int)))) 1 (fun ρ' => ∃ f, LotOk n f ∧ ρ' = rF tn ns most n fs o p a b (some (tI f))) (fun _ => False) := by
  have ht : EvT K (tTest (tOp (rNeD K) (tVar 9) (tLst tNil))) (rF tn ns most n fs o p a b (some (.list (l.map .int)))) (!decide (l = [])) := by
    refine et_to (et_test (ev_op (ev_var rfl) (ev_lst ea_nil (by simp)) (od_ne (sh_lstI (n := 1)) (sh_nilL (n := 1))))) ?_
    cases l <;> simp [PyData.eqv, PyData.eqvAll]
  have hd := ew_draw (K := K) (tn := tn) (ns := ns) (E' := E0) (ρ := rF tn ns most n fs o p a b (some (.list (l.map .int)))) (i := 0) (j := 1) (tl := tVar 3) (k := n) rfl rfl (ev_var rfl) (by omega) (by omega)
  have hlst := ew_lst (R := fun d => ∃ f, LotOk n f ∧ d = .list (f.map .int)) (ea_consW (R := fun ds => ∃ r : Int, ds = [.int r] ∧ 0 ≤ r ∧ r < n) hd ea_nilW (by rintro d ds ⟨r, rfl, h3, h4⟩ rfl; exact ⟨r, rfl, h3, h4⟩)) (by
    rintro ds ⟨r, rfl, h3, h4⟩
    exact ⟨by simp, [r], ⟨by simp, fun x hx => by have := List.mem_singleton.mp hx; omega, rfl⟩, rfl⟩)
  have hif := ew_if (n := 0) (m := 1) (ta := tVar 9) (R := fun d => ∃ f, LotOk n f ∧ d = .list (f.map .int)) (et_pure (tn := tn) (ns := ns) ht) (fun e => by
    have hne : l ≠ [] := fun z => by rw [z] at e; simp at e
    exact EvW.mono (ew_pure (ev_var rfl)) (by omega) (fun d h => ⟨l, ⟨hne, hl.1, hl.2⟩, h⟩)) (fun _ => hlst)
  have hcb := ew_cb (r := rTupleOf K) (R := fun d => ∃ f, LotOk n f ∧ d = tI f) (ea_consW (R := fun ds => ∃ f, LotOk n f ∧ ds = [.list (f.map .int)]) hif ea_nilW (by rintro d ds ⟨f, h, rfl⟩ rfl; exact ⟨f, h, rfl⟩)) (by
    rintro ds ⟨f, h, rfl⟩
    exact ⟨_, ca_tupleL, f, h, rfl⟩)
  exact ExW.mono (xw_asg hcb) (by omega) (fun ρ' ⟨d, ⟨f, h1, h2⟩, h3⟩ => ⟨f, h1, by rw [h3, h2]; rfl⟩) (fun _ h => h)
theorem fam_three {most n o : Int} {p : Bool} {fs : List (List Int)} {a b : Option PyData} {f : List Int} (hz : fs.length ≤ 1000) :
    ExS K E (tAsg (tOp (rAddU K) (tVar 4) (tIf (tTest (tOp (rNotInU K) (tVar 9) (tVar 4))) (tLst (tCons (tVar 9) tNil)) (tLst tNil))) (gName 4))
      (rF tn ns most n fs o p a b (some (tI f))) (.nx (rF tn ns most n (if f ∈ fs then fs else fs ++ [f]) o p a b (some (tI f)))) := by
  have ht : EvT K (tTest (tOp (rNotInU K) (tVar 9) (tVar 4))) (rF tn ns most n fs o p a b (some (tI f))) (!decide (f ∈ fs)) := by
    refine et_to (et_test (ev_op (ev_var rfl) (ev_var rfl) (od_niL (sh_tI (n := 1)) (sh_lD (n := 1))))) ?_
    rw [any_tI]
  have hif : EvD K (tIf (tTest (tOp (rNotInU K) (tVar 9) (tVar 4))) (tLst (tCons (tVar 9) tNil)) (tLst tNil)) (rF tn ns most n fs o p a b (some (tI f))) (lD (if f ∈ fs then [] else [f])) :=
    ev_if ht (fun e => by
      have : f ∉ fs := by simpa using e
      rw [if_neg this]
      exact ev_lst (ea_cons (ev_var rfl) ea_nil) (by simp)) (fun e => by
      have : f ∈ fs := by simpa using e
      rw [if_pos this]
      exact ev_lst ea_nil (by simp))
  have h := xs_asg (i := 4) (E := E) (ev_op (ev_var (i := 4) (d := lD fs) rfl) hif (od_addL (by split <;> simp <;> omega)))
  have e : lD (if f ∈ fs then fs else fs ++ [f]) = .list (fs.map tI ++ (if f ∈ fs then [] else [f]).map tI) := by
    unfold lD
    split <;> simp
  unfold rF
  rw [e]
  exact h
theorem x_law_family {most : Int} (hm1 : 1 ≤ most) (hm7 : most ≤ 7) : ExW K tn ns (t_law_family K E) [some (scrD ns), some (adrD tn), some (.int most), none, none, none, none, none, none, none] 100 (fun _ => False) (R_law_family [.int most]) := by
  have e0 : (100 : Nat) = 1 + 99 := rfl
  have h1 : EaW K tn ns (tCons (tOp (rAddU K) (tC (.int 1)) (tCall (sp_law_draw K) [] E0 (tCons (tVar 0) (tCons (tVar 1) (tCons (tVar 2) tNil))))) (tCons (tLst tNil) tNil)) [some (scrD ns), some (adrD tn), some (.int most), none, none, none, none, none, none, none] 1 (fun ds => ∃ n : Int, 1 ≤ n ∧ n ≤ most ∧ ds = [.int n, lD []]) := by
    have hd := ew_draw (K := K) (tn := tn) (ns := ns) (E' := E0) (ρ := [some (scrD ns), some (adrD tn), some (.int most), none, none, none, none, none, none, none]) (i := 0) (j := 1) (tl := tVar 2) (k := most) rfl rfl (ev_var rfl) (by omega) (by omega)
    refine ea_consW (n := 1) (m := 0) (ew_op (n := 0) (m := 1) (r := rAddU K) (R := fun d => ∃ n : Int, d = .int n ∧ 1 ≤ n ∧ n ≤ most) (ew_pure ev_int) hd (by
      rintro d e rfl ⟨r, rfl, h3, h4⟩
      exact ⟨_, od_add, _, rfl, by omega, by omega⟩)) (ea_consW (n := 0) (m := 0) (R := (· = [lD []])) (ew_pure (ev_lst ea_nil (by simp))) ea_nilW (by rintro d ds rfl rfl; rfl)) (by rintro d ds ⟨n, rfl, h3, h4⟩ rfl; exact ⟨n, h3, h4, rfl⟩)
  rw [e0]
  refine xw_seq (xw_par h1 (by rintro ds ⟨n, _, _, rfl⟩; rfl)) (fun ρ1 hρ1 => ?_)
  obtain ⟨d, e, ⟨n, hn1, hnm, hde⟩, rfl⟩ := hρ1
  simp only [List.cons.injEq, and_true] at hde
  obtain ⟨rfl, rfl⟩ := hde
  show ExW K tn ns _ [some (scrD ns), some (adrD tn), some (.int most), some (.int n), some (lD []), none, none, none, none, none] 99 _ _
  have hn7 : n ≤ 7 := by omega
  let ρ1 : Rho := [some (scrD ns), some (adrD tn), some (.int most), some (.int n), some (lD []), none, none, none, none, none]
  have h2 : EvW K tn ns (tTup (tCons (tOp (rAddU K) (tC (.int 1)) (tCall (sp_law_draw K) [] E0 (tCons (tVar 0) (tCons (tVar 1) (tCons (tC (.int 3)) tNil))))) (tCons (tAndV (tOp rGtI (tVar 3) (tC (.int 2))) (tOp (rEqD K) (tCall (sp_law_draw K) [] E0 (tCons (tVar 0) (tCons (tVar 1) (tCons (tC (.int 2)) tNil)))) (tC (.int 0)))) tNil))) ρ1 2
      (fun d => ∃ (o : Int) (p : Bool), d = .tuple [.int o, .bool p] ∧ (p = true → 2 < n)) := by
    have hd3 := ew_draw (K := K) (tn := tn) (ns := ns) (E' := E0) (ρ := ρ1) (i := 0) (j := 1) (tl := tC (.int 3)) (k := 3) rfl rfl ev_int (by omega) (by omega)
    have hd2 := ew_draw (K := K) (tn := tn) (ns := ns) (E' := E0) (ρ := ρ1) (i := 0) (j := 1) (tl := tC (.int 2)) (k := 2) rfl rfl ev_int (by omega) (by omega)
    have heq := ew_op (n := 1) (m := 0) (r := rEqD K) (R := fun d => ∃ b : Bool, d = .bool b) hd2 (ew_pure (ev_int (K := K) (i := 0))) (by
      rintro d e ⟨r, rfl, _, _⟩ rfl
      exact ⟨_, od_eq (sh_int (n := 1)) (sh_int (n := 1)), _, rfl⟩)
    have hgt : EvD K (tOp rGtI (tVar 3) (tC (.int 2))) ρ1 (.bool (decide (2 < n))) := ev_op (ev_var rfl) ev_int od_gt
    have hand := ew_and (n := 0) (m := 1) (P := fun b => b = decide (2 < n)) (P' := fun _ => True) (ew_pure (tn := tn) (ns := ns) hgt) (fun d h => ⟨_, h, rfl⟩) heq
    have hand' := EvW.mono (R' := fun d => ∃ p : Bool, d = .bool p ∧ (p = true → 2 < n)) hand (Nat.le_refl _) (by
      rintro d (⟨rfl, h⟩ | ⟨h, b, rfl⟩)
      · exact ⟨false, rfl, fun z => by cases z⟩
      · exact ⟨b, rfl, fun _ => by simpa using h.symm⟩)
    refine ew_tup (ea_consW (n := 1) (m := 1) (R := fun ds => ∃ (o : Int) (p : Bool), ds = [.int o, .bool p] ∧ (p = true → 2 < n)) (ew_op (n := 0) (m := 1) (r := rAddU K) (R := fun d => ∃ o : Int, d = .int o) (ew_pure ev_int) hd3 (by
      rintro d e rfl ⟨r, rfl, h3, h4⟩
      exact ⟨_, od_add, _, rfl⟩)) (ea_consW (n := 1) (m := 0) (R := fun ds => ∃ p : Bool, ds = [.bool p] ∧ (p = true → 2 < n)) hand' ea_nilW (by rintro d ds ⟨p, rfl, h⟩ rfl; exact ⟨p, rfl, h⟩)) (by rintro d ds ⟨o, rfl⟩ ⟨p, rfl, h⟩; exact ⟨o, p, rfl, h⟩)) (by
      rintro ds ⟨o, p, rfl, h⟩
      exact ⟨by simp, o, p, rfl, h⟩)
  have e1 : (99 : Nat) = 2 + 97 := rfl
  rw [e1]
  let g2 : PyData → Rho := fun d => match d with
    | .tuple [x, y] => [some (scrD ns), some (adrD tn), some (.int most), some (.int n), some (lD []), some x, some y, none, none, none]
    | _ => []
  refine xw_seq (xw_asgT (r2 := g2) h2 (ws := [5, 6]) (by rintro d ⟨o, p, rfl, h⟩; exact tg_two)) (fun ρ2 hρ2 => ?_)
  obtain ⟨d, ⟨o, p, rfl, hp⟩, rfl⟩ := hρ2
  show ExW K tn ns _ (rF tn ns most n [] o p none none none) 97 _ _
  have hd8 := ew_draw (K := K) (tn := tn) (ns := ns) (E' := E0) (ρ := rF tn ns most n [] o p none none none) (i := 0) (j := 1) (tl := tC (.int 8)) (k := 8) rfl rfl ev_int (by omega) (by omega)
  have hcnt := ew_op (n := 0) (m := 1) (r := rAddU K) (R := fun d => ∃ k : Nat, d = .int (k : Int) ∧ 1 ≤ k ∧ k ≤ 8) (ew_pure (ev_int (K := K) (i := 1))) hd8 (by
    rintro d e rfl ⟨r, rfl, h3, h4⟩
    exact ⟨_, od_add, (1 + r).toNat, by rw [Int.toNat_of_nonneg (by omega)], by omega, by omega⟩)
  have e2 : (97 : Nat) = (1 + 8 * 8) + 32 := rfl
  rw [e2]
  refine xw_seq (Pn := fun ρ' => ∃ fs a b c, GoodF n fs ∧ 1 ≤ fs.length ∧ fs.length ≤ 8 ∧ ρ' = rF tn ns most n fs o p a b c) (xw_forR (B := 8) (m := 8) hcnt (by rintro d ⟨k, rfl, _, h⟩; exact ⟨k, rfl, h⟩) (by omega)
    (fun i ρ' => ∃ fs a b c, GoodF n fs ∧ (1 ≤ i → 1 ≤ fs.length) ∧ fs.length ≤ i ∧ ρ' = rF tn ns most n fs o p a b c) ⟨[], none, none, none, ⟨fun f hf => by simp at hf, List.nodup_nil⟩, fun h => by omega, Nat.le_refl _, rfl⟩ (fun i ρ' hi hI => ?_) (fun k ρ' hR hI => ?_)) (fun ρ3 hρ3 => ?_)
  · obtain ⟨fs, a, b, c, hg, hne, hlen, rfl⟩ := hI
    show ExW K tn ns _ (rF tn ns most n fs o p (some (.int (0 + (i : Int)))) b c) 8 _ _
    have e3 : (8 : Nat) = 7 + (1 + 0) := rfl
    refine ExW.mono (xw_seq (n := 7) (m := 1 + 0) (fam_one hn1 hn7 hp) (fun ρ4 h4 => ?_)) (Nat.le_refl _) (fun _ h => h) (fun _ h => h.elim)
    obtain ⟨l, b', hl, rfl⟩ := h4
    refine xw_seq (n := 1) (m := 0) (fam_two hn1 hn7 hl) (fun ρ5 h5 => ?_)
    obtain ⟨f, hf, rfl⟩ := h5
    refine ExW.mono (xw_pure (E := E) (fam_three (by omega))) (Nat.le_refl _) (fun ρ6 h6 => ?_) (fun _ h => h)
    refine ⟨_, _, _, _, ?_, fun _ => ?_, ?_, h6⟩
    · by_cases hm : f ∈ fs
      · rw [if_pos hm]; exact hg
      · rw [if_neg hm]
        refine ⟨fun g hg' => ?_, ?_⟩
        · rcases List.mem_append.mp hg' with z | z
          · exact hg.1 g z
          · rw [List.mem_singleton.mp z]; exact hf
        · rw [List.nodup_append]
          refine ⟨hg.2, by simp, fun x hx y hy => ?_⟩
          rw [List.mem_singleton.mp hy]
          exact fun z => hm (z ▸ hx)
    · by_cases hm : f ∈ fs
      · rw [if_pos hm]; exact List.length_pos_of_mem hm
      · rw [if_neg hm]; simp
    · split
      · omega
      · simp; omega
  · obtain ⟨fs, a, b, c, hg, hne, hlen, rfl⟩ := hI
    obtain ⟨k', hk, h1', h8'⟩ := hR
    have : k = k' := by
      have := PyData.int.inj hk
      omega
    subst this
    exact ⟨fs, a, b, c, hg, hne h1', by omega, rfl⟩
  · obtain ⟨fs, a, b, c, hg, h1', h8', rfl⟩ := hρ3
    have hs : EvD K (tCB (rTupleOf K) (tCons (tCB (rSortD K) (tCons (tVar 4) tNil)) tNil)) (rF tn ns most n fs o p a b c) (tD (isort HT.lexLt fs)) :=
      ev_cb (ea_cons (ev_cb (ea_cons (ev_var (d := lD fs) rfl) ea_nil) (ca_sortLD fun f hf => (hg.1 f hf).1)) ea_nil) ca_tupleL
    refine ExW.mono (xw_pureR (E := E) (d := famD n (isort HT.lexLt fs)) (xs_ret (ev_tup (ea_cons (ev_var rfl) (ea_cons hs ea_nil)) (by simp))) ?_) (by omega) (fun _ h => h) (fun _ h => h)
    have hperm := isort_perm (lt := HT.lexLt) fs
    refine ⟨most, n, isort HT.lexLt fs, rfl, ⟨hn1, hn7, by rw [hperm.length_eq]; exact h1', by rw [hperm.length_eq]; exact h8', fun s hs => hg.1 s (hperm.mem_iff.mp hs), sorted_asc (isort_sorted swo_lex fs) (hperm.nodup_iff.mpr hg.2)⟩, hnm, rfl⟩
theorem pure_law_family {vs : List V} {H : Hp} {Q : VK} (hs : sp_law_family K vs H Q E) : t_law_family K E { nx := fun _ H' => Q .non H', rt := Q } (L2.start ["script", "town", "most", "things", "found", "often", "is_paired", "turn", "k", "one"] vs) H :=
  sp_bodyT (fun tn ns ds ⟨most, hds, h1, h7⟩ => by
    subst hds
    exact x_law_family h1 h7) hs
end
end Lc

set_option Elab.async false
set_option linter.all false
set_option maxRecDepth 100000
set_option maxHeartbeats 4000000
namespace Lc
open PySem L2 PySem.Spec PyProof.Rows
/-! ### the law's start -/
def spLaw (K : PySem.W.Frag) : Sp := fun vs H Q _ => ∃ (a : Addr) (ns : List Int), vs = [.ref a] ∧ SqL K H a (ns.map V.int) ∧ ns.length ≤ 63 ∧ ∀ H', Q (.bl true) H'
section
variable {K : PySem.W.Frag} {E : XK}
theorem env_none {F : Hp} : ∀ m : Nat, EnvD K F (List.replicate m none) (List.replicate m none)
  | 0 => .nil
  | m + 1 => .cons trivial (env_none m)
theorem law_start {tz : TS} {N : List Str} {m M0 : Nat} (hN : N.length = m + 2) (hM : M0 ≤ MD) (h : ∀ tn ns, ns.length ≤ 63 → ExW K tn ns tz (some (scrD ns) :: some (adrD tn) :: List.replicate m none) M0 (fun _ => False) (· = .bool true))
    {vs : List V} {H : Hp} {Q : VK} (hs : spLaw K vs H Q E) : tSeq (tAsg (tCall (sp_law_town K) [] E0 (tCons (tVar 0) tNil)) (gName 1)) tz { nx := fun _ H' => Q .non H', rt := Q } (L2.start N vs) H := by
  obtain ⟨a, ns, rfl, hS, hl, q⟩ := hs
  have hst : L2.start N [.ref a] = some (.ref a) :: none :: List.replicate m none := by
    unfold L2.start
    rw [hN]
    show some (V.ref a) :: List.replicate (m + 2 - 1) none = _
    have : m + 2 - 1 = m + 1 := by omega
    rw [this]; rfl
  rw [hst]
  refine ⟨.ref a, rfl, [], ns, Live.nil, by omega, ?_, fun p H1 hp s1 h1 => ?_⟩
  · rw [cut_nil]; exact .cons (.scr hS) .nil
  · have sc : Same H (cut [p] H1) := fun b o e => by
      rw [cut_out (by
        intro z
        rw [List.mem_singleton.mp z, hp] at e; cases e)]
      exact s1 b o e
    refine h p ns hl 0 [p] _ H1 _ (by omega) (fun b hb => by rw [List.mem_singleton.mp hb, h1]; simp) (by simp) ⟨0 :: ns, h1, rfl, Int.le_refl _, Int.le_refl _⟩ (.cons (.scr (sql_same sc hS)) (.cons (.adr p) (env_none m))) (fun _ _ _ z => z.elim) (fun d v H' hd _ _ hv => ?_)
    subst hd
    cases hv
    exact q H'
/-- script, town and a limit of a def that draws -/
theorem ew_town {E' : XK} {ρ : Rho} {tn : Addr} {ns : List Int} {P : List PyData → Prop} {Rt : List PyData → PyData → Prop} {R : PyData → Prop} {tl : TE} {i j m : Nat} {d : PyData} (hi : ρ[i]? = some (some (scrD ns))) (hj : ρ[j]? = some (some (adrD tn))) (hk : EvD K tl ρ d) (hp : P [d]) (hR : ∀ e, Rt [d] e → R e) :
    EvW K tn ns (tCall (spT K m P Rt) [] E' (tCons (tVar i) (tCons (tVar j) (tCons tl tNil)))) ρ m R := by
  have ha : EaW K tn ns (tCons (tVar i) (tCons (tVar j) (tCons tl tNil))) ρ 0 (· = [scrD ns, adrD tn, d]) :=
    ea_consW (ew_pure (ev_var hi)) (ea_consW (ew_pure (ev_var hj)) (ea_consW (ew_pure hk) ea_nilW (R := (· = [d])) (by rintro d ds rfl rfl; rfl)) (R := (· = [adrD tn, d])) (by rintro d ds rfl rfl; rfl)) (by rintro d ds rfl rfl; rfl)
  have := ew_callT (m := m) (P := P) (Rt := Rt) (E := E') (R := R) ha (fun ds e => ⟨[d], e, hp, fun e h => hR e h⟩)
  rw [Nat.zero_add] at this
  exact this
/-- if this (shown false): return False -/
theorem xw_no {E : XK} {tn : Addr} {ns : List Int} {ρ : Rho} {t : TT} {te : TE} {tz : TS} {m : Nat} {Pm : Rho → Prop} {Pr : PyData → Prop} (h : EvT K t ρ false) (hz : ExW K tn ns tz ρ m Pm Pr) : ExW K tn ns (tSeq (tIfS t (tRet te) tNext) tz) ρ m Pm Pr :=
  xw_seqP (E := E) (xs_if h (fun z => by cases z) (fun _ => xs_next)) hz
theorem ne_false {ρ : Rho} {ta tb : TE} {d : PyData} {n : Nat} (ha : EvD K ta ρ d) (hb : EvD K tb ρ d) (hd : Sh n d) (hn : n ≤ 64) : EvT K (tTest (tOp (rNeD K) ta tb)) ρ false :=
  et_to (et_test (ev_op ha hb (od_ne hd hd hn hn))) (by rw [SeqAt.eqv_refl d hd.1]; rfl)
end
end Lc

set_option Elab.async false
set_option linter.all false
set_option maxRecDepth 100000
set_option maxHeartbeats 4000000
namespace Lc
open PySem L2 PySem.Spec PyProof.Rows
def t_law (K : PySem.W.Frag) (E : XK) : TS := (tSeq (tAsg (tCall (sp_law_town K) [] E0 (tCons (tVar 0) tNil)) (gName 1))
  (tSeq (tAsg (tCall (sp_law_family K) [] E0 (tCons (tVar 0) (tCons (tVar 1) (tCons (tC (.int 7)) tNil)))) (gName 2))
  (tSeq (tAsg (tOp (rIx K) (tVar 2) (tC (.int 0))) (gName 3))
  (tSeq (tAsg (tCall (sp_law_all K) [] E0 (tCons (tVar 3) (tCons (tTup (tCons (tUn (rU fun i => .int (-i)) (tC (.int 1))) (tCons (tC (.int 1)) tNil))) tNil))) (gName 4))
  (tSeq (tAsg (tLc (iSeq K (tVar 4)) (gName 6) tYes (tCall (sp_law_uneven K) [] E0 (tCons (tVar 2) (tCons (tVar 6) tNil))) [6]) (gName 5))
  (tSeq (tAsg (tCB (rMinU K) (tCons (tVar 5) tNil)) (gName 7))
  (tSeq (tIfS (tTest (tOp (rNeD K) (tCall (sp_least_uneven K) [] E0 (tCons (tVar 2) tNil)) (tVar 7))) (tRet (tC (.bl false))) tNext)
  (tSeq (tAsg (tCall (sp_all_best K) [] E0 (tCons (tVar 2) tNil)) (gName 8))
  (tSeq (tIfS (tTest (tOp (rNeD K) (tVar 8) (tCB (rTupleOf K) (tCons (tLc (iRng1 (tCons (tCB (rLenU K) (tCons (tVar 4) tNil)) tNil)) (gName 9) (tTest (tOp (rEqD K) (tOp (rIx K) (tVar 5) (tVar 9)) (tVar 7))) (tOp (rIx K) (tVar 4) (tVar 9)) [9]) tNil)))) (tRet (tC (.bl false))) tNext)
  (tSeq (tFor (iRng1 (tCons (tC (.int 3)) tNil)) (gName 10) (tSeq (tAsg (tCall (sp_law_hues K) [] E0 (tCons (tVar 0) (tCons (tVar 1) (tCons (tVar 3) tNil)))) (gName 6))
  (tSeq (tIfS (tOr (tTest (tOp rNotU (tCall (sp_is_colours K) [] E0 (tCons (tVar 2) (tCons (tVar 6) tNil))) (tC (.bl true)))) (tTest (tOp (rNeD K) (tCall (sp_sums K) [] E0 (tCons (tVar 2) (tCons (tVar 6) tNil))) (tCall (sp_law_sums K) [] E0 (tCons (tVar 2) (tCons (tVar 6) tNil)))))) (tRet (tC (.bl false))) tNext)
  (tSeq (tIfS (tTest (tOp (rNeD K) (tCall (sp_uneven K) [] E0 (tCons (tVar 2) (tCons (tVar 6) tNil))) (tCall (sp_law_uneven K) [] E0 (tCons (tVar 2) (tCons (tVar 6) tNil))))) (tRet (tC (.bl false))) tNext)
  (tSeq (tAsg (tCB (rTupleOf K) (tCons (tLc (iSeq K (tVar 6)) (gName 12) tYes (tOp rSubU (tC (.int 0)) (tVar 12)) [12]) tNil)) (gName 11))
  (tIfS (tOr (tTest (tOp (rNeD K) (tCall (sp_uneven K) [] E0 (tCons (tVar 2) (tCons (tVar 11) tNil))) (tCall (sp_uneven K) [] E0 (tCons (tVar 2) (tCons (tVar 6) tNil))))) (tTest (tOp (rNeD K) (tOp (rInU K) (tVar 11) (tVar 8)) (tOp (rInU K) (tVar 6) (tVar 8))))) (tRet (tC (.bl false))) tNext))))))
  (tSeq (tAsg (tCB (rMaxU K) (tCons (tLc (iRng1 (tCons (tVar 3) tNil)) (gName 9) tYes (tCB (rLenU K) (tCons (tLc (iSeq K (tOp (rIx K) (tVar 2) (tC (.int 1)))) (gName 12) (tTest (tOp (rInU K) (tVar 9) (tVar 12))) (tVar 12) [12]) tNil)) [9]) tNil)) (gName 13))
  (tSeq (tIfS (tOr (tTest (tOp rGeI (tVar 7) (tOp (rMulU K) (tC (.int 2)) (tVar 13)))) (tAnd (tTest (tOp (rNeD K) (tOp rModU (tVar 7) (tC (.int 2))) (tC (.int 0)))) (tTest (tOp (rEqD K) (tLc (iSeq K (tOp (rIx K) (tVar 2) (tC (.int 1)))) (gName 12) (tTest (tOp (rEqD K) (tOp rModU (tCB (rLenU K) (tCons (tVar 12) tNil)) (tC (.int 2))) (tC (.int 1)))) (tVar 12) [12]) (tLst tNil))))) (tRet (tC (.bl false))) tNext)
  (tSeq (tAsg (tLst (tCons (tC .non) (tCons (tTup tNil) (tCons (tOp (rAddU K) (tVar 6) (tTup (tCons (tC (.int 1)) tNil))) (tCons (tSl (rSlU K) (tVar 6) (tPart (tC (.int 1))) tNoPart) (tCons (tCB (rListU K) (tCons (tVar 6) tNil)) (tCons (tOp (rAddU K) (tTup (tCons (tC (.int 0)) tNil)) (tSl (rSlU K) (tVar 6) (tPart (tC (.int 1))) tNoPart)) (tCons (tOp (rMulU K) (tTup (tCons (tC (.bl true)) tNil)) (tVar 3)) (tCons (tOp (rMulU K) (tTup (tCons (tC (.str "1")) tNil)) (tVar 3)) tNil))))))))) (gName 14))
  (tRet (tOp (rEqD K) (tLc (iSeq K (tVar 14)) (gName 15) (tB (tCall (sp_is_colours K) [] E0 (tCons (tVar 2) (tCons (tVar 15) tNil)))) (tVar 15) [15]) (tLst tNil))))))))))))))))
end Lc

set_option Elab.async false
set_option linter.all false
set_option maxRecDepth 100000
set_option maxHeartbeats 4000000
namespace Lc
open PySem L2 PySem.Spec PyProof.Rows
/-! ### the plain facts that the law asks -/
def oftenM (n : Int) (ss : List (List Int)) : Int := maxM ((List.range n.toNat).map fun (k : Nat) => ((ss.filter fun s => decide ((k : Int) ∈ s)).length : Int))
def negL (c : List Int) : List Int := c.map fun x => 0 - x
structure Plain20 : Prop where
  bf : ∀ n ss, FamOk n ss → leastM n ss < 2 * oftenM n ss
  par : ∀ n ss, FamOk n ss → leastM n ss % 2 = 0 ∨ ∃ s ∈ ss, s.length % 2 = 1
theorem negL_ok {n : Int} {c : List Int} (h : ColOk n c) : ColOk n (negL c) := ⟨by simp [negL]; exact h.1, fun x hx => by
  obtain ⟨y, hy, rfl⟩ := List.mem_map.mp hx
  rcases h.2 y hy with e | e <;> omega⟩
theorem sum_neg : ∀ l : List Int, (l.map fun x => 0 - x).sum = - l.sum
  | [] => rfl
  | a :: r => by rw [List.map_cons, List.sum_cons, List.sum_cons, sum_neg r]; omega
theorem sumM_neg (c s : List Int) : sumM (negL c) s = - sumM c s := by
  unfold sumM
  rw [← sum_neg, List.map_map]
  congr 1
  apply List.map_congr_left
  intro x _
  show (negL c).getD x.toNat 0 = 0 - c.getD x.toNat 0
  unfold negL
  rw [List.getD_eq_getElem?_getD, List.getD_eq_getElem?_getD, List.getElem?_map]
  cases c[x.toNat]? <;> rfl
theorem unev_neg (ss : List (List Int)) (c : List Int) : unevM ss (negL c) = unevM ss c := by
  unfold unevM sumsM
  rw [List.map_map, List.map_map]
  congr 1
  apply List.map_congr_left
  intro s _
  show ((sumM (negL c) s).natAbs : Int) = ((sumM c s).natAbs : Int)
  rw [sumM_neg, Int.natAbs_neg]
theorem col_mem {n : Int} {c : List Int} (hn : 0 ≤ n) : c ∈ colsM n.toNat ↔ ColOk n c := by
  show c ∈ rowsM [-1, 1] n.toNat ↔ _
  rw [rowsM_mem]
  constructor
  · rintro ⟨h1, h2⟩
    exact ⟨by omega, fun x hx => by simpa using h2 x hx⟩
  · rintro ⟨h1, h2⟩
    exact ⟨by omega, fun x hx => by simpa using h2 x hx⟩
theorem best_neg {n : Int} {ss : List (List Int)} {c : List Int} (hn : 0 ≤ n) (h : ColOk n c) : (negL c ∈ bestM n ss) ↔ (c ∈ bestM n ss) := by
  unfold bestM
  rw [List.mem_filter, List.mem_filter, col_mem hn, col_mem hn, unev_neg]
  exact ⟨fun z => ⟨h, z.2⟩, fun z => ⟨negL_ok h, z.2⟩⟩
/-- picked by places is filtered -/
theorem pick_filter {α : Type} (d : α) (p : α → Bool) : ∀ l : List α, ((List.range l.length).filter fun k => p (l.getD k d)).map (fun k => l.getD k d) = l.filter p := by
  intro l
  have h1 : l = (List.range l.length).map fun k => l.getD k d := by
    apply List.ext_getElem
    · simp
    · intro i h1 h2
      simp [List.getElem_map, h1]
  conv => rhs; rw [h1]
  rw [List.filter_map]
  rfl
section
variable {K : PySem.W.Frag} {E : XK} {tn : Addr} {ns : List Int}
abbrev r20 (tn : Addr) (ns : List Int) (fam th so si hu le be k tu op on of ba bd : Option PyData) : Rho := [some (scrD ns), some (adrD tn), fam, th, so, si, hu, le, be, k, tu, op, on, of, ba, bd]
theorem Sh64 {n : Nat} {d : PyData} (h : Sh n d) (hn : n ≤ 40) : Sh 40 d := h.mono hn
theorem ev_isCol {ρ : Rho} {i : Nat} {tv : TE} {n : Int} {ss : List (List Int)} {d : PyData} (hF : FamOk n ss) (hi : ρ[i]? = some (some (famD n ss))) (hv : EvD K tv ρ d) (hd : Sh 40 d) (hz : ∀ l, d = .tuple l → l.length ≤ 10000) :
    EvD K (tCall (sp_is_colours K) [] E0 (tCons (tVar i) (tCons tv tNil))) ρ (.bool (areCol n d)) :=
  ev_call (ea_cons (ev_var hi) (ea_cons hv ea_nil)) ⟨rfl, famD n ss, [d], rfl, .inr ⟨n, ss, hF, rfl, d, hd, hz, rfl, rfl⟩⟩
theorem ev_uneven {ρ : Rho} {i : Nat} {tv : TE} {n : Int} {ss : List (List Int)} {c : List Int} (hF : FamOk n ss) (hi : ρ[i]? = some (some (famD n ss))) (hv : EvD K tv ρ (tI c)) (hc : ColOk n c) :
    EvD K (tCall (sp_uneven K) [] E0 (tCons (tVar i) (tCons tv tNil))) ρ (.int (unevM ss c)) :=
  ev_call (ea_cons (ev_var hi) (ea_cons hv ea_nil)) ⟨rfl, famD n ss, [tI c], rfl, .inr ⟨n, ss, hF, rfl, tI c, sh_tI.mono (by omega : 1 ≤ 40), fun l hl => by
    have := PyData.tuple.inj hl
    subst this
    rw [List.length_map]; have := hc.1; have := hF.n7; omega, rfl, by rw [areCol_tI.mpr hc, tupOf_one]; rfl⟩⟩
theorem ev_sums {ρ : Rho} {i : Nat} {tv : TE} {n : Int} {ss : List (List Int)} {c : List Int} (hF : FamOk n ss) (hi : ρ[i]? = some (some (famD n ss))) (hv : EvD K tv ρ (tI c)) (hc : ColOk n c) :
    EvD K (tCall (sp_sums K) [] E0 (tCons (tVar i) (tCons tv tNil))) ρ (tI (sumsM ss c)) :=
  ev_call (ea_cons (ev_var hi) (ea_cons hv ea_nil)) ⟨rfl, famD n ss, [tI c], rfl, .inr ⟨n, ss, hF, rfl, tI c, sh_tI.mono (by omega : 1 ≤ 40), fun l hl => by
    have := PyData.tuple.inj hl
    subst this
    rw [List.length_map]; have := hc.1; have := hF.n7; omega, rfl, by rw [areCol_tI.mpr hc, tupOf_one]; rfl⟩⟩
theorem colLen {n : Int} {c : List Int} (hc : ColOk n c) (hn : n ≤ 7) : c.length ≤ 7 := by have := hc.1; omega
/-- one turn of the loop over drawn colours -/
theorem turn20 {n : Int} {ss : List (List Int)} {so si hu be0 k tu op on of ba bd : Option PyData} (hF : FamOk n ss) :
    ExW K tn ns (tSeq (tAsg (tCall (sp_law_hues K) [] E0 (tCons (tVar 0) (tCons (tVar 1) (tCons (tVar 3) tNil)))) (gName 6))
  (tSeq (tIfS (tOr (tTest (tOp rNotU (tCall (sp_is_colours K) [] E0 (tCons (tVar 2) (tCons (tVar 6) tNil))) (tC (.bl true)))) (tTest (tOp (rNeD K) (tCall (sp_sums K) [] E0 (tCons (tVar 2) (tCons (tVar 6) tNil))) (tCall (sp_law_sums K) [] E0 (tCons (tVar 2) (tCons (tVar 6) tNil)))))) (tRet (tC (.bl false))) tNext)
  (tSeq (tIfS (tTest (tOp (rNeD K) (tCall (sp_uneven K) [] E0 (tCons (tVar 2) (tCons (tVar 6) tNil))) (tCall (sp_law_uneven K) [] E0 (tCons (tVar 2) (tCons (tVar 6) tNil))))) (tRet (tC (.bl false))) tNext)
  (tSeq (tAsg (tCB (rTupleOf K) (tCons (tLc (iSeq K (tVar 6)) (gName 12) tYes (tOp rSubU (tC (.int 0)) (tVar 12)) [12]) tNil)) (gName 11))
  (tIfS (tOr (tTest (tOp (rNeD K) (tCall (sp_uneven K) [] E0 (tCons (tVar 2) (tCons (tVar 11) tNil))) (tCall (sp_uneven K) [] E0 (tCons (tVar 2) (tCons (tVar 6) tNil))))) (tTest (tOp (rNeD K) (tOp (rInU K) (tVar 11) (tVar 8)) (tOp (rInU K) (tVar 6) (tVar 8))))) (tRet (tC (.bl false))) tNext)))))
      (r20 tn ns (some (famD n ss)) (some (.int n)) so si hu be0 (some (tD (bestM n ss))) k tu op on of ba bd) 7
      (fun ρ' => ∃ c op', ColOk n c ∧ ρ' = r20 tn ns (some (famD n ss)) (some (.int n)) so si (some (tI c)) be0 (some (tD (bestM n ss))) k tu op' on of ba bd) (· = .bool true) := by
  have hn7 := hF.n7
  have hn1 := hF.n1
  refine ExW.mono (xw_seq (n := 7) (m := 0) (Pm := fun ρ' => ∃ c op', ColOk n c ∧ ρ' = r20 tn ns (some (famD n ss)) (some (.int n)) so si (some (tI c)) be0 (some (tD (bestM n ss))) k tu op' on of ba bd) (xw_asg (R := fun d => ∃ c, ColOk n c ∧ d = tI c) (ew_town (P := P_law_hues) (Rt := R_law_hues) rfl rfl (ev_var (d := .int n) rfl) ⟨n, rfl, by omega, hn7⟩ (by
    rintro e ⟨n', c, h1, h2, h3⟩
    have : n = n' := by simpa using h1
    subst this
    exact ⟨c, h2, h3⟩))) (fun ρ1 h1 => ?_)) (by omega) (fun _ h => h) (fun _ h => h)
  obtain ⟨d, ⟨c, hc, rfl⟩, rfl⟩ := h1
  show ExW K tn ns _ (r20 tn ns (some (famD n ss)) (some (.int n)) so si (some (tI c)) be0 (some (tD (bestM n ss))) k tu op on of ba bd) 0 _ _
  have hcl := colLen hc hn7
  have hIn := hF.w.inC hc.1
  have hz : ∀ l, tI c = .tuple l → l.length ≤ 10000 := fun l hl => by
    have := PyData.tuple.inj hl
    subst this
    rw [List.length_map]; omega
  have t1 : EvT K (tTest (tOp rNotU (tCall (sp_is_colours K) [] E0 (tCons (tVar 2) (tCons (tVar 6) tNil))) (tC (.bl true)))) (r20 tn ns (some (famD n ss)) (some (.int n)) so si (some (tI c)) be0 (some (tD (bestM n ss))) k tu op on of ba bd) false := by
    refine et_to (et_test (ev_op (ev_isCol hF rfl (ev_var rfl) (sh_tI.mono (by omega : 1 ≤ 40)) hz) ev_bl od_notB)) ?_
    rw [areCol_tI.mpr hc]; rfl
  have ls : ∀ op, EvD K (tCall (sp_law_sums K) [] E0 (tCons (tVar 2) (tCons (tVar 6) tNil))) (r20 tn ns (some (famD n ss)) (some (.int n)) so si (some (tI c)) be0 (some (tD (bestM n ss))) k tu op on of ba bd) (tI (sumsM ss c)) := fun op =>
    ev_call (ea_cons (ev_var rfl) (ea_cons (ev_var rfl) ea_nil)) ⟨n, ss, c, hIn, rfl, rfl⟩
  have lu : ∀ op, EvD K (tCall (sp_law_uneven K) [] E0 (tCons (tVar 2) (tCons (tVar 6) tNil))) (r20 tn ns (some (famD n ss)) (some (.int n)) so si (some (tI c)) be0 (some (tD (bestM n ss))) k tu op on of ba bd) (.int (unevM ss c)) := fun op =>
    ev_call (ea_cons (ev_var rfl) (ea_cons (ev_var rfl) ea_nil)) ⟨n, ss, c, hIn, hF.w.2.2.1, rfl, rfl⟩
  refine xw_no (E := E0) (et_orF t1 (ne_false (ev_sums hF rfl (ev_var rfl) hc) (ls op) (sh_tI (n := 1)) (by omega))) ?_
  refine xw_no (E := E0) (ne_false (ev_uneven hF rfl (ev_var rfl) hc) (lu op) (sh_int (n := 1)) (by omega)) ?_
  have hop : EvD K (tCB (rTupleOf K) (tCons (tLc (iSeq K (tVar 6)) (gName 12) tYes (tOp rSubU (tC (.int 0)) (tVar 12)) [12]) tNil)) (r20 tn ns (some (famD n ss)) (some (.int n)) so si (some (tI c)) be0 (some (tD (bestM n ss))) k tu op on of ba bd) (tI (negL c)) := by
    have h := ev_tupLc (K := K) (ρ := r20 tn ns (some (famD n ss)) (some (.int n)) so si (some (tI c)) be0 (some (tD (bestM n ss))) k tu op on of ba bd) (wi := iSeq K (tVar 6)) (j := 12) (vs := [12]) (te := tOp rSubU (tC (.int 0)) (tVar 12)) c .int (fun x => .int (0 - x)) (it_seqT (ev_var rfl)) (by omega) (by simp) (fun x _ => ev_op ev_int (ev_var rfl) od_sub)
    rw [map_int] at h
    exact h
  refine xw_seqP (E := E0) (xs_asg hop) ?_
  show ExW K tn ns _ (r20 tn ns (some (famD n ss)) (some (.int n)) so si (some (tI c)) be0 (some (tD (bestM n ss))) k tu (some (tI (negL c))) on of ba bd) 0 _ _
  have hno := negL_ok hc
  have u1 : EvD K (tCall (sp_uneven K) [] E0 (tCons (tVar 2) (tCons (tVar 11) tNil))) (r20 tn ns (some (famD n ss)) (some (.int n)) so si (some (tI c)) be0 (some (tD (bestM n ss))) k tu (some (tI (negL c))) on of ba bd) (.int (unevM ss c)) := by
    rw [← unev_neg]
    exact ev_uneven hF rfl (ev_var rfl) hno
  have i1 : EvD K (tOp (rInU K) (tVar 11) (tVar 8)) (r20 tn ns (some (famD n ss)) (some (.int n)) so si (some (tI c)) be0 (some (tD (bestM n ss))) k tu (some (tI (negL c))) on of ba bd) (.bool (decide (c ∈ bestM n ss))) := by
    refine ev_to (ev_op (ev_var rfl) (ev_var (d := tD (bestM n ss)) rfl) (od_inT (sh_tI (n := 1)) (sh_tD (n := 1)))) ?_
    rw [any_tI]
    have := best_neg (ss := ss) (by omega : 0 ≤ n) hc
    simp only [this]
  have i2 : EvD K (tOp (rInU K) (tVar 6) (tVar 8)) (r20 tn ns (some (famD n ss)) (some (.int n)) so si (some (tI c)) be0 (some (tD (bestM n ss))) k tu (some (tI (negL c))) on of ba bd) (.bool (decide (c ∈ bestM n ss))) := by
    refine ev_to (ev_op (ev_var rfl) (ev_var (d := tD (bestM n ss)) rfl) (od_inT (sh_tI (n := 1)) (sh_tD (n := 1)))) ?_
    rw [any_tI]
  refine ExW.mono (xw_pure (E := E0) (xs_if (et_orF (ne_false u1 (ev_uneven hF rfl (ev_var rfl) hc) (sh_int (n := 1)) (by omega)) (ne_false i1 i2 (sh_bool (n := 1)) (by omega))) (fun z => by cases z) (fun _ => xs_next))) (by omega) (fun ρ' h => ⟨c, _, hc, h⟩) (fun _ h => h)
end
end Lc

set_option Elab.async false
set_option linter.all false
set_option maxRecDepth 100000
set_option maxHeartbeats 4000000
namespace Lc
open PySem L2 PySem.Spec PyProof.Rows
section
variable {K : PySem.W.Frag} {E : XK} {tn : Addr} {ns : List Int}
theorem filt0 {α : Type} : ∀ l : List α, l.filter (fun _ => false) = []
  | [] => rfl
  | _ :: r => filt0 r
theorem cutD_tail {a : PyData} {r : List PyData} : cutD (a :: r) (some 1) none = r := by
  have e1 : HT.sIx (a :: r).length 0 (some 1) = 1 := by simp [HT.sIx]
  have e2 : HT.sIx (a :: r).length (a :: r).length none = (a :: r).length := by simp [HT.sIx]
  unfold cutD
  rw [e1, e2]
  simp
theorem areCol_len {n : Int} {l : List PyData} (h : (l.length : Int) ≠ n) : areCol n (.tuple l) = false := by
  show (decide ((l.length : Int) = n) && _) = false
  rw [decide_eq_false h]; rfl
theorem areCol_head {n : Int} {a : PyData} {l : List PyData} (h : isPM a = false) : areCol n (.tuple (a :: l)) = false := by
  show (_ && (a :: l).all isPM) = false
  rw [List.all_cons, h, Bool.false_and, Bool.and_false]
theorem rep_one {a : PyData} (k : Nat) : (List.replicate k [a]).flatten = List.replicate k a := by
  induction k with
  | zero => rfl
  | succ k ih => rw [List.replicate_succ, List.flatten_cons, ih]; rfl
def badsM (n : Int) (c : List Int) : List PyData := [.none, .tuple [], .tuple (c.map .int ++ [.int 1]), .tuple (c.tail.map .int), .list (c.map .int), .tuple ([.int 0] ++ c.tail.map .int), .tuple (List.replicate n.toNat (.bool true)), .tuple (List.replicate n.toNat (.str "1"))]
theorem bads_not {n : Int} {c : List Int} (hn : 1 ≤ n) (hc : ColOk n c) : ∀ d ∈ badsM n c, areCol n d = false := by
  have hl := hc.1
  obtain ⟨m, hm⟩ : ∃ m : Nat, n.toNat = m + 1 := ⟨n.toNat - 1, by omega⟩
  intro d hd
  simp only [badsM, List.mem_cons, List.not_mem_nil, or_false] at hd
  rcases hd with rfl | rfl | rfl | rfl | rfl | rfl | rfl | rfl
  · rfl
  · exact areCol_len (by simp; omega)
  · exact areCol_len (by simp; omega)
  · exact areCol_len (by simp; omega)
  · rfl
  · exact areCol_head rfl
  · rw [hm]; exact areCol_head rfl
  · rw [hm]; exact areCol_head rfl
theorem sh_rep {k : Nat} {d : PyData} (h : Sh 1 d) : Sh 2 (.tuple (List.replicate k d)) := sh_tup fun e he => by rw [List.eq_of_mem_replicate he]; exact h
theorem sh_str1 : Sh 1 (.str "1") := ⟨by simp only [PyData.canLay0]; decide +kernel, by simp [PyData.depth]⟩
theorem bads_sh {n : Int} {c : List Int} (hn : n ≤ 7) (hl : c.length ≤ 7) : ∀ d ∈ badsM n c, Sh 2 d ∧ ∀ l, d = .tuple l → l.length ≤ 10000 := by
  intro d hd
  simp only [badsM, List.mem_cons, List.not_mem_nil, or_false] at hd
  have hi : ∀ l : List Int, Sh 2 (.tuple (l.map .int)) := fun l => sh_tupI
  have hz : ∀ (l : List PyData), l.length ≤ 10000 → ∀ l', PyData.tuple l = .tuple l' → l'.length ≤ 10000 := fun l h l' e => by rw [← PyData.tuple.inj e]; exact h
  rcases hd with rfl | rfl | rfl | rfl | rfl | rfl | rfl | rfl
  · exact ⟨sh_none, fun l e => by cases e⟩
  · exact ⟨sh_nil, hz _ (by simp)⟩
  · have e1 : c.map PyData.int ++ [.int 1] = (c ++ [1]).map .int := by simp
    rw [e1]
    exact ⟨hi _, hz _ (by simp; omega)⟩
  · exact ⟨hi _, hz _ (by simp; omega)⟩
  · exact ⟨sh_lstI, fun l e => by cases e⟩
  · have e1 : [PyData.int 0] ++ c.tail.map PyData.int = (0 :: c.tail).map .int := by simp
    rw [e1]
    exact ⟨hi _, hz _ (by simp; omega)⟩
  · exact ⟨sh_rep sh_bool, hz _ (by simp; omega)⟩
  · exact ⟨sh_rep sh_str1, hz _ (by simp; omega)⟩
/-- the bads, then the answer -/
theorem tail20 {n : Int} {ss : List (List Int)} {c : List Int} {so si le be k tu op on of ba : Option PyData} (hF : FamOk n ss) (hc : ColOk n c) :
    ExS K E (tSeq (tAsg (tLst (tCons (tC .non) (tCons (tTup tNil) (tCons (tOp (rAddU K) (tVar 6) (tTup (tCons (tC (.int 1)) tNil))) (tCons (tSl (rSlU K) (tVar 6) (tPart (tC (.int 1))) tNoPart) (tCons (tCB (rListU K) (tCons (tVar 6) tNil)) (tCons (tOp (rAddU K) (tTup (tCons (tC (.int 0)) tNil)) (tSl (rSlU K) (tVar 6) (tPart (tC (.int 1))) tNoPart)) (tCons (tOp (rMulU K) (tTup (tCons (tC (.bl true)) tNil)) (tVar 3)) (tCons (tOp (rMulU K) (tTup (tCons (tC (.str "1")) tNil)) (tVar 3)) tNil))))))))) (gName 14))
  (tRet (tOp (rEqD K) (tLc (iSeq K (tVar 14)) (gName 15) (tB (tCall (sp_is_colours K) [] E0 (tCons (tVar 2) (tCons (tVar 15) tNil)))) (tVar 15) [15]) (tLst tNil))))
      (r20 tn ns (some (famD n ss)) (some (.int n)) so si (some (tI c)) le be k tu op on of ba none) (.rt (.bool true)) := by
  have hn7 := hF.n7
  have hn1 := hF.n1
  have hcl := colLen hc hn7
  have hl := hc.1
  obtain ⟨a, r, rfl⟩ : ∃ a r, c = a :: r := by
    cases c with
    | nil => simp at hl; omega
    | cons a r => exact ⟨a, r, rfl⟩
  have hsl : EvD K (tSl (rSlU K) (tVar 6) (tPart (tC (.int 1))) tNoPart) (r20 tn ns (some (famD n ss)) (some (.int n)) so si (some (tI (a :: r))) le be k tu op on of ba none) (.tuple (r.map .int)) := by
    have h := ev_slT (K := K) (ρ := r20 tn ns (some (famD n ss)) (some (.int n)) so si (some (tI (a :: r))) le be k tu op on of ba none) (ev_var (i := 6) (d := tI (a :: r)) rfl) (eo_some (ev_int (i := 1))) eo_none
    rw [List.map_cons, cutD_tail] at h
    exact h
  have hr7 : r.length ≤ 7 := by have h := hcl; simp at h; omega
  refine xs_seq (xs_asg (d := .list (badsM n (a :: r))) (ev_lst (ea_cons ev_non (ea_cons (ev_tup ea_nil (by simp)) (ea_cons (ev_op (ev_var rfl) (ev_tup (ea_cons ev_int ea_nil) (by simp)) (od_addT (by simp; omega))) (ea_cons hsl (ea_cons (ev_cb (ea_cons (ev_var rfl) ea_nil) ca_listT) (ea_cons (ev_op (ev_tup (ea_cons ev_int ea_nil) (by simp)) hsl (od_addT (by simp; omega))) (ea_cons (ev_to (ev_op (ev_tup (ea_cons ev_bl ea_nil) (by simp)) (ev_var rfl) (od_repT (by simp) (by omega) (by omega) (by simp))) (by rw [rep_one])) (ea_cons (ev_to (ev_op (ev_tup (ea_cons ev_str ea_nil) (by simp)) (ev_var rfl) (od_repT (by simp) (by omega) (by omega) (by simp))) (by rw [rep_one])) ea_nil)))))))) (by simp [badsM]))) ?_
  show ExS K E _ (r20 tn ns (some (famD n ss)) (some (.int n)) so si (some (tI (a :: r))) le be k tu op on of (some (.list (badsM n (a :: r)))) none) _
  refine xs_ret (ev_to (ev_op (ev_lcNF (badsM n (a :: r)) (fun x => x) (fun _ => false) (fun x => x) (it_id (it_seqL (ev_var rfl))) (by simp [badsM]) (by simp) (fun x hx => ?_) (fun x _ z => by cases z)) (ev_lst ea_nil (by simp)) (od_eq (n := 1) (m := 1) ?_ sh_nilL)) ?_)
  · refine et_to (et_B (ev_isCol hF rfl (ev_var rfl) ((bads_sh hn7 hcl x hx).1.mono (by omega : 2 ≤ 40)) (bads_sh hn7 hcl x hx).2)) (bads_not hn1 hc x hx)
  · rw [filt0]; exact sh_nilL
  · rw [filt0]; rfl
end
end Lc

set_option Elab.async false
set_option linter.all false
set_option maxRecDepth 100000
set_option maxHeartbeats 4000000
namespace Lc
open PySem L2 PySem.Spec PyProof.Rows
section
variable {K : PySem.W.Frag} {E : XK} {tn : Addr} {ns : List Int}
/-- how often, the two plain laws, the bads -/
theorem end20 (pl : Plain20) {n : Int} {ss : List (List Int)} {c : List Int} {so si be k tu op : Option PyData} (hF : FamOk n ss) (hc : ColOk n c) :
    ExS K E (tSeq (tAsg (tCB (rMaxU K) (tCons (tLc (iRng1 (tCons (tVar 3) tNil)) (gName 9) tYes (tCB (rLenU K) (tCons (tLc (iSeq K (tOp (rIx K) (tVar 2) (tC (.int 1)))) (gName 12) (tTest (tOp (rInU K) (tVar 9) (tVar 12))) (tVar 12) [12]) tNil)) [9]) tNil)) (gName 13))
  (tSeq (tIfS (tOr (tTest (tOp rGeI (tVar 7) (tOp (rMulU K) (tC (.int 2)) (tVar 13)))) (tAnd (tTest (tOp (rNeD K) (tOp rModU (tVar 7) (tC (.int 2))) (tC (.int 0)))) (tTest (tOp (rEqD K) (tLc (iSeq K (tOp (rIx K) (tVar 2) (tC (.int 1)))) (gName 12) (tTest (tOp (rEqD K) (tOp rModU (tCB (rLenU K) (tCons (tVar 12) tNil)) (tC (.int 2))) (tC (.int 1)))) (tVar 12) [12]) (tLst tNil))))) (tRet (tC (.bl false))) tNext)
  (tSeq (tAsg (tLst (tCons (tC .non) (tCons (tTup tNil) (tCons (tOp (rAddU K) (tVar 6) (tTup (tCons (tC (.int 1)) tNil))) (tCons (tSl (rSlU K) (tVar 6) (tPart (tC (.int 1))) tNoPart) (tCons (tCB (rListU K) (tCons (tVar 6) tNil)) (tCons (tOp (rAddU K) (tTup (tCons (tC (.int 0)) tNil)) (tSl (rSlU K) (tVar 6) (tPart (tC (.int 1))) tNoPart)) (tCons (tOp (rMulU K) (tTup (tCons (tC (.bl true)) tNil)) (tVar 3)) (tCons (tOp (rMulU K) (tTup (tCons (tC (.str "1")) tNil)) (tVar 3)) tNil))))))))) (gName 14))
  (tRet (tOp (rEqD K) (tLc (iSeq K (tVar 14)) (gName 15) (tB (tCall (sp_is_colours K) [] E0 (tCons (tVar 2) (tCons (tVar 15) tNil)))) (tVar 15) [15]) (tLst tNil))))))
      (r20 tn ns (some (famD n ss)) (some (.int n)) so si (some (tI c)) (some (.int (leastM n ss))) be k tu op none none none none) (.rt (.bool true)) := by
  have hn7 := hF.n7
  have hn1 := hF.n1
  have h8 := hF.s8
  have hin : ∀ (kk : Nat), kk < n.toNat → EvD K (tCB (rLenU K) (tCons (tLc (iSeq K (tOp (rIx K) (tVar 2) (tC (.int 1)))) (gName 12) (tTest (tOp (rInU K) (tVar 9) (tVar 12))) (tVar 12) [12]) tNil)) (r20 tn ns (some (famD n ss)) (some (.int n)) so si (some (tI c)) (some (.int (leastM n ss))) be (some (.int (0 + (kk : Int)))) tu op none none none none) (.int ((ss.filter fun s => decide ((kk : Int) ∈ s)).length : Int)) := by
    intro kk _
    have h := ev_lcNF (K := K) (ρ := r20 tn ns (some (famD n ss)) (some (.int n)) so si (some (tI c)) (some (.int (leastM n ss))) be (some (.int (0 + (kk : Int)))) tu op none none none none) (wi := iSeq K (tOp (rIx K) (tVar 2) (tC (.int 1)))) (j := 12) (tt := tTest (tOp (rInU K) (tVar 9) (tVar 12))) (te := tVar 12) (vs := [12]) ss tI (fun s => decide ((kk : Int) ∈ s)) tI (it_seqT (ev_fam1 rfl)) (by omega) (by simp)
      (fun s _ => et_to (et_test (ev_op (ev_var rfl) (ev_var (d := tI s) rfl) (od_inT (sh_int (n := 1)) (sh_tI (n := 1))))) (by rw [any_ints, Int.zero_add])) (fun s _ _ => ev_var rfl)
    have := ev_cb (ea_cons h ea_nil) (ca_lenL (K := K))
    rw [List.length_map] at this
    exact this
  have hof : EvD K (tCB (rMaxU K) (tCons (tLc (iRng1 (tCons (tVar 3) tNil)) (gName 9) tYes (tCB (rLenU K) (tCons (tLc (iSeq K (tOp (rIx K) (tVar 2) (tC (.int 1)))) (gName 12) (tTest (tOp (rInU K) (tVar 9) (tVar 12))) (tVar 12) [12]) tNil)) [9]) tNil)) (r20 tn ns (some (famD n ss)) (some (.int n)) so si (some (tI c)) (some (.int (leastM n ss))) be k tu op none none none none) (.int (oftenM n ss)) := by
    have h := ev_lcI (K := K) (ρ := r20 tn ns (some (famD n ss)) (some (.int n)) so si (some (tI c)) (some (.int (leastM n ss))) be k tu op none none none none) (wi := iRng1 (tCons (tVar 3) tNil)) (j := 9) (vs := [9]) (te := tCB (rLenU K) (tCons (tLc (iSeq K (tOp (rIx K) (tVar 2) (tC (.int 1)))) (gName 12) (tTest (tOp (rInU K) (tVar 9) (tVar 12))) (tVar 12) [12]) tNil)) (List.range n.toNat) (fun i => .int (0 + (i : Int))) (fun kk => ((ss.filter fun s => decide ((kk : Int) ∈ s)).length : Int)) (it_rng1 (ev_var rfl) (by omega)) (by simp; omega) (by simp) (fun kk hk => hin kk (List.mem_range.mp hk))
    refine ev_cb (ea_cons h ea_nil) (ca_max (maxM_mem ?_ ?_) (fun x hx => maxM_le hx))
    · intro e
      have := congrArg List.length e
      simp at this
      omega
    · intro x hx
      obtain ⟨kk, _, rfl⟩ := List.mem_map.mp hx
      omega
  refine xs_seq (xs_asg hof) ?_
  show ExS K E _ (r20 tn ns (some (famD n ss)) (some (.int n)) so si (some (tI c)) (some (.int (leastM n ss))) be k tu op none (some (.int (oftenM n ss))) none none) _
  have hbf := pl.bf n ss hF
  refine xs_seq (xs_if (b := false) ?_ (fun z => by cases z) (fun _ => xs_next)) (tail20 hF hc)
  refine et_orF (et_to (et_test (ev_op (ev_var rfl) (ev_op ev_int (ev_var rfl) (od_mul (cmulL (by decide) (by decide)))) od_ge)) (by rw [decide_eq_false]; omega)) ?_
  have hm : EvT K (tTest (tOp (rNeD K) (tOp rModU (tVar 7) (tC (.int 2))) (tC (.int 0)))) (r20 tn ns (some (famD n ss)) (some (.int n)) so si (some (tI c)) (some (.int (leastM n ss))) be k tu op none (some (.int (oftenM n ss))) none none) (!decide (leastM n ss % 2 = 0)) :=
    et_to (et_test (ev_op (ev_op (ev_var rfl) ev_int (od_mod (by omega))) ev_int (od_ne (sh_int (n := 1)) (sh_int (n := 1))))) (by rw [eqv_int])
  rcases pl.par n ss hF with h | ⟨s, hs, hodd⟩
  · exact et_andF (et_to hm (by rw [decide_eq_true h]; rfl))
  · refine et_to (et_and hm (fun _ => ?_) (c := false)) (by rw [Bool.and_false])
    have h := ev_lcNF (K := K) (ρ := r20 tn ns (some (famD n ss)) (some (.int n)) so si (some (tI c)) (some (.int (leastM n ss))) be k tu op none (some (.int (oftenM n ss))) none none) (wi := iSeq K (tOp (rIx K) (tVar 2) (tC (.int 1)))) (j := 12) (tt := tTest (tOp (rEqD K) (tOp rModU (tCB (rLenU K) (tCons (tVar 12) tNil)) (tC (.int 2))) (tC (.int 1)))) (te := tVar 12) (vs := [12]) ss tI (fun s => decide ((s.length : Int) % 2 = 1)) tI (it_seqT (ev_fam1 rfl)) (by omega) (by simp)
      (fun s _ => et_to (et_test (ev_op (ev_op (ev_cb (ea_cons (ev_var (d := tI s) rfl) ea_nil) ca_lenT) ev_int (od_mod (by omega))) ev_int (od_eq (sh_int (n := 1)) (sh_int (n := 1))))) (by rw [eqv_int, List.length_map])) (fun s _ _ => ev_var rfl)
    refine et_to (et_test (ev_op h (ev_lst ea_nil (by simp)) (od_eq (n := 3) (m := 1) (sh_lD (fs := ss.filter fun s => decide ((s.length : Int) % 2 = 1))) sh_nilL))) ?_
    have e : PyData.eqv (lD (ss.filter fun s => decide ((s.length : Int) % 2 = 1))) (lD []) = false := by
      rw [eqv_lD, decide_eq_false]
      intro e
      have : s ∈ ss.filter fun s => decide ((s.length : Int) % 2 = 1) := List.mem_filter.mpr ⟨hs, by simp; omega⟩
      rw [e] at this
      cases this
    exact e
end
end Lc

set_option Elab.async false
set_option linter.all false
set_option maxRecDepth 100000
set_option maxHeartbeats 4000000
namespace Lc
open PySem L2 PySem.Spec PyProof.Rows
section
variable {K : PySem.W.Frag} {E : XK} {tn : Addr} {ns : List Int}
theorem ev_lawAll {ρ : Rho} {i : Nat} {n : Int} (h0 : 0 ≤ n) (h7 : n ≤ 7) (hi : ρ[i]? = some (some (.int n))) :
    EvD K (tCall (sp_law_all K) [] E0 (tCons (tVar i) (tCons (tTup (tCons (tUn (rU fun i => .int (-i)) (tC (.int 1))) (tCons (tC (.int 1)) tNil))) tNil))) ρ (lD (colsM n.toNat)) := by
  have e : (n : Int) = ((n.toNat : Nat) : Int) := by omega
  exact ev_call (ea_cons (ev_var hi) (ea_cons (ev_tup (ea_cons (ev_un ev_int ud_neg) (ea_cons ev_int ea_nil)) (by simp)) ea_nil)) ⟨n.toNat, -1, 1, by omega, by rw [← e]; rfl, rfl⟩
theorem main20 (pl : Plain20) : ∃ tz, t_law K E = tSeq (tAsg (tCall (sp_law_town K) [] E0 (tCons (tVar 0) tNil)) (gName 1)) tz ∧ ∀ tn ns, ns.length ≤ 63 → ExW K tn ns tz (some (scrD ns) :: some (adrD tn) :: List.replicate 14 none) 200 (fun _ => False) (· = .bool true) := by
  refine ⟨_, rfl, fun tn ns _ => ?_⟩
  refine ExW.mono (xw_seq (n := 100) (m := 21) (Pm := fun _ => False) (xw_asg (R := fun d => ∃ n ss, FamOk n ss ∧ d = famD n ss) (ew_town (P := P_law_family) (Rt := R_law_family) (d := .int 7) rfl rfl ev_int ⟨7, rfl, by omega, by omega⟩ (by
    rintro e ⟨most, n, ss, _, h2, _, h3⟩
    exact ⟨n, ss, h2, h3⟩))) (fun ρ1 h1 => ?_)) (by omega) (fun _ h => h) (fun _ h => h)
  obtain ⟨d, ⟨n, ss, hF, rfl⟩, rfl⟩ := h1
  have hn7 := hF.n7
  have hn1 := hF.n1
  have hW := hF.w
  show ExW K tn ns _ (r20 tn ns (some (famD n ss)) none none none none none none none none none none none none none) 21 _ _
  refine xw_seqP (E := E0) (xs_asg (ev_fam0 rfl)) ?_
  show ExW K tn ns _ (r20 tn ns (some (famD n ss)) (some (.int n)) none none none none none none none none none none none none) 21 _ _
  refine xw_seqP (E := E0) (xs_asg (ev_lawAll (by omega) hn7 rfl)) ?_
  show ExW K tn ns _ (r20 tn ns (some (famD n ss)) (some (.int n)) (some (lD (colsM n.toNat))) none none none none none none none none none none none) 21 _ _
  have hsz : (colsM n.toNat).length ≤ 128 := colsM_small (by omega)
  have hsi : EvD K (tLc (iSeq K (tVar 4)) (gName 6) tYes (tCall (sp_law_uneven K) [] E0 (tCons (tVar 2) (tCons (tVar 6) tNil))) [6]) (r20 tn ns (some (famD n ss)) (some (.int n)) (some (lD (colsM n.toNat))) none none none none none none none none none none none) (.list (((colsM n.toNat).map (unevM ss)).map .int)) :=
    ev_lcI (K := K) (colsM n.toNat) tI (unevM ss) (it_seqL (ev_var rfl)) (by omega) (by simp) (fun c hc => ev_call (ea_cons (ev_var rfl) (ea_cons (ev_var rfl) ea_nil)) ⟨n, ss, c, hW.col hc, hW.2.2.1, rfl, rfl⟩)
  refine xw_seqP (E := E0) (xs_asg hsi) ?_
  generalize hl : (colsM n.toNat).map (unevM ss) = l at *
  have hll : l.length = (colsM n.toNat).length := by rw [← hl, List.length_map]
  have hlm : minM l = leastM n ss := by rw [← hl]; rfl
  have hne : l ≠ [] := fun e => colsM_ne n.toNat (by rw [← List.length_eq_zero_iff, ← hll, e]; rfl)
  show ExW K tn ns _ (r20 tn ns (some (famD n ss)) (some (.int n)) (some (lD (colsM n.toNat))) (some (.list (l.map .int))) none none none none none none none none none none) 21 _ _
  refine xw_seqP (E := E0) (xs_asg (ev_cb (ea_cons (ev_var rfl) ea_nil) (ca_min (minM_mem hne) (fun x hx => minM_le hx)))) ?_
  rw [hlm]
  show ExW K tn ns _ (r20 tn ns (some (famD n ss)) (some (.int n)) (some (lD (colsM n.toNat))) (some (.list (l.map .int))) none (some (.int (leastM n ss))) none none none none none none none none) 21 _ _
  refine xw_no (E := E0) (ne_false (ev_call (ea_cons (ev_var rfl) ea_nil) ⟨rfl, famD n ss, [], rfl, .inr ⟨n, ss, hF, rfl, rfl, rfl⟩⟩) (ev_var rfl) (sh_int (n := 1)) (by omega)) ?_
  refine xw_seqP (E := E0) (xs_asg (d := tD (bestM n ss)) (ev_call (ea_cons (ev_var rfl) ea_nil) ⟨rfl, famD n ss, [], rfl, .inr ⟨n, ss, hF, rfl, rfl, rfl⟩⟩)) ?_
  show ExW K tn ns _ (r20 tn ns (some (famD n ss)) (some (.int n)) (some (lD (colsM n.toNat))) (some (.list (l.map .int))) none (some (.int (leastM n ss))) (some (tD (bestM n ss))) none none none none none none none) 21 _ _
  have hb : EvD K (tCB (rTupleOf K) (tCons (tLc (iRng1 (tCons (tCB (rLenU K) (tCons (tVar 4) tNil)) tNil)) (gName 9) (tTest (tOp (rEqD K) (tOp (rIx K) (tVar 5) (tVar 9)) (tVar 7))) (tOp (rIx K) (tVar 4) (tVar 9)) [9]) tNil)) (r20 tn ns (some (famD n ss)) (some (.int n)) (some (lD (colsM n.toNat))) (some (.list (l.map .int))) none (some (.int (leastM n ss))) (some (tD (bestM n ss))) none none none none none none none) (tD (bestM n ss)) := by
    have h := ev_tupLcF (K := K) (ρ := r20 tn ns (some (famD n ss)) (some (.int n)) (some (lD (colsM n.toNat))) (some (.list (l.map .int))) none (some (.int (leastM n ss))) (some (tD (bestM n ss))) none none none none none none none) (wi := iRng1 (tCons (tCB (rLenU K) (tCons (tVar 4) tNil)) tNil)) (j := 9) (vs := [9]) (tt := tTest (tOp (rEqD K) (tOp (rIx K) (tVar 5) (tVar 9)) (tVar 7))) (te := tOp (rIx K) (tVar 4) (tVar 9)) (List.range (colsM n.toNat).length) (fun i => .int (0 + (i : Int))) (fun i => decide (unevM ss ((colsM n.toNat).getD i []) = leastM n ss)) (fun i => tI ((colsM n.toNat).getD i [])) (by
        have := it_rng1 (K := K) (ρ := r20 tn ns (some (famD n ss)) (some (.int n)) (some (lD (colsM n.toNat))) (some (.list (l.map .int))) none (some (.int (leastM n ss))) (some (tD (bestM n ss))) none none none none none none none) (ev_cb (ea_cons (ev_var (i := 4) (d := lD (colsM n.toNat)) rfl) ea_nil) ca_lenL) (by rw [List.length_map]; omega)
        rw [List.length_map, Int.toNat_natCast] at this
        exact this) (by simp; omega) (by simp)
      (fun i hi => by
        have hi' := List.mem_range.mp hi
        refine et_to (et_test (ev_op (ev_op (ev_var (d := .list (l.map .int)) rfl) (ev_var (d := .int (0 + (i : Int))) rfl) (od_ixL (d := .int (unevM ss ((colsM n.toNat).getD i []))) (atI_of (by omega) ?_))) (ev_var rfl) (od_eq (sh_int (n := 1)) (sh_int (n := 1))))) (by rw [eqv_int])
        have e : (0 + (i : Int)).toNat = i := by omega
        rw [e, List.getElem?_map, ← hl, List.getElem?_map, List.getD_eq_getElem?_getD, List.getElem?_eq_getElem hi']
        rfl)
      (fun i hi _ => by
        have hi' := List.mem_range.mp hi
        refine ev_op (ev_var (d := lD (colsM n.toNat)) rfl) (ev_var (d := .int (0 + (i : Int))) rfl) (od_ixL (atI_of (by omega) ?_))
        have e : (0 + (i : Int)).toNat = i := by omega
        rw [e, List.getElem?_map, List.getD_eq_getElem?_getD, List.getElem?_eq_getElem hi']
        rfl)
    have e := pick_filter ([] : List Int) (fun c => decide (unevM ss c = leastM n ss)) (colsM n.toNat)
    have e2 : ∀ L : List Nat, L.map (fun i => tI ((colsM n.toNat).getD i [])) = (L.map (fun i => (colsM n.toNat).getD i [])).map tI := fun L => by rw [List.map_map]; rfl
    rw [e2, e] at h
    exact h
  refine xw_no (E := E0) (ne_false (ev_var rfl) hb (sh_tD (n := 1)) (by omega)) ?_
  refine ExW.mono (xw_seq (n := 21) (m := 0) (Pm := fun _ => False) (Pn := fun ρ' => ∃ c tu op, ColOk n c ∧ ρ' = r20 tn ns (some (famD n ss)) (some (.int n)) (some (lD (colsM n.toNat))) (some (.list (l.map .int))) (some (tI c)) (some (.int (leastM n ss))) (some (tD (bestM n ss))) none tu op none none none none) ?_ (fun ρ' h => ?_)) (by omega) (fun _ h => h) (fun _ h => h)
  · refine ExW.mono (xw_for (n := 7) (List.range 3) (fun i => .int (0 + (i : Int))) (fun i ρ' => ∃ hu tu op, (i = 0 ∨ ∃ c, ColOk n c ∧ hu = some (tI c)) ∧ ρ' = r20 tn ns (some (famD n ss)) (some (.int n)) (some (lD (colsM n.toNat))) (some (.list (l.map .int))) hu (some (.int (leastM n ss))) (some (tD (bestM n ss))) none tu op none none none none) (fun i ρ' => ρ'.set 10 (some (.int (0 + (i : Int))))) (it_rng1 (n := 3) ev_int (by omega)) ⟨none, none, none, .inl rfl, rfl⟩ (fun i h ρ' _ => tg_name) (fun i h ρ' ⟨hu, tu, op, _, e⟩ => ?_)) (by simp) (fun ρ' ⟨hu, tu, op, h, e⟩ => ?_) (fun _ h => h)
    · subst e
      exact ExW.mono (turn20 hF) (by omega) (fun ρ' ⟨c, op', hc, e⟩ => ⟨_, _, _, .inr ⟨c, hc, rfl⟩, e⟩) (fun _ h => h)
    · rcases h with h | ⟨c, hc, rfl⟩
      · simp at h
      · exact ⟨c, tu, op, hc, e⟩
  · obtain ⟨c, tu, op, hc, rfl⟩ := h
    exact xw_pureR (E := E0) (end20 pl hF hc) rfl
theorem pure_law20 (pl : Plain20) {vs : List V} {H : Hp} {Q : VK} (hs : spLaw K vs H Q E) : t_law K E { nx := fun _ H' => Q .non H', rt := Q } (L2.start ["script", "town", "family", "things", "some", "sizes", "hues", "least", "best", "k", "turn", "opposite", "one", "often", "bads", "bad"] vs) H := by
  obtain ⟨tz, e, h⟩ := main20 (K := K) (E := E) pl
  rw [e]
  exact law_start (m := 14) rfl (by decide) h hs
end
end Lc

set_option Elab.async false
set_option linter.all false
namespace Lc
/-! ### sums over a list of places -/
def sm (I : List Nat) (f : Nat → Int) : Int := (I.map f).sum
theorem sm_nil (f : Nat → Int) : sm [] f = 0 := rfl
theorem sm_cons (i : Nat) (I : List Nat) (f : Nat → Int) : sm (i :: I) f = f i + sm I f := by simp [sm]
theorem sm_congr {I : List Nat} {f g : Nat → Int} (h : ∀ i ∈ I, f i = g i) : sm I f = sm I g := by
  unfold sm
  rw [List.map_congr_left h]
theorem sm_add (I : List Nat) (f g : Nat → Int) : sm I (fun i => f i + g i) = sm I f + sm I g := by
  induction I with
  | nil => rfl
  | cons i I ih => simp only [sm_cons, ih]; omega
theorem sm_mul (I : List Nat) (q : Int) (f : Nat → Int) : sm I (fun i => q * f i) = q * sm I f := by
  induction I with
  | nil => simp [sm_nil]
  | cons i I ih => simp only [sm_cons, ih]; grind
theorem sm_zero {I : List Nat} {f : Nat → Int} (h : ∀ i ∈ I, f i = 0) : sm I f = 0 := by
  induction I with
  | nil => rfl
  | cons i I ih => rw [sm_cons, h i (by simp), ih (fun j hj => h j (by simp [hj]))]; rfl
theorem sm_le {I : List Nat} {f g : Nat → Int} (h : ∀ i ∈ I, f i ≤ g i) : sm I f ≤ sm I g := by
  induction I with
  | nil => exact Int.le_refl _
  | cons i I ih =>
    have h1 := h i (by simp)
    have h2 := ih (fun j hj => h j (by simp [hj]))
    rw [sm_cons, sm_cons]; omega
theorem sm_lt {I : List Nat} {f g : Nat → Int} (h : ∀ i ∈ I, f i ≤ g i) {j : Nat} (hj : j ∈ I) (hs : f j < g j) : sm I f < sm I g := by
  induction I with
  | nil => cases hj
  | cons i I ih =>
    have h1 := h i (by simp)
    have h2 := sm_le (I := I) (fun j hj => h j (by simp [hj]))
    rw [sm_cons, sm_cons]
    rcases List.mem_cons.mp hj with e | e
    · subst e; omega
    · have h3 := ih (fun j hj => h j (by simp [hj])) e
      omega
theorem sm_erase {I : List Nat} {j : Nat} (f : Nat → Int) (hj : j ∈ I) : sm I f = f j + sm (I.erase j) f := by
  induction I with
  | nil => cases hj
  | cons i I ih =>
    by_cases e : i = j
    · subst e; rw [List.erase_cons_head, sm_cons]
    · rw [List.erase_cons_tail (by simpa using e), sm_cons, sm_cons, ih ((List.mem_cons.mp hj).resolve_left (fun z => e z.symm))]
      omega
theorem sm_filter {I : List Nat} {p : Nat → Bool} {f : Nat → Int} (h : ∀ i ∈ I, p i = false → f i = 0) : sm (I.filter p) f = sm I f := by
  induction I with
  | nil => rfl
  | cons i I ih =>
    have h2 := ih (fun j hj => h j (by simp [hj]))
    by_cases hp : p i = true
    · rw [List.filter_cons_of_pos hp, sm_cons, sm_cons, h2]
    · rw [List.filter_cons_of_neg hp, sm_cons, h2, h i (by simp) (by simpa using hp)]; omega
theorem sm_count (I : List Nat) (p : Nat → Bool) : sm I (fun i => if p i = true then 1 else 0) = ((I.filter p).length : Int) := by
  induction I with
  | nil => rfl
  | cons i I ih =>
    by_cases hp : p i = true
    · rw [List.filter_cons_of_pos hp, sm_cons, ih, if_pos hp, List.length_cons]; omega
    · rw [List.filter_cons_of_neg hp, sm_cons, ih, if_neg hp]; omega
theorem sm_one (I : List Nat) (hI : I.Nodup) (x : Nat) (hx : x ∈ I) (f : Nat → Int) : sm I (fun i => (if i = x then 1 else 0) * f i) = f x := by
  induction I with
  | nil => cases hx
  | cons i I ih =>
    rw [sm_cons]
    have hn := List.nodup_cons.mp hI
    by_cases e : i = x
    · subst e
      rw [sm_zero (fun j hj => by
        have : j ≠ i := fun e => hn.1 (e ▸ hj)
        rw [if_neg this]; simp)]
      simp
    · rw [if_neg e, ih hn.2 ((List.mem_cons.mp hx).resolve_left (fun z => e z.symm))]
      simp
/-- fewer equations than unknowns -/
theorem kernel : ∀ (rows : List (Nat → Int)) (I : List Nat), rows.length < I.length → I.Nodup →
    ∃ y : Nat → Int, (∃ i ∈ I, y i ≠ 0) ∧ (∀ i, i ∉ I → y i = 0) ∧ ∀ r ∈ rows, sm I (fun i => r i * y i) = 0 := by
  intro rows
  induction hk : rows.length generalizing rows with
  | zero =>
    intro I hl hn
    cases I with
    | nil => simp at hl
    | cons j J =>
      refine ⟨fun i => if i = j then 1 else 0, ⟨j, by simp, by simp⟩, fun i hi => ?_, fun r hr => ?_⟩
      · show (if i = j then (1 : Int) else 0) = 0
        rw [if_neg]; intro e; subst e; simp at hi
      · rw [List.length_eq_zero_iff] at hk; subst hk; cases hr
  | succ k ih =>
    intro I hl hn
    obtain ⟨r, rs, rfl⟩ : ∃ r rs, rows = r :: rs := by
      cases rows with
      | nil => simp at hk
      | cons r rs => exact ⟨r, rs, rfl⟩
    have hk' : rs.length = k := by simpa using hk
    by_cases hz : ∃ j ∈ I, r j ≠ 0
    · obtain ⟨j, hj, hrj⟩ := hz
      have hlen : (I.erase j).length = I.length - 1 := List.length_erase_of_mem hj
      obtain ⟨y, ⟨i0, hi0, hy0⟩, hoff, hsol⟩ := ih (rs.map fun r' => fun i => r j * r' i - r' j * r i) (by simpa using hk') (I.erase j) (by rw [hlen]; omega) (hn.erase j)
      have hjn : j ∉ I.erase j := fun h => (List.Nodup.mem_erase_iff hn).mp h |>.1 rfl
      refine ⟨fun i => if i = j then - sm (I.erase j) (fun i => r i * y i) else r j * y i, ⟨i0, List.mem_of_mem_erase hi0, ?_⟩, fun i hi => ?_, fun r' hr' => ?_⟩
      · have : i0 ≠ j := fun e => hjn (e ▸ hi0)
        show (if i0 = j then _ else r j * y i0) ≠ 0
        rw [if_neg this]
        exact Int.mul_ne_zero hrj hy0
      · have : i ≠ j := fun e => hi (e ▸ hj)
        show (if i = j then _ else r j * y i) = 0
        rw [if_neg this, hoff i (fun h => hi (List.mem_of_mem_erase h)), Int.mul_zero]
      · rw [sm_erase _ hj]
        have e1 : sm (I.erase j) (fun i => r' i * (if i = j then - sm (I.erase j) (fun i => r i * y i) else r j * y i)) = sm (I.erase j) (fun i => r j * (r' i * y i)) := sm_congr fun i hi => by
          have : i ≠ j := fun e => hjn (e ▸ hi)
          rw [if_neg this]; grind
        rw [e1, sm_mul]
        show r' j * (if j = j then _ else _) + _ = 0
        rw [if_pos rfl]
        rcases List.mem_cons.mp hr' with e | e
        · subst e; grind
        · have h := hsol _ (List.mem_map.mpr ⟨r', e, rfl⟩)
          have e2 : sm (I.erase j) (fun i => (r j * r' i - r' j * r i) * y i) = sm (I.erase j) (fun i => r j * (r' i * y i) + (- r' j) * (r i * y i)) := sm_congr fun i _ => by grind
          rw [e2, sm_add, sm_mul, sm_mul] at h
          grind
    · obtain ⟨y, hy0, hoff, hsol⟩ := ih rs hk' I (by omega) hn
      refine ⟨y, hy0, hoff, fun r' hr' => ?_⟩
      rcases List.mem_cons.mp hr' with e | e
      · subst e
        apply sm_zero
        intro i hi
        have : r' i = 0 := Classical.byContradiction fun h => hz ⟨i, hi, h⟩
        rw [this, Int.zero_mul]
      · exact hsol r' e
/-- the least of some ratios -/
theorem least_ratio {α : Type} (a b : α → Int) : ∀ l : List α, l ≠ [] → (∀ x ∈ l, 0 < b x) → ∃ m ∈ l, ∀ x ∈ l, a m * b x ≤ a x * b m := by
  intro l
  induction l with
  | nil => intro h; exact (h rfl).elim
  | cons x l ih =>
    intro _ hb
    cases l with
    | nil => exact ⟨x, by simp, fun z hz => by rw [List.mem_singleton.mp hz]; exact Int.le_refl _⟩
    | cons y l =>
      obtain ⟨m, hm, hl⟩ := ih (by simp) (fun z hz => hb z (by simp only [List.mem_cons] at hz ⊢; exact .inr hz))
      have hbm := hb m (by simp only [List.mem_cons] at hm ⊢; exact .inr hm)
      have hbx := hb x (by simp)
      by_cases h : a x * b m ≤ a m * b x
      · refine ⟨x, by simp, fun z hz => ?_⟩
        rcases List.mem_cons.mp hz with e | e
        · subst e; exact Int.le_refl _
        · have h2 := hl z e
          have hbz := hb z (by simp only [List.mem_cons] at e ⊢; exact .inr e)
          have h3 : a x * b m * b z ≤ a m * b x * b z := Int.mul_le_mul_of_nonneg_right h (by omega)
          have h4 : a m * b z * b x ≤ a z * b m * b x := Int.mul_le_mul_of_nonneg_right h2 (by omega)
          have h5 : (a x * b z) * b m ≤ (a z * b x) * b m := by grind
          exact Int.le_of_mul_le_mul_right h5 hbm
      · refine ⟨m, by simp only [List.mem_cons] at hm ⊢; exact .inr hm, fun z hz => ?_⟩
        rcases List.mem_cons.mp hz with e | e
        · subst e; omega
        · exact hl z e
end Lc

set_option Elab.async false
set_option linter.all false
namespace Lc
/-! ### Beck and Fiala -/
def chi (s : List Int) (i : Nat) : Int := if (i : Int) ∈ s then 1 else 0
theorem chi_nn (s : List Int) (i : Nat) : 0 ≤ chi s i := by unfold chi; split <;> omega
def setS (n : Nat) (s : List Int) (x : Nat → Int) : Int := sm (List.range n) (fun i => chi s i * x i)
theorem setS_add (n : Nat) (s : List Int) (x y : Nat → Int) : setS n s (fun i => x i + y i) = setS n s x + setS n s y := by
  unfold setS
  rw [← sm_add]
  exact sm_congr fun i _ => by grind
theorem setS_mul (n : Nat) (s : List Int) (q : Int) (x : Nat → Int) : setS n s (fun i => q * x i) = q * setS n s x := by
  unfold setS
  rw [← sm_mul]
  exact sm_congr fun i _ => by grind
theorem setS_le {n : Nat} {s : List Int} {x y : Nat → Int} (h : ∀ i, i < n → x i ≤ y i) : setS n s x ≤ setS n s y :=
  sm_le fun i hi => Int.mul_le_mul_of_nonneg_left (h i (List.mem_range.mp hi)) (chi_nn s i)
def flt (D : Int) (x : Nat → Int) (i : Nat) : Bool := decide (x i ≠ D) && decide (x i ≠ -D)
theorem flt_true {D : Int} {x : Nat → Int} {i : Nat} : flt D x i = true ↔ x i ≠ D ∧ x i ≠ -D := by simp [flt]
theorem flt_false {D : Int} {x : Nat → Int} {i : Nat} : flt D x i = false ↔ x i = D ∨ x i = -D := by
  constructor
  · intro h
    apply Classical.byContradiction
    intro h2
    have := (flt_true (D := D) (x := x) (i := i)).mpr ⟨fun e => h2 (.inl e), fun e => h2 (.inr e)⟩
    rw [h] at this; cases this
  · intro h
    cases hf : flt D x i with
    | false => rfl
    | true =>
      have := flt_true.mp hf
      rcases h with h | h
      · exact (this.1 h).elim
      · exact (this.2 h).elim
def phi (D : Int) (x : Nat → Int) (i : Nat) : Int := if flt D x i = true then 1 else 0
def up (D : Int) (x : Nat → Int) (i : Nat) : Int := if flt D x i = true then D else x i
def dn (D : Int) (x : Nat → Int) (i : Nat) : Int := if flt D x i = true then -D else x i
structure Bf (n : Nat) (ss : List (List Int)) (t D : Int) (x : Nat → Int) : Prop where
  pos : 0 < D
  box : ∀ i, i < n → -D ≤ x i ∧ x i ≤ D
  sets : ∀ s ∈ ss, (t < setS n s (phi D x) ∧ setS n s x = 0) ∨ (setS n s (up D x) < 2 * t * D ∧ -(2 * t * D) < setS n s (dn D x))
theorem bf_small {n : Nat} {s : List Int} {t D : Int} {x : Nat → Int} (hD : 0 < D) (hb : ∀ i, i < n → -D ≤ x i ∧ x i ≤ D) (ht : 1 ≤ t) (h0 : setS n s x = 0) (hf : setS n s (phi D x) ≤ t) : setS n s (up D x) < 2 * t * D ∧ -(2 * t * D) < setS n s (dn D x) := by
  have hp : 0 ≤ setS n s (phi D x) := by
    have := setS_le (n := n) (s := s) (x := fun _ => 0) (y := phi D x) (fun i _ => by unfold phi; split <;> omega)
    have e : setS n s (fun _ => 0) = 0 := sm_zero fun i _ => by simp
    omega
  have h1 : setS n s (up D x) ≤ setS n s (fun i => x i + (2 * D - 1) * phi D x i) := setS_le fun i hi => by
    have hbi := hb i hi
    unfold up phi
    cases hf : flt D x i with
    | true => have := flt_true.mp hf; simp; omega
    | false => simp
  have h2 : setS n s (fun i => x i + (-(2 * D - 1)) * phi D x i) ≤ setS n s (dn D x) := setS_le fun i hi => by
    have hbi := hb i hi
    unfold dn phi
    cases hf : flt D x i with
    | true => have := flt_true.mp hf; simp; omega
    | false => simp
  rw [setS_add, setS_mul, h0] at h1 h2
  have h3 : (2 * D - 1) * setS n s (phi D x) ≤ (2 * D - 1) * t := Int.mul_le_mul_of_nonneg_left hf (by omega)
  have h4 : (2 * D - 1) * t = 2 * t * D - t := by grind
  have h5 : -(2 * D - 1) * setS n s (phi D x) = -((2 * D - 1) * setS n s (phi D x)) := by grind
  rw [h5] at h2
  constructor <;> omega
theorem bf_start {n : Nat} {ss : List (List Int)} {t : Int} (ht : 1 ≤ t) : Bf n ss t 1 (fun _ => 0) := by
  refine ⟨by omega, fun i _ => by omega, fun s hs => ?_⟩
  have h0 : setS n s (fun _ => 0) = 0 := sm_zero fun i _ => by simp
  by_cases h : t < setS n s (phi 1 (fun _ => 0))
  · exact .inl ⟨h, h0⟩
  · exact .inr (bf_small (by omega) (fun i _ => by omega) ht h0 (by omega))
theorem sum_swap (I : List Nat) (B : List (List Int)) (f : List Int → Nat → Int) : (B.map fun s => sm I (f s)).sum = sm I (fun i => (B.map fun s => f s i).sum) := by
  induction B with
  | nil =>
    have e : sm I (fun i => (([] : List (List Int)).map fun s => f s i).sum) = 0 := sm_zero fun i _ => rfl
    rw [e]; rfl
  | cons s B ih =>
    rw [List.map_cons, List.sum_cons, ih, ← sm_add]
    exact sm_congr fun i _ => by rw [List.map_cons, List.sum_cons]
theorem deg_sub (B : List (List Int)) (p : List Int → Bool) (i : Nat) : ((B.filter p).map fun s => chi s i).sum ≤ (B.map fun s => chi s i).sum := by
  induction B with
  | nil => exact Int.le_refl _
  | cons s B ih =>
    have := chi_nn s i
    by_cases hp : p s = true
    · rw [List.filter_cons_of_pos hp]; simp only [List.map_cons, List.sum_cons]; omega
    · rw [List.filter_cons_of_neg hp]; simp only [List.map_cons, List.sum_cons]; omega
theorem sum_ge {B : List (List Int)} {f : List Int → Int} {c : Int} (h : ∀ s ∈ B, c ≤ f s) : (B.length : Int) * c ≤ (B.map f).sum := by
  induction B with
  | nil => simp
  | cons s B ih =>
    have h1 := h s (by simp)
    have h2 := ih (fun z hz => h z (by simp [hz]))
    rw [List.map_cons, List.sum_cons, List.length_cons]
    have : ((B.length + 1 : Nat) : Int) * c = (B.length : Int) * c + c := by grind
    omega
theorem sum_mulr (B : List (List Int)) (f : List Int → Int) (c : Int) : (B.map fun s => f s * c).sum = (B.map f).sum * c := by
  induction B with
  | nil => simp
  | cons s B ih => simp only [List.map_cons, List.sum_cons, ih]; grind
/-- a step: one more place is fixed -/
theorem bf_step {n : Nat} {ss : List (List Int)} {t D : Int} {x : Nat → Int} (ht : 1 ≤ t) (hdeg : ∀ i, i < n → (ss.map fun s => chi s i).sum ≤ t) (h : Bf n ss t D x) (hF : ∃ i, i < n ∧ flt D x i = true) :
    ∃ D' x', Bf n ss t D' x' ∧ sm (List.range n) (phi D' x') < sm (List.range n) (phi D x) := by
  obtain ⟨i1, hi1, hf1⟩ := hF
  let F := (List.range n).filter (flt D x)
  let B := ss.filter fun s => decide (t < setS n s (phi D x))
  have hFl : sm (List.range n) (phi D x) = (F.length : Int) := sm_count _ _
  have hF0 : 0 < F.length := List.length_pos_iff.mpr (List.ne_nil_of_mem (List.mem_filter.mpr ⟨List.mem_range.mpr hi1, hf1⟩))
  have hcount : B.length < F.length := by
    have h1 : (B.length : Int) * (t + 1) ≤ (B.map fun s => setS n s (phi D x)).sum := sum_ge fun s hs => by
      have := (List.mem_filter.mp hs).2
      simp at this; omega
    have h2 : (B.map fun s => setS n s (phi D x)).sum = sm (List.range n) (fun i => (B.map fun s => chi s i * phi D x i).sum) := sum_swap _ _ _
    have h3 : sm (List.range n) (fun i => (B.map fun s => chi s i * phi D x i).sum) ≤ sm (List.range n) (fun i => t * phi D x i) := sm_le fun i hi => by
      rw [sum_mulr]
      refine Int.mul_le_mul_of_nonneg_right (Int.le_trans (deg_sub _ _ _) (hdeg i (List.mem_range.mp hi))) ?_
      unfold phi; split <;> omega
    rw [sm_mul, hFl] at h3
    apply Classical.byContradiction
    intro hc
    have h4 : (F.length : Int) ≤ B.length := by omega
    have h5 : (F.length : Int) * (t + 1) ≤ (B.length : Int) * (t + 1) := Int.mul_le_mul_of_nonneg_right h4 (by omega)
    have h6 : (F.length : Int) * (t + 1) = t * (F.length : Int) + F.length := by grind
    omega
  obtain ⟨y, ⟨i2, hi2, hy2⟩, hoff, hker⟩ := kernel (B.map fun s => chi s) F (by simpa using hcount) (List.nodup_range.filter _)
  have hyoff : ∀ i, i < n → flt D x i = false → y i = 0 := fun i hi hf => hoff i (fun hm => by
    have := (List.mem_filter.mp hm).2
    rw [hf] at this; cases this)
  have hyS : ∀ s ∈ B, setS n s y = 0 := fun s hs => by
    have := hker _ (List.mem_map.mpr ⟨s, hs, rfl⟩)
    rw [sm_filter (fun i hi hf => by rw [hyoff i (List.mem_range.mp hi) hf, Int.mul_zero])] at this
    exact this
  have hFm : ∀ i, i ∈ F → i < n ∧ x i ≠ D ∧ x i ≠ -D := fun i hi => ⟨List.mem_range.mp (List.mem_filter.mp hi).1, flt_true.mp (List.mem_filter.mp hi).2⟩
  have hD := h.pos
  obtain ⟨m, hm, hmin⟩ := least_ratio (fun i => if 0 < y i then D - x i else D + x i) (fun i => (y i).natAbs) (F.filter fun i => decide (y i ≠ 0)) (List.ne_nil_of_mem (List.mem_filter.mpr ⟨hi2, by simpa using hy2⟩)) (fun i hi => by
    have := (List.mem_filter.mp hi).2
    simp at this
    omega)
  have hmF := (List.mem_filter.mp hm).1
  have hym : y m ≠ 0 := by simpa using (List.mem_filter.mp hm).2
  have hmn := hFm m hmF
  have hbm := h.box m hmn.1
  let q : Int := (y m).natAbs
  let p : Int := if 0 < y m then D - x m else D + x m
  have hq : 0 < q := by show (0 : Int) < ((y m).natAbs : Int); omega
  have hp : 0 < p := by show 0 < (if 0 < y m then D - x m else D + x m); split <;> omega
  have hqD : 0 < q * D := Int.mul_pos hq hD
  have key : ∀ i, i < n → y i ≠ 0 → p * ((y i).natAbs : Int) ≤ (if 0 < y i then D - x i else D + x i) * q := fun i hi hy => by
    have hfi : flt D x i = true := by
      cases hf : flt D x i with
      | true => rfl
      | false => exact (hy (hyoff i hi hf)).elim
    exact hmin i (List.mem_filter.mpr ⟨List.mem_filter.mpr ⟨List.mem_range.mpr hi, hfi⟩, by simpa using hy⟩)
  have hbox : ∀ i, i < n → -(q * D) ≤ q * x i + p * y i ∧ q * x i + p * y i ≤ q * D := fun i hi => by
    have hbi := h.box i hi
    have l1 : q * x i ≤ q * D := Int.mul_le_mul_of_nonneg_left hbi.2 (by omega)
    have l2 : q * (-D) ≤ q * x i := Int.mul_le_mul_of_nonneg_left hbi.1 (by omega)
    rw [Int.mul_neg] at l2
    rcases Int.lt_trichotomy (y i) 0 with hy | hy | hy
    · have k := key i hi (by omega)
      rw [if_neg (by omega)] at k
      have e : ((y i).natAbs : Int) = - y i := by omega
      rw [e, Int.mul_neg] at k
      have e2 : (D + x i) * q = q * D + q * x i := by grind
      have : p * y i ≤ 0 := Int.mul_nonpos_of_nonneg_of_nonpos (by omega) (by omega)
      omega
    · rw [hy, Int.mul_zero]; omega
    · have k := key i hi (by omega)
      rw [if_pos hy] at k
      have e : ((y i).natAbs : Int) = y i := by omega
      rw [e] at k
      have e2 : (D - x i) * q = q * D - q * x i := by grind
      have : 0 ≤ p * y i := Int.mul_nonneg (by omega) (by omega)
      omega
  have hfix : ∀ i, i < n → flt D x i = false → q * x i + p * y i = q * x i := fun i hi hf => by rw [hyoff i hi hf]; omega
  have hfl' : ∀ i, i < n → flt D x i = false → flt (q * D) (fun i => q * x i + p * y i) i = false := fun i hi hf => flt_false.mpr (by
    show q * x i + p * y i = q * D ∨ q * x i + p * y i = -(q * D)
    rw [hfix i hi hf]
    rcases flt_false.mp hf with e | e
    · exact .inl (by rw [e])
    · exact .inr (by rw [e, Int.mul_neg]))
  have hmm : flt (q * D) (fun i => q * x i + p * y i) m = false := flt_false.mpr (by
    show q * x m + p * y m = q * D ∨ q * x m + p * y m = -(q * D)
    by_cases hy : 0 < y m
    · refine .inl ?_
      have e1 : q = y m := by show ((y m).natAbs : Int) = y m; omega
      have e2 : p = D - x m := if_pos hy
      rw [e1, e2]; grind
    · refine .inr ?_
      have e1 : q = - y m := by show ((y m).natAbs : Int) = - y m; omega
      have e2 : p = D + x m := if_neg hy
      rw [e1, e2]; grind)
  refine ⟨q * D, fun i => q * x i + p * y i, ⟨hqD, hbox, fun s hs => ?_⟩, sm_lt (j := m) (fun i hi => ?_) (List.mem_range.mpr hmn.1) ?_⟩
  · rcases h.sets s hs with ⟨h1, h2⟩ | ⟨h1, h2⟩
    · have hsB : s ∈ B := List.mem_filter.mpr ⟨hs, by simpa using h1⟩
      have e : setS n s (fun i => q * x i + p * y i) = 0 := by
        rw [setS_add n s (fun i => q * x i) (fun i => p * y i), setS_mul, setS_mul, h2, hyS s hsB]; simp
      by_cases hb : t < setS n s (phi (q * D) (fun i => q * x i + p * y i))
      · exact .inl ⟨hb, e⟩
      · exact .inr (bf_small hqD hbox ht e (by omega))
    · refine .inr ?_
      have u : setS n s (up (q * D) (fun i => q * x i + p * y i)) ≤ setS n s (fun i => q * up D x i) := setS_le fun i hi => by
        have hbi := hbox i hi
        cases hf : flt D x i with
        | true =>
          have : up D x i = D := by unfold up; rw [if_pos hf]
          rw [this]
          unfold up
          dsimp only
          split <;> omega
        | false =>
          have e1 : up D x i = x i := by unfold up; rw [if_neg (by rw [hf]; simp)]
          rw [e1]
          unfold up
          rw [if_neg (by rw [hfl' i hi hf]; simp)]
          dsimp only
          rw [hfix i hi hf]
          exact Int.le_refl _
      have d : setS n s (fun i => q * dn D x i) ≤ setS n s (dn (q * D) (fun i => q * x i + p * y i)) := setS_le fun i hi => by
        have hbi := hbox i hi
        cases hf : flt D x i with
        | true =>
          have : dn D x i = -D := by unfold dn; rw [if_pos hf]
          rw [this, Int.mul_neg]
          unfold dn
          dsimp only
          split <;> omega
        | false =>
          have e1 : dn D x i = x i := by unfold dn; rw [if_neg (by rw [hf]; simp)]
          rw [e1]
          unfold dn
          rw [if_neg (by rw [hfl' i hi hf]; simp)]
          dsimp only
          rw [hfix i hi hf]
          exact Int.le_refl _
      rw [setS_mul] at u d
      have u2 : q * setS n s (up D x) < q * (2 * t * D) := Int.mul_lt_mul_of_pos_left h1 hq
      have d2 : q * (-(2 * t * D)) < q * setS n s (dn D x) := Int.mul_lt_mul_of_pos_left h2 hq
      have e : 2 * t * (q * D) = q * (2 * t * D) := by grind
      rw [Int.mul_neg] at d2
      rw [e]
      constructor <;> omega
  · unfold phi
    cases hf : flt D x i with
    | true => split <;> simp
    | false => rw [hfl' i (List.mem_range.mp hi) hf]; simp
  · unfold phi
    rw [hmm, (List.mem_filter.mp hmF).2]
    simp
theorem bf_run {n : Nat} {ss : List (List Int)} {t : Int} (ht : 1 ≤ t) (hdeg : ∀ i, i < n → (ss.map fun s => chi s i).sum ≤ t) : ∀ (k : Nat) (D : Int) (x : Nat → Int), Bf n ss t D x → sm (List.range n) (phi D x) ≤ k → ∃ D' x', Bf n ss t D' x' ∧ ∀ i, i < n → flt D' x' i = false := by
  intro k
  induction k with
  | zero =>
    intro D x h hk
    refine ⟨D, x, h, fun i hi => ?_⟩
    cases hf : flt D x i with
    | false => rfl
    | true =>
      have e : sm (List.range n) (fun _ => 0) = 0 := sm_zero fun i _ => rfl
      have := sm_lt (I := List.range n) (f := fun _ => 0) (g := phi D x) (j := i) (fun j _ => by unfold phi; split <;> omega) (List.mem_range.mpr hi) (by unfold phi; rw [hf]; simp)
      omega
  | succ k ih =>
    intro D x h hk
    by_cases hF : ∃ i, i < n ∧ flt D x i = true
    · obtain ⟨D', x', h', hlt⟩ := bf_step ht hdeg h hF
      exact ih D' x' h' (by omega)
    · refine ⟨D, x, h, fun i hi => ?_⟩
      cases hf : flt D x i with
      | false => rfl
      | true => exact (hF ⟨i, hi, hf⟩).elim
/-- signs with every sum below twice the degree -/
theorem beck_fiala {n : Nat} {ss : List (List Int)} {t : Int} (ht : 1 ≤ t) (hdeg : ∀ i, i < n → (ss.map fun s => chi s i).sum ≤ t) : ∃ c : Nat → Int, (∀ i, i < n → c i = 1 ∨ c i = -1) ∧ ∀ s ∈ ss, -(2 * t) < setS n s c ∧ setS n s c < 2 * t := by
  obtain ⟨D, x, h, hf⟩ := bf_run ht hdeg (sm (List.range n) (phi 1 (fun _ => 0))).toNat 1 (fun _ => 0) (bf_start ht) (by omega)
  have hD := h.pos
  have hx : ∀ i, i < n → x i = D * (if x i = D then 1 else -1) := fun i hi => by
    rcases flt_false.mp (hf i hi) with e | e
    · rw [if_pos e, e]; omega
    · rw [if_neg (by omega), e]; omega
  refine ⟨fun i => if x i = D then 1 else -1, fun i _ => by dsimp only; split <;> simp, fun s hs => ?_⟩
  have hS : setS n s x = D * setS n s (fun i => if x i = D then 1 else -1) := by
    rw [← setS_mul]
    unfold setS
    exact sm_congr fun i hi => by dsimp only; rw [← hx i (List.mem_range.mp hi)]
  have h0 : setS n s (phi D x) = 0 := sm_zero fun i hi => by
    unfold phi
    rw [hf i (List.mem_range.mp hi)]; simp
  have hu : setS n s (up D x) = setS n s x := sm_congr fun i hi => by
    unfold up
    rw [hf i (List.mem_range.mp hi)]; simp
  have hd : setS n s (dn D x) = setS n s x := sm_congr fun i hi => by
    unfold dn
    rw [hf i (List.mem_range.mp hi)]; simp
  rcases h.sets s hs with ⟨h1, _⟩ | ⟨h1, h2⟩
  · omega
  · rw [hu, hS] at h1
    rw [hd, hS] at h2
    have e : 2 * t * D = D * (2 * t) := by grind
    rw [e] at h1 h2
    rw [← Int.mul_neg] at h2
    exact ⟨Int.lt_of_mul_lt_mul_left h2 (by omega), Int.lt_of_mul_lt_mul_left h1 (by omega)⟩
end Lc

set_option Elab.async false
set_option linter.all false
namespace Lc
/-! ### the plain facts of k20 -/
theorem asc_nodup : ∀ {l : List Int}, ascI l = true → (∀ x ∈ l.tail, ∀ y ∈ l.head?, y < x) ∧ l.Nodup
  | [], _ => ⟨by simp, List.nodup_nil⟩
  | [a], _ => ⟨by simp, by simp⟩
  | a :: b :: r, h => by
    have h' : (decide (a < b) && ascI (b :: r)) = true := h
    rw [Bool.and_eq_true, decide_eq_true_eq] at h'
    obtain ⟨h1, h2⟩ := asc_nodup (l := b :: r) h'.2
    have h3 : ∀ x ∈ b :: r, a < x := fun x hx => by
      rcases List.mem_cons.mp hx with e | e
      · omega
      · have := h1 x e b (by simp); omega
    exact ⟨fun x hx y hy => by simp at hy; subst hy; exact h3 x hx, List.nodup_cons.mpr ⟨fun hm => by have := h3 a hm; omega, h2⟩⟩
theorem chi_cons {a : Int} {s : List Int} (ha : a ∉ s) (h0 : 0 ≤ a) (i : Nat) : chi (a :: s) i = (if i = a.toNat then 1 else 0) + chi s i := by
  unfold chi
  by_cases e : (i : Int) = a
  · subst e
    rw [if_pos (by simp), if_neg ha, if_pos (by simp)]; rfl
  · have e2 : i ≠ a.toNat := by omega
    rw [if_neg e2]
    by_cases m : (i : Int) ∈ s
    · rw [if_pos (by simp [m]), if_pos m]; rfl
    · rw [if_neg (by simp [m, e]), if_neg m]; rfl
theorem setS_list {n : Nat} (f : Nat → Int) : ∀ {s : List Int}, s.Nodup → (∀ x ∈ s, 0 ≤ x ∧ x < (n : Int)) → setS n s f = (s.map fun x => f x.toNat).sum
  | [], _, _ => sm_zero fun i _ => by unfold chi; simp
  | a :: s, hn, hb => by
    have hn' := List.nodup_cons.mp hn
    have hba := hb a (by simp)
    have ih := setS_list f hn'.2 (fun x hx => hb x (by simp [hx]))
    rw [List.map_cons, List.sum_cons, ← ih]
    unfold setS
    rw [← sm_one (List.range n) List.nodup_range a.toNat (List.mem_range.mpr (by omega)) f, ← sm_add]
    exact sm_congr fun i _ => by rw [chi_cons hn'.1 hba.1]; grind
theorem sumM_setS {n : Nat} {c s : List Int} (hn : s.Nodup) (hb : ∀ x ∈ s, 0 ≤ x ∧ x < (n : Int)) : sumM c s = setS n s (fun i => c.getD i 0) := (setS_list (fun i => c.getD i 0) hn hb).symm
theorem maxM_lt {b : Int} (h0 : 0 < b) : ∀ {l : List Int}, (∀ x ∈ l, x < b) → maxM l < b
  | [], _ => h0
  | a :: r, h => by
    have h1 := h a (by simp)
    have h2 := maxM_lt h0 (l := r) (fun x hx => h x (by simp [hx]))
    show max a (maxM r) < b
    omega
theorem least_le {n : Int} {ss : List (List Int)} {c : List Int} (hn : 0 ≤ n) (hc : ColOk n c) : leastM n ss ≤ unevM ss c := minM_le (List.mem_map.mpr ⟨c, (col_mem hn).mpr hc, rfl⟩)
theorem least_at {n : Int} {ss : List (List Int)} (hn : 0 ≤ n) : ∃ c, ColOk n c ∧ leastM n ss = unevM ss c := by
  have h : leastM n ss ∈ (colsM n.toNat).map (unevM ss) := minM_mem (fun e => colsM_ne n.toNat (List.map_eq_nil_iff.mp e))
  obtain ⟨c, hc, e⟩ := List.mem_map.mp h
  exact ⟨c, (col_mem hn).mp hc, e.symm⟩
theorem unev_at {ss : List (List Int)} (c : List Int) (h : ss ≠ []) : ∃ s ∈ ss, unevM ss c = ((sumM c s).natAbs : Int) := by
  have h1 : unevM ss c ∈ (sumsM ss c).map fun x => (x.natAbs : Int) := maxM_mem (fun e => h (List.map_eq_nil_iff.mp (List.map_eq_nil_iff.mp e))) (fun x hx => by
    obtain ⟨y, _, rfl⟩ := List.mem_map.mp hx
    omega)
  obtain ⟨x, hx, e⟩ := List.mem_map.mp h1
  obtain ⟨s, hs, e2⟩ := List.mem_map.mp hx
  exact ⟨s, hs, by rw [← e, ← e2]⟩
theorem cnt_chi (ss : List (List Int)) (i : Nat) : (ss.map fun s => chi s i).sum = ((ss.filter fun s => decide ((i : Int) ∈ s)).length : Int) := by
  induction ss with
  | nil => rfl
  | cons s ss ih =>
    rw [List.map_cons, List.sum_cons, ih]
    unfold chi
    by_cases h : (i : Int) ∈ s
    · rw [List.filter_cons_of_pos (by simpa using h), if_pos h, List.length_cons]; omega
    · rw [List.filter_cons_of_neg (by simpa using h), if_neg h]; omega
theorem often_le {n : Int} {ss : List (List Int)} {i : Nat} (hi : i < n.toNat) : (ss.map fun s => chi s i).sum ≤ oftenM n ss := by
  rw [cnt_chi]
  exact maxM_le (List.mem_map.mpr ⟨i, List.mem_range.mpr hi, rfl⟩)
theorem FamOk.ne {n : Int} {ss : List (List Int)} (h : FamOk n ss) : ss ≠ [] := fun e => by have := h.s1; rw [e] at this; simp at this
theorem often_pos {n : Int} {ss : List (List Int)} (hF : FamOk n ss) : 1 ≤ oftenM n ss := by
  obtain ⟨s, hs⟩ : ∃ s, s ∈ ss := List.exists_mem_of_ne_nil _ hF.ne
  obtain ⟨x, hx⟩ : ∃ x, x ∈ s := List.exists_mem_of_ne_nil _ (hF.lots s hs).1
  have hb := (hF.lots s hs).2.1 x hx
  have h := often_le (n := n) (ss := ss) (i := x.toNat) (by omega)
  rw [cnt_chi] at h
  have : 0 < (ss.filter fun s => decide (((x.toNat : Nat) : Int) ∈ s)).length := List.length_pos_iff.mpr (List.ne_nil_of_mem (List.mem_filter.mpr ⟨hs, by
    have e : ((x.toNat : Nat) : Int) = x := by omega
    rw [e]; simpa using hx⟩))
  omega
theorem bf20 {n : Int} {ss : List (List Int)} (hF : FamOk n ss) : leastM n ss < 2 * oftenM n ss := by
  have h1 := hF.n1
  have ht := often_pos hF
  obtain ⟨c, hc, hs⟩ := beck_fiala (n := n.toNat) (ss := ss) ht (fun i hi => often_le hi)
  have hcol : ColOk n ((List.range n.toNat).map c) := ⟨by simp; omega, fun x hx => by
    obtain ⟨i, hi, rfl⟩ := List.mem_map.mp hx
    rcases hc i (List.mem_range.mp hi) with e | e
    · exact .inr e
    · exact .inl e⟩
  refine Int.lt_of_le_of_lt (least_le (by omega) hcol) (maxM_lt (by omega) fun x hx => ?_)
  obtain ⟨y, hy, rfl⟩ := List.mem_map.mp hx
  obtain ⟨s, hss, rfl⟩ := List.mem_map.mp hy
  have hb : ∀ x ∈ s, 0 ≤ x ∧ x < (n.toNat : Int) := fun x hx => by have := (hF.lots s hss).2.1 x hx; omega
  rw [sumM_setS (n := n.toNat) (asc_nodup (hF.lots s hss).2.2).2 hb]
  have e : setS n.toNat s (fun i => ((List.range n.toNat).map c).getD i 0) = setS n.toNat s c := sm_congr fun i hi => by
    have hi' := List.mem_range.mp hi
    dsimp only
    rw [List.getD_eq_getElem?_getD, List.getElem?_map, List.getElem?_range hi']
    rfl
  rw [e]
  have := hs s hss
  omega
theorem sum_par (c : List Int) : ∀ s : List Int, (∀ x ∈ s, c.getD x.toNat 0 = 1 ∨ c.getD x.toNat 0 = -1) → (sumM c s - s.length) % 2 = 0
  | [], _ => rfl
  | a :: s, h => by
    have ih := sum_par c s (fun x hx => h x (by simp [hx]))
    have e : sumM c (a :: s) = c.getD a.toNat 0 + sumM c s := by simp [sumM]
    rw [e, List.length_cons]
    rcases h a (by simp) with e | e <;> rw [e] <;> omega
theorem col_get {n : Int} {c : List Int} (hc : ColOk n c) {x : Int} (h0 : 0 ≤ x) (h1 : x < n) : c.getD x.toNat 0 = 1 ∨ c.getD x.toNat 0 = -1 := by
  have hl : x.toNat < c.length := by have := hc.1; omega
  rw [List.getD_eq_getElem?_getD, List.getElem?_eq_getElem hl]
  rcases hc.2 _ (List.getElem_mem hl) with e | e
  · exact .inr e
  · exact .inl e
theorem par20 {n : Int} {ss : List (List Int)} (hF : FamOk n ss) : leastM n ss % 2 = 0 ∨ ∃ s ∈ ss, s.length % 2 = 1 := by
  have h1 := hF.n1
  obtain ⟨c, hc, e⟩ := least_at (ss := ss) (by omega : 0 ≤ n)
  obtain ⟨s, hs, e2⟩ := unev_at c hF.ne
  have hp := sum_par c s (fun x hx => by have := (hF.lots s hs).2.1 x hx; exact col_get hc this.1 this.2)
  by_cases ho : s.length % 2 = 1
  · exact .inr ⟨s, hs, ho⟩
  · left; rw [e, e2]; omega
theorem plain20 : Plain20 := ⟨fun _ _ h => bf20 h, fun _ _ h => par20 h⟩
end Lc

set_option maxHeartbeats 0
namespace Lc
open PySem L2 PySem.Spec PyProof.Rows
def top (i : Nat) : Stmt := PySem.Challenge.pw_lotcolours_k20_whole_colours.main.body.getD i (.Pass ⟨0, 0, 0, 0⟩)
abbrev s_law_all : Stmt := top 26
theorem sc_law_all : FnScope ["things", "choices", "rows", "turn", "longer", "row", "one"] ["things", "choices"] (defScope s_law_all) := ⟨rfl, rfl, rfl, by decide +kernel, rfl, by decide +kernel, by decide +kernel⟩
theorem d_law_all {P : Program} {w : World} {K : PySem.W.Frag} {mg : Str → Option Value} {base : Heap} (T : Bl mg)  (f : Addr) (cdv : Value) (A : Around) (outer : List Env) (s : Shared) (H : Hp) (E : XK) (hr : Room 0 (A.deeper (envOfC "_law_all" (defScope s_law_all) s.heap.objs.size f cdv))) :
  PSs (cxOf (L2.CX P w) P w K mg base ["things", "choices", "rows", "turn", "longer", "row", "one"] "_law_all" (defScope s_law_all) f cdv A outer s H E).nox (defBody s_law_all) (t_law_all K E) :=
  (pss_cons (ps_set (i := 2) sc_law_all.nd rfl (by first | exact Or.inl rfl | exact Or.inr rfl) (pe_lst (pa_cons (pe_tup pa_nil) pa_nil)))
  (pss_cons (ps_for PassesOwn.never rfl (pi_range1 (by rfl) T.b_range (pa_cons (pv 0) pa_nil)) (pg_name (i := 3) sc_law_all.nd rfl (by first | exact Or.inl rfl | exact Or.inr rfl)) (pss_cons (ps_set (i := 4) sc_law_all.nd rfl (by first | exact Or.inl rfl | exact Or.inr rfl) (pe_lst pa_nil))
  (pss_cons (ps_for PassesOwn.never rfl (pi_seq (pv 2)) (pg_name (i := 5) sc_law_all.nd rfl (by first | exact Or.inl rfl | exact Or.inr rfl)) (pss_one (ps_set (i := 4) sc_law_all.nd rfl (by first | exact Or.inl rfl | exact Or.inr rfl) (pe_op op_addU (pv 4) (pe_lc (own := [("one", 6)]) (by rfl) sc_law_all.nd (pi_seq (pv 1)) (blkOk_by (own := [("one", 6)]) (by kernel_rfl)) (fun _ _ _ _ _ => (pg_name (i := 6) sc_law_all.nd rfl (by first | exact Or.inl rfl | exact Or.inr rfl))) (fun _ _ _ _ _ => pts_nil) (fun _ _ _ _ _ => (pe_op op_addU (pv 5) (pe_tup (pa_cons (pv 6) pa_nil)))))))))
  (pss_one (ps_set (i := 2) sc_law_all.nd rfl (by first | exact Or.inl rfl | exact Or.inr rfl) (pv 4))))))
  (pss_one (ps_ret (pv 2)))))
theorem o_law_all {P : Program} {w : World} {K : PySem.W.Frag} {mg : Str → Option Value} {base : Heap} {f : Addr} {fd : FuncData} (T : Bl mg)  (F : FunD K "_law_all" "_law_all" (defArgs s_law_all) (defBody s_law_all) (defScope s_law_all) [] [] f fd) : FnOk P w K mg base (L2.CX P w) 1 f fd ["things", "choices"] (sp_law_all K) :=
  F.ok sc_law_all (fun vs H Q E h => spD_len (k := 2) (fun ds o h => by first | exact h.1 | (obtain ⟨_, rfl, _⟩ := h; rfl) | (obtain ⟨_, _, rfl, _⟩ := h; rfl) | (obtain ⟨_, _, _, rfl, _⟩ := h; rfl) | (obtain ⟨_, _, _, _, rfl, _⟩ := h; rfl) | (obtain ⟨_, _, _, _, _, rfl, _⟩ := h; rfl) | (obtain ⟨_, _, _, _, _, _, rfl, _⟩ := h; rfl) | (obtain ⟨_, _, _, _, _, _, _, rfl, _⟩ := h; rfl)) h) (fun cdv A outer s H vs Q E hr h => ⟨t_law_all K E, PSs.nox (d_law_all T  f cdv A outer s H E hr), pure_law_all h⟩)
theorem ok_law_all {P : Program} {w : World} {K : PySem.W.Frag} {mg : Str → Option Value} {base : Heap} {f : Addr} {fd : FuncData} (T : Bl mg)  (F : FunD K "_law_all" "_law_all" (defArgs s_law_all) (defBody s_law_all) (defScope s_law_all) [] [] f fd) (g : mg "_law_all" = some (.ref f)) : FnAt P w K mg base 1 "_law_all" ["things", "choices"] (sp_law_all K) :=
  ⟨f, fd, o_law_all T  F, g, F.kp, F.bindsN fun _ _ _ _ _ _ us hl => match us, hl with | [_, _], _ => rfl⟩
abbrev s_law_draw : Stmt := top 24
theorem sc_law_draw : FnScope ["script", "town", "limit", "at", "left", "number"] ["script", "town", "limit"] (defScope s_law_draw) := ⟨rfl, rfl, rfl, by decide +kernel, rfl, by decide +kernel, by decide +kernel⟩
theorem d_law_draw {P : Program} {w : World} {K : PySem.W.Frag} {mg : Str → Option Value} {base : Heap} (T : Bl mg)  (f : Addr) (cdv : Value) (A : Around) (outer : List Env) (s : Shared) (H : Hp) (E : XK) (hr : Room 0 (A.deeper (envOfC "_law_draw" (defScope s_law_draw) s.heap.objs.size f cdv))) :
  PSs (cxOf (L2.CX P w) P w K mg base ["script", "town", "limit", "at", "left", "number"] "_law_draw" (defScope s_law_draw) f cdv A outer s H E).nox (defBody s_law_draw) (t_law_draw K E) :=
  (pss_cons (ps_asg (pe_op op_addU (pe_ix ix_seq (pv 1) pe_int (fun _ _ => rfl)) pe_int) (pg_sub (pv 1) pe_int set_list))
  (pss_cons (ps_if (pt_cmpR (op_eqD hr.units) (pv 0) (pe_lst pa_nil) (nomark _)) (pss_one (ps_ret (pe_op op_mod (pe_op op_divU (pe_op op_mulU (pe_op op_mulU (pe_ix ix_seq (pv 1) pe_int (fun _ _ => rfl)) (pe_ix ix_seq (pv 1) pe_int (fun _ _ => rfl))) pe_int) pe_int) (pv 2)))) pss_nil)
  (pss_cons (ps_set (i := 3) sc_law_draw.nd rfl (by first | exact Or.inl rfl | exact Or.inr rfl) (pe_op op_mod (pe_ix ix_seq (pv 1) pe_int (fun _ _ => rfl)) (pe_callB cr_lenU (by rfl) T.b_len (by decide +kernel) (pa_cons (pv 0) pa_nil))))
  (pss_cons (ps_set (i := 4) sc_law_draw.nd rfl (by first | exact Or.inl rfl | exact Or.inr rfl) (pe_ix ix_seq (pv 1) (pe_op op_addU pe_int (pv 3)) (fun _ _ => rfl)))
  (pss_cons (ps_if (PW.pt (pw_and (pt_cmpR op_ge (pe_ix ix_seq (pv 0) (pv 3) (fun _ _ => rfl)) (pe_op op_pow pe_int pe_int) (nomark _)) (pw_and1 (pt_cmpR op_gt (pv 4) pe_int (nomark _))))) (pss_cons (ps_asg (pe_op op_divU (pv 4) (pv 2)) (pg_sub (pv 1) (pe_op op_addU pe_int (pv 3)) set_list))
  (pss_one (ps_ret (pe_op op_mod (pv 4) (pv 2))))) pss_nil)
  (pss_cons (ps_set (i := 5) sc_law_draw.nd rfl (by first | exact Or.inl rfl | exact Or.inr rfl) (pe_op op_mod (pe_op op_addU (pe_ix ix_seq (pv 0) (pv 3) (fun _ _ => rfl)) (pe_op op_mulU pe_int (pe_ix ix_seq (pv 1) pe_int (fun _ _ => rfl)))) pe_int))
  (pss_cons (ps_set (i := 5) sc_law_draw.nd rfl (by first | exact Or.inl rfl | exact Or.inr rfl) (pe_op op_mod (pe_op op_pow (pv 5) pe_int) pe_int))
  (pss_one (ps_ret (pe_op op_mod (pe_op op_divU (pe_op op_mod (pe_op op_addU (pe_op op_mulU (pe_op op_divU (pv 5) pe_int) pe_int) (pv 5)) pe_int) pe_int) (pv 2)))))))))))
theorem o_law_draw {P : Program} {w : World} {K : PySem.W.Frag} {mg : Str → Option Value} {base : Heap} {f : Addr} {fd : FuncData} (T : Bl mg)  (F : FunD K "_law_draw" "_law_draw" (defArgs s_law_draw) (defBody s_law_draw) (defScope s_law_draw) [] [] f fd) : FnOk P w K mg base (L2.CX P w) 1 f fd ["script", "town", "limit"] (sp_law_draw K) :=
  F.ok sc_law_draw (fun vs H Q E h => spT_len (E := E) (k := 1) (fun ds h => by obtain ⟨_, rfl, _⟩ := h; rfl) h) (fun cdv A outer s H vs Q E hr h => ⟨t_law_draw K E, PSs.nox (d_law_draw T  f cdv A outer s H E hr), pure_law_draw h⟩)
theorem ok_law_draw {P : Program} {w : World} {K : PySem.W.Frag} {mg : Str → Option Value} {base : Heap} {f : Addr} {fd : FuncData} (T : Bl mg)  (F : FunD K "_law_draw" "_law_draw" (defArgs s_law_draw) (defBody s_law_draw) (defScope s_law_draw) [] [] f fd) (g : mg "_law_draw" = some (.ref f)) : FnAt P w K mg base 1 "_law_draw" ["script", "town", "limit"] (sp_law_draw K) :=
  ⟨f, fd, o_law_draw T  F, g, F.kp, F.bindsN fun _ _ _ _ _ _ us hl => match us, hl with | [_, _, _], _ => rfl⟩
abbrev s_law_family : Stmt := top 25
theorem sc_law_family : FnScope ["script", "town", "most", "things", "found", "often", "is_paired", "turn", "k", "one"] ["script", "town", "most"] (defScope s_law_family) := ⟨rfl, rfl, rfl, by decide +kernel, rfl, by decide +kernel, by decide +kernel⟩
theorem d_law_family {P : Program} {w : World} {K : PySem.W.Frag} {mg : Str → Option Value} {base : Heap} (T : Bl mg) (c_law_draw : FnAt P w K mg base 1 "_law_draw" ["script", "town", "limit"] (sp_law_draw K)) (f : Addr) (cdv : Value) (A : Around) (outer : List Env) (s : Shared) (H : Hp) (E : XK) (hr : Room 1 (A.deeper (envOfC "_law_family" (defScope s_law_family) s.heap.objs.size f cdv))) :
  PSs (cxOf (L2.CX P w) P w K mg base ["script", "town", "most", "things", "found", "often", "is_paired", "turn", "k", "one"] "_law_family" (defScope s_law_family) f cdv A outer s H E).nox (defBody s_law_family) (t_law_family K E) :=
  (pss_cons (ps_par (by rfl) sc_law_family.nd rfl rfl (by decide) rfl rfl (pa_cons (pe_op op_addU pe_int (pe_callF c_law_draw (hr.mono (by decide)) (by rfl) passL (pa_cons (pv 0) (pa_cons (pv 1) (pa_cons (pv 2) pa_nil))))) (pa_cons (pe_lst pa_nil) pa_nil)) (by rfl))
  (pss_cons (ps_asg (pe_tup (pa_cons (pe_op op_addU pe_int (pe_callF c_law_draw (hr.mono (by decide)) (by rfl) passL (pa_cons (pv 0) (pa_cons (pv 1) (pa_cons pe_int pa_nil))))) (pa_cons (pe_and (pe_cmpR op_gt (pv 3) pe_int (nomark _)) (pe_one (pe_cmpR (op_eqD hr.units) (pe_callF c_law_draw (hr.mono (by decide)) (by rfl) passL (pa_cons (pv 0) (pa_cons (pv 1) (pa_cons pe_int pa_nil)))) pe_int (nomark _)))) pa_nil))) (pg_tup rfl (pgs_cons (pg_name (i := 5) sc_law_family.nd rfl (by first | exact Or.inl rfl | exact Or.inr rfl)) (pgs_cons (pg_name (i := 6) sc_law_family.nd rfl (by first | exact Or.inl rfl | exact Or.inr rfl)) pgs_nil))))
  (pss_cons (ps_for PassesOwn.never rfl (pi_range1 (by rfl) T.b_range (pa_cons (pe_op op_addU pe_int (pe_callF c_law_draw (hr.mono (by decide)) (by rfl) passL (pa_cons (pv 0) (pa_cons (pv 1) (pa_cons pe_int pa_nil))))) pa_nil)) (pg_name (i := 7) sc_law_family.nd rfl (by first | exact Or.inl rfl | exact Or.inr rfl)) (pss_cons (ps_if (pt_val (pv 6)) (pss_cons (ps_set (i := 8) sc_law_family.nd rfl (by first | exact Or.inl rfl | exact Or.inr rfl) (pe_callF c_law_draw (hr.mono (by decide)) (by rfl) passL (pa_cons (pv 0) (pa_cons (pv 1) (pa_cons (pv 3) pa_nil)))))
  (pss_one (ps_set (i := 9) sc_law_family.nd rfl (by first | exact Or.inl rfl | exact Or.inr rfl) (pe_callB (cr_sortD (units70 hr)) (by rfl) T.b_sorted (by decide +kernel) (pa_cons (pe_lst (pa_cons (pv 8) (pa_cons (pe_op op_mod (pe_op op_addU (pe_op op_addU (pv 8) pe_int) (pe_callF c_law_draw (hr.mono (by decide)) (by rfl) passL (pa_cons (pv 0) (pa_cons (pv 1) (pa_cons pe_int pa_nil))))) (pv 3)) pa_nil))) pa_nil))))) (pss_one (ps_setLc (i := 9) (own := [("k", 8)]) (by rfl) sc_law_family.nd rfl rfl (sw_true rfl rfl rfl (by decide +kernel)) (pi_range1 (by rfl) T.b_range (pa_cons (pv 3) pa_nil)) (blkOk_by (own := [("k", 8)]) (by kernel_rfl)) (fun _ _ _ _ _ => (pg_name (i := 8) sc_law_family.nd rfl (by first | exact Or.inl rfl | exact Or.inr rfl))) (fun _ _ _ _ _ => (pts_one (pt_cmpR (op_ltU hr.units0) (pe_callF c_law_draw (hr.mono (by decide)) (by rfl) passL (pa_cons (pv 0) (pa_cons (pv 1) (pa_cons pe_int pa_nil)))) (pv 5) (nomark _)))) (fun _ _ _ _ _ => (pv 8)))))
  (pss_cons (ps_set (i := 9) sc_law_family.nd rfl (by first | exact Or.inl rfl | exact Or.inr rfl) (pe_callTy cr_tupleOf (by rfl) T.b_tuple (by decide +kernel) (pa_cons (pe_ifExp (pt_cmpR (op_neD hr.units) (pv 9) (pe_lst pa_nil) (nomark _)) (pv 9) (pe_lst (pa_cons (pe_callF c_law_draw (hr.mono (by decide)) (by rfl) passL (pa_cons (pv 0) (pa_cons (pv 1) (pa_cons (pv 3) pa_nil)))) pa_nil))) pa_nil)))
  (pss_one (ps_set (i := 4) sc_law_family.nd rfl (by first | exact Or.inl rfl | exact Or.inr rfl) (pe_op op_addU (pv 4) (pe_ifExp (pt_cmpR (op_notInU (units65 hr)) (pv 9) (pv 4) (by rfl)) (pe_lst (pa_cons (pv 9) pa_nil)) (pe_lst pa_nil))))))))
  (pss_one (ps_ret (pe_tup (pa_cons (pv 3) (pa_cons (pe_callTy cr_tupleOf (by rfl) T.b_tuple (by decide +kernel) (pa_cons (pe_callB (cr_sortD (units70 hr)) (by rfl) T.b_sorted (by decide +kernel) (pa_cons (pv 4) pa_nil)) pa_nil)) pa_nil))))))))
theorem o_law_family {P : Program} {w : World} {K : PySem.W.Frag} {mg : Str → Option Value} {base : Heap} {f : Addr} {fd : FuncData} (T : Bl mg) (c_law_draw : FnAt P w K mg base 1 "_law_draw" ["script", "town", "limit"] (sp_law_draw K)) (F : FunD K "_law_family" "_law_family" (defArgs s_law_family) (defBody s_law_family) (defScope s_law_family) [] [] f fd) : FnOk P w K mg base (L2.CX P w) 2 f fd ["script", "town", "most"] (sp_law_family K) :=
  F.ok sc_law_family (fun vs H Q E h => spT_len (E := E) (k := 1) (fun ds h => by obtain ⟨_, rfl, _⟩ := h; rfl) h) (fun cdv A outer s H vs Q E hr h => ⟨t_law_family K E, PSs.nox (d_law_family T c_law_draw f cdv A outer s H E hr), pure_law_family h⟩)
theorem ok_law_family {P : Program} {w : World} {K : PySem.W.Frag} {mg : Str → Option Value} {base : Heap} {f : Addr} {fd : FuncData} (T : Bl mg) (c_law_draw : FnAt P w K mg base 1 "_law_draw" ["script", "town", "limit"] (sp_law_draw K)) (F : FunD K "_law_family" "_law_family" (defArgs s_law_family) (defBody s_law_family) (defScope s_law_family) [] [] f fd) (g : mg "_law_family" = some (.ref f)) : FnAt P w K mg base 2 "_law_family" ["script", "town", "most"] (sp_law_family K) :=
  ⟨f, fd, o_law_family T c_law_draw F, g, F.kp, F.bindsN fun _ _ _ _ _ _ us hl => match us, hl with | [_, _, _], _ => rfl⟩
abbrev s_law_hues : Stmt := top 29
theorem sc_law_hues : FnScope ["script", "town", "things", "k"] ["script", "town", "things"] (defScope s_law_hues) := ⟨rfl, rfl, rfl, by decide +kernel, rfl, by decide +kernel, by decide +kernel⟩
theorem d_law_hues {P : Program} {w : World} {K : PySem.W.Frag} {mg : Str → Option Value} {base : Heap} (T : Bl mg) (c_law_draw : FnAt P w K mg base 1 "_law_draw" ["script", "town", "limit"] (sp_law_draw K)) (f : Addr) (cdv : Value) (A : Around) (outer : List Env) (s : Shared) (H : Hp) (E : XK) (hr : Room 1 (A.deeper (envOfC "_law_hues" (defScope s_law_hues) s.heap.objs.size f cdv))) :
  PSs (cxOf (L2.CX P w) P w K mg base ["script", "town", "things", "k"] "_law_hues" (defScope s_law_hues) f cdv A outer s H E).nox (defBody s_law_hues) (t_law_hues K E) :=
  (pss_one (ps_ret (pe_callTy cr_tupleOf (by rfl) T.b_tuple (by decide +kernel) (pa_cons (pe_lc (own := [("k", 3)]) (by rfl) sc_law_hues.nd (pi_range1 (by rfl) T.b_range (pa_cons (pv 2) pa_nil)) (blkOk_by (own := [("k", 3)]) (by kernel_rfl)) (fun _ _ _ _ _ => (pg_name (i := 3) sc_law_hues.nd rfl (by first | exact Or.inl rfl | exact Or.inr rfl))) (fun _ _ _ _ _ => pts_nil) (fun _ _ _ _ _ => (pe_op op_sub (pe_op op_mulU pe_int (pe_callF c_law_draw (hr.mono (by decide)) (by rfl) passL (pa_cons (pv 0) (pa_cons (pv 1) (pa_cons pe_int pa_nil))))) pe_int))) pa_nil))))
theorem o_law_hues {P : Program} {w : World} {K : PySem.W.Frag} {mg : Str → Option Value} {base : Heap} {f : Addr} {fd : FuncData} (T : Bl mg) (c_law_draw : FnAt P w K mg base 1 "_law_draw" ["script", "town", "limit"] (sp_law_draw K)) (F : FunD K "_law_hues" "_law_hues" (defArgs s_law_hues) (defBody s_law_hues) (defScope s_law_hues) [] [] f fd) : FnOk P w K mg base (L2.CX P w) 2 f fd ["script", "town", "things"] (sp_law_hues K) :=
  F.ok sc_law_hues (fun vs H Q E h => spT_len (E := E) (k := 1) (fun ds h => by obtain ⟨_, rfl, _⟩ := h; rfl) h) (fun cdv A outer s H vs Q E hr h => ⟨t_law_hues K E, PSs.nox (d_law_hues T c_law_draw f cdv A outer s H E hr), pure_law_hues h⟩)
theorem ok_law_hues {P : Program} {w : World} {K : PySem.W.Frag} {mg : Str → Option Value} {base : Heap} {f : Addr} {fd : FuncData} (T : Bl mg) (c_law_draw : FnAt P w K mg base 1 "_law_draw" ["script", "town", "limit"] (sp_law_draw K)) (F : FunD K "_law_hues" "_law_hues" (defArgs s_law_hues) (defBody s_law_hues) (defScope s_law_hues) [] [] f fd) (g : mg "_law_hues" = some (.ref f)) : FnAt P w K mg base 2 "_law_hues" ["script", "town", "things"] (sp_law_hues K) :=
  ⟨f, fd, o_law_hues T c_law_draw F, g, F.kp, F.bindsN fun _ _ _ _ _ _ us hl => match us, hl with | [_, _, _], _ => rfl⟩
abbrev s_law_sums : Stmt := top 27
theorem sc_law_sums : FnScope ["family", "hues", "k", "one"] ["family", "hues"] (defScope s_law_sums) := ⟨rfl, rfl, rfl, by decide +kernel, rfl, by decide +kernel, by decide +kernel⟩
theorem d_law_sums {P : Program} {w : World} {K : PySem.W.Frag} {mg : Str → Option Value} {base : Heap} (T : Bl mg)  (f : Addr) (cdv : Value) (A : Around) (outer : List Env) (s : Shared) (H : Hp) (E : XK) (hr : Room 0 (A.deeper (envOfC "_law_sums" (defScope s_law_sums) s.heap.objs.size f cdv))) :
  PSs (cxOf (L2.CX P w) P w K mg base ["family", "hues", "k", "one"] "_law_sums" (defScope s_law_sums) f cdv A outer s H E).nox (defBody s_law_sums) (t_law_sums K E) :=
  (pss_one (ps_ret (pe_callTy cr_tupleOf (by rfl) T.b_tuple (by decide +kernel) (pa_cons (pe_lc (own := [("one", 3)]) (by rfl) sc_law_sums.nd (pi_seq (pe_ix ix_seq (pv 0) pe_int (fun _ _ => rfl))) (blkOk_by (own := [("one", 3)]) (by kernel_rfl)) (fun _ _ _ _ _ => (pg_name (i := 3) sc_law_sums.nd rfl (by first | exact Or.inl rfl | exact Or.inr rfl))) (fun _ _ _ _ _ => pts_nil) (fun _ _ _ _ _ => (pe_callB (cr_sum rfl) (by rfl) T.b_sum (by decide +kernel) (pa_cons (pe_lc (own := [("k", 2)]) (by rfl) sc_law_sums.nd (pi_seq (pv 3)) (blkOk_by (own := [("k", 2)]) (by kernel_rfl)) (fun _ _ _ _ _ => (pg_name (i := 2) sc_law_sums.nd rfl (by first | exact Or.inl rfl | exact Or.inr rfl))) (fun _ _ _ _ _ => pts_nil) (fun _ _ _ _ _ => (pe_ix ix_seq (pv 1) (pv 2) (fun _ _ => rfl)))) pa_nil)))) pa_nil))))
theorem o_law_sums {P : Program} {w : World} {K : PySem.W.Frag} {mg : Str → Option Value} {base : Heap} {f : Addr} {fd : FuncData} (T : Bl mg)  (F : FunD K "_law_sums" "_law_sums" (defArgs s_law_sums) (defBody s_law_sums) (defScope s_law_sums) [] [] f fd) : FnOk P w K mg base (L2.CX P w) 1 f fd ["family", "hues"] (sp_law_sums K) :=
  F.ok sc_law_sums (fun vs H Q E h => spD_len (k := 2) (fun ds o h => by first | exact h.1 | (obtain ⟨_, rfl, _⟩ := h; rfl) | (obtain ⟨_, _, rfl, _⟩ := h; rfl) | (obtain ⟨_, _, _, rfl, _⟩ := h; rfl) | (obtain ⟨_, _, _, _, rfl, _⟩ := h; rfl) | (obtain ⟨_, _, _, _, _, rfl, _⟩ := h; rfl) | (obtain ⟨_, _, _, _, _, _, rfl, _⟩ := h; rfl) | (obtain ⟨_, _, _, _, _, _, _, rfl, _⟩ := h; rfl)) h) (fun cdv A outer s H vs Q E hr h => ⟨t_law_sums K E, PSs.nox (d_law_sums T  f cdv A outer s H E hr), pure_law_sums h⟩)
theorem ok_law_sums {P : Program} {w : World} {K : PySem.W.Frag} {mg : Str → Option Value} {base : Heap} {f : Addr} {fd : FuncData} (T : Bl mg)  (F : FunD K "_law_sums" "_law_sums" (defArgs s_law_sums) (defBody s_law_sums) (defScope s_law_sums) [] [] f fd) (g : mg "_law_sums" = some (.ref f)) : FnAt P w K mg base 1 "_law_sums" ["family", "hues"] (sp_law_sums K) :=
  ⟨f, fd, o_law_sums T  F, g, F.kp, F.bindsN fun _ _ _ _ _ _ us hl => match us, hl with | [_, _], _ => rfl⟩
abbrev s_law_town : Stmt := top 23
theorem sc_law_town : FnScope ["script"] ["script"] (defScope s_law_town) := ⟨rfl, rfl, rfl, by decide +kernel, rfl, by decide +kernel, by decide +kernel⟩
theorem d_law_town {P : Program} {w : World} {K : PySem.W.Frag} {mg : Str → Option Value} {base : Heap} (T : Bl mg)  (f : Addr) (cdv : Value) (A : Around) (outer : List Env) (s : Shared) (H : Hp) (E : XK) (hr : Room 0 (A.deeper (envOfC "_law_town" (defScope s_law_town) s.heap.objs.size f cdv))) :
  PSs (cxOf (L2.CX P w) P w K mg base ["script"] "_law_town" (defScope s_law_town) f cdv A outer s H E).nox (defBody s_law_town) (t_law_town K E) :=
  (pss_one (ps_ret (pe_op op_addU (pe_lst (pa_cons pe_int pa_nil)) (pe_callTy (cr_listU rfl) (by rfl) T.b_list (by decide +kernel) (pa_cons (pv 0) pa_nil)))))
theorem o_law_town {P : Program} {w : World} {K : PySem.W.Frag} {mg : Str → Option Value} {base : Heap} {f : Addr} {fd : FuncData} (T : Bl mg)  (F : FunD K "_law_town" "_law_town" (defArgs s_law_town) (defBody s_law_town) (defScope s_law_town) [] [] f fd) : FnOk P w K mg base (L2.CX P w) 1 f fd ["script"] (sp_law_town K) :=
  F.ok sc_law_town (fun vs H Q E h => by obtain ⟨A, ns, _, _, hd, _⟩ := h; simpa using hd.length) (fun cdv A outer s H vs Q E hr h => ⟨t_law_town K E, PSs.nox (d_law_town T  f cdv A outer s H E hr), pure_law_town h⟩)
theorem ok_law_town {P : Program} {w : World} {K : PySem.W.Frag} {mg : Str → Option Value} {base : Heap} {f : Addr} {fd : FuncData} (T : Bl mg)  (F : FunD K "_law_town" "_law_town" (defArgs s_law_town) (defBody s_law_town) (defScope s_law_town) [] [] f fd) (g : mg "_law_town" = some (.ref f)) : FnAt P w K mg base 1 "_law_town" ["script"] (sp_law_town K) :=
  ⟨f, fd, o_law_town T  F, g, F.kp, F.bindsN fun _ _ _ _ _ _ us hl => match us, hl with | [_], _ => rfl⟩
abbrev s_law_uneven : Stmt := top 28
theorem sc_law_uneven : FnScope ["family", "hues", "one"] ["family", "hues"] (defScope s_law_uneven) := ⟨rfl, rfl, rfl, by decide +kernel, rfl, by decide +kernel, by decide +kernel⟩
theorem d_law_uneven {P : Program} {w : World} {K : PySem.W.Frag} {mg : Str → Option Value} {base : Heap} (T : Bl mg) (c_law_sums : FnAt P w K mg base 1 "_law_sums" ["family", "hues"] (sp_law_sums K)) (f : Addr) (cdv : Value) (A : Around) (outer : List Env) (s : Shared) (H : Hp) (E : XK) (hr : Room 1 (A.deeper (envOfC "_law_uneven" (defScope s_law_uneven) s.heap.objs.size f cdv))) :
  PSs (cxOf (L2.CX P w) P w K mg base ["family", "hues", "one"] "_law_uneven" (defScope s_law_uneven) f cdv A outer s H E).nox (defBody s_law_uneven) (t_law_uneven K E) :=
  (pss_one (ps_ret (pe_callB (cr_maxU rfl) (by rfl) T.b_max (by decide +kernel) (pa_cons (pe_lc (own := [("one", 2)]) (by rfl) sc_law_uneven.nd (pi_seq (pe_callF c_law_sums (hr.mono (by decide)) (by rfl) passL (pa_cons (pv 0) (pa_cons (pv 1) pa_nil)))) (blkOk_by (own := [("one", 2)]) (by kernel_rfl)) (fun _ _ _ _ _ => (pg_name (i := 2) sc_law_uneven.nd rfl (by first | exact Or.inl rfl | exact Or.inr rfl))) (fun _ _ _ _ _ => pts_nil) (fun _ _ _ _ _ => (pe_callB cr_absI (by rfl) T.b_abs (by decide +kernel) (pa_cons (pv 2) pa_nil)))) pa_nil))))
theorem o_law_uneven {P : Program} {w : World} {K : PySem.W.Frag} {mg : Str → Option Value} {base : Heap} {f : Addr} {fd : FuncData} (T : Bl mg) (c_law_sums : FnAt P w K mg base 1 "_law_sums" ["family", "hues"] (sp_law_sums K)) (F : FunD K "_law_uneven" "_law_uneven" (defArgs s_law_uneven) (defBody s_law_uneven) (defScope s_law_uneven) [] [] f fd) : FnOk P w K mg base (L2.CX P w) 2 f fd ["family", "hues"] (sp_law_uneven K) :=
  F.ok sc_law_uneven (fun vs H Q E h => spD_len (k := 2) (fun ds o h => by first | exact h.1 | (obtain ⟨_, rfl, _⟩ := h; rfl) | (obtain ⟨_, _, rfl, _⟩ := h; rfl) | (obtain ⟨_, _, _, rfl, _⟩ := h; rfl) | (obtain ⟨_, _, _, _, rfl, _⟩ := h; rfl) | (obtain ⟨_, _, _, _, _, rfl, _⟩ := h; rfl) | (obtain ⟨_, _, _, _, _, _, rfl, _⟩ := h; rfl) | (obtain ⟨_, _, _, _, _, _, _, rfl, _⟩ := h; rfl)) h) (fun cdv A outer s H vs Q E hr h => ⟨t_law_uneven K E, PSs.nox (d_law_uneven T c_law_sums f cdv A outer s H E hr), pure_law_uneven h⟩)
theorem ok_law_uneven {P : Program} {w : World} {K : PySem.W.Frag} {mg : Str → Option Value} {base : Heap} {f : Addr} {fd : FuncData} (T : Bl mg) (c_law_sums : FnAt P w K mg base 1 "_law_sums" ["family", "hues"] (sp_law_sums K)) (F : FunD K "_law_uneven" "_law_uneven" (defArgs s_law_uneven) (defBody s_law_uneven) (defScope s_law_uneven) [] [] f fd) (g : mg "_law_uneven" = some (.ref f)) : FnAt P w K mg base 2 "_law_uneven" ["family", "hues"] (sp_law_uneven K) :=
  ⟨f, fd, o_law_uneven T c_law_sums F, g, F.kp, F.bindsN fun _ _ _ _ _ _ us hl => match us, hl with | [_, _], _ => rfl⟩
abbrev s_all_colours : Stmt := top 18
theorem sc_all_colours : FnScope ["things", "rows", "thing", "row", "one"] ["things"] (defScope s_all_colours) := ⟨rfl, rfl, rfl, by decide +kernel, rfl, by decide +kernel, by decide +kernel⟩
theorem d_all_colours {P : Program} {w : World} {K : PySem.W.Frag} {mg : Str → Option Value} {base : Heap} (T : Bl mg)  (f : Addr) (cdv : Value) (A : Around) (outer : List Env) (s : Shared) (H : Hp) (E : XK) (hr : Room 0 (A.deeper (envOfC "all_colours" (defScope s_all_colours) s.heap.objs.size f cdv))) :
  PSs (cxOf (L2.CX P w) P w K mg base ["things", "rows", "thing", "row", "one"] "all_colours" (defScope s_all_colours) f cdv A outer s H E).nox (defBody s_all_colours) (t_all_colours K E) :=
  (pss_cons (ps_set (i := 1) sc_all_colours.nd rfl (by first | exact Or.inl rfl | exact Or.inr rfl) (pe_lst (pa_cons (pe_tup pa_nil) pa_nil)))
  (pss_cons (ps_for PassesOwn.never rfl (pi_range1 (by rfl) T.b_range (pa_cons (pv 0) pa_nil)) (pg_name (i := 2) sc_all_colours.nd rfl (by first | exact Or.inl rfl | exact Or.inr rfl)) (pss_one (ps_setLc2 (i := 1) (own := [("row", 3), ("one", 4)]) (vs1 := [4]) (by rfl) sc_all_colours.nd rfl rfl (sw_true rfl rfl rfl (by decide +kernel)) (pi_seq (pv 1)) (blkOk_by (own := [("row", 3), ("one", 4)]) (by kernel_rfl)) (by decide) (fun _ _ _ _ _ => (pg_name (i := 3) sc_all_colours.nd rfl (by first | exact Or.inl rfl | exact Or.inr rfl))) (fun _ _ _ _ _ => pts_nil) (fun _ _ _ _ _ => (pi_seq (pe_tup (pa_cons (pe_un un_neg pe_int) (pa_cons pe_int pa_nil))))) (fun _ _ _ _ _ => (pg_name (i := 4) sc_all_colours.nd rfl (by first | exact Or.inl rfl | exact Or.inr rfl))) (fun _ _ _ _ _ => pts_nil) (fun _ _ _ _ _ => (pe_op op_addU (pv 3) (pe_tup (pa_cons (pv 4) pa_nil)))))))
  (pss_one (ps_ret (pv 1)))))
theorem o_all_colours {P : Program} {w : World} {K : PySem.W.Frag} {mg : Str → Option Value} {base : Heap} {f : Addr} {fd : FuncData} (T : Bl mg)  (F : FunD K "all_colours" "all_colours" (defArgs s_all_colours) (defBody s_all_colours) (defScope s_all_colours) [] [] f fd) : FnOk P w K mg base (L2.CX P w) 1 f fd ["things"] (sp_all_colours K) :=
  F.ok sc_all_colours (fun vs H Q E h => spD_len (k := 1) (fun ds o h => by first | exact h.1 | (obtain ⟨_, rfl, _⟩ := h; rfl) | (obtain ⟨_, _, rfl, _⟩ := h; rfl) | (obtain ⟨_, _, _, rfl, _⟩ := h; rfl) | (obtain ⟨_, _, _, _, rfl, _⟩ := h; rfl) | (obtain ⟨_, _, _, _, _, rfl, _⟩ := h; rfl) | (obtain ⟨_, _, _, _, _, _, rfl, _⟩ := h; rfl) | (obtain ⟨_, _, _, _, _, _, _, rfl, _⟩ := h; rfl)) h) (fun cdv A outer s H vs Q E hr h => ⟨t_all_colours K E, PSs.nox (d_all_colours T  f cdv A outer s H E hr), pure_all_colours h⟩)
theorem ok_all_colours {P : Program} {w : World} {K : PySem.W.Frag} {mg : Str → Option Value} {base : Heap} {f : Addr} {fd : FuncData} (T : Bl mg)  (F : FunD K "all_colours" "all_colours" (defArgs s_all_colours) (defBody s_all_colours) (defScope s_all_colours) [] [] f fd) (g : mg "all_colours" = some (.ref f)) : FnAt P w K mg base 1 "all_colours" ["things"] (sp_all_colours K) :=
  ⟨f, fd, o_all_colours T  F, g, F.kp, F.bindsN fun _ _ _ _ _ _ us hl => match us, hl with | [_], _ => rfl⟩
abbrev s_is_between : Stmt := top 5
theorem sc_is_between : FnScope ["value", "low", "high"] ["value", "low", "high"] (defScope s_is_between) := ⟨rfl, rfl, rfl, by decide +kernel, rfl, by decide +kernel, by decide +kernel⟩
theorem d_is_between {P : Program} {w : World} {K : PySem.W.Frag} {mg : Str → Option Value} {base : Heap} (T : Bl mg)  (f : Addr) (cdv : Value) (A : Around) (outer : List Env) (s : Shared) (H : Hp) (E : XK) (hr : Room 0 (A.deeper (envOfC "is_between" (defScope s_is_between) s.heap.objs.size f cdv))) :
  PSs (cxOf (L2.CX P w) P w K mg base ["value", "low", "high"] "is_between" (defScope s_is_between) f cdv A outer s H E).nox (defBody s_is_between) (t_is_between K E) :=
  (pss_one (ps_ret (pe_and (pe_callB call_isi (by rfl) T.b_isinstance boot_isinstance (pa_cons (pv 0) (pa_cons (pe_bltn (by rfl) T.b_int (by decide +kernel) rfl) pa_nil))) (pe_and (pe_not (pe_callB call_isi (by rfl) T.b_isinstance boot_isinstance (pa_cons (pv 0) (pa_cons (pe_bltn (by rfl) T.b_bool (by decide +kernel) rfl) pa_nil)))) (pe_one (pe_chain op_le op_le (pv 1) (pv 0) (pv 2)))))))
theorem o_is_between {P : Program} {w : World} {K : PySem.W.Frag} {mg : Str → Option Value} {base : Heap} {f : Addr} {fd : FuncData} (T : Bl mg)  (F : FunD K "is_between" "is_between" (defArgs s_is_between) (defBody s_is_between) (defScope s_is_between) [] [] f fd) : FnOk P w K mg base (L2.CX P w) 1 f fd ["value", "low", "high"] (sp_is_between K) :=
  F.ok sc_is_between (fun vs H Q E h => spD_len (k := 3) (fun ds o h => by first | exact h.1 | (obtain ⟨_, rfl, _⟩ := h; rfl) | (obtain ⟨_, _, rfl, _⟩ := h; rfl) | (obtain ⟨_, _, _, rfl, _⟩ := h; rfl) | (obtain ⟨_, _, _, _, rfl, _⟩ := h; rfl) | (obtain ⟨_, _, _, _, _, rfl, _⟩ := h; rfl) | (obtain ⟨_, _, _, _, _, _, rfl, _⟩ := h; rfl) | (obtain ⟨_, _, _, _, _, _, _, rfl, _⟩ := h; rfl)) h) (fun cdv A outer s H vs Q E hr h => ⟨t_is_between K E, PSs.nox (d_is_between T  f cdv A outer s H E hr), pure_is_between h⟩)
theorem ok_is_between {P : Program} {w : World} {K : PySem.W.Frag} {mg : Str → Option Value} {base : Heap} {f : Addr} {fd : FuncData} (T : Bl mg)  (F : FunD K "is_between" "is_between" (defArgs s_is_between) (defBody s_is_between) (defScope s_is_between) [] [] f fd) (g : mg "is_between" = some (.ref f)) : FnAt P w K mg base 1 "is_between" ["value", "low", "high"] (sp_is_between K) :=
  ⟨f, fd, o_is_between T  F, g, F.kp, F.bindsN fun _ _ _ _ _ _ us hl => match us, hl with | [_, _, _], _ => rfl⟩
abbrev s_is_lot : Stmt := top 7
theorem sc_is_lot : FnScope ["things", "value", "one", "k"] ["things", "value"] (defScope s_is_lot) := ⟨rfl, rfl, rfl, by decide +kernel, rfl, by decide +kernel, by decide +kernel⟩
theorem d_is_lot {P : Program} {w : World} {K : PySem.W.Frag} {mg : Str → Option Value} {base : Heap} (T : Bl mg) (c_is_between : FnAt P w K mg base 1 "is_between" ["value", "low", "high"] (sp_is_between K)) (f : Addr) (cdv : Value) (A : Around) (outer : List Env) (s : Shared) (H : Hp) (E : XK) (hr : Room 1 (A.deeper (envOfC "is_lot" (defScope s_is_lot) s.heap.objs.size f cdv))) :
  PSs (cxOf (L2.CX P w) P w K mg base ["things", "value", "one", "k"] "is_lot" (defScope s_is_lot) f cdv A outer s H E).nox (defBody s_is_lot) (t_is_lot K E) :=
  (pss_cons (ps_if (PW.pt (pw_or (pt_not (pt_val (pe_callB call_isi (by rfl) T.b_isinstance boot_isinstance (pa_cons (pv 1) (pa_cons (pe_bltn (by rfl) T.b_tuple (by decide +kernel) rfl) pa_nil))))) (pw_or (pt_cmpR (op_eqD hr.units) (pv 1) (pe_tup pa_nil) (nomark _)) (pw_or1 (pt_not (pt_val (pe_callB (cr_all rfl) (by rfl) T.b_all (by decide +kernel) (pa_cons (pe_lc (own := [("one", 2)]) (by rfl) sc_is_lot.nd (pi_seq (pv 1)) (blkOk_by (own := [("one", 2)]) (by kernel_rfl)) (fun _ _ _ _ _ => (pg_name (i := 2) sc_is_lot.nd rfl (by first | exact Or.inl rfl | exact Or.inr rfl))) (fun _ _ _ _ _ => pts_nil) (fun _ _ _ _ _ => (pe_callF c_is_between (hr.mono (by decide)) (by rfl) passL (pa_cons (pv 2) (pa_cons pe_int (pa_cons (pe_op op_sub (pv 0) pe_int) pa_nil)))))) pa_nil)))))))) (pss_one (ps_ret pe_bl)) pss_nil)
  (pss_one (ps_ret (pe_callB (cr_all rfl) (by rfl) T.b_all (by decide +kernel) (pa_cons (pe_lc (own := [("k", 3)]) (by rfl) sc_is_lot.nd (pi_range1 (by rfl) T.b_range (pa_cons (pe_op op_sub (pe_callB cr_lenU (by rfl) T.b_len (by decide +kernel) (pa_cons (pv 1) pa_nil)) pe_int) pa_nil)) (blkOk_by (own := [("k", 3)]) (by kernel_rfl)) (fun _ _ _ _ _ => (pg_name (i := 3) sc_is_lot.nd rfl (by first | exact Or.inl rfl | exact Or.inr rfl))) (fun _ _ _ _ _ => pts_nil) (fun _ _ _ _ _ => (pe_cmpR (op_ltU hr.units0) (pe_ix ix_seq (pv 1) (pv 3) (fun _ _ => rfl)) (pe_ix ix_seq (pv 1) (pe_op op_addU (pv 3) pe_int) (fun _ _ => rfl)) (nomark _)))) pa_nil)))))
theorem o_is_lot {P : Program} {w : World} {K : PySem.W.Frag} {mg : Str → Option Value} {base : Heap} {f : Addr} {fd : FuncData} (T : Bl mg) (c_is_between : FnAt P w K mg base 1 "is_between" ["value", "low", "high"] (sp_is_between K)) (F : FunD K "is_lot" "is_lot" (defArgs s_is_lot) (defBody s_is_lot) (defScope s_is_lot) [] [] f fd) : FnOk P w K mg base (L2.CX P w) 2 f fd ["things", "value"] (sp_is_lot K) :=
  F.ok sc_is_lot (fun vs H Q E h => spD_len (k := 2) (fun ds o h => by first | exact h.1 | (obtain ⟨_, rfl, _⟩ := h; rfl) | (obtain ⟨_, _, rfl, _⟩ := h; rfl) | (obtain ⟨_, _, _, rfl, _⟩ := h; rfl) | (obtain ⟨_, _, _, _, rfl, _⟩ := h; rfl) | (obtain ⟨_, _, _, _, _, rfl, _⟩ := h; rfl) | (obtain ⟨_, _, _, _, _, _, rfl, _⟩ := h; rfl) | (obtain ⟨_, _, _, _, _, _, _, rfl, _⟩ := h; rfl)) h) (fun cdv A outer s H vs Q E hr h => ⟨t_is_lot K E, PSs.nox (d_is_lot T c_is_between f cdv A outer s H E hr), pure_is_lot h⟩)
theorem ok_is_lot {P : Program} {w : World} {K : PySem.W.Frag} {mg : Str → Option Value} {base : Heap} {f : Addr} {fd : FuncData} (T : Bl mg) (c_is_between : FnAt P w K mg base 1 "is_between" ["value", "low", "high"] (sp_is_between K)) (F : FunD K "is_lot" "is_lot" (defArgs s_is_lot) (defBody s_is_lot) (defScope s_is_lot) [] [] f fd) (g : mg "is_lot" = some (.ref f)) : FnAt P w K mg base 2 "is_lot" ["things", "value"] (sp_is_lot K) :=
  ⟨f, fd, o_is_lot T c_is_between F, g, F.kp, F.bindsN fun _ _ _ _ _ _ us hl => match us, hl with | [_, _], _ => rfl⟩
abbrev s_is_family : Stmt := top 8
theorem sc_is_family : FnScope ["value", "things", "sets", "one", "k"] ["value"] (defScope s_is_family) := ⟨rfl, rfl, rfl, by decide +kernel, rfl, by decide +kernel, by decide +kernel⟩
theorem d_is_family {P : Program} {w : World} {K : PySem.W.Frag} {mg : Str → Option Value} {base : Heap} (T : Bl mg) (c_is_between : FnAt P w K mg base 1 "is_between" ["value", "low", "high"] (sp_is_between K)) (c_is_lot : FnAt P w K mg base 2 "is_lot" ["things", "value"] (sp_is_lot K)) (f : Addr) (cdv : Value) (A : Around) (outer : List Env) (s : Shared) (H : Hp) (E : XK) (hr : Room 2 (A.deeper (envOfC "is_family" (defScope s_is_family) s.heap.objs.size f cdv))) :
  PSs (cxOf (L2.CX P w) P w K mg base ["value", "things", "sets", "one", "k"] "is_family" (defScope s_is_family) f cdv A outer s H E).nox (defBody s_is_family) (t_is_family K E) :=
  (pss_cons (ps_if (PW.pt (pw_or (pt_not (pt_val (pe_callB call_isi (by rfl) T.b_isinstance boot_isinstance (pa_cons (pv 0) (pa_cons (pe_bltn (by rfl) T.b_tuple (by decide +kernel) rfl) pa_nil))))) (pw_or (pt_cmpR (op_neD hr.units) (pe_callB cr_lenU (by rfl) T.b_len (by decide +kernel) (pa_cons (pv 0) pa_nil)) pe_int (nomark _)) (pw_or1 (pt_not (pt_val (pe_callF c_is_between (hr.mono (by decide)) (by rfl) passL (pa_cons (pe_ix ix_seq (pv 0) pe_int (fun _ _ => rfl)) (pa_cons pe_int (pa_cons pe_int pa_nil)))))))))) (pss_one (ps_ret pe_bl)) pss_nil)
  (pss_cons (ps_asg (pv 0) (pg_tup rfl (pgs_cons (pg_name (i := 1) sc_is_family.nd rfl (by first | exact Or.inl rfl | exact Or.inr rfl)) (pgs_cons (pg_name (i := 2) sc_is_family.nd rfl (by first | exact Or.inl rfl | exact Or.inr rfl)) pgs_nil))))
  (pss_cons (ps_if (PW.pt (pw_or (pt_not (pt_val (pe_callB call_isi (by rfl) T.b_isinstance boot_isinstance (pa_cons (pv 2) (pa_cons (pe_bltn (by rfl) T.b_tuple (by decide +kernel) rfl) pa_nil))))) (pw_or (pt_not (pt_chain op_le op_le pe_int (pe_callB cr_lenU (by rfl) T.b_len (by decide +kernel) (pa_cons (pv 2) pa_nil)) pe_int)) (pw_or1 (pt_not (pt_val (pe_callB (cr_all rfl) (by rfl) T.b_all (by decide +kernel) (pa_cons (pe_lc (own := [("one", 3)]) (by rfl) sc_is_family.nd (pi_seq (pv 2)) (blkOk_by (own := [("one", 3)]) (by kernel_rfl)) (fun _ _ _ _ _ => (pg_name (i := 3) sc_is_family.nd rfl (by first | exact Or.inl rfl | exact Or.inr rfl))) (fun _ _ _ _ _ => pts_nil) (fun _ _ _ _ _ => (pe_callF c_is_lot (hr.mono (by decide)) (by rfl) passL (pa_cons (pv 1) (pa_cons (pv 3) pa_nil))))) pa_nil)))))))) (pss_one (ps_ret pe_bl)) pss_nil)
  (pss_one (ps_ret (pe_callB (cr_all rfl) (by rfl) T.b_all (by decide +kernel) (pa_cons (pe_lc (own := [("k", 4)]) (by rfl) sc_is_family.nd (pi_range1 (by rfl) T.b_range (pa_cons (pe_op op_sub (pe_callB cr_lenU (by rfl) T.b_len (by decide +kernel) (pa_cons (pv 2) pa_nil)) pe_int) pa_nil)) (blkOk_by (own := [("k", 4)]) (by kernel_rfl)) (fun _ _ _ _ _ => (pg_name (i := 4) sc_is_family.nd rfl (by first | exact Or.inl rfl | exact Or.inr rfl))) (fun _ _ _ _ _ => pts_nil) (fun _ _ _ _ _ => (pe_cmpR (op_ltU hr.units0) (pe_ix ix_seq (pv 2) (pv 4) (fun _ _ => rfl)) (pe_ix ix_seq (pv 2) (pe_op op_addU (pv 4) pe_int) (fun _ _ => rfl)) (nomark _)))) pa_nil)))))))
theorem o_is_family {P : Program} {w : World} {K : PySem.W.Frag} {mg : Str → Option Value} {base : Heap} {f : Addr} {fd : FuncData} (T : Bl mg) (c_is_between : FnAt P w K mg base 1 "is_between" ["value", "low", "high"] (sp_is_between K)) (c_is_lot : FnAt P w K mg base 2 "is_lot" ["things", "value"] (sp_is_lot K)) (F : FunD K "is_family" "is_family" (defArgs s_is_family) (defBody s_is_family) (defScope s_is_family) [] [] f fd) : FnOk P w K mg base (L2.CX P w) 3 f fd ["value"] (sp_is_family K) :=
  F.ok sc_is_family (fun vs H Q E h => spD_len (k := 1) (fun ds o h => by first | exact h.1 | (obtain ⟨_, rfl, _⟩ := h; rfl) | (obtain ⟨_, _, rfl, _⟩ := h; rfl) | (obtain ⟨_, _, _, rfl, _⟩ := h; rfl) | (obtain ⟨_, _, _, _, rfl, _⟩ := h; rfl) | (obtain ⟨_, _, _, _, _, rfl, _⟩ := h; rfl) | (obtain ⟨_, _, _, _, _, _, rfl, _⟩ := h; rfl) | (obtain ⟨_, _, _, _, _, _, _, rfl, _⟩ := h; rfl)) h) (fun cdv A outer s H vs Q E hr h => ⟨t_is_family K E, PSs.nox (d_is_family T c_is_between c_is_lot f cdv A outer s H E hr), pure_is_family h⟩)
theorem ok_is_family {P : Program} {w : World} {K : PySem.W.Frag} {mg : Str → Option Value} {base : Heap} {f : Addr} {fd : FuncData} (T : Bl mg) (c_is_between : FnAt P w K mg base 1 "is_between" ["value", "low", "high"] (sp_is_between K)) (c_is_lot : FnAt P w K mg base 2 "is_lot" ["things", "value"] (sp_is_lot K)) (F : FunD K "is_family" "is_family" (defArgs s_is_family) (defBody s_is_family) (defScope s_is_family) [] [] f fd) (g : mg "is_family" = some (.ref f)) : FnAt P w K mg base 3 "is_family" ["value"] (sp_is_family K) :=
  ⟨f, fd, o_is_family T c_is_between c_is_lot F, g, F.kp, F.bindsN fun _ _ _ _ _ _ us hl => match us, hl with | [_], _ => rfl⟩
abbrev s_check_family : Stmt := top 9
theorem sc_check_family : FnScope ["value"] ["value"] (defScope s_check_family) := ⟨rfl, rfl, rfl, by decide +kernel, rfl, by decide +kernel, by decide +kernel⟩
theorem d_check_family {P : Program} {w : World} {K : PySem.W.Frag} {mg : Str → Option Value} {base : Heap} (T : Bl mg) (c_is_family : FnAt P w K mg base 3 "is_family" ["value"] (sp_is_family K)) (x_InvalidFamily : ExcAt K mg "InvalidFamily") (f : Addr) (cdv : Value) (A : Around) (outer : List Env) (s : Shared) (H : Hp) (E : XK) (hr : Room 3 (A.deeper (envOfC "check_family" (defScope s_check_family) s.heap.objs.size f cdv))) :
  PSs (cxOf (L2.CX P w) P w K mg base ["value"] "check_family" (defScope s_check_family) f cdv A outer s H E) (defBody s_check_family) (t_check_family K E) :=
  (pss_one (ps_if (pt_not (pt_val (pe_callF c_is_family (hr.mono (by decide)) (by rfl) passL (pa_cons (pv 0) pa_nil)))) (pss_one (ps_raiseF x_InvalidFamily)) pss_nil))
theorem o_check_family {P : Program} {w : World} {K : PySem.W.Frag} {mg : Str → Option Value} {base : Heap} {f : Addr} {fd : FuncData} (T : Bl mg) (c_is_family : FnAt P w K mg base 3 "is_family" ["value"] (sp_is_family K)) (x_InvalidFamily : ExcAt K mg "InvalidFamily") (F : FunD K "check_family" "check_family" (defArgs s_check_family) (defBody s_check_family) (defScope s_check_family) [] [] f fd) : FnOk P w K mg base (L2.CX P w) 4 f fd ["value"] (sp_check_family K) :=
  F.ok sc_check_family (fun vs H Q E h => spD_len (k := 1) (fun ds o h => by first | exact h.1 | (obtain ⟨_, rfl, _⟩ := h; rfl) | (obtain ⟨_, _, rfl, _⟩ := h; rfl) | (obtain ⟨_, _, _, rfl, _⟩ := h; rfl) | (obtain ⟨_, _, _, _, rfl, _⟩ := h; rfl) | (obtain ⟨_, _, _, _, _, rfl, _⟩ := h; rfl) | (obtain ⟨_, _, _, _, _, _, rfl, _⟩ := h; rfl) | (obtain ⟨_, _, _, _, _, _, _, rfl, _⟩ := h; rfl)) h) (fun cdv A outer s H vs Q E hr h => ⟨t_check_family K E, (d_check_family T c_is_family x_InvalidFamily f cdv A outer s H E hr), pure_check_family h⟩)
theorem ok_check_family {P : Program} {w : World} {K : PySem.W.Frag} {mg : Str → Option Value} {base : Heap} {f : Addr} {fd : FuncData} (T : Bl mg) (c_is_family : FnAt P w K mg base 3 "is_family" ["value"] (sp_is_family K)) (x_InvalidFamily : ExcAt K mg "InvalidFamily") (F : FunD K "check_family" "check_family" (defArgs s_check_family) (defBody s_check_family) (defScope s_check_family) [] [] f fd) (g : mg "check_family" = some (.ref f)) : FnAt P w K mg base 4 "check_family" ["value"] (sp_check_family K) :=
  ⟨f, fd, o_check_family T c_is_family x_InvalidFamily F, g, F.kp, F.bindsN fun _ _ _ _ _ _ us hl => match us, hl with | [_], _ => rfl⟩
abbrev s_found_sums : Stmt := top 14
theorem sc_found_sums : FnScope ["family", "colours", "thing", "one"] ["family", "colours"] (defScope s_found_sums) := ⟨rfl, rfl, rfl, by decide +kernel, rfl, by decide +kernel, by decide +kernel⟩
theorem d_found_sums {P : Program} {w : World} {K : PySem.W.Frag} {mg : Str → Option Value} {base : Heap} (T : Bl mg)  (f : Addr) (cdv : Value) (A : Around) (outer : List Env) (s : Shared) (H : Hp) (E : XK) (hr : Room 0 (A.deeper (envOfC "found_sums" (defScope s_found_sums) s.heap.objs.size f cdv))) :
  PSs (cxOf (L2.CX P w) P w K mg base ["family", "colours", "thing", "one"] "found_sums" (defScope s_found_sums) f cdv A outer s H E).nox (defBody s_found_sums) (t_found_sums K E) :=
  (pss_one (ps_ret (pe_callTy cr_tupleOf (by rfl) T.b_tuple (by decide +kernel) (pa_cons (pe_lc (own := [("one", 3)]) (by rfl) sc_found_sums.nd (pi_seq (pe_ix ix_seq (pv 0) pe_int (fun _ _ => rfl))) (blkOk_by (own := [("one", 3)]) (by kernel_rfl)) (fun _ _ _ _ _ => (pg_name (i := 3) sc_found_sums.nd rfl (by first | exact Or.inl rfl | exact Or.inr rfl))) (fun _ _ _ _ _ => pts_nil) (fun _ _ _ _ _ => (pe_callB (cr_sum rfl) (by rfl) T.b_sum (by decide +kernel) (pa_cons (pe_lc (own := [("thing", 2)]) (by rfl) sc_found_sums.nd (pi_seq (pv 3)) (blkOk_by (own := [("thing", 2)]) (by kernel_rfl)) (fun _ _ _ _ _ => (pg_name (i := 2) sc_found_sums.nd rfl (by first | exact Or.inl rfl | exact Or.inr rfl))) (fun _ _ _ _ _ => pts_nil) (fun _ _ _ _ _ => (pe_ix ix_seq (pv 1) (pv 2) (fun _ _ => rfl)))) pa_nil)))) pa_nil))))
theorem o_found_sums {P : Program} {w : World} {K : PySem.W.Frag} {mg : Str → Option Value} {base : Heap} {f : Addr} {fd : FuncData} (T : Bl mg)  (F : FunD K "found_sums" "found_sums" (defArgs s_found_sums) (defBody s_found_sums) (defScope s_found_sums) [] [] f fd) : FnOk P w K mg base (L2.CX P w) 1 f fd ["family", "colours"] (sp_found_sums K) :=
  F.ok sc_found_sums (fun vs H Q E h => spD_len (k := 2) (fun ds o h => by first | exact h.1 | (obtain ⟨_, rfl, _⟩ := h; rfl) | (obtain ⟨_, _, rfl, _⟩ := h; rfl) | (obtain ⟨_, _, _, rfl, _⟩ := h; rfl) | (obtain ⟨_, _, _, _, rfl, _⟩ := h; rfl) | (obtain ⟨_, _, _, _, _, rfl, _⟩ := h; rfl) | (obtain ⟨_, _, _, _, _, _, rfl, _⟩ := h; rfl) | (obtain ⟨_, _, _, _, _, _, _, rfl, _⟩ := h; rfl)) h) (fun cdv A outer s H vs Q E hr h => ⟨t_found_sums K E, PSs.nox (d_found_sums T  f cdv A outer s H E hr), pure_found_sums h⟩)
theorem ok_found_sums {P : Program} {w : World} {K : PySem.W.Frag} {mg : Str → Option Value} {base : Heap} {f : Addr} {fd : FuncData} (T : Bl mg)  (F : FunD K "found_sums" "found_sums" (defArgs s_found_sums) (defBody s_found_sums) (defScope s_found_sums) [] [] f fd) (g : mg "found_sums" = some (.ref f)) : FnAt P w K mg base 1 "found_sums" ["family", "colours"] (sp_found_sums K) :=
  ⟨f, fd, o_found_sums T  F, g, F.kp, F.bindsN fun _ _ _ _ _ _ us hl => match us, hl with | [_, _], _ => rfl⟩
abbrev s_found_uneven : Stmt := top 15
theorem sc_found_uneven : FnScope ["family", "colours", "one"] ["family", "colours"] (defScope s_found_uneven) := ⟨rfl, rfl, rfl, by decide +kernel, rfl, by decide +kernel, by decide +kernel⟩
theorem d_found_uneven {P : Program} {w : World} {K : PySem.W.Frag} {mg : Str → Option Value} {base : Heap} (T : Bl mg) (c_found_sums : FnAt P w K mg base 1 "found_sums" ["family", "colours"] (sp_found_sums K)) (f : Addr) (cdv : Value) (A : Around) (outer : List Env) (s : Shared) (H : Hp) (E : XK) (hr : Room 1 (A.deeper (envOfC "found_uneven" (defScope s_found_uneven) s.heap.objs.size f cdv))) :
  PSs (cxOf (L2.CX P w) P w K mg base ["family", "colours", "one"] "found_uneven" (defScope s_found_uneven) f cdv A outer s H E).nox (defBody s_found_uneven) (t_found_uneven K E) :=
  (pss_one (ps_ret (pe_callB (cr_maxU rfl) (by rfl) T.b_max (by decide +kernel) (pa_cons (pe_lc (own := [("one", 2)]) (by rfl) sc_found_uneven.nd (pi_seq (pe_callF c_found_sums (hr.mono (by decide)) (by rfl) passL (pa_cons (pv 0) (pa_cons (pv 1) pa_nil)))) (blkOk_by (own := [("one", 2)]) (by kernel_rfl)) (fun _ _ _ _ _ => (pg_name (i := 2) sc_found_uneven.nd rfl (by first | exact Or.inl rfl | exact Or.inr rfl))) (fun _ _ _ _ _ => pts_nil) (fun _ _ _ _ _ => (pe_callB cr_absI (by rfl) T.b_abs (by decide +kernel) (pa_cons (pv 2) pa_nil)))) pa_nil))))
theorem o_found_uneven {P : Program} {w : World} {K : PySem.W.Frag} {mg : Str → Option Value} {base : Heap} {f : Addr} {fd : FuncData} (T : Bl mg) (c_found_sums : FnAt P w K mg base 1 "found_sums" ["family", "colours"] (sp_found_sums K)) (F : FunD K "found_uneven" "found_uneven" (defArgs s_found_uneven) (defBody s_found_uneven) (defScope s_found_uneven) [] [] f fd) : FnOk P w K mg base (L2.CX P w) 2 f fd ["family", "colours"] (sp_found_uneven K) :=
  F.ok sc_found_uneven (fun vs H Q E h => spD_len (k := 2) (fun ds o h => by first | exact h.1 | (obtain ⟨_, rfl, _⟩ := h; rfl) | (obtain ⟨_, _, rfl, _⟩ := h; rfl) | (obtain ⟨_, _, _, rfl, _⟩ := h; rfl) | (obtain ⟨_, _, _, _, rfl, _⟩ := h; rfl) | (obtain ⟨_, _, _, _, _, rfl, _⟩ := h; rfl) | (obtain ⟨_, _, _, _, _, _, rfl, _⟩ := h; rfl) | (obtain ⟨_, _, _, _, _, _, _, rfl, _⟩ := h; rfl)) h) (fun cdv A outer s H vs Q E hr h => ⟨t_found_uneven K E, PSs.nox (d_found_uneven T c_found_sums f cdv A outer s H E hr), pure_found_uneven h⟩)
theorem ok_found_uneven {P : Program} {w : World} {K : PySem.W.Frag} {mg : Str → Option Value} {base : Heap} {f : Addr} {fd : FuncData} (T : Bl mg) (c_found_sums : FnAt P w K mg base 1 "found_sums" ["family", "colours"] (sp_found_sums K)) (F : FunD K "found_uneven" "found_uneven" (defArgs s_found_uneven) (defBody s_found_uneven) (defScope s_found_uneven) [] [] f fd) (g : mg "found_uneven" = some (.ref f)) : FnAt P w K mg base 2 "found_uneven" ["family", "colours"] (sp_found_uneven K) :=
  ⟨f, fd, o_found_uneven T c_found_sums F, g, F.kp, F.bindsN fun _ _ _ _ _ _ us hl => match us, hl with | [_, _], _ => rfl⟩
abbrev s_found_least : Stmt := top 19
theorem sc_found_least : FnScope ["family", "colours"] ["family"] (defScope s_found_least) := ⟨rfl, rfl, rfl, by decide +kernel, rfl, by decide +kernel, by decide +kernel⟩
theorem d_found_least {P : Program} {w : World} {K : PySem.W.Frag} {mg : Str → Option Value} {base : Heap} (T : Bl mg) (c_all_colours : FnAt P w K mg base 1 "all_colours" ["things"] (sp_all_colours K)) (c_found_uneven : FnAt P w K mg base 2 "found_uneven" ["family", "colours"] (sp_found_uneven K)) (f : Addr) (cdv : Value) (A : Around) (outer : List Env) (s : Shared) (H : Hp) (E : XK) (hr : Room 2 (A.deeper (envOfC "found_least" (defScope s_found_least) s.heap.objs.size f cdv))) :
  PSs (cxOf (L2.CX P w) P w K mg base ["family", "colours"] "found_least" (defScope s_found_least) f cdv A outer s H E).nox (defBody s_found_least) (t_found_least K E) :=
  (pss_one (ps_ret (pe_callB (cr_minU rfl) (by rfl) T.b_min (by decide +kernel) (pa_cons (pe_lc (own := [("colours", 1)]) (by rfl) sc_found_least.nd (pi_seq (pe_callF c_all_colours (hr.mono (by decide)) (by rfl) passL (pa_cons (pe_ix ix_seq (pv 0) pe_int (fun _ _ => rfl)) pa_nil))) (blkOk_by (own := [("colours", 1)]) (by kernel_rfl)) (fun _ _ _ _ _ => (pg_name (i := 1) sc_found_least.nd rfl (by first | exact Or.inl rfl | exact Or.inr rfl))) (fun _ _ _ _ _ => pts_nil) (fun _ _ _ _ _ => (pe_callF c_found_uneven (hr.mono (by decide)) (by rfl) passL (pa_cons (pv 0) (pa_cons (pv 1) pa_nil))))) pa_nil))))
theorem o_found_least {P : Program} {w : World} {K : PySem.W.Frag} {mg : Str → Option Value} {base : Heap} {f : Addr} {fd : FuncData} (T : Bl mg) (c_all_colours : FnAt P w K mg base 1 "all_colours" ["things"] (sp_all_colours K)) (c_found_uneven : FnAt P w K mg base 2 "found_uneven" ["family", "colours"] (sp_found_uneven K)) (F : FunD K "found_least" "found_least" (defArgs s_found_least) (defBody s_found_least) (defScope s_found_least) [] [] f fd) : FnOk P w K mg base (L2.CX P w) 3 f fd ["family"] (sp_found_least K) :=
  F.ok sc_found_least (fun vs H Q E h => spD_len (k := 1) (fun ds o h => by first | exact h.1 | (obtain ⟨_, rfl, _⟩ := h; rfl) | (obtain ⟨_, _, rfl, _⟩ := h; rfl) | (obtain ⟨_, _, _, rfl, _⟩ := h; rfl) | (obtain ⟨_, _, _, _, rfl, _⟩ := h; rfl) | (obtain ⟨_, _, _, _, _, rfl, _⟩ := h; rfl) | (obtain ⟨_, _, _, _, _, _, rfl, _⟩ := h; rfl) | (obtain ⟨_, _, _, _, _, _, _, rfl, _⟩ := h; rfl)) h) (fun cdv A outer s H vs Q E hr h => ⟨t_found_least K E, PSs.nox (d_found_least T c_all_colours c_found_uneven f cdv A outer s H E hr), pure_found_least h⟩)
theorem ok_found_least {P : Program} {w : World} {K : PySem.W.Frag} {mg : Str → Option Value} {base : Heap} {f : Addr} {fd : FuncData} (T : Bl mg) (c_all_colours : FnAt P w K mg base 1 "all_colours" ["things"] (sp_all_colours K)) (c_found_uneven : FnAt P w K mg base 2 "found_uneven" ["family", "colours"] (sp_found_uneven K)) (F : FunD K "found_least" "found_least" (defArgs s_found_least) (defBody s_found_least) (defScope s_found_least) [] [] f fd) (g : mg "found_least" = some (.ref f)) : FnAt P w K mg base 3 "found_least" ["family"] (sp_found_least K) :=
  ⟨f, fd, o_found_least T c_all_colours c_found_uneven F, g, F.kp, F.bindsN fun _ _ _ _ _ _ us hl => match us, hl with | [_], _ => rfl⟩
abbrev s_all_best : Stmt := top 21
theorem sc_all_best : FnScope ["family", "least", "colours"] ["family"] (defScope s_all_best) := ⟨rfl, rfl, rfl, by decide +kernel, rfl, by decide +kernel, by decide +kernel⟩
theorem d_all_best {P : Program} {w : World} {K : PySem.W.Frag} {mg : Str → Option Value} {base : Heap} (T : Bl mg) (c_all_colours : FnAt P w K mg base 1 "all_colours" ["things"] (sp_all_colours K)) (c_check_family : FnAt P w K mg base 4 "check_family" ["value"] (sp_check_family K)) (c_found_least : FnAt P w K mg base 3 "found_least" ["family"] (sp_found_least K)) (c_found_uneven : FnAt P w K mg base 2 "found_uneven" ["family", "colours"] (sp_found_uneven K)) (f : Addr) (cdv : Value) (A : Around) (outer : List Env) (s : Shared) (H : Hp) (E : XK) (hr : Room 4 (A.deeper (envOfC "all_best" (defScope s_all_best) s.heap.objs.size f cdv))) :
  PSs (cxOf (L2.CX P w) P w K mg base ["family", "least", "colours"] "all_best" (defScope s_all_best) f cdv A outer s H E) (defBody s_all_best) (t_all_best K E) :=
  (pss_cons (ps_expr (pe_callF c_check_family (hr.mono (by decide)) (by rfl) (passes_call (takes_of rfl rfl rfl rfl) (fun _ _ _ _ h => h)) (pa_cons (pv 0) pa_nil)))
  (pss_cons (ps_set (i := 1) sc_all_best.nd rfl (by first | exact Or.inl rfl | exact Or.inr rfl) (pe_callF c_found_least (hr.mono (by decide)) (by rfl) passL (pa_cons (pv 0) pa_nil)))
  (pss_one (ps_ret (pe_callTy cr_tupleOf (by rfl) T.b_tuple (by decide +kernel) (pa_cons (pe_lc (own := [("colours", 2)]) (by rfl) sc_all_best.nd (pi_seq (pe_callF c_all_colours (hr.mono (by decide)) (by rfl) passL (pa_cons (pe_ix ix_seq (pv 0) pe_int (fun _ _ => rfl)) pa_nil))) (blkOk_by (own := [("colours", 2)]) (by kernel_rfl)) (fun _ _ _ _ _ => (pg_name (i := 2) sc_all_best.nd rfl (by first | exact Or.inl rfl | exact Or.inr rfl))) (fun _ _ _ _ _ => (pts_one (pt_cmpR (op_eqD hr.units) (pe_callF c_found_uneven (hr.mono (by decide)) (by rfl) passL (pa_cons (pv 0) (pa_cons (pv 2) pa_nil))) (pv 1) (nomark _)))) (fun _ _ _ _ _ => (pv 2))) pa_nil))))))
theorem o_all_best {P : Program} {w : World} {K : PySem.W.Frag} {mg : Str → Option Value} {base : Heap} {f : Addr} {fd : FuncData} (T : Bl mg) (c_all_colours : FnAt P w K mg base 1 "all_colours" ["things"] (sp_all_colours K)) (c_check_family : FnAt P w K mg base 4 "check_family" ["value"] (sp_check_family K)) (c_found_least : FnAt P w K mg base 3 "found_least" ["family"] (sp_found_least K)) (c_found_uneven : FnAt P w K mg base 2 "found_uneven" ["family", "colours"] (sp_found_uneven K)) (F : FunD K "all_best" "all_best" (defArgs s_all_best) (defBody s_all_best) (defScope s_all_best) [] [] f fd) : FnOk P w K mg base (L2.CX P w) 5 f fd ["family"] (sp_all_best K) :=
  F.ok sc_all_best (fun vs H Q E h => spD_len (k := 1) (fun ds o h => by first | exact h.1 | (obtain ⟨_, rfl, _⟩ := h; rfl) | (obtain ⟨_, _, rfl, _⟩ := h; rfl) | (obtain ⟨_, _, _, rfl, _⟩ := h; rfl) | (obtain ⟨_, _, _, _, rfl, _⟩ := h; rfl) | (obtain ⟨_, _, _, _, _, rfl, _⟩ := h; rfl) | (obtain ⟨_, _, _, _, _, _, rfl, _⟩ := h; rfl) | (obtain ⟨_, _, _, _, _, _, _, rfl, _⟩ := h; rfl)) h) (fun cdv A outer s H vs Q E hr h => ⟨t_all_best K E, (d_all_best T c_all_colours c_check_family c_found_least c_found_uneven f cdv A outer s H E hr), pure_all_best h⟩)
theorem ok_all_best {P : Program} {w : World} {K : PySem.W.Frag} {mg : Str → Option Value} {base : Heap} {f : Addr} {fd : FuncData} (T : Bl mg) (c_all_colours : FnAt P w K mg base 1 "all_colours" ["things"] (sp_all_colours K)) (c_check_family : FnAt P w K mg base 4 "check_family" ["value"] (sp_check_family K)) (c_found_least : FnAt P w K mg base 3 "found_least" ["family"] (sp_found_least K)) (c_found_uneven : FnAt P w K mg base 2 "found_uneven" ["family", "colours"] (sp_found_uneven K)) (F : FunD K "all_best" "all_best" (defArgs s_all_best) (defBody s_all_best) (defScope s_all_best) [] [] f fd) (g : mg "all_best" = some (.ref f)) : FnAt P w K mg base 5 "all_best" ["family"] (sp_all_best K) :=
  ⟨f, fd, o_all_best T c_all_colours c_check_family c_found_least c_found_uneven F, g, F.kp, F.bindsN fun _ _ _ _ _ _ us hl => match us, hl with | [_], _ => rfl⟩
abbrev s_are_colours : Stmt := top 11
theorem sc_are_colours : FnScope ["family", "value", "one"] ["family", "value"] (defScope s_are_colours) := ⟨rfl, rfl, rfl, by decide +kernel, rfl, by decide +kernel, by decide +kernel⟩
theorem d_are_colours {P : Program} {w : World} {K : PySem.W.Frag} {mg : Str → Option Value} {base : Heap} (T : Bl mg)  (f : Addr) (cdv : Value) (A : Around) (outer : List Env) (s : Shared) (H : Hp) (E : XK) (hr : Room 0 (A.deeper (envOfC "are_colours" (defScope s_are_colours) s.heap.objs.size f cdv))) :
  PSs (cxOf (L2.CX P w) P w K mg base ["family", "value", "one"] "are_colours" (defScope s_are_colours) f cdv A outer s H E).nox (defBody s_are_colours) (t_are_colours K E) :=
  (pss_cons (ps_if (PW.pt (pw_or (pt_not (pt_val (pe_callB call_isi (by rfl) T.b_isinstance boot_isinstance (pa_cons (pv 1) (pa_cons (pe_bltn (by rfl) T.b_tuple (by decide +kernel) rfl) pa_nil))))) (pw_or1 (pt_cmpR (op_neD hr.units) (pe_callB cr_lenU (by rfl) T.b_len (by decide +kernel) (pa_cons (pv 1) pa_nil)) (pe_ix ix_seq (pv 0) pe_int (fun _ _ => rfl)) (nomark _))))) (pss_one (ps_ret pe_bl)) pss_nil)
  (pss_one (ps_ret (pe_callB (cr_all rfl) (by rfl) T.b_all (by decide +kernel) (pa_cons (pe_lc (own := [("one", 2)]) (by rfl) sc_are_colours.nd (pi_seq (pv 1)) (blkOk_by (own := [("one", 2)]) (by kernel_rfl)) (fun _ _ _ _ _ => (pg_name (i := 2) sc_are_colours.nd rfl (by first | exact Or.inl rfl | exact Or.inr rfl))) (fun _ _ _ _ _ => pts_nil) (fun _ _ _ _ _ => (pe_and (pe_callB call_isi (by rfl) T.b_isinstance boot_isinstance (pa_cons (pv 2) (pa_cons (pe_bltn (by rfl) T.b_int (by decide +kernel) rfl) pa_nil))) (pe_and (pe_not (pe_callB call_isi (by rfl) T.b_isinstance boot_isinstance (pa_cons (pv 2) (pa_cons (pe_bltn (by rfl) T.b_bool (by decide +kernel) rfl) pa_nil)))) (pe_one (pe_cmpR (op_inU (units65 hr)) (pv 2) (pe_tup (pa_cons (pe_un un_neg pe_int) (pa_cons pe_int pa_nil))) (by rfl))))))) pa_nil)))))
theorem o_are_colours {P : Program} {w : World} {K : PySem.W.Frag} {mg : Str → Option Value} {base : Heap} {f : Addr} {fd : FuncData} (T : Bl mg)  (F : FunD K "are_colours" "are_colours" (defArgs s_are_colours) (defBody s_are_colours) (defScope s_are_colours) [] [] f fd) : FnOk P w K mg base (L2.CX P w) 1 f fd ["family", "value"] (sp_are_colours K) :=
  F.ok sc_are_colours (fun vs H Q E h => spD_len (k := 2) (fun ds o h => by first | exact h.1 | (obtain ⟨_, rfl, _⟩ := h; rfl) | (obtain ⟨_, _, rfl, _⟩ := h; rfl) | (obtain ⟨_, _, _, rfl, _⟩ := h; rfl) | (obtain ⟨_, _, _, _, rfl, _⟩ := h; rfl) | (obtain ⟨_, _, _, _, _, rfl, _⟩ := h; rfl) | (obtain ⟨_, _, _, _, _, _, rfl, _⟩ := h; rfl) | (obtain ⟨_, _, _, _, _, _, _, rfl, _⟩ := h; rfl)) h) (fun cdv A outer s H vs Q E hr h => ⟨t_are_colours K E, PSs.nox (d_are_colours T  f cdv A outer s H E hr), pure_are_colours h⟩)
theorem ok_are_colours {P : Program} {w : World} {K : PySem.W.Frag} {mg : Str → Option Value} {base : Heap} {f : Addr} {fd : FuncData} (T : Bl mg)  (F : FunD K "are_colours" "are_colours" (defArgs s_are_colours) (defBody s_are_colours) (defScope s_are_colours) [] [] f fd) (g : mg "are_colours" = some (.ref f)) : FnAt P w K mg base 1 "are_colours" ["family", "value"] (sp_are_colours K) :=
  ⟨f, fd, o_are_colours T  F, g, F.kp, F.bindsN fun _ _ _ _ _ _ us hl => match us, hl with | [_, _], _ => rfl⟩
abbrev s_is_colours : Stmt := top 12
theorem sc_is_colours : FnScope ["family", "value"] ["family", "value"] (defScope s_is_colours) := ⟨rfl, rfl, rfl, by decide +kernel, rfl, by decide +kernel, by decide +kernel⟩
theorem d_is_colours {P : Program} {w : World} {K : PySem.W.Frag} {mg : Str → Option Value} {base : Heap} (T : Bl mg) (c_are_colours : FnAt P w K mg base 1 "are_colours" ["family", "value"] (sp_are_colours K)) (c_check_family : FnAt P w K mg base 4 "check_family" ["value"] (sp_check_family K)) (f : Addr) (cdv : Value) (A : Around) (outer : List Env) (s : Shared) (H : Hp) (E : XK) (hr : Room 4 (A.deeper (envOfC "is_colours" (defScope s_is_colours) s.heap.objs.size f cdv))) :
  PSs (cxOf (L2.CX P w) P w K mg base ["family", "value"] "is_colours" (defScope s_is_colours) f cdv A outer s H E) (defBody s_is_colours) (t_is_colours K E) :=
  (pss_cons (ps_expr (pe_callF c_check_family (hr.mono (by decide)) (by rfl) (passes_call (takes_of rfl rfl rfl rfl) (fun _ _ _ _ h => h)) (pa_cons (pv 0) pa_nil)))
  (pss_one (ps_ret (pe_callF c_are_colours (hr.mono (by decide)) (by rfl) passL (pa_cons (pv 0) (pa_cons (pv 1) pa_nil))))))
theorem o_is_colours {P : Program} {w : World} {K : PySem.W.Frag} {mg : Str → Option Value} {base : Heap} {f : Addr} {fd : FuncData} (T : Bl mg) (c_are_colours : FnAt P w K mg base 1 "are_colours" ["family", "value"] (sp_are_colours K)) (c_check_family : FnAt P w K mg base 4 "check_family" ["value"] (sp_check_family K)) (F : FunD K "is_colours" "is_colours" (defArgs s_is_colours) (defBody s_is_colours) (defScope s_is_colours) [] [] f fd) : FnOk P w K mg base (L2.CX P w) 5 f fd ["family", "value"] (sp_is_colours K) :=
  F.ok sc_is_colours (fun vs H Q E h => spD_len (k := 2) (fun ds o h => by first | exact h.1 | (obtain ⟨_, rfl, _⟩ := h; rfl) | (obtain ⟨_, _, rfl, _⟩ := h; rfl) | (obtain ⟨_, _, _, rfl, _⟩ := h; rfl) | (obtain ⟨_, _, _, _, rfl, _⟩ := h; rfl) | (obtain ⟨_, _, _, _, _, rfl, _⟩ := h; rfl) | (obtain ⟨_, _, _, _, _, _, rfl, _⟩ := h; rfl) | (obtain ⟨_, _, _, _, _, _, _, rfl, _⟩ := h; rfl)) h) (fun cdv A outer s H vs Q E hr h => ⟨t_is_colours K E, (d_is_colours T c_are_colours c_check_family f cdv A outer s H E hr), pure_is_colours h⟩)
theorem ok_is_colours {P : Program} {w : World} {K : PySem.W.Frag} {mg : Str → Option Value} {base : Heap} {f : Addr} {fd : FuncData} (T : Bl mg) (c_are_colours : FnAt P w K mg base 1 "are_colours" ["family", "value"] (sp_are_colours K)) (c_check_family : FnAt P w K mg base 4 "check_family" ["value"] (sp_check_family K)) (F : FunD K "is_colours" "is_colours" (defArgs s_is_colours) (defBody s_is_colours) (defScope s_is_colours) [] [] f fd) (g : mg "is_colours" = some (.ref f)) : FnAt P w K mg base 5 "is_colours" ["family", "value"] (sp_is_colours K) :=
  ⟨f, fd, o_is_colours T c_are_colours c_check_family F, g, F.kp, F.bindsN fun _ _ _ _ _ _ us hl => match us, hl with | [_, _], _ => rfl⟩
abbrev s_least_uneven : Stmt := top 20
theorem sc_least_uneven : FnScope ["family"] ["family"] (defScope s_least_uneven) := ⟨rfl, rfl, rfl, by decide +kernel, rfl, by decide +kernel, by decide +kernel⟩
theorem d_least_uneven {P : Program} {w : World} {K : PySem.W.Frag} {mg : Str → Option Value} {base : Heap} (T : Bl mg) (c_check_family : FnAt P w K mg base 4 "check_family" ["value"] (sp_check_family K)) (c_found_least : FnAt P w K mg base 3 "found_least" ["family"] (sp_found_least K)) (f : Addr) (cdv : Value) (A : Around) (outer : List Env) (s : Shared) (H : Hp) (E : XK) (hr : Room 4 (A.deeper (envOfC "least_uneven" (defScope s_least_uneven) s.heap.objs.size f cdv))) :
  PSs (cxOf (L2.CX P w) P w K mg base ["family"] "least_uneven" (defScope s_least_uneven) f cdv A outer s H E) (defBody s_least_uneven) (t_least_uneven K E) :=
  (pss_cons (ps_expr (pe_callF c_check_family (hr.mono (by decide)) (by rfl) (passes_call (takes_of rfl rfl rfl rfl) (fun _ _ _ _ h => h)) (pa_cons (pv 0) pa_nil)))
  (pss_one (ps_ret (pe_callF c_found_least (hr.mono (by decide)) (by rfl) passL (pa_cons (pv 0) pa_nil)))))
theorem o_least_uneven {P : Program} {w : World} {K : PySem.W.Frag} {mg : Str → Option Value} {base : Heap} {f : Addr} {fd : FuncData} (T : Bl mg) (c_check_family : FnAt P w K mg base 4 "check_family" ["value"] (sp_check_family K)) (c_found_least : FnAt P w K mg base 3 "found_least" ["family"] (sp_found_least K)) (F : FunD K "least_uneven" "least_uneven" (defArgs s_least_uneven) (defBody s_least_uneven) (defScope s_least_uneven) [] [] f fd) : FnOk P w K mg base (L2.CX P w) 5 f fd ["family"] (sp_least_uneven K) :=
  F.ok sc_least_uneven (fun vs H Q E h => spD_len (k := 1) (fun ds o h => by first | exact h.1 | (obtain ⟨_, rfl, _⟩ := h; rfl) | (obtain ⟨_, _, rfl, _⟩ := h; rfl) | (obtain ⟨_, _, _, rfl, _⟩ := h; rfl) | (obtain ⟨_, _, _, _, rfl, _⟩ := h; rfl) | (obtain ⟨_, _, _, _, _, rfl, _⟩ := h; rfl) | (obtain ⟨_, _, _, _, _, _, rfl, _⟩ := h; rfl) | (obtain ⟨_, _, _, _, _, _, _, rfl, _⟩ := h; rfl)) h) (fun cdv A outer s H vs Q E hr h => ⟨t_least_uneven K E, (d_least_uneven T c_check_family c_found_least f cdv A outer s H E hr), pure_least_uneven h⟩)
theorem ok_least_uneven {P : Program} {w : World} {K : PySem.W.Frag} {mg : Str → Option Value} {base : Heap} {f : Addr} {fd : FuncData} (T : Bl mg) (c_check_family : FnAt P w K mg base 4 "check_family" ["value"] (sp_check_family K)) (c_found_least : FnAt P w K mg base 3 "found_least" ["family"] (sp_found_least K)) (F : FunD K "least_uneven" "least_uneven" (defArgs s_least_uneven) (defBody s_least_uneven) (defScope s_least_uneven) [] [] f fd) (g : mg "least_uneven" = some (.ref f)) : FnAt P w K mg base 5 "least_uneven" ["family"] (sp_least_uneven K) :=
  ⟨f, fd, o_least_uneven T c_check_family c_found_least F, g, F.kp, F.bindsN fun _ _ _ _ _ _ us hl => match us, hl with | [_], _ => rfl⟩
abbrev s_check_both : Stmt := top 13
theorem sc_check_both : FnScope ["family", "colours"] ["family", "colours"] (defScope s_check_both) := ⟨rfl, rfl, rfl, by decide +kernel, rfl, by decide +kernel, by decide +kernel⟩
theorem d_check_both {P : Program} {w : World} {K : PySem.W.Frag} {mg : Str → Option Value} {base : Heap} (T : Bl mg) (c_are_colours : FnAt P w K mg base 1 "are_colours" ["family", "value"] (sp_are_colours K)) (c_check_family : FnAt P w K mg base 4 "check_family" ["value"] (sp_check_family K)) (x_InvalidColours : ExcAt K mg "InvalidColours") (f : Addr) (cdv : Value) (A : Around) (outer : List Env) (s : Shared) (H : Hp) (E : XK) (hr : Room 4 (A.deeper (envOfC "check_both" (defScope s_check_both) s.heap.objs.size f cdv))) :
  PSs (cxOf (L2.CX P w) P w K mg base ["family", "colours"] "check_both" (defScope s_check_both) f cdv A outer s H E) (defBody s_check_both) (t_check_both K E) :=
  (pss_cons (ps_expr (pe_callF c_check_family (hr.mono (by decide)) (by rfl) (passes_call (takes_of rfl rfl rfl rfl) (fun _ _ _ _ h => h)) (pa_cons (pv 0) pa_nil)))
  (pss_one (ps_if (pt_not (pt_val (pe_callF c_are_colours (hr.mono (by decide)) (by rfl) passL (pa_cons (pv 0) (pa_cons (pv 1) pa_nil))))) (pss_one (ps_raiseF x_InvalidColours)) pss_nil)))
theorem o_check_both {P : Program} {w : World} {K : PySem.W.Frag} {mg : Str → Option Value} {base : Heap} {f : Addr} {fd : FuncData} (T : Bl mg) (c_are_colours : FnAt P w K mg base 1 "are_colours" ["family", "value"] (sp_are_colours K)) (c_check_family : FnAt P w K mg base 4 "check_family" ["value"] (sp_check_family K)) (x_InvalidColours : ExcAt K mg "InvalidColours") (F : FunD K "check_both" "check_both" (defArgs s_check_both) (defBody s_check_both) (defScope s_check_both) [] [] f fd) : FnOk P w K mg base (L2.CX P w) 5 f fd ["family", "colours"] (sp_check_both K) :=
  F.ok sc_check_both (fun vs H Q E h => spD_len (k := 2) (fun ds o h => by first | exact h.1 | (obtain ⟨_, rfl, _⟩ := h; rfl) | (obtain ⟨_, _, rfl, _⟩ := h; rfl) | (obtain ⟨_, _, _, rfl, _⟩ := h; rfl) | (obtain ⟨_, _, _, _, rfl, _⟩ := h; rfl) | (obtain ⟨_, _, _, _, _, rfl, _⟩ := h; rfl) | (obtain ⟨_, _, _, _, _, _, rfl, _⟩ := h; rfl) | (obtain ⟨_, _, _, _, _, _, _, rfl, _⟩ := h; rfl)) h) (fun cdv A outer s H vs Q E hr h => ⟨t_check_both K E, (d_check_both T c_are_colours c_check_family x_InvalidColours f cdv A outer s H E hr), pure_check_both h⟩)
theorem ok_check_both {P : Program} {w : World} {K : PySem.W.Frag} {mg : Str → Option Value} {base : Heap} {f : Addr} {fd : FuncData} (T : Bl mg) (c_are_colours : FnAt P w K mg base 1 "are_colours" ["family", "value"] (sp_are_colours K)) (c_check_family : FnAt P w K mg base 4 "check_family" ["value"] (sp_check_family K)) (x_InvalidColours : ExcAt K mg "InvalidColours") (F : FunD K "check_both" "check_both" (defArgs s_check_both) (defBody s_check_both) (defScope s_check_both) [] [] f fd) (g : mg "check_both" = some (.ref f)) : FnAt P w K mg base 5 "check_both" ["family", "colours"] (sp_check_both K) :=
  ⟨f, fd, o_check_both T c_are_colours c_check_family x_InvalidColours F, g, F.kp, F.bindsN fun _ _ _ _ _ _ us hl => match us, hl with | [_, _], _ => rfl⟩
abbrev s_sums : Stmt := top 16
theorem sc_sums : FnScope ["family", "colours"] ["family", "colours"] (defScope s_sums) := ⟨rfl, rfl, rfl, by decide +kernel, rfl, by decide +kernel, by decide +kernel⟩
theorem d_sums {P : Program} {w : World} {K : PySem.W.Frag} {mg : Str → Option Value} {base : Heap} (T : Bl mg) (c_check_both : FnAt P w K mg base 5 "check_both" ["family", "colours"] (sp_check_both K)) (c_found_sums : FnAt P w K mg base 1 "found_sums" ["family", "colours"] (sp_found_sums K)) (f : Addr) (cdv : Value) (A : Around) (outer : List Env) (s : Shared) (H : Hp) (E : XK) (hr : Room 5 (A.deeper (envOfC "sums" (defScope s_sums) s.heap.objs.size f cdv))) :
  PSs (cxOf (L2.CX P w) P w K mg base ["family", "colours"] "sums" (defScope s_sums) f cdv A outer s H E) (defBody s_sums) (t_sums K E) :=
  (pss_cons (ps_expr (pe_callF c_check_both (hr.mono (by decide)) (by rfl) (passes_call (takes_of rfl rfl rfl rfl) (fun _ _ _ _ h => h)) (pa_cons (pv 0) (pa_cons (pv 1) pa_nil))))
  (pss_one (ps_ret (pe_callF c_found_sums (hr.mono (by decide)) (by rfl) passL (pa_cons (pv 0) (pa_cons (pv 1) pa_nil))))))
theorem o_sums {P : Program} {w : World} {K : PySem.W.Frag} {mg : Str → Option Value} {base : Heap} {f : Addr} {fd : FuncData} (T : Bl mg) (c_check_both : FnAt P w K mg base 5 "check_both" ["family", "colours"] (sp_check_both K)) (c_found_sums : FnAt P w K mg base 1 "found_sums" ["family", "colours"] (sp_found_sums K)) (F : FunD K "sums" "sums" (defArgs s_sums) (defBody s_sums) (defScope s_sums) [] [] f fd) : FnOk P w K mg base (L2.CX P w) 6 f fd ["family", "colours"] (sp_sums K) :=
  F.ok sc_sums (fun vs H Q E h => spD_len (k := 2) (fun ds o h => by first | exact h.1 | (obtain ⟨_, rfl, _⟩ := h; rfl) | (obtain ⟨_, _, rfl, _⟩ := h; rfl) | (obtain ⟨_, _, _, rfl, _⟩ := h; rfl) | (obtain ⟨_, _, _, _, rfl, _⟩ := h; rfl) | (obtain ⟨_, _, _, _, _, rfl, _⟩ := h; rfl) | (obtain ⟨_, _, _, _, _, _, rfl, _⟩ := h; rfl) | (obtain ⟨_, _, _, _, _, _, _, rfl, _⟩ := h; rfl)) h) (fun cdv A outer s H vs Q E hr h => ⟨t_sums K E, (d_sums T c_check_both c_found_sums f cdv A outer s H E hr), pure_sums h⟩)
theorem ok_sums {P : Program} {w : World} {K : PySem.W.Frag} {mg : Str → Option Value} {base : Heap} {f : Addr} {fd : FuncData} (T : Bl mg) (c_check_both : FnAt P w K mg base 5 "check_both" ["family", "colours"] (sp_check_both K)) (c_found_sums : FnAt P w K mg base 1 "found_sums" ["family", "colours"] (sp_found_sums K)) (F : FunD K "sums" "sums" (defArgs s_sums) (defBody s_sums) (defScope s_sums) [] [] f fd) (g : mg "sums" = some (.ref f)) : FnAt P w K mg base 6 "sums" ["family", "colours"] (sp_sums K) :=
  ⟨f, fd, o_sums T c_check_both c_found_sums F, g, F.kp, F.bindsN fun _ _ _ _ _ _ us hl => match us, hl with | [_, _], _ => rfl⟩
abbrev s_uneven : Stmt := top 17
theorem sc_uneven : FnScope ["family", "colours"] ["family", "colours"] (defScope s_uneven) := ⟨rfl, rfl, rfl, by decide +kernel, rfl, by decide +kernel, by decide +kernel⟩
theorem d_uneven {P : Program} {w : World} {K : PySem.W.Frag} {mg : Str → Option Value} {base : Heap} (T : Bl mg) (c_check_both : FnAt P w K mg base 5 "check_both" ["family", "colours"] (sp_check_both K)) (c_found_uneven : FnAt P w K mg base 2 "found_uneven" ["family", "colours"] (sp_found_uneven K)) (f : Addr) (cdv : Value) (A : Around) (outer : List Env) (s : Shared) (H : Hp) (E : XK) (hr : Room 5 (A.deeper (envOfC "uneven" (defScope s_uneven) s.heap.objs.size f cdv))) :
  PSs (cxOf (L2.CX P w) P w K mg base ["family", "colours"] "uneven" (defScope s_uneven) f cdv A outer s H E) (defBody s_uneven) (t_uneven K E) :=
  (pss_cons (ps_expr (pe_callF c_check_both (hr.mono (by decide)) (by rfl) (passes_call (takes_of rfl rfl rfl rfl) (fun _ _ _ _ h => h)) (pa_cons (pv 0) (pa_cons (pv 1) pa_nil))))
  (pss_one (ps_ret (pe_callF c_found_uneven (hr.mono (by decide)) (by rfl) passL (pa_cons (pv 0) (pa_cons (pv 1) pa_nil))))))
theorem o_uneven {P : Program} {w : World} {K : PySem.W.Frag} {mg : Str → Option Value} {base : Heap} {f : Addr} {fd : FuncData} (T : Bl mg) (c_check_both : FnAt P w K mg base 5 "check_both" ["family", "colours"] (sp_check_both K)) (c_found_uneven : FnAt P w K mg base 2 "found_uneven" ["family", "colours"] (sp_found_uneven K)) (F : FunD K "uneven" "uneven" (defArgs s_uneven) (defBody s_uneven) (defScope s_uneven) [] [] f fd) : FnOk P w K mg base (L2.CX P w) 6 f fd ["family", "colours"] (sp_uneven K) :=
  F.ok sc_uneven (fun vs H Q E h => spD_len (k := 2) (fun ds o h => by first | exact h.1 | (obtain ⟨_, rfl, _⟩ := h; rfl) | (obtain ⟨_, _, rfl, _⟩ := h; rfl) | (obtain ⟨_, _, _, rfl, _⟩ := h; rfl) | (obtain ⟨_, _, _, _, rfl, _⟩ := h; rfl) | (obtain ⟨_, _, _, _, _, rfl, _⟩ := h; rfl) | (obtain ⟨_, _, _, _, _, _, rfl, _⟩ := h; rfl) | (obtain ⟨_, _, _, _, _, _, _, rfl, _⟩ := h; rfl)) h) (fun cdv A outer s H vs Q E hr h => ⟨t_uneven K E, (d_uneven T c_check_both c_found_uneven f cdv A outer s H E hr), pure_uneven h⟩)
theorem ok_uneven {P : Program} {w : World} {K : PySem.W.Frag} {mg : Str → Option Value} {base : Heap} {f : Addr} {fd : FuncData} (T : Bl mg) (c_check_both : FnAt P w K mg base 5 "check_both" ["family", "colours"] (sp_check_both K)) (c_found_uneven : FnAt P w K mg base 2 "found_uneven" ["family", "colours"] (sp_found_uneven K)) (F : FunD K "uneven" "uneven" (defArgs s_uneven) (defBody s_uneven) (defScope s_uneven) [] [] f fd) (g : mg "uneven" = some (.ref f)) : FnAt P w K mg base 6 "uneven" ["family", "colours"] (sp_uneven K) :=
  ⟨f, fd, o_uneven T c_check_both c_found_uneven F, g, F.kp, F.bindsN fun _ _ _ _ _ _ us hl => match us, hl with | [_, _], _ => rfl⟩
abbrev s_law : Stmt := top 30
theorem sc_law : FnScope ["script", "town", "family", "things", "some", "sizes", "hues", "least", "best", "k", "turn", "opposite", "one", "often", "bads", "bad"] ["script"] (defScope s_law) := ⟨rfl, rfl, rfl, by decide +kernel, rfl, by decide +kernel, by decide +kernel⟩
theorem d_law {P : Program} {w : World} {K : PySem.W.Frag} {mg : Str → Option Value} {base : Heap} (T : Bl mg) (c_law_all : FnAt P w K mg base 1 "_law_all" ["things", "choices"] (sp_law_all K)) (c_law_family : FnAt P w K mg base 2 "_law_family" ["script", "town", "most"] (sp_law_family K)) (c_law_hues : FnAt P w K mg base 2 "_law_hues" ["script", "town", "things"] (sp_law_hues K)) (c_law_sums : FnAt P w K mg base 1 "_law_sums" ["family", "hues"] (sp_law_sums K)) (c_law_town : FnAt P w K mg base 1 "_law_town" ["script"] (sp_law_town K)) (c_law_uneven : FnAt P w K mg base 2 "_law_uneven" ["family", "hues"] (sp_law_uneven K)) (c_all_best : FnAt P w K mg base 5 "all_best" ["family"] (sp_all_best K)) (c_is_colours : FnAt P w K mg base 5 "is_colours" ["family", "value"] (sp_is_colours K)) (c_least_uneven : FnAt P w K mg base 5 "least_uneven" ["family"] (sp_least_uneven K)) (c_sums : FnAt P w K mg base 6 "sums" ["family", "colours"] (sp_sums K)) (c_uneven : FnAt P w K mg base 6 "uneven" ["family", "colours"] (sp_uneven K)) (f : Addr) (cdv : Value) (A : Around) (outer : List Env) (s : Shared) (H : Hp) (E : XK) (hr : Room 6 (A.deeper (envOfC "law" (defScope s_law) s.heap.objs.size f cdv))) :
  PSs (cxOf (L2.CX P w) P w K mg base ["script", "town", "family", "things", "some", "sizes", "hues", "least", "best", "k", "turn", "opposite", "one", "often", "bads", "bad"] "law" (defScope s_law) f cdv A outer s H E).nox (defBody s_law) (t_law K E) :=
  (pss_cons (ps_set (i := 1) sc_law.nd rfl (by first | exact Or.inl rfl | exact Or.inr rfl) (pe_callF c_law_town (hr.mono (by decide)) (by rfl) passL (pa_cons (pv 0) pa_nil)))
  (pss_cons (ps_set (i := 2) sc_law.nd rfl (by first | exact Or.inl rfl | exact Or.inr rfl) (pe_callF c_law_family (hr.mono (by decide)) (by rfl) passL (pa_cons (pv 0) (pa_cons (pv 1) (pa_cons pe_int pa_nil)))))
  (pss_cons (ps_set (i := 3) sc_law.nd rfl (by first | exact Or.inl rfl | exact Or.inr rfl) (pe_ix ix_seq (pv 2) pe_int (fun _ _ => rfl)))
  (pss_cons (ps_set (i := 4) sc_law.nd rfl (by first | exact Or.inl rfl | exact Or.inr rfl) (pe_callF c_law_all (hr.mono (by decide)) (by rfl) passL (pa_cons (pv 3) (pa_cons (pe_tup (pa_cons (pe_un un_neg pe_int) (pa_cons pe_int pa_nil))) pa_nil))))
  (pss_cons (ps_set (i := 5) sc_law.nd rfl (by first | exact Or.inl rfl | exact Or.inr rfl) (pe_lc (own := [("hues", 6)]) (by rfl) sc_law.nd (pi_seq (pv 4)) (blkOk_by (own := [("hues", 6)]) (by kernel_rfl)) (fun _ _ _ _ _ => (pg_name (i := 6) sc_law.nd rfl (by first | exact Or.inl rfl | exact Or.inr rfl))) (fun _ _ _ _ _ => pts_nil) (fun _ _ _ _ _ => (pe_callF c_law_uneven (hr.mono (by decide)) (by rfl) passL (pa_cons (pv 2) (pa_cons (pv 6) pa_nil))))))
  (pss_cons (ps_set (i := 7) sc_law.nd rfl (by first | exact Or.inl rfl | exact Or.inr rfl) (pe_callB (cr_minU rfl) (by rfl) T.b_min (by decide +kernel) (pa_cons (pv 5) pa_nil)))
  (pss_cons (ps_if (pt_cmpR (op_neD hr.units) (pe_callF c_least_uneven (hr.mono (by decide)) (by rfl) passL (pa_cons (pv 2) pa_nil)) (pv 7) (nomark _)) (pss_one (ps_ret pe_bl)) pss_nil)
  (pss_cons (ps_set (i := 8) sc_law.nd rfl (by first | exact Or.inl rfl | exact Or.inr rfl) (pe_callF c_all_best (hr.mono (by decide)) (by rfl) passL (pa_cons (pv 2) pa_nil)))
  (pss_cons (ps_if (pt_cmpR (op_neD hr.units) (pv 8) (pe_callTy cr_tupleOf (by rfl) T.b_tuple (by decide +kernel) (pa_cons (pe_lc (own := [("k", 9)]) (by rfl) sc_law.nd (pi_range1 (by rfl) T.b_range (pa_cons (pe_callB cr_lenU (by rfl) T.b_len (by decide +kernel) (pa_cons (pv 4) pa_nil)) pa_nil)) (blkOk_by (own := [("k", 9)]) (by kernel_rfl)) (fun _ _ _ _ _ => (pg_name (i := 9) sc_law.nd rfl (by first | exact Or.inl rfl | exact Or.inr rfl))) (fun _ _ _ _ _ => (pts_one (pt_cmpR (op_eqD hr.units) (pe_ix ix_seq (pv 5) (pv 9) (fun _ _ => rfl)) (pv 7) (nomark _)))) (fun _ _ _ _ _ => (pe_ix ix_seq (pv 4) (pv 9) (fun _ _ => rfl)))) pa_nil)) (nomark _)) (pss_one (ps_ret pe_bl)) pss_nil)
  (pss_cons (ps_for PassesOwn.never rfl (pi_range1 (by rfl) T.b_range (pa_cons pe_int pa_nil)) (pg_name (i := 10) sc_law.nd rfl (by first | exact Or.inl rfl | exact Or.inr rfl)) (pss_cons (ps_set (i := 6) sc_law.nd rfl (by first | exact Or.inl rfl | exact Or.inr rfl) (pe_callF c_law_hues (hr.mono (by decide)) (by rfl) passL (pa_cons (pv 0) (pa_cons (pv 1) (pa_cons (pv 3) pa_nil)))))
  (pss_cons (ps_if (PW.pt (pw_or (pt_cmpR op_notU (pe_callF c_is_colours (hr.mono (by decide)) (by rfl) passL (pa_cons (pv 2) (pa_cons (pv 6) pa_nil))) pe_bl (nomark _)) (pw_or1 (pt_cmpR (op_neD hr.units) (pe_callF c_sums (hr.mono (by decide)) (by rfl) passL (pa_cons (pv 2) (pa_cons (pv 6) pa_nil))) (pe_callF c_law_sums (hr.mono (by decide)) (by rfl) passL (pa_cons (pv 2) (pa_cons (pv 6) pa_nil))) (nomark _))))) (pss_one (ps_ret pe_bl)) pss_nil)
  (pss_cons (ps_if (pt_cmpR (op_neD hr.units) (pe_callF c_uneven (hr.mono (by decide)) (by rfl) passL (pa_cons (pv 2) (pa_cons (pv 6) pa_nil))) (pe_callF c_law_uneven (hr.mono (by decide)) (by rfl) passL (pa_cons (pv 2) (pa_cons (pv 6) pa_nil))) (nomark _)) (pss_one (ps_ret pe_bl)) pss_nil)
  (pss_cons (ps_set (i := 11) sc_law.nd rfl (by first | exact Or.inl rfl | exact Or.inr rfl) (pe_callTy cr_tupleOf (by rfl) T.b_tuple (by decide +kernel) (pa_cons (pe_lc (own := [("one", 12)]) (by rfl) sc_law.nd (pi_seq (pv 6)) (blkOk_by (own := [("one", 12)]) (by kernel_rfl)) (fun _ _ _ _ _ => (pg_name (i := 12) sc_law.nd rfl (by first | exact Or.inl rfl | exact Or.inr rfl))) (fun _ _ _ _ _ => pts_nil) (fun _ _ _ _ _ => (pe_op op_sub pe_int (pv 12)))) pa_nil)))
  (pss_one (ps_if (PW.pt (pw_or (pt_cmpR (op_neD hr.units) (pe_callF c_uneven (hr.mono (by decide)) (by rfl) passL (pa_cons (pv 2) (pa_cons (pv 11) pa_nil))) (pe_callF c_uneven (hr.mono (by decide)) (by rfl) passL (pa_cons (pv 2) (pa_cons (pv 6) pa_nil))) (nomark _)) (pw_or1 (pt_cmpR (op_neD hr.units) (pe_cmpR (op_inU (units65 hr)) (pv 11) (pv 8) (by rfl)) (pe_cmpR (op_inU (units65 hr)) (pv 6) (pv 8) (by rfl)) (nomark _))))) (pss_one (ps_ret pe_bl)) pss_nil)))))))
  (pss_cons (ps_set (i := 13) sc_law.nd rfl (by first | exact Or.inl rfl | exact Or.inr rfl) (pe_callB (cr_maxU rfl) (by rfl) T.b_max (by decide +kernel) (pa_cons (pe_lc (own := [("k", 9)]) (by rfl) sc_law.nd (pi_range1 (by rfl) T.b_range (pa_cons (pv 3) pa_nil)) (blkOk_by (own := [("k", 9)]) (by kernel_rfl)) (fun _ _ _ _ _ => (pg_name (i := 9) sc_law.nd rfl (by first | exact Or.inl rfl | exact Or.inr rfl))) (fun _ _ _ _ _ => pts_nil) (fun _ _ _ _ _ => (pe_callB cr_lenU (by rfl) T.b_len (by decide +kernel) (pa_cons (pe_lc (own := [("one", 12)]) (by rfl) sc_law.nd (pi_seq (pe_ix ix_seq (pv 2) pe_int (fun _ _ => rfl))) (blkOk_by (own := [("one", 12)]) (by kernel_rfl)) (fun _ _ _ _ _ => (pg_name (i := 12) sc_law.nd rfl (by first | exact Or.inl rfl | exact Or.inr rfl))) (fun _ _ _ _ _ => (pts_one (pt_cmpR (op_inU (units65 hr)) (pv 9) (pv 12) (by rfl)))) (fun _ _ _ _ _ => (pv 12))) pa_nil)))) pa_nil)))
  (pss_cons (ps_if (PW.pt (pw_or (pt_cmpR op_ge (pv 7) (pe_op op_mulU pe_int (pv 13)) (nomark _)) (pw_or1 (PW.pt (pw_and (pt_cmpR (op_neD hr.units) (pe_op op_mod (pv 7) pe_int) pe_int (nomark _)) (pw_and1 (pt_cmpR (op_eqD hr.units) (pe_lc (own := [("one", 12)]) (by rfl) sc_law.nd (pi_seq (pe_ix ix_seq (pv 2) pe_int (fun _ _ => rfl))) (blkOk_by (own := [("one", 12)]) (by kernel_rfl)) (fun _ _ _ _ _ => (pg_name (i := 12) sc_law.nd rfl (by first | exact Or.inl rfl | exact Or.inr rfl))) (fun _ _ _ _ _ => (pts_one (pt_cmpR (op_eqD hr.units) (pe_op op_mod (pe_callB cr_lenU (by rfl) T.b_len (by decide +kernel) (pa_cons (pv 12) pa_nil)) pe_int) pe_int (nomark _)))) (fun _ _ _ _ _ => (pv 12))) (pe_lst pa_nil) (nomark _)))))))) (pss_one (ps_ret pe_bl)) pss_nil)
  (pss_cons (ps_set (i := 14) sc_law.nd rfl (by first | exact Or.inl rfl | exact Or.inr rfl) (pe_lst (pa_cons pe_non (pa_cons (pe_tup pa_nil) (pa_cons (pe_op op_addU (pv 6) (pe_tup (pa_cons pe_int pa_nil))) (pa_cons (pe_slice sl_U (pv 6) (po_some pe_int) po_none) (pa_cons (pe_callTy (cr_listU rfl) (by rfl) T.b_list (by decide +kernel) (pa_cons (pv 6) pa_nil)) (pa_cons (pe_op op_addU (pe_tup (pa_cons pe_int pa_nil)) (pe_slice sl_U (pv 6) (po_some pe_int) po_none)) (pa_cons (pe_op op_mulU (pe_tup (pa_cons pe_bl pa_nil)) (pv 3)) (pa_cons (pe_op op_mulU (pe_tup (pa_cons pe_str pa_nil)) (pv 3)) pa_nil))))))))))
  (pss_one (ps_ret (pe_cmpR (op_eqD hr.units) (pe_lc (own := [("bad", 15)]) (by rfl) sc_law.nd (pi_seq (pv 14)) (blkOk_by (own := [("bad", 15)]) (by kernel_rfl)) (fun _ _ _ _ _ => (pg_name (i := 15) sc_law.nd rfl (by first | exact Or.inl rfl | exact Or.inr rfl))) (fun _ _ _ _ _ => (pts_one (pt_val (pe_callF c_is_colours (hr.mono (by decide)) (by rfl) passL (pa_cons (pv 2) (pa_cons (pv 15) pa_nil)))))) (fun _ _ _ _ _ => (pv 15))) (pe_lst pa_nil) (nomark _)))))))))))))))))
theorem o_law {P : Program} {w : World} {K : PySem.W.Frag} {mg : Str → Option Value} {base : Heap} {f : Addr} {fd : FuncData} (T : Bl mg) (c_law_all : FnAt P w K mg base 1 "_law_all" ["things", "choices"] (sp_law_all K)) (c_law_family : FnAt P w K mg base 2 "_law_family" ["script", "town", "most"] (sp_law_family K)) (c_law_hues : FnAt P w K mg base 2 "_law_hues" ["script", "town", "things"] (sp_law_hues K)) (c_law_sums : FnAt P w K mg base 1 "_law_sums" ["family", "hues"] (sp_law_sums K)) (c_law_town : FnAt P w K mg base 1 "_law_town" ["script"] (sp_law_town K)) (c_law_uneven : FnAt P w K mg base 2 "_law_uneven" ["family", "hues"] (sp_law_uneven K)) (c_all_best : FnAt P w K mg base 5 "all_best" ["family"] (sp_all_best K)) (c_is_colours : FnAt P w K mg base 5 "is_colours" ["family", "value"] (sp_is_colours K)) (c_least_uneven : FnAt P w K mg base 5 "least_uneven" ["family"] (sp_least_uneven K)) (c_sums : FnAt P w K mg base 6 "sums" ["family", "colours"] (sp_sums K)) (c_uneven : FnAt P w K mg base 6 "uneven" ["family", "colours"] (sp_uneven K)) (F : FunD K "law" "law" (defArgs s_law) (defBody s_law) (defScope s_law) [] [] f fd) : FnOk P w K mg base L2.CX0 7 f fd ["script"] (spLaw K) :=
  F.ok sc_law (fun vs H Q E h => by obtain ⟨a, ns, rfl, _⟩ := h; rfl) (fun cdv A outer s H vs Q E hr h => ⟨t_law K E, PSs.nox (d_law T c_law_all c_law_family c_law_hues c_law_sums c_law_town c_law_uneven c_all_best c_is_colours c_least_uneven c_sums c_uneven f cdv A outer s H E hr), pure_law20 plain20 h⟩)
def dd_law_all : He.DefD := ⟨("_law_all", none), "_law_all", "_law_all", defArgs s_law_all, defBody s_law_all, defScope s_law_all, [], []⟩
def dd_law_draw : He.DefD := ⟨("_law_draw", none), "_law_draw", "_law_draw", defArgs s_law_draw, defBody s_law_draw, defScope s_law_draw, [], []⟩
def dd_law_family : He.DefD := ⟨("_law_family", none), "_law_family", "_law_family", defArgs s_law_family, defBody s_law_family, defScope s_law_family, [], []⟩
def dd_law_hues : He.DefD := ⟨("_law_hues", none), "_law_hues", "_law_hues", defArgs s_law_hues, defBody s_law_hues, defScope s_law_hues, [], []⟩
def dd_law_sums : He.DefD := ⟨("_law_sums", none), "_law_sums", "_law_sums", defArgs s_law_sums, defBody s_law_sums, defScope s_law_sums, [], []⟩
def dd_law_town : He.DefD := ⟨("_law_town", none), "_law_town", "_law_town", defArgs s_law_town, defBody s_law_town, defScope s_law_town, [], []⟩
def dd_law_uneven : He.DefD := ⟨("_law_uneven", none), "_law_uneven", "_law_uneven", defArgs s_law_uneven, defBody s_law_uneven, defScope s_law_uneven, [], []⟩
def dd_all_colours : He.DefD := ⟨("all_colours", none), "all_colours", "all_colours", defArgs s_all_colours, defBody s_all_colours, defScope s_all_colours, [], []⟩
def dd_is_between : He.DefD := ⟨("is_between", none), "is_between", "is_between", defArgs s_is_between, defBody s_is_between, defScope s_is_between, [], []⟩
def dd_is_lot : He.DefD := ⟨("is_lot", none), "is_lot", "is_lot", defArgs s_is_lot, defBody s_is_lot, defScope s_is_lot, [], []⟩
def dd_is_family : He.DefD := ⟨("is_family", none), "is_family", "is_family", defArgs s_is_family, defBody s_is_family, defScope s_is_family, [], []⟩
def dd_check_family : He.DefD := ⟨("check_family", none), "check_family", "check_family", defArgs s_check_family, defBody s_check_family, defScope s_check_family, [], []⟩
def dd_found_sums : He.DefD := ⟨("found_sums", none), "found_sums", "found_sums", defArgs s_found_sums, defBody s_found_sums, defScope s_found_sums, [], []⟩
def dd_found_uneven : He.DefD := ⟨("found_uneven", none), "found_uneven", "found_uneven", defArgs s_found_uneven, defBody s_found_uneven, defScope s_found_uneven, [], []⟩
def dd_found_least : He.DefD := ⟨("found_least", none), "found_least", "found_least", defArgs s_found_least, defBody s_found_least, defScope s_found_least, [], []⟩
def dd_all_best : He.DefD := ⟨("all_best", none), "all_best", "all_best", defArgs s_all_best, defBody s_all_best, defScope s_all_best, [], []⟩
def dd_are_colours : He.DefD := ⟨("are_colours", none), "are_colours", "are_colours", defArgs s_are_colours, defBody s_are_colours, defScope s_are_colours, [], []⟩
def dd_is_colours : He.DefD := ⟨("is_colours", none), "is_colours", "is_colours", defArgs s_is_colours, defBody s_is_colours, defScope s_is_colours, [], []⟩
def dd_least_uneven : He.DefD := ⟨("least_uneven", none), "least_uneven", "least_uneven", defArgs s_least_uneven, defBody s_least_uneven, defScope s_least_uneven, [], []⟩
def dd_check_both : He.DefD := ⟨("check_both", none), "check_both", "check_both", defArgs s_check_both, defBody s_check_both, defScope s_check_both, [], []⟩
def dd_sums : He.DefD := ⟨("sums", none), "sums", "sums", defArgs s_sums, defBody s_sums, defScope s_sums, [], []⟩
def dd_uneven : He.DefD := ⟨("uneven", none), "uneven", "uneven", defArgs s_uneven, defBody s_uneven, defScope s_uneven, [], []⟩
def dd_law : He.DefD := ⟨("law", none), "law", "law", defArgs s_law, defBody s_law, defScope s_law, [], []⟩
def fn : List He.DefD := [dd_law_all, dd_law_draw, dd_law_family, dd_law_hues, dd_law_sums, dd_law_town, dd_law_uneven, dd_all_colours, dd_is_between, dd_is_lot, dd_is_family, dd_check_family, dd_found_sums, dd_found_uneven, dd_found_least, dd_all_best, dd_are_colours, dd_is_colours, dd_least_uneven, dd_check_both, dd_sums, dd_uneven, dd_law]
def fa : List He.Fa := [.glo "_law_all", .glo "_law_draw", .glo "_law_family", .glo "_law_hues", .glo "_law_sums", .glo "_law_town", .glo "_law_uneven", .glo "all_colours", .glo "is_between", .glo "is_lot", .glo "is_family", .glo "check_family", .glo "found_sums", .glo "found_uneven", .glo "found_least", .glo "all_best", .glo "are_colours", .glo "is_colours", .glo "least_uneven", .glo "check_both", .glo "sums", .glo "uneven", .glo "law", .free "len", .free "isinstance", .free "int", .free "bool", .free "tuple", .free "list", .free "dict", .free "str", .free "set", .free "all", .free "any", .free "range", .free "sum", .free "max", .free "min", .free "abs", .free "sorted", .free "enumerate", .free "zip", .free "ValueError", .glo "InvalidColours", .glo "InvalidFamily", .exc "InvalidColours", .exc "InvalidFamily"]
abbrev R : PySem.W.OpenRow := PySem.W.OpenLaw.row PySem.Challenge.rw_lotcolours_k20_whole_colours
abbrev hk : PySem.W.Hook := He.hookD 5 fa fn
def ob (s : PySem.W.SharedT) : He.AlD := He.obsDG 5 fa fn (HandSHeadRun.getT s)
theorem ob_eq (s : PySem.W.SharedT) : ob s = hk.obs s.abs := He.obsDG_eq (HandSHeadRun.getT_eq s)
theorem run (w : World) : HandSHeadRun.RunEq R (PySem.W.view R.prog [30]) hk ob 1500 ["ColourError", "InvalidFamily", "InvalidColours", "is_between", "is_lot", "is_family", "check_family", "are_colours", "is_colours", "check_both", "found_sums", "found_uneven", "sums", "uneven", "all_colours", "found_least", "least_uneven", "all_best", "_law_town", "_law_draw", "_law_family", "_law_all", "_law_sums", "_law_uneven", "_law_hues"] w := by
  intro os
  kernel_rfl
theorem facts {P : Program} {w : World} {K : PySem.W.Frag} {h : Heap} {mg : Str → Option Value} {f : Addr} (X : K.In h) (G : h.Ns mainGlobals mg) (hfa : mg ("law" : Str) = some (.ref f)) (c : He.SaysD fa fn K) :
    ∃ fd : FuncData, (∀ (s : Shared) (v : Value), BindsTo s fd ⟨[v], []⟩ [("script", v)]) ∧ ∀ base : Heap, K.In base → base.Ns mainGlobals mg → FnOk P w K mg base L2.CX0 7 f fd ["script"] (spLaw K) := by
  have T : Bl mg := ⟨He.free_ok X G (c.fact 23 (f := .free "len") rfl), He.free_ok X G (c.fact 24 (f := .free "isinstance") rfl), He.free_ok X G (c.fact 25 (f := .free "int") rfl), He.free_ok X G (c.fact 26 (f := .free "bool") rfl), He.free_ok X G (c.fact 27 (f := .free "tuple") rfl), He.free_ok X G (c.fact 28 (f := .free "list") rfl), He.free_ok X G (c.fact 29 (f := .free "dict") rfl), He.free_ok X G (c.fact 30 (f := .free "str") rfl), He.free_ok X G (c.fact 31 (f := .free "set") rfl), He.free_ok X G (c.fact 32 (f := .free "all") rfl), He.free_ok X G (c.fact 33 (f := .free "any") rfl), He.free_ok X G (c.fact 34 (f := .free "range") rfl), He.free_ok X G (c.fact 35 (f := .free "sum") rfl), He.free_ok X G (c.fact 36 (f := .free "max") rfl), He.free_ok X G (c.fact 37 (f := .free "min") rfl), He.free_ok X G (c.fact 38 (f := .free "abs") rfl), He.free_ok X G (c.fact 39 (f := .free "sorted") rfl), He.free_ok X G (c.fact 40 (f := .free "enumerate") rfl), He.free_ok X G (c.fact 41 (f := .free "zip") rfl), He.free_ok X G (c.fact 42 (f := .free "ValueError") rfl)⟩
  have x_InvalidColours : ExcAt K mg "InvalidColours" := ⟨He.glo_ok X G (c.fact 43 (f := .glo "InvalidColours") rfl), (He.exc_ok (c.fact 45 (f := .exc "InvalidColours") rfl)).1, (He.exc_ok (c.fact 45 (f := .exc "InvalidColours") rfl)).2.1, (He.exc_ok (c.fact 45 (f := .exc "InvalidColours") rfl)).2.2.1, (He.exc_ok (c.fact 45 (f := .exc "InvalidColours") rfl)).2.2.2⟩
  have x_InvalidFamily : ExcAt K mg "InvalidFamily" := ⟨He.glo_ok X G (c.fact 44 (f := .glo "InvalidFamily") rfl), (He.exc_ok (c.fact 46 (f := .exc "InvalidFamily") rfl)).1, (He.exc_ok (c.fact 46 (f := .exc "InvalidFamily") rfl)).2.1, (He.exc_ok (c.fact 46 (f := .exc "InvalidFamily") rfl)).2.2.1, (He.exc_ok (c.fact 46 (f := .exc "InvalidFamily") rfl)).2.2.2⟩
  obtain ⟨fd_law_all, F_law_all⟩ := c.def_ 0 (d := dd_law_all) rfl
  obtain ⟨fd_law_draw, F_law_draw⟩ := c.def_ 1 (d := dd_law_draw) rfl
  obtain ⟨fd_law_family, F_law_family⟩ := c.def_ 2 (d := dd_law_family) rfl
  obtain ⟨fd_law_hues, F_law_hues⟩ := c.def_ 3 (d := dd_law_hues) rfl
  obtain ⟨fd_law_sums, F_law_sums⟩ := c.def_ 4 (d := dd_law_sums) rfl
  obtain ⟨fd_law_town, F_law_town⟩ := c.def_ 5 (d := dd_law_town) rfl
  obtain ⟨fd_law_uneven, F_law_uneven⟩ := c.def_ 6 (d := dd_law_uneven) rfl
  obtain ⟨fd_all_colours, F_all_colours⟩ := c.def_ 7 (d := dd_all_colours) rfl
  obtain ⟨fd_is_between, F_is_between⟩ := c.def_ 8 (d := dd_is_between) rfl
  obtain ⟨fd_is_lot, F_is_lot⟩ := c.def_ 9 (d := dd_is_lot) rfl
  obtain ⟨fd_is_family, F_is_family⟩ := c.def_ 10 (d := dd_is_family) rfl
  obtain ⟨fd_check_family, F_check_family⟩ := c.def_ 11 (d := dd_check_family) rfl
  obtain ⟨fd_found_sums, F_found_sums⟩ := c.def_ 12 (d := dd_found_sums) rfl
  obtain ⟨fd_found_uneven, F_found_uneven⟩ := c.def_ 13 (d := dd_found_uneven) rfl
  obtain ⟨fd_found_least, F_found_least⟩ := c.def_ 14 (d := dd_found_least) rfl
  obtain ⟨fd_all_best, F_all_best⟩ := c.def_ 15 (d := dd_all_best) rfl
  obtain ⟨fd_are_colours, F_are_colours⟩ := c.def_ 16 (d := dd_are_colours) rfl
  obtain ⟨fd_is_colours, F_is_colours⟩ := c.def_ 17 (d := dd_is_colours) rfl
  obtain ⟨fd_least_uneven, F_least_uneven⟩ := c.def_ 18 (d := dd_least_uneven) rfl
  obtain ⟨fd_check_both, F_check_both⟩ := c.def_ 19 (d := dd_check_both) rfl
  obtain ⟨fd_sums, F_sums⟩ := c.def_ 20 (d := dd_sums) rfl
  obtain ⟨fd_uneven, F_uneven⟩ := c.def_ 21 (d := dd_uneven) rfl
  obtain ⟨fd_law, F_law⟩ := c.def_ 22 (d := dd_law) rfl
  have e := hfa.symm.trans (He.glo_ok X G (c.fact 22 (f := .glo "law") rfl))
  cases e
  have b := FunD.bindsA (ps := ["script"]) F_law fun _ _ _ _ _ _ us hl => match us, hl with | [_], _ => rfl
  refine ⟨fd_law, fun s v => b s [v] rfl, fun base _ _ => ?_⟩
  have c_law_all : FnAt P w K mg base 1 "_law_all" ["things", "choices"] (sp_law_all K) := ok_law_all T  F_law_all (He.glo_ok X G (c.fact 0 (f := .glo "_law_all") rfl))
  have c_law_draw : FnAt P w K mg base 1 "_law_draw" ["script", "town", "limit"] (sp_law_draw K) := ok_law_draw T  F_law_draw (He.glo_ok X G (c.fact 1 (f := .glo "_law_draw") rfl))
  have c_law_family : FnAt P w K mg base 2 "_law_family" ["script", "town", "most"] (sp_law_family K) := ok_law_family T c_law_draw F_law_family (He.glo_ok X G (c.fact 2 (f := .glo "_law_family") rfl))
  have c_law_hues : FnAt P w K mg base 2 "_law_hues" ["script", "town", "things"] (sp_law_hues K) := ok_law_hues T c_law_draw F_law_hues (He.glo_ok X G (c.fact 3 (f := .glo "_law_hues") rfl))
  have c_law_sums : FnAt P w K mg base 1 "_law_sums" ["family", "hues"] (sp_law_sums K) := ok_law_sums T  F_law_sums (He.glo_ok X G (c.fact 4 (f := .glo "_law_sums") rfl))
  have c_law_town : FnAt P w K mg base 1 "_law_town" ["script"] (sp_law_town K) := ok_law_town T  F_law_town (He.glo_ok X G (c.fact 5 (f := .glo "_law_town") rfl))
  have c_law_uneven : FnAt P w K mg base 2 "_law_uneven" ["family", "hues"] (sp_law_uneven K) := ok_law_uneven T c_law_sums F_law_uneven (He.glo_ok X G (c.fact 6 (f := .glo "_law_uneven") rfl))
  have c_all_colours : FnAt P w K mg base 1 "all_colours" ["things"] (sp_all_colours K) := ok_all_colours T  F_all_colours (He.glo_ok X G (c.fact 7 (f := .glo "all_colours") rfl))
  have c_is_between : FnAt P w K mg base 1 "is_between" ["value", "low", "high"] (sp_is_between K) := ok_is_between T  F_is_between (He.glo_ok X G (c.fact 8 (f := .glo "is_between") rfl))
  have c_is_lot : FnAt P w K mg base 2 "is_lot" ["things", "value"] (sp_is_lot K) := ok_is_lot T c_is_between F_is_lot (He.glo_ok X G (c.fact 9 (f := .glo "is_lot") rfl))
  have c_is_family : FnAt P w K mg base 3 "is_family" ["value"] (sp_is_family K) := ok_is_family T c_is_between c_is_lot F_is_family (He.glo_ok X G (c.fact 10 (f := .glo "is_family") rfl))
  have c_check_family : FnAt P w K mg base 4 "check_family" ["value"] (sp_check_family K) := ok_check_family T c_is_family x_InvalidFamily F_check_family (He.glo_ok X G (c.fact 11 (f := .glo "check_family") rfl))
  have c_found_sums : FnAt P w K mg base 1 "found_sums" ["family", "colours"] (sp_found_sums K) := ok_found_sums T  F_found_sums (He.glo_ok X G (c.fact 12 (f := .glo "found_sums") rfl))
  have c_found_uneven : FnAt P w K mg base 2 "found_uneven" ["family", "colours"] (sp_found_uneven K) := ok_found_uneven T c_found_sums F_found_uneven (He.glo_ok X G (c.fact 13 (f := .glo "found_uneven") rfl))
  have c_found_least : FnAt P w K mg base 3 "found_least" ["family"] (sp_found_least K) := ok_found_least T c_all_colours c_found_uneven F_found_least (He.glo_ok X G (c.fact 14 (f := .glo "found_least") rfl))
  have c_all_best : FnAt P w K mg base 5 "all_best" ["family"] (sp_all_best K) := ok_all_best T c_all_colours c_check_family c_found_least c_found_uneven F_all_best (He.glo_ok X G (c.fact 15 (f := .glo "all_best") rfl))
  have c_are_colours : FnAt P w K mg base 1 "are_colours" ["family", "value"] (sp_are_colours K) := ok_are_colours T  F_are_colours (He.glo_ok X G (c.fact 16 (f := .glo "are_colours") rfl))
  have c_is_colours : FnAt P w K mg base 5 "is_colours" ["family", "value"] (sp_is_colours K) := ok_is_colours T c_are_colours c_check_family F_is_colours (He.glo_ok X G (c.fact 17 (f := .glo "is_colours") rfl))
  have c_least_uneven : FnAt P w K mg base 5 "least_uneven" ["family"] (sp_least_uneven K) := ok_least_uneven T c_check_family c_found_least F_least_uneven (He.glo_ok X G (c.fact 18 (f := .glo "least_uneven") rfl))
  have c_check_both : FnAt P w K mg base 5 "check_both" ["family", "colours"] (sp_check_both K) := ok_check_both T c_are_colours c_check_family x_InvalidColours F_check_both (He.glo_ok X G (c.fact 19 (f := .glo "check_both") rfl))
  have c_sums : FnAt P w K mg base 6 "sums" ["family", "colours"] (sp_sums K) := ok_sums T c_check_both c_found_sums F_sums (He.glo_ok X G (c.fact 20 (f := .glo "sums") rfl))
  have c_uneven : FnAt P w K mg base 6 "uneven" ["family", "colours"] (sp_uneven K) := ok_uneven T c_check_both c_found_uneven F_uneven (He.glo_ok X G (c.fact 21 (f := .glo "uneven") rfl))
  exact o_law T c_law_all c_law_family c_law_hues c_law_sums c_law_town c_law_uneven c_all_best c_is_colours c_least_uneven c_sums c_uneven F_law
end Lc
open PySem PySem.W PySem.Calls PyProof.Rows
theorem PySem.Challenge.cw_lotcolours_k20_whole_colours_holds : PySem.Challenge.rw_lotcolours_k20_whole_colours.Holds := by
  w_on; o_law
  refine HandSHeadRun.head_any (r := OpenLaw.row PySem.Challenge.rw_lotcolours_k20_whole_colours) (q := view (OpenLaw.row PySem.Challenge.rw_lotcolours_k20_whole_colours).prog [30]) (H := Lc.hk) (ob := Lc.ob) (M := 1500) (loose := ["ColourError", "InvalidFamily", "InvalidColours", "is_between", "is_lot", "is_family", "check_family", "are_colours", "is_colours", "check_both", "found_sums", "found_uneven", "sums", "uneven", "all_colours", "found_least", "least_uneven", "all_best", "_law_town", "_law_draw", "_law_family", "_law_all", "_law_sums", "_law_uneven", "_law_hues"]) (d := HandSHeadRun.topDef (OpenLaw.row PySem.Challenge.rw_lotcolours_k20_whole_colours).prog 30) (kwd := []) Lc.ob_eq
    (by kernel_rfl) (fun s => by kernel_rfl) Lc.run (by kernel_rfl) (by kernel_rfl) (by kernel_rfl) (by rfl) (by first | assumption | decide +kernel) (by decide +kernel) ⟨rfl, rfl, rfl, rfl, rfl, by decide +kernel⟩ ?hw ?hc
  case hw => w_witness2
  case hc =>
    refine L2.walk_ofE (l := PySem.Challenge.rw_lotcolours_k20_whole_colours) (n := 63) (k := 7) (x := "script") (CX := L2.CX0) rfl (by decide) (by kernel_rfl) ⟨rfl, by decide, by decide⟩ ?F (fun _ _ _ _ z => z)
    intro w mg fa h Y G hmg0
    obtain ⟨K, KX, c⟩ := Y
    have hmg : mg ("law" : PySem.Str) = some (.ref fa) := by
      have e : (HandSHeadRun.topDef (OpenLaw.row PySem.Challenge.rw_lotcolours_k20_whole_colours).prog 30).name = ("law" : PySem.Str) := by kernel_rfl
      rw [← e]
      exact hmg0
    obtain ⟨fd, hb, hF⟩ := Lc.facts (P := (PySem.Challenge.rw_lotcolours_k20_whole_colours).prog) (w := w) KX G hmg c
    exact ⟨K, fd, Lc.spLaw K, KX, hb, fun H a ns hl _ hS => ⟨a, ns, rfl, hS, hl, fun _ => rfl⟩, hF⟩
