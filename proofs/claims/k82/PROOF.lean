import PyProof.Rows.All
import Wide.All
import OpenK.AllK
import Wide.FinOn
import HandS.ForMost
import HandS.ForExc
import HandS.Walk
import HandS.TupAny
import HandS.TupLe
import HandS.TupMul
import HandS.Deep
import HandS.IsInst
import HandS.SortOrd
import HandS.SortRule
import HandS.SortInts
import HandS.TupSets
import HandS.Conv
import HandS.Strs
import HandS.ExcValue
import HandS.ExcIs
import HandS.Wide
import HandS.FStr
import HandS.Zip
import HandS.DictTup
import HandS.Style
import HandS.Flow
import HandS.Codes
import HandS.OwnEq
import HandS.CallLocal
import HandS.Defaults
import HandS.Head0
import HandS.Head1
import HandS.Head2
import HandS.HeadEnd
import HandS.HeadHook1
import HandS.HeadHook2
import KE.DatumIndex
import PyProof.StrLawsTight
import PySem.Challenge.RW_lotcolours_k82_whole_texts
set_option Elab.async false
set_option linter.all false
set_option maxRecDepth 100000
set_option maxHeartbeats 4000000
namespace Lc
open PySem L2

/-! ### the heap without the mutable places -/
def cut (A : List Addr) (H : Hp) : Hp := fun a => if a ∈ A then none else H a
theorem cut_out {A : List Addr} {H : Hp} {a : Addr} (h : a ∉ A) : cut A H a = H a := by unfold cut; rw [if_neg h]
theorem cut_in {A : List Addr} {H : Hp} {a : Addr} (h : a ∈ A) : cut A H a = none := by unfold cut; rw [if_pos h]
theorem cut_some {A : List Addr} {H : Hp} {a : Addr} {o : HO} (h : cut A H a = some o) : a ∉ A ∧ H a = some o := by
  by_cases ha : a ∈ A
  · rw [cut_in ha] at h; cases h
  · rw [cut_out ha] at h; exact ⟨ha, h⟩
theorem cut_nil {H : Hp} : cut [] H = H := by funext a; exact cut_out (by simp)
def Live (A : List Addr) (H : Hp) : Prop := ∀ a ∈ A, H a ≠ none
theorem Live.nil {H : Hp} : Live [] H := fun a h => by simp at h
theorem Live.same {A : List Addr} {H H' : Hp} (l : Live A H) (s : Same H H') : Live A H' := fun a ha e => by
  cases q : H a with
  | none => exact l a ha q
  | some o => rw [s a o q] at e; cases e
theorem Live.fresh {A : List Addr} {H : Hp} {p : Addr} (l : Live A H) (h : H p = none) : p ∉ A := fun hp => l p hp h
theorem cut_same {A : List Addr} {H H' : Hp} (s : Same H H') : Same (cut A H) (cut A H') := fun a o e => by
  obtain ⟨h1, h2⟩ := cut_some e
  rw [cut_out h1]; exact s a o h2
theorem same_cut {A : List Addr} {H : Hp} : Same (cut A H) H := fun a o e => (cut_some e).2
theorem same_new {H : Hp} {p : Addr} {o : HO} (h : H p = none) : Same H (upd H p o) := fun a u e => by
  rw [upd_ne (ne_of_none e h)]; exact e
theorem cut_new {A : List Addr} {H : Hp} {p : Addr} {o : HO} (l : Live A H) (h : H p = none) : cut A (upd H p o) p = some o := by
  rw [cut_out (l.fresh h)]; exact upd_same

/-! ### deep data -/
theorem rd_same {F F' : Hp} {a : Addr} {u : HO} (s : Same F F') (h : Rd F a u) : Rd F' a u := by
  rcases h with h | ⟨o, h⟩
  · exact .inl (s a _ h)
  · exact .inr ⟨o, s a _ h⟩
theorem sql_same {K : PySem.W.Frag} {F F' : Hp} {a : Addr} {xs : List V} (s : Same F F') (h : SqL K F a xs) : SqL K F' a xs := by
  rcases h with h | h
  · exact .inl (rd_same s h)
  · exact .inr h
theorem sqt_same {K : PySem.W.Frag} {F F' : Hp} {a : Addr} {xs : List V} (s : Same F F') (h : SqT K F a xs) : SqT K F' a xs := by
  rcases h with h | h
  · exact .inl (rd_same s h)
  · exact .inr h
/-- the script, an address as it is, a class -/
def scrD (ns : List Int) : PyData := .dict [(.list (.none :: ns.map .int), .none)]
def adrD (a : Addr) : PyData := .dict [(.list [.bool true, .int (a : Nat)], .none)]
/-- a caught error of the class D, at a -/
def ExR (D a : Addr) : HO := .ext fun h => ∃ (oe : Obj) (vs : Array Value), h.get? a = some oe ∧ Zc (.ref D) none oe ∧ oe.data = .fields vs
def excD (D : Addr) : PyData := .dict [(.list [.bool false, .int (D : Nat)], .none)]
def tyD (n : String) : PyData := .dict [(.list [.str (Str.ofString n)], .none)]
/-- a dict with plain keys -/
def keyD : Key → PyData
  | .inl i => .int i
  | .inr x => .str x
def dctD (ks : List Key) (ds : List PyData) : PyData := .dict ((ks.map keyD).zip ds)
theorem dctD_ne {ks : List Key} {ds : List PyData} {l : List PyData} {e : PyData} (h : .dict [(.list l, e)] = dctD ks ds) : False := by
  unfold dctD at h
  cases ks with
  | nil => simp at h
  | cons k ks =>
    cases ds with
    | nil => simp at h
    | cons d ds => cases k <;> simp [keyD] at h
mutual
inductive Dq (K : PySem.W.Frag) (H : Hp) : V → PyData → Prop
  | exc {a D : Addr} : H a = some (ExR D a) → Dq K H (.ref a) (excD D)
  | dct {a : Addr} {kvs : List (Key × V)} {ds : List PyData} : H a = some (.dK kvs) → DqAll K H (kvs.map (·.2)) ds → Dq K H (.ref a) (dctD (kvs.map (·.1)) ds)
  | non : Dq K H .non .none
  | bl (b : Bool) : Dq K H (.bl b) (.bool b)
  | int (i : Int) : Dq K H (.int i) (.int i)
  | str (x : Str) : Dq K H (.str x) (.str x)
  | lst {a : Addr} {xs : List V} {ds : List PyData} : H a = some (.lst xs) → DqAll K H xs ds → Dq K H (.ref a) (.list ds)
  | tup {a : Addr} {xs : List V} {ds : List PyData} : H a = some (.tup xs) → DqAll K H xs ds → Dq K H (.ref a) (.tuple ds)
  | scr {a : Addr} {ns : List Int} : SqL K H a (ns.map V.int) → Dq K H (.ref a) (scrD ns)
  | adr (a : Addr) : Dq K H (.ref a) (adrD a)
  | ty (n : String) : Dq K H (.ty n) (tyD n)
inductive DqAll (K : PySem.W.Frag) (H : Hp) : List V → List PyData → Prop
  | nil : DqAll K H [] []
  | cons {v : V} {vs : List V} {d : PyData} {ds : List PyData} : Dq K H v d → DqAll K H vs ds → DqAll K H (v :: vs) (d :: ds)
end
theorem Dq.listI {K : PySem.W.Frag} {H : Hp} {v : V} {ds : List PyData} (h : Dq K H v (.list ds)) : ∃ a xs, v = .ref a ∧ H a = some (.lst xs) ∧ DqAll K H xs ds := by
  cases h with
  | lst h1 h2 => exact ⟨_, _, rfl, h1, h2⟩
theorem Dq.tupI {K : PySem.W.Frag} {H : Hp} {v : V} {ds : List PyData} (h : Dq K H v (.tuple ds)) : ∃ a xs, v = .ref a ∧ H a = some (.tup xs) ∧ DqAll K H xs ds := by
  cases h with
  | tup h1 h2 => exact ⟨_, _, rfl, h1, h2⟩
theorem ints_inj : ∀ {ns ms : List Int}, ns.map PyData.int = ms.map PyData.int → ns = ms
  | [], [], _ => rfl
  | [], _ :: _, h => by simp at h
  | _ :: _, [], h => by simp at h
  | n :: ns, m :: ms, h => by
    simp only [List.map_cons, List.cons.injEq, PyData.int.injEq] at h
    rw [h.1, ints_inj h.2]
theorem Dq.scrI {K : PySem.W.Frag} {H : Hp} {v : V} {ns : List Int} (h : Dq K H v (scrD ns)) : ∃ a, v = .ref a ∧ SqL K H a (ns.map V.int) := by
  generalize e : scrD ns = d at h
  cases h with
  | scr h1 =>
    rename_i a ms
    have : ns = ms := ints_inj (by simpa [scrD] using e)
    subst this
    exact ⟨_, rfl, h1⟩
  | adr a => simp [scrD, adrD] at e
  | exc h1 => simp [scrD, excD] at e
  | dct h1 h2 => exact (dctD_ne e).elim
  | ty n => simp [scrD, tyD] at e
  | _ => simp [scrD] at e
theorem Dq.adrI {K : PySem.W.Frag} {H : Hp} {v : V} {a : Addr} (h : Dq K H v (adrD a)) : v = .ref a := by
  generalize e : adrD a = d at h
  cases h with
  | adr b =>
    have : a = b := by
      have h1 : ((a : Nat) : Int) = ((b : Nat) : Int) := by simpa [adrD] using e
      exact Int.ofNat.inj h1
    rw [this]
  | scr h1 => simp [scrD, adrD] at e
  | exc h1 => simp [adrD, excD] at e
  | dct h1 h2 => exact (dctD_ne e).elim
  | ty n => simp [adrD, tyD] at e
  | _ => simp [adrD] at e
mutual
theorem dp_same {K : PySem.W.Frag} {F F' : Hp} (s : Same F F') : ∀ {d : PyData} {v : V}, Dq K F v d → Dq K F' v d
  | _, _, .non => .non
  | _, _, .bl b => .bl b
  | _, _, .int i => .int i
  | _, _, .str x => .str x
  | _, _, .lst h1 h2 => .lst (s _ _ h1) (dpall_same s h2)
  | _, _, .tup h1 h2 => .tup (s _ _ h1) (dpall_same s h2)
  | _, _, .scr h1 => .scr (sql_same s h1)
  | _, _, .exc h1 => .exc (s _ _ h1)
  | _, _, .dct h1 h2 => .dct (s _ _ h1) (dpall_same s h2)
  | _, _, .adr a => .adr a
  | _, _, .ty n => .ty n
theorem dpall_same {K : PySem.W.Frag} {F F' : Hp} (s : Same F F') : ∀ {ds : List PyData} {vs : List V}, DqAll K F vs ds → DqAll K F' vs ds
  | _, _, .nil => .nil
  | _, _, .cons h1 h2 => .cons (dp_same s h1) (dpall_same s h2)
end
theorem DqAll.length {K : PySem.W.Frag} {F : Hp} : ∀ {vs : List V} {ds : List PyData}, DqAll K F vs ds → vs.length = ds.length
  | _, _, .nil => rfl
  | _, _, .cons _ t => by simp [DqAll.length t]
theorem DqAll.get {K : PySem.W.Frag} {F : Hp} : ∀ {vs : List V} {ds : List PyData} {i : Nat} {d : PyData}, DqAll K F vs ds → ds[i]? = some d → ∃ v, vs[i]? = some v ∧ Dq K F v d
  | _, _, _, _, .nil, h => by simp at h
  | _, _, 0, _, .cons h _, e => by simp at e; subst e; exact ⟨_, rfl, h⟩
  | _, _, i + 1, d, .cons _ t, e => by
    obtain ⟨v, h1, h2⟩ := DqAll.get (i := i) (d := d) t (by simpa using e)
    exact ⟨v, by simpa using h1, h2⟩
theorem DqAll.getV {K : PySem.W.Frag} {F : Hp} : ∀ {vs : List V} {ds : List PyData} {i : Nat} {v : V}, DqAll K F vs ds → vs[i]? = some v → ∃ d, ds[i]? = some d ∧ Dq K F v d
  | _, _, _, _, .nil, h => by simp at h
  | _, _, 0, _, .cons h _, e => by simp at e; subst e; exact ⟨_, rfl, h⟩
  | _, _, i + 1, d, .cons _ t, e => by
    obtain ⟨v, h1, h2⟩ := DqAll.getV (i := i) (v := d) t (by simpa using e)
    exact ⟨v, by simpa using h1, h2⟩
theorem DqAll.append {K : PySem.W.Frag} {F : Hp} : ∀ {vs us : List V} {ds es : List PyData}, DqAll K F vs ds → DqAll K F us es → DqAll K F (vs ++ us) (ds ++ es)
  | _, _, _, _, .nil, h => h
  | _, _, _, _, .cons h t, h' => .cons h (DqAll.append t h')
theorem DqAll.drop {K : PySem.W.Frag} {F : Hp} : ∀ (n : Nat) {vs : List V} {ds : List PyData}, DqAll K F vs ds → DqAll K F (vs.drop n) (ds.drop n)
  | 0, _, _, h => h
  | _ + 1, _, _, .nil => .nil
  | n + 1, _, _, .cons _ t => DqAll.drop n t
theorem DqAll.take {K : PySem.W.Frag} {F : Hp} : ∀ (n : Nat) {vs : List V} {ds : List PyData}, DqAll K F vs ds → DqAll K F (vs.take n) (ds.take n)
  | 0, _, _, _ => .nil
  | _ + 1, _, _, .nil => .nil
  | n + 1, _, _, .cons h t => .cons h (DqAll.take n t)
theorem DqAll.ints {K : PySem.W.Frag} {F : Hp} : ∀ {vs : List V} {ns : List Int}, DqAll K F vs (ns.map PyData.int) → vs = ns.map V.int
  | _, [], h => by cases h; rfl
  | _, n :: ns, h => by
    cases h with
    | cons h1 h2 => cases h1; rw [DqAll.ints h2]; rfl
theorem DqAll.ofInts {K : PySem.W.Frag} {F : Hp} : ∀ (ns : List Int), DqAll K F (ns.map V.int) (ns.map PyData.int)
  | [] => .nil
  | n :: ns => .cons (.int n) (DqAll.ofInts ns)
theorem DqAll.bools {K : PySem.W.Frag} {F : Hp} : ∀ {vs : List V} {ns : List Bool}, DqAll K F vs (ns.map PyData.bool) → vs = ns.map V.bl
  | _, [], h => by cases h; rfl
  | _, n :: ns, h => by
    cases h with
    | cons h1 h2 => cases h1; rw [DqAll.bools h2]; rfl
theorem DqAll.strs {K : PySem.W.Frag} {F : Hp} : ∀ {vs : List V} {ns : List Str}, DqAll K F vs (ns.map PyData.str) → vs = ns.map V.str
  | _, [], h => by cases h; rfl
  | _, n :: ns, h => by
    cases h with
    | cons h1 h2 => cases h1; rw [DqAll.strs h2]; rfl

/-! ### the slots -/
abbrev Rho := List (Option PyData)
def SlotR (K : PySem.W.Frag) (F : Hp) : Option V → Option PyData → Prop
  | some v, some d => Dq K F v d
  | none, some _ => False
  | _, none => True
inductive EnvD (K : PySem.W.Frag) (F : Hp) : St → Rho → Prop
  | nil : EnvD K F [] []
  | cons {o : Option V} {r : Option PyData} {σ : St} {ρ : Rho} : SlotR K F o r → EnvD K F σ ρ → EnvD K F (o :: σ) (r :: ρ)
section
variable {K : PySem.W.Frag} {F F' : Hp}
theorem SlotR.same (s : Same F F') : ∀ {o : Option V} {r : Option PyData}, SlotR K F o r → SlotR K F' o r
  | some _, some _, h => dp_same s h
  | none, some _, h => h
  | some _, none, _ => trivial
  | none, none, _ => trivial
theorem EnvD.same (s : Same F F') : ∀ {σ : St} {ρ : Rho}, EnvD K F σ ρ → EnvD K F' σ ρ
  | _, _, .nil => .nil
  | _, _, .cons h t => .cons (h.same s) (t.same s)
theorem EnvD.get : ∀ {σ : St} {ρ : Rho} {i : Nat} {d : PyData}, EnvD K F σ ρ → ρ[i]? = some (some d) → ∃ v, σ[i]? = some (some v) ∧ Dq K F v d
  | _, _, _, _, .nil, h => by simp at h
  | o :: _, _, 0, d, .cons h _, e => by
    simp at e; subst e
    cases o with
    | none => exact h.elim
    | some v => exact ⟨v, rfl, h⟩
  | _, _, i + 1, d, .cons _ t, e => by
    obtain ⟨v, h1, h2⟩ := EnvD.get (i := i) (d := d) t (by simpa using e)
    exact ⟨v, by simpa using h1, h2⟩
theorem EnvD.set {v : V} {d : PyData} (h : Dq K F v d) : ∀ (i : Nat) {σ : St} {ρ : Rho}, EnvD K F σ ρ → EnvD K F (σ.set i (some v)) (ρ.set i (some d))
  | _, _, _, .nil => .nil
  | 0, _, _, .cons _ t => .cons h t
  | i + 1, _, _, .cons q t => .cons q (EnvD.set h i t)
theorem EnvD.forget (o : Option V) : ∀ (i : Nat) {σ : St} {ρ : Rho}, EnvD K F σ ρ → EnvD K F (σ.set i o) (ρ.set i none)
  | _, _, _, .nil => .nil
  | 0, _, _, .cons _ t => .cons (by cases o <;> trivial) t
  | i + 1, _, _, .cons q t => .cons q (EnvD.forget o i t)
theorem EnvD.keep (i : Nat) {σ : St} {ρ : Rho} (h : EnvD K F σ ρ) : EnvD K F σ (ρ.set i none) := by
  induction h generalizing i with
  | nil => exact .nil
  | cons q t ih =>
    rename_i o r σ ρ
    cases i with
    | zero => exact .cons (by cases o <;> trivial) t
    | succ i => exact .cons q (ih i)
end
def wipeD (ρ : Rho) : List Nat → Rho
  | [] => ρ
  | v :: vs => (wipeD ρ vs).set v none
theorem EnvD.wipe {K : PySem.W.Frag} {F : Hp} {σ : St} {ρ : Rho} (h : EnvD K F σ ρ) : ∀ vs : List Nat, EnvD K F (L2.wipe σ vs) (wipeD ρ vs)
  | [] => h
  | v :: vs => EnvD.forget none v (h.wipe vs)
theorem wipe_set (σ : St) (x : Option V) : ∀ (vs : List Nat) (j : Nat), j ∈ vs → wipe (σ.set j x) vs = wipe σ vs
  | [], j, h => by simp at h
  | v :: vs, j, h => by
    show (wipe (σ.set j x) vs).set v none = (wipe σ vs).set v none
    by_cases hj : j ∈ vs
    · rw [wipe_set σ x vs j hj]
    · have hv : j = v := by simpa [hj] using h
      subst hv
      have aux : ∀ (ws : List Nat), j ∉ ws → wipe (σ.set j x) ws = (wipe σ ws).set j x := by
        intro ws
        induction ws with
        | nil => intro _; rfl
        | cons w ws ih =>
          intro hw
          have h1 : j ≠ w := fun e => hw (by simp [e])
          have h2 : j ∉ ws := fun e => hw (by simp [e])
          show (wipe (σ.set j x) ws).set w none = ((wipe σ ws).set w none).set j x
          rw [ih h2, List.set_comm _ _ h1]
      rw [aux vs hj, List.set_set]
theorem wipe_wipe (σ : St) : ∀ (vs : List Nat), wipe (wipe σ vs) vs = wipe σ vs := by
  have key : ∀ (ws vs : List Nat) (τ : St), (∀ w ∈ ws, w ∈ vs) → wipe (wipe τ ws) vs = wipe τ vs := by
    intro ws
    induction ws with
    | nil => intro vs τ _; rfl
    | cons w ws ih =>
      intro vs τ h
      show wipe ((wipe τ ws).set w none) vs = wipe τ vs
      rw [wipe_set _ _ vs w (h w (by simp)), ih vs τ (fun x hx => h x (by simp [hx]))]
  intro vs
  exact key vs vs σ (fun _ h => h)
theorem wipe_back (σ : St) (x : Option V) (vs : List Nat) (j : Nat) (h : j ∈ vs) : wipe ((wipe σ vs).set j x) vs = wipe σ vs := by
  rw [wipe_set _ _ _ _ h, wipe_wipe]

/-! ### what evaluates to what -/
def EvD (K : PySem.W.Frag) (te : TE) (ρ : Rho) (d : PyData) : Prop :=
  ∀ A σ H, Live A H → EnvD K (cut A H) σ ρ → ∀ Q : VK, (∀ v H', Same H H' → Dq K (cut A H') v d → Q v H') → te σ H Q
def EvT (K : PySem.W.Frag) (tt : TT) (ρ : Rho) (b : Bool) : Prop :=
  ∀ A σ H, Live A H → EnvD K (cut A H) σ ρ → ∀ Q : Bool → Hp → Prop, (∀ H', Same H H' → Q b H') → tt σ H Q
def EvA (K : PySem.W.Frag) (ta : TA) (ρ : Rho) (ds : List PyData) : Prop :=
  ∀ A σ H, Live A H → EnvD K (cut A H) σ ρ → ∀ Q : List V → Hp → Prop, (∀ vs H', Same H H' → DqAll K (cut A H') vs ds → Q vs H') → ta σ H Q
/-- operations on values -/
def OpD (K : PySem.W.Frag) (r : R2) (d e f : PyData) : Prop :=
  ∀ A x y H, Live A H → Dq K (cut A H) x d → Dq K (cut A H) y e → ∀ Q : VK, (∀ v H', Same H H' → Dq K (cut A H') v f → Q v H') → r x y H Q
def UnD (K : PySem.W.Frag) (r : V → Hp → VK → Prop) (d f : PyData) : Prop :=
  ∀ A x H, Live A H → Dq K (cut A H) x d → ∀ Q : VK, (∀ v H', Same H H' → Dq K (cut A H') v f → Q v H') → r x H Q
def CaD (K : PySem.W.Frag) (r : List V → Hp → VK → Prop) (ds : List PyData) (f : PyData) : Prop :=
  ∀ A xs H, Live A H → DqAll K (cut A H) xs ds → ∀ Q : VK, (∀ v H', Same H H' → Dq K (cut A H') v f → Q v H') → r xs H Q
section
variable {K : PySem.W.Frag} {ρ : Rho} {ta tb tc te : TE} {t u : TT} {d e f : PyData} {b : Bool}
theorem ev_var {i : Nat} (h : ρ[i]? = some (some d)) : EvD K (tVar i) ρ d := fun A σ H _ hE Q q => by
  obtain ⟨v, h1, h2⟩ := hE.get h
  exact ⟨v, h1, q v H (Same.refl H) h2⟩
theorem ev_c {v : V} (h : ∀ F, Dq K F v d) : EvD K (tC v) ρ d := fun A σ H _ hE Q q => q v H (Same.refl H) (h _)
theorem ev_int {i : Int} : EvD K (tC (.int i)) ρ (.int i) := ev_c fun _ => .int i
theorem ev_bl {i : Bool} : EvD K (tC (.bl i)) ρ (.bool i) := ev_c fun _ => .bl i
theorem ev_str {i : Str} : EvD K (tC (.str i)) ρ (.str i) := ev_c fun _ => .str i
theorem ev_non : EvD K (tC .non) ρ .none := ev_c fun _ => .non
theorem ev_op {r : R2} (ha : EvD K ta ρ d) (hb : EvD K tb ρ e) (hr : OpD K r d e f) : EvD K (tOp r ta tb) ρ f := fun A σ H l hE Q q =>
  ha A σ H l hE _ fun x H1 s1 hx => hb A σ H1 (l.same s1) (hE.same (cut_same s1)) _ fun y H2 s2 hy =>
    hr A x y H2 ((l.same s1).same s2) (dp_same (cut_same s2) hx) hy Q fun v H3 s3 hv => q v H3 ((s1.trans s2).trans s3) hv
theorem ev_un {r : V → Hp → VK → Prop} (ha : EvD K ta ρ d) (hr : UnD K r d f) : EvD K (tUn r ta) ρ f := fun A σ H l hE Q q =>
  ha A σ H l hE _ fun x H1 s1 hx => hr A x H1 (l.same s1) hx Q fun v H3 s3 hv => q v H3 (s1.trans s3) hv
theorem ea_nil : EvA K tNil ρ [] := fun A σ H l hE Q q => q [] H (Same.refl H) .nil
theorem ea_cons {tr : TA} {ds : List PyData} (ha : EvD K ta ρ d) (hr : EvA K tr ρ ds) : EvA K (tCons ta tr) ρ (d :: ds) := fun A σ H l hE Q q =>
  ha A σ H l hE _ fun x H1 s1 hx => hr A σ H1 (l.same s1) (hE.same (cut_same s1)) _ fun xs H2 s2 hxs => q _ H2 (s1.trans s2) (.cons (dp_same (cut_same s2) hx) hxs)
theorem ev_cb {r : List V → Hp → VK → Prop} {tr : TA} {ds : List PyData} (ha : EvA K tr ρ ds) (hr : CaD K r ds f) : EvD K (tCB r tr) ρ f := fun A σ H l hE Q q =>
  ha A σ H l hE _ fun xs H1 s1 hx => hr A xs H1 (l.same s1) hx Q fun v H3 s3 hv => q v H3 (s1.trans s3) hv
theorem ev_tup {tr : TA} {ds : List PyData} (ha : EvA K tr ρ ds) (hz : ds.length ≤ 100000) : EvD K (tTup tr) ρ (.tuple ds) := fun A σ H l hE Q q =>
  ha A σ H l hE _ fun xs H1 s1 hx => ⟨Nat.le_trans (by rw [hx.length]; exact hz) (by decide), fun p hp =>
    q _ _ (s1.trans (same_new hp)) (.tup (cut_new (l.same s1) hp) (dpall_same (cut_same (same_new hp)) hx))⟩
theorem ev_lst {tr : TA} {ds : List PyData} (ha : EvA K tr ρ ds) (hz : ds.length ≤ 100000) : EvD K (tLst tr) ρ (.list ds) := fun A σ H l hE Q q =>
  ha A σ H l hE _ fun xs H1 s1 hx => ⟨Nat.le_trans (by rw [hx.length]; exact hz) (by decide), fun p hp =>
    q _ _ (s1.trans (same_new hp)) (.lst (cut_new (l.same s1) hp) (dpall_same (cut_same (same_new hp)) hx))⟩
theorem ev_to {d' : PyData} (h : EvD K te ρ d) (e : d = d') : EvD K te ρ d' := e ▸ h
theorem et_to {b' : Bool} (h : EvT K t ρ b) (e : b = b') : EvT K t ρ b' := e ▸ h
/-! tests -/
theorem et_B (h : EvD K te ρ (.bool b)) : EvT K (tB te) ρ b := fun A σ H l hE Q q => h A σ H l hE _ fun v H' s hv => by
  cases hv; exact ⟨b, rfl, q H' s⟩
theorem et_test (h : EvD K te ρ (.bool b)) : EvT K (tTest te) ρ b := fun A σ H l hE Q q => h A σ H l hE _ fun v H' s hv => by
  cases hv; exact ⟨b, rfl, q H' s⟩
theorem et_not (h : EvT K t ρ b) : EvT K (tNot t) ρ (!b) := fun A σ H l hE Q q => h A σ H l hE _ fun H' s => q H' s
theorem et_and {c : Bool} (h1 : EvT K t ρ b) (h2 : b = true → EvT K u ρ c) : EvT K (tAnd t u) ρ (b && c) := fun A σ H l hE Q q => h1 A σ H l hE _ fun H1 s1 => by
  cases b with
  | true =>
    show (if true = true then u σ H1 Q else Q false H1)
    rw [if_pos rfl]
    exact h2 rfl A σ H1 (l.same s1) (hE.same (cut_same s1)) Q fun H2 s2 => q H2 (s1.trans s2)
  | false => exact iteF (q H1 s1)
theorem et_or {c : Bool} (h1 : EvT K t ρ b) (h2 : b = false → EvT K u ρ c) : EvT K (tOr t u) ρ (b || c) := fun A σ H l hE Q q => h1 A σ H l hE _ fun H1 s1 => by
  cases b with
  | false =>
    show (if false = true then Q true H1 else u σ H1 Q)
    rw [if_neg Bool.false_ne_true]
    exact h2 rfl A σ H1 (l.same s1) (hE.same (cut_same s1)) Q fun H2 s2 => q H2 (s1.trans s2)
  | true => exact iteT (q H1 s1)
theorem ev_if (h : EvT K t ρ b) (h1 : b = true → EvD K ta ρ d) (h2 : b = false → EvD K tb ρ d) : EvD K (tIf t ta tb) ρ d := fun A σ H l hE Q q => h A σ H l hE _ fun H1 s1 => by
  cases b with
  | true => exact iteT (h1 rfl A σ H1 (l.same s1) (hE.same (cut_same s1)) Q fun v H2 s2 => q v H2 (s1.trans s2))
  | false => exact iteF (h2 rfl A σ H1 (l.same s1) (hE.same (cut_same s1)) Q fun v H2 s2 => q v H2 (s1.trans s2))
theorem ev_and {c : Bool} (h1 : EvD K ta ρ (.bool b)) (h2 : b = true → EvD K tb ρ (.bool c)) : EvD K (tAndV ta tb) ρ (.bool (b && c)) := fun A σ H l hE Q q => h1 A σ H l hE _ fun v H1 s1 hv => by
  cases hv
  refine ⟨b, rfl, ?_⟩
  cases b with
  | true => exact iteT (h2 rfl A σ H1 (l.same s1) (hE.same (cut_same s1)) Q fun v H2 s2 => q v H2 (s1.trans s2))
  | false => exact iteF (q _ H1 s1 (.bl _))
theorem ev_or {c : Bool} (h1 : EvD K ta ρ (.bool b)) (h2 : b = false → EvD K tb ρ (.bool c)) : EvD K (tOrV ta tb) ρ (.bool (b || c)) := fun A σ H l hE Q q => h1 A σ H l hE _ fun v H1 s1 hv => by
  cases hv
  refine ⟨b, rfl, ?_⟩
  cases b with
  | true => exact iteT (q _ H1 s1 (.bl _))
  | false => exact iteF (h2 rfl A σ H1 (l.same s1) (hE.same (cut_same s1)) Q fun v H2 s2 => q v H2 (s1.trans s2))
theorem ev_not (h1 : EvD K ta ρ (.bool b)) : EvD K (tNotV ta) ρ (.bool (!b)) := fun A σ H l hE Q q => h1 A σ H l hE _ fun v H1 s1 hv => by
  cases hv
  exact ⟨b, rfl, q _ H1 s1 (.bl _)⟩
theorem ev_chain {r r' : R2} {c : Bool} (ha : EvD K ta ρ d) (hb : EvD K tb ρ e) (hr : OpD K r d e (.bool b)) (hc : b = true → EvD K tc ρ f) (hr' : b = true → OpD K r' e f (.bool c)) :
    EvD K (tChain r r' ta tb tc) ρ (.bool (b && c)) := fun A σ H l hE Q q =>
  ha A σ H l hE _ fun x H1 s1 hx => hb A σ H1 (l.same s1) (hE.same (cut_same s1)) _ fun y H2 s2 hy =>
    hr A x y H2 ((l.same s1).same s2) (dp_same (cut_same s2) hx) hy _ fun v H3 s3 hv => by
      cases hv
      refine ⟨b, rfl, ?_⟩
      have s13 := (s1.trans s2).trans s3
      cases b with
      | true =>
        refine iteT (hc rfl A σ H3 (l.same s13) (hE.same (cut_same s13)) _ fun z H4 s4 hz => ?_)
        exact hr' rfl A y z H4 ((l.same s13).same s4) (dp_same (cut_same (s3.trans s4)) hy) hz Q fun w H5 s5 hw => q w H5 ((s13.trans s4).trans s5) hw
      | false => exact iteF (q _ H3 s13 (.bl _))
end
end Lc

set_option Elab.async false
set_option linter.all false
set_option maxRecDepth 100000
set_option maxHeartbeats 4000000
namespace Lc
open PySem L2

/-! ### what is kept outside of A -/
def Keep (A : List Addr) (H H' : Hp) : Prop := ∀ a o, a ∉ A → H a = some o → H' a = some o
theorem Keep.refl {A : List Addr} {H : Hp} : Keep A H H := fun _ _ _ h => h
theorem Keep.of {A : List Addr} {H H' : Hp} (s : Same H H') : Keep A H H' := fun a o _ h => s a o h
theorem Keep.trans {A : List Addr} {H H1 H2 : Hp} (a : Keep A H H1) (b : Keep A H1 H2) : Keep A H H2 := fun x o hx h => b x o hx (a x o hx h)
theorem Keep.cut {A : List Addr} {H H' : Hp} (g : Keep A H H') : Same (cut A H) (cut A H') := fun a o e => by
  obtain ⟨h1, h2⟩ := cut_some e
  rw [cut_out h1]; exact g a o h1 h2
theorem Keep.mono {A B : List Addr} {H H' : Hp} (g : Keep A H H') (h : ∀ a ∈ A, a ∈ B) : Keep B H H' := fun a o ha e => g a o (fun z => ha (h a z)) e
/-- B does not touch what A's side sees in H -/
def Off (A : List Addr) (H : Hp) (B : List Addr) : Prop := ∀ a o, cut A H a = some o → a ∉ B
theorem Off.refl {A : List Addr} {H : Hp} : Off A H A := fun a o e => (cut_some e).1
theorem Off.cut {A B : List Addr} {H H' : Hp} (o : Off A H B) (k : Keep A H H') : Same (cut A H) (cut B H') := fun a u e => by
  rw [cut_out (o a u e)]
  exact k a u (cut_some e).1 (cut_some e).2
theorem off_new {A : List Addr} {H : Hp} {D : Addr} (h : H D = none) : Off A H (D :: A) := fun a o e hm => by
  obtain ⟨h1, h2⟩ := cut_some e
  rcases List.mem_cons.mp hm with z | z
  · rw [z, h] at h2; cases h2
  · exact h1 z

/-! ### what is walked -/
structure ItOk (K : PySem.W.Frag) (A : List Addr) (J : It) (ds : List PyData) (H1 : Hp) : Prop where
  goes : ∀ i H, i < ds.length → Keep A H1 H → J.go i H
  stops : ∀ H, Keep A H1 H → J.stop ds.length H
  yields : ∀ i H x H' B, i < ds.length → Keep A H1 H → Live B H → Off A H1 B → J.yld i H x H' → Same H H' ∧ ∃ d, ds[i]? = some d ∧ Dq K (cut B H') x d
def ItD (K : PySem.W.Frag) (wi : TI) (ρ : Rho) (ds : List PyData) : Prop :=
  ∀ A σ H, Live A H → EnvD K (cut A H) σ ρ → ∀ R : It → Hp → Prop, (∀ J H1, Same H H1 → ItOk K A J ds H1 → R J H1) → wi σ H R
def rngD (lo : Int) (n : Nat) : List PyData := (List.range n).map fun (i : Nat) => PyData.int (lo + (i : Int))
theorem rngD_len {lo : Int} {n : Nat} : (rngD lo n).length = n := by simp [rngD]
theorem rngD_at {lo : Int} {n i : Nat} (h : i < n) : (rngD lo n)[i]? = some (.int (lo + (i : Int))) := by simp [rngD, h]
def zipD (xs ys : List PyData) : List PyData := (xs.zip ys).map fun p => .tuple [p.1, p.2]
theorem zipD_at {xs ys : List PyData} {i : Nat} {d e : PyData} (h1 : xs[i]? = some d) (h2 : ys[i]? = some e) : (zipD xs ys)[i]? = some (.tuple [d, e]) := by
  unfold zipD
  rw [List.getElem?_map, List.getElem?_zip_eq_some.mpr (show xs[i]? = some (d, e).1 ∧ ys[i]? = some (d, e).2 from ⟨h1, h2⟩)] <;> rfl
def enumD (xs : List PyData) : List PyData := zipD (rngD 0 xs.length) xs
section
variable {K : PySem.W.Frag} {A : List Addr} {ρ : Rho} {ta tb tc te : TE} {t u : TT} {d e f : PyData} {b : Bool}
theorem itok_list {a : Addr} {xs : List V} {ds : List PyData} {H1 : Hp} (h1 : cut A H1 a = some (.lst xs)) (h2 : DqAll K (cut A H1) xs ds) : ItOk K A (Itl K a) ds H1 where
  goes := fun i H hi k => walk_list.goes i H (by rw [h2.length]; exact hi) (sql_same (k.cut.trans same_cut) (SqL.of h1))
  stops := fun H k => by rw [← h2.length]; exact walk_list.stops H (sql_same (k.cut.trans same_cut) (SqL.of h1))
  yields := fun i H x H' B hi k l o y => by
    obtain ⟨e, h⟩ := walk_list.yields i H x H' (by rw [h2.length]; exact hi) (sql_same (k.cut.trans same_cut) (SqL.of h1)) y
    subst e
    obtain ⟨d, q1, q2⟩ := h2.getV h
    exact ⟨Same.refl _, d, q1, dp_same (o.cut k) q2⟩
theorem itok_tup {a : Addr} {xs : List V} {ds : List PyData} {H1 : Hp} (h1 : cut A H1 a = some (.tup xs)) (h2 : DqAll K (cut A H1) xs ds) : ItOk K A (Itt K a) ds H1 where
  goes := fun i H hi k => walk_tup.goes i H (by rw [h2.length]; exact hi) (sqt_same (k.cut.trans same_cut) (SqT.of h1))
  stops := fun H k => by rw [← h2.length]; exact walk_tup.stops H (sqt_same (k.cut.trans same_cut) (SqT.of h1))
  yields := fun i H x H' B hi k l o y => by
    obtain ⟨e, h⟩ := walk_tup.yields i H x H' (by rw [h2.length]; exact hi) (sqt_same (k.cut.trans same_cut) (SqT.of h1)) y
    subst e
    obtain ⟨d, q1, q2⟩ := h2.getV h
    exact ⟨Same.refl _, d, q1, dp_same (o.cut k) q2⟩
theorem itok_rng {lo : Int} {n : Nat} {H1 : Hp} : ItOk K A (Itr lo n) (rngD lo n) H1 where
  goes := fun i H hi _ => walk_range.goes i H (by rw [rngD_len] at hi; exact hi) trivial
  stops := fun H _ => by rw [rngD_len]; exact walk_range.stops H trivial
  yields := fun i H x H' B hi _ l _ y => by
    have h : i < n := by rw [rngD_len] at hi; exact hi
    obtain ⟨e, h2⟩ := walk_range.yields i H x H' h trivial y
    subst e
    refine ⟨Same.refl _, .int (lo + (i : Int)), rngD_at h, ?_⟩
    rw [h2]; exact .int _
/-- a new pair each -/
theorem itok_pair {J : It} {n : Nat} {G : Hp → Prop} {fx fy : Nat → Option V} {ds : List PyData} {H1 : Hp} (w : Walk J n G (YPair fx fy)) (hn : n = ds.length) (hG : ∀ H, Keep A H1 H → G H)
    (hx : ∀ i x y, i < n → fx i = some x → fy i = some y → ∃ d e, ds[i]? = some (.tuple [d, e]) ∧ Dq K (cut A H1) x d ∧ Dq K (cut A H1) y e) : ItOk K A J ds H1 where
  goes := fun i H hi k => w.goes i H (by omega) (hG H k)
  stops := fun H k => by rw [← hn]; exact w.stops H (hG H k)
  yields := fun i H x H' B hi k l o y => by
    obtain ⟨T, p, q, rfl, hT, rfl, h1, h2⟩ := w.yields i H x H' (by omega) (hG H k) y
    obtain ⟨d, e, k1, k2, k3⟩ := hx i p q (by omega) h1 h2
    have s : Same (cut A H1) (cut B (upd H T (.tup [p, q]))) := (o.cut k).trans (cut_same (same_new hT))
    exact ⟨same_new hT, _, k1, .tup (cut_new l hT) (.cons (dp_same s k2) (.cons (dp_same s k3) .nil))⟩
/-- a list or a tuple walked -/
def iSeq (K : PySem.W.Frag) (te : TE) : TI := fun σ H R => iList K te σ H R ∨ iTup K te σ H R
theorem pi_seq {X : Cx} {tg l : Expr} {tl : TE} (hl : PE X l tl) : PI X tg l (iSeq X.K tl) := ⟨fun pins s σ H R I h => by
  rcases h with h | h
  · exact (pi_list hl).run pins s σ H R I h
  · exact (pi_tup hl).run pins s σ H R I h⟩
theorem it_seqL {ds : List PyData} (h : EvD K te ρ (.list ds)) : ItD K (iSeq K te) ρ ds := fun A σ H l hE R q => .inl (h A σ H l hE _ fun v H1 s1 hv => by
  cases hv with
  | lst h1 h2 => exact ⟨_, rfl, ⟨_, sql_same same_cut (SqL.of h1)⟩, q _ H1 s1 (itok_list h1 h2)⟩)
theorem it_seqT {ds : List PyData} (h : EvD K te ρ (.tuple ds)) : ItD K (iSeq K te) ρ ds := fun A σ H l hE R q => .inr (h A σ H l hE _ fun v H1 s1 hv => by
  cases hv with
  | tup h1 h2 => exact ⟨_, rfl, ⟨_, sqt_same same_cut (SqT.of h1)⟩, q _ H1 s1 (itok_tup h1 h2)⟩)
theorem it_rng1 {n : Int} (h : EvD K te ρ (.int n)) (hn : -(2 ^ 62) ≤ n ∧ n < 2 ^ 62) : ItD K (iRng1 (tCons te tNil)) ρ (rngD 0 n.toNat) := fun A σ H l hE R q =>
  ea_cons h ea_nil A σ H l hE _ fun vs H1 s1 hv => by
    cases hv with
    | cons h1 h2 =>
      cases h1; cases h2
      exact ⟨n, rfl, hn.1, hn.2, q _ H1 s1 itok_rng⟩
theorem it_rng2 {m n : Int} (h : EvD K ta ρ (.int m)) (h' : EvD K tb ρ (.int n)) (hm : -(2 ^ 62) ≤ m ∧ m < 2 ^ 62) (hn : -(2 ^ 62) ≤ n ∧ n < 2 ^ 62) : ItD K (iRng2 (tCons ta (tCons tb tNil))) ρ (rngD m (n - m).toNat) := fun A σ H l hE R q =>
  ea_cons h (ea_cons h' ea_nil) A σ H l hE _ fun vs H1 s1 hv => by
    cases hv with
    | cons h1 h2 =>
      cases h1
      cases h2 with
      | cons h3 h4 =>
        cases h3; cases h4
        exact ⟨m, n, rfl, ⟨hm.1, hm.2, hn.1, hn.2⟩, q _ H1 s1 itok_rng⟩
theorem it_zip {xs ys : List PyData} (h : EvD K ta ρ (.list xs)) (h' : EvD K tb ρ (.list ys)) : ItD K (iZip K (tCons ta (tCons tb tNil))) ρ (zipD xs ys) := fun A σ H l hE R q =>
  ea_cons h (ea_cons h' ea_nil) A σ H l hE _ fun vs H1 s1 hv => by
    cases hv with
    | cons h1 h2 =>
      cases h2 with
      | cons h3 h4 =>
        cases h4
        cases h1 with
        | lst a1 a2 =>
          cases h3 with
          | lst b1 b2 =>
            refine ⟨_, _, _, _, rfl, sql_same same_cut (SqL.of a1), sql_same same_cut (SqL.of b1), q _ H1 s1 (itok_pair (walk_zip rfl) (by rw [a2.length, b2.length]; simp [zipD])
              (fun H k => ⟨sql_same (k.cut.trans same_cut) (SqL.of a1), sql_same (k.cut.trans same_cut) (SqL.of b1)⟩) (fun i x y hi e1 e2 => ?_))⟩
            obtain ⟨d, k1, k2⟩ := a2.getV e1
            obtain ⟨e, k3, k4⟩ := b2.getV e2
            exact ⟨d, e, zipD_at k1 k3, k2, k4⟩
theorem it_enum {xs : List PyData} (h : EvD K ta ρ (.list xs)) : ItD K (iEnum K (tCons ta tNil)) ρ (enumD xs) := fun A σ H l hE R q =>
  ea_cons h ea_nil A σ H l hE _ fun vs H1 s1 hv => by
    cases hv with
    | cons h1 h4 =>
      cases h4
      cases h1 with
      | lst a1 a2 =>
        refine ⟨_, _, rfl, sql_same same_cut (SqL.of a1), q _ H1 s1 (itok_pair walk_enum (by rw [a2.length]; simp [enumD, zipD, rngD])
          (fun H k => sql_same (k.cut.trans same_cut) (SqL.of a1)) (fun i x y hi e1 e2 => ?_))⟩
        obtain ⟨d, k1, k2⟩ := a2.getV e2
        cases e1
        refine ⟨.int ((i : Nat) : Int), d, ?_, .int _, k2⟩
        have h0 : i < xs.length := by rw [← a2.length]; exact hi
        have h1 : (rngD 0 xs.length)[i]? = some (.int ((i : Nat) : Int)) := by rw [rngD_at h0, Int.zero_add]
        exact zipD_at h1 k1

/-! ### targets -/
def TgD (K : PySem.W.Frag) (g : TG) (d : PyData) (ρ ρ' : Rho) (vs : List Nat) : Prop :=
  ∀ A σ H v, Live A H → EnvD K (cut A H) σ ρ → Dq K (cut A H) v d → ∀ Q : St → Hp → Prop, (∀ σ', EnvD K (cut A H) σ' ρ' → (∀ ws : List Nat, (∀ i ∈ vs, i ∈ ws) → wipe σ' ws = wipe σ ws) → Q σ' H) → g v σ H Q
theorem tg_name {i : Nat} : TgD K (gName i) d ρ (ρ.set i (some d)) [i] := fun A σ H v l hE hv Q q =>
  q _ (hE.set hv i) fun ws hw => wipe_set σ _ ws i (hw i (by simp))
def TgsD (K : PySem.W.Frag) (g : TGs) (ds : List PyData) (ρ ρ' : Rho) (vs : List Nat) : Prop :=
  ∀ A σ H us, Live A H → EnvD K (cut A H) σ ρ → DqAll K (cut A H) us ds → ∀ Q : St → Hp → Prop, (∀ σ', EnvD K (cut A H) σ' ρ' → (∀ ws : List Nat, (∀ i ∈ vs, i ∈ ws) → wipe σ' ws = wipe σ ws) → Q σ' H) → g us σ H Q
theorem tgs_nil : TgsD K gNil [] ρ ρ [] := fun A σ H us l hE hv Q q => by
  cases hv; exact ⟨rfl, q σ hE fun _ _ => rfl⟩
theorem tgs_cons {g : TG} {gs : TGs} {ds : List PyData} {ρ1 ρ2 : Rho} {vs ws : List Nat} (h1 : TgD K g d ρ ρ1 vs) (h2 : TgsD K gs ds ρ1 ρ2 ws) : TgsD K (gCons g gs) (d :: ds) ρ ρ2 (vs ++ ws) := fun A σ H us l hE hv Q q => by
  cases hv with
  | cons k1 k2 =>
    exact ⟨_, _, rfl, h1 A σ H _ l hE k1 _ fun σ1 hE1 w1 => h2 A σ1 H _ l hE1 k2 Q fun σ2 hE2 w2 => q σ2 hE2 fun zs hz =>
      (w2 zs fun i hi => hz i (List.mem_append_right _ hi)).trans (w1 zs fun i hi => hz i (List.mem_append_left _ hi))⟩
theorem tg_tup {n : Nat} {gs : TGs} {ds : List PyData} {ρ' : Rho} {vs : List Nat} (h : TgsD K gs ds ρ ρ' vs) (hn : ds.length = n) : TgD K (gTup K n gs) (.tuple ds) ρ ρ' vs := fun A σ H v l hE hv Q q => by
  cases hv with
  | tup k1 k2 => exact ⟨_, _, rfl, sqt_same same_cut (SqT.of k1), by rw [k2.length]; exact hn, h A σ H _ l hE k2 Q q⟩
theorem tg_two {i j : Nat} {e : PyData} : TgD K (gTup K 2 (gCons (gName i) (gCons (gName j) gNil))) (.tuple [d, e]) ρ ((ρ.set i (some d)).set j (some e)) [i, j] :=
  tg_tup (tgs_cons tg_name (tgs_cons tg_name tgs_nil)) rfl

/-! ### comprehensions -/
/-- one turn's store in the list that grows -/
theorem ev_lcF {α : Type} {wi : TI} {g : TG} {tt : TT} {vs ws : List Nat} (xs : List α) (enc : α → PyData) (p : α → Bool) (out : α → PyData) (r2 : α → Rho) (hi : ItD K wi ρ (xs.map enc)) (hz : xs.length ≤ 100000) (hw : ∀ i ∈ ws, i ∈ vs)
    (hg : ∀ x ∈ xs, TgD K g (enc x) (wipeD ρ vs) (r2 x) ws) (ht : ∀ x ∈ xs, EvT K tt (r2 x) (p x)) (he : ∀ x ∈ xs, p x = true → EvD K te (r2 x) (out x)) :
    EvD K (tLc wi g tt te vs) ρ (.list ((xs.filter p).map out)) := fun A σ H l hE Q q => hi A σ H l hE _ fun J H1 s1 hJ => fun D hD => by
  have l1 := l.same s1
  have hDA : D ∉ A := l1.fresh hD
  have E1 : EnvD K (cut A H1) (wipe σ vs) (wipeD ρ vs) := (hE.same (cut_same s1)).wipe vs
  have oD : Off A H1 (D :: A) := off_new hD
  refine ⟨fun i m H' => m = xs.length - i ∧ i ≤ xs.length ∧ Keep [D] H1 H' ∧ ∃ us, H' D = some (.lst us) ∧ DqAll K (cut (D :: A) H') us ((((xs.take i).filter p).map out)), ⟨xs.length, ?_⟩, ?_⟩
  · refine ⟨by simp, Nat.zero_le _, fun a o ha h => by rw [upd_ne (by simpa using ha)]; exact h, [], upd_same, ?_⟩
    simp; exact .nil
  · rintro i m H' ⟨rfl, hle, hk, us, hus, hdp⟩
    have kA : Keep A H1 H' := fun a o ha h => hk a o (fun z => by rw [List.mem_singleton.mp z, hD] at h; cases h) h
    have lv : Live (D :: A) H' := fun a ha e => by
      rcases List.mem_cons.mp ha with z | z
      · rw [z, hus] at e; cases e
      · cases q1 : H1 a with
        | none => exact l1 a z q1
        | some o => rw [hk a o (fun w => hDA (List.mem_singleton.mp w ▸ z)) q1] at e; cases e
    by_cases hlt : i < xs.length
    · refine .inr ⟨hJ.goes i H' (by simpa using hlt) kA, fun H2 => Keep [D] H1 H2 ∧ ∃ us, H2 D = some (.lst us) ∧ DqAll K (cut (D :: A) H2) us ((((xs.take (i + 1)).filter p).map out)), fun H2 h2 => ⟨xs.length - (i + 1), by omega, rfl, hlt, h2⟩, fun x H2 hy => ?_⟩
      obtain ⟨s2, d, hd, hx⟩ := hJ.yields i H' x H2 (D :: A) (by simpa using hlt) kA lv oD hy
      have hdi : d = enc xs[i] := by
        rw [List.getElem?_map, List.getElem?_eq_getElem hlt] at hd
        exact (Option.some.inj hd).symm
      subst hdi
      have hm : xs[i] ∈ xs := List.getElem_mem hlt
      have lv2 := lv.same s2
      refine hg _ hm (D :: A) (wipe σ vs) H2 x lv2 (E1.same (oD.cut (kA.trans (Keep.of s2)))) hx _ fun σ2 hE2 w2 => ⟨?_, ?_⟩
      · rw [w2 vs hw, wipe_wipe]
      · refine ht _ hm (D :: A) σ2 H2 lv2 hE2 _ fun H3 s3 => ?_
        have tk : (xs.take (i + 1)) = xs.take i ++ [xs[i]] := by rw [List.take_add_one, List.getElem?_eq_getElem hlt] <;> rfl
        have s23 := s2.trans s3
        cases hp : p xs[i] with
        | false =>
          refine iteF ⟨hk.trans (Keep.of s23), us, s23 D _ hus, ?_⟩
          have e : (((xs.take (i + 1)).filter p).map out) = ((xs.take i).filter p).map out := by
            rw [tk, List.filter_append, List.filter_cons_of_neg (by rw [hp]; decide)]; simp
          rw [e]
          exact dpall_same (cut_same s23) hdp
        | true =>
          refine iteT (he _ hm hp (D :: A) σ2 H3 (lv2.same s3) (hE2.same (cut_same s3)) _ fun y H4 s4 hy4 => ?_)
          have s24 := s23.trans s4
          have kp : Keep (D :: A) H4 (upd H4 D (.lst (us ++ [y]))) := fun a o ha h => by
            rw [upd_ne (fun z => ha (by simp [z]))]; exact h
          refine ⟨us, s24 D _ hus, ?_, fun a o ha h => by rw [upd_ne (by simpa using ha)]; exact s24 a o (hk a o ha h), us ++ [y], upd_same, ?_⟩
          · have := hdp.length
            rw [List.length_map] at this
            have h2 := List.length_filter_le p (xs.take i)
            rw [List.length_take] at h2
            have : us.length < 100000 := by omega
            exact Nat.lt_of_lt_of_le this (by decide)
          · have e : (((xs.take (i + 1)).filter p).map out) = ((xs.take i).filter p).map out ++ [out xs[i]] := by
              rw [tk, List.filter_append, List.filter_cons_of_pos hp]; simp
            rw [e]
            exact (dpall_same ((cut_same s24).trans kp.cut) hdp).append (.cons (dp_same kp.cut hy4) .nil)
    · have e : i = xs.length := by omega
      subst e
      refine .inl ⟨by have := hJ.stops H' kA; simpa using this, q _ H' ?_ ?_⟩
      · exact fun a o h => hk a o (fun z => by rw [List.mem_singleton.mp z] at h; rw [s1 _ _ h] at hD; cases hD) (s1 a o h)
      · refine .lst (by rw [cut_out hDA]; exact hus) ?_
        rw [List.take_length] at hdp
        refine dpall_same (fun a o e => ?_) hdp
        obtain ⟨h1, h2⟩ := cut_some e
        rw [cut_out (fun z => h1 (List.mem_cons_of_mem _ z))]; exact h2
theorem et_yes : EvT K tYes ρ true := fun A σ H l hE Q q => q H (Same.refl H)
theorem ev_lc {α : Type} {wi : TI} {g : TG} {vs ws : List Nat} (xs : List α) (enc : α → PyData) (out : α → PyData) (r2 : α → Rho) (hi : ItD K wi ρ (xs.map enc)) (hz : xs.length ≤ 100000) (hw : ∀ i ∈ ws, i ∈ vs)
    (hg : ∀ x ∈ xs, TgD K g (enc x) (wipeD ρ vs) (r2 x) ws) (he : ∀ x ∈ xs, EvD K te (r2 x) (out x)) :
    EvD K (tLc wi g tYes te vs) ρ (.list (xs.map out)) := by
  have h := ev_lcF (tt := tYes) xs enc (fun _ => true) out r2 hi hz hw hg (fun _ _ => et_yes) (fun x hx _ => he x hx)
  have e : xs.filter (fun _ => true) = xs := by simp
  rw [e] at h
  exact h
/-- the target a name -/
theorem ev_lcN {α : Type} {wi : TI} {j : Nat} {vs : List Nat} (xs : List α) (enc : α → PyData) (out : α → PyData) (hi : ItD K wi ρ (xs.map enc)) (hz : xs.length ≤ 100000) (hw : j ∈ vs)
    (he : ∀ x ∈ xs, EvD K te ((wipeD ρ vs).set j (some (enc x))) (out x)) :
    EvD K (tLc wi (gName j) tYes te vs) ρ (.list (xs.map out)) :=
  ev_lc (ws := [j]) xs enc out (fun x => (wipeD ρ vs).set j (some (enc x))) hi hz (fun i h => by rw [List.mem_singleton.mp h]; exact hw) (fun x _ => tg_name) he
theorem ev_lcNF {α : Type} {wi : TI} {j : Nat} {tt : TT} {vs : List Nat} (xs : List α) (enc : α → PyData) (p : α → Bool) (out : α → PyData) (hi : ItD K wi ρ (xs.map enc)) (hz : xs.length ≤ 100000) (hw : j ∈ vs)
    (ht : ∀ x ∈ xs, EvT K tt ((wipeD ρ vs).set j (some (enc x))) (p x)) (he : ∀ x ∈ xs, p x = true → EvD K te ((wipeD ρ vs).set j (some (enc x))) (out x)) :
    EvD K (tLc wi (gName j) tt te vs) ρ (.list ((xs.filter p).map out)) :=
  ev_lcF (ws := [j]) xs enc p out (fun x => (wipeD ρ vs).set j (some (enc x))) hi hz (fun i h => by rw [List.mem_singleton.mp h]; exact hw) (fun x _ => tg_name) ht he
end
end Lc

set_option Elab.async false
set_option linter.all false
set_option maxRecDepth 100000
set_option maxHeartbeats 4000000
namespace Lc
open PySem L2
section
variable {K : PySem.W.Frag} {A : List Addr} {ρ : Rho} {ta tb tc te : TE} {t u : TT} {d e f : PyData} {b : Bool}
/-! ### two clauses -/
theorem ev_lc2 {α β : Type} {wi wi1 : TI} {g g1 : TG} {tt tt1 : TT} {vs vs1 ws ws1 : List Nat} (xs : List α) (enc : α → PyData) (r2 : α → Rho) (ys : α → List β) (enc1 : α → β → PyData) (r3 : α → β → Rho) (p1 : α → β → Bool) (out : α → β → PyData)
    (hi : ItD K wi ρ (xs.map enc)) (hz : (xs.flatMap ys).length < 100000) (hw : ∀ i ∈ ws, i ∈ vs) (hw1 : ∀ i ∈ ws1, i ∈ vs1)
    (hg : ∀ x ∈ xs, TgD K g (enc x) (wipeD ρ vs) (r2 x) ws) (ht : ∀ x ∈ xs, EvT K tt (r2 x) true) (hi1 : ∀ x ∈ xs, ItD K wi1 (r2 x) ((ys x).map (enc1 x)))
    (hg1 : ∀ x ∈ xs, ∀ y ∈ ys x, TgD K g1 (enc1 x y) (wipeD (r2 x) vs1) (r3 x y) ws1) (ht1 : ∀ x ∈ xs, ∀ y ∈ ys x, EvT K tt1 (r3 x y) (p1 x y)) (he : ∀ x ∈ xs, ∀ y ∈ ys x, p1 x y = true → EvD K te (r3 x y) (out x y)) :
    EvD K (tLc2 wi g tt wi1 g1 tt1 te vs vs1) ρ (.list (xs.flatMap fun x => ((ys x).filter (p1 x)).map (out x))) := fun A σ H l hE Q q => hi A σ H l hE _ fun J H1 s1 hJ => fun D hD => by
  have l1 := l.same s1
  have hDA : D ∉ A := l1.fresh hD
  have E1 : EnvD K (cut A H1) (wipe σ vs) (wipeD ρ vs) := (hE.same (cut_same s1)).wipe vs
  have oD : Off A H1 (D :: A) := off_new hD
  let res : List α → List PyData := fun zs => zs.flatMap fun x => ((ys x).filter (p1 x)).map (out x)
  let res1 : α → Nat → List PyData := fun x j => (((ys x).take j).filter (p1 x)).map (out x)
  have szs : ∀ i (hlt : i < xs.length) (j : Nat), (res (xs.take i)).length + (res1 xs[i] j).length < 100000 ∨ (ys xs[i]).length ≤ j ∨ (res (xs.take i)).length + (res1 xs[i] j).length < 100000 := by
    intro i hlt j
    refine .inl ?_
    have h1 : (res (xs.take i)).length + (res1 xs[i] j).length ≤ (xs.flatMap ys).length := by
      have a1 : ∀ zs : List α, (res zs).length ≤ (zs.flatMap ys).length := by
        intro zs
        induction zs with
        | nil => simp [res]
        | cons z zs ih =>
          have e1 : res (z :: zs) = ((ys z).filter (p1 z)).map (out z) ++ res zs := by simp [res]
          rw [e1, List.flatMap_cons, List.length_append, List.length_append, List.length_map]
          have := List.length_filter_le (p1 z) (ys z)
          omega
      have a2 : (res1 xs[i] j).length ≤ (ys xs[i]).length := by
        show ((((ys xs[i]).take j).filter (p1 xs[i])).map (out xs[i])).length ≤ _
        rw [List.length_map]
        have := List.length_filter_le (p1 xs[i]) ((ys xs[i]).take j)
        rw [List.length_take] at this
        omega
      have a3 : xs = xs.take i ++ xs[i] :: xs.drop (i + 1) := by simp
      have a4 : (xs.flatMap ys).length = ((xs.take i).flatMap ys).length + ((ys xs[i]).length + ((xs.drop (i + 1)).flatMap ys).length) := by
        conv => lhs; rw [a3]
        rw [List.flatMap_append, List.flatMap_cons, List.length_append, List.length_append]
      have := a1 (xs.take i)
      omega
    omega
  refine ⟨fun i m H' => m = xs.length - i ∧ i ≤ xs.length ∧ Keep [D] H1 H' ∧ ∃ us, H' D = some (.lst us) ∧ DqAll K (cut (D :: A) H') us (res (xs.take i)), ⟨xs.length, ?_⟩, ?_⟩
  · refine ⟨by simp, Nat.zero_le _, fun a o ha h => by rw [upd_ne (by simpa using ha)]; exact h, [], upd_same, ?_⟩
    simp [res]; exact .nil
  · rintro i m H' ⟨rfl, hle, hk, us, hus, hdp⟩
    have live_of : ∀ H' us, Keep [D] H1 H' → H' D = some (.lst us) → Live (D :: A) H' := fun H' us hk hus a ha e => by
      rcases List.mem_cons.mp ha with z | z
      · rw [z, hus] at e; cases e
      · cases q1 : H1 a with
        | none => exact l1 a z q1
        | some o => rw [hk a o (fun w => hDA (List.mem_singleton.mp w ▸ z)) q1] at e; cases e
    have kA : ∀ H', Keep [D] H1 H' → Keep A H1 H' := fun H' hk a o ha h => hk a o (fun z => by rw [List.mem_singleton.mp z, hD] at h; cases h) h
    have lv := live_of H' us hk hus
    by_cases hlt : i < xs.length
    · refine .inr ⟨hJ.goes i H' (by simpa using hlt) (kA _ hk), fun H2 => Keep [D] H1 H2 ∧ ∃ us, H2 D = some (.lst us) ∧ DqAll K (cut (D :: A) H2) us (res (xs.take (i + 1))), fun H2 h2 => ⟨xs.length - (i + 1), by omega, rfl, hlt, h2⟩, fun x H2 hy => ?_⟩
      obtain ⟨s2, d, hd, hx⟩ := hJ.yields i H' x H2 (D :: A) (by simpa using hlt) (kA _ hk) lv oD hy
      have hdi : d = enc xs[i] := by
        rw [List.getElem?_map, List.getElem?_eq_getElem hlt] at hd
        exact (Option.some.inj hd).symm
      subst hdi
      have hm : xs[i] ∈ xs := List.getElem_mem hlt
      have lv2 := lv.same s2
      have tk : (xs.take (i + 1)) = xs.take i ++ [xs[i]] := by rw [List.take_add_one, List.getElem?_eq_getElem hlt] <;> rfl
      refine hg _ hm (D :: A) (wipe σ vs) H2 x lv2 (E1.same (oD.cut ((kA _ hk).trans (Keep.of s2)))) hx _ fun σ2 hE2 w2 => ⟨?_, ?_⟩
      · rw [w2 vs hw, wipe_wipe]
      · refine ht _ hm (D :: A) σ2 H2 lv2 hE2 _ fun H3 s3 => iteT ?_
        have s23 := s2.trans s3
        refine hi1 _ hm (D :: A) σ2 H3 (lv2.same s3) (hE2.same (cut_same s3)) _ fun J1 H4 s4 hJ1 => ?_
        have s24 := s23.trans s4
        have E4 : EnvD K (cut (D :: A) H4) (wipe σ2 vs1) (wipeD (r2 xs[i]) vs1) := (hE2.same ((cut_same s3).trans (cut_same s4))).wipe vs1
        refine ⟨fun j m H' => m = (ys xs[i]).length - j ∧ j ≤ (ys xs[i]).length ∧ Keep [D] H4 H' ∧ ∃ us, H' D = some (.lst us) ∧ DqAll K (cut (D :: A) H') us (res (xs.take i) ++ res1 xs[i] j), ⟨(ys xs[i]).length, ?_⟩, ?_⟩
        · refine ⟨by simp, Nat.zero_le _, Keep.refl, us, s24 D _ hus, ?_⟩
          have e0 : res1 xs[i] 0 = [] := by simp [res1]
          rw [e0, List.append_nil]
          exact dpall_same (cut_same s24) hdp
        · rintro j m H5 ⟨rfl, hjle, hk5, us5, hus5, hdp5⟩
          have hk15 : Keep [D] H1 H5 := (hk.trans (Keep.of s24)).trans hk5
          have lv5 := live_of H5 us5 hk15 hus5
          have k45 : Keep (D :: A) H4 H5 := hk5.mono (by simp)
          have oo : Off (D :: A) H4 (D :: A) := Off.refl
          by_cases hjlt : j < (ys xs[i]).length
          · refine .inr ⟨hJ1.goes j H5 (by simpa using hjlt) k45, fun H6 => Keep [D] H4 H6 ∧ ∃ us, H6 D = some (.lst us) ∧ DqAll K (cut (D :: A) H6) us (res (xs.take i) ++ res1 xs[i] (j + 1)), fun H6 h6 => ⟨(ys xs[i]).length - (j + 1), by omega, rfl, hjlt, h6⟩, fun x6 H6 hy6 => ?_⟩
            obtain ⟨s6, d6, hd6, hx6⟩ := hJ1.yields j H5 x6 H6 (D :: A) (by simpa using hjlt) k45 lv5 oo hy6
            have hdi6 : d6 = enc1 xs[i] (ys xs[i])[j] := by
              rw [List.getElem?_map, List.getElem?_eq_getElem hjlt] at hd6
              exact (Option.some.inj hd6).symm
            subst hdi6
            have hm6 : (ys xs[i])[j] ∈ ys xs[i] := List.getElem_mem hjlt
            have lv6 := lv5.same s6
            refine hg1 _ hm _ hm6 (D :: A) (wipe σ2 vs1) H6 x6 lv6 (E4.same ((k45.cut).trans (cut_same s6))) hx6 _ fun σ7 hE7 w7 => ⟨?_, ?_⟩
            · rw [w7 vs1 hw1, wipe_wipe]
            · refine ht1 _ hm _ hm6 (D :: A) σ7 H6 lv6 hE7 _ fun H8 s8 => ?_
              have tk1 : ((ys xs[i]).take (j + 1)) = (ys xs[i]).take j ++ [(ys xs[i])[j]] := by rw [List.take_add_one, List.getElem?_eq_getElem hjlt] <;> rfl
              have s68 := s6.trans s8
              cases hp : p1 xs[i] (ys xs[i])[j] with
              | false =>
                refine iteF ⟨hk5.trans (Keep.of s68), us5, s68 D _ hus5, ?_⟩
                have e : res1 xs[i] (j + 1) = res1 xs[i] j := by
                  show ((((ys xs[i]).take (j + 1)).filter (p1 xs[i])).map (out xs[i])) = _
                  rw [tk1, List.filter_append, List.filter_cons_of_neg (by rw [hp]; decide)]; simp [res1]
                rw [e]
                exact dpall_same (cut_same s68) hdp5
              | true =>
                refine iteT (he _ hm _ hm6 hp (D :: A) σ7 H8 (lv6.same s8) (hE7.same (cut_same s8)) _ fun y H9 s9 hy9 => ?_)
                have s69 := s68.trans s9
                have kp : Keep (D :: A) H9 (upd H9 D (.lst (us5 ++ [y]))) := fun a o ha h => by
                  rw [upd_ne (fun z => ha (by simp [z]))]; exact h
                refine ⟨us5, s69 D _ hus5, ?_, fun a o ha h => by rw [upd_ne (by simpa using ha)]; exact s69 a o (hk5 a o ha h), us5 ++ [y], upd_same, ?_⟩
                · have hl := hdp5.length
                  rw [List.length_append] at hl
                  have := szs i hlt j
                  have : us5.length < 100000 := by omega
                  exact Nat.lt_of_lt_of_le this (by decide)
                · have e : res1 xs[i] (j + 1) = res1 xs[i] j ++ [out xs[i] (ys xs[i])[j]] := by
                    show ((((ys xs[i]).take (j + 1)).filter (p1 xs[i])).map (out xs[i])) = _
                    rw [tk1, List.filter_append, List.filter_cons_of_pos hp]; simp [res1]
                  rw [e, ← List.append_assoc]
                  exact (dpall_same ((cut_same s69).trans kp.cut) hdp5).append (.cons (dp_same kp.cut hy9) .nil)
          · have e : j = (ys xs[i]).length := by omega
            subst e
            refine .inl ⟨by have := hJ1.stops H5 k45; simpa using this, hk15, us5, hus5, ?_⟩
            have e : res (xs.take (i + 1)) = res (xs.take i) ++ res1 xs[i] (ys xs[i]).length := by
              rw [tk]
              show List.flatMap _ _ = _
              rw [List.flatMap_append]
              simp [res, res1]
            rw [e]
            exact hdp5
    · have e : i = xs.length := by omega
      subst e
      refine .inl ⟨by have := hJ.stops H' (kA _ hk); simpa using this, q _ H' ?_ ?_⟩
      · exact fun a o h => hk a o (fun z => by rw [List.mem_singleton.mp z] at h; rw [s1 _ _ h] at hD; cases hD) (s1 a o h)
      · refine .lst (by rw [cut_out hDA]; exact hus) ?_
        rw [List.take_length] at hdp
        refine dpall_same (fun a o e => ?_) hdp
        obtain ⟨h1, h2⟩ := cut_some e
        rw [cut_out (fun z => h1 (List.mem_cons_of_mem _ z))]; exact h2

/-! ### statements -/
inductive Out where
  | nx (ρ : Rho) | rt (d : PyData) | ex (C : Addr)
def Cont (K : PySem.W.Frag) (A : List Addr) (E : XK) (D : Ends) (H : Hp) : Out → Prop
  | .nx ρ => ∀ σ' H', Same H H' → EnvD K (cut A H') σ' ρ → D.nx σ' H'
  | .rt d => ∀ v H', Same H H' → Dq K (cut A H') v d → D.rt v H'
  | .ex C => ∀ H', Same H H' → E (.ref C) none H'
def ExS (K : PySem.W.Frag) (E : XK) (ts : TS) (ρ : Rho) (o : Out) : Prop :=
  ∀ A σ H D, Live A H → EnvD K (cut A H) σ ρ → Cont K A E D H o → ts D σ H
variable {E : XK} {ts tz tw : TS} {o : Out} {ρ1 ρ2 : Rho}
theorem Cont.same {D : Ends} {H H' : Hp} (s : Same H H') (c : Cont K A E D H o) : Cont K A E D H' o := by
  cases o with
  | nx ρ => exact fun σ' H2 s2 => c σ' H2 (s.trans s2)
  | rt d => exact fun v H2 s2 => c v H2 (s.trans s2)
  | ex C => exact fun H2 s2 => c H2 (s.trans s2)
theorem xs_seq (h1 : ExS K E ts ρ (.nx ρ1)) (h2 : ExS K E tz ρ1 o) : ExS K E (tSeq ts tz) ρ o := fun A σ H D l hE c =>
  h1 A σ H { D with nx := tz D } l hE fun σ' H' s hE' => h2 A σ' H' D (l.same s) hE' (c.same s)
theorem xs_seqR (h1 : ExS K E ts ρ (.rt d)) : ExS K E (tSeq ts tz) ρ (.rt d) := fun A σ H D l hE c =>
  h1 A σ H { D with nx := tz D } l hE fun v H' s hv => c v H' s hv
theorem xs_seqX {C : Addr} (h1 : ExS K E ts ρ (.ex C)) : ExS K E (tSeq ts tz) ρ (.ex C) := fun A σ H D l hE c =>
  h1 A σ H { D with nx := tz D } l hE fun H' s => c H' s
theorem xs_next : ExS K E tNext ρ (.nx ρ) := fun A σ H D l hE c => c σ H (Same.refl H) hE
theorem xs_ret (h : EvD K te ρ d) : ExS K E (tRet te) ρ (.rt d) := fun A σ H D l hE c => h A σ H l hE _ fun v H' s hv => c v H' s hv
theorem xs_drop (h : EvD K te ρ d) : ExS K E (tDrop te) ρ (.nx ρ) := fun A σ H D l hE c => h A σ H l hE _ fun v H' s hv => c σ H' s (hE.same (cut_same s))
theorem xs_asg {i : Nat} (h : EvD K te ρ d) : ExS K E (tAsg te (gName i)) ρ (.nx (ρ.set i (some d))) := fun A σ H D l hE c =>
  h A σ H l hE _ fun v H' s hv => c _ H' s ((hE.same (cut_same s)).set hv i)
theorem xs_asgT {g : TG} {vs : List Nat} (h : EvD K te ρ d) (hg : TgD K g d ρ ρ1 vs) : ExS K E (tAsg te g) ρ (.nx ρ1) := fun A σ H D l hE c =>
  h A σ H l hE _ fun v H' s hv => hg A σ H' v (l.same s) (hE.same (cut_same s)) hv _ fun σ' hE' _ => c σ' H' s hE'
theorem xs_par {i j : Nat} {ta : TA} (h : EvA K ta ρ [d, e]) : ExS K E (tPar i j ta) ρ (.nx ((ρ.set i (some d)).set j (some e))) := fun A σ H D l hE c =>
  h A σ H l hE _ fun vs H' s hv => by
    cases hv with
    | cons h1 h2 =>
      cases h2 with
      | cons h3 h4 =>
        cases h4
        exact ⟨_, _, rfl, c _ H' s (((hE.same (cut_same s)).set h1 i).set h3 j)⟩
theorem xs_if (h : EvT K t ρ b) (h1 : b = true → ExS K E ts ρ o) (h2 : b = false → ExS K E tz ρ o) : ExS K E (tIfS t ts tz) ρ o := fun A σ H D l hE c => h A σ H l hE _ fun H' s => by
  cases b with
  | true => exact iteT (h1 rfl A σ H' D (l.same s) (hE.same (cut_same s)) (c.same s))
  | false => exact iteF (h2 rfl A σ H' D (l.same s) (hE.same (cut_same s)) (c.same s))
theorem xs_raise {C : Addr} : ExS K E (fun _ _ H => E (.ref C) none H) ρ (.ex C) := fun A σ H D l hE c => c H (Same.refl H)
/-- a for that runs through -/
theorem xs_for {α : Type} {wi : TI} {g : TG} (xs : List α) (enc : α → PyData) (r : Nat → Rho) (r2 : Nat → Rho) {ws : List Nat} (hi : ItD K wi ρ (xs.map enc)) (h0 : r 0 = ρ)
    (hg : ∀ i (h : i < xs.length), TgD K g (enc xs[i]) (r i) (r2 i) ws) (hb : ∀ i, i < xs.length → ExS K E ts (r2 i) (.nx (r (i + 1)))) : ExS K E (tFor wi g ts) ρ (.nx (r xs.length)) := fun A σ H D l hE c => hi A σ H l hE _ fun J H1 s1 hJ => by
  refine ⟨fun i m σ' H' => m = xs.length - i ∧ i ≤ xs.length ∧ Same H1 H' ∧ EnvD K (cut A H') σ' (r i), ⟨xs.length, by simp, Nat.zero_le _, Same.refl _, by rw [h0]; exact hE.same (cut_same s1)⟩, ?_⟩
  rintro i m σ' H' ⟨rfl, hle, hk, hE'⟩
  have lv : Live A H' := (l.same s1).same hk
  by_cases hlt : i < xs.length
  · refine .inr ⟨hJ.goes i H' (by simpa using hlt) (Keep.of hk), fun σ2 H2 => Same H1 H2 ∧ EnvD K (cut A H2) σ2 (r (i + 1)), fun σ2 H2 h2 => ⟨xs.length - (i + 1), by omega, rfl, hlt, h2.1, h2.2⟩, fun x H2 hy => ?_⟩
    obtain ⟨s2, d, hd, hx⟩ := hJ.yields i H' x H2 A (by simpa using hlt) (Keep.of hk) lv Off.refl hy
    have hdi : d = enc xs[i] := by
      rw [List.getElem?_map, List.getElem?_eq_getElem hlt] at hd
      exact (Option.some.inj hd).symm
    subst hdi
    refine hg i hlt A σ' H2 x (lv.same s2) (hE'.same (cut_same s2)) hx _ fun σ2 hE2 _ => ?_
    exact hb i hlt A σ2 H2 _ (lv.same s2) hE2 fun σ3 H3 s3 hE3 => ⟨(hk.trans s2).trans s3, hE3⟩
  · have e : i = xs.length := by omega
    subst e
    exact .inl ⟨by have := hJ.stops H' (Keep.of hk); simpa using this, c σ' H' (s1.trans hk) hE'⟩
/-- a for that is left by a return in turn n -/
theorem xs_forR {α : Type} {wi : TI} {g : TG} (xs : List α) (enc : α → PyData) (r : Nat → Rho) (r2 : Nat → Rho) (n : Nat) {ws : List Nat} (hn : n < xs.length) (hi : ItD K wi ρ (xs.map enc)) (h0 : r 0 = ρ)
    (hg : ∀ i (h : i < xs.length), i ≤ n → TgD K g (enc xs[i]) (r i) (r2 i) ws) (hb : ∀ i, i < n → ExS K E ts (r2 i) (.nx (r (i + 1)))) (hr : ExS K E ts (r2 n) (.rt d)) : ExS K E (tFor wi g ts) ρ (.rt d) := fun A σ H D l hE c => hi A σ H l hE _ fun J H1 s1 hJ => by
  refine ⟨fun i m σ' H' => m = xs.length - i ∧ i ≤ n ∧ Same H1 H' ∧ EnvD K (cut A H') σ' (r i), ⟨xs.length, by simp, Nat.zero_le _, Same.refl _, by rw [h0]; exact hE.same (cut_same s1)⟩, ?_⟩
  rintro i m σ' H' ⟨rfl, hle, hk, hE'⟩
  have lv : Live A H' := (l.same s1).same hk
  have hlt : i < xs.length := by omega
  refine .inr ⟨hJ.goes i H' (by simpa using hlt) (Keep.of hk), fun σ2 H2 => i < n ∧ Same H1 H2 ∧ EnvD K (cut A H2) σ2 (r (i + 1)), fun σ2 H2 h2 => ⟨xs.length - (i + 1), by omega, rfl, by omega, h2.2.1, h2.2.2⟩, fun x H2 hy => ?_⟩
  obtain ⟨s2, d, hd, hx⟩ := hJ.yields i H' x H2 A (by simpa using hlt) (Keep.of hk) lv Off.refl hy
  have hdi : d = enc xs[i] := by
    rw [List.getElem?_map, List.getElem?_eq_getElem hlt] at hd
    exact (Option.some.inj hd).symm
  subst hdi
  refine hg i hlt hle A σ' H2 x (lv.same s2) (hE'.same (cut_same s2)) hx _ fun σ2 hE2 _ => ?_
  by_cases hin : i < n
  · exact hb i hin A σ2 H2 _ (lv.same s2) hE2 fun σ3 H3 s3 hE3 => ⟨hin, (hk.trans s2).trans s3, hE3⟩
  · have e : i = n := by omega
    subst e
    exact hr A σ2 H2 _ (lv.same s2) hE2 fun v H3 s3 hv => c v H3 (s1.trans ((hk.trans s2).trans s3)) hv
/-- a while: the states r 0, r 1, .. r n, the test true ahead of n -/
theorem xs_while (r : Nat → Rho) (n : Nat) (h0 : r 0 = ρ) (ht : ∀ i, i < n → EvT K t (r i) true) (hf : EvT K t (r n) false) (hb : ∀ i, i < n → ExS K E ts (r i) (.nx (r (i + 1)))) : ExS K E (tWhile t ts) ρ (.nx (r n)) := fun A σ H D l hE c => by
  refine ⟨fun m σ' H' => ∃ i, m = n - i ∧ i ≤ n ∧ Same H H' ∧ EnvD K (cut A H') σ' (r i), ⟨n, 0, by simp, Nat.zero_le _, Same.refl _, by rw [h0]; exact hE⟩, ?_⟩
  rintro m σ' H' ⟨i, rfl, hle, hk, hE'⟩
  have lv : Live A H' := l.same hk
  by_cases hlt : i < n
  · refine ht i hlt A σ' H' lv hE' _ fun H2 s2 => iteT ⟨fun σ2 H3 => Same H H3 ∧ EnvD K (cut A H3) σ2 (r (i + 1)), fun σ2 H3 h3 => ⟨n - (i + 1), by omega, i + 1, rfl, hlt, h3.1, h3.2⟩, ?_⟩
    exact hb i hlt A σ' H2 _ (lv.same s2) (hE'.same (cut_same s2)) fun σ3 H3 s3 hE3 => ⟨(hk.trans s2).trans s3, hE3⟩
  · have e : i = n := by omega
    subst e
    exact hf A σ' H' lv hE' _ fun H2 s2 => iteF (c σ' H2 (hk.trans s2) (hE'.same (cut_same s2)))
end
end Lc

set_option Elab.async false
set_option linter.all false
set_option maxRecDepth 100000
set_option maxHeartbeats 4000000
namespace Lc
open PySem L2 PySem.Spec PyProof.Rows

/-! ### shapes -/
def Sh (n : Nat) (d : PyData) : Prop := d.canLay0 = true ∧ d.depth ≤ n
theorem Sh.shaped {n : Nat} {d : PyData} (h : Sh n d) (hn : n ≤ 64) : SeqAt.shaped d = true := by
  show (d.canLay0 && decide (d.depth ≤ 64)) = true
  rw [h.1, decide_eq_true (Nat.le_trans h.2 hn)]; rfl
theorem Sh.mono {m n : Nat} {d : PyData} (h : Sh m d) (hn : m ≤ n) : Sh n d := ⟨h.1, Nat.le_trans h.2 hn⟩
theorem sh_int {n : Nat} {i : Int} : Sh n (.int i) := ⟨by simp [PyData.canLay0], by simp [PyData.depth]⟩
theorem sh_bool {n : Nat} {i : Bool} : Sh n (.bool i) := ⟨by simp [PyData.canLay0], by simp [PyData.depth]⟩
theorem sh_none {n : Nat} : Sh n .none := ⟨by simp [PyData.canLay0], by simp [PyData.depth]⟩
theorem sh_all {n : Nat} : ∀ {ds : List PyData}, (∀ d ∈ ds, Sh n d) → PyData.canLayAll0 ds = true ∧ PyData.depthAll ds ≤ n
  | [], _ => ⟨by simp [PyData.canLayAll0], by simp [PyData.depthAll]⟩
  | d :: ds, h => by
    obtain ⟨h1, h2⟩ := sh_all (n := n) (ds := ds) fun x hx => h x (by simp [hx])
    obtain ⟨h3, h4⟩ := h d (by simp)
    exact ⟨by simp [PyData.canLayAll0, h1, h3], by simp only [PyData.depthAll]; omega⟩
theorem sh_tup {n : Nat} {ds : List PyData} (h : ∀ d ∈ ds, Sh n d) : Sh (n + 1) (.tuple ds) := by
  obtain ⟨h1, h2⟩ := sh_all h
  exact ⟨by simp only [PyData.canLay0]; exact h1, by simp only [PyData.depth]; omega⟩
theorem sh_lst {n : Nat} {ds : List PyData} (h : ∀ d ∈ ds, Sh n d) : Sh (n + 1) (.list ds) := by
  obtain ⟨h1, h2⟩ := sh_all h
  exact ⟨by simp only [PyData.canLay0]; exact h1, by simp only [PyData.depth]; omega⟩
theorem sh_tupI {n : Nat} {ns : List Int} : Sh (n + 1) (.tuple (ns.map .int)) := sh_tup fun d hd => by
  obtain ⟨i, _, rfl⟩ := List.mem_map.mp hd
  exact sh_int
theorem sh_nil {n : Nat} : Sh (n + 1) (.tuple []) := sh_tup fun d hd => by simp at hd
theorem sh_nilL {n : Nat} : Sh (n + 1) (.list []) := sh_lst fun d hd => by simp at hd
mutual
theorem dq_dp {K : PySem.W.Frag} {H : Hp} : ∀ (d : PyData) {v : V}, d.canLay0 = true → Dq K H v d → Dp K H v d
  | .none, _, _, h => by cases h; exact .non
  | .bool b, _, _, h => by cases h; exact .bl b
  | .int i, _, _, h => by cases h; exact .int i
  | .str x, _, _, h => by cases h; exact .str x
  | .list ds, _, c, h => by cases h with | lst h1 h2 => exact .lst (SqL.of h1) (dq_dps ds (by simpa [PyData.canLay0] using c) h2)
  | .tuple ds, _, c, h => by cases h with | tup h1 h2 => exact .tup (SqT.of h1) (dq_dps ds (by simpa [PyData.canLay0] using c) h2)
  | .dict _, _, c, h => by simp [PyData.canLay0] at c
theorem dq_dps {K : PySem.W.Frag} {H : Hp} : ∀ (ds : List PyData) {vs : List V}, PyData.canLayAll0 ds = true → DqAll K H vs ds → DpAll K H vs ds
  | [], _, _, h => by cases h; exact .nil
  | d :: ds, _, c, h => by
    cases h with
    | cons h1 h2 =>
      have c' : d.canLay0 = true ∧ PyData.canLayAll0 ds = true := by simpa [PyData.canLayAll0] using c
      exact .cons (dq_dp d c'.1 h1) (dq_dps ds c'.2 h2)
end
theorem dq_out {K : PySem.W.Frag} {A : List Addr} {H : Hp} {v : V} {d : PyData} (h : Dq K (cut A H) v d) : Dq K H v d := dp_same same_cut h
theorem dqs_out {K : PySem.W.Frag} {A : List Addr} {H : Hp} {v : List V} {d : List PyData} (h : DqAll K (cut A H) v d) : DqAll K H v d := dpall_same same_cut h

/-! ### one of two readings -/
def rO (r r' : R2) : R2 := fun x y H Q => r x y H Q ∨ r' x y H Q
theorem opr_o {X : Cx} {f : Value → Value → Sem Value} {r r' : R2} (h : OpR X f r) (h' : OpR X f r') : OpR X f (rO r r') := by
  intro pins s σ H x y v u Q I rx ry q
  rcases q with q | q
  · exact h pins s σ H x y v u Q I rx ry q
  · exact h' pins s σ H x y v u Q I rx ry q
theorem ixr_o {X : Cx} {r r' : R2} (h : IxR X r) (h' : IxR X r') : IxR X (rO r r') := h.or h'
def cO (r r' : List V → Hp → VK → Prop) : List V → Hp → VK → Prop := fun xs H Q => r xs H Q ∨ r' xs H Q
theorem cr_o {X : Cx} {f : Value} {r r' : List V → Hp → VK → Prop} (h : CallR X f r) (h' : CallR X f r') : CallR X f (cO r r') := by
  intro pins s σ H xs us Q I rs q
  rcases q with q | q
  · exact h pins s σ H xs us Q I rs q
  · exact h' pins s σ H xs us Q I rs q
section
variable {K : PySem.W.Frag} {r r' : R2} {d e f : PyData}
theorem OpD.inl (h : OpD K r d e f) : OpD K (rO r r') d e f := fun A x y H l hx hy Q q => .inl (h A x y H l hx hy Q q)
theorem OpD.inr (h : OpD K r' d e f) : OpD K (rO r r') d e f := fun A x y H l hx hy Q q => .inr (h A x y H l hx hy Q q)
theorem CaD.inl {r r' : List V → Hp → VK → Prop} {ds : List PyData} (h : CaD K r ds f) : CaD K (cO r r') ds f := fun A xs H l hx Q q => .inl (h A xs H l hx Q q)
theorem CaD.inr {r r' : List V → Hp → VK → Prop} {ds : List PyData} (h : CaD K r' ds f) : CaD K (cO r r') ds f := fun A xs H l hx Q q => .inr (h A xs H l hx Q q)
end

/-! ### + - * // % ** -/
def rAddStr : R2 := fun x y H Q => ∃ i j, x = .str i ∧ y = .str j ∧ i.length + j.length ≤ sizeLine ∧ Q (.str (i ++ j)) H
def rAddU (K : PySem.W.Frag) : R2 := rO (rI0 fun i j => .int (i + j)) (rO (rCatA K) (rO rCat rAddStr))
theorem op_addU {X : Cx} : OpR X (binaryOp .Add) (rAddU X.K) := opr_o op_add (opr_o op_catA (opr_o op_cat op_add_str))
abbrev rSubU : R2 := rI0 fun i j => .int (i - j)
abbrev rModU : R2 := rI (fun _ j => 0 < j) fun i j => .int (i % j)
def rDivU : R2 := rO (rI CDiv fun i j => .int (i / j)) (rI CDivW fun i j => .int (i / j))
theorem op_divU {X : Cx} : OpR X (binaryOp .FloorDiv) rDivU := opr_o op_fdiv op_fdivW
abbrev rPowU : R2 := rI CPow fun i j => .int (i ^ j.toNat)
/-- a tuple times 0, times 1 -/
def rRepT1 (K : PySem.W.Frag) : R2 := fun x y H Q => ∃ l xs, x = .ref l ∧ y = .int 1 ∧ SqT K H l xs ∧ Q (.ref l) H
theorem tuple_mul1 (l : Addr) (items : Array Value) (n : Nat) (dd : Option Addr) (sl : Array (Option Value)) (u : Tok) :
    Meets (Builtin.«tuple.__mul__» ⟨[.ref l, .int 1 u], []⟩) (fun _ R s => s.heap.get? l = some { cls := .type "tuple", dict := dd, data := .seq items n, slots := sl } ∧ R (.ok (.ret (Value.ref l))) s) :=
  .of_wp fun prog w A R s h => by
    obtain ⟨hp, g, d, tk, os⟩ := s
    obtain ⟨hl, h⟩ := h
    have f1 := AutoSeq1.idx_int
    have c0 : (decide ((1 : Int) < -(2 ^ 63)) || decide ((1 : Int) ≥ 2 ^ 63)) = false := by decide
    have c1 : (items.isEmpty || (1 : Int) == 1) = true := by simp
    wp_walk using wpAny_loadPart' hl
    repeat (first
      | (refine wpAny_ite_false (decide_eq_false (by rw [c0]; exact Bool.false_ne_true)) ?_; wp_walk using wpAny_loadPart' hl)
      | (refine wpAny_ite_true (decide_eq_true (by rw [c1])) ?_; wp_walk using wpAny_loadPart' hl))
    exact ⟨_, rfl, h⟩
theorem tuple_mul0 (l : Addr) (items : Array Value) (n : Nat) (dd : Option Addr) (sl : Array (Option Value)) (u : Tok) (hi : items.isEmpty = false) :
    Meets (Builtin.«tuple.__mul__» ⟨[.ref l, .int 0 u], []⟩) (fun _ R s => s.heap.get? l = some { cls := .type "tuple", dict := dd, data := .seq items n, slots := sl } ∧
      R (.ok (.ret (Value.ref s.heap.objs.size))) { s with heap := s.heap.push { cls := Value.type "tuple", data := Data.seq #[] } }) :=
  .of_wp fun prog w A R s h => by
    obtain ⟨hp, g, d, tk, os⟩ := s
    obtain ⟨hl, h⟩ := h
    have f1 := AutoSeq1.idx_int
    have c0 : (decide ((0 : Int) < -(2 ^ 63)) || decide ((0 : Int) ≥ 2 ^ 63)) = false := by decide
    have c1 : (items.isEmpty || (0 : Int) == 1) = false := by rw [hi]; rfl
    have c2 : (decide ((0 : Int) ≤ 0) || items.isEmpty) = true := by simp
    wp_walk using wpAny_loadPart' hl
    repeat (first
      | (refine wpAny_ite_false (decide_eq_false (by rw [c0]; exact Bool.false_ne_true)) ?_; wp_walk using wpAny_loadPart' hl)
      | (refine wpAny_ite_false (decide_eq_false (by rw [c1]; exact Bool.false_ne_true)) ?_; wp_walk using wpAny_loadPart' hl)
      | (refine wpAny_ite_true (decide_eq_true (by rw [c2])) ?_; wp_walk using wpAny_loadPart' hl))
    exact ⟨_, rfl, h⟩
def rRepT0 (K : PySem.W.Frag) : R2 := fun x y H Q => ∃ l xs, x = .ref l ∧ y = .int 0 ∧ SqT K H l xs ∧ xs ≠ [] ∧ ∀ p, H p = none → Q (.ref p) (upd H p (.tup []))
theorem op_repT1 {X : Cx} : OpR X (binaryOp .Mult) (rRepT1 X.K) := by
  intro pins s σ H x y v u Q I rx ry h
  obtain ⟨l, xs, rfl, rfl, hT, q⟩ := h
  cases rx
  obtain ⟨t, rfl⟩ := ry
  obtain ⟨its, r, ⟨⟨cls, dd, data, sl⟩, ho, hc, n, hd⟩, hs⟩ := I.tuple hT
  simp only at hc hd
  subst hc hd
  exact wpAny_binaryOp_repeat_ref (T := "tuple") (U := "int") (by decide) ⟨_, ho, rfl⟩ (fun s' => typeIs_int s' 1 t) noFill_tuple_mul F.fills_int_mul F.slot_int_rmul repeat_tuple F.slot_int_index.lookup
    (call_meets F.slot_int_rmul (typeIs_int s 1 t) F.entry_int_rmul (F.args_int_rmul_2 _ _) (int_rmul_tuple 1 t l its.toArray n dd sl)
      ⟨ho, rfl, ⟨_, ho, rfl⟩, call_meets F.slot_tuple_mul ⟨_, ho, rfl⟩ F.entry_tuple_mul (F.args_tuple_mul_2 _ _) (tuple_mul1 l its.toArray n dd sl t) ⟨ho, .ref l, H, I, rfl, q⟩⟩)
theorem op_repT0 {X : Cx} : OpR X (binaryOp .Mult) (rRepT0 X.K) := by
  intro pins s σ H x y v u Q I rx ry h
  obtain ⟨l, xs, rfl, rfl, hT, hne, q⟩ := h
  cases rx
  obtain ⟨t, rfl⟩ := ry
  obtain ⟨its, r, ⟨⟨cls, dd, data, sl⟩, ho, hc, n, hd⟩, hs⟩ := I.tuple hT
  simp only at hc hd
  subst hc hd
  have hi : its.toArray.isEmpty = false := by
    cases its with
    | nil => exact absurd (List.eq_nil_of_length_eq_zero r.length) hne
    | cons a b => rfl
  refine wpAny_binaryOp_repeat_ref (T := "tuple") (U := "int") (by decide) ⟨_, ho, rfl⟩ (fun s' => typeIs_int s' 0 t) noFill_tuple_mul F.fills_int_mul F.slot_int_rmul repeat_tuple F.slot_int_index.lookup
    (call_meets F.slot_int_rmul (typeIs_int s 0 t) F.entry_int_rmul (F.args_int_rmul_2 _ _) (int_rmul_tuple 0 t l its.toArray n dd sl)
      ⟨ho, rfl, ⟨_, ho, rfl⟩, call_meets F.slot_tuple_mul ⟨_, ho, rfl⟩ F.entry_tuple_mul (F.args_tuple_mul_2 _ _) (tuple_mul0 l its.toArray n dd sl t hi) ⟨ho, ?_⟩⟩)
  refine ⟨.ref s.heap.objs.size, _, I.laid (t' := s.toks) (o := .tup []) (fun b ob q => Heap.get?_push_of_some _ q) (Nat.le_refl _) ?_, rfl, q _ (I.hok.fresh (Nat.le_refl _))⟩
  exact ⟨Nat.zero_le _, [], .nil, IsTup.new _ _⟩
def rMulU (K : PySem.W.Frag) : R2 := rO (rI CMul fun i j => .int (i * j)) (rO (rI CMulW fun i j => .int (i * j)) (rO (rRepT K) (rO (rRepT1 K) (rO (rRepT0 K) rRep))))
theorem op_mulU {X : Cx} : OpR X (binaryOp .Mult) (rMulU X.K) := opr_o op_mul (opr_o op_mulW (opr_o op_repT (opr_o op_repT1 (opr_o op_repT0 op_rep))))

/-! ### comparisons -/
abbrev rLtI : R2 := rI0 fun i j => .bl (decide (i < j))
abbrev rLeI : R2 := rI0 fun i j => .bl (decide (i ≤ j))
abbrev rGtI : R2 := rI0 fun i j => .bl (decide (j < i))
abbrev rGeI : R2 := rI0 fun i j => .bl (decide (j ≤ i))
def rLtU (K : PySem.W.Frag) : R2 := rO rLtI (rLtT K)
theorem op_ltU {X : Cx} (hu : X.A.units < cLine) : OpR X (compareOp .Lt) (rLtU X.K) := opr_o op_lt (op_ltT hu)
/-- in a tuple, items of any depth -/
def rInTD (K : PySem.W.Frag) : R2 := fun x y H Q => ∃ d ds, Dp K H x d ∧ Dp K H y (.tuple ds) ∧ SeqAt.shaped d = true ∧ SeqAt.shaped (.tuple ds) = true ∧ Q (.bl (ds.any fun z => PyData.eqv z d)) H
def rNotInTD (K : PySem.W.Frag) : R2 := fun x y H Q => ∃ d ds, Dp K H x d ∧ Dp K H y (.tuple ds) ∧ SeqAt.shaped d = true ∧ SeqAt.shaped (.tuple ds) = true ∧ Q (.bl (!ds.any fun z => PyData.eqv z d)) H
theorem op_inTD {X : Cx} (hu : X.A.units + 65 < cLine) : OpR X (compareOp .In) (rInTD X.K) := by
  intro pins s σ H x y v u Q I rx ry h
  obtain ⟨d, ds, hd, he, sd, se, q⟩ := h
  obtain ⟨as, r1⟩ := Dp.reads I d x v hd rx
  obtain ⟨bs, r2⟩ := Dp.reads I (.tuple ds) y u he ry
  exact SeqAt.in_tuple_reads r2 r1 (SeqAt.canLay_of_shaped se) (SeqAt.canLay_of_shaped sd) (room_in_shaped sd hu) ⟨.bl _, H, I, rfl, q⟩
theorem op_notInTD {X : Cx} (hu : X.A.units + 65 < cLine) : OpR X (compareOp .NotIn) (rNotInTD X.K) := by
  intro pins s σ H x y v u Q I rx ry h
  obtain ⟨d, ds, hd, he, sd, se, q⟩ := h
  obtain ⟨as, r1⟩ := Dp.reads I d x v hd rx
  obtain ⟨bs, r2⟩ := Dp.reads I (.tuple ds) y u he ry
  exact SeqAt.notIn_tuple_reads r2 r1 (SeqAt.canLay_of_shaped se) (SeqAt.canLay_of_shaped sd) (room_in_shaped sd hu) ⟨.bl _, H, I, rfl, q⟩
def rInSign : R2 := fun x y H Q => ∃ (c : Nat) (z : Str), x = .str ⟨#[c]⟩ ∧ y = .str z ∧ Q (.bl (decide (c ∈ z.cps.toList))) H
def rNotInSign : R2 := fun x y H Q => ∃ (c : Nat) (z : Str), x = .str ⟨#[c]⟩ ∧ y = .str z ∧ Q (.bl (!decide (c ∈ z.cps.toList))) H
def rInU (K : PySem.W.Frag) : R2 := rO (rInTD K) (rO (rInD K) rInSign)
def rNotInU (K : PySem.W.Frag) : R2 := rO (rNotInTD K) (rO (rNotInD K) rNotInSign)
theorem op_inU {X : Cx} (hu : X.A.units + 65 < cLine) : OpR X (compareOp .In) (rInU X.K) := opr_o (op_inTD hu) (opr_o (op_inD hu) op_in_sign)
theorem op_notInU {X : Cx} (hu : X.A.units + 65 < cLine) : OpR X (compareOp .NotIn) (rNotInU X.K) := opr_o (op_notInTD hu) (opr_o (op_notInD hu) op_notIn_sign)
def rIsNone : R2 := fun x y H Q => y = .non ∧ Q (.bl (decide (x = .non))) H
def rNotNone : R2 := fun x y H Q => y = .non ∧ Q (.bl (!decide (x = .non))) H
def rIsBl : R2 := fun x y H Q => ∃ a b, x = .bl a ∧ y = .bl b ∧ Q (.bl (decide (a = b))) H
def rNotBl : R2 := fun x y H Q => ∃ a b, x = .bl a ∧ y = .bl b ∧ Q (.bl (!decide (a = b))) H
def rIsU : R2 := rO rIsNone rIsBl
def rNotU : R2 := rO rNotNone rNotBl
theorem op_isU {X : Cx} : OpR X (compareOp .Is) rIsU := opr_o op_isN L2.op_isBl
theorem op_notU {X : Cx} : OpR X (compareOp .IsNot) rNotU := opr_o op_notN L2.op_notBl

/-! ### built-ins -/
def rLenSeq (K : PySem.W.Frag) : List V → Hp → VK → Prop := fun xs H Q => ∃ p ys, xs = [.ref p] ∧ (SqL K H p ys ∨ SqT K H p ys) ∧ Q (.int ys.length) H
def rLenStr : List V → Hp → VK → Prop := fun xs H Q => ∃ z, xs = [.str z] ∧ z.length ≤ sizeLine ∧ Q (.int z.length) H
def rLenU (K : PySem.W.Frag) : List V → Hp → VK → Prop := cO (rLenSeq K) rLenStr
theorem cr_lenU {X : Cx} : CallR X (.builtin "len") (rLenU X.K) := cr_o call_len_seq call_len_str
def rAbsI : List V → Hp → VK → Prop := fun xs H Q => ∃ i, xs = [.int i] ∧ Q (.int (if i < 0 then -i else i)) H
theorem cr_absI {X : Cx} : CallR X (.builtin "abs") rAbsI := call_abs
def rMin2 : List V → Hp → VK → Prop := fun xs H Q => ∃ i j, xs = [.int i, .int j] ∧ Q (.int (if j < i then j else i)) H
def rMax2 : List V → Hp → VK → Prop := fun xs H Q => ∃ i j, xs = [.int i, .int j] ∧ Q (.int (if j > i then j else i)) H
def rMinU (K : PySem.W.Frag) : List V → Hp → VK → Prop := cO (rMin K) rMin2
def rMaxU (K : PySem.W.Frag) : List V → Hp → VK → Prop := cO (rMax K) rMax2
theorem cr_minU {X : Cx} (hc : X.calm = true) : CallR X (.builtin "min") (rMinU X.K) := cr_o (cr_min hc) (call_min2 hc)
theorem cr_maxU {X : Cx} (hc : X.calm = true) : CallR X (.builtin "max") (rMaxU X.K) := cr_o (cr_max hc) (call_max2 hc)
def rTupleOf (K : PySem.W.Frag) : List V → Hp → VK → Prop := fun xs H Q => ∃ p ys, xs = [.ref p] ∧ ((SqL K H p ys ∧ ∀ l, H l = none → Q (.ref l) (upd H l (.tup ys))) ∨ (SqT K H p ys ∧ Q (.ref p) H))
theorem cr_tupleOf {X : Cx} : CallR X (.type "tuple") (rTupleOf X.K) := call_tuple_of
def rListOf (K : PySem.W.Frag) : List V → Hp → VK → Prop := fun xs H Q => ∃ p ys, xs = [.ref p] ∧ (SqL K H p ys ∨ SqT K H p ys) ∧ ∀ l, H l = none → Q (.ref l) (upd H l (.lst ys))
theorem cr_listOf {X : Cx} : CallR X (.type "list") (rListOf X.K) := call_list_of
def rInt1 : List V → Hp → VK → Prop := fun xs H Q => (∃ i, xs = [.int i] ∧ Q (.int i) H) ∨ ∃ k, xs = [.bl k] ∧ Q (.int (if k then 1 else 0)) H
theorem cr_int1 {X : Cx} : CallR X (.type "int") rInt1 := call_int1

/-! ### what they are worth on data -/
section
variable {K : PySem.W.Frag} {r r' : R2} {d e f : PyData} {ρ : Rho} {ta tb te : TE}
theorem od_I0 {g : Int → Int → V} {h : Int → Int → PyData} (hg : ∀ i j F, Dq K F (g i j) (h i j)) {i j : Int} : OpD K (rI0 g) (.int i) (.int j) (h i j) := fun A x y H l hx hy Q q => by
  cases hx; cases hy; exact ⟨i, j, rfl, rfl, q _ H (Same.refl H) (hg i j _)⟩
theorem od_I {C : Int → Int → Prop} {g : Int → Int → V} {h : Int → Int → PyData} (hg : ∀ i j F, Dq K F (g i j) (h i j)) {i j : Int} (hc : C i j) : OpD K (rI C g) (.int i) (.int j) (h i j) := fun A x y H l hx hy Q q => by
  cases hx; cases hy; exact ⟨i, j, rfl, rfl, hc, q _ H (Same.refl H) (hg i j _)⟩
theorem od_add {i j : Int} : OpD K (rAddU K) (.int i) (.int j) (.int (i + j)) := OpD.inl (od_I0 (h := fun i j => .int (i + j)) fun _ _ _ => .int _)
theorem od_sub {i j : Int} : OpD K rSubU (.int i) (.int j) (.int (i - j)) := od_I0 (h := fun i j => .int (i - j)) fun _ _ _ => .int _
theorem od_mod {i j : Int} (h : 0 < j) : OpD K rModU (.int i) (.int j) (.int (i % j)) := od_I (C := fun _ j => 0 < j) (h := fun i j => .int (i % j)) (fun _ _ _ => .int _) h
theorem od_div {i j : Int} (h : 0 < j) (h2 : j < 1073741824) : OpD K rDivU (.int i) (.int j) (.int (i / j)) := OpD.inl (od_I (C := CDiv) (h := fun i j => .int (i / j)) (fun _ _ _ => .int _) ⟨h, h2⟩)
theorem od_divW {i j : Int} (h : 0 < j) (h2 : j.natAbs.log2 < 9000) : OpD K rDivU (.int i) (.int j) (.int (i / j)) := OpD.inr (od_I (C := CDivW) (h := fun i j => .int (i / j)) (fun _ _ _ => .int _) ⟨h, h2⟩)
theorem od_pow {i j : Int} (h : CPow i j) : OpD K rPowU (.int i) (.int j) (.int (i ^ j.toNat)) := od_I (C := CPow) (h := fun i j => .int (i ^ j.toNat)) (fun _ _ _ => .int _) h
theorem od_mul {i j : Int} (h : CMul i j) : OpD K (rMulU K) (.int i) (.int j) (.int (i * j)) := OpD.inl (od_I (C := CMul) (h := fun i j => .int (i * j)) (fun _ _ _ => .int _) h)
theorem od_mulW {i j : Int} (h : CMulW i j) : OpD K (rMulU K) (.int i) (.int j) (.int (i * j)) := OpD.inr (OpD.inl (od_I (C := CMulW) (h := fun i j => .int (i * j)) (fun _ _ _ => .int _) h))
theorem od_lt {i j : Int} : OpD K (rLtU K) (.int i) (.int j) (.bool (decide (i < j))) := OpD.inl (od_I0 (h := fun i j => .bool (decide (i < j))) fun _ _ _ => .bl _)
theorem od_le {i j : Int} : OpD K rLeI (.int i) (.int j) (.bool (decide (i ≤ j))) := od_I0 (h := fun i j => .bool (decide (i ≤ j))) fun _ _ _ => .bl _
theorem od_gt {i j : Int} : OpD K rGtI (.int i) (.int j) (.bool (decide (j < i))) := od_I0 (h := fun i j => .bool (decide (j < i))) fun _ _ _ => .bl _
theorem od_ge {i j : Int} : OpD K rGeI (.int i) (.int j) (.bool (decide (j ≤ i))) := od_I0 (h := fun i j => .bool (decide (j ≤ i))) fun _ _ _ => .bl _
theorem od_ltT {ns ms : List Int} : OpD K (rLtU K) (.tuple (ns.map .int)) (.tuple (ms.map .int)) (.bool (HT.lexLt ns ms)) := OpD.inr fun A x y H l hx hy Q q => by
  cases hx with
  | tup h1 h2 =>
    cases hy with
    | tup h3 h4 =>
      have e1 := h2.ints; have e2 := h4.ints; subst e1 e2
      exact ⟨_, _, ns, ms, rfl, rfl, SqT.of (same_cut _ _ h1), SqT.of (same_cut _ _ h3), q _ H (Same.refl H) (.bl _)⟩
theorem od_addT {ds es : List PyData} (hz : ds.length + es.length ≤ 100000) : OpD K (rAddU K) (.tuple ds) (.tuple es) (.tuple (ds ++ es)) := OpD.inr (OpD.inl fun A x y H l hx hy Q q => by
  cases hx with
  | tup h1 h2 =>
    cases hy with
    | tup h3 h4 =>
      refine ⟨_, _, _, _, rfl, rfl, SqT.of (same_cut _ _ h1), SqT.of (same_cut _ _ h3), Nat.le_trans (by rw [h2.length, h4.length]; exact hz) (by decide), fun e => ?_, fun _ e => ?_, fun _ _ p hp => ?_⟩
      · subst e; cases h2; exact q _ H (Same.refl H) (.tup h3 h4)
      · subst e; cases h4; exact q _ H (Same.refl H) (by rw [List.append_nil]; exact .tup h1 h2)
      · exact q _ _ (same_new hp) (.tup (cut_new l hp) (dpall_same (cut_same (same_new hp)) (h2.append h4))))
theorem od_addL {ds es : List PyData} (hz : ds.length + es.length ≤ 100000) : OpD K (rAddU K) (.list ds) (.list es) (.list (ds ++ es)) := OpD.inr (OpD.inr (OpD.inl fun A x y H l hx hy Q q => by
  cases hx with
  | lst h1 h2 =>
    cases hy with
    | lst h3 h4 =>
      refine ⟨_, _, _, _, rfl, rfl, same_cut _ _ h1, same_cut _ _ h3, Nat.le_trans (by rw [h2.length, h4.length]; exact hz) (by decide), fun p hp => ?_⟩
      exact q _ _ (same_new hp) (.lst (cut_new l hp) (dpall_same (cut_same (same_new hp)) (h2.append h4)))))
theorem od_addS {x y : Str} (hz : x.length + y.length ≤ 100000) : OpD K (rAddU K) (.str x) (.str y) (.str (x ++ y)) := OpD.inr (OpD.inr (OpD.inr fun A v w H l hx hy Q q => by
  cases hx; cases hy
  exact ⟨x, y, rfl, rfl, Nat.le_trans hz (by decide), q _ H (Same.refl H) (.str _)⟩))
theorem dqall_rep {F : Hp} {vs : List V} {ds : List PyData} (h : DqAll K F vs ds) : ∀ n, DqAll K F (List.replicate n vs).flatten (List.replicate n ds).flatten
  | 0 => .nil
  | n + 1 => by
    rw [List.replicate_succ, List.replicate_succ, List.flatten_cons, List.flatten_cons]
    exact h.append (dqall_rep h n)
theorem od_repT {ds : List PyData} {k : Int} (hd : ds ≠ []) (h0 : 0 ≤ k) (h1 : k ≤ 1000) (hz : ds.length ≤ 1000) : OpD K (rMulU K) (.tuple ds) (.int k) (.tuple (List.replicate k.toNat ds).flatten) := OpD.inr (OpD.inr fun A x y H l hx hy Q q => by
  cases hy
  cases hx with
  | tup h3 h4 =>
    rename_i a xs
    have hne : xs ≠ [] := fun e => hd (by subst e; cases h4; rfl)
    by_cases k0 : k = 0
    · subst k0
      exact .inr (.inr (.inl ⟨_, _, rfl, rfl, SqT.of (same_cut _ _ h3), hne, fun p hp => q _ _ (same_new hp) (by simpa using Dq.tup (cut_new l hp) .nil)⟩))
    · by_cases k1 : k = 1
      · subst k1
        exact .inr (.inl ⟨_, _, rfl, rfl, SqT.of (same_cut _ _ h3), q _ H (Same.refl H) (by simpa using Dq.tup h3 h4)⟩)
      · exact .inl ⟨_, k, _, rfl, rfl, SqT.of (same_cut _ _ h3), hne, by omega, h1, by rw [h4.length]; exact hz, fun p hp => q _ _ (same_new hp) (.tup (cut_new l hp) (dpall_same (cut_same (same_new hp)) (dqall_rep h4 _)))⟩)
theorem od_repL {ds : List PyData} {k : Int} (h0 : -1000 ≤ k) (h1 : k ≤ 1000) (hz : ds.length ≤ 1000) : OpD K (rMulU K) (.list ds) (.int k) (.list (List.replicate k.toNat ds).flatten) := OpD.inr (OpD.inr (OpD.inr (OpD.inr (OpD.inr fun A x y H l hx hy Q q => by
  cases hy
  cases hx with
  | lst h3 h4 =>
    refine ⟨_, k, _, rfl, rfl, same_cut _ _ h3, by omega, by omega, ?_, fun p hp => q _ _ (same_new hp) (.lst (cut_new l hp) (dpall_same (cut_same (same_new hp)) (dqall_rep h4 _)))⟩
    rw [h4.length]
    exact Nat.le_trans (Nat.mul_le_mul hz (show k.toNat ≤ 1000 by omega)) (by decide)))))
theorem od_eq {n m : Nat} (h1 : Sh n d) (h2 : Sh m e) (hn : n ≤ 64 := by decide) (hm : m ≤ 64 := by decide) : OpD K (rEqD K) d e (.bool (PyData.eqv d e)) := fun A x y H l hx hy Q q =>
  ⟨d, e, dq_dp d h1.1 (dq_out hx), dq_dp e h2.1 (dq_out hy), h1.shaped hn, h2.shaped hm, q _ H (Same.refl H) (.bl _)⟩
theorem od_ne {n m : Nat} (h1 : Sh n d) (h2 : Sh m e) (hn : n ≤ 64 := by decide) (hm : m ≤ 64 := by decide) : OpD K (rNeD K) d e (.bool (!PyData.eqv d e)) := fun A x y H l hx hy Q q =>
  ⟨d, e, dq_dp d h1.1 (dq_out hx), dq_dp e h2.1 (dq_out hy), h1.shaped hn, h2.shaped hm, q _ H (Same.refl H) (.bl _)⟩
theorem od_inT {ds : List PyData} {n m : Nat} (h1 : Sh n d) (h2 : Sh m (.tuple ds)) (hn : n ≤ 64 := by decide) (hm : m ≤ 64 := by decide) : OpD K (rInU K) d (.tuple ds) (.bool (ds.any fun z => PyData.eqv z d)) := OpD.inl fun A x y H l hx hy Q q =>
  ⟨d, ds, dq_dp d h1.1 (dq_out hx), dq_dp _ h2.1 (dq_out hy), h1.shaped hn, h2.shaped hm, q _ H (Same.refl H) (.bl _)⟩
theorem od_inL {ds : List PyData} {n m : Nat} (h1 : Sh n d) (h2 : Sh m (.list ds)) (hn : n ≤ 64 := by decide) (hm : m ≤ 64 := by decide) : OpD K (rInU K) d (.list ds) (.bool (ds.any fun z => PyData.eqv z d)) := OpD.inr (OpD.inl fun A x y H l hx hy Q q =>
  ⟨d, ds, dq_dp d h1.1 (dq_out hx), dq_dp _ h2.1 (dq_out hy), h1.shaped hn, h2.shaped hm, q _ H (Same.refl H) (.bl _)⟩)
theorem od_niT {ds : List PyData} {n m : Nat} (h1 : Sh n d) (h2 : Sh m (.tuple ds)) (hn : n ≤ 64 := by decide) (hm : m ≤ 64 := by decide) : OpD K (rNotInU K) d (.tuple ds) (.bool (!ds.any fun z => PyData.eqv z d)) := OpD.inl fun A x y H l hx hy Q q =>
  ⟨d, ds, dq_dp d h1.1 (dq_out hx), dq_dp _ h2.1 (dq_out hy), h1.shaped hn, h2.shaped hm, q _ H (Same.refl H) (.bl _)⟩
theorem od_niL {ds : List PyData} {n m : Nat} (h1 : Sh n d) (h2 : Sh m (.list ds)) (hn : n ≤ 64 := by decide) (hm : m ≤ 64 := by decide) : OpD K (rNotInU K) d (.list ds) (.bool (!ds.any fun z => PyData.eqv z d)) := OpD.inr (OpD.inl fun A x y H l hx hy Q q =>
  ⟨d, ds, dq_dp d h1.1 (dq_out hx), dq_dp _ h2.1 (dq_out hy), h1.shaped hn, h2.shaped hm, q _ H (Same.refl H) (.bl _)⟩)
def isNone : PyData → Bool
  | .none => true
  | _ => false
theorem dq_non {F : Hp} {v : V} (h : Dq K F v d) : decide (v = .non) = isNone d := by
  cases h <;> simp [isNone, scrD, adrD, tyD, excD, dctD]
theorem od_isN : OpD K rIsU d .none (.bool (isNone d)) := OpD.inl fun A x y H l hx hy Q q => by
  cases hy; exact ⟨rfl, by rw [dq_non hx]; exact q _ H (Same.refl H) (.bl _)⟩
theorem od_notN : OpD K rNotU d .none (.bool (!isNone d)) := OpD.inl fun A x y H l hx hy Q q => by
  cases hy; exact ⟨rfl, by rw [dq_non hx]; exact q _ H (Same.refl H) (.bl _)⟩
theorem od_isB {a b : Bool} : OpD K rIsU (.bool a) (.bool b) (.bool (decide (a = b))) := OpD.inr fun A x y H l hx hy Q q => by
  cases hx; cases hy; exact ⟨a, b, rfl, rfl, q _ H (Same.refl H) (.bl _)⟩
theorem od_notB {a b : Bool} : OpD K rNotU (.bool a) (.bool b) (.bool (!decide (a = b))) := OpD.inr fun A x y H l hx hy Q q => by
  cases hx; cases hy; exact ⟨a, b, rfl, rfl, q _ H (Same.refl H) (.bl _)⟩
theorem atI_dq {F : Hp} {vs : List V} {ds : List PyData} {i : Int} (h : DqAll K F vs ds) (hi : atI ds i = some d) : ∃ v, atI vs i = some v ∧ Dq K F v d := by
  unfold atI at hi ⊢
  rw [h.length]
  cases e : ixN ds.length i with
  | none => rw [e] at hi; cases hi
  | some j =>
    rw [e] at hi
    obtain ⟨v, h1, h2⟩ := h.get (i := j) (d := d) hi
    exact ⟨v, h1, h2⟩
theorem od_ixT {ds : List PyData} {i : Int} (h : atI ds i = some d) : OpD K (rIx K) (.tuple ds) (.int i) d := fun A x y H l hx hy Q q => by
  cases hy
  cases hx with
  | tup h1 h2 =>
    obtain ⟨v, k1, k2⟩ := atI_dq h2 h
    exact .inr (.inl ⟨_, _, i, v, rfl, rfl, SqT.of (same_cut _ _ h1), k1, q _ H (Same.refl H) k2⟩)
theorem od_ixL {ds : List PyData} {i : Int} (h : atI ds i = some d) : OpD K (rIx K) (.list ds) (.int i) d := fun A x y H l hx hy Q q => by
  cases hy
  cases hx with
  | lst h1 h2 =>
    obtain ⟨v, k1, k2⟩ := atI_dq h2 h
    exact .inl ⟨_, _, i, v, rfl, rfl, SqL.of (same_cut _ _ h1), k1, q _ H (Same.refl H) k2⟩
theorem od_ixS {z : Str} {i : Int} {c : Nat} (hz : z.length ≤ 100000) (h : atI z.cps.toList i = some c) : OpD K (rIx K) (.str z) (.int i) (.str ⟨#[c]⟩) := fun A x y H l hx hy Q q => by
  cases hy
  cases hx
  exact .inr (.inr ⟨z, i, c, rfl, rfl, Nat.le_trans hz (by decide), h, q _ H (Same.refl H) (.str _)⟩)
theorem atI_nat {α : Type} {ds : List α} {d : α} {i : Nat} (h : ds[i]? = some d) : atI ds (i : Int) = some d := L2.atI_nat h
theorem atI_of {α : Type} {ds : List α} {d : α} {i : Int} (h0 : 0 ≤ i) (h : ds[i.toNat]? = some d) : atI ds i = some d := by
  have e : i = (i.toNat : Int) := by omega
  rw [e]; exact L2.atI_nat h
theorem ud_neg {i : Int} : UnD K (rU fun i => .int (-i)) (.int i) (.int (-i)) := fun A x H l hx Q q => by
  cases hx; exact ⟨i, rfl, q _ H (Same.refl H) (.int _)⟩
/-! calls -/
theorem ca_lenT {ds : List PyData} : CaD K (rLenU K) [.tuple ds] (.int ds.length) := CaD.inl fun A xs H l hx Q q => by
  cases hx with
  | cons h1 h2 =>
    cases h2
    cases h1 with
    | tup k1 k2 => exact ⟨_, _, rfl, .inr (SqT.of (same_cut _ _ k1)), q _ H (Same.refl H) (by rw [k2.length]; exact .int _)⟩
theorem ca_lenL {ds : List PyData} : CaD K (rLenU K) [.list ds] (.int ds.length) := CaD.inl fun A xs H l hx Q q => by
  cases hx with
  | cons h1 h2 =>
    cases h2
    cases h1 with
    | lst k1 k2 => exact ⟨_, _, rfl, .inl (SqL.of (same_cut _ _ k1)), q _ H (Same.refl H) (by rw [k2.length]; exact .int _)⟩
theorem ca_lenS {z : Str} (hz : z.length ≤ 100000) : CaD K (rLenU K) [.str z] (.int z.length) := CaD.inr fun A xs H l hx Q q => by
  cases hx with
  | cons h1 h2 =>
    cases h2
    cases h1
    exact ⟨z, rfl, Nat.le_trans hz (by decide), q _ H (Same.refl H) (.int _)⟩
theorem ca_abs {i : Int} : CaD K rAbsI [.int i] (.int (i.natAbs : Int)) := fun A xs H l hx Q q => by
  cases hx with
  | cons h1 h2 =>
    cases h2; cases h1
    refine ⟨i, rfl, q _ H (Same.refl H) ?_⟩
    have e : (if i < 0 then -i else i) = (i.natAbs : Int) := by split <;> omega
    rw [e]; exact .int _
theorem ca_sum {ns : List Int} : CaD K (rSum K) [.list (ns.map .int)] (.int ns.sum) := fun A xs H l hx Q q => by
  cases hx with
  | cons h1 h2 =>
    cases h2
    cases h1 with
    | lst k1 k2 =>
      have e := k2.ints; subst e
      exact ⟨_, ns, rfl, SqL.of (same_cut _ _ k1), q _ H (Same.refl H) (.int _)⟩
theorem ca_all {bs : List Bool} : CaD K (rAll K) [.list (bs.map .bool)] (.bool (bs.all id)) := fun A xs H l hx Q q => by
  cases hx with
  | cons h1 h2 =>
    cases h2
    cases h1 with
    | lst k1 k2 =>
      have e := k2.bools; subst e
      exact ⟨_, bs, rfl, SqL.of (same_cut _ _ k1), q _ H (Same.refl H) (.bl _)⟩
theorem ca_max {ns : List Int} {m : Int} (h0 : m ∈ ns) (hm : ∀ x ∈ ns, x ≤ m) : CaD K (rMaxU K) [.list (ns.map .int)] (.int m) := CaD.inl fun A xs H l hx Q q => by
  cases hx with
  | cons h1 h2 =>
    cases h2
    cases h1 with
    | lst k1 k2 =>
      have e := k2.ints; subst e
      refine ⟨_, ns, rfl, SqL.of (same_cut _ _ k1), List.length_pos_of_mem h0, fun m' h' hm' => ?_⟩
      have : m' = m := Int.le_antisymm (hm m' h') (hm' m h0)
      rw [this]
      exact q _ H (Same.refl H) (.int _)
theorem ca_min {ns : List Int} {m : Int} (h0 : m ∈ ns) (hm : ∀ x ∈ ns, m ≤ x) : CaD K (rMinU K) [.list (ns.map .int)] (.int m) := CaD.inl fun A xs H l hx Q q => by
  cases hx with
  | cons h1 h2 =>
    cases h2
    cases h1 with
    | lst k1 k2 =>
      have e := k2.ints; subst e
      refine ⟨_, ns, rfl, SqL.of (same_cut _ _ k1), List.length_pos_of_mem h0, fun m' h' hm' => ?_⟩
      have : m' = m := Int.le_antisymm (hm' m h0) (hm m' h')
      rw [this]
      exact q _ H (Same.refl H) (.int _)
theorem ca_min2 {i j : Int} : CaD K (rMinU K) [.int i, .int j] (.int (min i j)) := CaD.inr fun A xs H l hx Q q => by
  cases hx with
  | cons h1 h2 =>
    cases h2 with
    | cons h3 h4 =>
      cases h4; cases h1; cases h3
      refine ⟨i, j, rfl, q _ H (Same.refl H) ?_⟩
      have e : (if j < i then j else i) = min i j := by rw [Int.min_def]; split <;> split <;> omega
      rw [e]; exact .int _
theorem ca_tupleL {ds : List PyData} : CaD K (rTupleOf K) [.list ds] (.tuple ds) := fun A xs H l hx Q q => by
  cases hx with
  | cons h1 h2 =>
    cases h2
    cases h1 with
    | lst k1 k2 => exact ⟨_, _, rfl, .inl ⟨SqL.of (same_cut _ _ k1), fun p hp => q _ _ (same_new hp) (.tup (cut_new l hp) (dpall_same (cut_same (same_new hp)) k2))⟩⟩
theorem ca_listL {ds : List PyData} : CaD K (rListOf K) [.list ds] (.list ds) := fun A xs H l hx Q q => by
  cases hx with
  | cons h1 h2 =>
    cases h2
    cases h1 with
    | lst k1 k2 => exact ⟨_, _, rfl, .inl (SqL.of (same_cut _ _ k1)), fun p hp => q _ _ (same_new hp) (.lst (cut_new l hp) (dpall_same (cut_same (same_new hp)) k2))⟩
theorem ca_listT {ds : List PyData} : CaD K (rListOf K) [.tuple ds] (.list ds) := fun A xs H l hx Q q => by
  cases hx with
  | cons h1 h2 =>
    cases h2
    cases h1 with
    | tup k1 k2 => exact ⟨_, _, rfl, .inr (SqT.of (same_cut _ _ k1)), fun p hp => q _ _ (same_new hp) (.lst (cut_new l hp) (dpall_same (cut_same (same_new hp)) k2))⟩
theorem ca_listScr {ns : List Int} : CaD K (rListOf K) [scrD ns] (.list (ns.map .int)) := fun A xs H l hx Q q => by
  cases hx with
  | cons h1 h2 =>
    cases h2
    obtain ⟨a, rfl, k⟩ := h1.scrI
    exact ⟨_, _, rfl, .inl (sql_same same_cut k), fun p hp => q _ _ (same_new hp) (.lst (cut_new l hp) (DqAll.ofInts ns))⟩
theorem ca_intB {b : Bool} : CaD K rInt1 [.bool b] (.int (if b then 1 else 0)) := fun A xs H l hx Q q => by
  cases hx with
  | cons h1 h2 => cases h2; cases h1; exact .inr ⟨b, rfl, q _ H (Same.refl H) (.int _)⟩
end

/-! ### promises -/
def ResC (K : PySem.W.Frag) (A : List Addr) (E : XK) (Q : VK) (H : Hp) : Out → Prop
  | .nx _ => False
  | .rt d => ∀ v H', Same H H' → Dq K (cut A H') v d → Q v H'
  | .ex C => ∀ H', Same H H' → E (.ref C) none H'
/-- a def on data: R tells what comes of arguments -/
def spD (K : PySem.W.Frag) (R : List PyData → Out → Prop) : Sp := fun vs H Q E => ∃ A ds o, Live A H ∧ DqAll K (cut A H) vs ds ∧ R ds o ∧ ResC K A E Q H o
def startD (n : Nat) (ds : List PyData) : Rho := ds.map some ++ List.replicate (n - ds.length) none
theorem env_start {K : PySem.W.Frag} {F : Hp} : ∀ {vs : List V} {ds : List PyData} {m : Nat}, DqAll K F vs ds → EnvD K F (vs.map some ++ List.replicate m none) (ds.map some ++ List.replicate m none)
  | _, _, 0, .nil => .nil
  | _, _, m + 1, .nil => .cons trivial (env_start (m := m) .nil)
  | _, _, m, .cons h t => .cons h (env_start t)
theorem env_of {K : PySem.W.Frag} {F : Hp} {N : List Str} {vs : List V} {ds : List PyData} (h : DqAll K F vs ds) : EnvD K F (L2.start N vs) (startD N.length ds) := by
  unfold L2.start startD
  rw [h.length]
  exact env_start h
section
variable {K : PySem.W.Frag} {ρ : Rho} {ta tb te : TE} {E : XK} {d : PyData} {ts : TS}
/-- the body keeps the promise -/
theorem sp_body {R : List PyData → Out → Prop} {N : List Str} {t : TS} {vs : List V} {H : Hp} {Q : VK} (h : ∀ ds o, R ds o → ExS K E t (startD N.length ds) o ∨ (o = .rt .none ∧ ∃ ρ', ExS K E t (startD N.length ds) (.nx ρ')))
    (hs : spD K R vs H Q E) : t { nx := fun _ H' => Q .non H', rt := Q } (L2.start N vs) H := by
  obtain ⟨A, ds, o, l, hv, hR, c⟩ := hs
  rcases h ds o hR with h1 | ⟨rfl, ρ', h1⟩
  · refine h1 A _ H _ l (env_of hv) ?_
    cases o with
    | nx ρ => exact c.elim
    | rt d => exact c
    | ex C => exact c
  · exact h1 A _ H _ l (env_of hv) fun σ' H' s hE => c .non H' s .non
theorem ev_call {R : List PyData → Out → Prop} {t : TA} {ds : List PyData} (ha : EvA K t ρ ds) (hR : R ds (.rt d)) : EvD K (tCall (spD K R) [] E t) ρ d := fun A σ H l hE Q q =>
  ha A σ H l hE _ fun vs H1 s1 hv => by
    rw [List.append_nil]
    exact ⟨A, ds, .rt d, l.same s1, hv, hR, fun v H2 s2 h2 => q v H2 (s1.trans s2) h2⟩
/-- it raises -/
def EvX (K : PySem.W.Frag) (E : XK) (te : TE) (ρ : Rho) (C : Addr) : Prop :=
  ∀ A σ H, Live A H → EnvD K (cut A H) σ ρ → ∀ Q : VK, (∀ H', Same H H' → E (.ref C) none H') → te σ H Q
theorem ex_call {R : List PyData → Out → Prop} {t : TA} {ds : List PyData} {C : Addr} (ha : EvA K t ρ ds) (hR : R ds (.ex C)) : EvX K E (tCall (spD K R) [] E t) ρ C := fun A σ H l hE Q q =>
  ha A σ H l hE _ fun vs H1 s1 hv => by
    rw [List.append_nil]
    exact ⟨A, ds, .ex C, l.same s1, hv, hR, fun H2 s2 => q H2 (s1.trans s2)⟩
theorem xs_dropX {C : Addr} (h : EvX K E te ρ C) : ExS K E (tDrop te) ρ (.ex C) := fun A σ H D l hE c => h A σ H l hE _ c
theorem xs_asgX {C : Addr} {g : TG} (h : EvX K E te ρ C) : ExS K E (tAsg te g) ρ (.ex C) := fun A σ H D l hE c => h A σ H l hE _ c
theorem xs_retX {C : Addr} (h : EvX K E te ρ C) : ExS K E (tRet te) ρ (.ex C) := fun A σ H D l hE c => h A σ H l hE _ c
end
end Lc

set_option Elab.async false
set_option linter.all false
set_option maxRecDepth 100000
set_option maxHeartbeats 4000000
namespace Lc
open PySem L2 PySem.Spec PyProof.Rows

/-! ### the order of data: ints, and tuples of such -/
mutual
def ltD : PyData → PyData → Bool
  | .int i, .int j => decide (i < j)
  | .tuple xs, .tuple ys => ltAll xs ys
  | _, _ => false
def ltAll : List PyData → List PyData → Bool
  | [], [] => false
  | [], _ :: _ => true
  | _ :: _, [] => false
  | x :: xs, y :: ys => if PyData.eqv x y then ltAll xs ys else ltD x y
end
mutual
def cmb : PyData → PyData → Bool
  | .int _, .int _ => true
  | .tuple xs, .tuple ys => cmbAll xs ys
  | _, _ => false
def cmbAll : List PyData → List PyData → Bool
  | x :: xs, y :: ys => cmb x y && cmbAll xs ys
  | [], _ => true
  | _ :: _, [] => true
end
section
variable {s : Shared} {A : Around}
/-- place by place -/
theorem readsAll_get {h : Heap} : ∀ {vs : List Value} {ds : List PyData} {as : List Addr}, ReadsAll h vs ds as → ∀ (j : Nat) (h1 : j < vs.length), ∃ d bs, ds[j]? = some d ∧ Reads h vs[j] d bs
  | _, _, _, .nil, j, h1 => by simp at h1
  | _, _, _, .cons r t, 0, _ => ⟨_, _, rfl, r⟩
  | _, _, _, .cons r t, j + 1, h1 => by
    obtain ⟨d, bs, e, q⟩ := readsAll_get t j (by simpa using h1)
    exact ⟨d, bs, by simpa using e, by simpa using q⟩
theorem readsAll_len {h : Heap} : ∀ {vs : List Value} {ds : List PyData} {as : List Addr}, ReadsAll h vs ds as → vs.length = ds.length
  | _, _, _, .nil => rfl
  | _, _, _, .cons _ t => by simp [readsAll_len t]
theorem lex_all (xs ys : List PyData) : ∀ (i k : Nat), k = min xs.length ys.length - i → i ≤ min xs.length ys.length →
    Ob.lexAt (fun j => PyData.eqv (xs.getD j .none) (ys.getD j .none)) (fun j => ltD (xs.getD j .none) (ys.getD j .none)) (decide (xs.length < ys.length)) i k = ltAll (xs.drop i) (ys.drop i) := by
  intro i k
  induction k generalizing i with
  | zero =>
    intro hk hi
    rw [Ob.lexAt_zero]
    rcases Nat.lt_or_ge xs.length ys.length with h | h
    · rw [decide_eq_true h]
      have e : i = xs.length := by omega
      rw [e, List.drop_length, List.drop_eq_getElem_cons h] <;> rfl
    · rw [decide_eq_false (by omega)]
      have e : i = ys.length := by omega
      rw [e, List.drop_length]
      rcases Nat.lt_or_ge ys.length xs.length with h2 | h2
      · rw [List.drop_eq_getElem_cons h2] <;> rfl
      · have : xs.drop ys.length = [] := List.drop_eq_nil_of_le h2
        rw [this] <;> rfl
  | succ k ih =>
    intro hk hi
    have h1 : i < xs.length := by omega
    have h2 : i < ys.length := by omega
    rw [Ob.lexAt_succ, List.drop_eq_getElem_cons h1, List.drop_eq_getElem_cons h2]
    have g1 : xs.getD i .none = xs[i] := by simp [h1]
    have g2 : ys.getD i .none = ys[i] := by simp [h2]
    simp only [g1, g2, ltAll]
    rw [ih (i + 1) (by omega) (by omega)]
theorem cmbAll_at : ∀ {xs ys : List PyData}, cmbAll xs ys = true → ∀ (j : Nat) (a b : PyData), xs[j]? = some a → ys[j]? = some b → cmb a b = true
  | [], _, _, j, _, _, h, _ => by simp at h
  | _ :: _, [], _, j, _, _, _, h => by simp at h
  | x :: xs, y :: ys, h, 0, a, b, h1, h2 => by
    simp at h1 h2; subst h1 h2
    exact (Bool.and_eq_true_iff.mp (by simpa [cmbAll] using h)).1
  | x :: xs, y :: ys, h, j + 1, a, b, h1, h2 => by
    have h' : cmb x y = true ∧ cmbAll xs ys = true := by simpa [cmbAll] using h
    exact cmbAll_at h'.2 j a b (by simpa using h1) (by simpa using h2)
theorem canLay_at : ∀ {xs : List PyData}, PyData.canLayAll0 xs = true → ∀ (j : Nat) (a : PyData), xs[j]? = some a → a.canLay0 = true ∧ a.depth ≤ PyData.depthAll xs
  | [], _, j, _, h => by simp at h
  | x :: xs, h, 0, a, h1 => by
    simp at h1; subst h1
    exact ⟨(Bool.and_eq_true_iff.mp (by simpa [PyData.canLayAll0] using h)).1, by simp only [PyData.depthAll]; omega⟩
  | x :: xs, h, j + 1, a, h1 => by
    have h' : x.canLay0 = true ∧ PyData.canLayAll0 xs = true := by simpa [PyData.canLayAll0] using h
    obtain ⟨k1, k2⟩ := canLay_at h'.2 j a (by simpa using h1)
    exact ⟨k1, by simp only [PyData.depthAll]; omega⟩
/-- < of two data -/
theorem lt_data : ∀ (n : Nat) (A : Around) (x y : PyData) (v u : Value) (as bs : List Addr), x.depth ≤ n → cmb x y = true → x.canLay0 = true → y.canLay0 = true → Reads s.heap v x as → Reads s.heap u y bs → A.units + n + 1 < cLine → Ob.RcOp .Lt A s v u (ltD x y) := by
  intro n
  induction n with
  | zero =>
    intro A x y v u as bs hd hc hx hy rv ru hu
    cases x with
    | int i =>
      cases y with
      | int j =>
        cases rv; cases ru
        exact Ob.RcOp.lt_int _ _ _ _
      | _ => simp [cmb] at hc
    | tuple xs => simp [PyData.depth] at hd
    | _ => cases y <;> simp [cmb] at hc
  | succ n ih =>
    intro A x y v u as bs hd hc hx hy rv ru hu
    cases x with
    | int i =>
      cases y with
      | int j =>
        cases rv; cases ru
        exact Ob.RcOp.lt_int _ _ _ _
      | _ => simp [cmb] at hc
    | tuple xs =>
      cases y with
      | tuple ys =>
        have hc' : cmbAll xs ys = true := by simpa [cmb] using hc
        have hx' : PyData.canLayAll0 xs = true := by simpa [PyData.canLay0] using hx
        have hy' : PyData.canLayAll0 ys = true := by simpa [PyData.canLay0] using hy
        have hd' : PyData.depthAll xs ≤ n := by simp only [PyData.depth] at hd; omega
        cases rv with
        | tuple o1 c1 d1 r1 =>
          cases ru with
          | tuple o2 c2 d2 r2 =>
            rename_i a1 ob1 vs1 n1 a2 ob2 vs2 n2
            have l1 := readsAll_len r1
            have l2 := readsAll_len r2
            simp only [Array.length_toList] at l1 l2
            have key := Ob.RcOp.tuples_lt (A := A) (s := s) (l := a1) (b := a2) (items := vs1) (items2 := vs2) (e := fun j => PyData.eqv (xs.getD j .none) (ys.getD j .none)) (r := fun j => ltD (xs.getD j .none) (ys.getD j .none))
              ⟨_, o1, c1, _, d1⟩ ⟨_, o2, c2, _, d2⟩ (by omega) (fun j h1 h2 => ?_) (fun j h1 h2 _ => ?_)
            · have e := lex_all xs ys 0 (min vs1.size vs2.size) (by rw [l1, l2]; rfl) (Nat.zero_le _)
              rw [l1, l2] at key e
              rw [e] at key
              exact key
            · obtain ⟨d, ds, e1, q1⟩ := readsAll_get r1 j (by simpa using h1)
              obtain ⟨e, es, e2, q2⟩ := readsAll_get r2 j (by simpa using h2)
              have g1 : xs.getD j .none = d := by rw [List.getD_eq_getElem?_getD, e1] <;> rfl
              have g2 : ys.getD j .none = e := by rw [List.getD_eq_getElem?_getD, e2] <;> rfl
              obtain ⟨k1, k2⟩ := canLay_at hx' j d e1
              obtain ⟨k3, k4⟩ := canLay_at hy' j e e2
              show SeqAt.EqAt A.in1 s vs1[j] vs2[j] (PyData.eqv (xs.getD j .none) (ys.getD j .none))
              rw [g1, g2]
              refine SeqAt.eqAt_reads d e A.in1 s _ _ _ _ (by simpa using q1) (by simpa using q2) k1 k3 ?_
              show A.units + 1 + min d.depth e.depth < cLine
              have := Nat.min_le_left d.depth e.depth
              omega
            · obtain ⟨d, ds, e1, q1⟩ := readsAll_get r1 j (by simpa using h1)
              obtain ⟨e, es, e2, q2⟩ := readsAll_get r2 j (by simpa using h2)
              have g1 : xs.getD j .none = d := by rw [List.getD_eq_getElem?_getD, e1] <;> rfl
              have g2 : ys.getD j .none = e := by rw [List.getD_eq_getElem?_getD, e2] <;> rfl
              obtain ⟨k1, k2⟩ := canLay_at hx' j d e1
              obtain ⟨k3, k4⟩ := canLay_at hy' j e e2
              show Ob.RcOp .Lt A.in1 s vs1[j] vs2[j] (ltD (xs.getD j .none) (ys.getD j .none))
              rw [g1, g2]
              refine ih A.in1 d e _ _ _ _ (by omega) (cmbAll_at hc' j d e e1 e2) k1 k3 (by simpa using q1) (by simpa using q2) ?_
              show A.units + 1 + n + 1 < cLine
              omega
      | _ => simp [cmb] at hc
    | _ => cases y <;> simp [cmb] at hc
end
/-! ### one order for all: a strict weak one -/
def cmpI (i j : Int) : Ordering := if i < j then .lt else if j < i then .gt else .eq
mutual
def cmpX : PyData → PyData → Ordering
  | .int i, .int j => cmpI i j
  | .int _, _ => .lt
  | .tuple _, .int _ => .gt
  | .tuple xs, .tuple ys => cmpXs xs ys
  | .tuple _, _ => .lt
  | _, .int _ => .gt
  | _, .tuple _ => .gt
  | _, _ => .eq
def cmpXs : List PyData → List PyData → Ordering
  | [], [] => .eq
  | [], _ :: _ => .lt
  | _ :: _, [] => .gt
  | x :: xs, y :: ys => match cmpX x y with
    | .eq => cmpXs xs ys
    | o => o
end
def ltX (x y : PyData) : Bool := cmpX x y == .lt
def ltXs (x y : List PyData) : Bool := cmpXs x y == .lt
theorem cmpI_swap (i j : Int) : cmpI j i = (cmpI i j).swap := by
  unfold cmpI
  by_cases h1 : i < j
  · rw [if_pos h1, if_neg (by omega), if_pos h1]; rfl
  · by_cases h2 : j < i
    · rw [if_pos h2, if_neg h1, if_pos h2]; rfl
    · rw [if_neg h2, if_neg h1, if_neg h1, if_neg h2]; rfl
mutual
theorem cmpX_swap : ∀ x y : PyData, cmpX y x = (cmpX x y).swap
  | .int i, .int j => by simp only [cmpX]; exact cmpI_swap i j
  | .tuple xs, .tuple ys => by simp only [cmpX]; exact cmpXs_swap xs ys
  | .int _, .tuple _ => rfl | .int _, .none => rfl | .int _, .bool _ => rfl | .int _, .str _ => rfl | .int _, .list _ => rfl | .int _, .dict _ => rfl
  | .tuple _, .int _ => rfl | .tuple _, .none => rfl | .tuple _, .bool _ => rfl | .tuple _, .str _ => rfl | .tuple _, .list _ => rfl | .tuple _, .dict _ => rfl
  | .none, .int _ => rfl | .none, .tuple _ => rfl | .none, .none => rfl | .none, .bool _ => rfl | .none, .str _ => rfl | .none, .list _ => rfl | .none, .dict _ => rfl
  | .bool _, .int _ => rfl | .bool _, .tuple _ => rfl | .bool _, .none => rfl | .bool _, .bool _ => rfl | .bool _, .str _ => rfl | .bool _, .list _ => rfl | .bool _, .dict _ => rfl
  | .str _, .int _ => rfl | .str _, .tuple _ => rfl | .str _, .none => rfl | .str _, .bool _ => rfl | .str _, .str _ => rfl | .str _, .list _ => rfl | .str _, .dict _ => rfl
  | .list _, .int _ => rfl | .list _, .tuple _ => rfl | .list _, .none => rfl | .list _, .bool _ => rfl | .list _, .str _ => rfl | .list _, .list _ => rfl | .list _, .dict _ => rfl
  | .dict _, .int _ => rfl | .dict _, .tuple _ => rfl | .dict _, .none => rfl | .dict _, .bool _ => rfl | .dict _, .str _ => rfl | .dict _, .list _ => rfl | .dict _, .dict _ => rfl
theorem cmpXs_swap : ∀ xs ys : List PyData, cmpXs ys xs = (cmpXs xs ys).swap
  | [], [] => rfl
  | [], _ :: _ => rfl
  | _ :: _, [] => rfl
  | x :: xs, y :: ys => by
    simp only [cmpXs]
    rw [cmpX_swap x y, cmpXs_swap xs ys]
    cases cmpX x y <;> rfl
end
/-- x ≤ y ≤ z -/
def Tri (a b c : Ordering) : Prop := a ≠ .gt → b ≠ .gt → c ≠ .gt ∧ (c = .eq → a = .eq ∧ b = .eq)
theorem tri_I (i j k : Int) : Tri (cmpI i j) (cmpI j k) (cmpI i k) := by
  unfold Tri cmpI
  (repeat' split) <;> first | omega | simp
theorem tri_gt {b c : Ordering} : Tri .gt b c := fun h _ => absurd rfl h
theorem tri_gt2 {a c : Ordering} : Tri a .gt c := fun _ h => absurd rfl h
theorem tri_lt {a b : Ordering} : Tri a b .lt := fun _ _ => ⟨by simp, by simp⟩
theorem tri_eq : Tri .eq .eq .eq := fun _ _ => ⟨by simp, by simp⟩
mutual
theorem tri_X : ∀ x y z : PyData, Tri (cmpX x y) (cmpX y z) (cmpX x z)
  | .int i, .int j, .int k => by simp only [cmpX]; exact tri_I i j k
  | .tuple xs, .tuple ys, .tuple zs => by simp only [cmpX]; exact tri_Xs xs ys zs
  | .int _, _, .tuple _ => tri_lt | .int _, _, .none => tri_lt | .int _, _, .bool _ => tri_lt | .int _, _, .str _ => tri_lt | .int _, _, .list _ => tri_lt | .int _, _, .dict _ => tri_lt
  | .tuple _, _, .none => tri_lt | .tuple _, _, .bool _ => tri_lt | .tuple _, _, .str _ => tri_lt | .tuple _, _, .list _ => tri_lt | .tuple _, _, .dict _ => tri_lt
  | .int _, .tuple _, .int _ => tri_gt2 | .int _, .none, .int _ => tri_gt2 | .int _, .bool _, .int _ => tri_gt2 | .int _, .str _, .int _ => tri_gt2 | .int _, .list _, .int _ => tri_gt2 | .int _, .dict _, .int _ => tri_gt2
  | .tuple _, .int _, .int _ => tri_gt | .tuple _, .int _, .tuple _ => tri_gt
  | .tuple _, .tuple _, .int _ => tri_gt2
  | .tuple _, .none, .int _ => tri_gt2 | .tuple _, .bool _, .int _ => tri_gt2 | .tuple _, .str _, .int _ => tri_gt2 | .tuple _, .list _, .int _ => tri_gt2 | .tuple _, .dict _, .int _ => tri_gt2
  | .tuple _, .none, .tuple _ => tri_gt2 | .tuple _, .bool _, .tuple _ => tri_gt2 | .tuple _, .str _, .tuple _ => tri_gt2 | .tuple _, .list _, .tuple _ => tri_gt2 | .tuple _, .dict _, .tuple _ => tri_gt2
  | .none, .int _, _ => tri_gt | .none, .tuple _, _ => tri_gt
  | .bool _, .int _, _ => tri_gt | .bool _, .tuple _, _ => tri_gt
  | .str _, .int _, _ => tri_gt | .str _, .tuple _, _ => tri_gt
  | .list _, .int _, _ => tri_gt | .list _, .tuple _, _ => tri_gt
  | .dict _, .int _, _ => tri_gt | .dict _, .tuple _, _ => tri_gt
  | .none, y, z => by cases y <;> cases z <;> first | exact tri_eq | exact tri_gt2 | exact tri_gt
  | .bool _, y, z => by cases y <;> cases z <;> first | exact tri_eq | exact tri_gt2 | exact tri_gt
  | .str _, y, z => by cases y <;> cases z <;> first | exact tri_eq | exact tri_gt2 | exact tri_gt
  | .list _, y, z => by cases y <;> cases z <;> first | exact tri_eq | exact tri_gt2 | exact tri_gt
  | .dict _, y, z => by cases y <;> cases z <;> first | exact tri_eq | exact tri_gt2 | exact tri_gt
theorem tri_Xs : ∀ xs ys zs : List PyData, Tri (cmpXs xs ys) (cmpXs ys zs) (cmpXs xs zs)
  | [], [], [] => tri_eq
  | [], _, _ :: _ => tri_lt
  | [], _ :: _, [] => tri_gt2
  | _ :: _, [], _ => tri_gt
  | _ :: _, _ :: _, [] => tri_gt2
  | x :: xs, y :: ys, z :: zs => by
    have h1 := tri_X x y z
    have h2 := tri_Xs xs ys zs
    simp only [cmpXs]
    cases e1 : cmpX x y <;> cases e2 : cmpX y z <;> cases e3 : cmpX x z <;> simp_all [Tri]
end
theorem ltXs_asym (xs ys : List PyData) (h : ltXs xs ys = true) : ltXs ys xs = false := by
  unfold ltXs at *
  rw [cmpXs_swap xs ys]
  have e : cmpXs xs ys = .lt := by simpa using h
  rw [e]; rfl
theorem ltXs_tr (xs ys zs : List PyData) (h1 : ltXs ys xs = false) (h2 : ltXs zs ys = false) : ltXs zs xs = false := by
  unfold ltXs at *
  have a1 : cmpXs xs ys ≠ .gt := fun e => by rw [cmpXs_swap xs ys, e] at h1; simp [Ordering.swap] at h1
  have a2 : cmpXs ys zs ≠ .gt := fun e => by rw [cmpXs_swap ys zs, e] at h2; simp [Ordering.swap] at h2
  have := (tri_Xs xs ys zs a1 a2).1
  rw [cmpXs_swap xs zs]
  cases e : cmpXs xs zs <;> simp_all [Ordering.swap]
theorem swo_Xs : SrtO.Swo ltXs := ⟨ltXs_asym, ltXs_tr⟩
/-! on ints and tuples of such -/
mutual
def frg : PyData → Bool
  | .int _ => true
  | .tuple xs => frgs xs
  | _ => false
def frgs : List PyData → Bool
  | [] => true
  | x :: xs => frg x && frgs xs
end
mutual
theorem eqv_cmpX : ∀ x y : PyData, frg x = true → frg y = true → PyData.eqv x y = (cmpX x y == .eq)
  | .int i, .int j, _, _ => by
    have : PyData.eqv (.int i) (.int j) = (i == j) := by simp only [PyData.eqv]
    rw [this]
    simp only [cmpX, cmpI]
    by_cases h : i = j
    · subst h; simp
    · have h1 : (i == j) = false := by simpa using h
      rw [h1]
      rcases Int.lt_or_gt_of_ne h with h2 | h2
      · rw [if_pos h2]; rfl
      · rw [if_neg (by omega), if_pos h2]; rfl
  | .int i, .tuple ys, _, _ => by simp [PyData.eqv, cmpX]
  | .tuple xs, .int j, _, _ => by simp [PyData.eqv, cmpX]
  | .tuple xs, .tuple ys, h1, h2 => by
    have : PyData.eqv (.tuple xs) (.tuple ys) = PyData.eqvAll xs ys := by simp only [PyData.eqv]
    rw [this]
    simp only [cmpX]
    exact eqv_cmpXs xs ys (by simpa [frg] using h1) (by simpa [frg] using h2)
  | .none, _, h, _ => by simp [frg] at h
  | .bool _, _, h, _ => by simp [frg] at h
  | .str _, _, h, _ => by simp [frg] at h
  | .list _, _, h, _ => by simp [frg] at h
  | .dict _, _, h, _ => by simp [frg] at h
  | .int _, .none, _, h => by simp [frg] at h
  | .int _, .bool _, _, h => by simp [frg] at h
  | .int _, .str _, _, h => by simp [frg] at h
  | .int _, .list _, _, h => by simp [frg] at h
  | .int _, .dict _, _, h => by simp [frg] at h
  | .tuple _, .none, _, h => by simp [frg] at h
  | .tuple _, .bool _, _, h => by simp [frg] at h
  | .tuple _, .str _, _, h => by simp [frg] at h
  | .tuple _, .list _, _, h => by simp [frg] at h
  | .tuple _, .dict _, _, h => by simp [frg] at h
theorem eqv_cmpXs : ∀ xs ys : List PyData, frgs xs = true → frgs ys = true → PyData.eqvAll xs ys = (cmpXs xs ys == .eq)
  | [], [], _, _ => by simp [PyData.eqvAll, cmpXs]
  | [], _ :: _, _, _ => by simp [PyData.eqvAll, cmpXs]
  | _ :: _, [], _, _ => by simp [PyData.eqvAll, cmpXs]
  | x :: xs, y :: ys, h1, h2 => by
    have a : frg x = true ∧ frgs xs = true := by simpa [frgs] using h1
    have b : frg y = true ∧ frgs ys = true := by simpa [frgs] using h2
    have : PyData.eqvAll (x :: xs) (y :: ys) = (PyData.eqv x y && PyData.eqvAll xs ys) := by simp only [PyData.eqvAll]
    rw [this, eqv_cmpX x y a.1 b.1, eqv_cmpXs xs ys a.2 b.2]
    simp only [cmpXs]
    cases cmpX x y <;> simp
end
mutual
theorem ltD_ltX : ∀ x y : PyData, frg x = true → frg y = true → cmb x y = true → ltD x y = ltX x y
  | .int i, .int j, _, _, _ => by
    simp only [ltD, ltX, cmpX, cmpI]
    by_cases h : i < j
    · rw [if_pos h, decide_eq_true h]; rfl
    · rw [if_neg h, decide_eq_false h]
      by_cases h2 : j < i
      · rw [if_pos h2]; rfl
      · rw [if_neg h2]; rfl
  | .tuple xs, .tuple ys, h1, h2, h3 => by
    simp only [ltD, ltX, cmpX]
    exact ltAll_ltXs xs ys (by simpa [frg] using h1) (by simpa [frg] using h2) (by simpa [cmb] using h3)
  | .int _, .tuple _, _, _, h => by simp [cmb] at h
  | .tuple _, .int _, _, _, h => by simp [cmb] at h
  | .none, _, h, _, _ => by simp [frg] at h
  | .bool _, _, h, _, _ => by simp [frg] at h
  | .str _, _, h, _, _ => by simp [frg] at h
  | .list _, _, h, _, _ => by simp [frg] at h
  | .dict _, _, h, _, _ => by simp [frg] at h
  | .int _, .none, _, h, _ => by simp [frg] at h
  | .int _, .bool _, _, h, _ => by simp [frg] at h
  | .int _, .str _, _, h, _ => by simp [frg] at h
  | .int _, .list _, _, h, _ => by simp [frg] at h
  | .int _, .dict _, _, h, _ => by simp [frg] at h
  | .tuple _, .none, _, h, _ => by simp [frg] at h
  | .tuple _, .bool _, _, h, _ => by simp [frg] at h
  | .tuple _, .str _, _, h, _ => by simp [frg] at h
  | .tuple _, .list _, _, h, _ => by simp [frg] at h
  | .tuple _, .dict _, _, h, _ => by simp [frg] at h
theorem ltAll_ltXs : ∀ xs ys : List PyData, frgs xs = true → frgs ys = true → cmbAll xs ys = true → ltAll xs ys = ltXs xs ys
  | [], [], _, _, _ => by simp [ltAll, ltXs, cmpXs]
  | [], _ :: _, _, _, _ => by simp [ltAll, ltXs, cmpXs]
  | _ :: _, [], _, _, _ => by simp [ltAll, ltXs, cmpXs]
  | x :: xs, y :: ys, h1, h2, h3 => by
    have a : frg x = true ∧ frgs xs = true := by simpa [frgs] using h1
    have b : frg y = true ∧ frgs ys = true := by simpa [frgs] using h2
    have c : cmb x y = true ∧ cmbAll xs ys = true := by simpa [cmbAll] using h3
    have ih := ltAll_ltXs xs ys a.2 b.2 c.2
    unfold ltXs at ih ⊢
    simp only [ltAll, cmpXs]
    rw [eqv_cmpX x y a.1 b.1, ltD_ltX x y a.1 b.1 c.1, ih]
    unfold ltX
    cases cmpX x y <;> simp
end
mutual
theorem frg_lay : ∀ x : PyData, frg x = true → x.canLay0 = true
  | .int _, _ => by simp [PyData.canLay0]
  | .tuple xs, h => by simp only [PyData.canLay0]; exact frgs_lay xs (by simpa [frg] using h)
  | .none, h => by simp [frg] at h
  | .bool _, h => by simp [frg] at h
  | .str _, h => by simp [frg] at h
  | .list _, h => by simp [frg] at h
  | .dict _, h => by simp [frg] at h
theorem frgs_lay : ∀ x : List PyData, frgs x = true → PyData.canLayAll0 x = true
  | [], _ => by simp [PyData.canLayAll0]
  | x :: xs, h => by
    have a : frg x = true ∧ frgs xs = true := by simpa [frgs] using h
    simp [PyData.canLayAll0, frg_lay x a.1, frgs_lay xs a.2]
end

/-! ### a plain stable sort -/
section sort
variable {α : Type} {lt : α → α → Bool}
def ins (lt : α → α → Bool) (x : α) : List α → List α
  | [] => [x]
  | y :: ys => if lt y x then y :: ins lt x ys else x :: y :: ys
def isort (lt : α → α → Bool) : List α → List α
  | [] => []
  | x :: xs => ins lt x (isort lt xs)
theorem ins_perm (x : α) : ∀ l : List α, (ins lt x l).Perm (x :: l)
  | [] => List.Perm.refl _
  | y :: ys => by
    unfold ins
    split
    · exact ((ins_perm x ys).cons y).trans (List.Perm.swap x y ys)
    · exact List.Perm.refl _
theorem isort_perm : ∀ l : List α, (isort lt l).Perm l
  | [] => List.Perm.refl _
  | x :: xs => (ins_perm x _).trans ((isort_perm xs).cons x)
theorem ins_sorted (O : SrtO.Swo lt) (x : α) : ∀ l : List α, SrtO.Srtd lt l → SrtO.Srtd lt (ins lt x l)
  | [], _ => SrtO.srtd_one x
  | y :: ys, h => by
    unfold ins
    have h' := List.pairwise_cons.mp h
    cases q : lt y x with
    | true =>
      rw [if_pos rfl]
      refine List.pairwise_cons.mpr ⟨fun z hz => ?_, ins_sorted O x ys h'.2⟩
      rcases List.mem_cons.mp ((ins_perm x ys).mem_iff.mp hz) with e | hz
      · rw [e]; exact O.asym y x q
      · exact h'.1 z hz
    | false =>
      rw [if_neg (by decide)]
      refine List.pairwise_cons.mpr ⟨fun z hz => ?_, h⟩
      rcases List.mem_cons.mp hz with e | hz
      · rw [e]; exact q
      · exact O.tr x y z q (h'.1 z hz)
theorem isort_sorted (O : SrtO.Swo lt) : ∀ l : List α, SrtO.Srtd lt (isort lt l)
  | [] => List.Pairwise.nil
  | x :: xs => ins_sorted O x _ (isort_sorted O xs)
theorem ins_stb (O : SrtO.Swo lt) (x : α) : ∀ l : List α, SrtO.Stb lt (ins lt x l) (x :: l)
  | [] => SrtO.Stb.refl _
  | y :: ys => by
    unfold ins
    cases q : lt y x with
    | true =>
      rw [if_pos rfl]
      have h1 : SrtO.Stb lt ([y] ++ ins lt x ys) ([y] ++ (x :: ys)) := (SrtO.Stb.refl [y]).app (ins_stb O x ys)
      have h2 : SrtO.Stb lt (([y] ++ [x]) ++ ys) (([x] ++ [y]) ++ ys) := (SrtO.Stb.swap O (A := [y]) (B := [x]) fun a ha b hb => by rw [List.mem_singleton.mp ha, List.mem_singleton.mp hb]; exact q).app (SrtO.Stb.refl ys)
      exact h1.trans h2
    | false => rw [if_neg (by decide)]; exact SrtO.Stb.refl _
theorem isort_stb (O : SrtO.Swo lt) : ∀ l : List α, SrtO.Stb lt (isort lt l) l
  | [] => SrtO.Stb.refl _
  | x :: xs => (ins_stb O x _).trans ((SrtO.Stb.refl [x]).app (isort_stb O xs))
end sort
end Lc

set_option Elab.async false
set_option linter.all false
set_option maxRecDepth 100000
set_option maxHeartbeats 4000000
namespace SrtO
open PySem PyProof.Rows Srt Lc
section
variable {prog : Program} {w : World} {A : Around} {E : Value → Shared → Prop} {s : Shared}
theorem katlex_data {b : Bool} (hu : A.units + 60 < cLine) : ∀ (xs ys : List Value) (ds es : List PyData) (as bs : List Addr) (i : Nat), ReadsAll s.heap xs ds as → ReadsAll s.heap ys es bs → frgs ds = true → frgs es = true → PyData.depthAll ds ≤ 40 → cmbAll ds es = true →
    (b = true → i = 0 → (∀ d r, ds = d :: r → ∃ n, d = .int n) ∧ (∀ d r, es = d :: r → ∃ n, d = .int n)) →
    PySem.W.KatLex prog w A b (decide (xs.length < ys.length)) (fun r s' => s' = s ∧ r = ltAll ds es) (xs.zip ys) i s
  | [], [], _, _, _, _, i, .nil, .nil, _, _, _, _, _ => PySem.W.kat_nil ⟨rfl, by simp [ltAll]⟩
  | [], _ :: _, _, _, _, _, i, .nil, .cons _ _, _, _, _, _, _ => PySem.W.kat_nil ⟨rfl, by simp [ltAll]⟩
  | _ :: _, [], _, _, _, _, i, .cons _ _, .nil, _, _, _, _, _ => PySem.W.kat_nil ⟨rfl, by simp [ltAll]⟩
  | x :: xs, y :: ys, d :: ds, e :: es, _, _, i, .cons rx tx, .cons ry ty, f1, f2, hd, hc, hb => by
    have a : frg d = true ∧ frgs ds = true := by simpa [frgs] using f1
    have b' : frg e = true ∧ frgs es = true := by simpa [frgs] using f2
    have c : cmb d e = true ∧ cmbAll ds es = true := by simpa [cmbAll] using hc
    have hd1 : d.depth ≤ 40 ∧ PyData.depthAll ds ≤ 40 := by simp only [PyData.depthAll] at hd; omega
    have hmin := Nat.min_le_left d.depth e.depth
    have ih := katlex_data (b := b) hu xs ys ds es _ _ (i + 1) tx ty a.2 b'.2 hd1.2 c.2 (fun _ h => by omega)
    refine PySem.W.kat_cons (SeqAt.eqAt_reads d e A s x y _ _ rx ry (frg_lay d a.1) (frg_lay e b'.1) (by omega) prog w _ _ ?_)
    refine PySem.W.kat_go (fun e1 => ?_) (fun e1 => ?_)
    · have el : ltAll (d :: ds) (e :: es) = ltAll ds es := by simp only [ltAll]; rw [e1]; rfl
      rw [el]
      have ez : decide ((x :: xs).length < (y :: ys).length) = decide (xs.length < ys.length) := by simp
      rw [ez]
      exact PySem.W.kat_yes ih
    · have el : ltAll (d :: ds) (e :: es) = ltD d e := by simp only [ltAll]; rw [e1]; rfl
      rw [el]
      refine PySem.W.kat_no ?_
      cases hbi : (b && i == 0) with
      | true =>
        have hb1 : b = true ∧ i = 0 := by simpa using hbi
        obtain ⟨k1, k2⟩ := hb hb1.1 hb1.2
        obtain ⟨n, rfl⟩ := k1 d ds rfl
        obtain ⟨m, rfl⟩ := k2 e es rfl
        cases rx; cases ry
        exact oneLt_int ⟨rfl, by simp [ltD]⟩
      | false =>
        refine PySem.W.kat_one _ _ (lt_data 40 A d e x y _ _ hd1.1 c.1 (frg_lay d a.1) (frg_lay e b'.1) rx ry (by omega) prog w _ _ ?_)
        exact (show s = s ∧ ltD d e = ltD d e from ⟨rfl, rfl⟩)
/-- v is a tuple of the data k -/
def IsTD (h : Heap) (v : Value) (k : List PyData) : Prop := ∃ a o vs n as, v = .ref a ∧ h.get? a = some o ∧ o.cls = .type "tuple" ∧ o.data = .seq vs n ∧ ReadsAll h vs.toList k as ∧ frgs k = true ∧ PyData.depthAll k ≤ 40
theorem tups_cmp {vs : List Value} {k : Value → List PyData} {b : Bool} (hu : A.units + 60 < cLine) (hk : ∀ v ∈ vs, IsTD s.heap v (k v)) (hc : ∀ v ∈ vs, ∀ u ∈ vs, cmbAll (k v) (k u) = true) (hb : b = true → ∀ v ∈ vs, ∃ n r, k v = .int n :: r) :
    Cmp prog w A s (tuples' b) (fun p => p.1 ∈ vs) (lt2 fun v u => ltXs (k v) (k u)) := by
  intro p q hm hm'
  show wpAny (model prog w) A (keyLt' (tuples' b) p.1 q.1) (fun r s' => s' = s ∧ r = ltXs (k p.1) (k q.1)) (fun _ _ => False) s
  have c := hc _ hm _ hm'
  have b1 := fun h => hb h _ hm
  have b2 := fun h => hb h _ hm'
  have h1 := hk _ hm
  have h2 := hk _ hm'
  generalize k p.1 = d at *
  generalize k q.1 = e at *
  obtain ⟨a, o, xs, n, as, e1, ho, hcl, hd, r1, f1, z1⟩ := h1
  obtain ⟨a', o', ys, n', as', e2, ho', hcl', hd', r2, f2, z2⟩ := h2
  rw [e1, e2, ← ltAll_ltXs d e f1 f2 c]
  refine PySem.W.kat_lt ho hd ho' hd' ?_
  have key := katlex_data (prog := prog) (w := w) (s := s) (b := b) hu xs.toList ys.toList d e as as' 0 r1 r2 f1 f2 z1 c (fun hbt _ => ⟨fun d' r' ed => ?_, fun d' r' ed => ?_⟩)
  · simpa using key
  · obtain ⟨n, r, eq⟩ := b1 hbt
    rw [eq] at ed; cases ed; exact ⟨n, rfl⟩
  · obtain ⟨n, r, eq⟩ := b2 hbt
    rw [eq] at ed; cases ed; exact ⟨n, rfl⟩
theorem katTups_of {h : Heap} : ∀ (vs : List Value) {k : Value → List PyData}, (∀ v ∈ vs, IsTD h v (k v)) → (∀ v ∈ vs, k v ≠ []) → ∃ fs, PySem.W.KatTups h vs fs ∧ fs.length = vs.length ∧ ∀ f ∈ fs, ∃ v ∈ vs, ∃ d r as, k v = d :: r ∧ Reads h f d as
  | [], _, _, _ => ⟨[], trivial, rfl, fun f hf => by simp at hf⟩
  | v :: vs, k, hk, hn => by
    obtain ⟨fs, h1, h2, h3⟩ := katTups_of vs (k := k) (fun u hu => hk u (by simp [hu])) (fun u hu => hn u (by simp [hu]))
    obtain ⟨a, o, xs, n, as, e1, ho, hc, hd, r1, f1, z1⟩ := hk v (by simp)
    have hne := hn v (by simp)
    cases ek : k v with
    | nil => exact absurd ek hne
    | cons d r =>
      rw [ek] at r1
      cases hxs : xs.toList with
      | nil => rw [hxs] at r1; cases r1
      | cons f fr =>
        rw [hxs] at r1
        cases r1 with
        | cons rf rt =>
          have hf : xs[0]? = some f := by
            rw [← Array.getElem?_toList, hxs] <;> rfl
          subst e1
          refine ⟨f :: fs, ⟨⟨a, o, xs, n, rfl, ho, hc, hd, hf⟩, h1⟩, by simp [h2], fun g hg => ?_⟩
          rcases List.mem_cons.mp hg with e | hg
          · subst e; exact ⟨_, by simp, d, r, _, ek, rf⟩
          · obtain ⟨u, hu, q⟩ := h3 g hg
            exact ⟨u, by simp [hu], q⟩
mutual
theorem reads_keeps {h h' : Heap} (kp : ∀ b o, h.get? b = some o → o.cls = .type "tuple" → h'.get? b = some o) : ∀ (d : PyData) {v : Value} {as : List Addr}, frg d = true → Reads h v d as → Reads h' v d as
  | .int i, _, _, _, r => by cases r; exact .int _ _
  | .tuple xs, _, _, f, r => by
    cases r with
    | tuple h1 h2 h3 h4 => exact .tuple (kp _ _ h1 h2) h2 h3 (readsAll_keeps kp xs (by simpa [frg] using f) h4)
  | .none, _, _, f, _ => by simp [frg] at f
  | .bool _, _, _, f, _ => by simp [frg] at f
  | .str _, _, _, f, _ => by simp [frg] at f
  | .list _, _, _, f, _ => by simp [frg] at f
  | .dict _, _, _, f, _ => by simp [frg] at f
theorem readsAll_keeps {h h' : Heap} (kp : ∀ b o, h.get? b = some o → o.cls = .type "tuple" → h'.get? b = some o) : ∀ (ds : List PyData) {vs : List Value} {as : List Addr}, frgs ds = true → ReadsAll h vs ds as → ReadsAll h' vs ds as
  | [], _, _, _, r => by cases r; exact .nil
  | d :: ds, _, _, f, r => by
    have a : frg d = true ∧ frgs ds = true := by simpa [frgs] using f
    cases r with
    | cons h1 h2 => exact .cons (reads_keeps kp d a.1 h1) (readsAll_keeps kp ds a.2 h2)
end
theorem IsTD.keeps {h h' : Heap} {v : Value} {k : List PyData} (x : IsTD h v k) (kp : ∀ b o, h.get? b = some o → o.cls = .type "tuple" → h'.get? b = some o) : IsTD h' v k := by
  obtain ⟨a, o, xs, n, as, e1, ho, hc, hd, r1, f1, z1⟩ := x
  exact ⟨a, o, xs, n, as, e1, kp _ _ ho hc, hc, hd, readsAll_keeps kp k f1 r1, f1, z1⟩
def FirstsOk (ds : List (List PyData)) : Prop := (∀ d ∈ ds, ∃ i r, d = .int i :: r) ∨ (∀ d ∈ ds, ∃ t r, d = .tuple t :: r)
theorem tups_sortable {a : Addr} {vs : List Value} {k : Value → List PyData} (h0 : 0 < vs.length) (hu : A.units + 60 < cLine) (hk : ∀ v ∈ vs, IsTD s.heap v (k v)) (hc : ∀ v ∈ vs, ∀ u ∈ vs, cmbAll (k v) (k u) = true) (hf : FirstsOk (vs.map k))
    (ha : ∀ o, s.heap.get? a = some o → o.cls ≠ .type "tuple") : SortableO prog w A s a vs fun v u => ltXs (k v) (k u) := by
  intro h' keep
  have hk' : ∀ v ∈ vs, IsTD h' v (k v) := fun v hm => (hk v hm).keeps fun b o e c => keep b o (fun z => by subst z; exact ha o e c) e
  have hn : ∀ v ∈ vs, k v ≠ [] := fun v hv => by
    rcases hf with hf | hf
    · obtain ⟨i, r, e⟩ := hf (k v) (List.mem_map.mpr ⟨v, hv, rfl⟩); rw [e]; simp
    · obtain ⟨i, r, e⟩ := hf (k v) (List.mem_map.mpr ⟨v, hv, rfl⟩); rw [e]; simp
  obtain ⟨fs, h1, h2, h3⟩ := katTups_of (h := h') vs hk' hn
  rcases hf with hf | hf
  · refine ⟨tuples' true, fun Q E hq => ?_, tups_cmp (s := { s with heap := h' }) hu hk' hc fun _ v hv => hf (k v) (List.mem_map.mpr ⟨v, hv, rfl⟩)⟩
    refine PySem.W.kat_kind (T := .type "int") h1 (by omega) (fun f hm => ?_) (by rfl) ?_
    · obtain ⟨v, hv, d, r, as, e, rd⟩ := h3 f hm
      obtain ⟨i, r', e'⟩ := hf (k v) (List.mem_map.mpr ⟨v, hv, rfl⟩)
      rw [e'] at e
      cases e
      cases rd
      exact PySem.W.Looks.now
    · have e : (Value.type "int" != Value.type "tuple") = true := by first | decide +kernel | rfl | decide
      rw [e]
      exact hq
  · refine ⟨tuples' false, fun Q E hq => ?_, tups_cmp (s := { s with heap := h' }) hu hk' hc (fun z => by cases z)⟩
    refine PySem.W.kat_kind (T := .type "tuple") h1 (by omega) (fun f hm => ?_) (by rfl) ?_
    · obtain ⟨v, hv, d, r, as, e, rd⟩ := h3 f hm
      obtain ⟨i, r', e'⟩ := hf (k v) (List.mem_map.mpr ⟨v, hv, rfl⟩)
      rw [e'] at e
      cases e
      cases rd with
      | tuple q1 q2 q3 q4 => exact fun A Q E s k q => wpAny_typeOf_ref (k _ _ q1) (by rw [q2]; exact q)
    · have e : (Value.type "tuple" != Value.type "tuple") = false := by first | decide +kernel | rfl | decide
      rw [e]
      exact hq
theorem swo_k (k : Value → List PyData) : Swo fun v u => ltXs (k v) (k u) := ⟨fun x y h => ltXs_asym _ _ h, fun x y z h1 h2 => ltXs_tr _ _ _ h1 h2⟩
theorem sorted_tupsD {l : Addr} {vs : List Value} {k : Value → List PyData} {Q : Value → Shared → Prop} (hu : A.units + 70 < cLine) (hl : s.heap.IsList l vs.toArray) (hz : vs.length ≤ sizeLine) (hk : ∀ v ∈ vs, IsTD s.heap v (k v)) (hc : ∀ v ∈ vs, ∀ u ∈ vs, cmbAll (k v) (k u) = true) (hf : FirstsOk (vs.map k))
    (h : ∀ (h' : Heap) (d : Addr) (out : List Value), Srtd (fun v u => ltXs (k v) (k u)) out → Stb (fun v u => ltXs (k v) (k u)) out vs → (∀ b o, s.heap.get? b = some o → h'.get? b = some o) → s.heap.objs.size ≤ d → (∃ n, h'.get? d = some (seqObj "list" out.toArray n)) → Q (.ref d) { s with heap := h' }) :
    wpAny (model prog w) A (call (.builtin "sorted") [.ref l]) Q E s := by
  refine sorted_ord (swo_k k) hl hz (fun h2 h₁ a ha kk => ?_) fun out hs hb => ?_
  · refine tups_sortable (A := A.in1.in1) (s := { s with heap := h₁ }) (by omega) (show A.units + 1 + 1 + 60 < cLine by omega) (fun v hm => (hk v hm).keeps fun b o e _ => (kk b o e).2) hc hf fun o e => ?_
    have e' : some o = some (seqObj "list" vs.toArray 0) := e.symm.trans ha
    cases e'
    intro c
    exact absurd (Value.type.inj c) (by decide)
  · exact h _ _ out hs hb (fun b o e => sortedAll_old e) (Nat.le_succ _) (sortedAll_at s.heap vs out.toArray)
end
end SrtO

set_option Elab.async false
set_option linter.all false
set_option maxRecDepth 100000
set_option maxHeartbeats 4000000
namespace Lc
open PySem L2 PySem.Spec PyProof.Rows
mutual
theorem dq_uniq {K : PySem.W.Frag} {F : Hp} : ∀ (d e : PyData) {v : V}, frg d = true → frg e = true → Dq K F v d → Dq K F v e → d = e
  | .int i, .int j, _, _, _, h1, h2 => by cases h1; cases h2; rfl
  | .tuple xs, .tuple ys, _, f1, f2, h1, h2 => by
    cases h1 with
    | tup a1 a2 =>
      cases h2 with
      | tup b1 b2 =>
        rw [a1] at b1
        cases b1
        rw [dqs_uniq xs ys (by simpa [frg] using f1) (by simpa [frg] using f2) a2 b2]
  | .int _, .tuple _, _, _, _, h1, h2 => by cases h1; cases h2
  | .tuple _, .int _, _, _, _, h1, h2 => by cases h2; cases h1
  | .none, _, _, f, _, _, _ => by simp [frg] at f
  | .bool _, _, _, f, _, _, _ => by simp [frg] at f
  | .str _, _, _, f, _, _, _ => by simp [frg] at f
  | .list _, _, _, f, _, _, _ => by simp [frg] at f
  | .dict _, _, _, f, _, _, _ => by simp [frg] at f
  | .int _, .none, _, _, f, _, _ => by simp [frg] at f
  | .int _, .bool _, _, _, f, _, _ => by simp [frg] at f
  | .int _, .str _, _, _, f, _, _ => by simp [frg] at f
  | .int _, .list _, _, _, f, _, _ => by simp [frg] at f
  | .int _, .dict _, _, _, f, _, _ => by simp [frg] at f
  | .tuple _, .none, _, _, f, _, _ => by simp [frg] at f
  | .tuple _, .bool _, _, _, f, _, _ => by simp [frg] at f
  | .tuple _, .str _, _, _, f, _, _ => by simp [frg] at f
  | .tuple _, .list _, _, _, f, _, _ => by simp [frg] at f
  | .tuple _, .dict _, _, _, f, _, _ => by simp [frg] at f
theorem dqs_uniq {K : PySem.W.Frag} {F : Hp} : ∀ (ds es : List PyData) {vs : List V}, frgs ds = true → frgs es = true → DqAll K F vs ds → DqAll K F vs es → ds = es
  | [], [], _, _, _, _, _ => rfl
  | [], _ :: _, _, _, _, h1, h2 => by cases h1; cases h2
  | _ :: _, [], _, _, _, h1, h2 => by cases h2; cases h1
  | d :: ds, e :: es, _, f1, f2, h1, h2 => by
    have a : frg d = true ∧ frgs ds = true := by simpa [frgs] using f1
    have b : frg e = true ∧ frgs es = true := by simpa [frgs] using f2
    cases h1 with
    | cons h3 h4 =>
      cases h2 with
      | cons h5 h6 => rw [dq_uniq d e a.1 b.1 h3 h5, dqs_uniq ds es a.2 b.2 h4 h6]
end
/-- sorted(xs), xs a list of tuples of ints and of such tuples: a new list -/
def rSortTD (K : PySem.W.Frag) : List V → Hp → VK → Prop := fun vs H Q => ∃ (F : Hp) (a : Addr) (xs : List V) (ds : List (List PyData)), vs = [V.ref a] ∧ Same F H ∧ H a = some (.lst xs) ∧ DqAll K F xs (ds.map .tuple) ∧
  (∀ d ∈ ds, frgs d = true ∧ PyData.depthAll d ≤ 40) ∧ (∀ d ∈ ds, ∀ e ∈ ds, cmbAll d e = true) ∧ SrtO.FirstsOk ds ∧ ∀ ys p, DqAll K F ys ((isort ltXs ds).map .tuple) → H p = none → Q (.ref p) (upd H p (.lst ys))
theorem dqall_of {K : PySem.W.Frag} {F : Hp} {k : V → List PyData} : ∀ (vs : List V), (∀ v ∈ vs, Dq K F v (.tuple (k v))) → DqAll K F vs ((vs.map k).map .tuple)
  | [], _ => .nil
  | v :: vs, h => .cons (h v (by simp)) (dqall_of vs fun u hu => h u (by simp [hu]))
theorem dqall_map {K : PySem.W.Frag} {F : Hp} : ∀ {vs : List V} {ds : List (List PyData)} {k : V → List PyData}, DqAll K F vs (ds.map .tuple) → (∀ v d, v ∈ vs → d ∈ ds → Dq K F v (.tuple d) → k v = d) → vs.map k = ds
  | [], [], _, _, _ => rfl
  | [], _ :: _, _, h, _ => by cases h
  | _ :: _, [], _, h, _ => by cases h
  | v :: vs, d :: ds, k, h, hk => by
    cases h with
    | cons h1 h2 =>
      rw [List.map_cons, hk v d (by simp) (by simp) h1, dqall_map h2 fun u e hu he => hk u e (by simp [hu]) (by simp [he])]
theorem cr_sortTD {X : Cx} (hu : X.A.units + 70 < cLine) : CallR X (.builtin "sorted") (rSortTD X.K) := by
  intro pins s σ H vs us Q I r h
  obtain ⟨F, a, xs, ds, rfl, sF, hs, hx, hfr, hcm, hfi, q⟩ := h
  obtain ⟨its, rv, hl, hz⟩ := I.list (SqL.of hs)
  obtain ⟨u, rfl, ru⟩ := vals1 r
  obtain rfl : u = Value.ref a := ru
  classical
  let k : V → List PyData := fun v => if h : ∃ d, d ∈ ds ∧ Dq X.K F v (.tuple d) then h.choose else []
  have hkv : ∀ v d, d ∈ ds → Dq X.K F v (.tuple d) → k v = d := fun v d hd h => by
    have hex : ∃ d, d ∈ ds ∧ Dq X.K F v (.tuple d) := ⟨d, hd, h⟩
    show (if h : ∃ d, d ∈ ds ∧ Dq X.K F v (.tuple d) then h.choose else []) = d
    rw [dif_pos hex]
    have h2 := hex.choose_spec
    have h3 := dq_uniq (.tuple hex.choose) (.tuple d) (by simp only [frg]; exact (hfr _ h2.1).1) (by simp only [frg]; exact (hfr d hd).1) h2.2 h
    exact PyData.tuple.inj h3
  have hmem : ∀ v ∈ xs, ∃ d, d ∈ ds ∧ Dq X.K F v (.tuple d) := fun v hv => by
    obtain ⟨i, hi, e⟩ := List.mem_iff_getElem.mp hv
    have h1 : xs[i]? = some v := by rw [List.getElem?_eq_getElem hi, e]
    obtain ⟨d, h2, h3⟩ := hx.getV h1
    rw [List.getElem?_map] at h2
    cases q : ds[i]? with
    | none => rw [q] at h2; cases h2
    | some d' =>
      rw [q] at h2
      have e2 : PyData.tuple d' = d := Option.some.inj h2
      subst e2
      exact ⟨d', List.mem_of_getElem? q, h3⟩
  have emap : xs.map k = ds := dqall_map hx fun v d _ hd h => hkv v d hd h
  obtain ⟨e1, e2⟩ := refs_back rv fun x m => by
    obtain ⟨d, _, h⟩ := hmem x m
    cases h with
    | tup _ _ => exact ⟨_, rfl⟩
  have hit : ∀ v ∈ its, backV v ∈ xs := fun v hv => by rw [e1]; exact List.mem_map.mpr ⟨v, hv, rfl⟩
  have kits : its.map (fun u => k (backV u)) = ds := by rw [← emap, e1, List.map_map]; rfl
  refine SrtO.sorted_tupsD (k := fun u => k (backV u)) hu hl.isList (by rw [← rv.length]; exact hz) (fun v hv => ?_) (fun v hv u hu' => ?_) (by rw [kits]; exact hfi) fun h' d out h1 h2 kp hd hn => ?_
  · obtain ⟨t, rfl⟩ := e2 v hv
    obtain ⟨d, hd, h⟩ := hmem _ (hit _ hv)
    have ek : k (backV (.ref t)) = d := hkv _ d hd h
    show SrtO.IsTD s.heap (.ref t) (k (backV (.ref t)))
    rw [ek]
    have hd' : Dq X.K H (V.ref t) (.tuple d) := dp_same sF h
    have hdp := dq_dp _ (frg_lay (.tuple d) (by simp only [frg]; exact (hfr d hd).1)) hd'
    obtain ⟨as, rd⟩ := Dp.reads I (.tuple d) _ (.ref t) hdp rfl
    cases rd with
    | tuple q1 q2 q3 q4 => exact ⟨t, _, _, _, as, rfl, q1, q2, q3, q4, (hfr d hd).1, (hfr d hd).2⟩
  · obtain ⟨d, hd, h⟩ := hmem _ (hit _ hv)
    obtain ⟨d', hd', h'⟩ := hmem _ (hit _ hu')
    show cmbAll (k (backV v)) (k (backV u)) = true
    rw [hkv _ d hd h, hkv _ d' hd' h']
    exact hcm d hd d' hd'
  · have h3 : ∀ u ∈ out, u ∈ its := fun u hu => h2.perm.mem_iff.mp hu
    obtain ⟨n, hn⟩ := hn
    have hb := SrtO.Stb.map swo_Xs (fun u => k (backV u)) h2
    have hsd := SrtO.srtd_map (lt := ltXs) (f := fun u => k (backV u)) h1
    rw [kits] at hb
    have eo : out.map (fun u => k (backV u)) = isort ltXs ds := by
      refine SrtO.stb_uniq swo_Xs hsd (isort_sorted swo_Xs ds) (hb.trans ?_)
      have h := isort_stb swo_Xs ds
      exact ⟨h.perm.symm, fun x => (h.cls x).symm⟩
    have ho : ∀ v ∈ out.map backV, Dq X.K F v (.tuple (k v)) := fun v hv => by
      obtain ⟨u, hu, rfl⟩ := List.mem_map.mp hv
      obtain ⟨d, hd, h⟩ := hmem _ (hit _ (h3 u hu))
      rw [hkv _ d hd h]; exact h
    have hall := dqall_of (out.map backV) ho
    have hall' : DqAll X.K F (out.map backV) ((isort ltXs ds).map .tuple) := by
      rw [← eo]
      have e3 : (out.map backV).map k = out.map (fun u => k (backV u)) := by rw [List.map_map]; rfl
      rw [e3] at hall
      exact hall
    refine ⟨.ref d, upd H d (.lst (out.map backV)), I.laid (t' := s.toks) kp hd ⟨?_, out, n, vals_back (fun u hu => e2 u (h3 u hu)), hn⟩, rfl, q _ d hall' (I.hok.fresh hd)⟩
    rw [List.length_map, h2.perm.length_eq, ← rv.length]; exact hz
/-- sorted: of ints, of tuples -/
def rSortD (K : PySem.W.Frag) : List V → Hp → VK → Prop := cO (rSortedI K) (rSortTD K)
theorem cr_sortD {X : Cx} (hu : X.A.units + 70 < cLine) : CallR X (.builtin "sorted") (rSortD X.K) := cr_o cr_sortedI (cr_sortTD hu)
section
variable {K : PySem.W.Frag}
theorem ca_sortT {ds : List (List PyData)} (h1 : ∀ d ∈ ds, frgs d = true ∧ PyData.depthAll d ≤ 40) (h2 : ∀ d ∈ ds, ∀ e ∈ ds, cmbAll d e = true) (h3 : SrtO.FirstsOk ds) : CaD K (rSortD K) [.list (ds.map .tuple)] (.list ((isort ltXs ds).map .tuple)) := CaD.inr fun A xs H l hx Q q => by
  cases hx with
  | cons h4 h5 =>
    cases h5
    cases h4 with
    | lst k1 k2 => exact ⟨cut A H, _, _, ds, rfl, same_cut, same_cut _ _ k1, k2, h1, h2, h3, fun ys p hy hp => q _ _ (same_new hp) (.lst (cut_new l hp) (dpall_same (cut_same (same_new hp)) hy))⟩
/-- ints -/
def ltI (i j : Int) : Bool := decide (i < j)
theorem swo_I : SrtO.Swo ltI := ⟨fun x y h => by simp [ltI] at *; omega, fun x y z h1 h2 => by simp [ltI] at *; omega⟩
theorem perm_sorted_eq : ∀ {l m : List Int}, l.Perm m → l.Pairwise (· ≤ ·) → m.Pairwise (· ≤ ·) → l = m := fun {l m} h h1 h2 =>
  SrtO.stb_uniq (lt := ltI) swo_I (h1.imp fun {a b} hab => by simp [ltI]; omega) (h2.imp fun {a b} hab => by simp [ltI]; omega) ⟨h, fun x => by
    have aux : ∀ k : List Int, k.filter (SrtO.eqv ltI x) = List.replicate (k.count x) x := by
      intro k
      induction k with
      | nil => rfl
      | cons y k ih =>
        by_cases e : y = x
        · subst e
          rw [List.filter_cons_of_pos (by simp [SrtO.eqv, ltI]), ih, List.count_cons_self]; rfl
        · rw [List.filter_cons_of_neg (by simp [SrtO.eqv, ltI]; omega), ih, List.count_cons_of_ne (by simpa using e)]
    rw [aux, aux, h.count_eq]⟩
theorem ca_sortI {ns : List Int} : CaD K (rSortD K) [.list (ns.map .int)] (.list ((isort ltI ns).map .int)) := CaD.inl fun A xs H l hx Q q => by
  cases hx with
  | cons h4 h5 =>
    cases h5
    cases h4 with
    | lst k1 k2 =>
      have e := k2.ints; subst e
      refine ⟨_, ns, rfl, SqL.of (same_cut _ _ k1), fun ns' p hp hs hn => q _ _ (same_new hn) (.lst (cut_new l hn) ?_)⟩
      have e : ns' = isort ltI ns := perm_sorted_eq (hp.trans (isort_perm ns).symm) hs ((isort_sorted swo_I ns).imp fun {a b} hab => by simp [ltI] at hab; omega)
      rw [e]
      exact DqAll.ofInts _
end
end Lc

set_option Elab.async false
set_option linter.all false
set_option maxRecDepth 100000
set_option maxHeartbeats 4000000
namespace Lc
open PySem L2 PySem.Spec PyProof.Rows
/-! ### isinstance -/
def tyName : PyData → Option String
  | .none => some "NoneType"
  | .bool _ => some "bool"
  | .int _ => some "int"
  | .str _ => some "str"
  | .list _ => some "list"
  | .tuple _ => some "tuple"
  | .dict [] => some "dict"
  | .dict (_ :: _) => none
theorem dq_ty {K : PySem.W.Frag} {H : Hp} {v : V} {d : PyData} {n : String} (h : Dq K H v d) (hn : tyName d = some n) : TyX K H v (.type n) := by
  cases h with
  | non => cases hn; exact .base .non
  | bl b => cases hn; exact .base (.bl b)
  | int i => cases hn; exact .base (.int i)
  | str x => cases hn; exact .base (.str x)
  | lst h1 h2 => cases hn; exact .base (.lst h1)
  | tup h1 h2 => cases hn; exact .base (.tup h1)
  | scr h1 => simp [tyName, scrD] at hn
  | adr a => simp [tyName, adrD] at hn
  | exc h1 => simp [tyName, excD] at hn
  | dct h1 h2 =>
    rename_i a kvs ds
    have : n = "dict" := by
      unfold dctD at hn
      cases hz : ((kvs.map (·.1)).map keyD).zip ds with
      | nil => rw [hz] at hn; exact (Option.some.inj hn).symm
      | cons p r => rw [hz] at hn; cases hn
    subst this
    exact .base (.dK h1)
  | ty n => simp [tyName, tyD] at hn
def isTuple : PyData → Bool
  | .tuple _ => true
  | _ => false
def isIntB : PyData → Bool
  | .int _ => true
  | .bool _ => true
  | _ => false
def isBool : PyData → Bool
  | .bool _ => true
  | _ => false
def isStr : PyData → Bool
  | .str _ => true
  | _ => false
section
variable {K : PySem.W.Frag} {d : PyData} {ρ : Rho} {ta : TE}
/-- isinstance(e, T), T a built-in class -/
def tIsi (K : PySem.W.Frag) (T : String) (ta : TE) : TE := tCB (rIsi K) (tCons ta (tCons (tC (.ty T)) tNil))
theorem ev_isi {T : String} {n : String} {b : Bool} (h : EvD K ta ρ d) (hn : tyName d = some n) (hb : kitB n T = some b) : EvD K (tIsi K T ta) ρ (.bool b) := fun A σ H l hE Q q =>
  h A σ H l hE _ fun v H1 s1 hv => ⟨v, .ty T, .type n, .type T, b, rfl, .ty T, dq_ty (dq_out hv) hn, kit_ty hb, q _ H1 s1 (.bl _)⟩
theorem ev_isTuple (h : EvD K ta ρ d) (hd : (tyName d).isSome = true) : EvD K (tIsi K "tuple" ta) ρ (.bool (isTuple d)) := by
  cases d with
  | dict l =>
    cases l with
    | nil => first | exact ev_isi (b := true) h rfl (by decide +kernel) | exact ev_isi (b := false) h rfl (by decide +kernel)
    | cons p r => simp [tyName] at hd
  | none => first | exact ev_isi (b := true) h rfl (by decide +kernel) | exact ev_isi (b := false) h rfl (by decide +kernel)
  | bool _ => first | exact ev_isi (b := true) h rfl (by decide +kernel) | exact ev_isi (b := false) h rfl (by decide +kernel)
  | int _ => first | exact ev_isi (b := true) h rfl (by decide +kernel) | exact ev_isi (b := false) h rfl (by decide +kernel)
  | str _ => first | exact ev_isi (b := true) h rfl (by decide +kernel) | exact ev_isi (b := false) h rfl (by decide +kernel)
  | list _ => first | exact ev_isi (b := true) h rfl (by decide +kernel) | exact ev_isi (b := false) h rfl (by decide +kernel)
  | tuple _ => first | exact ev_isi (b := true) h rfl (by decide +kernel) | exact ev_isi (b := false) h rfl (by decide +kernel)
theorem ev_isInt (h : EvD K ta ρ d) (hd : (tyName d).isSome = true) : EvD K (tIsi K "int" ta) ρ (.bool (isIntB d)) := by
  cases d with
  | dict l =>
    cases l with
    | nil => first | exact ev_isi (b := true) h rfl (by decide +kernel) | exact ev_isi (b := false) h rfl (by decide +kernel)
    | cons p r => simp [tyName] at hd
  | none => first | exact ev_isi (b := true) h rfl (by decide +kernel) | exact ev_isi (b := false) h rfl (by decide +kernel)
  | bool _ => first | exact ev_isi (b := true) h rfl (by decide +kernel) | exact ev_isi (b := false) h rfl (by decide +kernel)
  | int _ => first | exact ev_isi (b := true) h rfl (by decide +kernel) | exact ev_isi (b := false) h rfl (by decide +kernel)
  | str _ => first | exact ev_isi (b := true) h rfl (by decide +kernel) | exact ev_isi (b := false) h rfl (by decide +kernel)
  | list _ => first | exact ev_isi (b := true) h rfl (by decide +kernel) | exact ev_isi (b := false) h rfl (by decide +kernel)
  | tuple _ => first | exact ev_isi (b := true) h rfl (by decide +kernel) | exact ev_isi (b := false) h rfl (by decide +kernel)
theorem ev_isBool (h : EvD K ta ρ d) (hd : (tyName d).isSome = true) : EvD K (tIsi K "bool" ta) ρ (.bool (isBool d)) := by
  cases d with
  | dict l =>
    cases l with
    | nil => first | exact ev_isi (b := true) h rfl (by decide +kernel) | exact ev_isi (b := false) h rfl (by decide +kernel)
    | cons p r => simp [tyName] at hd
  | none => first | exact ev_isi (b := true) h rfl (by decide +kernel) | exact ev_isi (b := false) h rfl (by decide +kernel)
  | bool _ => first | exact ev_isi (b := true) h rfl (by decide +kernel) | exact ev_isi (b := false) h rfl (by decide +kernel)
  | int _ => first | exact ev_isi (b := true) h rfl (by decide +kernel) | exact ev_isi (b := false) h rfl (by decide +kernel)
  | str _ => first | exact ev_isi (b := true) h rfl (by decide +kernel) | exact ev_isi (b := false) h rfl (by decide +kernel)
  | list _ => first | exact ev_isi (b := true) h rfl (by decide +kernel) | exact ev_isi (b := false) h rfl (by decide +kernel)
  | tuple _ => first | exact ev_isi (b := true) h rfl (by decide +kernel) | exact ev_isi (b := false) h rfl (by decide +kernel)
theorem ev_isStr (h : EvD K ta ρ d) (hd : (tyName d).isSome = true) : EvD K (tIsi K "str" ta) ρ (.bool (isStr d)) := by
  cases d with
  | dict l =>
    cases l with
    | nil => first | exact ev_isi (b := true) h rfl (by decide +kernel) | exact ev_isi (b := false) h rfl (by decide +kernel)
    | cons p r => simp [tyName] at hd
  | none => first | exact ev_isi (b := true) h rfl (by decide +kernel) | exact ev_isi (b := false) h rfl (by decide +kernel)
  | bool _ => first | exact ev_isi (b := true) h rfl (by decide +kernel) | exact ev_isi (b := false) h rfl (by decide +kernel)
  | int _ => first | exact ev_isi (b := true) h rfl (by decide +kernel) | exact ev_isi (b := false) h rfl (by decide +kernel)
  | str _ => first | exact ev_isi (b := true) h rfl (by decide +kernel) | exact ev_isi (b := false) h rfl (by decide +kernel)
  | list _ => first | exact ev_isi (b := true) h rfl (by decide +kernel) | exact ev_isi (b := false) h rfl (by decide +kernel)
  | tuple _ => first | exact ev_isi (b := true) h rfl (by decide +kernel) | exact ev_isi (b := false) h rfl (by decide +kernel)
theorem sh_ty {n : Nat} (h : Sh n d) : (tyName d).isSome = true := by
  cases d <;> first | rfl | (have := h.1; simp [PyData.canLay0] at this)
/-! slices -/
def cutD (xs : List PyData) (lo hi : Option Int) : List PyData := (xs.drop (HT.sIx xs.length 0 lo)).take (HT.sIx xs.length xs.length hi - HT.sIx xs.length 0 lo)
theorem cut_dq {F : Hp} {vs : List V} {ds : List PyData} {lo hi : Option Int} (h : DqAll K F vs ds) : DqAll K F (cutV vs lo hi) (cutD ds lo hi) := by
  unfold cutV cutD
  rw [h.length]
  exact (h.drop _).take _
def rSlStr : V → Option Int → Option Int → Hp → VK → Prop := fun x lo hi H Q => ∃ z, x = .str z ∧ z.length ≤ sizeLine ∧ Q (.str (cutS z lo hi)) H
def rSlU (K : PySem.W.Frag) : V → Option Int → Option Int → Hp → VK → Prop := fun x lo hi H Q => rSlL K x lo hi H Q ∨ rSlA K x lo hi H Q ∨ rSlStr x lo hi H Q
def EvO (K : PySem.W.Frag) (to : TO) (ρ : Rho) (o : Option Int) : Prop :=
  ∀ A σ H, Live A H → EnvD K (cut A H) σ ρ → ∀ Q : Option Int → Hp → Prop, (∀ H', Same H H' → Q o H') → to σ H Q
theorem eo_none : EvO K tNoPart ρ none := fun A σ H l hE Q q => q H (Same.refl H)
theorem eo_some {i : Int} (h : EvD K ta ρ (.int i)) : EvO K (tPart ta) ρ (some i) := fun A σ H l hE Q q => h A σ H l hE _ fun v H1 s1 hv => by
  cases hv; exact ⟨i, rfl, q H1 s1⟩
theorem ev_slT {ds : List PyData} {lo hi : TO} {i j : Option Int} (h : EvD K ta ρ (.tuple ds)) (hl : EvO K lo ρ i) (hh : EvO K hi ρ j) : EvD K (tSl (rSlU K) ta lo hi) ρ (.tuple (cutD ds i j)) := fun A σ H l hE Q q =>
  h A σ H l hE _ fun v H1 s1 hv => hl A σ H1 (l.same s1) (hE.same (cut_same s1)) _ fun H2 s2 => hh A σ H2 (l.same (s1.trans s2)) (hE.same (cut_same (s1.trans s2))) _ fun H3 s3 => by
    have hv3 := dp_same (cut_same (s2.trans s3)) hv
    cases hv3 with
    | tup k1 k2 =>
      rename_i a0 xs0
      refine .inr (.inl ⟨_, _, rfl, SqT.of (same_cut _ _ k1), fun hw => ?_, fun _ p hp => ?_⟩)
      · refine q _ H3 ((s1.trans s2).trans s3) ?_
        have e : cutD ds i j = ds := by
          unfold cutD
          rw [← k2.length, hw.1, hw.2, List.drop_zero, Nat.sub_zero, k2.length, List.take_length]
        rw [e]; exact .tup k1 k2
      · have sn := same_new (o := .tup (cutV xs0 i j)) hp
        exact q _ _ (((s1.trans s2).trans s3).trans sn) (.tup (cut_new (l.same ((s1.trans s2).trans s3)) hp) (dpall_same (cut_same sn) (cut_dq k2)))
theorem ev_slL {ds : List PyData} {lo hi : TO} {i j : Option Int} (h : EvD K ta ρ (.list ds)) (hl : EvO K lo ρ i) (hh : EvO K hi ρ j) : EvD K (tSl (rSlU K) ta lo hi) ρ (.list (cutD ds i j)) := fun A σ H l hE Q q =>
  h A σ H l hE _ fun v H1 s1 hv => hl A σ H1 (l.same s1) (hE.same (cut_same s1)) _ fun H2 s2 => hh A σ H2 (l.same (s1.trans s2)) (hE.same (cut_same (s1.trans s2))) _ fun H3 s3 => by
    have hv3 := dp_same (cut_same (s2.trans s3)) hv
    cases hv3 with
    | lst k1 k2 =>
      rename_i a0 xs0
      refine .inl ⟨_, _, rfl, SqL.of (same_cut _ _ k1), fun p hp => ?_⟩
      have sn := same_new (o := .lst (cutV xs0 i j)) hp
      exact q _ _ (((s1.trans s2).trans s3).trans sn) (.lst (cut_new (l.same ((s1.trans s2).trans s3)) hp) (dpall_same (cut_same sn) (cut_dq k2)))
theorem ev_slS {z : Str} {lo hi : TO} {i j : Option Int} (h : EvD K ta ρ (.str z)) (hl : EvO K lo ρ i) (hh : EvO K hi ρ j) (hz : z.length ≤ 100000) : EvD K (tSl (rSlU K) ta lo hi) ρ (.str (cutS z i j)) := fun A σ H l hE Q q =>
  h A σ H l hE _ fun v H1 s1 hv => hl A σ H1 (l.same s1) (hE.same (cut_same s1)) _ fun H2 s2 => hh A σ H2 (l.same (s1.trans s2)) (hE.same (cut_same (s1.trans s2))) _ fun H3 s3 => by
    cases hv
    exact .inr (.inr ⟨z, rfl, Nat.le_trans hz (by decide), q _ H3 ((s1.trans s2).trans s3) (.str _)⟩)
end
theorem sl_U {X : Cx} : SlR X (rSlU X.K) := by
  intro pins s σ H x v vl vu lo hi sl Q I rx hs pl pu h
  rcases h with h | h | h
  · exact sl_list pins s σ H x v vl vu lo hi sl Q I rx hs pl pu h
  · exact sl_tupA pins s σ H x v vl vu lo hi sl Q I rx hs pl pu h
  · exact sl_str pins s σ H x v vl vu lo hi sl Q I rx hs pl pu h
theorem units65 {k : Nat} {A : Around} (r : Room k A) : A.units + 65 < cLine := by have := r.un; omega
theorem units70 {k : Nat} {A : Around} (r : Room k A) : A.units + 70 < cLine := by have := r.un; omega
/-! tuple(range(..)), list(range(..)) -/
section
variable {K : PySem.W.Frag} {ρ : Rho} {ta tb : TE}
theorem rgV_dq {F : Hp} (a b : Int) : DqAll K F (rgV a b) (rngD a (b - a).toNat) := by
  unfold rgV rngD
  generalize List.range (b - a).toNat = l
  induction l with
  | nil => exact .nil
  | cons x xs ih => exact .cons (.int _) ih
theorem ev_tupRg1 {n : Int} (h : EvD K ta ρ (.int n)) (h1 : n ≤ 16777216) (h0 : 0 ≤ n) : EvD K (tTupRg (tRg1 ta)) ρ (.tuple (rngD 0 n.toNat)) := fun A σ H l hE Q q => h A σ H l hE _ fun v H1 s1 hv => by
  cases hv
  refine ⟨n, rfl, RgOk.of_le (by omega) h1 (by omega) h0, fun p hp => q _ _ (s1.trans (same_new hp)) (.tup (cut_new (l.same s1) hp) ?_)⟩
  have e := rgV_dq (K := K) (F := cut A (upd H1 p (.tup (rgV 0 n)))) 0 n
  rw [Int.sub_zero] at e
  exact e
theorem ev_lstRg1 {n : Int} (h : EvD K ta ρ (.int n)) (h1 : n ≤ 16777216) (h0 : 0 ≤ n) : EvD K (tLstRg (tRg1 ta)) ρ (.list (rngD 0 n.toNat)) := fun A σ H l hE Q q => h A σ H l hE _ fun v H1 s1 hv => by
  cases hv
  refine ⟨n, rfl, RgOk.of_le (by omega) h1 (by omega) h0, fun p hp => q _ _ (s1.trans (same_new hp)) (.lst (cut_new (l.same s1) hp) ?_)⟩
  have e := rgV_dq (K := K) (F := cut A (upd H1 p (.lst (rgV 0 n)))) 0 n
  rw [Int.sub_zero] at e
  exact e
theorem ev_tupRg2 {m n : Int} (h : EvD K ta ρ (.int m)) (h' : EvD K tb ρ (.int n)) (h0 : 0 ≤ m) (h1 : n ≤ 16777216) (h2 : m ≤ 16777216) (h3 : 0 ≤ n) : EvD K (tTupRg (tRg2 ta tb)) ρ (.tuple (rngD m (n - m).toNat)) := fun A σ H l hE Q q =>
  h A σ H l hE _ fun v H1 s1 hv => h' A σ H1 (l.same s1) (hE.same (cut_same s1)) _ fun u H2 s2 hu => by
  cases hv; cases hu
  exact ⟨m, n, rfl, rfl, RgOk.of_le h0 h1 h2 h3, fun p hp => q _ _ ((s1.trans s2).trans (same_new hp)) (.tup (cut_new (l.same (s1.trans s2)) hp) (rgV_dq m n))⟩
end
end Lc

set_option Elab.async false
set_option linter.all false
set_option maxRecDepth 100000
set_option maxHeartbeats 4000000
namespace Lc
open PySem L2 PySem.Spec PyProof.Rows
/-! ### a def where it stands -/
def FnAt (P : Program) (w : World) (K : PySem.W.Frag) (mg : Str → Option Value) (base : Heap) (k : Nat) (x : Str) (ps : List Str) (sp : Sp) : Prop :=
  ∃ f fd, FnOk P w K mg base (L2.CX P w) k f fd ps sp ∧ mg x = some (.ref f) ∧ PySem.W.keepIn K (.ref f) = true ∧ Binds K fd ps []
section
variable {X : Cx} {k : Nat} {x : Str} {ps : List Str} {sp : Sp} {E : XK} {p pos : Pos} {e : Expr} {es : List Expr} {t : TA}
theorem pe_callF (F : FnAt X.prog X.w X.K X.mg X.base k x ps sp) (hr : Room k X.A) (hg : Gl X x) (hx : Passes (L2.CX X.prog X.w) X E)
    (ha : PA X (e :: es) t) (hdb : (x == ("__debug__" : Str)) = false := by decide) (he : starEach (e :: es) X.env = (false, eval e X.env) :: starEach es X.env := by rfl) (hpl : (backTo pos (starEach es X.env)).any (·.1) = false := by rfl) :
    PE X (.Call (.Name x p) (e :: es) [] pos) (tCall sp [] E t) := by
  obtain ⟨f, fd, F1, g, kp, b⟩ := F
  exact pe_call F1 hr hg g kp b .nil hx ha hdb he hpl
end
/-! ### raise -/
structure ExcAt (K : PySem.W.Frag) (mg : Str → Option Value) (x : Str) : Prop where
  g : mg x = some (.ref (He.ga K x))
  ok : PySem.W.excIn K (He.ga K x) He.veBase "ValueError.__new__" = true
  kp : PySem.W.keepIn K (.ref (He.ga K x)) = true
  sb : PySem.W.subIn K (.ref (He.ga K x)) (.type "BaseException") = some true
  ty : PySem.W.typeIn K (.ref (He.ga K x)) = some (.type "type")
def tRaise (C : Addr) (E : XK) : TS := fun _ _ H => E (.ref C) none H
theorem xs_raiseF {K : PySem.W.Frag} {E : XK} {ρ : Rho} {C : Addr} : ExS K E (tRaise C E) ρ (.ex C) := xs_raise
theorem ps_raiseF {X : Cx} {x m : Str} {j : Nat} {p p2 pos pos2 : Pos} {E : XK} {E₁ : Value → Shared → Prop} (h : ExcAt X.K X.mg x) (hg : Gl X x := by rfl) (hc : X.calm = true := by rfl) (hs : X.stack = X.env :: X.outer := by rfl) (hf : X.env.frame = some X.env.locals := by rfl) (hex : X.ex = [] := by rfl)
    (hx : X.xe = fun e s' => wpAny (model X.prog X.w) X.A (leaving X.env e) (fun _ s'' => L2.CX X.prog X.w X.outer X.H_0 X.s_0 E e s'') E₁ s' := by rfl) (hdb : (x == ("__debug__" : Str)) = false := by decide) :
    PS X (.Raise (some (.Call (.Name x p) [.Constant (.str m) j p2] [] pos)) none pos2) (tRaise (He.ga X.K x) E) :=
  ps_raise hc (takes_of hs hf hex hx) (pmk_own PySem.F.excBase_ValueError h.ok h.g h.kp (raises_own h.sb h.ty) hg hdb)
/-! ### the names of built-ins are free -/
structure Bl (mg : Str → Option Value) : Prop where
  b_len : mg "len" = none
  b_isinstance : mg "isinstance" = none
  b_int : mg "int" = none
  b_bool : mg "bool" = none
  b_tuple : mg "tuple" = none
  b_list : mg "list" = none
  b_dict : mg "dict" = none
  b_str : mg "str" = none
  b_set : mg "set" = none
  b_all : mg "all" = none
  b_any : mg "any" = none
  b_range : mg "range" = none
  b_sum : mg "sum" = none
  b_max : mg "max" = none
  b_min : mg "min" = none
  b_abs : mg "abs" = none
  b_sorted : mg "sorted" = none
  b_enumerate : mg "enumerate" = none
  b_zip : mg "zip" = none
  b_ValueError : mg "ValueError" = none
/-! ### unions to come -/
def rListU (K : PySem.W.Frag) : List V → Hp → VK → Prop := rListOf K
theorem cr_listU {X : Cx} (hc : X.calm = true) : CallR X (.type "list") (rListU X.K) := cr_listOf
def rIntU : List V → Hp → VK → Prop := cO rInt1 fun xs H Q => ∃ a n, xs = [.str a] ∧ PySem.intText? a = some n ∧ a.length ≤ 640 ∧ Q (.int n) H
theorem cr_intU {X : Cx} : CallR X (.type "int") rIntU := cr_o cr_int1 call_int_str
def rStrU : List V → Hp → VK → Prop := fun xs H Q => ∃ i, xs = [.int i] ∧ i.natAbs.log2 < 1920 ∧ Q (.str (toString i)) H
theorem cr_strU {X : Cx} : CallR X (.type "str") rStrU := call_str_int
end Lc

set_option Elab.async false
set_option linter.all false
set_option maxRecDepth 100000
set_option maxHeartbeats 4000000
namespace Lc
open PySem L2 PySem.Spec PyProof.Rows
/-! ### the town: what the law's draws change -/
def TownOk (ns : List Int) (c : Nat) (ts : List Int) : Prop := ts.length = ns.length + 1 ∧ 0 ≤ ts.getD 0 0 ∧ ts.getD 0 0 ≤ (c : Int)
def Town (ns : List Int) (tn : Addr) (c : Nat) (H : Hp) : Prop := ∃ ts : List Int, H tn = some (.lst (ts.map V.int)) ∧ TownOk ns c ts
theorem Town.mono {ns : List Int} {tn : Addr} {c c' : Nat} {H : Hp} (t : Town ns tn c H) (h : c ≤ c') : Town ns tn c' H := by
  obtain ⟨ts, h1, h2, h3, h4⟩ := t
  exact ⟨ts, h1, h2, h3, by omega⟩
theorem Town.same {ns : List Int} {tn : Addr} {c : Nat} {H H' : Hp} (t : Town ns tn c H) (s : Same H H') : Town ns tn c H' := by
  obtain ⟨ts, h1, h2⟩ := t
  exact ⟨ts, s _ _ h1, h2⟩
theorem Town.live {ns : List Int} {tn : Addr} {c : Nat} {H : Hp} (t : Town ns tn c H) : H tn ≠ none := by
  obtain ⟨ts, h1, _⟩ := t
  rw [h1]; simp
theorem live_keep {A : List Addr} {tn : Addr} {ns : List Int} {c : Nat} {H H' : Hp} (l : Live A H) (k : Keep [tn] H H') (t : Town ns tn c H') : Live A H' := fun a ha e => by
  by_cases h : a = tn
  · subst h; exact t.live e
  · cases q : H a with
    | none => exact l a ha q
    | some o => rw [k a o (by simpa using h) q] at e; cases e
theorem keep_cut {A : List Addr} {tn : Addr} {H H' : Hp} (hm : tn ∈ A) (k : Keep [tn] H H') : Same (cut A H) (cut A H') := (k.mono (B := A) (by simpa using hm)).cut
/-- at most M draws in all -/
abbrev MD : Nat := 1000000
section
variable (K : PySem.W.Frag) (tn : Addr) (ns : List Int)
def EvW (te : TE) (ρ : Rho) (n : Nat) (R : PyData → Prop) : Prop :=
  ∀ c A σ H, c + n ≤ MD → Live A H → tn ∈ A → Town ns tn c H → EnvD K (cut A H) σ ρ → ∀ Q : VK, (∀ d v H', R d → Keep [tn] H H' → Town ns tn (c + n) H' → Dq K (cut A H') v d → Q v H') → te σ H Q
def EtW (tt : TT) (ρ : Rho) (n : Nat) (R : Bool → Prop) : Prop :=
  ∀ c A σ H, c + n ≤ MD → Live A H → tn ∈ A → Town ns tn c H → EnvD K (cut A H) σ ρ → ∀ Q : Bool → Hp → Prop, (∀ b H', R b → Keep [tn] H H' → Town ns tn (c + n) H' → Q b H') → tt σ H Q
def EaW (ta : TA) (ρ : Rho) (n : Nat) (R : List PyData → Prop) : Prop :=
  ∀ c A σ H, c + n ≤ MD → Live A H → tn ∈ A → Town ns tn c H → EnvD K (cut A H) σ ρ → ∀ Q : List V → Hp → Prop, (∀ ds vs H', R ds → Keep [tn] H H' → Town ns tn (c + n) H' → DqAll K (cut A H') vs ds → Q vs H') → ta σ H Q
end
section
variable {K : PySem.W.Frag} {tn : Addr} {ns : List Int} {ρ : Rho} {ta tb te : TE} {t u : TT} {d e f : PyData} {n m : Nat}
theorem ew_pure (h : EvD K te ρ d) : EvW K tn ns te ρ 0 (· = d) := fun c A σ H hc l hm ht hE Q q =>
  h A σ H l hE Q fun v H' s hv => q d v H' rfl (Keep.of s) (ht.same s) hv
theorem et_pure {b : Bool} (h : EvT K t ρ b) : EtW K tn ns t ρ 0 (· = b) := fun c A σ H hc l hm ht hE Q q =>
  h A σ H l hE Q fun H' s => q b H' rfl (Keep.of s) (ht.same s)
theorem EvW.mono {R R' : PyData → Prop} (h : EvW K tn ns te ρ n R) (hn : n ≤ m) (hR : ∀ d, R d → R' d) : EvW K tn ns te ρ m R' := fun c A σ H hc l hm ht hE Q q =>
  h c A σ H (by omega) l hm ht hE Q fun d v H' r k t hv => q d v H' (hR d r) k (t.mono (by omega)) hv
theorem EtW.mono {R R' : Bool → Prop} (h : EtW K tn ns t ρ n R) (hn : n ≤ m) (hR : ∀ d, R d → R' d) : EtW K tn ns t ρ m R' := fun c A σ H hc l hm ht hE Q q =>
  h c A σ H (by omega) l hm ht hE Q fun d H' r k t => q d H' (hR d r) k (t.mono (by omega))
theorem ew_op {r : R2} {Ra Rb R : PyData → Prop} (ha : EvW K tn ns ta ρ n Ra) (hb : EvW K tn ns tb ρ m Rb) (hr : ∀ d e, Ra d → Rb e → ∃ f, OpD K r d e f ∧ R f) : EvW K tn ns (tOp r ta tb) ρ (n + m) R := fun c A σ H hc l hm ht hE Q q =>
  ha c A σ H (by omega) l hm ht hE _ fun d x H1 rd k1 t1 hx => hb (c + n) A σ H1 (by omega) (live_keep l k1 t1) hm t1 (hE.same (keep_cut hm k1)) _ fun e y H2 re k2 t2 hy => by
    obtain ⟨f, ho, rf⟩ := hr d e rd re
    refine ho A x y H2 (live_keep (live_keep l k1 t1) k2 t2) (dp_same (keep_cut hm k2) hx) hy Q fun v H3 s3 hv => ?_
    exact q f v H3 rf ((k1.trans k2).trans (Keep.of s3)) ((t2.mono (by omega)).same s3) hv
theorem ea_nilW : EaW K tn ns tNil ρ 0 (· = []) := fun c A σ H hc l hm ht hE Q q => q [] [] H rfl Keep.refl ht .nil
theorem ea_consW {tr : TA} {Ra : PyData → Prop} {Rs R : List PyData → Prop} (ha : EvW K tn ns ta ρ n Ra) (hr : EaW K tn ns tr ρ m Rs) (hR : ∀ d ds, Ra d → Rs ds → R (d :: ds)) : EaW K tn ns (tCons ta tr) ρ (n + m) R := fun c A σ H hc l hm ht hE Q q =>
  ha c A σ H (by omega) l hm ht hE _ fun d x H1 rd k1 t1 hx => hr (c + n) A σ H1 (by omega) (live_keep l k1 t1) hm t1 (hE.same (keep_cut hm k1)) _ fun ds xs H2 re k2 t2 hxs =>
    q (d :: ds) _ H2 (hR d ds rd re) (k1.trans k2) (t2.mono (by omega)) (.cons (dp_same (keep_cut hm k2) hx) hxs)
theorem ew_cb {r : List V → Hp → VK → Prop} {tr : TA} {Rs : List PyData → Prop} {R : PyData → Prop} (ha : EaW K tn ns tr ρ n Rs) (hr : ∀ ds, Rs ds → ∃ f, CaD K r ds f ∧ R f) : EvW K tn ns (tCB r tr) ρ n R := fun c A σ H hc l hm ht hE Q q =>
  ha c A σ H hc l hm ht hE _ fun ds xs H1 rd k1 t1 hx => by
    obtain ⟨f, ho, rf⟩ := hr ds rd
    exact ho A xs H1 (live_keep l k1 t1) hx Q fun v H3 s3 hv => q f v H3 rf (k1.trans (Keep.of s3)) (t1.same s3) hv
theorem ew_tup {tr : TA} {Rs : List PyData → Prop} {R : PyData → Prop} (ha : EaW K tn ns tr ρ n Rs) (hr : ∀ ds, Rs ds → ds.length ≤ 100000 ∧ R (.tuple ds)) : EvW K tn ns (tTup tr) ρ n R := fun c A σ H hc l hm ht hE Q q =>
  ha c A σ H hc l hm ht hE _ fun ds xs H1 rd k1 t1 hx => ⟨Nat.le_trans (by rw [hx.length]; exact (hr ds rd).1) (by decide), fun p hp =>
    q _ _ _ (hr ds rd).2 (k1.trans (Keep.of (same_new hp))) (t1.same (same_new hp)) (.tup (cut_new (live_keep l k1 t1) hp) (dpall_same (cut_same (same_new hp)) hx))⟩
theorem ew_lst {tr : TA} {Rs : List PyData → Prop} {R : PyData → Prop} (ha : EaW K tn ns tr ρ n Rs) (hr : ∀ ds, Rs ds → ds.length ≤ 100000 ∧ R (.list ds)) : EvW K tn ns (tLst tr) ρ n R := fun c A σ H hc l hm ht hE Q q =>
  ha c A σ H hc l hm ht hE _ fun ds xs H1 rd k1 t1 hx => ⟨Nat.le_trans (by rw [hx.length]; exact (hr ds rd).1) (by decide), fun p hp =>
    q _ _ _ (hr ds rd).2 (k1.trans (Keep.of (same_new hp))) (t1.same (same_new hp)) (.lst (cut_new (live_keep l k1 t1) hp) (dpall_same (cut_same (same_new hp)) hx))⟩
theorem et_testW {R : PyData → Prop} {P : Bool → Prop} (h : EvW K tn ns te ρ n R) (hR : ∀ d, R d → ∃ b, d = .bool b ∧ P b) : EtW K tn ns (tTest te) ρ n P := fun c A σ H hc l hm ht hE Q q => h c A σ H hc l hm ht hE _ fun d v H' r k t hv => by
  obtain ⟨b, rfl, p⟩ := hR d r
  cases hv; exact ⟨b, rfl, q b H' p k t⟩
theorem et_BW {R : PyData → Prop} {P : Bool → Prop} (h : EvW K tn ns te ρ n R) (hR : ∀ d, R d → ∃ b, d = .bool b ∧ P b) : EtW K tn ns (tB te) ρ n P := fun c A σ H hc l hm ht hE Q q => h c A σ H hc l hm ht hE _ fun d v H' r k t hv => by
  obtain ⟨b, rfl, p⟩ := hR d r
  cases hv; exact ⟨b, rfl, q b H' p k t⟩
theorem ew_and {P P' : Bool → Prop} {R R' : PyData → Prop} (h1 : EvW K tn ns ta ρ n R) (hR : ∀ d, R d → ∃ b, d = .bool b ∧ P b) (h2 : EvW K tn ns tb ρ m R') : EvW K tn ns (tAndV ta tb) ρ (n + m) (fun d => (d = .bool false ∧ P false) ∨ (P true ∧ R' d)) := fun c A σ H hc l hm ht hE Q q => h1 c A σ H (by omega) l hm ht hE _ fun d v H1 r k1 t1 hv => by
  obtain ⟨b, rfl, p⟩ := hR d r
  cases hv
  refine ⟨b, rfl, ?_⟩
  cases b with
  | true => exact iteT (h2 (c + n) A σ H1 (by omega) (live_keep l k1 t1) hm t1 (hE.same (keep_cut hm k1)) Q fun d v H2 r2 k2 t2 hv => q d v H2 (.inr ⟨p, r2⟩) (k1.trans k2) (t2.mono (by omega)) hv)
  | false => exact iteF (q _ _ H1 (.inl ⟨rfl, p⟩) k1 (t1.mono (by omega)) (.bl _))
theorem ew_if {P : Bool → Prop} {R : PyData → Prop} (h : EtW K tn ns t ρ n P) (h1 : P true → EvW K tn ns ta ρ m R) (h2 : P false → EvW K tn ns tb ρ m R) : EvW K tn ns (tIf t ta tb) ρ (n + m) R := fun c A σ H hc l hm ht hE Q q => h c A σ H (by omega) l hm ht hE _ fun b H1 p k1 t1 => by
  cases b with
  | true => exact iteT (h1 p (c + n) A σ H1 (by omega) (live_keep l k1 t1) hm t1 (hE.same (keep_cut hm k1)) Q fun d v H2 r2 k2 t2 hv => q d v H2 r2 (k1.trans k2) (t2.mono (by omega)) hv)
  | false => exact iteF (h2 p (c + n) A σ H1 (by omega) (live_keep l k1 t1) hm t1 (hE.same (keep_cut hm k1)) Q fun d v H2 r2 k2 t2 hv => q d v H2 r2 (k1.trans k2) (t2.mono (by omega)) hv)
/-- a def on data, its arguments drawn -/
theorem ew_callP {Rp : List PyData → Out → Prop} {E : XK} {tr : TA} {Rs : List PyData → Prop} {R : PyData → Prop} (ha : EaW K tn ns tr ρ n Rs) (hr : ∀ ds, Rs ds → ∃ d, Rp ds (.rt d) ∧ R d) : EvW K tn ns (tCall (spD K Rp) [] E tr) ρ n R := fun c A σ H hc l hm ht hE Q q =>
  ha c A σ H hc l hm ht hE _ fun ds xs H1 rd k1 t1 hx => by
    obtain ⟨d, hp, rd⟩ := hr ds rd
    rw [List.append_nil]
    exact ⟨A, ds, .rt d, live_keep l k1 t1, hx, hp, fun v H2 s2 h2 => q d v H2 rd (k1.trans (Keep.of s2)) (t1.same s2) h2⟩
/-- a def that draws: script, town and more; at most n draws -/
def spT (K : PySem.W.Frag) (n : Nat) (P : List PyData → Prop) (R : List PyData → PyData → Prop) : Sp := fun vs H Q _ =>
  ∃ A tn ns c, c + n ≤ MD ∧ Live A H ∧ tn ∈ A ∧ Town ns tn c H ∧ ∃ ds, DqAll K (cut A H) vs (scrD ns :: adrD tn :: ds) ∧ P ds ∧ ∀ d v H', R ds d → Keep [tn] H H' → Town ns tn (c + n) H' → Dq K (cut A H') v d → Q v H'
theorem ew_callT {P : List PyData → Prop} {Rt : List PyData → PyData → Prop} {E : XK} {tr : TA} {Rs : List PyData → Prop} {R : PyData → Prop} (ha : EaW K tn ns tr ρ n Rs) (hr : ∀ ds, Rs ds → ∃ es, ds = scrD ns :: adrD tn :: es ∧ P es ∧ ∀ d, Rt es d → R d) : EvW K tn ns (tCall (spT K m P Rt) [] E tr) ρ (n + m) R := fun c A σ H hc l hm ht hE Q q =>
  ha c A σ H (by omega) l hm ht hE _ fun ds xs H1 rd k1 t1 hx => by
    obtain ⟨es, rfl, hp, hR⟩ := hr ds rd
    rw [List.append_nil]
    exact ⟨A, tn, ns, c + n, by omega, live_keep l k1 t1, hm, t1, es, hx, hp, fun d v H2 r2 k2 t2 h2 => q d v H2 (hR d r2) (k1.trans k2) (t2.mono (by omega)) h2⟩
/-! ### comprehensions that draw -/
def LcR {α : Type} (R : α → Option PyData → Prop) : List α → List PyData → Prop
  | [], ds => ds = []
  | x :: xs, ds => (∃ d ds', R x (some d) ∧ ds = d :: ds' ∧ LcR R xs ds') ∨ (R x none ∧ LcR R xs ds)
theorem LcR.snoc {α : Type} {R : α → Option PyData → Prop} {x : α} {d : PyData} (h : R x (some d)) : ∀ {xs : List α} {ds : List PyData}, LcR R xs ds → LcR R (xs ++ [x]) (ds ++ [d])
  | [], ds, e => by cases e; exact .inl ⟨d, [], h, rfl, rfl⟩
  | y :: xs, ds, .inl ⟨e, ds', h1, h2, h3⟩ => by subst h2; exact .inl ⟨e, _, h1, rfl, LcR.snoc h h3⟩
  | y :: xs, ds, .inr ⟨h1, h2⟩ => .inr ⟨h1, LcR.snoc h h2⟩
theorem LcR.skip {α : Type} {R : α → Option PyData → Prop} {x : α} (h : R x none) : ∀ {xs : List α} {ds : List PyData}, LcR R xs ds → LcR R (xs ++ [x]) ds
  | [], ds, e => by cases e; exact .inr ⟨h, rfl⟩
  | y :: xs, ds, .inl ⟨e, ds', h1, h2, h3⟩ => .inl ⟨e, ds', h1, h2, LcR.skip h h3⟩
  | y :: xs, ds, .inr ⟨h1, h2⟩ => .inr ⟨h1, LcR.skip h h2⟩
theorem LcR.len {α : Type} {R : α → Option PyData → Prop} : ∀ {xs : List α} {ds : List PyData}, LcR R xs ds → ds.length ≤ xs.length
  | [], ds, e => by cases e; simp
  | y :: xs, ds, .inl ⟨e, ds', h1, h2, h3⟩ => by subst h2; simpa using h3.len
  | y :: xs, ds, .inr ⟨h1, h2⟩ => by have := h2.len; simp; omega
theorem ew_lc {α : Type} {wi : TI} {g : TG} {tt : TT} {vs ws : List Nat} {n1 n2 : Nat} (xs : List α) (enc : α → PyData) (P : α → Bool → Prop) (Ro : α → PyData → Prop) (r2 : α → Rho) (hi : ItD K wi ρ (xs.map enc)) (hz : xs.length ≤ 50000) (hw : ∀ i ∈ ws, i ∈ vs)
    (hg : ∀ x ∈ xs, TgD K g (enc x) (wipeD ρ vs) (r2 x) ws) (ht : ∀ x ∈ xs, EtW K tn ns tt (r2 x) n1 (P x)) (he : ∀ x ∈ xs, EvW K tn ns te (r2 x) n2 (Ro x)) :
    EvW K tn ns (tLc wi g tt te vs) ρ (xs.length * (n1 + n2)) (fun d => ∃ ds, d = .list ds ∧ LcR (fun x o => match o with | some d => P x true ∧ Ro x d | none => P x false) xs ds) := fun c A σ H hc l hm htw hE Q q => hi A σ H l hE _ fun J H1 s1 hJ => fun D hD => by
  have l1 := l.same s1
  have hDA : D ∉ A := l1.fresh hD
  have hDt : D ≠ tn := fun z => hDA (z ▸ hm)
  have E1 : EnvD K (cut A H1) (wipe σ vs) (wipeD ρ vs) := (hE.same (cut_same s1)).wipe vs
  have oD : Off A H1 (D :: A) := off_new hD
  have hmD : tn ∈ D :: A := List.mem_cons_of_mem _ hm
  let RR : α → Option PyData → Prop := fun x o => match o with | some d => P x true ∧ Ro x d | none => P x false
  refine ⟨fun i m H' => m = xs.length - i ∧ i ≤ xs.length ∧ Keep [tn, D] H1 H' ∧ Town ns tn (c + i * (n1 + n2)) H' ∧ ∃ us ds, H' D = some (.lst us) ∧ DqAll K (cut (D :: A) H') us ds ∧ LcR RR (xs.take i) ds, ⟨xs.length, ?_⟩, ?_⟩
  · refine ⟨by simp, Nat.zero_le _, fun a o ha h => by rw [upd_ne (fun z => ha (by simp [z]))]; exact h, ?_, [], [], upd_same, .nil, by simp [LcR]⟩
    rw [Nat.zero_mul, Nat.add_zero]
    exact (htw.same s1).same (same_new hD)
  · rintro i m H' ⟨rfl, hle, hk, hT, us, ds, hus, hdp, hlc⟩
    have kA : Keep A H1 H' := fun a o ha h => hk a o (fun z => by
      rcases List.mem_cons.mp z with z | z
      · exact ha (z ▸ hm)
      · rw [List.mem_singleton.mp z, hD] at h; cases h) h
    have lv : Live (D :: A) H' := fun a ha e => by
      rcases List.mem_cons.mp ha with z | z
      · rw [z, hus] at e; cases e
      · by_cases ht : a = tn
        · subst ht; exact hT.live e
        · cases q1 : H1 a with
          | none => exact l1 a z q1
          | some o => rw [hk a o (fun w => by
              rcases List.mem_cons.mp w with w | w
              · exact ht w
              · exact hDA (List.mem_singleton.mp w ▸ z)) q1] at e; cases e
    by_cases hlt : i < xs.length
    · have hstep : (i + 1) * (n1 + n2) ≤ xs.length * (n1 + n2) := Nat.mul_le_mul_right _ hlt
      have hexp : (i + 1) * (n1 + n2) = i * (n1 + n2) + (n1 + n2) := Nat.succ_mul _ _
      refine .inr ⟨hJ.goes i H' (by simpa using hlt) kA, fun H2 => Keep [tn, D] H1 H2 ∧ Town ns tn (c + (i + 1) * (n1 + n2)) H2 ∧ ∃ us ds, H2 D = some (.lst us) ∧ DqAll K (cut (D :: A) H2) us ds ∧ LcR RR (xs.take (i + 1)) ds, fun H2 h2 => ⟨xs.length - (i + 1), by omega, rfl, hlt, h2⟩, fun x H2 hy => ?_⟩
      obtain ⟨s2, d, hd, hx⟩ := hJ.yields i H' x H2 (D :: A) (by simpa using hlt) kA lv oD hy
      have hdi : d = enc xs[i] := by
        rw [List.getElem?_map, List.getElem?_eq_getElem hlt] at hd
        exact (Option.some.inj hd).symm
      subst hdi
      have hmx : xs[i] ∈ xs := List.getElem_mem hlt
      have lv2 := lv.same s2
      have tk : (xs.take (i + 1)) = xs.take i ++ [xs[i]] := by rw [List.take_add_one, List.getElem?_eq_getElem hlt] <;> rfl
      refine hg _ hmx (D :: A) (wipe σ vs) H2 x lv2 (E1.same (oD.cut (kA.trans (Keep.of s2)))) hx _ fun σ2 hE2 w2 => ⟨?_, ?_⟩
      · rw [w2 vs hw, wipe_wipe]
      · refine ht _ hmx (c + i * (n1 + n2)) (D :: A) σ2 H2 (by omega) lv2 hmD (hT.same s2) hE2 _ fun b H3 pb k3 t3 => ?_
        have kk : Keep [tn] H' H3 := (Keep.of s2).trans k3
        have toD : Keep [tn, D] H1 H3 := hk.trans (kk.mono (by simp))
        have hD3 : H3 D = some (.lst us) := kk D _ (by simpa using hDt) hus
        cases b with
        | false =>
          refine iteF ⟨toD, t3.mono (by omega), us, ds, hD3, dpall_same (keep_cut hmD kk) hdp, ?_⟩
          rw [tk]
          exact LcR.skip (R := RR) pb hlc
        | true =>
          have lv3 := live_keep lv2 k3 t3
          refine iteT (he _ hmx (c + i * (n1 + n2) + n1) (D :: A) σ2 H3 (by omega) lv3 hmD t3 (hE2.same (keep_cut hmD k3)) _ fun d4 y H4 rd k4 t4 hy4 => ?_)
          have kk4 : Keep [tn] H' H4 := kk.trans k4
          have kp : Keep (D :: A) H4 (upd H4 D (.lst (us ++ [y]))) := fun a o ha h => by
            rw [upd_ne (fun z => ha (by simp [z]))]; exact h
          have hlen := hlc.len
          rw [List.length_take] at hlen
          refine ⟨us, kk4 D _ (by simpa using hDt) hus, ?_, ?_, ?_, us ++ [y], ds ++ [d4], upd_same, ?_, ?_⟩
          · have := hdp.length
            have : us.length < 100000 := by omega
            exact Nat.lt_of_lt_of_le this (by decide)
          · exact fun a o ha h => by
              rw [upd_ne (fun z => ha (by simp [z]))]
              exact (hk.trans (kk4.mono (by simp))) a o ha h
          · obtain ⟨ts, q1, q2⟩ := t4
            refine Town.mono ⟨ts, ?_, q2⟩ (by omega)
            rw [upd_ne (Ne.symm hDt)]; exact q1
          · exact (dpall_same ((keep_cut hmD kk4).trans kp.cut) hdp).append (.cons (dp_same kp.cut hy4) .nil)
          · rw [tk]
            exact LcR.snoc (R := RR) ⟨pb, rd⟩ hlc
    · have e : i = xs.length := by omega
      subst e
      refine .inl ⟨by have := hJ.stops H' kA; simpa using this, q (.list ds) _ H' ⟨ds, rfl, by rw [List.take_length] at hlc; exact hlc⟩ ?_ hT ?_⟩
      · exact fun a o ha h => hk a o (fun z => by
          rcases List.mem_cons.mp z with z | z
          · exact ha (by simp [z])
          · rw [List.mem_singleton.mp z] at h; rw [s1 _ _ h] at hD; cases hD) (s1 a o h)
      · refine .lst (by rw [cut_out hDA]; exact hus) ?_
        refine dpall_same (fun a o e => ?_) hdp
        obtain ⟨h1, h2⟩ := cut_some e
        rw [cut_out (fun z => h1 (List.mem_cons_of_mem _ z))]; exact h2
end
end Lc

set_option Elab.async false
set_option linter.all false
set_option maxRecDepth 100000
set_option maxHeartbeats 4000000
namespace Lc
open PySem L2 PySem.Spec PyProof.Rows
section
variable (K : PySem.W.Frag) (tn : Addr) (ns : List Int)
def ExW (ts : TS) (ρ : Rho) (n : Nat) (Pn : Rho → Prop) (Pr : PyData → Prop) : Prop :=
  ∀ c A σ H D, c + n ≤ MD → Live A H → tn ∈ A → Town ns tn c H → EnvD K (cut A H) σ ρ →
    (∀ ρ' σ' H', Pn ρ' → Keep [tn] H H' → Town ns tn (c + n) H' → EnvD K (cut A H') σ' ρ' → D.nx σ' H') →
    (∀ d v H', Pr d → Keep [tn] H H' → Town ns tn (c + n) H' → Dq K (cut A H') v d → D.rt v H') → ts D σ H
end
section
variable {K : PySem.W.Frag} {tn : Addr} {ns : List Int} {ρ ρ1 : Rho} {ta tb te : TE} {t u : TT} {d e f : PyData} {n m : Nat} {ts tz tw : TS} {Pn Pn' Pm : Rho → Prop} {Pr Pr' : PyData → Prop} {E : XK}
theorem ExW.mono (h : ExW K tn ns ts ρ n Pn Pr) (hn : n ≤ m) (h1 : ∀ ρ, Pn ρ → Pn' ρ) (h2 : ∀ d, Pr d → Pr' d) : ExW K tn ns ts ρ m Pn' Pr' := fun c A σ H D hc l hm ht hE q1 q2 =>
  h c A σ H D (by omega) l hm ht hE (fun ρ' σ' H' p k t hE' => q1 ρ' σ' H' (h1 _ p) k (t.mono (by omega)) hE') (fun d v H' p k t hv => q2 d v H' (h2 _ p) k (t.mono (by omega)) hv)
theorem xw_pure (h : ExS K E ts ρ (.nx ρ1)) : ExW K tn ns ts ρ 0 (· = ρ1) Pr := fun c A σ H D hc l hm ht hE q1 q2 =>
  h A σ H D l hE fun σ' H' s hE' => q1 ρ1 σ' H' rfl (Keep.of s) (ht.same s) hE'
theorem xw_pureR (h : ExS K E ts ρ (.rt d)) (hd : Pr d) : ExW K tn ns ts ρ 0 Pn Pr := fun c A σ H D hc l hm ht hE q1 q2 =>
  h A σ H D l hE fun v H' s hv => q2 d v H' hd (Keep.of s) (ht.same s) hv
theorem xw_seq (h1 : ExW K tn ns ts ρ n Pn Pr) (h2 : ∀ ρ', Pn ρ' → ExW K tn ns tz ρ' m Pm Pr) : ExW K tn ns (tSeq ts tz) ρ (n + m) Pm Pr := fun c A σ H D hc l hm ht hE q1 q2 =>
  h1 c A σ H { D with nx := tz D } (by omega) l hm ht hE
    (fun ρ' σ' H' p k t hE' => h2 ρ' p (c + n) A σ' H' D (by omega) (live_keep l k t) hm t hE' (fun ρ2 σ2 H2 p2 k2 t2 hE2 => q1 ρ2 σ2 H2 p2 (k.trans k2) (t2.mono (by omega)) hE2) (fun d v H2 p2 k2 t2 hv => q2 d v H2 p2 (k.trans k2) (t2.mono (by omega)) hv))
    (fun d v H' p k t hv => q2 d v H' p k (t.mono (by omega)) hv)
/-- a pure statement, then the rest -/
theorem xw_seqP (h1 : ExS K E ts ρ (.nx ρ1)) (h2 : ExW K tn ns tz ρ1 m Pm Pr) : ExW K tn ns (tSeq ts tz) ρ m Pm Pr := by
  have := xw_seq (tn := tn) (ns := ns) (Pr := Pr) (xw_pure h1) (fun ρ' e => by rw [e]; exact h2)
  rw [Nat.zero_add] at this
  exact this
theorem xw_next : ExW K tn ns tNext ρ 0 (· = ρ) Pr := fun c A σ H D hc l hm ht hE q1 q2 => q1 ρ σ H rfl Keep.refl ht hE
theorem xw_ret {R : PyData → Prop} (h : EvW K tn ns te ρ n R) : ExW K tn ns (tRet te) ρ n Pn R := fun c A σ H D hc l hm ht hE q1 q2 =>
  h c A σ H hc l hm ht hE _ fun d v H' r k t hv => q2 d v H' r k t hv
theorem xw_drop {R : PyData → Prop} (h : EvW K tn ns te ρ n R) : ExW K tn ns (tDrop te) ρ n (· = ρ) Pr := fun c A σ H D hc l hm ht hE q1 q2 =>
  h c A σ H hc l hm ht hE _ fun d v H' r k t hv => q1 ρ σ H' rfl k t (hE.same (keep_cut hm k))
theorem xw_asg {R : PyData → Prop} {i : Nat} (h : EvW K tn ns te ρ n R) : ExW K tn ns (tAsg te (gName i)) ρ n (fun ρ' => ∃ d, R d ∧ ρ' = ρ.set i (some d)) Pr := fun c A σ H D hc l hm ht hE q1 q2 =>
  h c A σ H hc l hm ht hE _ fun d v H' r k t hv => q1 _ _ H' ⟨d, r, rfl⟩ k t ((hE.same (keep_cut hm k)).set hv i)
theorem xw_asgT {R : PyData → Prop} {g : TG} {ws : List Nat} {r2 : PyData → Rho} (h : EvW K tn ns te ρ n R) (hg : ∀ d, R d → TgD K g d ρ (r2 d) ws) : ExW K tn ns (tAsg te g) ρ n (fun ρ' => ∃ d, R d ∧ ρ' = r2 d) Pr := fun c A σ H D hc l hm ht hE q1 q2 =>
  h c A σ H hc l hm ht hE _ fun d v H' r k t hv => hg d r A σ H' v (live_keep l k t) (hE.same (keep_cut hm k)) hv _ fun σ' hE' _ => q1 _ σ' H' ⟨d, r, rfl⟩ k t hE'
theorem xw_par {i j : Nat} {ta : TA} {R : List PyData → Prop} (h : EaW K tn ns ta ρ n R) (hR : ∀ ds, R ds → ds.length = 2) : ExW K tn ns (tPar i j ta) ρ n (fun ρ' => ∃ d e, R [d, e] ∧ ρ' = (ρ.set i (some d)).set j (some e)) Pr := fun c A σ H D hc l hm ht hE q1 q2 =>
  h c A σ H hc l hm ht hE _ fun ds vs H' r k t hv => by
    have hl := hR ds r
    match ds, hl, hv with
    | [d, e], _, .cons h1 (.cons h2 .nil) => exact ⟨_, _, rfl, q1 _ _ H' ⟨d, e, r, rfl⟩ k t (((hE.same (keep_cut hm k)).set h1 i).set h2 j)⟩
theorem xw_if {P : Bool → Prop} (h : EtW K tn ns t ρ n P) (h1 : P true → ExW K tn ns ts ρ m Pn Pr) (h2 : P false → ExW K tn ns tz ρ m Pn Pr) : ExW K tn ns (tIfS t ts tz) ρ (n + m) Pn Pr := fun c A σ H D hc l hm ht hE q1 q2 =>
  h c A σ H (by omega) l hm ht hE _ fun b H1 p k1 t1 => by
    have E1 := hE.same (keep_cut hm k1)
    have L1 := live_keep l k1 t1
    cases b with
    | true => exact iteT (h1 p (c + n) A σ H1 D (by omega) L1 hm t1 E1 (fun ρ2 σ2 H2 p2 k2 t2 hE2 => q1 ρ2 σ2 H2 p2 (k1.trans k2) (t2.mono (by omega)) hE2) (fun d v H2 p2 k2 t2 hv => q2 d v H2 p2 (k1.trans k2) (t2.mono (by omega)) hv))
    | false => exact iteF (h2 p (c + n) A σ H1 D (by omega) L1 hm t1 E1 (fun ρ2 σ2 H2 p2 k2 t2 hE2 => q1 ρ2 σ2 H2 p2 (k1.trans k2) (t2.mono (by omega)) hE2) (fun d v H2 p2 k2 t2 hv => q2 d v H2 p2 (k1.trans k2) (t2.mono (by omega)) hv))
/-- a pure test that is known -/
theorem xw_ifP {b : Bool} (h : EvT K t ρ b) (h1 : b = true → ExW K tn ns ts ρ m Pn Pr) (h2 : b = false → ExW K tn ns tz ρ m Pn Pr) : ExW K tn ns (tIfS t ts tz) ρ m Pn Pr := by
  have := xw_if (tn := tn) (ns := ns) (m := m) (et_pure (tn := tn) (ns := ns) h) (fun e => h1 e.symm) (fun e => h2 e.symm)
  rw [Nat.zero_add] at this
  exact this
/-- a for over what is known; I: what holds between two turns -/
theorem xw_for {α : Type} {wi : TI} {g : TG} {ws : List Nat} (xs : List α) (enc : α → PyData) (I : Nat → Rho → Prop) (r2 : α → Rho → Rho) (hi : ItD K wi ρ (xs.map enc)) (h0 : I 0 ρ)
    (hg : ∀ i (h : i < xs.length) ρ', I i ρ' → TgD K g (enc xs[i]) ρ' (r2 xs[i] ρ') ws) (hb : ∀ i (h : i < xs.length) ρ', I i ρ' → ExW K tn ns ts (r2 xs[i] ρ') n (I (i + 1)) Pr) :
    ExW K tn ns (tFor wi g ts) ρ (xs.length * n) (I xs.length) Pr := fun c A σ H D hc l hm ht hE q1 q2 => hi A σ H l hE _ fun J H1 s1 hJ => by
  refine ⟨fun i m σ' H' => m = xs.length - i ∧ i ≤ xs.length ∧ Keep [tn] H1 H' ∧ Town ns tn (c + i * n) H' ∧ ∃ ρ', I i ρ' ∧ EnvD K (cut A H') σ' ρ', ⟨xs.length, by simp, Nat.zero_le _, Keep.refl, by rw [Nat.zero_mul, Nat.add_zero]; exact ht.same s1, ρ, h0, hE.same (cut_same s1)⟩, ?_⟩
  rintro i m σ' H' ⟨rfl, hle, hk, hT, ρ', hI, hE'⟩
  have lv : Live A H' := live_keep (l.same s1) hk hT
  have kA : Keep A H1 H' := hk.mono (by simpa using hm)
  by_cases hlt : i < xs.length
  · have hstep : (i + 1) * n ≤ xs.length * n := Nat.mul_le_mul_right _ hlt
    have hexp : (i + 1) * n = i * n + n := Nat.succ_mul _ _
    refine .inr ⟨hJ.goes i H' (by simpa using hlt) kA, fun σ2 H2 => Keep [tn] H1 H2 ∧ Town ns tn (c + (i + 1) * n) H2 ∧ ∃ ρ2, I (i + 1) ρ2 ∧ EnvD K (cut A H2) σ2 ρ2, fun σ2 H2 h2 => ⟨xs.length - (i + 1), by omega, rfl, hlt, h2⟩, fun x H2 hy => ?_⟩
    obtain ⟨s2, d, hd, hx⟩ := hJ.yields i H' x H2 A (by simpa using hlt) kA lv Off.refl hy
    have hdi : d = enc xs[i] := by
      rw [List.getElem?_map, List.getElem?_eq_getElem hlt] at hd
      exact (Option.some.inj hd).symm
    subst hdi
    refine hg i hlt ρ' hI A σ' H2 x (lv.same s2) (hE'.same (cut_same s2)) hx _ fun σ2 hE2 _ => ?_
    refine hb i hlt ρ' hI (c + i * n) A σ2 H2 _ (by omega) (lv.same s2) hm (hT.same s2) hE2 (fun ρ3 σ3 H3 p3 k3 t3 hE3 => ⟨(hk.trans (Keep.of s2)).trans k3, t3.mono (by omega), ρ3, p3, hE3⟩) (fun d v H3 p3 k3 t3 hv => ?_)
    exact q2 d v H3 p3 (((Keep.of s1).trans (hk.trans (Keep.of s2))).trans k3) (t3.mono (by omega)) hv
  · have e : i = xs.length := by omega
    subst e
    exact .inl ⟨by have := hJ.stops H' kA; simpa using this, q1 ρ' σ' H' hI ((Keep.of s1).trans hk) hT hE'⟩
/-- the body of a def that draws -/
theorem sp_bodyT {P : List PyData → Prop} {R : List PyData → PyData → Prop} {N : List Str} {t : TS} {vs : List V} {H : Hp} {Q : VK} (h : ∀ tn ns ds, P ds → ExW K tn ns t (startD N.length (scrD ns :: adrD tn :: ds)) n (fun _ => False) (R ds))
    (hs : spT K n P R vs H Q E) : t { nx := fun _ H' => Q .non H', rt := Q } (L2.start N vs) H := by
  obtain ⟨A, tn, ns, c, hc, l, hm, hT, ds, hv, hP, q⟩ := hs
  exact h tn ns ds hP c A _ H _ hc l hm hT (env_of hv) (fun _ _ _ z => z.elim) q
theorem spT_len {P : List PyData → Prop} {R : List PyData → PyData → Prop} {k : Nat} (hP : ∀ ds, P ds → ds.length = k) {vs : List V} {H : Hp} {Q : VK} (hs : spT K n P R vs H Q E) : vs.length = k + 2 := by
  obtain ⟨A, tn, ns, c, hc, l, hm, hT, ds, hv, hp, q⟩ := hs
  rw [hv.length]
  simp [hP ds hp]
theorem spD_len {R : List PyData → Out → Prop} {k : Nat} (hR : ∀ ds o, R ds o → ds.length = k) {vs : List V} {H : Hp} {Q : VK} (hs : spD K R vs H Q E) : vs.length = k := by
  obtain ⟨A, ds, o, l, hv, hr, c⟩ := hs
  rw [hv.length]
  exact hR ds o hr
/-! ### the town is made -/
def spTown (K : PySem.W.Frag) : Sp := fun vs H Q _ => ∃ A ns, Live A H ∧ ns.length ≤ 1000 ∧ DqAll K (cut A H) vs [scrD ns] ∧ ∀ p H', H p = none → Same H H' → H' p = some (.lst (((0 : Int) :: ns).map V.int)) → Q (.ref p) H'
theorem spTown_len {vs : List V} {H : Hp} {Q : VK} (hs : spTown K vs H Q E) : vs.length = 1 := by
  obtain ⟨A, ns, l, _, hv, q⟩ := hs
  rw [hv.length]; rfl
/-- the reading of [0] + list(script) -/
def t_law_town (K : PySem.W.Frag) (E : XK) : TS := (tRet (tOp (rAddU K) (tLst (tCons (tC (.int 0)) tNil)) (tCB (rListU K) (tCons (tVar 0) tNil))))
theorem pure_law_town {vs : List V} {H : Hp} {Q : VK} (hs : spTown K vs H Q E) : t_law_town K E { nx := fun _ H' => Q .non H', rt := Q } (L2.start ["script"] vs) H := by
  obtain ⟨A, ns, l, hz, hv, q⟩ := hs
  cases hv with
  | cons h1 h2 =>
    cases h2
    obtain ⟨a, rfl, k⟩ := h1.scrI
    refine ⟨by decide, fun p hp => ⟨.ref a, rfl, ?_⟩⟩
    refine ⟨a, _, rfl, .inl (sql_same (same_cut.trans (same_new hp)) k), fun p2 hp2 => ?_⟩
    have hne : p ≠ p2 := fun z => by rw [← z, upd_same] at hp2; cases hp2
    refine .inr (.inr (.inl ⟨p, p2, [.int 0], _, rfl, rfl, by rw [upd_ne hne]; exact upd_same, upd_same, ?_, fun p3 hp3 => ?_⟩))
    · rw [List.length_map]
      exact Nat.le_trans (show 1 + ns.length ≤ 2000 by omega) (by decide)
    · exact q p3 _ (((same_new hp).trans (same_new hp2)).free hp3) (((same_new hp).trans (same_new hp2)).trans (same_new hp3)) upd_same
end
end Lc

set_option Elab.async false
set_option linter.all false
set_option maxRecDepth 100000
set_option maxHeartbeats 4000000
namespace Lc
open PySem L2 PySem.Spec PyProof.Rows
section
variable {K : PySem.W.Frag} {E : XK}
theorem dps_ints {H : Hp} : ∀ ns : List Int, DpAll K H (ns.map V.int) (ns.map PyData.int)
  | [] => .nil
  | n :: ns => .cons (.int n) (dps_ints ns)
theorem sh_lstI {n : Nat} {ns : List Int} : Sh (n + 1) (.list (ns.map .int)) := sh_lst fun d hd => by
  obtain ⟨i, _, rfl⟩ := List.mem_map.mp hd
  exact sh_int
theorem od_eqScr {ns : List Int} {e : PyData} (h : Sh 40 e) : OpD K (rEqD K) (scrD ns) e (.bool (PyData.eqv (.list (ns.map .int)) e)) := fun A x y H l hx hy Q q => by
  obtain ⟨a, rfl, k⟩ := hx.scrI
  exact ⟨.list (ns.map .int), e, .lst (sql_same same_cut k) (dps_ints ns), dq_dp e h.1 (dq_out hy), (sh_lstI (n := 10)).shaped (by decide), h.shaped (by decide), q _ H (Same.refl H) (.bl _)⟩
theorem ca_lenScr {ns : List Int} : CaD K (rLenU K) [scrD ns] (.int ns.length) := CaD.inl fun A xs H l hx Q q => by
  cases hx with
  | cons h1 h2 =>
    cases h2
    obtain ⟨a, rfl, k⟩ := h1.scrI
    exact ⟨_, _, rfl, .inl (sql_same same_cut k), q _ H (Same.refl H) (by rw [List.length_map]; exact .int _)⟩
theorem od_ixScr {ns : List Int} {i : Int} {z : Int} (h : atI ns i = some z) : OpD K (rIx K) (scrD ns) (.int i) (.int z) := fun A x y H l hx hy Q q => by
  cases hy
  obtain ⟨a, rfl, k⟩ := hx.scrI
  refine .inl ⟨_, _, i, .int z, rfl, rfl, sql_same same_cut k, ?_, q _ H (Same.refl H) (.int _)⟩
  unfold atI at h ⊢
  rw [List.length_map]
  cases e : ixN ns.length i with
  | none => rw [e] at h; cases h
  | some j =>
    rw [e] at h
    have h' : ns[j]? = some z := h
    show (ns.map V.int)[j]? = some (V.int z)
    rw [List.getElem?_map, h'] <;> rfl
def t_law_draw (K : PySem.W.Frag) (E : XK) : TS := (tSeq (tAsg (tOp (rAddU K) (tOp (rIx K) (tVar 1) (tC (.int 0))) (tC (.int 1))) (gSub (tVar 1) (tC (.int 0)) rSetL))
  (tSeq (tIfS (tTest (tOp (rEqD K) (tVar 0) (tLst tNil))) (tRet (tOp rModU (tOp rDivU (tOp (rMulU K) (tOp (rMulU K) (tOp (rIx K) (tVar 1) (tC (.int 0))) (tOp (rIx K) (tVar 1) (tC (.int 0)))) (tC (.int 7))) (tC (.int 3))) (tVar 2))) tNext)
  (tSeq (tAsg (tOp rModU (tOp (rIx K) (tVar 1) (tC (.int 0))) (tCB (rLenU K) (tCons (tVar 0) tNil))) (gName 3))
  (tSeq (tAsg (tOp (rIx K) (tVar 1) (tOp (rAddU K) (tC (.int 1)) (tVar 3))) (gName 4))
  (tSeq (tIfS (tAnd (tTest (tOp rGeI (tOp (rIx K) (tVar 0) (tVar 3)) (tOp rPowU (tC (.int 10)) (tC (.int 18))))) (tTest (tOp rGtI (tVar 4) (tC (.int 0))))) (tSeq (tAsg (tOp rDivU (tVar 4) (tVar 2)) (gSub (tVar 1) (tOp (rAddU K) (tC (.int 1)) (tVar 3)) rSetL))
  (tRet (tOp rModU (tVar 4) (tVar 2)))) tNext)
  (tSeq (tAsg (tOp rModU (tOp (rAddU K) (tOp (rIx K) (tVar 0) (tVar 3)) (tOp (rMulU K) (tC (.int 104729)) (tOp (rIx K) (tVar 1) (tC (.int 0))))) (tC (.int 4294967291))) (gName 5))
  (tSeq (tAsg (tOp rModU (tOp rPowU (tVar 5) (tC (.int 5))) (tC (.int 4294967279))) (gName 5))
  (tRet (tOp rModU (tOp rDivU (tOp rModU (tOp (rAddU K) (tOp (rMulU K) (tOp rDivU (tVar 5) (tC (.int 64))) (tC (.int 69621))) (tVar 5)) (tC (.int 4294967231))) (tC (.int 8))) (tVar 2))))))))))
def pDraw : List PyData → Prop := fun ds => ∃ limit : Int, ds = [.int limit] ∧ 0 < limit ∧ limit < 1073741824
def rDraw : List PyData → PyData → Prop := fun ds d => ∃ limit r : Int, ds = [.int limit] ∧ d = .int r ∧ 0 ≤ r ∧ r < limit
def spDraw (K : PySem.W.Frag) : Sp := spT K 1 pDraw rDraw
theorem ed_nat (a b : Int) (h : 0 < b) : 0 ≤ a % b ∧ a % b < b := ⟨Int.emod_nonneg _ (by omega), Int.emod_lt_of_pos _ h⟩
theorem cmulL {i j : Int} (h1 : -1000000000000 ≤ i) (h2 : i ≤ 1000000000000) : CMul i j := .inl ⟨by omega, by omega⟩
theorem cmulR {i j : Int} (h1 : -1000000000000 ≤ j) (h2 : j ≤ 1000000000000) : CMul i j := .inr ⟨by omega, by omega⟩
/-- data that is an int is that int under any places -/
theorem dq_int {F F' : Hp} {v : V} {i : Int} (h : Dq K F v (.int i)) : Dq K F' v (.int i) := by cases h; exact .int i
theorem pure_law_draw {vs : List V} {H : Hp} {Q : VK} (hs : spDraw K vs H Q E) : t_law_draw K E { nx := fun _ H' => Q .non H', rt := Q } (L2.start ["script", "town", "limit", "at", "left", "number"] vs) H := by
  obtain ⟨A, tn, ns, c, hc, l, hm, ⟨ts, hts, tl, t0, t1⟩, ds, hv, ⟨limit, rfl, hl0, hl1⟩, q⟩ := hs
  have hlen : 0 < ts.length := by omega
  have hc' : c + 1 ≤ 1000000 := hc
  -- the places without the town
  let B := A.filter (fun a => decide (a ≠ tn))
  have hB : ∀ a, a ∈ B → a ∈ A := fun a ha => (List.mem_filter.mp ha).1
  have htB : tn ∉ B := fun h => by have := (List.mem_filter.mp h).2; simp at this
  have sAB : ∀ H : Hp, Same (cut A H) (cut B H) := fun H a o e => by
    obtain ⟨h1, h2⟩ := cut_some e
    rw [cut_out (fun z => h1 (hB a z))]; exact h2
  have lB : ∀ H' : Hp, Keep [tn] H H' → Live B H' := fun H' k a ha e => by
    have hne : a ≠ tn := fun z => htB (z ▸ ha)
    cases q1 : H a with
    | none => exact l a (hB a ha) q1
    | some o => rw [k a o (by simpa using hne) q1] at e; cases e
  match vs, hv with
  | [vs0, vs1, vs2], .cons hs0 (.cons ha0 (.cons hl0' .nil)) =>
    cases hl0'
    have e1 := ha0.adrI
    subst e1
    have env : ∀ (H' : Hp) (us : List Int), Keep [tn] H H' → H' tn = some (.lst (us.map V.int)) → EnvD K (cut B H') [some vs0, some (.ref tn), some (.int limit), none, none, none] [some (scrD ns), some (.list (us.map .int)), some (.int limit), none, none, none] := fun H' us k hu =>
      .cons (dp_same ((keep_cut hm k).trans (sAB H')) hs0) (.cons (.lst (by rw [cut_out htB]; exact hu) (DqAll.ofInts us)) (.cons (.int limit) (.cons trivial (.cons trivial (.cons trivial .nil)))))
    have g0 : ∀ us : List Int, 0 < us.length → atI (us.map PyData.int) 0 = some (.int (us.getD 0 0)) := fun us hu => by
      have : (us.map PyData.int)[0]? = some (.int (us.getD 0 0)) := by
        cases us with
        | nil => simp at hu
        | cons a r => rfl
      exact atI_nat (i := 0) this
    -- the count
    let us := ts.set 0 (ts.getD 0 0 + 1)
    have ul : us.length = ts.length := by simp [us]
    have u0 : us.getD 0 0 = ts.getD 0 0 + 1 := by
      cases ts with
      | nil => simp at hlen
      | cons a r => rfl
    have step1 : EvD K (tOp (rAddU K) (tOp (rIx K) (tVar 1) (tC (.int 0))) (tC (.int 1))) [some (scrD ns), some (.list (ts.map .int)), some (.int limit), none, none, none] (.int (ts.getD 0 0 + 1)) :=
      ev_op (ev_op (ev_var rfl) ev_int (od_ixL (g0 ts hlen))) ev_int od_add
    refine step1 B _ H (lB H Keep.refl) (env H ts Keep.refl hts) _ fun x H1 s1 hx => ?_
    cases hx
    refine ⟨.ref tn, rfl, tn, ts.map V.int, 0, 0, rfl, rfl, s1 _ _ hts, by unfold ixN; rw [List.length_map, if_pos (Int.le_refl 0), if_pos (by omega)]; rfl, ?_⟩
    have eset : (ts.map V.int).set 0 (.int (ts.getD 0 0 + 1)) = us.map V.int := by simp [us, List.map_set]
    rw [eset]
    have k2 : Keep [tn] H (upd H1 tn (.lst (us.map V.int))) := fun a o ha h => by
      rw [upd_ne (by simpa using ha)]; exact s1 a o h
    have hus : upd H1 tn (.lst (us.map V.int)) tn = some (.lst (us.map V.int)) := upd_same
    generalize hH2 : upd H1 tn (.lst (us.map V.int)) = H2 at k2 hus ⊢
    have E2 := env H2 us k2 hus
    have L2' := lB H2 k2
    have towns : ∀ (H' : Hp) (zs : List Int), Keep [tn] H H' → H' tn = some (.lst (zs.map V.int)) → zs.length = ts.length → zs.getD 0 0 = us.getD 0 0 → Town ns tn (c + 1) H' := fun H' zs k hz hl h0 => ⟨zs, hz, by omega, by rw [h0, u0]; omega, by rw [h0, u0]; push_cast; omega⟩
    -- a pure end
    have fin : ∀ (tz : TS) (r : Int), ExS K E tz [some (scrD ns), some (.list (us.map .int)), some (.int limit), none, none, none] (.rt (.int r)) → 0 ≤ r → r < limit → tz { nx := fun _ H' => Q .non H', rt := Q } [some vs0, some (.ref tn), some (.int limit), none, none, none] H2 := fun tz r h h0 h1 =>
      h B _ H2 _ L2' E2 fun v H3 s3 hv => q (.int r) v H3 ⟨limit, r, rfl, rfl, h0, h1⟩ (k2.trans (Keep.of s3)) (towns H3 us (k2.trans (Keep.of s3)) (s3 _ _ hus) ul rfl) (dq_int hv)
    have v1 : EvD K (tOp (rIx K) (tVar 1) (tC (.int 0))) [some (scrD ns), some (.list (us.map .int)), some (.int limit), none, none, none] (.int (us.getD 0 0)) := ev_op (ev_var rfl) ev_int (od_ixL (g0 us (by omega)))
    have hub : 0 ≤ us.getD 0 0 ∧ us.getD 0 0 ≤ 1000001 := by rw [u0]; omega
    by_cases hn : ns = []
    · -- an empty script
      have htest : EvT K (tTest (tOp (rEqD K) (tVar 0) (tLst tNil))) [some (scrD ns), some (.list (us.map .int)), some (.int limit), none, none, none] true :=
        et_test (ev_op (ev_var rfl) (ev_lst ea_nil (by simp)) (by
          have := od_eqScr (K := K) (ns := ns) (e := .list []) sh_nilL
          rw [hn] at this ⊢
          exact this))
      have hret := ed_nat (us.getD 0 0 * us.getD 0 0 * 7 / 3) limit hl0
      refine fin _ _ (xs_seqR (xs_if htest (fun _ => xs_ret (ev_op (ev_op (ev_op (ev_op v1 v1 (od_mul (cmulL (by omega) (by omega)))) ev_int (od_mul (cmulR (by omega) (by omega)))) ev_int (od_div (by omega) (by omega))) (ev_var rfl) (od_mod hl0))) (fun z => by cases z))) hret.1 hret.2
    · have hnl : 0 < ns.length := List.length_pos_iff.mpr hn
      have htest : EvT K (tTest (tOp (rEqD K) (tVar 0) (tLst tNil))) [some (scrD ns), some (.list (us.map .int)), some (.int limit), none, none, none] false :=
        et_test (ev_op (ev_var rfl) (ev_lst ea_nil (by simp)) (by
          have h := od_eqScr (K := K) (ns := ns) (e := .list []) sh_nilL
          cases ns with
          | nil => exact absurd rfl hn
          | cons a r => simpa [PyData.eqv, PyData.eqvAll] using h))
      let j := us.getD 0 0 % (ns.length : Int)
      have hj := ed_nat (us.getD 0 0) (ns.length : Int) (by omega)
      have hjn : j.toNat < ns.length := by show (us.getD 0 0 % (ns.length : Int)).toNat < ns.length; omega
      have hat : atI ns j = some (ns.getD j.toNat 0) := atI_of hj.1 (by simp [hjn])
      have hleft : atI (us.map PyData.int) (1 + j) = some (.int (us.getD (1 + j).toNat 0)) := by
        have h1 : (1 + j).toNat < us.length := by omega
        exact atI_of (by omega) (by simp [h1])
      have s3 : ExS K E (tAsg (tOp rModU (tOp (rIx K) (tVar 1) (tC (.int 0))) (tCB (rLenU K) (tCons (tVar 0) tNil))) (gName 3)) [some (scrD ns), some (.list (us.map .int)), some (.int limit), none, none, none] (.nx [some (scrD ns), some (.list (us.map .int)), some (.int limit), some (.int j), none, none]) :=
        xs_asg (ev_op v1 (ev_cb (ea_cons (ev_var rfl) ea_nil) ca_lenScr) (od_mod (by omega)))
      have s4 : ExS K E (tAsg (tOp (rIx K) (tVar 1) (tOp (rAddU K) (tC (.int 1)) (tVar 3))) (gName 4)) [some (scrD ns), some (.list (us.map .int)), some (.int limit), some (.int j), none, none] (.nx [some (scrD ns), some (.list (us.map .int)), some (.int limit), some (.int j), some (.int (us.getD (1 + j).toNat 0)), none]) :=
        xs_asg (ev_op (ev_var rfl) (ev_op ev_int (ev_var rfl) od_add) (od_ixL hleft))
      have vat : ∀ (x : Option PyData), EvD K (tOp (rIx K) (tVar 0) (tVar 3)) [some (scrD ns), some (.list (us.map .int)), some (.int limit), some (.int j), some (.int (us.getD (1 + j).toNat 0)), x] (.int (ns.getD j.toNat 0)) := fun x => ev_op (ev_var rfl) (ev_var rfl) (od_ixScr hat)
      have v1' : ∀ (x : Option PyData), EvD K (tOp (rIx K) (tVar 1) (tC (.int 0))) [some (scrD ns), some (.list (us.map .int)), some (.int limit), some (.int j), some (.int (us.getD (1 + j).toNat 0)), x] (.int (us.getD 0 0)) := fun x => ev_op (ev_var rfl) ev_int (od_ixL (g0 us (by omega)))
      have ht5 : EvT K (tAnd (tTest (tOp rGeI (tOp (rIx K) (tVar 0) (tVar 3)) (tOp rPowU (tC (.int 10)) (tC (.int 18))))) (tTest (tOp rGtI (tVar 4) (tC (.int 0))))) [some (scrD ns), some (.list (us.map .int)), some (.int limit), some (.int j), some (.int (us.getD (1 + j).toNat 0)), none] (decide ((10 : Int) ^ (18 : Int).toNat ≤ ns.getD j.toNat 0) && decide (0 < us.getD (1 + j).toNat 0)) :=
        et_and (et_test (ev_op (vat none) (ev_op ev_int ev_int (od_pow ⟨by omega, by omega, by decide⟩)) od_ge)) (fun _ => et_test (ev_op (ev_var rfl) ev_int od_gt))
      have s2 : ExS K E (tIfS (tTest (tOp (rEqD K) (tVar 0) (tLst tNil))) (tRet (tOp rModU (tOp rDivU (tOp (rMulU K) (tOp (rMulU K) (tOp (rIx K) (tVar 1) (tC (.int 0))) (tOp (rIx K) (tVar 1) (tC (.int 0)))) (tC (.int 7))) (tC (.int 3))) (tVar 2))) tNext) [some (scrD ns), some (.list (us.map .int)), some (.int limit), none, none, none] (.nx [some (scrD ns), some (.list (us.map .int)), some (.int limit), none, none, none]) :=
        xs_if htest (fun z => by cases z) (fun _ => xs_next)
      cases hb : (decide ((10 : Int) ^ (18 : Int).toNat ≤ ns.getD j.toNat 0) && decide (0 < us.getD (1 + j).toNat 0)) with
      | false =>
        rw [hb] at ht5
        let z1 := (ns.getD j.toNat 0 + 104729 * us.getD 0 0) % 4294967291
        have hz1 := ed_nat (ns.getD j.toNat 0 + 104729 * us.getD 0 0) 4294967291 (by omega)
        let z2 := z1 ^ (5 : Int).toNat % 4294967279
        have hz2 := ed_nat (z1 ^ (5 : Int).toNat) 4294967279 (by omega)
        have hret := ed_nat ((z2 / 64 * 69621 + z2) % 4294967231 / 8) limit hl0
        refine fin _ _ (xs_seq s2 (xs_seq s3 (xs_seq s4 (xs_seq (xs_if ht5 (fun z => by cases z) (fun _ => xs_next)) (xs_seq (xs_asg (d := .int z1) (ev_op (ev_op (vat none) (ev_op ev_int (v1' none) (od_mul (cmulL (by omega) (by omega)))) od_add) ev_int (od_mod (by omega)))) (xs_seq (xs_asg (d := .int z2) (ev_op (ev_op (ev_var rfl) ev_int (od_pow ⟨by omega, by omega, ?_⟩)) ev_int (od_mod (by omega)))) (xs_ret (ev_op (ev_op (ev_op (ev_op (ev_op (ev_op (ev_var rfl) ev_int (od_div (by omega) (by omega))) ev_int (od_mul (cmulR (by omega) (by omega)))) (ev_var rfl) od_add) ev_int (od_mod (by omega))) ev_int (od_div (by omega) (by omega))) (ev_var rfl) (od_mod hl0))))))))) hret.1 hret.2
        have a1 : 0 ≤ z1 ∧ z1 < 4294967291 := hz1
        have : z1.natAbs < 4294967291 := by omega
        exact Nat.lt_trans this (by decide)
      | true =>
        rw [hb] at ht5
        have eat : EvD K (tOp rModU (tOp (rIx K) (tVar 1) (tC (.int 0))) (tCB (rLenU K) (tCons (tVar 0) tNil))) [some (scrD ns), some (.list (us.map .int)), some (.int limit), none, none, none] (.int j) :=
          ev_op v1 (ev_cb (ea_cons (ev_var rfl) ea_nil) ca_lenScr) (od_mod (by omega))
        have elf : EvD K (tOp (rIx K) (tVar 1) (tOp (rAddU K) (tC (.int 1)) (tVar 3))) [some (scrD ns), some (.list (us.map .int)), some (.int limit), some (.int j), none, none] (.int (us.getD (1 + j).toNat 0)) :=
          ev_op (ev_var rfl) (ev_op ev_int (ev_var rfl) od_add) (od_ixL hleft)
        refine htest B _ H2 L2' E2 _ fun H3 sm3 => iteF ?_
        have E3 := E2.same (cut_same sm3)
        refine eat B _ H3 (L2'.same sm3) E3 _ fun x H4 sm4 hx => ?_
        cases hx
        have E4 := (E3.same (cut_same sm4)).set (Dq.int j) 3
        refine elf B _ H4 ((L2'.same sm3).same sm4) E4 _ fun x H5 sm5 hx => ?_
        cases hx
        have E5 := (E4.same (cut_same sm5)).set (Dq.int (us.getD (1 + j).toNat 0)) 4
        have s25 := (sm3.trans sm4).trans sm5
        refine ht5 B _ H5 (L2'.same s25) E5 _ fun H6 sm6 => iteT ?_
        have s26 := s25.trans sm6
        have E6 := E5.same (cut_same sm6)
        have hq : EvD K (tOp rDivU (tVar 4) (tVar 2)) [some (scrD ns), some (.list (us.map .int)), some (.int limit), some (.int j), some (.int (us.getD (1 + j).toNat 0)), none] (.int (us.getD (1 + j).toNat 0 / limit)) := ev_op (ev_var rfl) (ev_var rfl) (od_div hl0 hl1)
        refine hq B _ H6 (L2'.same s26) E6 _ fun x H7 sm7 hx => ?_
        cases hx
        have s27 := s26.trans sm7
        have E7 := E6.same (cut_same sm7)
        refine ⟨.ref tn, rfl, ?_⟩
        have hix : EvD K (tOp (rAddU K) (tC (.int 1)) (tVar 3)) [some (scrD ns), some (.list (us.map .int)), some (.int limit), some (.int j), some (.int (us.getD (1 + j).toNat 0)), none] (.int (1 + j)) := ev_op ev_int (ev_var rfl) od_add
        refine hix B _ H7 (L2'.same s27) E7 _ fun x H8 sm8 hx => ?_
        cases hx
        have s28 := s27.trans sm8
        have hin : (1 + j).toNat < us.length := by omega
        refine ⟨tn, us.map V.int, 1 + j, (1 + j).toNat, rfl, rfl, s28 _ _ hus, ?_, ?_⟩
        · unfold ixN
          rw [List.length_map, if_pos (by omega), if_pos (by omega)]
        have eset2 : (us.map V.int).set (1 + j).toNat (.int (us.getD (1 + j).toNat 0 / limit)) = (us.set (1 + j).toNat (us.getD (1 + j).toNat 0 / limit)).map V.int := by simp [List.map_set]
        rw [eset2]
        have hret := ed_nat (us.getD (1 + j).toNat 0) limit hl0
        refine ⟨_, rfl, _, rfl, _, _, rfl, rfl, hl0, ?_⟩
        have k9 : Keep [tn] H (upd H8 tn (.lst ((us.set (1 + j).toNat (us.getD (1 + j).toNat 0 / limit)).map V.int))) := fun a o ha h => by
          rw [upd_ne (by simpa using ha)]; exact s28 a o (k2 a o ha h)
        refine q (.int _) _ _ ⟨limit, _, rfl, rfl, hret.1, hret.2⟩ k9 (towns _ _ k9 upd_same (by rw [List.length_set]; exact ul) ?_) (.int _)
        have hne : (1 + j).toNat ≠ 0 := by omega
        rw [List.getD_eq_getElem?_getD, List.getElem?_set_ne hne, ← List.getD_eq_getElem?_getD]
end
end Lc

set_option Elab.async false
set_option linter.all false
set_option maxRecDepth 100000
set_option maxHeartbeats 4000000
namespace Lc
open PySem L2 PySem.Spec PyProof.Rows
/-! ### the program's data and what its defs are worth -/
def tI (l : List Int) : PyData := .tuple (l.map .int)
def famD (n : Int) (ss : List (List Int)) : PyData := .tuple [.int n, .tuple (ss.map tI)]
def btw (d : PyData) (lo hi : Int) : Bool := match d with
  | .int i => decide (lo ≤ i) && decide (i ≤ hi)
  | _ => false
def intOf : PyData → Int
  | .int i => i
  | _ => 0
def ascI : List Int → Bool
  | a :: b :: r => decide (a < b) && ascI (b :: r)
  | _ => true
def isLot (n : Int) (d : PyData) : Bool := match d with
  | .tuple ds => !ds.isEmpty && ds.all (fun x => btw x 0 (n - 1)) && ascI (ds.map intOf)
  | _ => false
def tupOf : PyData → List Int
  | .tuple ds => ds.map intOf
  | _ => []
def ascT : List (List Int) → Bool
  | a :: b :: r => HT.lexLt a b && ascT (b :: r)
  | _ => true
def isFam (d : PyData) : Bool := match d with
  | .tuple [.int n, .tuple ss] => decide (1 ≤ n) && decide (n ≤ 7) && decide (1 ≤ ss.length) && decide (ss.length ≤ 8) && ss.all (fun s => isLot n s) && ascT (ss.map tupOf)
  | _ => false
def LotOk (n : Int) (l : List Int) : Prop := l ≠ [] ∧ (∀ x ∈ l, 0 ≤ x ∧ x < n) ∧ ascI l = true
structure FamOk (n : Int) (ss : List (List Int)) : Prop where
  n1 : 1 ≤ n
  n7 : n ≤ 7
  s1 : 1 ≤ ss.length
  s8 : ss.length ≤ 8
  lots : ∀ s ∈ ss, LotOk n s
  asc : ascT ss = true
theorem tI_inj : ∀ {l m : List Int}, tI l = tI m → l = m := fun h => ints_inj (PyData.tuple.inj h)
theorem intOf_ints : ∀ l : List Int, (l.map PyData.int).map intOf = l
  | [] => rfl
  | a :: r => by rw [List.map_cons, List.map_cons, intOf_ints r]; rfl
theorem tupOf_one (l : List Int) : tupOf (tI l) = l := by unfold tI tupOf; exact intOf_ints l
theorem btw_int {i lo hi : Int} : btw (.int i) lo hi = (decide (lo ≤ i) && decide (i ≤ hi)) := rfl
theorem all_btw : ∀ {ds : List PyData} {lo hi : Int}, ds.all (fun x => btw x lo hi) = true → ds = (ds.map intOf).map .int ∧ ∀ x ∈ ds.map intOf, lo ≤ x ∧ x ≤ hi
  | [], _, _, _ => ⟨rfl, fun x h => by simp at h⟩
  | d :: ds, lo, hi, h => by
    have h' : btw d lo hi = true ∧ ds.all (fun x => btw x lo hi) = true := by simpa using h
    obtain ⟨e, k⟩ := all_btw h'.2
    cases d with
    | int i =>
      have hi' : lo ≤ i ∧ i ≤ hi := by simpa [btw] using h'.1
      refine ⟨by rw [List.map_cons, List.map_cons, ← e]; rfl, fun x hx => ?_⟩
      rcases List.mem_cons.mp hx with z | z
      · rw [z]; exact hi'
      · exact k x z
    | _ => simp [btw] at h'
theorem isLot_tI {n : Int} {l : List Int} : isLot n (tI l) = true ↔ LotOk n l := by
  unfold isLot tI LotOk
  simp only [intOf_ints, Bool.and_eq_true]
  constructor
  · rintro ⟨⟨h1, h2⟩, h3⟩
    refine ⟨fun e => by subst e; simp at h1, fun x hx => ?_, h3⟩
    have := (all_btw h2).2
    rw [intOf_ints] at this
    have := this x hx
    omega
  · rintro ⟨h1, h2, h3⟩
    refine ⟨⟨?_, ?_⟩, h3⟩
    · cases l with
      | nil => exact absurd rfl h1
      | cons a r => rfl
    · rw [List.all_eq_true]
      intro x hx
      obtain ⟨i, hi, rfl⟩ := List.mem_map.mp hx
      have := h2 i hi
      simp [btw]; omega
theorem isLot_inv {n : Int} {d : PyData} (h : isLot n d = true) : ∃ l, d = tI l ∧ LotOk n l := by
  cases d with
  | tuple ds =>
    have h0 := h
    unfold isLot at h
    simp only [Bool.and_eq_true] at h
    obtain ⟨e, _⟩ := all_btw h.1.2
    refine ⟨ds.map intOf, by unfold tI; rw [← e], ?_⟩
    have e2 : PyData.tuple ds = tI (ds.map intOf) := by unfold tI; rw [← e]
    rw [e2] at h0
    exact isLot_tI.mp h0
  | _ => simp [isLot] at h
theorem tupOf_tI : ∀ ss : List (List Int), (ss.map tI).map tupOf = ss
  | [] => rfl
  | a :: r => by rw [List.map_cons, List.map_cons, tupOf_tI r, tupOf_one]
theorem isFam_famD {n : Int} {ss : List (List Int)} : isFam (famD n ss) = true ↔ FamOk n ss := by
  unfold famD isFam
  simp only [Bool.and_eq_true, decide_eq_true_eq, List.length_map, tupOf_tI]
  constructor
  · rintro ⟨⟨⟨⟨⟨h1, h2⟩, h3⟩, h4⟩, h5⟩, h6⟩
    exact ⟨h1, h2, h3, h4, fun s hs => isLot_tI.mp (List.all_eq_true.mp h5 _ (List.mem_map.mpr ⟨s, hs, rfl⟩)), h6⟩
  · rintro ⟨h1, h2, h3, h4, h5, h6⟩
    refine ⟨⟨⟨⟨⟨h1, h2⟩, h3⟩, h4⟩, List.all_eq_true.mpr fun x hx => ?_⟩, h6⟩
    obtain ⟨s, hs, rfl⟩ := List.mem_map.mp hx
    exact isLot_tI.mpr (h5 s hs)
theorem all_lots : ∀ {n : Int} {ss : List PyData}, ss.all (fun s => isLot n s) = true → ss = (ss.map tupOf).map tI
  | _, [], _ => rfl
  | n, s :: ss, h => by
    have h' : isLot n s = true ∧ ss.all (fun s => isLot n s) = true := by simpa using h
    obtain ⟨l, rfl, _⟩ := isLot_inv h'.1
    rw [List.map_cons, List.map_cons, ← all_lots h'.2, tupOf_one]
theorem isFam_inv {d : PyData} (h : isFam d = true) : ∃ n ss, d = famD n ss ∧ FamOk n ss := by
  unfold isFam at h
  split at h
  · rename_i n ss
    have h5 : ss.all (fun s => isLot n s) = true := by simp only [Bool.and_eq_true] at h; exact h.1.2
    have e := all_lots h5
    refine ⟨n, ss.map tupOf, by unfold famD; rw [← e], ?_⟩
    apply isFam_famD.mp
    unfold famD
    rw [← e]
    unfold isFam
    exact h
  · cases h
/-! ### promises -/
abbrev Ret (o : Out) (d : PyData) : Prop := o = .rt d
def R_is_between : List PyData → Out → Prop := fun ds o => ∃ d lo hi, (tyName d).isSome = true ∧ ds = [d, .int lo, .int hi] ∧ o = .rt (.bool (btw d lo hi))
def sp_is_between (K : PySem.W.Frag) : Sp := spD K R_is_between
def R_is_lot : List PyData → Out → Prop := fun ds o => ∃ n d, Sh 40 d ∧ ds = [.int n, d] ∧ (∀ l, d = .tuple l → l.length ≤ 10000) ∧ o = .rt (.bool (isLot n d))
def sp_is_lot (K : PySem.W.Frag) : Sp := spD K R_is_lot
/-- short at every depth -/
def Short (d : PyData) : Prop := ∀ l, d = .tuple l → l.length ≤ 10000 ∧ ∀ x ∈ l, ∀ m, x = .tuple m → m.length ≤ 10000 ∧ ∀ y ∈ m, ∀ k, y = .tuple k → k.length ≤ 10000
def R_is_family : List PyData → Out → Prop := fun ds o => ∃ d, Sh 40 d ∧ Short d ∧ ds = [d] ∧ o = .rt (.bool (isFam d))
def sp_is_family (K : PySem.W.Frag) : Sp := spD K R_is_family
def R_check_family (K : PySem.W.Frag) : List PyData → Out → Prop := fun ds o => ∃ d, Sh 40 d ∧ Short d ∧ ds = [d] ∧ o = if isFam d then .rt .none else .ex (He.ga K "InvalidFamily")
def sp_check_family (K : PySem.W.Frag) : Sp := spD K (R_check_family K)
/-! colours -/
def isPM (d : PyData) : Bool := match d with
  | .int i => decide (i = -1) || decide (i = 1)
  | _ => false
def areCol (n : Int) (d : PyData) : Bool := match d with
  | .tuple ds => decide ((ds.length : Int) = n) && ds.all isPM
  | _ => false
def ColOk (n : Int) (c : List Int) : Prop := (c.length : Int) = n ∧ ∀ x ∈ c, x = -1 ∨ x = 1
theorem all_pm : ∀ {ds : List PyData}, ds.all isPM = true → ds = (ds.map intOf).map .int ∧ ∀ x ∈ ds.map intOf, x = -1 ∨ x = 1
  | [], _ => ⟨rfl, fun x h => by simp at h⟩
  | d :: ds, h => by
    have h' : isPM d = true ∧ ds.all isPM = true := by simpa using h
    obtain ⟨e, k⟩ := all_pm h'.2
    cases d with
    | int i =>
      have hi' : i = -1 ∨ i = 1 := by simpa [isPM] using h'.1
      refine ⟨by rw [List.map_cons, List.map_cons, ← e]; rfl, fun x hx => ?_⟩
      rcases List.mem_cons.mp hx with z | z
      · rw [z]; exact hi'
      · exact k x z
    | _ => simp [isPM] at h'
theorem areCol_tI {n : Int} {c : List Int} : areCol n (tI c) = true ↔ ColOk n c := by
  unfold areCol tI ColOk
  simp only [List.length_map, Bool.and_eq_true, decide_eq_true_eq]
  constructor
  · rintro ⟨h1, h2⟩
    have := (all_pm h2).2
    rw [intOf_ints] at this
    exact ⟨h1, this⟩
  · rintro ⟨h1, h2⟩
    refine ⟨h1, List.all_eq_true.mpr fun x hx => ?_⟩
    obtain ⟨i, hi, rfl⟩ := List.mem_map.mp hx
    rcases h2 i hi with e | e <;> subst e <;> rfl
theorem areCol_inv {n : Int} {d : PyData} (h : areCol n d = true) : ∃ c, d = tI c ∧ ColOk n c := by
  cases d with
  | tuple ds =>
    have h0 := h
    unfold areCol at h
    simp only [Bool.and_eq_true] at h
    obtain ⟨e, _⟩ := all_pm h.2
    have e2 : PyData.tuple ds = tI (ds.map intOf) := by unfold tI; rw [← e]
    refine ⟨_, e2, ?_⟩
    rw [e2] at h0
    exact areCol_tI.mp h0
  | _ => simp [areCol] at h
def R_are_colours : List PyData → Out → Prop := fun ds o => ∃ n ss d, Sh 40 d ∧ (∀ l, d = .tuple l → l.length ≤ 10000) ∧ ds = [famD n ss, d] ∧ o = .rt (.bool (areCol n d))
def sp_are_colours (K : PySem.W.Frag) : Sp := spD K R_are_colours
/-- a def of a family and a value: the family is looked at first -/
def R_fam (K : PySem.W.Frag) (R : Int → List (List Int) → List PyData → Out → Prop) : List PyData → Out → Prop := fun ds o => ∃ d r, ds = d :: r ∧ ((Sh 40 d ∧ Short d ∧ isFam d = false ∧ o = .ex (He.ga K "InvalidFamily")) ∨ ∃ n ss, FamOk n ss ∧ d = famD n ss ∧ R n ss r o)
def R_is_colours (K : PySem.W.Frag) : List PyData → Out → Prop := fun ds o => ds.length = 2 ∧ R_fam K (fun n ss r o => ∃ d, Sh 40 d ∧ (∀ l, d = .tuple l → l.length ≤ 10000) ∧ r = [d] ∧ o = .rt (.bool (areCol n d))) ds o
def sp_is_colours (K : PySem.W.Frag) : Sp := spD K (R_is_colours K)
def R_check_both (K : PySem.W.Frag) : List PyData → Out → Prop := fun ds o => ds.length = 2 ∧ R_fam K (fun n ss r o => ∃ d, Sh 40 d ∧ (∀ l, d = .tuple l → l.length ≤ 10000) ∧ r = [d] ∧ o = if areCol n d then .rt .none else .ex (He.ga K "InvalidColours")) ds o
def sp_check_both (K : PySem.W.Frag) : Sp := spD K (R_check_both K)
/-- the sum of a set, of all sets -/
def sumM (c : List Int) (s : List Int) : Int := (s.map fun x => c.getD x.toNat 0).sum
def sumsM (ss : List (List Int)) (c : List Int) : List Int := ss.map (sumM c)
/-- the greatest of numbers that are not negative -/
def maxM (l : List Int) : Int := l.foldr max 0
def minM : List Int → Int
  | [] => 0
  | x :: xs => xs.foldl min x
def unevM (ss : List (List Int)) (c : List Int) : Int := maxM ((sumsM ss c).map fun x => (x.natAbs : Int))
/-- the sets' things have places in c -/
def InC (ss : List (List Int)) (c : List Int) : Prop := ss.length ≤ 1000 ∧ ∀ s ∈ ss, s.length ≤ 1000 ∧ ∀ x ∈ s, 0 ≤ x ∧ x < (c.length : Int)
def R_found_sums : List PyData → Out → Prop := fun ds o => ∃ n ss c, InC ss c ∧ ds = [famD n ss, tI c] ∧ o = .rt (tI (sumsM ss c))
def sp_found_sums (K : PySem.W.Frag) : Sp := spD K R_found_sums
def R_found_uneven : List PyData → Out → Prop := fun ds o => ∃ n ss c, InC ss c ∧ ss ≠ [] ∧ ds = [famD n ss, tI c] ∧ o = .rt (.int (unevM ss c))
def sp_found_uneven (K : PySem.W.Frag) : Sp := spD K R_found_uneven
def R_sums (K : PySem.W.Frag) : List PyData → Out → Prop := fun ds o => ds.length = 2 ∧ R_fam K (fun n ss r o => ∃ d, Sh 40 d ∧ (∀ l, d = .tuple l → l.length ≤ 10000) ∧ r = [d] ∧ o = if areCol n d then .rt (tI (sumsM ss (tupOf d))) else .ex (He.ga K "InvalidColours")) ds o
def sp_sums (K : PySem.W.Frag) : Sp := spD K (R_sums K)
def R_uneven (K : PySem.W.Frag) : List PyData → Out → Prop := fun ds o => ds.length = 2 ∧ R_fam K (fun n ss r o => ∃ d, Sh 40 d ∧ (∀ l, d = .tuple l → l.length ≤ 10000) ∧ r = [d] ∧ o = if areCol n d then .rt (.int (unevM ss (tupOf d))) else .ex (He.ga K "InvalidColours")) ds o
def sp_uneven (K : PySem.W.Frag) : Sp := spD K (R_uneven K)
/-- all rows of so many choices -/
def rowsM (ch : List Int) : Nat → List (List Int)
  | 0 => [[]]
  | k + 1 => (rowsM ch k).flatMap fun r => ch.map fun x => r ++ [x]
def lD (rows : List (List Int)) : PyData := .list (rows.map tI)
def colsM (k : Nat) : List (List Int) := rowsM [-1, 1] k
def R_all_colours : List PyData → Out → Prop := fun ds o => ∃ k : Nat, k ≤ 7 ∧ ds = [.int (k : Int)] ∧ o = .rt (lD (colsM k))
def sp_all_colours (K : PySem.W.Frag) : Sp := spD K R_all_colours
def leastM (n : Int) (ss : List (List Int)) : Int := minM ((colsM n.toNat).map (unevM ss))
/-- a family whose sets may be any (a family within a lot) -/
def FamW (n : Int) (ss : List (List Int)) : Prop := 0 ≤ n ∧ n ≤ 7 ∧ ss ≠ [] ∧ ss.length ≤ 1000 ∧ ∀ s ∈ ss, s.length ≤ 1000 ∧ ∀ x ∈ s, 0 ≤ x ∧ x < n
def R_found_least : List PyData → Out → Prop := fun ds o => ∃ n ss, FamW n ss ∧ ds = [famD n ss] ∧ o = .rt (.int (leastM n ss))
def sp_found_least (K : PySem.W.Frag) : Sp := spD K R_found_least
def R_least_uneven (K : PySem.W.Frag) : List PyData → Out → Prop := fun ds o => ds.length = 1 ∧ R_fam K (fun n ss r o => r = [] ∧ o = .rt (.int (leastM n ss))) ds o
def sp_least_uneven (K : PySem.W.Frag) : Sp := spD K (R_least_uneven K)
def bestM (n : Int) (ss : List (List Int)) : List (List Int) := (colsM n.toNat).filter fun c => decide (unevM ss c = leastM n ss)
def tD (rows : List (List Int)) : PyData := .tuple (rows.map tI)
def R_all_best (K : PySem.W.Frag) : List PyData → Out → Prop := fun ds o => ds.length = 1 ∧ R_fam K (fun n ss r o => r = [] ∧ o = .rt (tD (bestM n ss))) ds o
def sp_all_best (K : PySem.W.Frag) : Sp := spD K (R_all_best K)
end Lc

set_option Elab.async false
set_option linter.all false
namespace Lc
open PySem L2 PySem.Spec PyProof.Rows
def t_is_between (K : PySem.W.Frag) (E : XK) : TS := (tRet (tAndV (tIsi K "int" (tVar 0)) (tAndV (tNotV (tIsi K "bool" (tVar 0))) (tChain rLeI rLeI (tVar 1) (tVar 0) (tVar 2)))))
def t_is_lot (K : PySem.W.Frag) (E : XK) : TS := (tSeq (tIfS (tOr (tNot (tB (tIsi K "tuple" (tVar 1)))) (tOr (tTest (tOp (rEqD K) (tVar 1) (tTup tNil))) (tNot (tB (tCB (rAll K) (tCons (tLc (iSeq K (tVar 1)) (gName 2) tYes (tCall (sp_is_between K) [] E0 (tCons (tVar 2) (tCons (tC (.int 0)) (tCons (tOp rSubU (tVar 0) (tC (.int 1))) tNil)))) [2]) tNil)))))) (tRet (tC (.bl false))) tNext)
  (tRet (tCB (rAll K) (tCons (tLc (iRng1 (tCons (tOp rSubU (tCB (rLenU K) (tCons (tVar 1) tNil)) (tC (.int 1))) tNil)) (gName 3) tYes (tOp (rLtU K) (tOp (rIx K) (tVar 1) (tVar 3)) (tOp (rIx K) (tVar 1) (tOp (rAddU K) (tVar 3) (tC (.int 1))))) [3]) tNil))))
def t_is_family (K : PySem.W.Frag) (E : XK) : TS := (tSeq (tIfS (tOr (tNot (tB (tIsi K "tuple" (tVar 0)))) (tOr (tTest (tOp (rNeD K) (tCB (rLenU K) (tCons (tVar 0) tNil)) (tC (.int 2)))) (tNot (tB (tCall (sp_is_between K) [] E0 (tCons (tOp (rIx K) (tVar 0) (tC (.int 0))) (tCons (tC (.int 1)) (tCons (tC (.int 7)) tNil)))))))) (tRet (tC (.bl false))) tNext)
  (tSeq (tAsg (tVar 0) (gTup K 2 (gCons (gName 1) (gCons (gName 2) gNil))))
  (tSeq (tIfS (tOr (tNot (tB (tIsi K "tuple" (tVar 2)))) (tOr (tNot (tTest (tChain rLeI rLeI (tC (.int 1)) (tCB (rLenU K) (tCons (tVar 2) tNil)) (tC (.int 8))))) (tNot (tB (tCB (rAll K) (tCons (tLc (iSeq K (tVar 2)) (gName 3) tYes (tCall (sp_is_lot K) [] E0 (tCons (tVar 1) (tCons (tVar 3) tNil))) [3]) tNil)))))) (tRet (tC (.bl false))) tNext)
  (tRet (tCB (rAll K) (tCons (tLc (iRng1 (tCons (tOp rSubU (tCB (rLenU K) (tCons (tVar 2) tNil)) (tC (.int 1))) tNil)) (gName 4) tYes (tOp (rLtU K) (tOp (rIx K) (tVar 2) (tVar 4)) (tOp (rIx K) (tVar 2) (tOp (rAddU K) (tVar 4) (tC (.int 1))))) [4]) tNil))))))
def t_check_family (K : PySem.W.Frag) (E : XK) : TS := (tIfS (tNot (tB (tCall (sp_is_family K) [] E0 (tCons (tVar 0) tNil)))) (tRaise (He.ga K "InvalidFamily") E) tNext)
def t_are_colours (K : PySem.W.Frag) (E : XK) : TS := (tSeq (tIfS (tOr (tNot (tB (tIsi K "tuple" (tVar 1)))) (tTest (tOp (rNeD K) (tCB (rLenU K) (tCons (tVar 1) tNil)) (tOp (rIx K) (tVar 0) (tC (.int 0)))))) (tRet (tC (.bl false))) tNext)
  (tRet (tCB (rAll K) (tCons (tLc (iSeq K (tVar 1)) (gName 2) tYes (tAndV (tIsi K "int" (tVar 2)) (tAndV (tNotV (tIsi K "bool" (tVar 2))) (tOp (rInU K) (tVar 2) (tTup (tCons (tUn (rU fun i => .int (-i)) (tC (.int 1))) (tCons (tC (.int 1)) tNil)))))) [2]) tNil))))
def t_is_colours (K : PySem.W.Frag) (E : XK) : TS := (tSeq (tDrop (tCall (sp_check_family K) [] E (tCons (tVar 0) tNil)))
  (tRet (tCall (sp_are_colours K) [] E0 (tCons (tVar 0) (tCons (tVar 1) tNil)))))
def t_check_both (K : PySem.W.Frag) (E : XK) : TS := (tSeq (tDrop (tCall (sp_check_family K) [] E (tCons (tVar 0) tNil)))
  (tIfS (tNot (tB (tCall (sp_are_colours K) [] E0 (tCons (tVar 0) (tCons (tVar 1) tNil))))) (tRaise (He.ga K "InvalidColours") E) tNext))
def t_found_sums (K : PySem.W.Frag) (E : XK) : TS := (tRet (tCB (rTupleOf K) (tCons (tLc (iSeq K (tOp (rIx K) (tVar 0) (tC (.int 1)))) (gName 3) tYes (tCB (rSum K) (tCons (tLc (iSeq K (tVar 3)) (gName 2) tYes (tOp (rIx K) (tVar 1) (tVar 2)) [2]) tNil)) [3]) tNil)))
def t_found_uneven (K : PySem.W.Frag) (E : XK) : TS := (tRet (tCB (rMaxU K) (tCons (tLc (iSeq K (tCall (sp_found_sums K) [] E0 (tCons (tVar 0) (tCons (tVar 1) tNil)))) (gName 2) tYes (tCB rAbsI (tCons (tVar 2) tNil)) [2]) tNil)))
def t_sums (K : PySem.W.Frag) (E : XK) : TS := (tSeq (tDrop (tCall (sp_check_both K) [] E (tCons (tVar 0) (tCons (tVar 1) tNil))))
  (tRet (tCall (sp_found_sums K) [] E0 (tCons (tVar 0) (tCons (tVar 1) tNil)))))
def t_uneven (K : PySem.W.Frag) (E : XK) : TS := (tSeq (tDrop (tCall (sp_check_both K) [] E (tCons (tVar 0) (tCons (tVar 1) tNil))))
  (tRet (tCall (sp_found_uneven K) [] E0 (tCons (tVar 0) (tCons (tVar 1) tNil)))))
def t_all_colours (K : PySem.W.Frag) (E : XK) : TS := (tSeq (tAsg (tLst (tCons (tTup tNil) tNil)) (gName 1))
  (tSeq (tFor (iRng1 (tCons (tVar 0) tNil)) (gName 2) (tAsg (tLc2 (iSeq K (tVar 1)) (gName 3) tYes (iSeq K (tTup (tCons (tUn (rU fun i => .int (-i)) (tC (.int 1))) (tCons (tC (.int 1)) tNil)))) (gName 4) tYes (tOp (rAddU K) (tVar 3) (tTup (tCons (tVar 4) tNil))) [3, 4] [4]) (gName 1)))
  (tRet (tVar 1))))
def t_found_least (K : PySem.W.Frag) (E : XK) : TS := (tRet (tCB (rMinU K) (tCons (tLc (iSeq K (tCall (sp_all_colours K) [] E0 (tCons (tOp (rIx K) (tVar 0) (tC (.int 0))) tNil))) (gName 1) tYes (tCall (sp_found_uneven K) [] E0 (tCons (tVar 0) (tCons (tVar 1) tNil))) [1]) tNil)))
def t_least_uneven (K : PySem.W.Frag) (E : XK) : TS := (tSeq (tDrop (tCall (sp_check_family K) [] E (tCons (tVar 0) tNil)))
  (tRet (tCall (sp_found_least K) [] E0 (tCons (tVar 0) tNil))))
def t_all_best (K : PySem.W.Frag) (E : XK) : TS := (tSeq (tDrop (tCall (sp_check_family K) [] E (tCons (tVar 0) tNil)))
  (tSeq (tAsg (tCall (sp_found_least K) [] E0 (tCons (tVar 0) tNil)) (gName 1))
  (tRet (tCB (rTupleOf K) (tCons (tLc (iSeq K (tCall (sp_all_colours K) [] E0 (tCons (tOp (rIx K) (tVar 0) (tC (.int 0))) tNil))) (gName 2) (tTest (tOp (rEqD K) (tCall (sp_found_uneven K) [] E0 (tCons (tVar 0) (tCons (tVar 2) tNil))) (tVar 1))) (tVar 2) [2]) tNil)))))
end Lc

set_option Elab.async false
set_option linter.all false
set_option maxRecDepth 100000
set_option maxHeartbeats 4000000
namespace Lc
open PySem L2 PySem.Spec PyProof.Rows
section
variable {K : PySem.W.Frag} {ρ : Rho} {ta tb te : TE} {t u : TT} {d e : PyData} {b c : Bool} {E : XK}
theorem et_orT (h : EvT K t ρ true) : EvT K (tOr t u) ρ true := fun A σ H l hE Q q => h A σ H l hE _ fun H1 s1 => iteT (q H1 s1)
theorem et_orF (h : EvT K t ρ false) (h2 : EvT K u ρ c) : EvT K (tOr t u) ρ c := et_to (et_or h fun _ => h2) (Bool.false_or c)
theorem et_andF (h : EvT K t ρ false) : EvT K (tAnd t u) ρ false := fun A σ H l hE Q q => h A σ H l hE _ fun H1 s1 => iteF (q H1 s1)
theorem et_andT (h : EvT K t ρ true) (h2 : EvT K u ρ c) : EvT K (tAnd t u) ρ c := et_to (et_and h fun _ => h2) (Bool.true_and c)
theorem ev_andF (h : EvD K ta ρ (.bool false)) : EvD K (tAndV ta tb) ρ (.bool false) := ev_to (ev_and (c := false) h fun z => by cases z) (by rfl)
theorem ev_andT (h : EvD K ta ρ (.bool true)) (h2 : EvD K tb ρ (.bool c)) : EvD K (tAndV ta tb) ρ (.bool c) := ev_to (ev_and h fun _ => h2) (by rw [Bool.true_and])
theorem ev_orT (h : EvD K ta ρ (.bool true)) : EvD K (tOrV ta tb) ρ (.bool true) := ev_to (ev_or (c := true) h fun z => by cases z) (by rfl)
theorem ev_orF (h : EvD K ta ρ (.bool false)) (h2 : EvD K tb ρ (.bool c)) : EvD K (tOrV ta tb) ρ (.bool c) := ev_to (ev_or h fun _ => h2) (by rw [Bool.false_or])
theorem it_id {wi : TI} {ds : List PyData} (h : ItD K wi ρ ds) : ItD K wi ρ (ds.map fun x => x) := by rw [List.map_id']; exact h
theorem it_eq {wi : TI} {ds es : List PyData} (h : ItD K wi ρ ds) (e : ds = es) : ItD K wi ρ es := e ▸ h
/-- all([..]), tuple([..]), sum([..]), max([..]), min([..]) of a comprehension over one name -/
theorem ev_all {α : Type} {wi : TI} {j : Nat} {vs : List Nat} (xs : List α) (enc : α → PyData) (p : α → Bool) (hi : ItD K wi ρ (xs.map enc)) (hz : xs.length ≤ 100000) (hw : j ∈ vs)
    (he : ∀ x ∈ xs, EvD K te ((wipeD ρ vs).set j (some (enc x))) (.bool (p x))) : EvD K (tCB (rAll K) (tCons (tLc wi (gName j) tYes te vs) tNil)) ρ (.bool (xs.all p)) := by
  have h := ev_lcN xs enc (fun x => .bool (p x)) hi hz hw he
  have e1 : xs.map (fun x => PyData.bool (p x)) = (xs.map p).map .bool := by rw [List.map_map]; rfl
  rw [e1] at h
  have h2 := ev_cb (ea_cons h ea_nil) (ca_all (K := K) (bs := xs.map p))
  have e2 : (xs.map p).all id = xs.all p := by rw [List.all_map]; rfl
  rw [e2] at h2
  exact h2
theorem ev_tupLc {α : Type} {wi : TI} {j : Nat} {vs : List Nat} (xs : List α) (enc : α → PyData) (out : α → PyData) (hi : ItD K wi ρ (xs.map enc)) (hz : xs.length ≤ 100000) (hw : j ∈ vs)
    (he : ∀ x ∈ xs, EvD K te ((wipeD ρ vs).set j (some (enc x))) (out x)) : EvD K (tCB (rTupleOf K) (tCons (tLc wi (gName j) tYes te vs) tNil)) ρ (.tuple (xs.map out)) :=
  ev_cb (ea_cons (ev_lcN xs enc out hi hz hw he) ea_nil) ca_tupleL
theorem ev_tupLcF {α : Type} {wi : TI} {j : Nat} {tt : TT} {vs : List Nat} (xs : List α) (enc : α → PyData) (p : α → Bool) (out : α → PyData) (hi : ItD K wi ρ (xs.map enc)) (hz : xs.length ≤ 100000) (hw : j ∈ vs)
    (ht : ∀ x ∈ xs, EvT K tt ((wipeD ρ vs).set j (some (enc x))) (p x)) (he : ∀ x ∈ xs, p x = true → EvD K te ((wipeD ρ vs).set j (some (enc x))) (out x)) : EvD K (tCB (rTupleOf K) (tCons (tLc wi (gName j) tt te vs) tNil)) ρ (.tuple ((xs.filter p).map out)) :=
  ev_cb (ea_cons (ev_lcNF xs enc p out hi hz hw ht he) ea_nil) ca_tupleL
theorem map_int {α : Type} (xs : List α) (f : α → Int) : xs.map (fun x => PyData.int (f x)) = (xs.map f).map .int := by rw [List.map_map]; rfl
theorem ev_lcI {α : Type} {wi : TI} {j : Nat} {vs : List Nat} (xs : List α) (enc : α → PyData) (f : α → Int) (hi : ItD K wi ρ (xs.map enc)) (hz : xs.length ≤ 100000) (hw : j ∈ vs)
    (he : ∀ x ∈ xs, EvD K te ((wipeD ρ vs).set j (some (enc x))) (.int (f x))) : EvD K (tLc wi (gName j) tYes te vs) ρ (.list ((xs.map f).map .int)) := by
  have h := ev_lcN xs enc (fun x => .int (f x)) hi hz hw he
  rw [map_int] at h
  exact h
theorem ev_sumLc {α : Type} {wi : TI} {j : Nat} {vs : List Nat} (xs : List α) (enc : α → PyData) (f : α → Int) (hi : ItD K wi ρ (xs.map enc)) (hz : xs.length ≤ 100000) (hw : j ∈ vs)
    (he : ∀ x ∈ xs, EvD K te ((wipeD ρ vs).set j (some (enc x))) (.int (f x))) : EvD K (tCB (rSum K) (tCons (tLc wi (gName j) tYes te vs) tNil)) ρ (.int (xs.map f).sum) :=
  ev_cb (ea_cons (ev_lcI xs enc f hi hz hw he) ea_nil) ca_sum
end
end Lc

set_option Elab.async false
set_option linter.all false
set_option maxRecDepth 100000
set_option maxHeartbeats 4000000
namespace Lc
open PySem L2 PySem.Spec PyProof.Rows
section
variable {K : PySem.W.Frag} {E : XK}
/-! ### is_between -/
theorem x_is_between {d : PyData} {lo hi : Int} (hd : (tyName d).isSome = true) : ExS K E (t_is_between K E) [some d, some (.int lo), some (.int hi)] (.rt (.bool (btw d lo hi))) := by
  refine xs_ret ?_
  have h1 := ev_isInt (K := K) (ρ := [some d, some (.int lo), some (.int hi)]) (ta := tVar 0) (ev_var rfl) hd
  have h2 := ev_isBool (K := K) (ρ := [some d, some (.int lo), some (.int hi)]) (ta := tVar 0) (ev_var rfl) hd
  cases d with
  | int i => exact ev_andT h1 (ev_andT (ev_not h2) (ev_chain (ev_var rfl) (ev_var rfl) od_le (fun _ => ev_var rfl) (fun _ => od_le)))
  | bool b => exact ev_andT h1 (ev_andF (ev_not h2))
  | _ => exact ev_andF h1
theorem pure_is_between {vs : List V} {H : Hp} {Q : VK} (hs : sp_is_between K vs H Q E) : t_is_between K E { nx := fun _ H' => Q .non H', rt := Q } (L2.start ["value", "low", "high"] vs) H :=
  sp_body (R := R_is_between) (fun ds o h => by
    obtain ⟨d, lo, hi, hd, rfl, rfl⟩ := h
    exact .inl (x_is_between hd)) hs
/-! ### is_lot -/
theorem asc_range : ∀ l : List Int, (List.range (l.length - 1)).all (fun k => decide (l.getD k 0 < l.getD (k + 1) 0)) = ascI l
  | [] => rfl
  | [a] => rfl
  | a :: b :: r => by
    have ih := asc_range (b :: r)
    have e1 : (a :: b :: r).length - 1 = (b :: r).length - 1 + 1 := by simp
    rw [e1, List.range_succ_eq_map, List.all_cons, List.all_map]
    show (decide (a < b) && _) = (decide (a < b) && ascI (b :: r))
    rw [← ih]
    rfl
theorem x_is_lot {n : Int} {d : PyData} (hd : Sh 40 d) (hz : ∀ l, d = .tuple l → l.length ≤ 10000) : ExS K E (t_is_lot K E) [some (.int n), some d, none, none] (.rt (.bool (isLot n d))) := by
  have h1 := ev_isTuple (K := K) (ρ := [some (.int n), some d, none, none]) (ta := tVar 1) (ev_var rfl) (sh_ty hd)
  cases d with
  | tuple ds =>
    have hl := hz ds rfl
    have hsub : ∀ x ∈ ds, (tyName x).isSome = true := fun x hx => by
      obtain ⟨i, hi⟩ := List.mem_iff_getElem?.mp hx
      have := (canLay_at (by simpa [PyData.canLay0] using hd.1) i x hi).1
      exact sh_ty (n := x.depth) ⟨this, Nat.le_refl _⟩
    have h2 : EvT K (tTest (tOp (rEqD K) (tVar 1) (tTup tNil))) [some (.int n), some (.tuple ds), none, none] ds.isEmpty := by
      have h := et_test (ev_op (ρ := [some (.int n), some (.tuple ds), none, none]) (ev_var (i := 1) rfl) (ev_tup ea_nil (by simp)) (od_eq (K := K) hd (sh_nil (n := 3))))
      refine et_to h ?_
      cases ds <;> simp [PyData.eqv, PyData.eqvAll]
    have h3 := ev_all (K := K) (ρ := [some (.int n), some (.tuple ds), none, none]) (j := 2) (vs := [2]) (te := tCall (sp_is_between K) [] E0 (tCons (tVar 2) (tCons (tC (.int 0)) (tCons (tOp rSubU (tVar 0) (tC (.int 1))) tNil)))) ds (fun x => x) (fun x => btw x 0 (n - 1)) (it_id (it_seqT (ev_var (i := 1) rfl))) (by omega) (by simp)
      (fun x hx => ev_call (ea_cons (ev_var rfl) (ea_cons ev_int (ea_cons (ev_op (ev_var rfl) ev_int od_sub) ea_nil))) ⟨x, 0, n - 1, hsub x hx, rfl, rfl⟩)
    cases he : ds.isEmpty with
    | true =>
      rw [he] at h2
      have e : isLot n (.tuple ds) = false := by simp [isLot, he]
      rw [e]
      exact xs_seqR (xs_if (et_orF (et_not (et_B h1)) (et_orT h2)) (fun _ => xs_ret ev_bl) (fun z => by cases z))
    | false =>
      rw [he] at h2
      cases ha : ds.all (fun x => btw x 0 (n - 1)) with
      | false =>
        rw [ha] at h3
        have e : isLot n (.tuple ds) = false := by simp only [isLot, ha]; simp
        rw [e]
        exact xs_seqR (xs_if (et_orF (et_not (et_B h1)) (et_orF h2 (et_not (et_B h3)))) (fun _ => xs_ret ev_bl) (fun z => by cases z))
      | true =>
        rw [ha] at h3
        obtain ⟨eds, _⟩ := all_btw ha
        generalize hl' : ds.map intOf = l at eds
        have e : isLot n (.tuple ds) = ascI l := by simp only [isLot, he, ha, hl']; simp
        rw [e]
        refine xs_seq (xs_if (et_orF (et_not (et_B h1)) (et_orF h2 (et_not (et_B h3)))) (fun z => by cases z) (fun _ => xs_next)) (xs_ret ?_)
        rw [← asc_range l]
        have hll : l.length = ds.length := by rw [← hl', List.length_map]
        have hlen : EvD K (tOp rSubU (tCB (rLenU K) (tCons (tVar 1) tNil)) (tC (.int 1))) [some (.int n), some (.tuple ds), none, none] (.int ((l.length : Int) - 1)) := by
          rw [hll]
          exact ev_op (ev_cb (ea_cons (ev_var rfl) ea_nil) ca_lenT) ev_int od_sub
        have hit := it_rng1 hlen (by omega)
        have e2 : ((l.length : Int) - 1).toNat = l.length - 1 := by omega
        rw [e2] at hit
        refine ev_all (List.range (l.length - 1)) (fun i => .int (0 + (i : Int))) (fun k => decide (l.getD k 0 < l.getD (k + 1) 0)) hit (by rw [List.length_range]; omega) (by simp) (fun k hk => ?_)
        have hk' : k < l.length - 1 := List.mem_range.mp hk
        have g : ∀ j : Nat, j < l.length → atI ds (j : Int) = some (.int (l.getD j 0)) := fun j hj => by
          refine atI_nat ?_
          rw [eds, List.getElem?_map]
          simp [hj]
        have g1 := g k (by omega)
        have g2 := g (k + 1) (by omega)
        refine ev_op (ev_op (ev_var rfl) (ev_var rfl) (od_ixT ?_)) (ev_op (ev_var rfl) (ev_op (ev_var rfl) ev_int od_add) (od_ixT ?_)) od_lt
        · rw [Int.zero_add]; exact g1
        · rw [Int.zero_add]; exact_mod_cast g2
  | _ =>
    refine xs_seqR (xs_if (et_orT (et_not (et_B h1))) (fun _ => xs_ret ev_bl) (fun z => by cases z))
theorem pure_is_lot {vs : List V} {H : Hp} {Q : VK} (hs : sp_is_lot K vs H Q E) : t_is_lot K E { nx := fun _ H' => Q .non H', rt := Q } (L2.start ["things", "value", "one", "k"] vs) H :=
  sp_body (R := R_is_lot) (fun ds o h => by
    obtain ⟨n, d, hd, rfl, hz, rfl⟩ := h
    exact .inl (x_is_lot hd hz)) hs
end
end Lc

set_option Elab.async false
set_option linter.all false
set_option maxRecDepth 100000
set_option maxHeartbeats 4000000
namespace Lc
open PySem L2 PySem.Spec PyProof.Rows
section
variable {K : PySem.W.Frag} {E : XK}
/-! ### is_family -/
theorem lex_range : ∀ l : List (List Int), (List.range (l.length - 1)).all (fun k => HT.lexLt (l.getD k []) (l.getD (k + 1) [])) = ascT l
  | [] => rfl
  | [a] => rfl
  | a :: b :: r => by
    have ih := lex_range (b :: r)
    have e1 : (a :: b :: r).length - 1 = (b :: r).length - 1 + 1 := by simp
    rw [e1, List.range_succ_eq_map, List.all_cons, List.all_map]
    show (HT.lexLt a b && _) = (HT.lexLt a b && ascT (b :: r))
    rw [← ih]
    rfl
theorem sh_sub {n : Nat} {ds : List PyData} (h : Sh (n + 1) (.tuple ds)) : ∀ x ∈ ds, Sh n x := fun x hx => by
  obtain ⟨i, hi⟩ := List.mem_iff_getElem?.mp hx
  obtain ⟨h1, h2⟩ := canLay_at (by simpa [PyData.canLay0] using h.1) i x hi
  have := h.2
  simp only [PyData.depth] at this
  exact ⟨h1, by omega⟩
theorem sh_ix {n : Nat} {ds : List PyData} (h : Sh (n + 1) (.tuple ds)) {i : Nat} {x : PyData} (e : ds[i]? = some x) : Sh n x := sh_sub h x (List.mem_of_getElem? e)
theorem x_is_family {d : PyData} (hd : Sh 40 d) (hz : Short d) : ExS K E (t_is_family K E) [some d, none, none, none, none] (.rt (.bool (isFam d))) := by
  have h1 := ev_isTuple (K := K) (ρ := [some d, none, none, none, none]) (ta := tVar 0) (ev_var rfl) (sh_ty hd)
  cases d with
  | tuple ds =>
    obtain ⟨hl, hz1⟩ := hz ds rfl
    have h2 : EvT K (tTest (tOp (rNeD K) (tCB (rLenU K) (tCons (tVar 0) tNil)) (tC (.int 2)))) [some (.tuple ds), none, none, none, none] (!decide (ds.length = 2)) := by
      refine et_to (et_test (ev_op (ev_cb (ea_cons (ev_var rfl) ea_nil) ca_lenT) ev_int (od_ne (sh_int (n := 1)) (sh_int (n := 1))))) ?_
      simp only [PyData.eqv]
      by_cases h : ds.length = 2
      · simp [h]
      · simp only [decide_eq_false h]
        have : ((ds.length : Int) == 2) = false := by simpa using (by omega : ¬ (ds.length : Int) = 2)
        rw [this]
    by_cases hlen : ds.length = 2
    · obtain ⟨a, b, rfl⟩ : ∃ a b, ds = [a, b] := by
        match ds, hlen with
        | [a, b], _ => exact ⟨a, b, rfl⟩
      have ha : Sh 39 a := sh_sub hd a (by simp)
      have hb : Sh 39 b := sh_sub hd b (by simp)
      rw [decide_eq_true hlen] at h2
      have h3 : EvD K (tCall (sp_is_between K) [] E0 (tCons (tOp (rIx K) (tVar 0) (tC (.int 0))) (tCons (tC (.int 1)) (tCons (tC (.int 7)) tNil)))) [some (.tuple [a, b]), none, none, none, none] (.bool (btw a 1 7)) :=
        ev_call (ea_cons (ev_op (ev_var rfl) ev_int (od_ixT (d := a) rfl)) (ea_cons ev_int (ea_cons ev_int ea_nil))) ⟨a, 1, 7, sh_ty ha, rfl, rfl⟩
      cases hbt : btw a 1 7 with
      | false =>
        rw [hbt] at h3
        have e : isFam (.tuple [a, b]) = false := by
          unfold isFam
          split
          · rename_i n ss heq
            simp only [PyData.tuple.injEq, List.cons.injEq, and_true] at heq
            obtain ⟨rfl, rfl⟩ := heq
            simp only [btw, Bool.and_eq_false_iff, decide_eq_false_iff_not] at hbt
            simp only [Bool.and_eq_false_iff, decide_eq_false_iff_not]
            rcases hbt with h | h
            · exact .inl (.inl (.inl (.inl (.inl h))))
            · exact .inl (.inl (.inl (.inl (.inr h))))
          · rfl
        rw [e]
        exact xs_seqR (xs_if (et_orF (et_not (et_B h1)) (et_orF h2 (et_not (et_B h3)))) (fun _ => xs_ret ev_bl) (fun z => by cases z))
      | true =>
        rw [hbt] at h3
        obtain ⟨n, rfl⟩ : ∃ n, a = .int n := by
          cases a with
          | int n => exact ⟨n, rfl⟩
          | _ => simp [btw] at hbt
        have hn : 1 ≤ n ∧ n ≤ 7 := by simpa [btw] using hbt
        refine xs_seq (xs_if (et_orF (et_not (et_B h1)) (et_orF h2 (et_not (et_B h3)))) (fun z => by cases z) (fun _ => xs_next)) ?_
        refine xs_seq (xs_asgT (ev_var (i := 0) rfl) tg_two) ?_
        show ExS K E _ [some (.tuple [.int n, b]), some (.int n), some b, none, none] _
        have k1 := ev_isTuple (K := K) (ρ := [some (.tuple [.int n, b]), some (.int n), some b, none, none]) (ta := tVar 2) (ev_var rfl) (sh_ty hb)
        cases b with
        | tuple ss =>
          obtain ⟨hsl, hz2⟩ := hz1 (.tuple ss) (by simp) ss rfl
          have hlen2 : EvD K (tCB (rLenU K) (tCons (tVar 2) tNil)) [some (.tuple [.int n, .tuple ss]), some (.int n), some (.tuple ss), none, none] (.int ss.length) := ev_cb (ea_cons (ev_var rfl) ea_nil) ca_lenT
          have k2 := et_test (ev_chain (ρ := [some (.tuple [.int n, .tuple ss]), some (.int n), some (.tuple ss), none, none]) (ev_int (K := K) (i := 1)) hlen2 od_le (fun _ => ev_int (i := 8)) (fun _ => od_le))
          have k3 := ev_all (K := K) (ρ := [some (.tuple [.int n, .tuple ss]), some (.int n), some (.tuple ss), none, none]) (j := 3) (vs := [3]) (te := tCall (sp_is_lot K) [] E0 (tCons (tVar 1) (tCons (tVar 3) tNil))) ss (fun x => x) (fun x => isLot n x) (it_id (it_seqT (ev_var (i := 2) rfl))) (by omega) (by simp)
            (fun x hx => ev_call (ea_cons (ev_var rfl) (ea_cons (ev_var rfl) ea_nil)) ⟨n, x, (sh_sub hb x hx).mono (by omega), rfl, fun l hl => hz2 x hx l hl, rfl⟩)
          cases hc : (decide ((1 : Int) ≤ (ss.length : Int)) && decide ((ss.length : Int) ≤ 8)) with
          | false =>
            rw [hc] at k2
            have e : isFam (.tuple [.int n, .tuple ss]) = false := by
              unfold isFam
              simp only [Bool.and_eq_false_iff, decide_eq_false_iff_not] at hc ⊢
              rcases hc with h | h
              · exact .inl (.inl (.inl (.inr (by omega))))
              · exact .inl (.inl (.inr (by omega)))
            rw [e]
            exact xs_seqR (xs_if (et_orF (et_not (et_B k1)) (et_orT (et_not k2))) (fun _ => xs_ret ev_bl) (fun z => by cases z))
          | true =>
            rw [hc] at k2
            have hc' : 1 ≤ ss.length ∧ ss.length ≤ 8 := by
              simp only [Bool.and_eq_true, decide_eq_true_eq] at hc
              omega
            cases hal : ss.all (fun x => isLot n x) with
            | false =>
              rw [hal] at k3
              have e : isFam (.tuple [.int n, .tuple ss]) = false := by
                unfold isFam
                simp only [hal, Bool.and_false, Bool.false_and]
              rw [e]
              exact xs_seqR (xs_if (et_orF (et_not (et_B k1)) (et_orF (et_not k2) (et_not (et_B k3)))) (fun _ => xs_ret ev_bl) (fun z => by cases z))
            | true =>
              rw [hal] at k3
              have ess := all_lots hal
              generalize hll : ss.map tupOf = l at ess
              have e : isFam (.tuple [.int n, .tuple ss]) = ascT l := by
                unfold isFam
                simp only [hal, hll, decide_eq_true hn.1, decide_eq_true hn.2, decide_eq_true hc'.1, decide_eq_true hc'.2, Bool.true_and]
              rw [e]
              refine xs_seq (xs_if (et_orF (et_not (et_B k1)) (et_orF (et_not k2) (et_not (et_B k3)))) (fun z => by cases z) (fun _ => xs_next)) (xs_ret ?_)
              rw [← lex_range l]
              have hls : l.length = ss.length := by rw [← hll, List.length_map]
              have hit := it_rng1 (ev_op hlen2 ev_int od_sub) (by omega : -(2 ^ 62) ≤ (ss.length : Int) - 1 ∧ (ss.length : Int) - 1 < 2 ^ 62)
              have e2 : ((ss.length : Int) - 1).toNat = l.length - 1 := by omega
              rw [e2] at hit
              refine ev_all (List.range (l.length - 1)) (fun i => .int (0 + (i : Int))) (fun k => HT.lexLt (l.getD k []) (l.getD (k + 1) [])) hit (by rw [List.length_range]; omega) (by simp) (fun k hk => ?_)
              have hk' : k < l.length - 1 := List.mem_range.mp hk
              have g : ∀ j : Nat, j < l.length → atI ss (j : Int) = some (tI (l.getD j [])) := fun j hj => by
                refine atI_nat ?_
                rw [ess, List.getElem?_map]
                simp [hj]
              have g1 := g k (by omega)
              have g2 := g (k + 1) (by omega)
              refine ev_op (ev_op (ev_var rfl) (ev_var rfl) (od_ixT ?_)) (ev_op (ev_var rfl) (ev_op (ev_var rfl) ev_int od_add) (od_ixT ?_)) od_ltT
              · rw [Int.zero_add]; exact g1
              · rw [Int.zero_add]; exact_mod_cast g2
        | _ => exact xs_seqR (xs_if (et_orT (et_not (et_B k1))) (fun _ => xs_ret ev_bl) (fun z => by cases z))
    · rw [decide_eq_false hlen] at h2
      have e : isFam (.tuple ds) = false := by
        unfold isFam
        split
        · rename_i n ss heq
          have := PyData.tuple.inj heq
          subst this
          simp at hlen
        · rfl
      rw [e]
      exact xs_seqR (xs_if (et_orF (et_not (et_B h1)) (et_orT h2)) (fun _ => xs_ret ev_bl) (fun z => by cases z))
  | _ => exact xs_seqR (xs_if (et_orT (et_not (et_B h1))) (fun _ => xs_ret ev_bl) (fun z => by cases z))
theorem pure_is_family {vs : List V} {H : Hp} {Q : VK} (hs : sp_is_family K vs H Q E) : t_is_family K E { nx := fun _ H' => Q .non H', rt := Q } (L2.start ["value", "things", "sets", "one", "k"] vs) H :=
  sp_body (R := R_is_family) (fun ds o h => by
    obtain ⟨d, hd, hz, rfl, rfl⟩ := h
    exact .inl (x_is_family hd hz)) hs
/-! ### check_family -/
theorem pure_check_family {vs : List V} {H : Hp} {Q : VK} (hs : sp_check_family K vs H Q E) : t_check_family K E { nx := fun _ H' => Q .non H', rt := Q } (L2.start ["value"] vs) H :=
  sp_body (R := R_check_family K) (fun ds o h => by
    obtain ⟨d, hd, hz, rfl, rfl⟩ := h
    have ht : EvT K (tNot (tB (tCall (sp_is_family K) [] E0 (tCons (tVar 0) tNil)))) [some d] (!isFam d) := et_not (et_B (ev_call (ea_cons (ev_var rfl) ea_nil) ⟨d, hd, hz, rfl, rfl⟩))
    cases hf : isFam d with
    | true =>
      rw [hf] at ht
      exact .inr ⟨by simp, [some d], xs_if ht (fun z => by cases z) (fun _ => xs_next)⟩
    | false =>
      rw [hf] at ht
      exact .inl (xs_if ht (fun _ => xs_raiseF) (fun z => by cases z))) hs
end
end Lc

set_option Elab.async false
set_option linter.all false
set_option maxRecDepth 100000
set_option maxHeartbeats 4000000
namespace Lc
open PySem L2 PySem.Spec PyProof.Rows
section
variable {K : PySem.W.Frag} {E : XK}
/-! ### families as data -/
theorem sh_fam {n : Int} {ss : List (List Int)} : Sh 3 (famD n ss) := sh_tup fun d hd => by
  simp only [List.mem_cons, List.mem_nil_iff, or_false] at hd
  rcases hd with rfl | rfl
  · exact sh_int
  · exact sh_tup fun d hd => by
      obtain ⟨s, _, rfl⟩ := List.mem_map.mp hd
      exact sh_tupI
theorem LotOk.len {n : Int} {s : List Int} (h : LotOk n s) (hn : n ≤ 7) : s.length ≤ 7 := by
  obtain ⟨h1, h2, h3⟩ := h
  have aux : ∀ (l : List Int) (a : Int), ascI l = true → (∀ x ∈ l, a ≤ x ∧ x < n) → (l.length : Int) ≤ max 0 (n - a) := by
    intro l
    induction l with
    | nil => intro a _ _; simp; omega
    | cons x r ih =>
      intro a hasc hb
      have hx := hb x (by simp)
      have hr : ascI r = true ∧ ∀ y ∈ r, x + 1 ≤ y := by
        clear ih hb
        induction r generalizing x with
        | nil => exact ⟨rfl, fun y hy => by simp at hy⟩
        | cons y r ih2 =>
          have h' : x < y ∧ ascI (y :: r) = true := by simpa [ascI] using hasc
          by_cases hy : a ≤ y ∧ y < n
          · have := ih2 y h'.2 hy
            exact ⟨h'.2, fun z hz => by
              rcases List.mem_cons.mp hz with e | e
              · omega
              · have := this.2 z e; omega⟩
          · refine ⟨h'.2, fun z hz => ?_⟩
            have key : ∀ (r : List Int) (y : Int), ascI (y :: r) = true → ∀ z ∈ y :: r, y ≤ z := by
              intro r
              induction r with
              | nil => intro y _ z hz; have := List.mem_singleton.mp hz; omega
              | cons w r ih3 =>
                intro y hy z hz
                have h2 : y < w ∧ ascI (w :: r) = true := by simpa [ascI] using hy
                rcases List.mem_cons.mp hz with e | e
                · omega
                · have := ih3 w h2.2 z e; omega
            have := key r y h'.2 z hz
            omega
      have := ih (x + 1) hr.1 (fun y hy => ⟨hr.2 y hy, (hb y (by simp [hy])).2⟩)
      simp only [List.length_cons]
      push_cast
      omega
  have := aux s 0 h3 h2
  omega
theorem FamOk.short {n : Int} {ss : List (List Int)} (h : FamOk n ss) : Short (famD n ss) := fun l hl => by
  have := PyData.tuple.inj hl
  subst this
  refine ⟨by simp, fun x hx m hm => ?_⟩
  simp only [List.mem_cons, List.mem_nil_iff, or_false] at hx
  rcases hx with rfl | rfl
  · cases hm
  · have := PyData.tuple.inj hm
    subst this
    refine ⟨by rw [List.length_map]; have := h.s8; omega, fun y hy k hk => ?_⟩
    obtain ⟨s, hs, rfl⟩ := List.mem_map.mp hy
    have := PyData.tuple.inj hk
    subst this
    have := (h.lots s hs).len h.n7
    rw [List.length_map]; omega
theorem FamOk.isFam {n : Int} {ss : List (List Int)} (h : FamOk n ss) : isFam (famD n ss) = true := isFam_famD.mpr h
theorem FamOk.w {n : Int} {ss : List (List Int)} (h : FamOk n ss) : FamW n ss :=
  ⟨by have := h.n1; omega, h.n7, fun e => by have := h.s1; rw [e] at this; simp at this, by have := h.s8; omega, fun s hs => ⟨by have := (h.lots s hs).len h.n7; omega, (h.lots s hs).2.1⟩⟩
theorem FamW.inC {n : Int} {ss : List (List Int)} {c : List Int} (h : FamW n ss) (hc : (c.length : Int) = n) : InC ss c := ⟨h.2.2.2.1, fun s hs => ⟨(h.2.2.2.2 s hs).1, fun x hx => by have := (h.2.2.2.2 s hs).2 x hx; omega⟩⟩
/-- check_family(family) in a body: it passes, it raises -/
theorem xs_check {ρ : Rho} {i : Nat} {n : Int} {ss : List (List Int)} (h : FamOk n ss) (hi : ρ[i]? = some (some (famD n ss))) : ExS K E (tDrop (tCall (sp_check_family K) [] E (tCons (tVar i) tNil))) ρ (.nx ρ) :=
  xs_drop (ev_call (ea_cons (ev_var hi) ea_nil) ⟨famD n ss, sh_fam.mono (by omega), h.short, rfl, by rw [h.isFam]; rfl⟩)
theorem xs_checkX {ρ : Rho} {i : Nat} {d : PyData} (h1 : Sh 40 d) (h2 : Short d) (h : isFam d = false) (hi : ρ[i]? = some (some d)) : ExS K E (tDrop (tCall (sp_check_family K) [] E (tCons (tVar i) tNil))) ρ (.ex (He.ga K "InvalidFamily")) :=
  xs_dropX (ex_call (ea_cons (ev_var hi) ea_nil) ⟨d, h1, h2, rfl, by rw [h]; rfl⟩)
/-! ### are_colours -/
theorem pm_eqv (i : Int) : ([PyData.int (-1), .int 1].any fun z => PyData.eqv z (.int i)) = isPM (.int i) := by
  simp only [List.any_cons, List.any_nil, PyData.eqv, isPM, Bool.or_false]
  by_cases h1 : i = -1
  · subst h1; rfl
  · by_cases h2 : i = 1
    · subst h2; rfl
    · have a : ((-1 : Int) == i) = false := by simpa using fun z => h1 z.symm
      have b : ((1 : Int) == i) = false := by simpa using fun z => h2 z.symm
      rw [a, b, decide_eq_false h1, decide_eq_false h2]
theorem x_are_colours {n : Int} {ss : List (List Int)} {d : PyData} (hd : Sh 40 d) (hz : ∀ l, d = .tuple l → l.length ≤ 10000) : ExS K E (t_are_colours K E) [some (famD n ss), some d, none] (.rt (.bool (areCol n d))) := by
  have h1 := ev_isTuple (K := K) (ρ := [some (famD n ss), some d, none]) (ta := tVar 1) (ev_var rfl) (sh_ty hd)
  cases d with
  | tuple ds =>
    have hl := hz ds rfl
    have h2 : EvT K (tTest (tOp (rNeD K) (tCB (rLenU K) (tCons (tVar 1) tNil)) (tOp (rIx K) (tVar 0) (tC (.int 0))))) [some (famD n ss), some (.tuple ds), none] (!decide ((ds.length : Int) = n)) := by
      refine et_to (et_test (ev_op (ev_cb (ea_cons (ev_var rfl) ea_nil) ca_lenT) (ev_op (ev_var rfl) ev_int (od_ixT (d := .int n) rfl)) (od_ne (sh_int (n := 1)) (sh_int (n := 1))))) ?_
      simp only [PyData.eqv]
      rw [Bool.beq_eq_decide_eq]
    cases hn : decide ((ds.length : Int) = n) with
    | false =>
      rw [hn] at h2
      have e : areCol n (.tuple ds) = false := by simp only [areCol, hn, Bool.false_and]
      rw [e]
      exact xs_seqR (xs_if (et_orF (et_not (et_B h1)) h2) (fun _ => xs_ret ev_bl) (fun z => by cases z))
    | true =>
      rw [hn] at h2
      have e : areCol n (.tuple ds) = ds.all isPM := by simp only [areCol, hn, Bool.true_and]
      rw [e]
      refine xs_seq (xs_if (et_orF (et_not (et_B h1)) h2) (fun z => by cases z) (fun _ => xs_next)) (xs_ret ?_)
      refine ev_all ds (fun x => x) isPM (it_id (it_seqT (ev_var rfl))) (by omega) (by simp) (fun x hx => ?_)
      have hty : (tyName x).isSome = true := sh_ty (sh_sub hd x hx)
      have k1 := ev_isInt (K := K) (ρ := [some (famD n ss), some (.tuple ds), some x]) (ta := tVar 2) (ev_var rfl) hty
      have k2 := ev_isBool (K := K) (ρ := [some (famD n ss), some (.tuple ds), some x]) (ta := tVar 2) (ev_var rfl) hty
      show EvD K _ [some (famD n ss), some (.tuple ds), some x] _
      cases x with
      | int i =>
        refine ev_andT k1 (ev_andT (ev_not k2) ?_)
        rw [← pm_eqv]
        exact ev_op (ev_var rfl) (ev_tup (ea_cons (ev_un ev_int ud_neg) (ea_cons ev_int ea_nil)) (by simp)) (od_inT (sh_int (n := 1)) (sh_tup (n := 1) fun d hd => by
          simp only [List.mem_cons, List.mem_nil_iff, or_false] at hd
          rcases hd with rfl | rfl <;> exact sh_int))
      | bool b => exact ev_andT k1 (ev_andF (ev_not k2))
      | _ => exact ev_andF k1
  | _ => exact xs_seqR (xs_if (et_orT (et_not (et_B h1))) (fun _ => xs_ret ev_bl) (fun z => by cases z))
theorem pure_are_colours {vs : List V} {H : Hp} {Q : VK} (hs : sp_are_colours K vs H Q E) : t_are_colours K E { nx := fun _ H' => Q .non H', rt := Q } (L2.start ["family", "value", "one"] vs) H :=
  sp_body (R := R_are_colours) (fun ds o h => by
    obtain ⟨n, ss, d, hd, hz, rfl, rfl⟩ := h
    exact .inl (x_are_colours hd hz)) hs
theorem pure_is_colours {vs : List V} {H : Hp} {Q : VK} (hs : sp_is_colours K vs H Q E) : t_is_colours K E { nx := fun _ H' => Q .non H', rt := Q } (L2.start ["family", "value"] vs) H :=
  sp_body (R := R_is_colours K) (fun ds o h => by
    obtain ⟨hl, d, r, rfl, h⟩ := h
    rcases h with ⟨h1, h2, h3, rfl⟩ | ⟨n, ss, hF, rfl, d, hd, hz, rfl, rfl⟩
    · match r, hl with
      | [y], _ => exact .inl (xs_seqX (xs_checkX h1 h2 h3 rfl))
    · exact .inl (xs_seq (xs_check hF rfl) (xs_ret (ev_call (ea_cons (ev_var rfl) (ea_cons (ev_var rfl) ea_nil)) ⟨n, ss, d, hd, hz, rfl, rfl⟩)))) hs
theorem pure_check_both {vs : List V} {H : Hp} {Q : VK} (hs : sp_check_both K vs H Q E) : t_check_both K E { nx := fun _ H' => Q .non H', rt := Q } (L2.start ["family", "colours"] vs) H :=
  sp_body (R := R_check_both K) (fun ds o h => by
    obtain ⟨hl, d, r, rfl, h⟩ := h
    rcases h with ⟨h1, h2, h3, rfl⟩ | ⟨n, ss, hF, rfl, d, hd, hz, rfl, rfl⟩
    · match r, hl with
      | [y], _ => exact .inl (xs_seqX (xs_checkX h1 h2 h3 rfl))
    · have ht : EvT K (tNot (tB (tCall (sp_are_colours K) [] E0 (tCons (tVar 0) (tCons (tVar 1) tNil))))) [some (famD n ss), some d] (!areCol n d) := et_not (et_B (ev_call (ea_cons (ev_var rfl) (ea_cons (ev_var rfl) ea_nil)) ⟨n, ss, d, hd, hz, rfl, rfl⟩))
      cases hf : areCol n d with
      | true =>
        rw [hf] at ht
        exact .inr ⟨by simp, [some (famD n ss), some d], xs_seq (xs_check hF rfl) (xs_if ht (fun z => by cases z) (fun _ => xs_next))⟩
      | false =>
        rw [hf] at ht
        exact .inl (xs_seq (xs_check hF rfl) (xs_if ht (fun _ => xs_raiseF) (fun z => by cases z)))) hs
/-! ### sums -/
theorem ev_fam1 {ρ : Rho} {i : Nat} {n : Int} {ss : List (List Int)} (h : ρ[i]? = some (some (famD n ss))) : EvD K (tOp (rIx K) (tVar i) (tC (.int 1))) ρ (.tuple (ss.map tI)) := ev_op (ev_var h) ev_int (od_ixT rfl)
theorem ev_fam0 {ρ : Rho} {i : Nat} {n : Int} {ss : List (List Int)} (h : ρ[i]? = some (some (famD n ss))) : EvD K (tOp (rIx K) (tVar i) (tC (.int 0))) ρ (.int n) := ev_op (ev_var h) ev_int (od_ixT rfl)
theorem at_tI {c : List Int} {x : Int} (h0 : 0 ≤ x) (h1 : x < (c.length : Int)) : atI (c.map PyData.int) x = some (.int (c.getD x.toNat 0)) := atI_of h0 (by
  have : x.toNat < c.length := by omega
  simp [this])
theorem x_found_sums {n : Int} {ss : List (List Int)} {c : List Int} (h : InC ss c) : ExS K E (t_found_sums K E) [some (famD n ss), some (tI c), none, none] (.rt (tI (sumsM ss c))) := by
  refine xs_ret ?_
  have e : tI (sumsM ss c) = .tuple (ss.map fun s => .int (sumM c s)) := by unfold tI sumsM; rw [List.map_map]; rfl
  rw [e]
  refine ev_tupLc ss tI (fun s => .int (sumM c s)) (it_seqT (ev_fam1 rfl)) (by have := h.1; omega) (by simp) (fun s hs => ?_)
  obtain ⟨hsl, hsx⟩ := h.2 s hs
  exact ev_sumLc s .int (fun x => c.getD x.toNat 0) (it_seqT (ev_var rfl)) (by omega) (by simp) (fun x hx => ev_op (ev_var rfl) (ev_var rfl) (od_ixT (at_tI (hsx x hx).1 (hsx x hx).2)))
theorem pure_found_sums {vs : List V} {H : Hp} {Q : VK} (hs : sp_found_sums K vs H Q E) : t_found_sums K E { nx := fun _ H' => Q .non H', rt := Q } (L2.start ["family", "colours", "thing", "one"] vs) H :=
  sp_body (R := R_found_sums) (fun ds o h => by
    obtain ⟨n, ss, c, hc, rfl, rfl⟩ := h
    exact .inl (x_found_sums hc)) hs
theorem maxM_mem : ∀ {l : List Int}, l ≠ [] → (∀ x ∈ l, 0 ≤ x) → maxM l ∈ l
  | [], h, _ => absurd rfl h
  | [a], _, h => by
    have := h a (by simp)
    show max a 0 ∈ [a]
    have e : max a 0 = a := by omega
    rw [e]; simp
  | a :: b :: r, _, h => by
    have ih := maxM_mem (l := b :: r) (by simp) (fun x hx => h x (by simp [hx]))
    show max a (maxM (b :: r)) ∈ _
    rcases Int.le_total a (maxM (b :: r)) with h1 | h1
    · have e : max a (maxM (b :: r)) = maxM (b :: r) := by omega
      rw [e]; simp [ih]
    · have e : max a (maxM (b :: r)) = a := by omega
      rw [e]; simp
theorem maxM_le : ∀ {l : List Int} {x : Int}, x ∈ l → x ≤ maxM l
  | a :: r, x, h => by
    show x ≤ max a (maxM r)
    rcases List.mem_cons.mp h with e | e
    · omega
    · have := maxM_le e; omega
theorem maxM_nonneg : ∀ l : List Int, 0 ≤ maxM l
  | [] => Int.le_refl 0
  | a :: r => by have := maxM_nonneg r; show 0 ≤ max a (maxM r); omega
theorem minM_mem : ∀ {l : List Int}, l ≠ [] → minM l ∈ l
  | [], h => absurd rfl h
  | a :: r, _ => by
    show r.foldl min a ∈ a :: r
    induction r generalizing a with
    | nil => simp
    | cons b r ih =>
      show r.foldl min (min a b) ∈ _
      have := ih (min a b) (by simp)
      rcases List.mem_cons.mp this with e | e
      · rcases Int.le_total a b with h | h
        · have : min a b = a := by omega
          rw [e, this]; simp
        · have : min a b = b := by omega
          rw [e, this]; simp
      · simp [e]
theorem foldl_min_le : ∀ (r : List Int) (a : Int), r.foldl min a ≤ a ∧ ∀ x ∈ r, r.foldl min a ≤ x
  | [], a => ⟨Int.le_refl _, fun x h => by simp at h⟩
  | b :: r, a => by
    obtain ⟨h1, h2⟩ := foldl_min_le r (min a b)
    refine ⟨by show r.foldl min (min a b) ≤ a; omega, fun x hx => ?_⟩
    show r.foldl min (min a b) ≤ x
    rcases List.mem_cons.mp hx with e | e
    · omega
    · exact h2 x e
theorem minM_le : ∀ {l : List Int} {x : Int}, x ∈ l → minM l ≤ x
  | a :: r, x, h => by
    show r.foldl min a ≤ x
    rcases List.mem_cons.mp h with e | e
    · rw [e]; exact (foldl_min_le r a).1
    · exact (foldl_min_le r a).2 x e
theorem x_found_uneven {n : Int} {ss : List (List Int)} {c : List Int} (h : InC ss c) (hne : ss ≠ []) : ExS K E (t_found_uneven K E) [some (famD n ss), some (tI c), none] (.rt (.int (unevM ss c))) := by
  refine xs_ret (ev_cb (ea_cons (ev_lcI (sumsM ss c) .int (fun x => (x.natAbs : Int)) (it_seqT (ev_call (ea_cons (ev_var rfl) (ea_cons (ev_var rfl) ea_nil)) ⟨n, ss, c, h, rfl, rfl⟩)) ?_ (by simp) (fun x hx => ev_cb (ea_cons (ev_var rfl) ea_nil) ca_abs)) ea_nil) (ca_max (maxM_mem ?_ ?_) (fun x hx => maxM_le hx)))
  · rw [show (sumsM ss c).length = ss.length by simp [sumsM]]; have := h.1; omega
  · simp [sumsM, hne]
  · intro x hx
    obtain ⟨y, _, rfl⟩ := List.mem_map.mp hx
    omega
theorem pure_found_uneven {vs : List V} {H : Hp} {Q : VK} (hs : sp_found_uneven K vs H Q E) : t_found_uneven K E { nx := fun _ H' => Q .non H', rt := Q } (L2.start ["family", "colours", "one"] vs) H :=
  sp_body (R := R_found_uneven) (fun ds o h => by
    obtain ⟨n, ss, c, hc, hne, rfl, rfl⟩ := h
    exact .inl (x_found_uneven hc hne)) hs
end
end Lc

set_option Elab.async false
set_option linter.all false
set_option maxRecDepth 100000
set_option maxHeartbeats 4000000
namespace Lc
open PySem L2 PySem.Spec PyProof.Rows
section
variable {K : PySem.W.Frag} {E : XK}
/-- check_both(family, colours) in a body -/
theorem xs_both {ρ : Rho} {i j : Nat} {n : Int} {ss : List (List Int)} {d : PyData} (h : FamOk n ss) (hi : ρ[i]? = some (some (famD n ss))) (hj : ρ[j]? = some (some d)) (hd : Sh 40 d) (hz : ∀ l, d = .tuple l → l.length ≤ 10000) (hc : areCol n d = true) :
    ExS K E (tDrop (tCall (sp_check_both K) [] E (tCons (tVar i) (tCons (tVar j) tNil)))) ρ (.nx ρ) :=
  xs_drop (ev_call (ea_cons (ev_var hi) (ea_cons (ev_var hj) ea_nil)) ⟨rfl, famD n ss, [d], rfl, .inr ⟨n, ss, h, rfl, d, hd, hz, rfl, by rw [hc]; rfl⟩⟩)
theorem xs_bothX {ρ : Rho} {i j : Nat} {n : Int} {ss : List (List Int)} {d : PyData} (h : FamOk n ss) (hi : ρ[i]? = some (some (famD n ss))) (hj : ρ[j]? = some (some d)) (hd : Sh 40 d) (hz : ∀ l, d = .tuple l → l.length ≤ 10000) (hc : areCol n d = false) :
    ExS K E (tDrop (tCall (sp_check_both K) [] E (tCons (tVar i) (tCons (tVar j) tNil)))) ρ (.ex (He.ga K "InvalidColours")) :=
  xs_dropX (ex_call (ea_cons (ev_var hi) (ea_cons (ev_var hj) ea_nil)) ⟨rfl, famD n ss, [d], rfl, .inr ⟨n, ss, h, rfl, d, hd, hz, rfl, by rw [hc]; rfl⟩⟩)
theorem xs_bothF {ρ : Rho} {i j : Nat} {d e : PyData} (h1 : Sh 40 d) (h2 : Short d) (h3 : isFam d = false) (hi : ρ[i]? = some (some d)) (hj : ρ[j]? = some (some e)) :
    ExS K E (tDrop (tCall (sp_check_both K) [] E (tCons (tVar i) (tCons (tVar j) tNil)))) ρ (.ex (He.ga K "InvalidFamily")) :=
  xs_dropX (ex_call (ea_cons (ev_var hi) (ea_cons (ev_var hj) ea_nil)) ⟨rfl, d, [e], rfl, .inl ⟨h1, h2, h3, rfl⟩⟩)
theorem pure_sums {vs : List V} {H : Hp} {Q : VK} (hs : sp_sums K vs H Q E) : t_sums K E { nx := fun _ H' => Q .non H', rt := Q } (L2.start ["family", "colours"] vs) H :=
  sp_body (R := R_sums K) (fun ds o h => by
    obtain ⟨hl, d, r, rfl, h⟩ := h
    rcases h with ⟨h1, h2, h3, rfl⟩ | ⟨n, ss, hF, rfl, d, hd, hz, rfl, rfl⟩
    · match r, hl with
      | [y], _ => exact .inl (xs_seqX (xs_bothF h1 h2 h3 rfl rfl))
    · cases hc : areCol n d with
      | false => exact .inl (xs_seqX (xs_bothX hF rfl rfl hd hz hc))
      | true =>
        obtain ⟨c, rfl, hok⟩ := areCol_inv hc
        rw [tupOf_one]
        exact .inl (xs_seq (xs_both hF rfl rfl hd hz hc) (xs_ret (ev_call (ea_cons (ev_var rfl) (ea_cons (ev_var rfl) ea_nil)) ⟨n, ss, c, hF.w.inC hok.1, rfl, rfl⟩)))) hs
theorem pure_uneven {vs : List V} {H : Hp} {Q : VK} (hs : sp_uneven K vs H Q E) : t_uneven K E { nx := fun _ H' => Q .non H', rt := Q } (L2.start ["family", "colours"] vs) H :=
  sp_body (R := R_uneven K) (fun ds o h => by
    obtain ⟨hl, d, r, rfl, h⟩ := h
    rcases h with ⟨h1, h2, h3, rfl⟩ | ⟨n, ss, hF, rfl, d, hd, hz, rfl, rfl⟩
    · match r, hl with
      | [y], _ => exact .inl (xs_seqX (xs_bothF h1 h2 h3 rfl rfl))
    · cases hc : areCol n d with
      | false => exact .inl (xs_seqX (xs_bothX hF rfl rfl hd hz hc))
      | true =>
        obtain ⟨c, rfl, hok⟩ := areCol_inv hc
        rw [tupOf_one]
        exact .inl (xs_seq (xs_both hF rfl rfl hd hz hc) (xs_ret (ev_call (ea_cons (ev_var rfl) (ea_cons (ev_var rfl) ea_nil)) ⟨n, ss, c, hF.w.inC hok.1, hF.w.2.2.1, rfl, rfl⟩)))) hs
/-! ### all_colours -/
theorem rowsM_len (ch : List Int) : ∀ k r, r ∈ rowsM ch k → r.length = k
  | 0, r, h => by rw [List.mem_singleton.mp h]; rfl
  | k + 1, r, h => by
    obtain ⟨r', h1, h2⟩ := List.mem_flatMap.mp h
    obtain ⟨x, _, rfl⟩ := List.mem_map.mp h2
    rw [List.length_append, rowsM_len ch k r' h1]; rfl
theorem rowsM_mem (ch : List Int) : ∀ k r, r ∈ rowsM ch k ↔ r.length = k ∧ ∀ x ∈ r, x ∈ ch
  | 0, r => by
    constructor
    · intro h; rw [List.mem_singleton.mp h]; exact ⟨rfl, fun x hx => by simp at hx⟩
    · rintro ⟨h, _⟩; rw [List.eq_nil_of_length_eq_zero h]; simp [rowsM]
  | k + 1, r => by
    constructor
    · intro h
      obtain ⟨r', h1, h2⟩ := List.mem_flatMap.mp h
      obtain ⟨x, hx, rfl⟩ := List.mem_map.mp h2
      obtain ⟨k1, k2⟩ := (rowsM_mem ch k r').mp h1
      refine ⟨by rw [List.length_append, k1]; rfl, fun y hy => ?_⟩
      rcases List.mem_append.mp hy with z | z
      · exact k2 y z
      · rw [List.mem_singleton.mp z]; exact hx
    · rintro ⟨h1, h2⟩
      have hne : r ≠ [] := fun e => by subst e; simp at h1
      have er : r = r.dropLast ++ [r.getLast hne] := (List.dropLast_concat_getLast hne).symm
      rw [er]
      refine List.mem_flatMap.mpr ⟨r.dropLast, (rowsM_mem ch k _).mpr ⟨by rw [List.length_dropLast]; omega, fun x hx => h2 x (List.dropLast_subset r hx)⟩, List.mem_map.mpr ⟨_, h2 _ (List.getLast_mem hne), rfl⟩⟩
theorem rowsM_size (ch : List Int) : ∀ k, (rowsM ch k).length = ch.length ^ k
  | 0 => rfl
  | k + 1 => by
    show ((rowsM ch k).flatMap fun r => ch.map fun x => r ++ [x]).length = _
    have aux : ∀ l : List (List Int), (l.flatMap fun r => ch.map fun x => r ++ [x]).length = l.length * ch.length := by
      intro l
      induction l with
      | nil => simp
      | cons a l ih => rw [List.flatMap_cons, List.length_append, ih, List.length_map, List.length_cons, Nat.succ_mul]; omega
    rw [aux, rowsM_size ch k, Nat.pow_succ]
/-- one turn of the loop that makes the rows -/
theorem ev_rows {ρ : Rho} {tt1 : TE} {i j l : Nat} (ch : List Int) (k : Nat) (hk : k < 7) (hch : ch.length ≤ 2) (hij : j ≠ l) (hi : (wipeD ρ [j, l]).length = ρ.length) (hr : ρ[i]? = some (some (lD (rowsM ch k)))) (hjl : j < ρ.length) (hll : l < ρ.length)
    (ht : ∀ r, EvD K tt1 ((wipeD ρ [j, l]).set j (some r)) (tI ch)) :
    EvD K (tLc2 (iSeq K (tVar i)) (gName j) tYes (iSeq K tt1) (gName l) tYes (tOp (rAddU K) (tVar j) (tTup (tCons (tVar l) tNil))) [j, l] [l]) ρ (lD (rowsM ch (k + 1))) := by
  have e : lD (rowsM ch (k + 1)) = .list ((rowsM ch k).flatMap fun r => (ch.filter (fun _ => true)).map fun x => tI (r ++ [x])) := by
    unfold lD
    congr 1
    show ((rowsM ch k).flatMap fun r => ch.map fun x => r ++ [x]).map tI = _
    rw [List.map_flatMap]
    congr 1
    funext r
    have : ch.filter (fun _ => true) = ch := by simp
    rw [this, List.map_map]; rfl
  rw [e]
  refine ev_lc2 (rowsM ch k) tI (fun r => (wipeD ρ [j, l]).set j (some (tI r))) (fun _ => ch) (fun _ x => .int x) (fun r x => (wipeD ((wipeD ρ [j, l]).set j (some (tI r))) [l]).set l (some (.int x))) (fun _ _ => true) (fun r x => tI (r ++ [x])) (ws := [j]) (ws1 := [l])
    (it_seqL (ev_var hr)) ?_ (by simp) (by simp) (fun r _ => tg_name) (fun r _ => et_yes) (fun r _ => it_seqT (ht _)) (fun r _ x _ => tg_name) (fun r _ x _ => et_yes) (fun r hr x hx _ => ?_)
  · have h1 : ((rowsM ch k).flatMap fun _ => ch).length = (rowsM ch k).length * ch.length := by
      generalize rowsM ch k = z
      induction z with
      | nil => simp
      | cons a z ih => rw [List.flatMap_cons, List.length_append, ih, List.length_cons, Nat.succ_mul]; omega
    rw [h1, rowsM_size]
    have h2 : ch.length ^ k ≤ 2 ^ 7 := Nat.le_trans (Nat.pow_le_pow_left hch k) (Nat.pow_le_pow_right (by omega) (by omega))
    have : ch.length ^ k * ch.length ≤ 2 ^ 7 * 2 := Nat.mul_le_mul h2 hch
    have h3 : (2 : Nat) ^ 7 * 2 = 256 := by decide
    omega
  · have hlen := rowsM_len ch k r hr
    have e2 : tI (r ++ [x]) = .tuple (r.map .int ++ [.int x]) := by unfold tI; rw [List.map_append]; rfl
    rw [e2]
    refine ev_op (ev_var (d := tI r) ?_) (ev_tup (ea_cons (ev_var (d := .int x) ?_) ea_nil) (by simp)) (od_addT (by simp; omega))
    · rw [List.getElem?_set_ne (Ne.symm hij)]
      show ((((wipeD ρ [j, l]).set j (some (tI r))).set l none))[j]? = _
      rw [List.getElem?_set_ne (Ne.symm hij), List.getElem?_set_self (by rw [hi]; exact hjl)]
    · rw [List.getElem?_set_self]
      show l < (((wipeD ρ [j, l]).set j (some (tI r))).set l none).length
      rw [List.length_set, List.length_set, hi]; exact hll
theorem x_all_colours {k : Nat} (hk : k ≤ 7) : ExS K E (t_all_colours K E) [some (.int (k : Int)), none, none, none, none] (.rt (lD (colsM k))) := by
  refine xs_seq (xs_asg (d := lD (colsM 0)) (ev_lst (ea_cons (ev_tup ea_nil (by simp)) ea_nil) (by decide))) ?_
  show ExS K E _ [some (.int (k : Int)), some (lD (colsM 0)), none, none, none] _
  have hit := it_rng1 (K := K) (ρ := [some (.int (k : Int)), some (lD (colsM 0)), none, none, none]) (te := tVar 0) (ev_var rfl) (by omega : -(2 ^ 62) ≤ (k : Int) ∧ (k : Int) < 2 ^ 62)
  rw [Int.toNat_natCast] at hit
  have hfor := xs_for (K := K) (E := E) (g := gName 2) (ts := (tAsg (tLc2 (iSeq K (tVar 1)) (gName 3) tYes (iSeq K (tTup (tCons (tUn (rU fun i => .int (-i)) (tC (.int 1))) (tCons (tC (.int 1)) tNil)))) (gName 4) tYes (tOp (rAddU K) (tVar 3) (tTup (tCons (tVar 4) tNil))) [3, 4] [4]) (gName 1))) (List.range k) (fun i => .int (0 + (i : Int)))
    (fun i => [some (.int (k : Int)), some (lD (colsM i)), if i = 0 then none else some (.int (0 + ((i - 1 : Nat) : Int))), none, none]) (fun i => [some (.int (k : Int)), some (lD (colsM i)), some (.int (0 + (i : Int))), none, none]) (ws := [2]) hit rfl
    (fun i hi => by
      rw [List.length_range] at hi
      rw [List.getElem_range]
      exact tg_name) (fun i hi => by
      rw [List.length_range] at hi
      refine xs_asg (ev_rows [-1, 1] i (by omega) (by simp) (by decide) rfl rfl (by simp) (by simp) (fun r => ?_))
      exact ev_tup (ea_cons (ev_un ev_int ud_neg) (ea_cons ev_int ea_nil)) (by simp))
  rw [List.length_range] at hfor
  exact xs_seq hfor (xs_ret (ev_var rfl))
theorem pure_all_colours {vs : List V} {H : Hp} {Q : VK} (hs : sp_all_colours K vs H Q E) : t_all_colours K E { nx := fun _ H' => Q .non H', rt := Q } (L2.start ["things", "rows", "thing", "row", "one"] vs) H :=
  sp_body (R := R_all_colours) (fun ds o h => by
    obtain ⟨k, hk, rfl, rfl⟩ := h
    exact .inl (x_all_colours hk)) hs
/-! ### found_least, least_uneven, all_best -/
theorem colsM_ne (k : Nat) : colsM k ≠ [] := fun e => by
  have := rowsM_size [-1, 1] k
  rw [show rowsM [-1, 1] k = [] from e] at this
  have h2 : 0 < 2 ^ k := Nat.pow_pos (by omega)
  simp at this
  omega
theorem colsM_small {k : Nat} (h : k ≤ 7) : (colsM k).length ≤ 128 := by
  show (rowsM [-1, 1] k).length ≤ 128
  rw [rowsM_size]
  exact Nat.le_trans (Nat.pow_le_pow_right (by simp) h) (by decide)
theorem ev_cols {ρ : Rho} {i : Nat} {n : Int} {ss : List (List Int)} (h0 : 0 ≤ n) (h7 : n ≤ 7) (h : ρ[i]? = some (some (famD n ss))) : EvD K (tCall (sp_all_colours K) [] E0 (tCons (tOp (rIx K) (tVar i) (tC (.int 0))) tNil)) ρ (lD (colsM n.toNat)) := by
  refine ev_call (ea_cons (ev_fam0 h) ea_nil) ⟨n.toNat, by omega, ?_, rfl⟩
  rw [Int.toNat_of_nonneg h0]
theorem FamW.col {n : Int} {ss : List (List Int)} {c : List Int} (h : FamW n ss) (hc : c ∈ colsM n.toNat) : InC ss c := h.inC (by have := rowsM_len _ _ _ hc; have := h.1; omega)
theorem x_found_least {n : Int} {ss : List (List Int)} (h : FamW n ss) : ExS K E (t_found_least K E) [some (famD n ss), none] (.rt (.int (leastM n ss))) := by
  have hsm := colsM_small (show n.toNat ≤ 7 by have := h.2.1; omega)
  refine xs_ret (ev_cb (ea_cons (ev_lcI (colsM n.toNat) tI (unevM ss) (it_seqL (ev_cols h.1 h.2.1 rfl)) (by omega) (by simp) (fun c hc => ev_call (ea_cons (ev_var rfl) (ea_cons (ev_var rfl) ea_nil)) ⟨n, ss, c, h.col hc, h.2.2.1, rfl, rfl⟩)) ea_nil) (ca_min (minM_mem ?_) (fun x hx => minM_le hx)))
  simp [colsM_ne]
theorem pure_found_least {vs : List V} {H : Hp} {Q : VK} (hs : sp_found_least K vs H Q E) : t_found_least K E { nx := fun _ H' => Q .non H', rt := Q } (L2.start ["family", "colours"] vs) H :=
  sp_body (R := R_found_least) (fun ds o h => by
    obtain ⟨n, ss, hw, rfl, rfl⟩ := h
    exact .inl (x_found_least hw)) hs
theorem pure_least_uneven {vs : List V} {H : Hp} {Q : VK} (hs : sp_least_uneven K vs H Q E) : t_least_uneven K E { nx := fun _ H' => Q .non H', rt := Q } (L2.start ["family"] vs) H :=
  sp_body (R := R_least_uneven K) (fun ds o h => by
    obtain ⟨hl, d, r, rfl, h⟩ := h
    rcases h with ⟨h1, h2, h3, rfl⟩ | ⟨n, ss, hF, rfl, rfl, rfl⟩
    · match r, hl with
      | [], _ => exact .inl (xs_seqX (xs_checkX h1 h2 h3 rfl))
    · exact .inl (xs_seq (xs_check hF rfl) (xs_ret (ev_call (ea_cons (ev_var rfl) ea_nil) ⟨n, ss, hF.w, rfl, rfl⟩)))) hs
theorem x_all_best {n : Int} {ss : List (List Int)} (hF : FamOk n ss) : ExS K E (t_all_best K E) [some (famD n ss), none, none] (.rt (tD (bestM n ss))) := by
  have hw := hF.w
  have hsm := colsM_small (show n.toNat ≤ 7 by have := hw.2.1; omega)
  refine xs_seq (xs_check hF rfl) (xs_seq (xs_asg (ev_call (ea_cons (ev_var rfl) ea_nil) ⟨n, ss, hw, rfl, rfl⟩)) (xs_ret ?_))
  show EvD K _ [some (famD n ss), some (.int (leastM n ss)), none] _
  refine ev_tupLcF (colsM n.toNat) tI (fun c => decide (unevM ss c = leastM n ss)) tI (it_seqL (ev_cols hw.1 hw.2.1 rfl)) (by omega) (by simp) (fun c hc => ?_) (fun c hc _ => ev_var rfl)
  refine et_to (et_test (ev_op (ev_call (ea_cons (ev_var rfl) (ea_cons (ev_var rfl) ea_nil)) ⟨n, ss, c, hw.col hc, hw.2.2.1, rfl, rfl⟩) (ev_var rfl) (od_eq (sh_int (n := 1)) (sh_int (n := 1))))) ?_
  simp only [PyData.eqv]
  rw [Bool.beq_eq_decide_eq]
theorem pure_all_best {vs : List V} {H : Hp} {Q : VK} (hs : sp_all_best K vs H Q E) : t_all_best K E { nx := fun _ H' => Q .non H', rt := Q } (L2.start ["family", "least", "colours"] vs) H :=
  sp_body (R := R_all_best K) (fun ds o h => by
    obtain ⟨hl, d, r, rfl, h⟩ := h
    rcases h with ⟨h1, h2, h3, rfl⟩ | ⟨n, ss, hF, rfl, rfl, rfl⟩
    · match r, hl with
      | [], _ => exact .inl (xs_seqX (xs_checkX h1 h2 h3 rfl))
    · exact .inl (x_all_best hF)) hs
end
end Lc

set_option Elab.async false
set_option linter.all false
set_option maxRecDepth 100000
set_option maxHeartbeats 4000000
namespace Lc
open PySem L2 PySem.Spec PyProof.Rows
/-! ### the order of tuples of ints -/
theorem cmpXs_ints : ∀ a b : List Int, cmpXs (a.map .int) (b.map .int) = .lt ↔ HT.lexLt a b = true
  | [], [] => by simp [cmpXs, HT.lexLt]
  | [], _ :: _ => by simp [cmpXs, HT.lexLt]
  | _ :: _, [] => by simp [cmpXs, HT.lexLt]
  | x :: a, y :: b => by
    have ih := cmpXs_ints a b
    simp only [List.map_cons, cmpXs, cmpX, cmpI, HT.lexLt_cons]
    by_cases h1 : x < y
    · rw [if_pos h1]
      have h2 : ¬ x = y := by omega
      rw [if_neg h2, decide_eq_true h1]; simp
    · by_cases h2 : y < x
      · rw [if_neg h1, if_pos h2]
        have h3 : ¬ x = y := by omega
        rw [if_neg h3, decide_eq_false h1]; simp
      · rw [if_neg h1, if_neg h2]
        have h3 : x = y := by omega
        rw [if_pos h3]; exact ih
theorem ltXs_ints (a b : List Int) : ltXs (a.map .int) (b.map .int) = HT.lexLt a b := by
  unfold ltXs
  cases h : HT.lexLt a b with
  | true => rw [(cmpXs_ints a b).mpr h]; rfl
  | false =>
    have : ¬ cmpXs (a.map .int) (b.map .int) = .lt := fun e => by rw [(cmpXs_ints a b).mp e] at h; cases h
    simpa using this
theorem swo_lex : SrtO.Swo HT.lexLt := ⟨fun x y h => by rw [← ltXs_ints] at h ⊢; exact ltXs_asym _ _ h, fun x y z h1 h2 => by rw [← ltXs_ints] at h1 h2 ⊢; exact ltXs_tr _ _ _ h1 h2⟩
theorem lex_tri : ∀ a b : List Int, a ≠ b → HT.lexLt b a = false → HT.lexLt a b = true
  | [], [], h, _ => absurd rfl h
  | [], _ :: _, _, _ => rfl
  | _ :: _, [], _, h => by simp [HT.lexLt] at h
  | x :: a, y :: b, h, h2 => by
    rw [HT.lexLt_cons] at h2 ⊢
    by_cases e : x = y
    · subst e
      rw [if_pos rfl] at h2 ⊢
      exact lex_tri a b (fun z => h (by rw [z])) h2
    · rw [if_neg (Ne.symm e)] at h2
      rw [if_neg e]
      simp at h2 ⊢
      omega
theorem lex_irr (a : List Int) : HT.lexLt a a = false := swo_lex.refl a
theorem ascT_of : ∀ {l : List (List Int)}, l.Pairwise (fun x y => HT.lexLt x y = true) → ascT l = true
  | [], _ => rfl
  | [_], _ => rfl
  | a :: b :: r, h => by
    have h' := List.pairwise_cons.mp h
    show (HT.lexLt a b && ascT (b :: r)) = true
    rw [h'.1 b (by simp), ascT_of h'.2]; rfl
theorem ascT_pw : ∀ {l : List (List Int)}, ascT l = true → l.Pairwise (fun x y => HT.lexLt x y = true)
  | [], _ => List.Pairwise.nil
  | [_], _ => List.pairwise_singleton _ _
  | a :: b :: r, h => by
    have h' : HT.lexLt a b = true ∧ ascT (b :: r) = true := by simpa [ascT] using h
    have ih := ascT_pw h'.2
    refine List.pairwise_cons.mpr ⟨fun z hz => ?_, ih⟩
    rcases List.mem_cons.mp hz with e | e
    · rw [e]; exact h'.1
    · exact swo_lex.ltle h'.1 (swo_lex.asym _ _ ((List.pairwise_cons.mp ih).1 z e))
theorem sorted_asc {l : List (List Int)} (h : SrtO.Srtd HT.lexLt l) (hn : l.Nodup) : ascT l = true :=
  ascT_of (List.Pairwise.imp₂ (fun a b h1 h2 => lex_tri a b h2 h1) h hn)
theorem isort_map {α β : Type} (lt : β → β → Bool) (f : α → β) : ∀ l : List α, isort lt (l.map f) = (isort (fun x y => lt (f x) (f y)) l).map f
  | [] => rfl
  | x :: xs => by
    show ins lt (f x) (isort lt (xs.map f)) = _
    rw [isort_map lt f xs]
    show ins lt (f x) ((isort (fun x y => lt (f x) (f y)) xs).map f) = (ins (fun x y => lt (f x) (f y)) x (isort (fun x y => lt (f x) (f y)) xs)).map f
    generalize isort (fun x y => lt (f x) (f y)) xs = z
    induction z with
    | nil => rfl
    | cons y z ih =>
      show (if lt (f y) (f x) then f y :: ins lt (f x) (z.map f) else f x :: f y :: z.map f) = List.map f (if lt (f y) (f x) then y :: ins (fun x y => lt (f x) (f y)) x z else x :: y :: z)
      by_cases h : lt (f y) (f x) = true
      · rw [if_pos h, if_pos h, ih]; rfl
      · rw [if_neg h, if_neg h]; rfl
theorem frgs_ints : ∀ l : List Int, frgs (l.map .int) = true
  | [] => rfl
  | a :: r => by simp [frgs, frg, frgs_ints r]
theorem depth_ints : ∀ l : List Int, PyData.depthAll (l.map .int) = 0
  | [] => by simp [PyData.depthAll]
  | a :: r => by simp only [List.map_cons, PyData.depthAll, PyData.depth, depth_ints r]; rfl
theorem cmb_ints : ∀ a b : List Int, cmbAll (a.map .int) (b.map .int) = true
  | [], [] => rfl
  | [], _ :: _ => rfl
  | _ :: _, [] => rfl
  | x :: a, y :: b => by simp [cmbAll, cmb, cmb_ints a b]
section
variable {K : PySem.W.Frag} {E : XK}
theorem ca_sortLD {fs : List (List Int)} (hne : ∀ f ∈ fs, f ≠ []) : CaD K (rSortD K) [lD fs] (lD (isort HT.lexLt fs)) := by
  have h := ca_sortT (K := K) (ds := fs.map fun f => f.map .int) (fun d hd => by
    obtain ⟨f, _, rfl⟩ := List.mem_map.mp hd
    exact ⟨frgs_ints f, by rw [depth_ints]; omega⟩) (fun d hd e he => by
    obtain ⟨f, _, rfl⟩ := List.mem_map.mp hd
    obtain ⟨g, _, rfl⟩ := List.mem_map.mp he
    exact cmb_ints f g) (.inl fun d hd => by
    obtain ⟨f, hf, rfl⟩ := List.mem_map.mp hd
    cases f with
    | nil => exact absurd rfl (hne _ hf)
    | cons i r => exact ⟨i, r.map .int, rfl⟩)
  rw [isort_map] at h
  have e : (fun (x y : List Int) => ltXs (x.map .int) (y.map .int)) = HT.lexLt := by funext x y; exact ltXs_ints x y
  rw [e, List.map_map, List.map_map] at h
  exact h
theorem sh_lD {n : Nat} {fs : List (List Int)} : Sh (n + 2) (lD fs) := sh_lst fun d hd => by
  obtain ⟨s, _, rfl⟩ := List.mem_map.mp hd
  exact sh_tupI
theorem sh_tD {n : Nat} {fs : List (List Int)} : Sh (n + 2) (tD fs) := sh_tup fun d hd => by
  obtain ⟨s, _, rfl⟩ := List.mem_map.mp hd
  exact sh_tupI
theorem sh_tI {n : Nat} {f : List Int} : Sh (n + 1) (tI f) := sh_tupI
/-! equality of such data -/
theorem eqv_ints : ∀ a b : List Int, PyData.eqvAll (a.map .int) (b.map .int) = decide (a = b)
  | [], [] => by simp [PyData.eqvAll]
  | [], _ :: _ => by simp [PyData.eqvAll]
  | _ :: _, [] => by simp [PyData.eqvAll]
  | x :: a, y :: b => by
    simp only [List.map_cons, PyData.eqvAll, PyData.eqv, eqv_ints a b]
    by_cases h : x = y
    · subst h; simp
    · have : (x == y) = false := by simpa using h
      rw [this]; simp [h]
theorem eqv_int (i j : Int) : PyData.eqv (.int i) (.int j) = decide (i = j) := by simp only [PyData.eqv]; rw [Bool.beq_eq_decide_eq]
theorem eqv_bool (i j : Bool) : PyData.eqv (.bool i) (.bool j) = decide (i = j) := by simp only [PyData.eqv]; cases i <;> cases j <;> rfl
theorem eqv_tI (a b : List Int) : PyData.eqv (tI a) (tI b) = decide (a = b) := by
  have : PyData.eqv (tI a) (tI b) = PyData.eqvAll (a.map .int) (b.map .int) := by simp only [tI, PyData.eqv]
  rw [this, eqv_ints]
theorem eqv_tIs : ∀ a b : List (List Int), PyData.eqvAll (a.map tI) (b.map tI) = decide (a = b)
  | [], [] => by simp [PyData.eqvAll]
  | [], _ :: _ => by simp [PyData.eqvAll]
  | _ :: _, [] => by simp [PyData.eqvAll]
  | x :: a, y :: b => by
    simp only [List.map_cons, PyData.eqvAll, eqv_tIs a b, eqv_tI]
    by_cases h : x = y
    · subst h; simp
    · simp [h]
theorem eqv_tD (a b : List (List Int)) : PyData.eqv (tD a) (tD b) = decide (a = b) := by
  have : PyData.eqv (tD a) (tD b) = PyData.eqvAll (a.map tI) (b.map tI) := by simp only [tD, PyData.eqv]
  rw [this, eqv_tIs]
theorem eqv_lD (a b : List (List Int)) : PyData.eqv (lD a) (lD b) = decide (a = b) := by
  have : PyData.eqv (lD a) (lD b) = PyData.eqvAll (a.map tI) (b.map tI) := by simp only [lD, PyData.eqv]
  rw [this, eqv_tIs]
theorem any_tI (a : List Int) : ∀ fs : List (List Int), (fs.map tI).any (fun z => PyData.eqv z (tI a)) = decide (a ∈ fs)
  | [] => by simp
  | f :: fs => by
    rw [List.map_cons, List.any_cons, any_tI a fs, eqv_tI]
    by_cases h : f = a
    · subst h; simp
    · have h2 : ¬ a = f := fun z => h z.symm
      simp [h, h2]
theorem any_ints (a : Int) : ∀ fs : List Int, (fs.map PyData.int).any (fun z => PyData.eqv z (.int a)) = decide (a ∈ fs)
  | [] => by simp
  | f :: fs => by
    rw [List.map_cons, List.any_cons, any_ints a fs, eqv_int]
    by_cases h : f = a
    · subst h; simp
    · have h2 : ¬ a = f := fun z => h z.symm
      simp [h, h2]
/-! ### what is walked, drawn -/
variable {tn : Addr} {ns : List Int} {ρ : Rho} {ta te : TE} {n m : Nat} {ts : TS} {Pr : PyData → Prop}
def ItW (K : PySem.W.Frag) (tn : Addr) (ns : List Int) (wi : TI) (ρ : Rho) (n : Nat) (P : List PyData → Prop) : Prop :=
  ∀ c A σ H, c + n ≤ MD → Live A H → tn ∈ A → Town ns tn c H → EnvD K (cut A H) σ ρ → ∀ R : It → Hp → Prop, (∀ J H1 ds, P ds → Keep [tn] H H1 → Town ns tn (c + n) H1 → ItOk K A J ds H1 → R J H1) → wi σ H R
theorem iw_rng1 {R : PyData → Prop} {B : Nat} (h : EvW K tn ns te ρ n R) (hR : ∀ d, R d → ∃ k : Nat, d = .int (k : Int) ∧ k ≤ B) (hB : B ≤ 100000) : ItW K tn ns (iRng1 (tCons te tNil)) ρ n (fun ds => ∃ k : Nat, k ≤ B ∧ R (.int (k : Int)) ∧ ds = rngD 0 k) := fun c A σ H hc l hm ht hE Q q =>
  h c A σ H hc l hm ht hE _ fun d v H1 r k t hv => by
    obtain ⟨j, rfl, hj⟩ := hR d r
    cases hv
    refine ⟨(j : Int), rfl, by omega, by omega, q _ H1 _ ⟨j, hj, r, rfl⟩ k t ?_⟩
    rw [Int.toNat_natCast]
    exact itok_rng
/-- a for over a drawn range -/
theorem xw_forR {R : PyData → Prop} {Q : Rho → Prop} {B j : Nat} {te : TE} (h : EvW K tn ns te ρ n R) (hR : ∀ d, R d → ∃ k : Nat, d = .int (k : Int) ∧ k ≤ B) (hB : B ≤ 100000) (I : Nat → Rho → Prop) (h0 : I 0 ρ)
    (hb : ∀ i ρ', i < B → I i ρ' → ExW K tn ns ts (ρ'.set j (some (.int (0 + (i : Int))))) m (I (i + 1)) Pr) (hd : ∀ (k : Nat) ρ', R (.int (k : Int)) → I k ρ' → Q ρ') :
    ExW K tn ns (tFor (iRng1 (tCons te tNil)) (gName j) ts) ρ (n + B * m) Q Pr := fun c A σ H D hc l hm ht hE q1 q2 =>
  iw_rng1 h hR hB c A σ H (by omega) l hm ht hE _ fun J H1 ds ⟨k, hk, hRk, eds⟩ k1 t1 hJ => by
    subst eds
    refine ⟨fun i m' σ' H' => m' = k - i ∧ i ≤ k ∧ Keep [tn] H1 H' ∧ Town ns tn (c + n + i * m) H' ∧ ∃ ρ', I i ρ' ∧ EnvD K (cut A H') σ' ρ', ⟨k, by simp, Nat.zero_le _, Keep.refl, by rw [Nat.zero_mul, Nat.add_zero]; exact t1, ρ, h0, hE.same (keep_cut hm k1)⟩, ?_⟩
    rintro i m' σ' H' ⟨rfl, hle, hk', hT, ρ', hI, hE'⟩
    have lv : Live A H' := live_keep (live_keep l k1 t1) hk' hT
    have kA : Keep A H1 H' := hk'.mono (by simpa using hm)
    by_cases hlt : i < k
    · have hstep : (i + 1) * m ≤ B * m := Nat.mul_le_mul_right _ (by omega)
      have hexp : (i + 1) * m = i * m + m := Nat.succ_mul _ _
      refine .inr ⟨hJ.goes i H' (by rw [rngD_len]; exact hlt) kA, fun σ2 H2 => Keep [tn] H1 H2 ∧ Town ns tn (c + n + (i + 1) * m) H2 ∧ ∃ ρ2, I (i + 1) ρ2 ∧ EnvD K (cut A H2) σ2 ρ2, fun σ2 H2 h2 => ⟨k - (i + 1), by omega, rfl, hlt, h2⟩, fun x H2 hy => ?_⟩
      obtain ⟨s2, d, hd', hx⟩ := hJ.yields i H' x H2 A (by rw [rngD_len]; exact hlt) kA lv Off.refl hy
      rw [rngD_at hlt] at hd'
      cases hd'
      refine hb i ρ' (by omega) hI (c + n + i * m) A _ H2 _ (by omega) (lv.same s2) hm (hT.same s2) ((hE'.same (cut_same s2)).set hx j) (fun ρ3 σ3 H3 p3 k3 t3 hE3 => ⟨(hk'.trans (Keep.of s2)).trans k3, t3.mono (by omega), ρ3, p3, hE3⟩) (fun d v H3 p3 k3 t3 hv => ?_)
      exact q2 d v H3 p3 ((k1.trans (hk'.trans (Keep.of s2))).trans k3) (t3.mono (by omega)) hv
    · have e : i = k := by omega
      subst e
      have hstep : i * m ≤ B * m := Nat.mul_le_mul_right _ (by omega)
      exact .inl ⟨by have := hJ.stops H' kA; rw [rngD_len] at this; exact this, q1 ρ' σ' H' (hd i ρ' hRk hI) (k1.trans hk') (hT.mono (by omega)) hE'⟩
/-- a draw -/
theorem ew_draw {E' : XK} {k : Int} {tl : TE} {i j : Nat} (hi : ρ[i]? = some (some (scrD ns))) (hj : ρ[j]? = some (some (adrD tn))) (hk : EvD K tl ρ (.int k)) (h0 : 0 < k) (h1 : k < 1073741824) :
    EvW K tn ns (tCall (spDraw K) [] E' (tCons (tVar i) (tCons (tVar j) (tCons tl tNil)))) ρ 1 (fun d => ∃ r : Int, d = .int r ∧ 0 ≤ r ∧ r < k) := by
  have ha : EaW K tn ns (tCons (tVar i) (tCons (tVar j) (tCons tl tNil))) ρ 0 (· = [scrD ns, adrD tn, .int k]) :=
    ea_consW (ew_pure (ev_var hi)) (ea_consW (ew_pure (ev_var hj)) (ea_consW (ew_pure hk) ea_nilW (R := (· = [.int k])) (by rintro d ds rfl rfl; rfl)) (R := (· = [adrD tn, .int k])) (by rintro d ds rfl rfl; rfl)) (by rintro d ds rfl rfl; rfl)
  have := ew_callT (m := 1) (P := pDraw) (Rt := rDraw) (E := E') (R := fun d => ∃ r : Int, d = .int r ∧ 0 ≤ r ∧ r < k) ha (fun ds e => ⟨[.int k], e, ⟨k, rfl, h0, h1⟩, fun d ⟨l, r, h2, h3, h4, h5⟩ => by
    have : k = l := by simpa using h2
    subst this
    exact ⟨r, h3, h4, h5⟩⟩)
  exact this
end
end Lc

set_option Elab.async false
set_option linter.all false
set_option maxRecDepth 100000
set_option maxHeartbeats 4000000
namespace Lc
open PySem L2 PySem.Spec PyProof.Rows
/-! ### the law's own defs: promises -/
def sp_law_town (K : PySem.W.Frag) : Sp := spTown K
def sp_law_draw (K : PySem.W.Frag) : Sp := spDraw K
def P_law_family : List PyData → Prop := fun ds => ∃ most : Int, ds = [.int most] ∧ 1 ≤ most ∧ most ≤ 7
def R_law_family : List PyData → PyData → Prop := fun ds d => ∃ most n ss, ds = [.int most] ∧ FamOk n ss ∧ n ≤ most ∧ d = famD n ss
def sp_law_family (K : PySem.W.Frag) : Sp := spT K 100 P_law_family R_law_family
def R_law_all : List PyData → Out → Prop := fun ds o => ∃ (k : Nat) (a b : Int), k ≤ 7 ∧ ds = [.int (k : Int), tI [a, b]] ∧ o = .rt (lD (rowsM [a, b] k))
def sp_law_all (K : PySem.W.Frag) : Sp := spD K R_law_all
def sp_law_sums (K : PySem.W.Frag) : Sp := spD K R_found_sums
def sp_law_uneven (K : PySem.W.Frag) : Sp := spD K R_found_uneven
def P_law_hues : List PyData → Prop := fun ds => ∃ n : Int, ds = [.int n] ∧ 0 ≤ n ∧ n ≤ 7
def R_law_hues : List PyData → PyData → Prop := fun ds d => ∃ n c, ds = [.int n] ∧ ColOk n c ∧ d = tI c
def sp_law_hues (K : PySem.W.Frag) : Sp := spT K 7 P_law_hues R_law_hues
def t_law_family (K : PySem.W.Frag) (E : XK) : TS := (tSeq (tPar 3 4 (tCons (tOp (rAddU K) (tC (.int 1)) (tCall (sp_law_draw K) [] E0 (tCons (tVar 0) (tCons (tVar 1) (tCons (tVar 2) tNil))))) (tCons (tLst tNil) tNil)))
  (tSeq (tAsg (tTup (tCons (tOp (rAddU K) (tC (.int 1)) (tCall (sp_law_draw K) [] E0 (tCons (tVar 0) (tCons (tVar 1) (tCons (tC (.int 3)) tNil))))) (tCons (tAndV (tOp rGtI (tVar 3) (tC (.int 2))) (tOp (rEqD K) (tCall (sp_law_draw K) [] E0 (tCons (tVar 0) (tCons (tVar 1) (tCons (tC (.int 2)) tNil)))) (tC (.int 0)))) tNil))) (gTup K 2 (gCons (gName 5) (gCons (gName 6) gNil))))
  (tSeq (tFor (iRng1 (tCons (tOp (rAddU K) (tC (.int 1)) (tCall (sp_law_draw K) [] E0 (tCons (tVar 0) (tCons (tVar 1) (tCons (tC (.int 8)) tNil))))) tNil)) (gName 7) (tSeq (tIfS (tB (tVar 6)) (tSeq (tAsg (tCall (sp_law_draw K) [] E0 (tCons (tVar 0) (tCons (tVar 1) (tCons (tVar 3) tNil)))) (gName 8))
  (tAsg (tCB (rSortD K) (tCons (tLst (tCons (tVar 8) (tCons (tOp rModU (tOp (rAddU K) (tOp (rAddU K) (tVar 8) (tC (.int 1))) (tCall (sp_law_draw K) [] E0 (tCons (tVar 0) (tCons (tVar 1) (tCons (tC (.int 2)) tNil))))) (tVar 3)) tNil))) tNil)) (gName 9))) (tAsg (tLc (iRng1 (tCons (tVar 3) tNil)) (gName 8) (tTest (tOp (rLtU K) (tCall (sp_law_draw K) [] E0 (tCons (tVar 0) (tCons (tVar 1) (tCons (tC (.int 4)) tNil)))) (tVar 5))) (tVar 8) [8]) (gName 9)))
  (tSeq (tAsg (tCB (rTupleOf K) (tCons (tIf (tTest (tOp (rNeD K) (tVar 9) (tLst tNil))) (tVar 9) (tLst (tCons (tCall (sp_law_draw K) [] E0 (tCons (tVar 0) (tCons (tVar 1) (tCons (tVar 3) tNil)))) tNil))) tNil)) (gName 9))
  (tAsg (tOp (rAddU K) (tVar 4) (tIf (tTest (tOp (rNotInU K) (tVar 9) (tVar 4))) (tLst (tCons (tVar 9) tNil)) (tLst tNil))) (gName 4)))))
  (tRet (tTup (tCons (tVar 3) (tCons (tCB (rTupleOf K) (tCons (tCB (rSortD K) (tCons (tVar 4) tNil)) tNil)) tNil)))))))
def t_law_all (K : PySem.W.Frag) (E : XK) : TS := (tSeq (tAsg (tLst (tCons (tTup tNil) tNil)) (gName 2))
  (tSeq (tFor (iRng1 (tCons (tVar 0) tNil)) (gName 3) (tSeq (tAsg (tLst tNil) (gName 4))
  (tSeq (tFor (iSeq K (tVar 2)) (gName 5) (tAsg (tOp (rAddU K) (tVar 4) (tLc (iSeq K (tVar 1)) (gName 6) tYes (tOp (rAddU K) (tVar 5) (tTup (tCons (tVar 6) tNil))) [6])) (gName 4)))
  (tAsg (tVar 4) (gName 2)))))
  (tRet (tVar 2))))
def t_law_sums (K : PySem.W.Frag) (E : XK) : TS := (tRet (tCB (rTupleOf K) (tCons (tLc (iSeq K (tOp (rIx K) (tVar 0) (tC (.int 1)))) (gName 3) tYes (tCB (rSum K) (tCons (tLc (iSeq K (tVar 3)) (gName 2) tYes (tOp (rIx K) (tVar 1) (tVar 2)) [2]) tNil)) [3]) tNil)))
def t_law_uneven (K : PySem.W.Frag) (E : XK) : TS := (tRet (tCB (rMaxU K) (tCons (tLc (iSeq K (tCall (sp_law_sums K) [] E0 (tCons (tVar 0) (tCons (tVar 1) tNil)))) (gName 2) tYes (tCB rAbsI (tCons (tVar 2) tNil)) [2]) tNil)))
def t_law_hues (K : PySem.W.Frag) (E : XK) : TS := (tRet (tCB (rTupleOf K) (tCons (tLc (iRng1 (tCons (tVar 2) tNil)) (gName 3) tYes (tOp rSubU (tOp (rMulU K) (tC (.int 2)) (tCall (sp_law_draw K) [] E0 (tCons (tVar 0) (tCons (tVar 1) (tCons (tC (.int 2)) tNil))))) (tC (.int 1))) [3]) tNil)))
end Lc

set_option Elab.async false
set_option linter.all false
set_option maxRecDepth 100000
set_option maxHeartbeats 4000000
namespace Lc
open PySem L2 PySem.Spec PyProof.Rows
section
variable {K : PySem.W.Frag} {E : XK}
theorem pure_law_sums {vs : List V} {H : Hp} {Q : VK} (hs : sp_law_sums K vs H Q E) : t_law_sums K E { nx := fun _ H' => Q .non H', rt := Q } (L2.start ["family", "hues", "k", "one"] vs) H :=
  sp_body (R := R_found_sums) (fun ds o h => by
    obtain ⟨n, ss, c, hc, rfl, rfl⟩ := h
    exact .inl (x_found_sums hc)) hs
theorem pure_law_uneven {vs : List V} {H : Hp} {Q : VK} (hs : sp_law_uneven K vs H Q E) : t_law_uneven K E { nx := fun _ H' => Q .non H', rt := Q } (L2.start ["family", "hues", "one"] vs) H :=
  sp_body (R := R_found_uneven) (fun ds o h => by
    obtain ⟨n, ss, c, hc, hne, rfl, rfl⟩ := h
    exact .inl (x_found_uneven hc hne)) hs
/-! ### _law_all -/
theorem x_law_all {k : Nat} {a b : Int} (hk : k ≤ 7) : ExS K E (t_law_all K E) [some (.int (k : Int)), some (tI [a, b]), none, none, none, none, none] (.rt (lD (rowsM [a, b] k))) := by
  refine xs_seq (xs_asg (d := lD (rowsM [a, b] 0)) (ev_lst (ea_cons (ev_tup ea_nil (by simp)) ea_nil) (by show 1 ≤ 100000; decide))) ?_
  show ExS K E _ [some (.int (k : Int)), some (tI [a, b]), some (lD (rowsM [a, b] 0)), none, none, none, none] _
  have hit := it_rng1 (K := K) (ρ := [some (.int (k : Int)), some (tI [a, b]), some (lD (rowsM [a, b] 0)), none, none, none, none]) (te := tVar 0) (ev_var rfl) (by omega : -(2 ^ 62) ≤ (k : Int) ∧ (k : Int) < 2 ^ 62)
  rw [Int.toNat_natCast] at hit
  -- the state between two turns; what the inner names hold is not told
  let r : Nat → Rho := fun i => [some (.int (k : Int)), some (tI [a, b]), some (lD (rowsM [a, b] i)), none, none, none, none]
  have weak : ∀ {o1 o2 o3 o4 : Option PyData} {i : Nat} {ts : TS} {o : Out}, ExS K E ts (r i) o → ExS K E ts [some (.int (k : Int)), some (tI [a, b]), some (lD (rowsM [a, b] i)), o1, o2, o3, o4] o := fun {o1 o2 o3 o4 i ts o} h A σ H D l hE c => by
    refine h A σ H D l ?_ c
    have h3 := ((((hE.keep 3).keep 4).keep 5).keep 6)
    exact h3
  have turn : ∀ i, i < k → ∃ o1 o2 o3 o4, ExS K E (tSeq (tAsg (tLst tNil) (gName 4)) (tSeq (tFor (iSeq K (tVar 2)) (gName 5) (tAsg (tOp (rAddU K) (tVar 4) (tLc (iSeq K (tVar 1)) (gName 6) tYes (tOp (rAddU K) (tVar 5) (tTup (tCons (tVar 6) tNil))) [6])) (gName 4))) (tAsg (tVar 4) (gName 2))))
      [some (.int (k : Int)), some (tI [a, b]), some (lD (rowsM [a, b] i)), some (.int (0 + (i : Int))), none, none, none] (.nx [some (.int (k : Int)), some (tI [a, b]), some (lD (rowsM [a, b] (i + 1))), o1, o2, o3, o4]) := by
    intro i hi
    have hsz : (rowsM [a, b] i).length ≤ 128 := by
      rw [rowsM_size]
      exact Nat.le_trans (Nat.pow_le_pow_right (by simp) (show i ≤ 7 by omega)) (by show 2 ^ 7 ≤ 128; decide)
    let part : Nat → List (List Int) := fun j => ((rowsM [a, b] i).take j).flatMap fun r => [a, b].map fun x => r ++ [x]
    have hpl : ∀ j, (part j).length ≤ 256 := fun j => by
      have aux : ∀ l : List (List Int), (l.flatMap fun r => [a, b].map fun x => r ++ [x]).length = 2 * l.length := by
        intro l
        induction l with
        | nil => rfl
        | cons z l ih => rw [List.flatMap_cons, List.length_append, ih, List.length_map, List.length_cons]; simp; omega
      have : (part j).length = 2 * ((rowsM [a, b] i).take j).length := aux _
      rw [this, List.length_take]; omega
    have hfor := xs_for (K := K) (E := E) (ρ := [some (.int (k : Int)), some (tI [a, b]), some (lD (rowsM [a, b] i)), some (.int (0 + (i : Int))), some (lD []), none, none]) (g := gName 5) (ts := (tAsg (tOp (rAddU K) (tVar 4) (tLc (iSeq K (tVar 1)) (gName 6) tYes (tOp (rAddU K) (tVar 5) (tTup (tCons (tVar 6) tNil))) [6])) (gName 4))) (rowsM [a, b] i) tI
      (fun j => [some (.int (k : Int)), some (tI [a, b]), some (lD (rowsM [a, b] i)), some (.int (0 + (i : Int))), some (lD (part j)), if j = 0 then none else some (tI ((rowsM [a, b] i).getD (j - 1) [])), none])
      (fun j => [some (.int (k : Int)), some (tI [a, b]), some (lD (rowsM [a, b] i)), some (.int (0 + (i : Int))), some (lD (part j)), some (tI ((rowsM [a, b] i).getD j [])), none]) (ws := [5]) (wi := iSeq K (tVar 2)) (it_seqL (ev_var rfl)) (by simp [part])
      (fun j hj => by
        have : (rowsM [a, b] i)[j] = (rowsM [a, b] i).getD j [] := by simp [hj]
        rw [this]
        exact tg_name) (fun j hj => by
        have hlen : ((rowsM [a, b] i).getD j []).length = i := rowsM_len [a, b] i _ (by simp [hj])
        have h1 : EvD K (tLc (iSeq K (tVar 1)) (gName 6) tYes (tOp (rAddU K) (tVar 5) (tTup (tCons (tVar 6) tNil))) [6]) [some (.int (k : Int)), some (tI [a, b]), some (lD (rowsM [a, b] i)), some (.int (0 + (i : Int))), some (lD (part j)), some (tI ((rowsM [a, b] i).getD j [])), none] (.list ([a, b].map fun x => tI ((rowsM [a, b] i).getD j [] ++ [x]))) :=
          ev_lcN [a, b] .int (fun x => tI ((rowsM [a, b] i).getD j [] ++ [x])) (it_seqT (ev_var rfl)) (by simp) (by simp) (fun x _ => by
            have e2 : tI ((rowsM [a, b] i).getD j [] ++ [x]) = .tuple (((rowsM [a, b] i).getD j []).map .int ++ [.int x]) := by unfold tI; rw [List.map_append]; rfl
            rw [e2]
            exact ev_op (ev_var rfl) (ev_tup (ea_cons (ev_var rfl) ea_nil) (by simp)) (od_addT (by rw [List.length_map, hlen]; simp; omega)))
        have h2 := xs_asg (i := 4) (E := E) (ev_op (ev_var (i := 4) rfl) h1 (od_addL (by have := hpl j; simp; omega)))
        have e3 : part (j + 1) = part j ++ [a, b].map fun x => (rowsM [a, b] i).getD j [] ++ [x] := by
          show ((rowsM [a, b] i).take (j + 1)).flatMap _ = _
          rw [List.take_add_one, List.flatMap_append]
          have : (rowsM [a, b] i)[j]? = some ((rowsM [a, b] i).getD j []) := by simp [hj]
          rw [this]
          simp [part]
        have e4 : lD (part (j + 1)) = .list ((part j).map tI ++ [a, b].map fun x => tI ((rowsM [a, b] i).getD j [] ++ [x])) := by
          unfold lD
          rw [e3, List.map_append, List.map_map]; rfl
        rw [e4]
        exact h2)
    have hall : part (rowsM [a, b] i).length = rowsM [a, b] (i + 1) := by show List.flatMap _ _ = _; rw [List.take_length]; rfl
    rw [hall] at hfor
    exact ⟨_, _, _, _, xs_seq (xs_asg (d := lD []) (ev_lst ea_nil (by simp))) (xs_seq hfor (xs_asg (ev_var rfl)))⟩
  have hfor := xs_for (K := K) (E := E) (ρ := [some (.int (k : Int)), some (tI [a, b]), some (lD (rowsM [a, b] 0)), none, none, none, none]) (g := gName 3) (ts := (tSeq (tAsg (tLst tNil) (gName 4)) (tSeq (tFor (iSeq K (tVar 2)) (gName 5) (tAsg (tOp (rAddU K) (tVar 4) (tLc (iSeq K (tVar 1)) (gName 6) tYes (tOp (rAddU K) (tVar 5) (tTup (tCons (tVar 6) tNil))) [6])) (gName 4))) (tAsg (tVar 4) (gName 2))))) (List.range k) (fun i => .int (0 + (i : Int)))
    r (fun i => [some (.int (k : Int)), some (tI [a, b]), some (lD (rowsM [a, b] i)), some (.int (0 + (i : Int))), none, none, none]) (ws := [3]) hit rfl
    (fun i hi => by
      rw [List.length_range] at hi
      rw [List.getElem_range]
      exact tg_name) (fun i hi => by
      rw [List.length_range] at hi
      obtain ⟨o1, o2, o3, o4, h⟩ := turn i hi
      exact fun A σ H D l hE c => h A σ H D l hE fun σ' H' s hE' => c σ' H' s ((((hE'.keep 3).keep 4).keep 5).keep 6))
  rw [List.length_range] at hfor
  exact xs_seq hfor (xs_ret (ev_var rfl))
theorem pure_law_all {vs : List V} {H : Hp} {Q : VK} (hs : sp_law_all K vs H Q E) : t_law_all K E { nx := fun _ H' => Q .non H', rt := Q } (L2.start ["things", "choices", "rows", "turn", "longer", "row", "one"] vs) H :=
  sp_body (R := R_law_all) (fun ds o h => by
    obtain ⟨k, a, b, hk, rfl, rfl⟩ := h
    exact .inl (x_law_all hk)) hs
/-! ### _law_hues -/
theorem lcr_len {α : Type} {R : α → Option PyData → Prop} (h : ∀ x, ¬ R x none) : ∀ {xs : List α} {ds : List PyData}, LcR R xs ds → ds.length = xs.length
  | [], ds, e => by cases e; rfl
  | x :: xs, ds, .inl ⟨e, ds', h1, h2, h3⟩ => by subst h2; simp [lcr_len h h3]
  | x :: xs, ds, .inr ⟨h1, _⟩ => absurd h1 (h x)
theorem lcr_all {α : Type} {R : α → Option PyData → Prop} {P : PyData → Prop} (h : ∀ x d, R x (some d) → P d) : ∀ {xs : List α} {ds : List PyData}, LcR R xs ds → ∀ d ∈ ds, P d
  | [], ds, e => by cases e; intro d hd; simp at hd
  | x :: xs, ds, .inl ⟨e, ds', h1, h2, h3⟩ => by
    subst h2
    intro d hd
    rcases List.mem_cons.mp hd with z | z
    · rw [z]; exact h x e h1
    · exact lcr_all h h3 d z
  | x :: xs, ds, .inr ⟨h1, h2⟩ => lcr_all h h2
theorem ints_of {P : Int → Prop} : ∀ {ds : List PyData}, (∀ d ∈ ds, ∃ i, d = .int i ∧ P i) → ∃ l : List Int, ds = l.map .int ∧ ∀ x ∈ l, P x
  | [], _ => ⟨[], rfl, fun x h => by simp at h⟩
  | d :: ds, h => by
    obtain ⟨l, h1, h2⟩ := ints_of (ds := ds) fun x hx => h x (by simp [hx])
    obtain ⟨i, h3, h4⟩ := h d (by simp)
    exact ⟨i :: l, by rw [h1, h3]; rfl, fun x hx => by
      rcases List.mem_cons.mp hx with z | z
      · rw [z]; exact h4
      · exact h2 x z⟩
theorem pure_law_hues {vs : List V} {H : Hp} {Q : VK} (hs : sp_law_hues K vs H Q E) : t_law_hues K E { nx := fun _ H' => Q .non H', rt := Q } (L2.start ["script", "town", "things", "k"] vs) H :=
  sp_bodyT (fun tn ns ds ⟨n, hds, h0, h7⟩ => by
    subst hds
    show ExW K tn ns (t_law_hues K E) [some (scrD ns), some (adrD tn), some (.int n), none] _ _ _
    have hit := it_rng1 (K := K) (ρ := [some (scrD ns), some (adrD tn), some (.int n), none]) (te := tVar 2) (ev_var rfl) (by omega : -(2 ^ 62) ≤ n ∧ n < 2 ^ 62)
    have hlc := ew_lc (K := K) (tn := tn) (ns := ns) (ρ := [some (scrD ns), some (adrD tn), some (.int n), none]) (wi := iRng1 (tCons (tVar 2) tNil)) (g := gName 3) (tt := tYes) (vs := [3]) (ws := [3]) (n1 := 0) (n2 := 1) (te := (tOp rSubU (tOp (rMulU K) (tC (.int 2)) (tCall (sp_law_draw K) [] E0 (tCons (tVar 0) (tCons (tVar 1) (tCons (tC (.int 2)) tNil))))) (tC (.int 1)))) (List.range n.toNat) (fun i => .int (0 + (i : Int))) (fun _ b => b = true) (fun _ d => ∃ i : Int, d = .int i ∧ (i = -1 ∨ i = 1)) (fun i => [some (scrD ns), some (adrD tn), some (.int n), some (.int (0 + (i : Int)))]) hit (by rw [List.length_range]; omega) (by simp)
      (fun i _ => tg_name) (fun i _ => et_pure et_yes) (fun i _ => by
        have hd := ew_draw (K := K) (tn := tn) (ns := ns) (E' := E0) (ρ := [some (scrD ns), some (adrD tn), some (.int n), some (.int (0 + (i : Int)))]) (i := 0) (j := 1) (tl := tC (.int 2)) (k := 2) rfl rfl ev_int (by omega) (by omega)
        have h1 := ew_op (R := fun d => ∃ r : Int, d = .int (2 * r) ∧ 0 ≤ r ∧ r < 2) (ew_pure (ev_int (K := K) (i := 2))) hd (r := rMulU K) (fun d e h1 h2 => by
          obtain ⟨r, rfl, h3, h4⟩ := h2
          subst h1
          exact ⟨_, od_mul (cmulL (by omega) (by omega)), r, rfl, h3, h4⟩)
        exact ew_op h1 (ew_pure (ev_int (K := K) (i := 1))) (fun d e h1 h2 => by
          obtain ⟨r, rfl, h3, h4⟩ := h1
          subst h2
          exact ⟨_, od_sub, _, rfl, by omega⟩))
    refine ExW.mono (xw_ret (ew_cb (ea_consW hlc ea_nilW (R := fun ds => ∃ l : List Int, ColOk n l ∧ ds = [.list (l.map .int)]) (fun d ds h1 h2 => ?_)) (R := R_law_hues [.int n]) (fun ds h => ?_))) ?_ (fun _ h => h) (fun _ h => h)
    · obtain ⟨es, rfl, h3⟩ := h1
      subst h2
      have hl := lcr_len (fun x (hx : false = true) => by cases hx) h3
      obtain ⟨l, rfl, hl2⟩ := ints_of (P := fun i => i = -1 ∨ i = 1) (lcr_all (P := fun d => ∃ i : Int, d = .int i ∧ (i = -1 ∨ i = 1)) (fun x d h => h.2) h3)
      refine ⟨l, ⟨?_, hl2⟩, rfl⟩
      rw [List.length_map, List.length_range] at hl
      omega
    · obtain ⟨l, h1, rfl⟩ := h
      exact ⟨_, ca_tupleL, n, l, rfl, h1, rfl⟩
    · rw [List.length_range]; omega) hs
end
end Lc

set_option Elab.async false
set_option linter.all false
set_option maxRecDepth 100000
set_option maxHeartbeats 4000000
namespace Lc
open PySem L2 PySem.Spec PyProof.Rows
/-! ### _law_family -/
/-- strictly ascending, within 0 .. n - 1, perhaps empty -/
def AscIn (n : Int) (l : List Int) : Prop := (∀ x ∈ l, 0 ≤ x ∧ x < n) ∧ ascI l = true
theorem ascI_of : ∀ {l : List Int}, l.Pairwise (· < ·) → ascI l = true
  | [], _ => rfl
  | [_], _ => rfl
  | a :: b :: r, h => by
    have h' := List.pairwise_cons.mp h
    have h1 : a < b := h'.1 b (by simp)
    show (decide (a < b) && ascI (b :: r)) = true
    rw [decide_eq_true h1, ascI_of h'.2]; rfl
theorem ascI_pw : ∀ {l : List Int}, ascI l = true → l.Pairwise (· < ·)
  | [], _ => List.Pairwise.nil
  | [_], _ => List.pairwise_singleton _ _
  | a :: b :: r, h => by
    have h' : a < b ∧ ascI (b :: r) = true := by simpa [ascI] using h
    have ih := ascI_pw h'.2
    refine List.pairwise_cons.mpr ⟨fun z hz => ?_, ih⟩
    rcases List.mem_cons.mp hz with e | e
    · rw [e]; exact h'.1
    · have := (List.pairwise_cons.mp ih).1 z e; omega
theorem lcr_asc {R : Nat → Option PyData → Prop} (h : ∀ x d, R x (some d) → d = .int (0 + (x : Int))) : ∀ {xs : List Nat} {ds : List PyData}, xs.Pairwise (· < ·) → LcR R xs ds → ∃ l : List Int, ds = l.map .int ∧ l.Pairwise (· < ·) ∧ ∀ y ∈ l, ∃ x ∈ xs, y = (x : Int)
  | [], ds, _, e => by cases e; exact ⟨[], rfl, List.Pairwise.nil, fun y hy => by simp at hy⟩
  | x :: xs, ds, hp, .inl ⟨e, ds', h1, h2, h3⟩ => by
    have hp' := List.pairwise_cons.mp hp
    obtain ⟨l, k1, k2, k3⟩ := lcr_asc h hp'.2 h3
    refine ⟨(x : Int) :: l, ?_, List.pairwise_cons.mpr ⟨fun y hy => ?_, k2⟩, fun y hy => ?_⟩
    · rw [h2, h x e h1, k1, Int.zero_add]; rfl
    · obtain ⟨z, hz, rfl⟩ := k3 y hy
      have := hp'.1 z hz
      omega
    · rcases List.mem_cons.mp hy with e | e
      · exact ⟨x, by simp, e⟩
      · obtain ⟨z, hz, e2⟩ := k3 y e
        exact ⟨z, by simp [hz], e2⟩
  | x :: xs, ds, hp, .inr ⟨h1, h2⟩ => by
    obtain ⟨l, k1, k2, k3⟩ := lcr_asc h (List.pairwise_cons.mp hp).2 h2
    exact ⟨l, k1, k2, fun y hy => by
      obtain ⟨z, hz, e2⟩ := k3 y hy
      exact ⟨z, by simp [hz], e2⟩⟩
theorem range_pw : ∀ n : Nat, (List.range n).Pairwise (· < ·) := fun n => List.pairwise_lt_range
theorem asc_two {n k r : Int} (hn : 2 < n) (h0 : 0 ≤ k) (h1 : k < n) (hr0 : 0 ≤ r) (hr1 : r < 2) : AscIn n (isort ltI [k, (k + 1 + r) % n]) := by
  have hm := ed_nat (k + 1 + r) n (by omega)
  have hne : (k + 1 + r) % n ≠ k := by
    intro e
    by_cases h : k + 1 + r < n
    · rw [Int.emod_eq_of_lt (by omega) h] at e; omega
    · have : (k + 1 + r) % n = k + 1 + r - n := by
        rw [← Int.sub_emod_right, Int.emod_eq_of_lt (by omega) (by omega)]
      omega
  have hsplit : isort ltI [k, (k + 1 + r) % n] = if ltI ((k + 1 + r) % n) k then [(k + 1 + r) % n, k] else [k, (k + 1 + r) % n] := rfl
  rw [hsplit]
  by_cases h : (k + 1 + r) % n < k
  · rw [if_pos (by simpa [ltI] using h)]
    exact ⟨fun x hx => by simp at hx; omega, by simp [ascI]; omega⟩
  · rw [if_neg (by simpa [ltI] using h)]
    exact ⟨fun x hx => by simp at hx; omega, by simp [ascI]; omega⟩
def GoodF (n : Int) (fs : List (List Int)) : Prop := (∀ f ∈ fs, LotOk n f) ∧ fs.Nodup
section
variable {K : PySem.W.Frag} {E : XK} {tn : Addr} {ns : List Int}
/-- the slots of the body -/
abbrev rF (tn : Addr) (ns : List Int) (most n : Int) (fs : List (List Int)) (o : Int) (p : Bool) (a b c : Option PyData) : Rho := [some (scrD ns), some (adrD tn), some (.int most), some (.int n), some (lD fs), some (.int o), some (.bool p), a, b, c]
theorem fam_one {most n o : Int} {p : Bool} {fs : List (List Int)} {a b c : Option PyData} (hn : 1 ≤ n) (hn7 : n ≤ 7) (hp : p = true → 2 < n) :
    ExW K tn ns (tIfS (tB (tVar 6)) (tSeq (tAsg (tCall (sp_law_draw K) [] E0 (tCons (tVar 0) (tCons (tVar 1) (tCons (tVar 3) tNil)))) (gName 8))
      (tAsg (tCB (rSortD K) (tCons (tLst (tCons (tVar 8) (tCons (tOp rModU (tOp (rAddU K) (tOp (rAddU K) (tVar 8) (tC (.int 1))) (tCall (sp_law_draw K) [] E0 (tCons (tVar 0) (tCons (tVar 1) (tCons (tC (.int 2)) tNil))))) (tVar 3)) tNil))) tNil)) (gName 9)))
      (tAsg (tLc (iRng1 (tCons (tVar 3) tNil)) (gName 8) (tTest (tOp (rLtU K) (tCall (sp_law_draw K) [] E0 (tCons (tVar 0) (tCons (tVar 1) (tCons (tC (.int 4)) tNil)))) (tVar 5))) (tVar 8) [8]) (gName 9)))
      (rF tn ns most n fs o p a b c) 7 (fun ρ' => ∃ l b', AscIn n l ∧ ρ' = rF tn ns most n fs o p a b' (some (.list (l.map .int)))) (fun _ => False) := by
  refine xw_ifP (et_B (ev_var rfl)) (fun e => ?_) (fun e => ?_)
  · subst e
    have hn2 := hp rfl
    refine ExW.mono (xw_seq (m := 1) (Pm := fun ρ' => ∃ l b', AscIn n l ∧ ρ' = rF tn ns most n fs o true a b' (some (.list (l.map .int)))) (xw_asg (ew_draw rfl rfl (ev_var rfl) (by omega) (by omega))) (fun ρ' h => ?_)) (by omega) (fun _ h => h) (fun _ h => h)
    obtain ⟨d, ⟨k, rfl, h0, h1⟩, rfl⟩ := h
    show ExW K tn ns _ (rF tn ns most n fs o true a (some (.int k)) c) _ _ _
    have hd := ew_draw (K := K) (tn := tn) (ns := ns) (E' := E0) (ρ := rF tn ns most n fs o true a (some (.int k)) c) (i := 0) (j := 1) (tl := tC (.int 2)) (k := 2) rfl rfl ev_int (by omega) (by omega)
    have h2 := ew_op (r := rAddU K) (R := fun d => ∃ r : Int, d = .int (k + 1 + r) ∧ 0 ≤ r ∧ r < 2) (ew_pure (ev_op (K := K) (ρ := rF tn ns most n fs o true a (some (.int k)) c) (ev_var (i := 8) rfl) (ev_int (i := 1)) od_add)) hd (fun d e h1 h2 => by
      obtain ⟨r, rfl, h3, h4⟩ := h2
      subst h1
      exact ⟨_, od_add, r, rfl, h3, h4⟩)
    have h3 := ew_op (r := rModU) (R := fun d => ∃ r : Int, d = .int ((k + 1 + r) % n) ∧ 0 ≤ r ∧ r < 2) h2 (ew_pure (ev_var (K := K) (ρ := rF tn ns most n fs o true a (some (.int k)) c) (i := 3) (d := .int n) rfl)) (fun d e h1 h2 => by
      obtain ⟨r, rfl, h3, h4⟩ := h1
      subst h2
      exact ⟨_, od_mod (by omega), r, rfl, h3, h4⟩)
    have h4 := ea_consW (R := fun ds => ∃ r : Int, ds = [.int k, .int ((k + 1 + r) % n)] ∧ 0 ≤ r ∧ r < 2) (ew_pure (ev_var (K := K) (ρ := rF tn ns most n fs o true a (some (.int k)) c) (i := 8) (d := .int k) rfl)) (ea_consW (R := fun ds => ∃ r : Int, ds = [.int ((k + 1 + r) % n)] ∧ 0 ≤ r ∧ r < 2) h3 ea_nilW (by rintro d ds ⟨r, rfl, h3, h4⟩ rfl; exact ⟨r, rfl, h3, h4⟩)) (by rintro d ds rfl ⟨r, rfl, h3, h4⟩; exact ⟨r, rfl, h3, h4⟩)
    have h5 := ew_lst (R := fun d => ∃ r : Int, d = .list ([k, (k + 1 + r) % n].map .int) ∧ 0 ≤ r ∧ r < 2) h4 (by rintro ds ⟨r, rfl, h3, h4⟩; exact ⟨by simp, r, rfl, h3, h4⟩)
    have h6 := ew_cb (r := rSortD K) (R := fun d => ∃ l, AscIn n l ∧ d = .list (l.map .int)) (ea_consW (R := fun ds => ∃ r : Int, ds = [.list ([k, (k + 1 + r) % n].map .int)] ∧ 0 ≤ r ∧ r < 2) h5 ea_nilW (by rintro d ds ⟨r, rfl, h3, h4⟩ rfl; exact ⟨r, rfl, h3, h4⟩)) (by
      rintro ds ⟨r, rfl, h3, h4⟩
      exact ⟨_, ca_sortI, _, asc_two hn2 h0 h1 h3 h4, rfl⟩)
    exact ExW.mono (xw_asg h6) (by omega) (fun ρ' ⟨d, ⟨l, h7, h8⟩, h9⟩ => ⟨l, some (.int k), h7, by rw [h9, h8]; rfl⟩) (fun _ h => h)
  · have hit := it_rng1 (K := K) (ρ := rF tn ns most n fs o p a b c) (te := tVar 3) (ev_var rfl) (by omega : -(2 ^ 62) ≤ n ∧ n < 2 ^ 62)
    have hlc := ew_lc (K := K) (tn := tn) (ns := ns) (ρ := rF tn ns most n fs o p a b c) (wi := iRng1 (tCons (tVar 3) tNil)) (g := gName 8) (tt := (tTest (tOp (rLtU K) (tCall (sp_law_draw K) [] E0 (tCons (tVar 0) (tCons (tVar 1) (tCons (tC (.int 4)) tNil)))) (tVar 5)))) (vs := [8]) (ws := [8]) (n1 := 1) (n2 := 0) (te := tVar 8) (List.range n.toNat) (fun i => .int (0 + (i : Int))) (fun _ _ => True) (fun i d => d = .int (0 + (i : Int))) (fun i => rF tn ns most n fs o p a (some (.int (0 + (i : Int)))) c) hit (by rw [List.length_range]; omega) (by simp)
      (fun i _ => tg_name) (fun i _ => by
        have hd := ew_draw (K := K) (tn := tn) (ns := ns) (E' := E0) (ρ := rF tn ns most n fs o p a (some (.int (0 + (i : Int)))) c) (i := 0) (j := 1) (tl := tC (.int 4)) (k := 4) rfl rfl ev_int (by omega) (by omega)
        exact et_testW (ew_op (r := rLtU K) (R := fun d => ∃ b, d = .bool b ∧ True) hd (ew_pure (ev_var (K := K) (ρ := rF tn ns most n fs o p a (some (.int (0 + (i : Int)))) c) (i := 5) (d := .int o) rfl)) (by
          rintro d e ⟨r, rfl, _, _⟩ rfl
          exact ⟨_, od_lt, _, rfl, trivial⟩)) (fun d h => h)) (fun i _ => ew_pure (ev_var rfl))
    refine ExW.mono (xw_asg hlc) (by rw [List.length_range]; omega) (fun ρ' h => ?_) (fun _ h => h)
    obtain ⟨d, ⟨ds, rfl, h1⟩, rfl⟩ := h
    obtain ⟨l, rfl, h2, h3⟩ := lcr_asc (fun x d h => h.2) (range_pw _) h1
    refine ⟨l, b, ⟨fun x hx => ?_, ascI_of h2⟩, rfl⟩
    obtain ⟨z, hz, rfl⟩ := h3 x hx
    have := List.mem_range.mp hz
    omega
theorem fam_two {most n o : Int} {p : Bool} {fs : List (List Int)} {a b : Option PyData} {l : List Int} (hn : 1 ≤ n) (hn7 : n ≤ 7) (hl : AscIn n l) :
    ExW K tn ns (tAsg (tCB (rTupleOf K) (tCons (tIf (tTest (tOp (rNeD K) (tVar 9) (tLst tNil))) (tVar 9) (tLst (tCons (tCall (sp_law_draw K) [] E0 (tCons (tVar 0) (tCons (tVar 1) (tCons (tVar 3) tNil)))) tNil))) tNil)) (gName 9))
      (rF tn ns most n fs o p a b (some (.list (l.map .int)))) 1 (fun ρ' => ∃ f, LotOk n f ∧ ρ' = rF tn ns most n fs o p a b (some (tI f))) (fun _ => False) := by
  have ht : EvT K (tTest (tOp (rNeD K) (tVar 9) (tLst tNil))) (rF tn ns most n fs o p a b (some (.list (l.map .int)))) (!decide (l = [])) := by
    refine et_to (et_test (ev_op (ev_var rfl) (ev_lst ea_nil (by simp)) (od_ne (sh_lstI (n := 1)) (sh_nilL (n := 1))))) ?_
    cases l <;> simp [PyData.eqv, PyData.eqvAll]
  have hd := ew_draw (K := K) (tn := tn) (ns := ns) (E' := E0) (ρ := rF tn ns most n fs o p a b (some (.list (l.map .int)))) (i := 0) (j := 1) (tl := tVar 3) (k := n) rfl rfl (ev_var rfl) (by omega) (by omega)
  have hlst := ew_lst (R := fun d => ∃ f, LotOk n f ∧ d = .list (f.map .int)) (ea_consW (R := fun ds => ∃ r : Int, ds = [.int r] ∧ 0 ≤ r ∧ r < n) hd ea_nilW (by rintro d ds ⟨r, rfl, h3, h4⟩ rfl; exact ⟨r, rfl, h3, h4⟩)) (by
    rintro ds ⟨r, rfl, h3, h4⟩
    exact ⟨by simp, [r], ⟨by simp, fun x hx => by have := List.mem_singleton.mp hx; omega, rfl⟩, rfl⟩)
  have hif := ew_if (n := 0) (m := 1) (ta := tVar 9) (R := fun d => ∃ f, LotOk n f ∧ d = .list (f.map .int)) (et_pure (tn := tn) (ns := ns) ht) (fun e => by
    have hne : l ≠ [] := fun z => by rw [z] at e; simp at e
    exact EvW.mono (ew_pure (ev_var rfl)) (by omega) (fun d h => ⟨l, ⟨hne, hl.1, hl.2⟩, h⟩)) (fun _ => hlst)
  have hcb := ew_cb (r := rTupleOf K) (R := fun d => ∃ f, LotOk n f ∧ d = tI f) (ea_consW (R := fun ds => ∃ f, LotOk n f ∧ ds = [.list (f.map .int)]) hif ea_nilW (by rintro d ds ⟨f, h, rfl⟩ rfl; exact ⟨f, h, rfl⟩)) (by
    rintro ds ⟨f, h, rfl⟩
    exact ⟨_, ca_tupleL, f, h, rfl⟩)
  exact ExW.mono (xw_asg hcb) (by omega) (fun ρ' ⟨d, ⟨f, h1, h2⟩, h3⟩ => ⟨f, h1, by rw [h3, h2]; rfl⟩) (fun _ h => h)
theorem fam_three {most n o : Int} {p : Bool} {fs : List (List Int)} {a b : Option PyData} {f : List Int} (hz : fs.length ≤ 1000) :
    ExS K E (tAsg (tOp (rAddU K) (tVar 4) (tIf (tTest (tOp (rNotInU K) (tVar 9) (tVar 4))) (tLst (tCons (tVar 9) tNil)) (tLst tNil))) (gName 4))
      (rF tn ns most n fs o p a b (some (tI f))) (.nx (rF tn ns most n (if f ∈ fs then fs else fs ++ [f]) o p a b (some (tI f)))) := by
  have ht : EvT K (tTest (tOp (rNotInU K) (tVar 9) (tVar 4))) (rF tn ns most n fs o p a b (some (tI f))) (!decide (f ∈ fs)) := by
    refine et_to (et_test (ev_op (ev_var rfl) (ev_var rfl) (od_niL (sh_tI (n := 1)) (sh_lD (n := 1))))) ?_
    rw [any_tI]
  have hif : EvD K (tIf (tTest (tOp (rNotInU K) (tVar 9) (tVar 4))) (tLst (tCons (tVar 9) tNil)) (tLst tNil)) (rF tn ns most n fs o p a b (some (tI f))) (lD (if f ∈ fs then [] else [f])) :=
    ev_if ht (fun e => by
      have : f ∉ fs := by simpa using e
      rw [if_neg this]
      exact ev_lst (ea_cons (ev_var rfl) ea_nil) (by simp)) (fun e => by
      have : f ∈ fs := by simpa using e
      rw [if_pos this]
      exact ev_lst ea_nil (by simp))
  have h := xs_asg (i := 4) (E := E) (ev_op (ev_var (i := 4) (d := lD fs) rfl) hif (od_addL (by split <;> simp <;> omega)))
  have e : lD (if f ∈ fs then fs else fs ++ [f]) = .list (fs.map tI ++ (if f ∈ fs then [] else [f]).map tI) := by
    unfold lD
    split <;> simp
  unfold rF
  rw [e]
  exact h
theorem x_law_family {most : Int} (hm1 : 1 ≤ most) (hm7 : most ≤ 7) : ExW K tn ns (t_law_family K E) [some (scrD ns), some (adrD tn), some (.int most), none, none, none, none, none, none, none] 100 (fun _ => False) (R_law_family [.int most]) := by
  have e0 : (100 : Nat) = 1 + 99 := rfl
  have h1 : EaW K tn ns (tCons (tOp (rAddU K) (tC (.int 1)) (tCall (sp_law_draw K) [] E0 (tCons (tVar 0) (tCons (tVar 1) (tCons (tVar 2) tNil))))) (tCons (tLst tNil) tNil)) [some (scrD ns), some (adrD tn), some (.int most), none, none, none, none, none, none, none] 1 (fun ds => ∃ n : Int, 1 ≤ n ∧ n ≤ most ∧ ds = [.int n, lD []]) := by
    have hd := ew_draw (K := K) (tn := tn) (ns := ns) (E' := E0) (ρ := [some (scrD ns), some (adrD tn), some (.int most), none, none, none, none, none, none, none]) (i := 0) (j := 1) (tl := tVar 2) (k := most) rfl rfl (ev_var rfl) (by omega) (by omega)
    refine ea_consW (n := 1) (m := 0) (ew_op (n := 0) (m := 1) (r := rAddU K) (R := fun d => ∃ n : Int, d = .int n ∧ 1 ≤ n ∧ n ≤ most) (ew_pure ev_int) hd (by
      rintro d e rfl ⟨r, rfl, h3, h4⟩
      exact ⟨_, od_add, _, rfl, by omega, by omega⟩)) (ea_consW (n := 0) (m := 0) (R := (· = [lD []])) (ew_pure (ev_lst ea_nil (by simp))) ea_nilW (by rintro d ds rfl rfl; rfl)) (by rintro d ds ⟨n, rfl, h3, h4⟩ rfl; exact ⟨n, h3, h4, rfl⟩)
  rw [e0]
  refine xw_seq (xw_par h1 (by rintro ds ⟨n, _, _, rfl⟩; rfl)) (fun ρ1 hρ1 => ?_)
  obtain ⟨d, e, ⟨n, hn1, hnm, hde⟩, rfl⟩ := hρ1
  simp only [List.cons.injEq, and_true] at hde
  obtain ⟨rfl, rfl⟩ := hde
  show ExW K tn ns _ [some (scrD ns), some (adrD tn), some (.int most), some (.int n), some (lD []), none, none, none, none, none] 99 _ _
  have hn7 : n ≤ 7 := by omega
  let ρ1 : Rho := [some (scrD ns), some (adrD tn), some (.int most), some (.int n), some (lD []), none, none, none, none, none]
  have h2 : EvW K tn ns (tTup (tCons (tOp (rAddU K) (tC (.int 1)) (tCall (sp_law_draw K) [] E0 (tCons (tVar 0) (tCons (tVar 1) (tCons (tC (.int 3)) tNil))))) (tCons (tAndV (tOp rGtI (tVar 3) (tC (.int 2))) (tOp (rEqD K) (tCall (sp_law_draw K) [] E0 (tCons (tVar 0) (tCons (tVar 1) (tCons (tC (.int 2)) tNil)))) (tC (.int 0)))) tNil))) ρ1 2
      (fun d => ∃ (o : Int) (p : Bool), d = .tuple [.int o, .bool p] ∧ (p = true → 2 < n)) := by
    have hd3 := ew_draw (K := K) (tn := tn) (ns := ns) (E' := E0) (ρ := ρ1) (i := 0) (j := 1) (tl := tC (.int 3)) (k := 3) rfl rfl ev_int (by omega) (by omega)
    have hd2 := ew_draw (K := K) (tn := tn) (ns := ns) (E' := E0) (ρ := ρ1) (i := 0) (j := 1) (tl := tC (.int 2)) (k := 2) rfl rfl ev_int (by omega) (by omega)
    have heq := ew_op (n := 1) (m := 0) (r := rEqD K) (R := fun d => ∃ b : Bool, d = .bool b) hd2 (ew_pure (ev_int (K := K) (i := 0))) (by
      rintro d e ⟨r, rfl, _, _⟩ rfl
      exact ⟨_, od_eq (sh_int (n := 1)) (sh_int (n := 1)), _, rfl⟩)
    have hgt : EvD K (tOp rGtI (tVar 3) (tC (.int 2))) ρ1 (.bool (decide (2 < n))) := ev_op (ev_var rfl) ev_int od_gt
    have hand := ew_and (n := 0) (m := 1) (P := fun b => b = decide (2 < n)) (P' := fun _ => True) (ew_pure (tn := tn) (ns := ns) hgt) (fun d h => ⟨_, h, rfl⟩) heq
    have hand' := EvW.mono (R' := fun d => ∃ p : Bool, d = .bool p ∧ (p = true → 2 < n)) hand (Nat.le_refl _) (by
      rintro d (⟨rfl, h⟩ | ⟨h, b, rfl⟩)
      · exact ⟨false, rfl, fun z => by cases z⟩
      · exact ⟨b, rfl, fun _ => by simpa using h.symm⟩)
    refine ew_tup (ea_consW (n := 1) (m := 1) (R := fun ds => ∃ (o : Int) (p : Bool), ds = [.int o, .bool p] ∧ (p = true → 2 < n)) (ew_op (n := 0) (m := 1) (r := rAddU K) (R := fun d => ∃ o : Int, d = .int o) (ew_pure ev_int) hd3 (by
      rintro d e rfl ⟨r, rfl, h3, h4⟩
      exact ⟨_, od_add, _, rfl⟩)) (ea_consW (n := 1) (m := 0) (R := fun ds => ∃ p : Bool, ds = [.bool p] ∧ (p = true → 2 < n)) hand' ea_nilW (by rintro d ds ⟨p, rfl, h⟩ rfl; exact ⟨p, rfl, h⟩)) (by rintro d ds ⟨o, rfl⟩ ⟨p, rfl, h⟩; exact ⟨o, p, rfl, h⟩)) (by
      rintro ds ⟨o, p, rfl, h⟩
      exact ⟨by simp, o, p, rfl, h⟩)
  have e1 : (99 : Nat) = 2 + 97 := rfl
  rw [e1]
  let g2 : PyData → Rho := fun d => match d with
    | .tuple [x, y] => [some (scrD ns), some (adrD tn), some (.int most), some (.int n), some (lD []), some x, some y, none, none, none]
    | _ => []
  refine xw_seq (xw_asgT (r2 := g2) h2 (ws := [5, 6]) (by rintro d ⟨o, p, rfl, h⟩; exact tg_two)) (fun ρ2 hρ2 => ?_)
  obtain ⟨d, ⟨o, p, rfl, hp⟩, rfl⟩ := hρ2
  show ExW K tn ns _ (rF tn ns most n [] o p none none none) 97 _ _
  have hd8 := ew_draw (K := K) (tn := tn) (ns := ns) (E' := E0) (ρ := rF tn ns most n [] o p none none none) (i := 0) (j := 1) (tl := tC (.int 8)) (k := 8) rfl rfl ev_int (by omega) (by omega)
  have hcnt := ew_op (n := 0) (m := 1) (r := rAddU K) (R := fun d => ∃ k : Nat, d = .int (k : Int) ∧ 1 ≤ k ∧ k ≤ 8) (ew_pure (ev_int (K := K) (i := 1))) hd8 (by
    rintro d e rfl ⟨r, rfl, h3, h4⟩
    exact ⟨_, od_add, (1 + r).toNat, by rw [Int.toNat_of_nonneg (by omega)], by omega, by omega⟩)
  have e2 : (97 : Nat) = (1 + 8 * 8) + 32 := rfl
  rw [e2]
  refine xw_seq (Pn := fun ρ' => ∃ fs a b c, GoodF n fs ∧ 1 ≤ fs.length ∧ fs.length ≤ 8 ∧ ρ' = rF tn ns most n fs o p a b c) (xw_forR (B := 8) (m := 8) hcnt (by rintro d ⟨k, rfl, _, h⟩; exact ⟨k, rfl, h⟩) (by omega)
    (fun i ρ' => ∃ fs a b c, GoodF n fs ∧ (1 ≤ i → 1 ≤ fs.length) ∧ fs.length ≤ i ∧ ρ' = rF tn ns most n fs o p a b c) ⟨[], none, none, none, ⟨fun f hf => by simp at hf, List.nodup_nil⟩, fun h => by omega, Nat.le_refl _, rfl⟩ (fun i ρ' hi hI => ?_) (fun k ρ' hR hI => ?_)) (fun ρ3 hρ3 => ?_)
  · obtain ⟨fs, a, b, c, hg, hne, hlen, rfl⟩ := hI
    show ExW K tn ns _ (rF tn ns most n fs o p (some (.int (0 + (i : Int)))) b c) 8 _ _
    have e3 : (8 : Nat) = 7 + (1 + 0) := rfl
    refine ExW.mono (xw_seq (n := 7) (m := 1 + 0) (fam_one hn1 hn7 hp) (fun ρ4 h4 => ?_)) (Nat.le_refl _) (fun _ h => h) (fun _ h => h.elim)
    obtain ⟨l, b', hl, rfl⟩ := h4
    refine xw_seq (n := 1) (m := 0) (fam_two hn1 hn7 hl) (fun ρ5 h5 => ?_)
    obtain ⟨f, hf, rfl⟩ := h5
    refine ExW.mono (xw_pure (E := E) (fam_three (by omega))) (Nat.le_refl _) (fun ρ6 h6 => ?_) (fun _ h => h)
    refine ⟨_, _, _, _, ?_, fun _ => ?_, ?_, h6⟩
    · by_cases hm : f ∈ fs
      · rw [if_pos hm]; exact hg
      · rw [if_neg hm]
        refine ⟨fun g hg' => ?_, ?_⟩
        · rcases List.mem_append.mp hg' with z | z
          · exact hg.1 g z
          · rw [List.mem_singleton.mp z]; exact hf
        · rw [List.nodup_append]
          refine ⟨hg.2, by simp, fun x hx y hy => ?_⟩
          rw [List.mem_singleton.mp hy]
          exact fun z => hm (z ▸ hx)
    · by_cases hm : f ∈ fs
      · rw [if_pos hm]; exact List.length_pos_of_mem hm
      · rw [if_neg hm]; simp
    · split
      · omega
      · simp; omega
  · obtain ⟨fs, a, b, c, hg, hne, hlen, rfl⟩ := hI
    obtain ⟨k', hk, h1', h8'⟩ := hR
    have : k = k' := by
      have := PyData.int.inj hk
      omega
    subst this
    exact ⟨fs, a, b, c, hg, hne h1', by omega, rfl⟩
  · obtain ⟨fs, a, b, c, hg, h1', h8', rfl⟩ := hρ3
    have hs : EvD K (tCB (rTupleOf K) (tCons (tCB (rSortD K) (tCons (tVar 4) tNil)) tNil)) (rF tn ns most n fs o p a b c) (tD (isort HT.lexLt fs)) :=
      ev_cb (ea_cons (ev_cb (ea_cons (ev_var (d := lD fs) rfl) ea_nil) (ca_sortLD fun f hf => (hg.1 f hf).1)) ea_nil) ca_tupleL
    refine ExW.mono (xw_pureR (E := E) (d := famD n (isort HT.lexLt fs)) (xs_ret (ev_tup (ea_cons (ev_var rfl) (ea_cons hs ea_nil)) (by simp))) ?_) (by omega) (fun _ h => h) (fun _ h => h)
    have hperm := isort_perm (lt := HT.lexLt) fs
    refine ⟨most, n, isort HT.lexLt fs, rfl, ⟨hn1, hn7, by rw [hperm.length_eq]; exact h1', by rw [hperm.length_eq]; exact h8', fun s hs => hg.1 s (hperm.mem_iff.mp hs), sorted_asc (isort_sorted swo_lex fs) (hperm.nodup_iff.mpr hg.2)⟩, hnm, rfl⟩
theorem pure_law_family {vs : List V} {H : Hp} {Q : VK} (hs : sp_law_family K vs H Q E) : t_law_family K E { nx := fun _ H' => Q .non H', rt := Q } (L2.start ["script", "town", "most", "things", "found", "often", "is_paired", "turn", "k", "one"] vs) H :=
  sp_bodyT (fun tn ns ds ⟨most, hds, h1, h7⟩ => by
    subst hds
    exact x_law_family h1 h7) hs
end
end Lc

set_option Elab.async false
set_option linter.all false
set_option maxRecDepth 100000
set_option maxHeartbeats 4000000
namespace Lc
open PySem L2 PySem.Spec PyProof.Rows
/-! ### the law's start -/
def spLaw (K : PySem.W.Frag) : Sp := fun vs H Q _ => ∃ (a : Addr) (ns : List Int), vs = [.ref a] ∧ SqL K H a (ns.map V.int) ∧ ns.length ≤ 63 ∧ ∀ H', Q (.bl true) H'
section
variable {K : PySem.W.Frag} {E : XK}
theorem env_none {F : Hp} : ∀ m : Nat, EnvD K F (List.replicate m none) (List.replicate m none)
  | 0 => .nil
  | m + 1 => .cons trivial (env_none m)
theorem law_start {tz : TS} {N : List Str} {m M0 : Nat} (hN : N.length = m + 2) (hM : M0 ≤ MD) (h : ∀ tn ns, ns.length ≤ 63 → ExW K tn ns tz (some (scrD ns) :: some (adrD tn) :: List.replicate m none) M0 (fun _ => False) (· = .bool true))
    {vs : List V} {H : Hp} {Q : VK} (hs : spLaw K vs H Q E) : tSeq (tAsg (tCall (sp_law_town K) [] E0 (tCons (tVar 0) tNil)) (gName 1)) tz { nx := fun _ H' => Q .non H', rt := Q } (L2.start N vs) H := by
  obtain ⟨a, ns, rfl, hS, hl, q⟩ := hs
  have hst : L2.start N [.ref a] = some (.ref a) :: none :: List.replicate m none := by
    unfold L2.start
    rw [hN]
    show some (V.ref a) :: List.replicate (m + 2 - 1) none = _
    have : m + 2 - 1 = m + 1 := by omega
    rw [this]; rfl
  rw [hst]
  refine ⟨.ref a, rfl, [], ns, Live.nil, by omega, ?_, fun p H1 hp s1 h1 => ?_⟩
  · rw [cut_nil]; exact .cons (.scr hS) .nil
  · have sc : Same H (cut [p] H1) := fun b o e => by
      rw [cut_out (by
        intro z
        rw [List.mem_singleton.mp z, hp] at e; cases e)]
      exact s1 b o e
    refine h p ns hl 0 [p] _ H1 _ (by omega) (fun b hb => by rw [List.mem_singleton.mp hb, h1]; simp) (by simp) ⟨0 :: ns, h1, rfl, Int.le_refl _, Int.le_refl _⟩ (.cons (.scr (sql_same sc hS)) (.cons (.adr p) (env_none m))) (fun _ _ _ z => z.elim) (fun d v H' hd _ _ hv => ?_)
    subst hd
    cases hv
    exact q H'
/-- script, town and a limit of a def that draws -/
theorem ew_town {E' : XK} {ρ : Rho} {tn : Addr} {ns : List Int} {P : List PyData → Prop} {Rt : List PyData → PyData → Prop} {R : PyData → Prop} {tl : TE} {i j m : Nat} {d : PyData} (hi : ρ[i]? = some (some (scrD ns))) (hj : ρ[j]? = some (some (adrD tn))) (hk : EvD K tl ρ d) (hp : P [d]) (hR : ∀ e, Rt [d] e → R e) :
    EvW K tn ns (tCall (spT K m P Rt) [] E' (tCons (tVar i) (tCons (tVar j) (tCons tl tNil)))) ρ m R := by
  have ha : EaW K tn ns (tCons (tVar i) (tCons (tVar j) (tCons tl tNil))) ρ 0 (· = [scrD ns, adrD tn, d]) :=
    ea_consW (ew_pure (ev_var hi)) (ea_consW (ew_pure (ev_var hj)) (ea_consW (ew_pure hk) ea_nilW (R := (· = [d])) (by rintro d ds rfl rfl; rfl)) (R := (· = [adrD tn, d])) (by rintro d ds rfl rfl; rfl)) (by rintro d ds rfl rfl; rfl)
  have := ew_callT (m := m) (P := P) (Rt := Rt) (E := E') (R := R) ha (fun ds e => ⟨[d], e, hp, fun e h => hR e h⟩)
  rw [Nat.zero_add] at this
  exact this
/-- if this (shown false): return False -/
theorem xw_no {E : XK} {tn : Addr} {ns : List Int} {ρ : Rho} {t : TT} {te : TE} {tz : TS} {m : Nat} {Pm : Rho → Prop} {Pr : PyData → Prop} (h : EvT K t ρ false) (hz : ExW K tn ns tz ρ m Pm Pr) : ExW K tn ns (tSeq (tIfS t (tRet te) tNext) tz) ρ m Pm Pr :=
  xw_seqP (E := E) (xs_if h (fun z => by cases z) (fun _ => xs_next)) hz
theorem ne_false {ρ : Rho} {ta tb : TE} {d : PyData} {n : Nat} (ha : EvD K ta ρ d) (hb : EvD K tb ρ d) (hd : Sh n d) (hn : n ≤ 64) : EvT K (tTest (tOp (rNeD K) ta tb)) ρ false :=
  et_to (et_test (ev_op ha hb (od_ne hd hd hn hn))) (by rw [SeqAt.eqv_refl d hd.1]; rfl)
end
end Lc

set_option Elab.async false
set_option linter.all false
set_option maxRecDepth 100000
set_option maxHeartbeats 4000000
namespace Lc
open PySem L2 PySem.Spec PyProof.Rows
/-! ### two readings of one text -/
def tEither (t u : TE) : TE := fun σ H Q => t σ H Q ∨ u σ H Q
theorem pe_either {X : Cx} {e : Expr} {t u : TE} (h : PE X e t) (k : PE X e u) : PE X e (tEither t u) := ⟨fun pins s σ H Q I z => z.elim (h.run pins s σ H Q I) (k.run pins s σ H Q I)⟩
section
variable {X : Cx}
/-! ### t.index(x), l.count(x) of deep data -/
def rIndexT (K : PySem.W.Frag) : V → List V → Hp → VK → Prop := fun x xs H Q => ∃ (y : V) (d : PyData) (ds : List PyData), xs = [y] ∧ Dp K H x (.tuple ds) ∧ Dp K H y d ∧ SeqAt.shaped (.tuple ds) = true ∧ SeqAt.shaped d = true ∧ true ∈ ds.map (fun z => PyData.eqv z d) ∧ Q (.int ((ds.map fun z => PyData.eqv z d).idxOf true : Nat)) H
theorem mt_indexT (hu : X.A.units + 65 < cLine) : MtR X "tuple.index" (rIndexT X.K) := by
  intro pins s σ H x xs v us Q I rx rxs h
  obtain ⟨y, d, ds, rfl, hl, hy, sl, sd, hm, q⟩ := h
  cases rxs with
  | cons ry rt =>
    rename_i uy ut
    cases rt
    obtain ⟨bs, r1⟩ := Dp.reads I d y uy hy ry
    have hxs : PyData.canLayAll0 ds = true := SeqAt.canLay_of_shaped sl
    have hroom : X.A.units + 1 + min (PyData.depthAll ds) d.depth < cLine := room_in_shaped sd hu
    cases hl with
    | tup hs ha =>
      cases rx
      obtain ⟨its, rv, ht, hlen⟩ := I.tuple hs
      obtain ⟨as, h4⟩ := Dp.readsAll I ds _ its ha rv
      have hmap : its.map (SeqAt.readOf s.heap) = ds := SeqAt.readsAll_map ds its as hxs h4
      have hall := SeqAt.items_eqAt (A := X.A) (vs := its.toArray) (show ReadsAll s.heap its.toArray.toList ds as from h4) r1 hxs (SeqAt.canLay_of_shaped sd) hroom
      obtain ⟨o, e1, e2, n, e3⟩ := ht
      refine SeqAt.call_tuple_index (ks := ds.map fun z => PyData.eqv z d) (k := true) (vs := its) ⟨o, e1, e2, n, e3⟩ ⟨?_, fun j h1 h2 => ?_⟩ hm ⟨.int _, H, I.tok _, ⟨_, rfl⟩, q⟩
      · rw [List.length_map, ← hmap, List.length_map]
      · have hj := hall its[j] (by simp)
        have e : (ds.map fun z => PyData.eqv z d)[j] = PyData.eqv (SeqAt.readOf s.heap its[j]) d := by
          have h3 : j < ds.length := by simpa using h2
          rw [List.getElem_map]
          congr 1
          have : (its.map (SeqAt.readOf s.heap))[j]? = ds[j]? := by rw [hmap]
          rw [List.getElem?_map, List.getElem?_eq_getElem h1, List.getElem?_eq_getElem h3] at this
          exact (Option.some.inj this).symm
        rw [e]
        cases hb : PyData.eqv (SeqAt.readOf s.heap its[j]) d <;> rw [hb] at hj <;> exact hj
def rCountL (K : PySem.W.Frag) : V → List V → Hp → VK → Prop := fun x xs H Q => ∃ (y : V) (d : PyData) (ds : List PyData), xs = [y] ∧ Dp K H x (.list ds) ∧ Dp K H y d ∧ SeqAt.shaped (.list ds) = true ∧ SeqAt.shaped d = true ∧ Q (.int (ds.countP (fun z => PyData.eqv z d) : Nat)) H
theorem mt_countL (hu : X.A.units + 65 < cLine) : MtR X "list.count" (rCountL X.K) := by
  intro pins s σ H x xs v us Q I rx rxs h
  obtain ⟨y, d, ds, rfl, hl, hy, sl, sd, q⟩ := h
  cases rxs with
  | cons ry rt =>
    rename_i uy ut
    cases rt
    obtain ⟨bs, r1⟩ := Dp.reads I d y uy hy ry
    have hxs : PyData.canLayAll0 ds = true := SeqAt.canLay_of_shaped sl
    have hroom : X.A.units + 1 + min (PyData.depthAll ds) d.depth < cLine := room_in_shaped sd hu
    cases hl with
    | lst hs ha =>
      cases rx
      obtain ⟨its, rv, ⟨⟨cls, dd, data, sls⟩, n, ho, hc, hdn, hdt⟩, hlen⟩ := I.list hs
      simp only at hc hdt
      subst hc hdt
      obtain ⟨as, h4⟩ := Dp.readsAll I ds _ its ha rv
      have hmap : its.map (SeqAt.readOf s.heap) = ds := SeqAt.readsAll_map ds its as hxs h4
      refine call_meets PySem.F.slot_list_count ⟨_, ho, rfl⟩ PySem.F.entry_list_count (PySem.F.args_list_count_2 _ _)
        (SeqAt.list_countAt _ its.toArray n dd sls uy (fun u => PyData.eqv (SeqAt.readOf s.heap u) d)) ⟨ho, SeqAt.items_eqAt (vs := its.toArray) (show ReadsAll s.heap its.toArray.toList ds as from h4) r1 hxs (SeqAt.canLay_of_shaped sd) hroom, ?_⟩
      refine ⟨.int (ds.countP (fun z => PyData.eqv z d) : Nat), H, I.tok _, ⟨s.toks, ?_⟩, q⟩
      rw [← hmap, List.countP_map]
      rfl
/-! ### isinstance of a caught error -/
def rIsX (K : PySem.W.Frag) : List V → Hp → VK → Prop := fun xs H Q => ∃ (a D : Addr) (c : V) (cv : Value) (b : Bool), xs = [.ref a, c] ∧ H a = some (ExR D a) ∧ ExcC K D ∧ (∀ u, RelV c u → u = cv) ∧ PySem.W.kitOne K (.ref D) cv = some b ∧ Q (.bl b) H
theorem call_isX : CallR X (.builtin "isinstance") (rIsX X.K) := by
  intro pins s σ H xs us Q I r h
  obtain ⟨a, D, c, cv, b, rfl, ha, C, hcv, e, q⟩ := h
  cases r with
  | cons rx rr =>
    cases rr with
    | cons rt rr =>
      cases rr
      cases rx
      have ec := hcv _ rt
      subst ec
      obtain ⟨⟨oe, vs, hget, hz, hv⟩, _, _⟩ := I.hok a _ ha
      have J : PySem.W.InstAt s.heap a oe D none := by
        obtain ⟨oc, od, oda, osl⟩ := oe
        obtain ⟨h1, h2⟩ := hz
        dsimp only at h1 h2 hv
        subst h1 h2 hv
        exact ⟨hget, rfl, rfl, trivial⟩
      exact PySem.W.kia_one (PySem.W.handS_kitx_exc C.hg C.hk C.hs C.hd C.ha C.hn C.ht C.hm) I.kIn J e (fun z => nomatch z) fun tk => ⟨.bl b, H, I.kept (t' := tk) fun _ _ z => z, rfl, q⟩
/-! ### a caught error that lives on -/
variable {pins : List (Addr × Obj)} {σ : L2.St} {H : Hp} {s : Shared}
theorem exR_ok {P : Program} {w : World} {H : Hp} {h : Heap} {a D : Addr} {oe : Obj} {vs : Array Value} (e : h.get? a = some oe) (z : Zc (.ref D) none oe) (d : oe.data = .fields vs) : ObjOk P w H h a (ExR D a) :=
  ⟨⟨oe, vs, e, z, d⟩, ⟨oe, e⟩, fun _ _ ⟨o, v, q, r⟩ k => ⟨o, v, k o q, r⟩⟩
theorem track {a D : Addr} {oe : Obj} {vs : Array Value} (I : L2.Inv X ((a, oe) :: pins) σ H s) (z : Zc (.ref D) none oe) (d : oe.data = .fields vs) (h0 : X.s_0.heap.get? a = none) (hp : ∀ p ∈ X.pn ++ pins, p.1 ≠ a) : L2.Inv X pins σ (upd H a (ExR D a)) s := by
  obtain ⟨ga, na, nL, nF, nc⟩ := I.pin (a, oe) (List.mem_append.mpr (.inr List.mem_cons_self))
  have ne : ∀ {b : Addr} {o : HO}, H b = some o → b ≠ a := fun e z => by rw [z, na] at e; cases e
  refine ⟨I.ok, I.os, I.bare, ⟨I.base.keep, I.base.slot, fun b o e n hx => ?_, I.base.there, fun b xs e => ?_, fun b o u e => ?_, fun b ps e => ?_⟩, I.loc, I.cell, ?_, fun x c e => ?_, fun p hm => ?_, ?_, I.len⟩
  · have : b ≠ a := fun z => by rw [z, h0] at e; cases e
    rw [upd_ne this]
    exact I.base.free b o e n hx
  · have q := I.base.tups b xs e
    rw [upd_ne (ne q)]
    exact q
  · have q := I.base.frzs b o u e
    rw [upd_ne (ne q)]
    exact q
  · obtain ⟨m, q⟩ := I.base.tbls b ps e
    exact ⟨m, by rw [upd_ne (ne q)]; exact q⟩
  · rw [upd_ne (Ne.symm nL)]
    exact I.free
  · have hc : c ≠ a := fun q => by
      obtain ⟨v, o, ho, hd⟩ := I.cell x c e
      rw [q, ga] at ho
      cases ho
      rw [d] at hd
      cases hd
    rw [upd_ne hc]
    exact I.freeC x c e
  · have hm' : p ∈ X.pn ++ ((a, oe) :: pins) := by
      rcases List.mem_append.mp hm with h | h
      · exact List.mem_append.mpr (.inl h)
      · exact List.mem_append.mpr (.inr (List.mem_cons_of_mem _ h))
    obtain ⟨e, n, r⟩ := I.pin p hm'
    exact ⟨e, by rw [upd_ne (hp p hm)]; exact n, r⟩
  · exact I.hok.laidN (fun _ _ z => z) na (exR_ok ga z d)
/-- what 'except x as n: m = n' wishes of the body's errors: slot i is n's, slot j is m's -/
def wKeep (K : PySem.W.Frag) (c : Value) (i j : Nat) (Wout : WX) (D : Ends) : WX := fun cls d σ H =>
  ∃ b, PySem.W.exmOne K cls c = some b ∧ (b = true → d = none ∧ ∃ C, cls = .ref C ∧ ∀ a, H a = none → D.nx ((σ.set j (some (.ref a))).set i none) (upd H a (ExR C a))) ∧ (b = false → Wout cls d σ H)
variable {x n m : Str} {c : Value} {i j : Nat} {body : List Stmt} {np p1 p2 pos pos' pos2 : Pos} {tb : WX → TS} {Wout : WX}
theorem ps_tryKeep (stk : X.stack = X.env :: X.outer) (frm : X.env.frame = some X.env.locals) (nd : X.N.Nodup) (ni : X.N[i]? = some n) (nj : X.N[j]? = some m) (ij : i ≠ j) (kn : X.env.kindOf n = some .local) (km : X.env.kindOf m = some .local) (hex : X.ex = []) (nam : Names X x c) (tk : Takes X Wout)
    (sui : ∀ (a : Addr) (pn : List (Addr × Obj)), PSs (X.suite a pn) [.Assign [.Name m p1] (.Name n p2) pos2] (tAsg (tVar i) (gName j)))
    (bod : ∀ (W : WX) (pn : List (Addr × Obj)) (xe : Value → Shared → Prop), Takes (X.tr pn xe) W → PassesOwn (model X.prog X.w) X.A X.env xe → PSs (X.tr pn xe) body (tb W)) :
    PS X (.Try body [.ExceptHandler (some (.Name x np)) (some n) [.Assign [.Name m p1] (.Name n p2) pos2] pos'] [] [] pos) (fun D σ H => tb (wKeep X.K c i j Wout D) D σ H) := by
  refine ⟨fun pins s σ H D inv hyp => ?_⟩
  have okX := inv.ok
  have frames : X.A.frames = some (X.env :: X.outer) := by rw [okX.frames, stk]
  refine wpAny_Try_except ?_
  let xe' : Value → Shared → Prop := fun e s₁ => wpAny (model X.prog X.w) X.A (noteFrame e X.env) (fun _ s₂ => wpAny (model X.prog X.w) X.A (setFlight e none) (fun _ s₃ => wpAny (model X.prog X.w) X.A (handleBy e X.env [.ExceptHandler (some (.Name x np)) (some n) [.Assign [.Name m p1] (.Name n p2) pos2] pos']) (SP X pins D) X.xe s₃) X.xe s₂) X.xe s₁
  have takes : Takes (X.tr (X.pn ++ pins) xe') (wKeep X.K c i j Wout D) := by
    intro u st' caught
    obtain ⟨a, B, sI, pinsI, σ', H', cls, d, rfl, invT, inB, upS, sky0, notH, osE, gensE, b, exm, yes, no⟩ := caught
    have invI : L2.Inv X pins σ' H' sI := invT.ofTry okX
    have sky : Sky B (X.env :: X.outer) a (Zc cls d) X.env.locals st'.heap := by rw [← stk]; exact sky0
    show wpAny (model X.prog X.w) X.A (noteFrame (.ref a) X.env) _ _ _
    refine Sky.land Zc.steady frames frm sky fun hp3 fly3 ups3 => ?_
    have inv3 : L2.Inv X pins σ' H' { st' with heap := hp3 } := invI.landed inB fly3.1 (upS.trans ups3) osE gensE
    obtain ⟨ob3, vs3, at3, zc3, dat3⟩ := fly3.there
    have notFrame : a ∉ frs (X.env :: X.outer) := fun mem => by
      obtain ⟨_, o', e', nofld⟩ := fly3.2.2.1.mem mem
      rw [at3] at e'; cases e'
      exact nofld _ dat3
    have notLoc : a ≠ X.env.locals := fun q => notFrame (List.mem_filterMap.mpr ⟨X.env, List.mem_cons_self, by rw [frm, q]⟩)
    have notFs : a ∉ X.fs := fun mem => by
      obtain ⟨e, he, q⟩ := List.mem_filterMap.mp mem
      exact notFrame (List.mem_filterMap.mpr ⟨e, List.mem_cons_of_mem _ he, q⟩)
    have newI : sI.heap.get? a = none := by
      cases e : sI.heap.get? a with
      | none => rfl
      | some o =>
        have := inB a o e (by rw [stk]; exact notFrame)
        rw [fly3.2.1] at this; cases this
    have new0 : X.s_0.heap.get? a = none := by
      cases e : X.s_0.heap.get? a with
      | none => rfl
      | some o =>
        obtain ⟨o', q⟩ := invI.base.there a o e (by rw [hex]; exact fun z => nomatch z)
        rw [newI] at q; cases q
    have pinNe : ∀ p ∈ X.pn ++ pins, p.1 ≠ a := fun p hm q => by
      have := (invI.pin p hm).1
      rw [q, newI] at this; cases this
    have suite3 := inv3.suite at3 dat3 notH notLoc notFs
    refine wpAny_handleBy_cons (codeAny_handlers_test ?_) (by intro q; cases q)
    have looksT : PySem.W.Looks (model X.prog X.w) hp3 (typeOf (.ref a)) cls := fun A Q E s k q => wpAny_typeOf_ref (k _ _ at3) (by rw [zc3.1]; exact q)
    have looksM := PySem.W.exm_one (M := model X.prog X.w) (inv3.kIn) looksT exm
    have evalC : ∀ {Q : Value → Shared → Prop} {E : Value → Shared → Prop}, Q c { st' with heap := hp3 } → wpAny (model X.prog X.w) (X.A.mark (some (.ref a))) (eval (.Name x np) X.env) Q E { st' with heap := hp3 } := fun {Q E} q => by
      obtain ⟨hg, hdbg, hm | ⟨hm, hv, hnn⟩⟩ := nam
      · exact ld_glob (X := X.suite a ((a, ob3) :: (X.pn ++ pins))) suite3 hg hm q hdbg
      · exact ld_blt (X := X.suite a ((a, ob3) :: (X.pn ++ pins))) suite3 hg hm hv q hnn hdbg
    refine evalC (looksM.here ?_)
    cases b with
    | true =>
      obtain ⟨rfl, C, rfl, cont⟩ := yes rfl
      refine codeAny_handlers_suite_as ?_
      refine HandSPX.lands_againZ fly3 fun hp4 fly4 ups4 => ?_
      have inv4 : L2.Inv X pins σ' H' { st' with heap := hp4 } := invI.landed inB fly4.1 ((upS.trans ups3).trans ups4) osE gensE
      obtain ⟨ob4, vs4, at4, zc4, dat4⟩ := fly4.there
      have suite4 := inv4.suite at4 dat4 notH notLoc notFs
      refine store_ok (X := X.suite a ((a, ob4) :: (X.pn ++ pins))) (v := .ref a) suite4 nd ni (.inl kn) rfl (fun s5 inv5 => ?_) (.inr kn)
      have lenI : i < σ'.length := by
        have h1 := inv4.len
        have h2 := (List.getElem?_eq_some_iff.mp ni).1
        omega
      refine wpAny_mono ((sui a ((a, ob4) :: (X.pn ++ pins))).run [] s5 _ H' { nx := fun σ6 H6 => H6 = H' ∧ σ6 = (σ'.set i (some (.ref a))).set j (some (.ref a)), rt := fun _ _ => False } inv5 ⟨.ref a, ?_, rfl, rfl⟩) (fun f s6 out => ?_) (fun _ _ z => False.elim z)
      · rw [List.getElem?_set_self lenI]
      cases f with
      | next =>
        obtain ⟨σ6, H6, inv6, e1, e2⟩ := out
        subst e1 e2
        have inv7 : L2.Inv X ((a, ob4) :: pins) ((σ'.set i (some (.ref a))).set j (some (.ref a))) H6 s6 :=
          ⟨okX, inv6.os, inv6.bare, inv6.base, inv6.loc, inv6.cell, inv6.free, inv6.freeC, fun p hm => inv6.pin p (by
            show p ∈ ((a, ob4) :: (X.pn ++ pins)) ++ []
            rw [List.append_nil]
            rcases List.mem_append.mp hm with h | h
            · exact List.mem_cons_of_mem _ (List.mem_append.mpr (.inl h))
            · rcases List.mem_cons.mp h with h | h
              · rw [h]; exact List.mem_cons_self
              · exact List.mem_cons_of_mem _ (List.mem_append.mpr (.inr h))), inv6.hok, inv6.len⟩
        refine gone_ok inv7 nd ni kn fun s7 inv8 => ?_
        refine ⟨_, _, track inv8 zc4 dat4 new0 pinNe, ?_⟩
        have e : ((σ'.set i (some (V.ref a))).set j (some (.ref a))).set i none = (σ'.set j (some (.ref a))).set i none := by
          rw [List.set_comm _ _ ij, List.set_set]
        rw [e]
        exact cont a notH
      | brk => obtain ⟨_, _, _, z⟩ := out; exact z.elim
      | cont => obtain ⟨_, _, _, z⟩ := out; exact z.elim
      | ret u => obtain ⟨_, _, _, _, _, z⟩ := out; exact z.elim
    | false =>
      show wpAny _ X.A (handleBy (.ref a) X.env []) _ _ _
      refine wpAny_handleBy_nil ?_
      obtain ⟨k1, k2, k3, oe, vs, T, oT, ts', he, hz, hd, h1, hr⟩ := id fly3
      unfold PySem.passOn
      refine wpAny_bind (wpAny_field he hd h1 ?_)
      rw [if_neg (show ¬ ((Value.ref T == Value.none) = true) from by simp)]
      have thrown : wpAny (model X.prog X.w) X.A (setFlight (.ref a) X.env.frame) (fun _ s4 => wpAny (model X.prog X.w) X.A (throw (.ref a) : Sem Flow) (SP X pins D) X.xe s4) X.xe { st' with heap := hp3 } := by
        rw [frm]
        refine HandSPX.setFlight_upZ fly3 fun h4 hh4 up4 => wpAny_throw (tk _ _ ?_)
        exact ⟨a, B, sI, pins, σ', H', cls, d, rfl, invI, inB, (upS.trans ups3).trans up4, .inr (.inr (by rw [stk]; exact hh4)), notH, osE, gensE, no rfl⟩
      first
        | exact wpAny_bind (wpAny_pure (wpAny_bind thrown))
        | exact wpAny_bind thrown
  refine wpAny_mono ((bod (wKeep X.K c i j Wout D) (X.pn ++ pins) xe' takes PassesOwn.looking).run [] s σ H D (inv.toTry _) hyp) (fun f s1 out => ?_) (fun e s1 he => he)
  cases f with
  | next =>
    obtain ⟨σ', H', J', q⟩ := out
    exact wpAny_execs_nil ⟨σ', H', J'.ofTry okX, q⟩
  | brk =>
    obtain ⟨σ', H', J', q⟩ := out
    exact ⟨σ', H', J'.ofTry okX, q⟩
  | cont =>
    obtain ⟨σ', H', J', q⟩ := out
    exact ⟨σ', H', J'.ofTry okX, q⟩
  | ret u =>
    obtain ⟨v, σ', H', J', r, q⟩ := out
    exact ⟨v, σ', H', J'.ofTry okX, r, q⟩
end
end Lc

set_option Elab.async false
set_option linter.all false
set_option maxRecDepth 100000
set_option maxHeartbeats 4000000
namespace Lc
open PySem L2 PySem.Spec PyProof.Rows
/-! ### errors by number -/
def errNames : List Str := ["InvalidFamily", "InvalidColours", "InvalidNumber", "InvalidLot", "InvalidTold", "InvalidRounding", "InvalidSet", "InvalidNames", "InvalidMixture", "InvalidSums", "InvalidBottom", "InvalidText", "LastOne", "TooMany", "NothingToUndo"]
structure ErrIs (K : PySem.W.Frag) (C : Addr) (k : Nat) : Prop where
  c : ExcC K C
  ex : PySem.W.exmOne K (.ref C) (.ref (He.ga K "ColourError")) = some true
  ve : PySem.W.kitOne K (.ref C) (.type "ValueError") = some true
  k15 : k < 15
  al : ∀ j, j < 15 → PySem.W.kitOne K (.ref C) (.ref (He.ga K (errNames.getD j ""))) = some (decide (j = k))
def Errs (K : PySem.W.Frag) : Prop := ∀ k, k < 15 → ErrIs K (He.ga K (errNames.getD k "")) k
/-! the head's look -/
def excB (K : PySem.W.Frag) (D : Addr) : Bool :=
  decide (PySem.W.findIn K (.ref D) "__getattribute__" = some (some (.builtin "BaseException.__getattribute__"))) && (decide (PySem.W.findIn K (.ref D) "__getattr__" = some none) && (decide (PySem.W.subIn K (.ref D) (.type "BaseException") = some true) && (PySem.W.hasDictIn K D && (decide (PySem.W.findIn K (.ref D) "__class__" = some (some (.builtin "object.__class__"))) && (decide (PySem.W.specialIn K (.builtin "object.__class__") "__get__" = some (some (.builtin "getset_descriptor.__get__"))) && (decide (PySem.W.takesIn K (.builtin "object.__class__") = some true) && decide (PySem.W.mroIn K D (.type "object") = some true)))))))
theorem excB_ok {K : PySem.W.Frag} {D : Addr} (h : excB K D = true) : ExcC K D := by
  unfold excB at h
  simp only [Bool.and_eq_true, decide_eq_true_eq] at h
  obtain ⟨h1, h2, h3, h4, h5, h6, h7, h8⟩ := h
  exact ⟨h1, h2, h3, h4, h5, h6, h7, h8⟩
def errB (K : PySem.W.Frag) (k : Nat) : Bool :=
  excB K (He.ga K (errNames.getD k "")) && (decide (PySem.W.exmOne K (.ref (He.ga K (errNames.getD k ""))) (.ref (He.ga K "ColourError")) = some true) && (decide (PySem.W.kitOne K (.ref (He.ga K (errNames.getD k ""))) (.type "ValueError") = some true) && (List.range 15).all fun j => decide (PySem.W.kitOne K (.ref (He.ga K (errNames.getD k ""))) (.ref (He.ga K (errNames.getD j ""))) = some (decide (j = k)))))
def errsB (K : PySem.W.Frag) : Bool := (List.range 15).all (errB K)
theorem errsB_ok {K : PySem.W.Frag} (h : errsB K = true) : Errs K := by
  intro k hk
  have h1 : errB K k = true := List.all_eq_true.mp h k (List.mem_range.mpr hk)
  unfold errB at h1
  simp only [Bool.and_eq_true, decide_eq_true_eq] at h1
  obtain ⟨h2, h3, h4, h5⟩ := h1
  exact ⟨excB_ok h2, h3, h4, hk, fun j hj => of_decide_eq_true (List.all_eq_true.mp h5 j (List.mem_range.mpr hj))⟩
section
variable {K : PySem.W.Frag} {ρ : Rho} {ta tb : TE} {E : XK} {d e : PyData}
theorem Dq.excI {F : Hp} {v : V} {D : Addr} (h : Dq K F v (excD D)) : ∃ a, v = .ref a ∧ F a = some (ExR D a) := by
  generalize e : excD D = d at h
  cases h with
  | exc h1 =>
    rename_i a D'
    have : D = D' := by
      have h1 : ((D : Nat) : Int) = ((D' : Nat) : Int) := by simpa [excD] using e
      exact Int.ofNat.inj h1
    subst this
    exact ⟨_, rfl, h1⟩
  | scr h1 => simp [scrD, excD] at e
  | dct h1 h2 => exact (dctD_ne e).elim
  | adr a => simp [adrD, excD] at e
  | ty n => simp [excD, tyD] at e
  | _ => simp [excD] at e
def tIsX (K : PySem.W.Frag) (c : V) (ta : TE) : TE := tCB (rIsX K) (tCons ta (tCons (tC c) tNil))
theorem ev_isX {D : Addr} {c : V} {cv : Value} {b : Bool} (h : EvD K ta ρ (excD D)) (C : ExcC K D) (hc : ∀ u, RelV c u → u = cv) (hb : PySem.W.kitOne K (.ref D) cv = some b) : EvD K (tIsX K c ta) ρ (.bool b) := fun A σ H l hE Q q =>
  h A σ H l hE _ fun v H1 s1 hv => by
    obtain ⟨a, rfl, ha⟩ := hv.excI
    exact ⟨a, D, c, cv, b, rfl, same_cut _ _ ha, C, hc, hb, q _ H1 s1 (.bl _)⟩
theorem rel_ref {C : Addr} : ∀ u, RelV (.ref C) u → u = .ref C := fun u h => h
theorem rel_ty {n : String} : ∀ u, RelV (.ty n) u → u = .type n := fun u h => h
/-! ### index, count -/
def tIdxL (K : PySem.W.Frag) (to ta : TE) : TE := tBM K "list" (rIndexD K) to (tCons ta tNil)
def tCntL (K : PySem.W.Frag) (to ta : TE) : TE := tBM K "list" (rCountL K) to (tCons ta tNil)
theorem ev_cntL {ds : List PyData} {n m : Nat} (h : EvD K ta ρ (.list ds)) (k : EvD K tb ρ d) (h1 : Sh n (.list ds)) (h2 : Sh m d) (hn : n ≤ 64 := by decide) (hm : m ≤ 64 := by decide) : EvD K (tCntL K ta tb) ρ (.int (ds.countP (fun z => PyData.eqv z d) : Nat)) := fun A σ H l hE Q q =>
  h A σ H l hE _ fun v H1 s1 hv => by
    refine ⟨?_, k A σ H1 (l.same s1) (hE.same (cut_same s1)) _ fun w H2 s2 hw => ?_⟩
    · obtain ⟨a, xs, rfl, ha, _⟩ := hv.listI
      exact .inl ⟨rfl, xs, SqL.of (same_cut _ _ ha)⟩
    · exact ⟨w, d, ds, rfl, dq_dp _ h1.1 (dq_out (dp_same (cut_same s2) hv)), dq_dp _ h2.1 (dq_out hw), h1.shaped hn, h2.shaped hm, q _ H2 (s1.trans s2) (.int _)⟩
theorem ev_idxL {ds : List PyData} {z : PyData} {j n m : Nat} (h : EvD K ta ρ (.list ds)) (k : EvD K tb ρ d) (h1 : Sh n (.list ds)) (h2 : Sh m d) (hz : ds[j]? = some z) (hj : PyData.eqv z d = true) (hno : ∀ (i : Nat) (z' : PyData), i < j → ds[i]? = some z' → PyData.eqv z' d = false) (hn : n ≤ 64 := by decide) (hm : m ≤ 64 := by decide) : EvD K (tIdxL K ta tb) ρ (.int (j : Nat)) := fun A σ H l hE Q q =>
  h A σ H l hE _ fun v H1 s1 hv => by
    obtain ⟨a, xs, rfl, ha, _⟩ := id hv.listI
    refine ⟨.inl ⟨rfl, xs, SqL.of (same_cut _ _ ha)⟩, k A σ H1 (l.same s1) (hE.same (cut_same s1)) _ fun w H2 s2 hw => ?_⟩
    exact ⟨a, w, d, ds, j, z, rfl, rfl, dq_dp _ h1.1 (dq_out (dp_same (cut_same s2) hv)), dq_dp _ h2.1 (dq_out hw), h1.shaped hn, h2.shaped hm, hz, hj, hno, q _ H2 (s1.trans s2) (.int _)⟩
/-! ### try: r = f(..) except .. as n: m = n -/
def tTryK (K : PySem.W.Frag) (c : Value) (i j r : Nat) (sp : Sp) (tr : TA) : TS := fun D σ H => (tAsg (tCallS sp (WE (wKeep K c i j (fun _ _ _ _ => False) D)) tr) (gName r)) D σ H
theorem xs_tryR {c : Value} {i j r : Nat} {tr : TA} {Rp : List PyData → Out → Prop} {ds : List PyData} (ha : EvA K tr ρ ds) (hp : Rp ds (.rt d)) : ExS K E (tTryK K c i j r (spD K Rp) tr) ρ (.nx (ρ.set r (some d))) := fun A σ H D l hE k =>
  ha A σ H l hE _ fun vs H1 s1 hv => ⟨A, ds, .rt d, l.same s1, hv, hp, fun v H2 s2 h2 => k _ H2 (s1.trans s2) ((hE.same (cut_same (s1.trans s2))).set h2 r)⟩
theorem xs_tryX {C : Addr} {c : Value} {i j r : Nat} {tr : TA} {Rp : List PyData → Out → Prop} {ds : List PyData} (ha : EvA K tr ρ ds) (hp : Rp ds (.ex C)) (hx : PySem.W.exmOne K (.ref C) c = some true) : ExS K E (tTryK K c i j r (spD K Rp) tr) ρ (.nx ((ρ.set j (some (excD C))).set i none)) := fun A σ H D l hE k =>
  ha A σ H l hE _ fun vs H1 s1 hv => ⟨A, ds, .ex C, l.same s1, hv, hp, fun H2 s2 => ⟨true, hx, fun _ => ⟨rfl, C, rfl, fun a ha => by
    have s3 := (s1.trans s2).trans (same_new (o := ExR C a) ha)
    exact k _ _ s3 (((hE.same (cut_same s3)).set (.exc (cut_new (l.same (s1.trans s2)) ha)) j).forget none i)⟩, fun z => nomatch z⟩⟩
end
/-- f(..) in a body that is tried -/
theorem pe_callFS {X : Cx} {k : Nat} {x : Str} {ps : List Str} {sp : Sp} {W : WX} {p pos : Pos} {e : Expr} {es : List Expr} {t : TA} (F : FnAt X.prog X.w X.K X.mg X.base k x ps sp) (hr : Room k X.A) (hg : Gl X x) (tk : Takes X W)
    (ha : PA X (e :: es) t) (hdb : (x == ("__debug__" : Str)) = false := by decide) (he : starEach (e :: es) X.env = (false, eval e X.env) :: starEach es X.env := by rfl) (hpl : (backTo pos (starEach es X.env)).any (·.1) = false := by rfl) :
    PE X (.Call (.Name x p) (e :: es) [] pos) (tCallS sp (WE W) t) := by
  obtain ⟨f, fd, F1, g, kp, b⟩ := F
  exact pe_callS F1 hr hg g kp b (fun σ => passAt tk σ) ha hdb he hpl
/-! ### the promises of _law_name, _law_raises, _law_outcome -/
def R_law_name (K : PySem.W.Frag) : List PyData → Out → Prop := fun ds o => ∃ C k, ErrIs K C k ∧ ds = [excD C] ∧ o = .rt (.int (k : Int))
def sp_law_name (K : PySem.W.Frag) : Sp := spD K (R_law_name K)
def errWords : List Str := ["family", "colours", "number", "lot", "told", "rounding", "set", "names", "mixture", "sums", "bottom", "text", "last_one", "many", "undo"]
def raisedD (k : Nat) : PyData := .tuple [.str "raised", .int (k : Int)]
def retD (d : PyData) : PyData := .tuple [.str "returned", d]
def R_law_raises : List PyData → Out → Prop := fun ds o => ∃ k, k < 15 ∧ ds = [.str (errWords.getD k "")] ∧ o = .rt (raisedD k)
def sp_law_raises (K : PySem.W.Frag) : Sp := spD K R_law_raises
def R_outcome (K : PySem.W.Frag) (Rc : List PyData → Out → Prop) : List PyData → Out → Prop := fun ds o => ds.length = 2 ∧ ((∃ d, Rc ds (.rt d) ∧ o = .rt (retD d)) ∨ ∃ C k, Rc ds (.ex C) ∧ ErrIs K C k ∧ o = .rt (raisedD k))
end Lc

set_option Elab.async false
set_option linter.all false
set_option maxRecDepth 100000
set_option maxHeartbeats 4000000
namespace Lc
open PySem L2 PySem.Spec PyProof.Rows
def t_law_name (K : PySem.W.Frag) (E : XK) : TS := (tSeq (tIfS (tNot (tB (tIsX K (.ty "ValueError") (tVar 0)))) (tRet (tUn (rU fun i => .int (-i)) (tC (.int 1)))) tNext)
  (tSeq (tAsg (tLst (tCons (tIsX K (.ref (He.ga K "InvalidFamily")) (tVar 0)) (tCons (tIsX K (.ref (He.ga K "InvalidColours")) (tVar 0)) tNil))) (gName 1))
  (tSeq (tAsg (tOp (rAddU K) (tVar 1) (tLst (tCons (tIsX K (.ref (He.ga K "InvalidNumber")) (tVar 0)) (tCons (tIsX K (.ref (He.ga K "InvalidLot")) (tVar 0)) tNil)))) (gName 1))
  (tSeq (tAsg (tOp (rAddU K) (tVar 1) (tLst (tCons (tIsX K (.ref (He.ga K "InvalidTold")) (tVar 0)) (tCons (tIsX K (.ref (He.ga K "InvalidRounding")) (tVar 0)) tNil)))) (gName 1))
  (tSeq (tAsg (tOp (rAddU K) (tVar 1) (tLst (tCons (tIsX K (.ref (He.ga K "InvalidSet")) (tVar 0)) (tCons (tIsX K (.ref (He.ga K "InvalidNames")) (tVar 0)) tNil)))) (gName 1))
  (tSeq (tAsg (tOp (rAddU K) (tVar 1) (tLst (tCons (tIsX K (.ref (He.ga K "InvalidMixture")) (tVar 0)) (tCons (tIsX K (.ref (He.ga K "InvalidSums")) (tVar 0)) tNil)))) (gName 1))
  (tSeq (tAsg (tOp (rAddU K) (tVar 1) (tLst (tCons (tIsX K (.ref (He.ga K "InvalidBottom")) (tVar 0)) (tCons (tIsX K (.ref (He.ga K "InvalidText")) (tVar 0)) tNil)))) (gName 1))
  (tSeq (tAsg (tOp (rAddU K) (tVar 1) (tLst (tCons (tIsX K (.ref (He.ga K "LastOne")) (tVar 0)) (tCons (tIsX K (.ref (He.ga K "TooMany")) (tVar 0)) tNil)))) (gName 1))
  (tSeq (tAsg (tOp (rAddU K) (tVar 1) (tLst (tCons (tIsX K (.ref (He.ga K "NothingToUndo")) (tVar 0)) tNil))) (gName 1))
  (tRet (tIf (tTest (tOp (rEqD K) (tCntL K (tVar 1) (tC (.bl true))) (tC (.int 1)))) (tIdxL K (tVar 1) (tC (.bl true))) (tUn (rU fun i => .int (-i)) (tC (.int 1))))))))))))))
def t_law_raises (K : PySem.W.Frag) (E : XK) : TS := (tSeq (tAsg (tLst (tCons (tC (.str "family")) (tCons (tC (.str "colours")) (tCons (tC (.str "number")) (tCons (tC (.str "lot")) (tCons (tC (.str "told")) (tCons (tC (.str "rounding")) (tCons (tC (.str "set")) (tCons (tC (.str "names")) tNil))))))))) (gName 1))
  (tSeq (tAsg (tOp (rAddU K) (tVar 1) (tLst (tCons (tC (.str "mixture")) (tCons (tC (.str "sums")) (tCons (tC (.str "bottom")) (tCons (tC (.str "text")) (tCons (tC (.str "last_one")) (tCons (tC (.str "many")) (tCons (tC (.str "undo")) tNil))))))))) (gName 1))
  (tRet (tTup (tCons (tC (.str "raised")) (tCons (tIdxL K (tVar 1) (tVar 0)) tNil))))))
def t_outcome (K : PySem.W.Frag) (spc : Sp) : TS := (tSeq (tAsg (tC .non) (gName 2))
  (tSeq (tAsg (tC .non) (gName 3))
  (tSeq (tTryK K (.ref (He.ga K "ColourError")) 4 2 3 spc (tCons (tVar 0) (tCons (tVar 1) tNil)))
  (tSeq (tIfS (tTest (tOp rIsU (tVar 2) (tC .non))) (tRet (tTup (tCons (tC (.str "returned")) (tCons (tVar 3) tNil)))) tNext)
  (tRet (tTup (tCons (tC (.str "raised")) (tCons (tCall (sp_law_name K) [] E0 (tCons (tVar 2) tNil)) tNil))))))))
section
variable {K : PySem.W.Frag} {E : XK}
theorem eqv_str (a b : Str) : PyData.eqv (.str a) (.str b) = decide (a = b) := by simp only [PyData.eqv]; rw [Bool.beq_eq_decide_eq]
theorem cnt_one (k : Nat) (hk : k < 15) : (((List.range 15).map fun j => PyData.bool (decide (j = k))).countP fun z => PyData.eqv z (.bool true)) = 1 := by
  have : ∀ k, k < 15 → (((List.range 15).map fun j => PyData.bool (decide (j = k))).countP fun z => PyData.eqv z (.bool true)) = 1 := by
    intro k hk
    rw [List.countP_map]
    have e : ((fun z => PyData.eqv z (.bool true)) ∘ fun j => PyData.bool (decide (j = k))) = fun j => decide (j = k) := by
      funext j
      show PyData.eqv (.bool (decide (j = k))) (.bool true) = _
      rw [eqv_bool]
      cases decide (j = k) <;> rfl
    rw [e]
    clear e
    revert k
    decide +kernel
  exact this k hk
theorem x_law_name {C : Addr} {k : Nat} (h : ErrIs K C k) : ExS K E (t_law_name K E) [some (excD C), none] (.rt (.int (k : Int))) := by
  have hv : ∀ (fo : Option PyData) (j : Nat), j < 15 → EvD K (tIsX K (.ref (He.ga K (errNames.getD j ""))) (tVar 0)) [some (excD C), fo] (.bool (decide (j = k))) := fun fo j hj => ev_isX (ev_var rfl) h.c rel_ref (h.al j hj)
  have two : ∀ (l : List PyData) (i j : Nat), l.length ≤ 100 → i < 15 → j < 15 → EvD K (tOp (rAddU K) (tVar 1) (tLst (tCons (tIsX K (.ref (He.ga K (errNames.getD i ""))) (tVar 0)) (tCons (tIsX K (.ref (He.ga K (errNames.getD j ""))) (tVar 0)) tNil)))) [some (excD C), some (.list l)] (.list (l ++ [.bool (decide (i = k)), .bool (decide (j = k))])) := fun l i j hl hi hj => ev_op (ev_var rfl) (ev_lst (ea_cons (hv _ i hi) (ea_cons (hv _ j hj) ea_nil)) (by simp)) (od_addL (by simp; omega))
  refine xs_seq (xs_if (b := false) (et_not (et_B (ev_isX (ev_var rfl) h.c rel_ty h.ve))) (fun z => by cases z) (fun _ => xs_next)) ?_
  refine xs_seq (xs_asg (ev_lst (ea_cons (hv _ 0 (by decide)) (ea_cons (hv _ 1 (by decide)) ea_nil)) (by simp))) ?_
  refine xs_seq (xs_asg (two [.bool (decide (0 = k)), .bool (decide (1 = k))] 2 3 (by simp) (by decide) (by decide))) ?_
  refine xs_seq (xs_asg (two _ 4 5 (by simp) (by decide) (by decide))) ?_
  refine xs_seq (xs_asg (two _ 6 7 (by simp) (by decide) (by decide))) ?_
  refine xs_seq (xs_asg (two _ 8 9 (by simp) (by decide) (by decide))) ?_
  refine xs_seq (xs_asg (two _ 10 11 (by simp) (by decide) (by decide))) ?_
  refine xs_seq (xs_asg (two _ 12 13 (by simp) (by decide) (by decide))) ?_
  refine xs_seq (xs_asg (ev_op (ev_var rfl) (ev_lst (ea_cons (hv _ 14 (by decide)) ea_nil) (by simp)) (od_addL (by simp)))) ?_
  show ExS K E _ [some (excD C), some (.list ((List.range 15).map fun j => PyData.bool (decide (j = k))))] _
  have hsh : Sh 1 (.list ((List.range 15).map fun j => PyData.bool (decide (j = k)))) := sh_lst fun d hd => by
    obtain ⟨j, _, rfl⟩ := List.mem_map.mp hd
    exact sh_bool
  refine xs_ret (ev_if (b := true) (et_to (et_test (ev_op (ev_cntL (ev_var rfl) ev_bl hsh (sh_bool (n := 1))) ev_int (od_eq (sh_int (n := 1)) (sh_int (n := 1))))) ?_) (fun _ => ev_idxL (z := .bool true) (ev_var rfl) ev_bl hsh (sh_bool (n := 1)) ?_ (by decide +kernel) (fun i z' hi hz => ?_)) (fun z => by cases z))
  · rw [cnt_one k h.k15]; decide +kernel
  · rw [List.getElem?_map, List.getElem?_range h.k15]
    simp
  · have h15 := h.k15
    rw [List.getElem?_map, List.getElem?_range (by omega)] at hz
    have : z' = PyData.bool (decide (i = k)) := (Option.some.inj hz).symm
    rw [this, eqv_bool, decide_eq_false (by omega : ¬ i = k)]
    rfl
theorem pure_law_name {vs : List V} {H : Hp} {Q : VK} (hs : sp_law_name K vs H Q E) : t_law_name K E { nx := fun _ H' => Q .non H', rt := Q } (L2.start ["caught", "found"] vs) H :=
  sp_body (fun ds o h => by
    obtain ⟨C, k, hk, rfl, rfl⟩ := h
    exact .inl (x_law_name hk)) hs
theorem sh_strs : ∀ d ∈ errWords.map PyData.str, Sh 0 d := by
  have h : ∀ x ∈ errWords, PyData.strOk x = true := by decide +kernel
  intro d hd
  obtain ⟨x, hx, rfl⟩ := List.mem_map.mp hd
  exact ⟨by simp only [PyData.canLay0]; exact h x hx, by simp [PyData.depth]⟩
theorem words_nodup : ∀ i, i < 15 → ∀ j, j < 15 → i ≠ j → errWords.getD i "" ≠ errWords.getD j "" := by decide +kernel
theorem x_law_raises {k : Nat} (hk : k < 15) : ExS K E (t_law_raises K E) [some (.str (errWords.getD k "")), none] (.rt (raisedD k)) := by
  refine xs_seq (xs_asg (ev_lst (ea_cons ev_str (ea_cons ev_str (ea_cons ev_str (ea_cons ev_str (ea_cons ev_str (ea_cons ev_str (ea_cons ev_str (ea_cons ev_str ea_nil)))))))) (by simp))) ?_
  refine xs_seq (xs_asg (ev_op (ev_var rfl) (ev_lst (ea_cons ev_str (ea_cons ev_str (ea_cons ev_str (ea_cons ev_str (ea_cons ev_str (ea_cons ev_str (ea_cons ev_str ea_nil))))))) (by simp)) (od_addL (by simp)))) ?_
  show ExS K E _ [some (.str (errWords.getD k "")), some (.list (errWords.map .str))] _
  have hg : ∀ i, i < 15 → (errWords.map PyData.str)[i]? = some (.str (errWords.getD i "")) := fun i hi => by
    rw [List.getElem?_map, List.getD_eq_getElem?_getD, List.getElem?_eq_getElem (by simpa [errWords] using hi)]
    rfl
  have hm : PyData.str (errWords.getD k "") ∈ errWords.map PyData.str := List.mem_of_getElem? (hg k hk)
  refine xs_ret (ev_tup (ea_cons ev_str (ea_cons (ev_idxL (z := .str (errWords.getD k "")) (n := 1) (m := 0) (ev_var rfl) (ev_var rfl) (sh_lst sh_strs) (sh_strs _ hm) (hg k hk) ?_ (fun i z' hi hz => ?_)) ea_nil)) (by simp))
  · rw [eqv_str, decide_eq_true rfl]
  · rw [hg i (by omega)] at hz
    have : z' = .str (errWords.getD i "") := (Option.some.inj hz).symm
    rw [this, eqv_str, decide_eq_false (words_nodup i (by omega) k hk (by omega))]
theorem pure_law_raises {vs : List V} {H : Hp} {Q : VK} (hs : sp_law_raises K vs H Q E) : t_law_raises K E { nx := fun _ H' => Q .non H', rt := Q } (L2.start ["name", "some"] vs) H :=
  sp_body (fun ds o h => by
    obtain ⟨k, hk, rfl, rfl⟩ := h
    exact .inl (x_law_raises hk)) hs
theorem x_outcomeR {Rc : List PyData → Out → Prop} {a b d : PyData} (h : Rc [a, b] (.rt d)) : ExS K E (t_outcome K (spD K Rc)) [some a, some b, none, none, none] (.rt (retD d)) := by
  refine xs_seq (xs_asg ev_non) (xs_seq (xs_asg ev_non) (xs_seq (xs_tryR (ds := [a, b]) (ea_cons (ev_var rfl) (ea_cons (ev_var rfl) ea_nil)) h) ?_))
  refine xs_seqR (xs_if (b := true) (et_to (et_test (ev_op (ev_var (d := .none) rfl) ev_non od_isN)) rfl) (fun _ => xs_ret (ev_tup (ea_cons ev_str (ea_cons (ev_var rfl) ea_nil)) (by simp))) (fun z => by cases z))
theorem x_outcomeX {Rc : List PyData → Out → Prop} {a b : PyData} {C : Addr} {k : Nat} (h : Rc [a, b] (.ex C)) (hE : ErrIs K C k) : ExS K E (t_outcome K (spD K Rc)) [some a, some b, none, none, none] (.rt (raisedD k)) := by
  refine xs_seq (xs_asg ev_non) (xs_seq (xs_asg ev_non) (xs_seq (xs_tryX (ds := [a, b]) (ea_cons (ev_var rfl) (ea_cons (ev_var rfl) ea_nil)) h hE.ex) ?_))
  refine xs_seq (xs_if (b := false) (et_to (et_test (ev_op (ev_var (d := excD C) rfl) ev_non od_isN)) rfl) (fun z => by cases z) (fun _ => xs_next)) ?_
  exact xs_ret (ev_tup (ea_cons ev_str (ea_cons (ev_call (ea_cons (ev_var rfl) ea_nil) ⟨C, k, hE, rfl, rfl⟩) ea_nil)) (by simp))
theorem pure_outcome {Rc : List PyData → Out → Prop} {vs : List V} {H : Hp} {Q : VK} (hs : spD K (R_outcome K Rc) vs H Q E) : t_outcome K (spD K Rc) { nx := fun _ H' => Q .non H', rt := Q } (L2.start ["how", "arguments", "caught", "result", "error"] vs) H :=
  sp_body (fun ds o h => by
    obtain ⟨hl, h⟩ := h
    match ds, hl with
    | [a, b], _ =>
      rcases h with ⟨d, hd, rfl⟩ | ⟨C, k, hd, hE, rfl⟩
      · exact .inl (x_outcomeR hd)
      · exact .inl (x_outcomeX hd hE)) hs
end
end Lc

set_option Elab.async false
set_option linter.all false
set_option maxRecDepth 100000
set_option maxHeartbeats 4000000
namespace Lc
open PySem L2 PySem.Spec PyProof.Rows
section
variable {K : PySem.W.Frag} {E : XK} {ρ : Rho} {ta tb : TE} {t : TT} {d : PyData}
/-! ### return f(..) of a def that may raise, in a choice -/
theorem ev_orX {R : List PyData → Out → Prop} {tr : TA} {ds : List PyData} {o : Out} (ha : EvA K tr ρ ds) (h : R ds o) : ∀ A σ H, Live A H → EnvD K (cut A H) σ ρ → ∀ Q : VK, ResC K A E Q H o → tCall (spD K R) [] E tr σ H Q := fun A σ H l hE Q q =>
  ha A σ H l hE _ fun vs H1 s1 hv => by
    rw [List.append_nil]
    refine ⟨A, ds, o, l.same s1, hv, h, ?_⟩
    cases o with
    | nx r => exact q
    | rt d => exact fun v H2 s2 h2 => q v H2 (s1.trans s2) h2
    | ex C => exact fun H2 s2 => q H2 (s1.trans s2)
theorem xs_retCall {R : List PyData → Out → Prop} {tr : TA} {ds : List PyData} {o : Out} (ha : EvA K tr ρ ds) (h : R ds o) (ho : ∀ r, o ≠ .nx r) : ExS K E (tRet (tCall (spD K R) [] E tr)) ρ o := fun A σ H D l hE c => by
  refine ev_orX ha h A σ H l hE _ ?_
  cases o with
  | nx r => exact (ho r rfl).elim
  | rt d => exact c
  | ex C => exact c
theorem xs_retIfT {R : List PyData → Out → Prop} {tr : TA} {ds : List PyData} {o : Out} (ht : EvT K t ρ true) (ha : EvA K tr ρ ds) (h : R ds o) (ho : ∀ r, o ≠ .nx r := by intro r; first | (intro z; cases z) | skip) : ExS K E (tRet (tIf t (tCall (spD K R) [] E tr) tb)) ρ o := fun A σ H D l hE c =>
  ht A σ H l hE _ fun H1 s1 => iteT (xs_retCall ha h ho A σ H1 D (l.same s1) (hE.same (cut_same s1)) (by
    cases o with
    | nx r => exact fun σ' H' s e => c σ' H' (s1.trans s) e
    | rt d => exact fun v H' s e => c v H' (s1.trans s) e
    | ex C => exact fun H' s => c H' (s1.trans s)))
theorem xs_retIfF {R : List PyData → Out → Prop} {tr : TA} {ds : List PyData} {o : Out} (ht : EvT K t ρ false) (ha : EvA K tr ρ ds) (h : R ds o) (ho : ∀ r, o ≠ .nx r := by intro r; first | (intro z; cases z) | skip) : ExS K E (tRet (tIf t ta (tCall (spD K R) [] E tr))) ρ o := fun A σ H D l hE c =>
  ht A σ H l hE _ fun H1 s1 => iteF (xs_retCall ha h ho A σ H1 D (l.same s1) (hE.same (cut_same s1)) (by
    cases o with
    | nx r => exact fun σ' H' s e => c σ' H' (s1.trans s) e
    | rt d => exact fun v H' s e => c v H' (s1.trans s) e
    | ex C => exact fun H' s => c H' (s1.trans s)))
/-! ### _law_pick -/
def P_law_pick : List PyData → Prop := fun ds => ∃ xs, ds = [.list xs] ∧ xs ≠ [] ∧ xs.length ≤ 100000
def R_law_pick : List PyData → PyData → Prop := fun ds d => ∃ xs, ds = [.list xs] ∧ d ∈ xs
def sp_law_pick (K : PySem.W.Frag) : Sp := spT K 1 P_law_pick R_law_pick
def t_law_pick (K : PySem.W.Frag) (E : XK) : TS := (tRet (tOp (rIx K) (tVar 2) (tCall (sp_law_draw K) [] E0 (tCons (tVar 0) (tCons (tVar 1) (tCons (tCB (rLenU K) (tCons (tVar 2) tNil)) tNil))))))
theorem pure_law_pick {vs : List V} {H : Hp} {Q : VK} (hs : sp_law_pick K vs H Q E) : t_law_pick K E { nx := fun _ H' => Q .non H', rt := Q } (L2.start ["script", "town", "choices"] vs) H :=
  sp_bodyT (fun tn ns ds h => by
    obtain ⟨xs, rfl, hne, hl⟩ := h
    have hpos : 0 < xs.length := List.length_pos_iff.mpr hne
    refine ExW.mono (xw_ret (R := fun d => d ∈ xs) (ew_op (n := 0) (m := 1) (Ra := (· = .list xs)) (Rb := fun d => ∃ r : Int, d = .int r ∧ 0 ≤ r ∧ r < (xs.length : Int)) (ew_pure (ev_var rfl)) (ew_draw (k := (xs.length : Int)) rfl rfl (ev_cb (ea_cons (ev_var rfl) ea_nil) ca_lenL) (by omega) (by omega)) (fun d e hd he => ?_))) (by omega) (fun _ z => z) (fun d hd => ⟨xs, rfl, hd⟩)
    obtain ⟨r, rfl, h0, h1⟩ := he
    subst hd
    have hr : r.toNat < xs.length := by omega
    exact ⟨xs[r.toNat], od_ixL (atI_of h0 (List.getElem?_eq_getElem hr)), List.getElem_mem hr⟩) hs
/-- script, town and a list to pick of -/
theorem ew_pick {E' : XK} {tn : Addr} {ns : List Int} {R : PyData → Prop} {tl : TE} {i j : Nat} {xs : List PyData} (hi : ρ[i]? = some (some (scrD ns))) (hj : ρ[j]? = some (some (adrD tn))) (hk : EvD K tl ρ (.list xs)) (hne : xs ≠ []) (hl : xs.length ≤ 100000) (hR : ∀ d ∈ xs, R d) :
    EvW K tn ns (tCall (sp_law_pick K) [] E' (tCons (tVar i) (tCons (tVar j) (tCons tl tNil)))) ρ 1 R :=
  ew_town (P := P_law_pick) (Rt := R_law_pick) hi hj hk ⟨xs, rfl, hne, hl⟩ (fun e ⟨ys, h1, h2⟩ => hR e (by
    have : xs = ys := by simpa using h1
    rw [this]; exact h2))
/-! ### outcomes -/
theorem ev_outR {Rc : List PyData → Out → Prop} {a : PyData} {f : PyData} (h1 : EvD K ta ρ a) (h2 : EvD K tb ρ d) (h : Rc [a, d] (.rt f)) : EvD K (tCall (spD K (R_outcome K Rc)) [] E0 (tCons ta (tCons tb tNil))) ρ (retD f) :=
  ev_call (ea_cons h1 (ea_cons h2 ea_nil)) ⟨rfl, .inl ⟨f, h, rfl⟩⟩
theorem ev_outX {Rc : List PyData → Out → Prop} {a : PyData} {C : Addr} {k : Nat} (h1 : EvD K ta ρ a) (h2 : EvD K tb ρ d) (h : Rc [a, d] (.ex C)) (hE : ErrIs K C k) : EvD K (tCall (spD K (R_outcome K Rc)) [] E0 (tCons ta (tCons tb tNil))) ρ (raisedD k) :=
  ev_call (ea_cons h1 (ea_cons h2 ea_nil)) ⟨rfl, .inr ⟨C, k, h, hE, rfl⟩⟩
theorem ev_raises {w : Str} (k : Nat) (hk : k < 15) (hw : w = errWords.getD k "") : EvD K (tCall (sp_law_raises K) [] E0 (tCons (tC (.str w)) tNil)) ρ (raisedD k) :=
  ev_call (ea_cons ev_str ea_nil) ⟨k, hk, by rw [hw], rfl⟩
theorem sh_raised {n k : Nat} : Sh (n + 1) (raisedD k) := sh_tup fun d hd => by
  rcases List.mem_cons.mp hd with e | e
  · rw [e]; exact ⟨by simp only [PyData.canLay0]; decide +kernel, by simp [PyData.depth]⟩
  · rw [List.mem_singleton.mp e]; exact sh_int
theorem sh_ret {n : Nat} (h : Sh n d) : Sh (n + 1) (retD d) := sh_tup fun e he => by
  rcases List.mem_cons.mp he with e | e
  · rw [e]; exact ⟨by simp only [PyData.canLay0]; decide +kernel, by simp [PyData.depth]⟩
  · rw [List.mem_singleton.mp e]; exact h
theorem eq_refl {n : Nat} (h : Sh n d) : PyData.eqv d d = true := SeqAt.eqv_refl d h.1
/-- a for that only looks at each -/
theorem xs_forEach {wi : TI} {ts tz : TS} {o : Out} {j : Nat} {xs : List PyData} (hi : ItD K wi ρ xs) (hj : j < ρ.length) (hb : ∀ x ∈ xs, ExS K E ts (ρ.set j (some x)) (.nx (ρ.set j (some x)))) (hz : ∀ q : Option PyData, ExS K E tz (ρ.set j q) o) : ExS K E (tSeq (tFor wi (gName j) ts) tz) ρ o := by
  have hr0 : ρ.set j ((ρ[j]?).getD none) = ρ := by
    rw [List.getElem?_eq_getElem hj]
    show ρ.set j ρ[j] = ρ
    rw [List.set_getElem_self]
  have hi' : ItD K wi ρ (xs.map fun x => x) := by rw [List.map_id']; exact hi
  refine xs_seq (xs_for (ws := [j]) xs (fun x => x) (fun i => ρ.set j (if i = 0 then (ρ[j]?).getD none else xs[i - 1]?)) (fun i => ρ.set j (xs[i]?)) hi' ?_ (fun i h => ?_) (fun i h => ?_)) (hz _)
  · show ρ.set j (if 0 = 0 then _ else _) = ρ
    rw [if_pos rfl]; exact hr0
  · have := tg_name (K := K) (i := j) (d := xs[i]) (ρ := ρ.set j (if i = 0 then (ρ[j]?).getD none else xs[i - 1]?))
    rw [List.set_set] at this
    show TgD K (gName j) xs[i] _ (ρ.set j xs[i]?) [j]
    rw [List.getElem?_eq_getElem h]
    exact this
  · show ExS K E ts (ρ.set j xs[i]?) (.nx (ρ.set j (if i + 1 = 0 then _ else xs[i + 1 - 1]?)))
    rw [if_neg (by omega), Nat.add_sub_cancel, List.getElem?_eq_getElem h]
    exact hb _ (List.getElem_mem h)
/-- the law's promise where errors are caught -/
def spLawE (K : PySem.W.Frag) : Sp := fun vs H Q E => Errs K ∧ spLaw K vs H Q E
end
end Lc

set_option Elab.async false
set_option linter.all false
set_option maxRecDepth 100000
set_option maxHeartbeats 4000000
namespace Lc
open PySem L2 PySem.Spec PyProof.Rows
/-! ### the head's look with the errors -/
def obsX (n : Nat) (fa : List He.Fa) (fn : List He.DefD) (g : Addr → Option Obj) : Bool × He.AlD := (errsB (He.frG g (He.asD g n)), He.obsD fa fn (He.frG g (He.asD g n)))
def hookX (n : Nat) (fa : List He.Fa) (fn : List He.DefD) : PySem.W.Hook where
  α := Bool × He.AlD
  obs := fun s => obsX n fa fn s.heap.get?
  val := fun _ => (true, He.valD fn)
  says := fun _ h => ∃ K : PySem.W.Frag, K.In h ∧ errsB K = true ∧ He.SaysD fa fn K
  of := fun _ _ e => ⟨_, He.frG_in, congrArg Prod.fst e, congrArg Prod.snd e⟩
  keeps := fun _ _ _ ⟨K, hK, b, c⟩ k => ⟨K, PySem.W.Frag.In.keeps hK k, b, c⟩
theorem obsX_eq {n : Nat} {fa : List He.Fa} {fn : List He.DefD} {g : Addr → Option Obj} {s : Shared} (h : ∀ a, g a = s.heap.get? a) : obsX n fa fn g = (hookX n fa fn).obs s := by
  have e : g = s.heap.get? := funext h
  rw [e] <;> rfl
end Lc

set_option Elab.async false
set_option linter.all false
set_option maxRecDepth 100000
set_option maxHeartbeats 4000000
namespace Lc
open PySem L2 PySem.Spec PyProof.Rows
/-! ### texts -/
def sgn (c : Nat) : Str := ⟨#[c]⟩
def signsD (x : Str) : List PyData := x.cps.toList.map fun c => .str (sgn c)
theorem signsD_len (x : Str) : (signsD x).length = x.cps.size := by simp [signsD]
section
variable {K : PySem.W.Frag} {A : List Addr} {ρ : Rho} {ta tb te : TE} {d e : PyData}
theorem itok_str {x : Str} {H1 : Hp} : ItOk K A (Its x) (signsD x) H1 where
  goes := fun i H hi _ => by show i < x.cps.size; rw [signsD_len] at hi; exact hi
  stops := fun H _ => by show x.cps.size ≤ (signsD x).length; rw [signsD_len]; exact Nat.le_refl _
  yields := fun i H v H' B hi _ l _ y => by
    obtain ⟨rfl, c, hc, rfl⟩ := y
    refine ⟨Same.refl _, .str (sgn c), ?_, .str _⟩
    unfold signsD
    rw [List.getElem?_map, Array.getElem?_toList, hc]
    rfl
theorem it_str {x : Str} (h : EvD K te ρ (.str x)) : ItD K (iStr te) ρ (signsD x) := fun A σ H l hE R q => h A σ H l hE _ fun v H1 s1 hv => by
  cases hv
  exact ⟨x, rfl, q _ H1 s1 itok_str⟩
def rJoin (K : PySem.W.Frag) : V → List V → Hp → VK → Prop := fun x xs H Q => ∃ a p, ∃ ys : List Str, x = .str a ∧ xs = [.ref p] ∧ (SqL K H p (ys.map V.str) ∨ SqT K H p (ys.map V.str)) ∧ (ys.map (·.length)).sum + ys.length * a.length ≤ 16777216 ∧ Q (.str (Txt.join a ys)) H
def tJoin (K : PySem.W.Frag) (to te : TE) : TE := tM1 (rJoin K) to te
theorem ev_join {a : Str} {ys : List Str} (h : EvD K ta ρ (.str a)) (k : EvD K tb ρ (.list (ys.map .str))) (hz : (ys.map (·.length)).sum + ys.length * a.length ≤ 16777216) : EvD K (tJoin K ta tb) ρ (.str (Str.join a ys)) := fun A σ H l hE Q q =>
  h A σ H l hE _ fun v H1 s1 hv => by
    cases hv
    refine ⟨⟨a, rfl⟩, k A σ H1 (l.same s1) (hE.same (cut_same s1)) _ fun w H2 s2 hw => ?_⟩
    obtain ⟨p, xs, rfl, hp, hx⟩ := hw.listI
    have e : xs = ys.map V.str := hx.strs
    subst e
    refine ⟨a, p, ys, rfl, rfl, .inl (SqL.of (same_cut _ _ hp)), hz, q _ H2 (s1.trans s2) ?_⟩
    have e : Txt.join a ys = Str.join a ys := StrLaws.glued_eq_join a ys
    rw [e]; exact .str _
def rSplit : V → List V → Hp → VK → Prop := fun x xs H Q => ∃ a b, x = .str a ∧ xs = [.str b] ∧ (b.length == 0) = false ∧ a.length + 2 ≤ sizeLine ∧ rNewStrs (Txt.split a b) H Q
def tSplit (to te : TE) : TE := tM1 rSplit to te
theorem strs_dq {F : Hp} : ∀ ys : List Str, DqAll K F (ys.map V.str) (ys.map PyData.str)
  | [] => .nil
  | y :: ys => .cons (.str y) (strs_dq ys)
theorem ev_split {a b : Str} (h : EvD K ta ρ (.str a)) (k : EvD K tb ρ (.str b)) (hb : (b.length == 0) = false) (hz : a.length + 2 ≤ sizeLine) : EvD K (tSplit ta tb) ρ (.list ((Txt.split a b).map .str)) := fun A σ H l hE Q q =>
  h A σ H l hE _ fun v H1 s1 hv => by
    cases hv
    refine ⟨⟨a, rfl⟩, k A σ H1 (l.same s1) (hE.same (cut_same s1)) _ fun w H2 s2 hw => ?_⟩
    cases hw
    exact ⟨a, b, rfl, rfl, hb, hz, fun p hp => q _ _ ((s1.trans s2).trans (same_new hp)) (.lst (cut_new (l.same (s1.trans s2)) hp) (strs_dq _))⟩
/-- f'{e}..' -/
def tFs (te : TE) (z : Str) : TE := fun σ H Q => tJs [tFmt te, tC (.str z)] Str.empty σ H fun out H1 => Q (.str out) H1
theorem ev_fs {i : Int} {z : Str} (h : EvD K te ρ (.int i)) (hi : i.natAbs.log2 < 1920) (hl : (Str.length (toString i)) + z.length ≤ 100000) : EvD K (tFs te z) ρ (.str ((toString i : Str) ++ z)) := fun A σ H l hE Q q =>
  h A σ H l hE _ fun v H1 s1 hv => by
    cases hv
    refine .inr ⟨i, rfl, hi, _, rfl, ?_, _, rfl, ?_, ?_⟩
    · rw [Str.empty_append]; exact Nat.le_trans (by omega : _ ≤ 100000) (by decide)
    · rw [Str.empty_append, Str.length_append]; exact Nat.le_trans hl (by decide)
    · rw [Str.empty_append]; exact q _ H1 s1 (.str _)
theorem ca_intS {a : Str} {n : Int} (h : PySem.intText? a = some n) (hz : a.length ≤ 640) : CaD K rIntU [.str a] (.int n) := CaD.inr fun A xs H l hx Q q => by
  cases hx with
  | cons h1 h2 => cases h1; cases h2; exact ⟨a, n, rfl, h, hz, q _ H (Same.refl H) (.int _)⟩
theorem ca_str {i : Int} (h : i.natAbs.log2 < 1920) : CaD K rStrU [.int i] (.str (toString i)) := fun A xs H l hx Q q => by
  cases hx with
  | cons h1 h2 => cases h1; cases h2; exact ⟨i, rfl, h, q _ H (Same.refl H) (.str _)⟩
/-- list('..') -/
def rListS : List V → Hp → VK → Prop := fun xs H Q => ∃ x : Str, xs = [.str x] ∧ x.length ≤ 100000 ∧ ∀ p, H p = none → Q (.ref p) (upd H p (.lst (x.cps.toList.map fun c => .str (sgn c))))
theorem ca_listS {x : Str} (h : x.length ≤ 100000) : CaD K rListS [.str x] (.list (signsD x)) := fun A xs H l hx Q q => by
  cases hx with
  | cons h1 h2 =>
    cases h1; cases h2
    refine ⟨x, rfl, h, fun p hp => q _ _ (same_new hp) (.lst (cut_new l hp) ?_)⟩
    have := strs_dq (K := K) (F := cut A (upd H p (.lst (x.cps.toList.map fun c => V.str (sgn c))))) (x.cps.toList.map sgn)
    rw [List.map_map, List.map_map] at this
    exact this
theorem ev_dnew : EvD K tDNewK ρ (.dict []) := fun A σ H l hE Q q => fun p hp => q _ _ (same_new hp) (Dq.dct (kvs := []) (ds := []) (cut_new l hp) .nil)
end
theorem cr_listS {X : Cx} (hc : X.calm = true) : CallR X (.type "list") rListS := by
  intro pins s σ H xs us Q I r h
  obtain ⟨x, rfl, hz, q⟩ := h
  cases r with
  | cons rx rr =>
    cases rr
    obtain ⟨t, rfl⟩ := rx
    have hz' : x.cps.size ≤ sizeLine := Nat.le_trans hz (by decide)
    refine call_list_str (I.ok.hd hc) x t (hn := hz') fun h' tk acc c' hk hS hacc => ?_
    have hnew : s.heap.get? s.heap.objs.size = none := by
      cases e : s.heap.get? s.heap.objs.size with
      | none => rfl
      | some o => exact absurd (Heap.lt_size e) (Nat.lt_irrefl _)
    have hn : H s.heap.objs.size = none := I.hok.gone hnew
    refine ⟨.ref s.heap.objs.size, _, I.laidN (o := .lst (x.cps.toList.map fun c => V.str (sgn c))) hk hnew hn ⟨by rw [List.length_map, Array.length_toList]; exact hz', acc.toList, c', ?_, by simpa using hS⟩, rfl, q _ hn⟩
    have : ∀ (l : List Nat) (vs : List Value), vs.length = l.length → (∀ (j : Nat) (v : Value), vs[j]? = some v → ∃ c u, l[j]? = some c ∧ v = Value.str ⟨#[c]⟩ u) → Vals (l.map fun c => V.str (sgn c)) vs := by
      intro l
      induction l with
      | nil =>
        intro vs hl _
        cases vs with
        | nil => exact .nil
        | cons _ _ => simp at hl
      | cons c l ih =>
        intro vs hl hv
        cases vs with
        | nil => simp at hl
        | cons v vs =>
          obtain ⟨c', u, e1, e2⟩ := hv 0 v rfl
          have : c = c' := by simpa using e1
          subst this e2
          exact .cons ⟨u, rfl⟩ (ih vs (by simpa using hl) fun j w hw => by
            obtain ⟨c2, u2, e3, e4⟩ := hv (j + 1) w (by simpa using hw)
            exact ⟨c2, u2, by simpa using e3, e4⟩)
    refine this _ _ (by rw [Array.length_toList, Array.length_toList]; exact hacc.1) fun j v hv => ?_
    obtain ⟨c, u, hc, rfl⟩ := hacc.2 j v (by simpa using hv)
    exact ⟨c, u, by rw [Array.getElem?_toList]; exact hc, rfl⟩
end Lc

set_option Elab.async false
set_option linter.all false
set_option maxRecDepth 100000
set_option maxHeartbeats 4000000
namespace Lc
open PySem PyProof.Rows
/-! ### texts of families, plain -/
abbrev cp (t : Str) : List Nat := t.cps.toList
theorem str_ext {a b : Str} (h : cp a = cp b) : a = b := Str.ext' (Array.toList_inj.mp h)
theorem cp_app (a b : Str) : cp (a ++ b) = cp a ++ cp b := by unfold cp; rw [Str.cps_append, Array.toList_append]
theorem cp_sgn (c : Nat) : cp (sgn c) = [c] := rfl
/-- parts with one sign between -/
def jl (c : Nat) : List (List Nat) → List Nat
  | [] => []
  | [x] => x
  | x :: y :: r => x ++ c :: jl c (y :: r)
theorem cp_join (c : Nat) : ∀ ps : List Str, cp (Str.join (sgn c) ps) = jl c (ps.map cp)
  | [] => rfl
  | [x] => rfl
  | x :: y :: r => by
    show cp (x ++ sgn c ++ Str.join (sgn c) (y :: r)) = _
    rw [cp_app, cp_app, cp_join c (y :: r), cp_sgn]
    simp [jl]
theorem cp_join0 : ∀ ps : List Str, cp (Str.join Str.empty ps) = (ps.map cp).flatten
  | [] => rfl
  | [x] => by simp [Str.join]
  | x :: y :: r => by
    show cp (x ++ Str.empty ++ Str.join Str.empty (y :: r)) = _
    rw [cp_app, Str.append_empty, cp_join0 (y :: r)]
    simp
/-- the first part ends at the first c -/
theorem cut_uniq {c : Nat} : ∀ {x y s t : List Nat}, c ∉ x → c ∉ y → x ++ c :: s = y ++ c :: t → x = y ∧ s = t
  | [], [], _, _, _, _, h => ⟨rfl, by simpa using h⟩
  | [], b :: y, _, _, _, hy, h => by
    have : c = b := by simpa using congrArg List.head? h
    exact (hy (by simp [this])).elim
  | a :: x, [], _, _, hx, _, h => by
    have : a = c := by simpa using congrArg List.head? h
    exact (hx (by simp [this])).elim
  | a :: x, b :: y, s, t, hx, hy, h => by
    simp only [List.cons_append, List.cons.injEq] at h
    obtain ⟨h1, h2⟩ := cut_uniq (fun m => hx (by simp [m])) (fun m => hy (by simp [m])) h.2
    exact ⟨by rw [h.1, h1], h2⟩
theorem jl_uniq {c : Nat} : ∀ {ps qs : List (List Nat)}, ps ≠ [] → qs ≠ [] → (∀ p ∈ ps, c ∉ p) → (∀ q ∈ qs, c ∉ q) → jl c ps = jl c qs → ps = qs
  | [], _, h, _, _, _, _ => (h rfl).elim
  | _, [], _, h, _, _, _ => (h rfl).elim
  | [x], [y], _, _, _, _, h => by simpa [jl] using h
  | [x], y :: z :: r, _, _, hp, _, h => by
    exfalso
    have h' : x = y ++ c :: jl c (z :: r) := h
    exact hp x (by simp) (by rw [h']; simp)
  | x :: z :: r, [y], _, _, _, hq, h => by
    exfalso
    have h' : x ++ c :: jl c (z :: r) = y := h
    exact hq y (by simp) (by rw [← h']; simp)
  | x :: x' :: r, y :: y' :: u, _, _, hp, hq, h => by
    have h' : x ++ c :: jl c (x' :: r) = y ++ c :: jl c (y' :: u) := h
    obtain ⟨h1, h2⟩ := cut_uniq (hp x (by simp)) (hq y (by simp)) h'
    rw [h1, jl_uniq (by simp) (by simp) (fun p m => hp p (by simp only [List.mem_cons] at m ⊢; exact .inr m)) (fun q m => hq q (by simp only [List.mem_cons] at m ⊢; exact .inr m)) h2]
theorem split_eq {t : Str} {c : Nat} {ps : List Str} (hne : ps ≠ []) (hf : ∀ p ∈ ps, c ∉ cp p) (ht : cp t ≠ []) (h : Str.join (sgn c) ps = t) : Txt.split t (sgn c) = ps := by
  have hj : Str.join (sgn c) (Txt.split t (sgn c)) = t := StrLaws.join_split t (sgn c)
  have hs : Txt.split t (sgn c) ≠ [] := fun e => by rw [e] at hj; rw [← hj] at ht; exact ht rfl
  have e : (Txt.split t (sgn c)).map cp = ps.map cp := jl_uniq (c := c) (fun e => hs (List.map_eq_nil_iff.mp e)) (fun e => hne (List.map_eq_nil_iff.mp e)) (fun p hp => by
      obtain ⟨q, hq, rfl⟩ := List.mem_map.mp hp
      exact StrLaws.split_free t c q hq) (fun p hp => by
      obtain ⟨q, hq, rfl⟩ := List.mem_map.mp hp
      exact hf q hq) (by rw [← cp_join, ← cp_join, hj, h])
  have inj : ∀ (a b : List Str), a.map cp = b.map cp → a = b := by
    intro a
    induction a with
    | nil => intro b h; exact (List.map_eq_nil_iff.mp h.symm).symm
    | cons x a ih =>
      intro b h
      cases b with
      | nil => simp at h
      | cons y b =>
        simp only [List.map_cons, List.cons.injEq] at h
        rw [str_ext h.1, ih b h.2]
  exact inj _ _ e
/-! digits -/
def dig (i : Int) : Str := Str.ofString (toString i)
theorem dig_sgn {i : Int} (h0 : 0 ≤ i) (h9 : i ≤ 9) : dig i = sgn (48 + i.toNat) := by
  have : ∀ k : Nat, k < 10 → dig (k : Int) = sgn (48 + k) := by decide +kernel
  have e : ((i.toNat : Nat) : Int) = i := by omega
  have := this i.toNat (by omega)
  rw [e] at this
  exact this
theorem int_sgn {c : Nat} (h0 : 48 ≤ c) (h9 : c ≤ 57) : PySem.intText? (sgn c) = some ((c : Int) - 48) := by
  have : ∀ k : Nat, k < 10 → PySem.intText? (sgn (48 + k)) = some (k : Int) := by decide +kernel
  have h := this (c - 48) (by omega)
  have e : 48 + (c - 48) = c := by omega
  rw [e] at h
  rw [h]
  congr 1
  omega
def lotT (s : List Int) : Str := Str.join "" (s.map dig)
def famT (n : Int) (ss : List (List Int)) : Str := Str.join " " ((dig n ++ ":") :: ss.map lotT)
theorem cp_lotT {s : List Int} (h : ∀ x ∈ s, 0 ≤ x ∧ x ≤ 9) : cp (lotT s) = s.map fun x => 48 + x.toNat := by
  unfold lotT
  have e0 : (Str.ofString "") = Str.empty := rfl
  rw [e0, cp_join0, List.map_map]
  induction s with
  | nil => rfl
  | cons a s ih =>
    rw [List.map_cons, List.flatten_cons, ih (fun x hx => h x (by simp [hx])), List.map_cons]
    show cp (dig a) ++ _ = _
    rw [dig_sgn (h a (by simp)).1 (h a (by simp)).2, cp_sgn]
    rfl
/-! reading -/
def okSg (c : Nat) : Bool := decide (c ∈ cp "01234567: ")
theorem okSg_iff (c : Nat) : okSg c = true ↔ (48 ≤ c ∧ c ≤ 55) ∨ c = 58 ∨ c = 32 := by
  have e : cp "01234567: " = [48, 49, 50, 51, 52, 53, 54, 55, 58, 32] := by decide +kernel
  unfold okSg
  rw [e, decide_eq_true_eq]
  simp only [List.mem_cons, List.not_mem_nil, or_false]
  omega
def wsT (t : Str) : List Str := Txt.split t " "
def w0T (t : Str) : Str := (wsT t).headD ""
def okT (t : Str) : Bool := (cp t).all okSg && (decide (L2.cutS t (some 1) (some 2) = ":") && (decide ((w0T t).length = 2) && ((!decide ((cp (w0T t)).headD 0 ∈ cp ": ")) && (wsT t).tail.all fun w => !decide (58 ∈ cp w))))
def foundT (t : Str) : PyData := .tuple [.int (((cp (w0T t)).headD 0 : Int) - 48), .tuple ((wsT t).tail.map fun w => .tuple ((cp w).map fun (c : Nat) => PyData.int ((c : Int) - 48)))]
def parseT (t : Str) : Option PyData := if okT t && isFam (foundT t) then some (foundT t) else none
def parseD : PyData → Option PyData
  | .str t => parseT t
  | _ => none
theorem ws_ne {t : Str} (h : cp t ≠ []) : wsT t ≠ [] := fun e => by
  have hj : Str.join " " (Txt.split t " ") = t := StrLaws.join_split t " "
  have e' : Txt.split t " " = [] := e
  rw [e'] at hj
  rw [← hj] at h
  exact h rfl
theorem ws_join (t : Str) : Str.join " " (wsT t) = t := StrLaws.join_split t " "
theorem ws_free (t : Str) : ∀ p ∈ wsT t, 32 ∉ cp p := StrLaws.split_free t 32
theorem cutS_12 {t : Str} (h : L2.cutS t (some 1) (some 2) = ":") : (cp t)[1]? = some 58 := by
  have h1 : cp (L2.cutS t (some 1) (some 2)) = [58] := by rw [h]; decide +kernel
  unfold L2.cutS at h1
  simp only [cp] at h1
  have e1 : HT.sIx t.length 0 (some 1) = min 1 t.length := by simp [HT.sIx]
  have e2 : HT.sIx t.length t.length (some 2) = min 2 t.length := by simp [HT.sIx]
  rw [e1, e2] at h1
  have hl : t.length = (cp t).length := by simp [cp, Str.length]
  rw [hl] at h1
  have h2 : ((cp t).drop (min 1 (cp t).length)).take (min 2 (cp t).length - min 1 (cp t).length) = [58] := h1
  clear h1 hl e1 e2 h
  revert h2
  generalize cp t = l
  intro h1
  match l with
  | [] => simp at h1
  | [a] => simp at h1
  | a :: b :: r =>
    simp at h1
    simp [h1]
theorem famT_len {n : Int} {ss : List (List Int)} (hF : FamOk n ss) : (famT n ss).length ≤ 200 := by
  unfold famT
  refine Nat.le_trans (StrLaws.join_length_le _ _) ?_
  have h7 := hF.n7
  have h1 := hF.n1
  have h8 := hF.s8
  have hl : ∀ s ∈ ss, (lotT s).length ≤ 7 := fun s hs => by
    have hb := (hF.lots s hs).2.1
    have e : (lotT s).length = (cp (lotT s)).length := by simp [cp, Str.length]
    rw [e, cp_lotT (fun x hx => by have := hb x hx; omega), List.length_map]
    exact (hF.lots s hs).len h7
  have hs : ∀ l : List (List Int), (∀ s ∈ l, (lotT s).length ≤ 7) → ((l.map lotT).map (·.length)).sum ≤ 7 * l.length := by
    intro l
    induction l with
    | nil => intro _; simp
    | cons s l ih =>
      intro h
      have h1 := h s (by simp)
      have h2 := ih (fun z hz => h z (by simp [hz]))
      simp only [List.map_cons, List.sum_cons, List.length_cons]
      omega
  have h2 := hs ss hl
  have h3 : (dig n ++ ":").length = 2 := by
    rw [Str.length_append, dig_sgn (by omega) (by omega)]
    rfl
  have h4 : (Str.ofString " ").length = 1 := rfl
  simp only [List.map_cons, List.sum_cons, List.length_cons, List.length_map, h3, h4]
  omega
/-- what is read of a text has that text -/
theorem parse_text {t : Str} {d : PyData} (h : parseT t = some d) : ∃ n ss, FamOk n ss ∧ d = famD n ss ∧ famT n ss = t := by
  unfold parseT at h
  by_cases hc : (okT t && isFam (foundT t)) = true
  · rw [if_pos hc] at h
    have hd := (Option.some.inj h).symm
    subst hd
    rw [Bool.and_eq_true] at hc
    obtain ⟨hok, hfam⟩ := hc
    obtain ⟨n, ss, e, hF⟩ := isFam_inv hfam
    refine ⟨n, ss, hF, e, ?_⟩
    unfold okT at hok
    simp only [Bool.and_eq_true, decide_eq_true_eq] at hok
    obtain ⟨_, hcut, hlen, _, _⟩ := hok
    have hne : cp t ≠ [] := fun e => by have := cutS_12 hcut; rw [e] at this; simp at this
    have h7 := hF.n7
    have h1 := hF.n1
    obtain ⟨w, ws, hws⟩ : ∃ w ws, wsT t = w :: ws := by
      cases hz : wsT t with
      | nil => exact (ws_ne hne hz).elim
      | cons w ws => exact ⟨w, ws, rfl⟩
    have hw0 : w0T t = w := by unfold w0T; rw [hws]; rfl
    have hfo : foundT t = .tuple [.int (((cp w).headD 0 : Int) - 48), .tuple (ws.map fun w => .tuple ((cp w).map fun (c : Nat) => PyData.int ((c : Int) - 48)))] := by
      unfold foundT; rw [hw0, hws]; rfl
    rw [hfo] at e
    unfold famD at e
    simp only [PyData.tuple.injEq, List.cons.injEq, PyData.int.injEq, and_true] at e
    obtain ⟨en, es⟩ := e
    have ht : cp t = jl 32 ((w :: ws).map cp) := by
      have := cp_join 32 (wsT t)
      rw [hws] at this
      rw [← this, ← hws]
      exact (congrArg cp (ws_join t)).symm
    rw [hw0] at hlen
    have hl2 : (cp w).length = 2 := by rw [← hlen]; simp [cp, Str.length]
    obtain ⟨c0, c1, hcw⟩ : ∃ c0 c1, cp w = [c0, c1] := by
      match hz : cp w, hl2 with
      | [a, b], _ => exact ⟨a, b, rfl⟩
    have hc1 : c1 = 58 := by
      have h2 := cutS_12 hcut
      rw [ht, List.map_cons, hcw] at h2
      cases ws with
      | nil => simpa [jl] using h2
      | cons x r => simpa [jl] using h2
    have hc0 : (c0 : Int) = n + 48 := by
      rw [hcw] at en
      have : ((c0 : Nat) : Int) - 48 = n := en
      omega
    have hw : dig n ++ ":" = w := str_ext (by
      rw [cp_app, dig_sgn (by omega) (by omega), hcw, hc1, cp_sgn]
      have : 48 + n.toNat = c0 := by omega
      rw [this]
      rfl)
    have hss : ∀ (l : List Str) (s : List (List Int)), (∀ x ∈ s, LotOk n x) → l.map (fun w => PyData.tuple ((cp w).map fun (c : Nat) => PyData.int ((c : Int) - 48))) = s.map tI → s.map lotT = l := by
      intro l
      induction l with
      | nil => intro s _ h; rw [List.map_nil] at h; rw [List.map_eq_nil_iff.mp h.symm]; rfl
      | cons x l ih =>
        intro s hs h
        cases s with
        | nil => simp at h
        | cons a s =>
          simp only [List.map_cons, List.cons.injEq] at h
          rw [List.map_cons, ih s (fun z hz => hs z (by simp [hz])) h.2]
          congr 1
          have ha : a = (cp x).map fun (c : Nat) => (c : Int) - 48 := by
            have := PyData.tuple.inj h.1
            have e2 : (cp x).map (fun (c : Nat) => PyData.int ((c : Int) - 48)) = ((cp x).map fun (c : Nat) => (c : Int) - 48).map .int := by rw [List.map_map]; rfl
            rw [e2] at this
            exact (ints_inj this).symm
          have hb := (hs a (by simp)).2.1
          apply str_ext
          rw [cp_lotT (fun z hz => by have := hb z hz; omega), ha, List.map_map]
          have : ∀ c ∈ cp x, ((fun z : Int => 48 + z.toNat) ∘ fun (c : Nat) => (c : Int) - 48) c = id c := fun c hc => by
            have := hb ((c : Int) - 48) (by rw [ha]; exact List.mem_map.mpr ⟨c, hc, rfl⟩)
            show 48 + ((c : Int) - 48).toNat = c
            omega
          rw [List.map_congr_left this, List.map_id]
    unfold famT
    rw [hw, hss ws ss hF.lots es, ← hws]
    exact ws_join t
  · rw [if_neg hc] at h; cases h
/-- the text is read -/
theorem text_parse {n : Int} {ss : List (List Int)} (hF : FamOk n ss) : parseT (famT n ss) = some (famD n ss) := by
  have h7 := hF.n7
  have h1 := hF.n1
  have hlb : ∀ s ∈ ss, ∀ x ∈ s, 0 ≤ x ∧ x ≤ 9 := fun s hs x hx => by have := (hF.lots s hs).2.1 x hx; omega
  have hw : cp (dig n ++ ":") = [48 + n.toNat, 58] := by
    rw [cp_app, dig_sgn (by omega) (by omega), cp_sgn]; rfl
  have hcp : cp (famT n ss) = jl 32 (cp (dig n ++ ":") :: (ss.map lotT).map cp) := cp_join 32 _
  have hhd : ∃ r, cp (famT n ss) = (48 + n.toNat) :: 58 :: r := by
    rw [hcp, hw]
    cases ss with
    | nil => exact ⟨[], rfl⟩
    | cons s r => exact ⟨_, rfl⟩
  obtain ⟨r, hr⟩ := hhd
  have hws : wsT (famT n ss) = (dig n ++ ":") :: ss.map lotT := split_eq (c := 32) (by simp) (fun p hp => by
      rcases List.mem_cons.mp hp with e | e
      · rw [e, hw]; simp; omega
      · obtain ⟨s, hs, rfl⟩ := List.mem_map.mp e
        rw [cp_lotT (hlb s hs)]
        intro hm
        obtain ⟨x, hx, e⟩ := List.mem_map.mp hm
        omega) (by rw [hr]; simp) rfl
  have hw0 : w0T (famT n ss) = dig n ++ ":" := by unfold w0T; rw [hws]; rfl
  have hfo : foundT (famT n ss) = famD n ss := by
    unfold foundT famD
    rw [hw0, hws, hw]
    simp only [List.headD_cons, List.tail_cons, List.map_map]
    have e1 : ((48 + n.toNat : Nat) : Int) - 48 = n := by omega
    rw [e1]
    congr 4
    apply List.map_congr_left
    intro s hs
    show PyData.tuple ((cp (lotT s)).map fun (c : Nat) => PyData.int ((c : Int) - 48)) = tI s
    rw [cp_lotT (hlb s hs), List.map_map]
    unfold tI
    congr 1
    apply List.map_congr_left
    intro x hx
    have := hlb s hs x hx
    show PyData.int (((48 + x.toNat : Nat) : Int) - 48) = .int x
    congr 1
    omega
  have hall : ∀ l : List (List Nat), (∀ p ∈ l, p.all okSg = true) → (jl 32 l).all okSg = true := by
    intro l
    induction l with
    | nil => intro _; rfl
    | cons x l ih =>
      intro h
      cases l with
      | nil => exact h x (by simp)
      | cons y r =>
        show (x ++ 32 :: jl 32 (y :: r)).all okSg = true
        rw [List.all_append, List.all_cons, h x (by simp), ih (fun p hp => h p (by simp only [List.mem_cons] at hp ⊢; exact .inr hp))]
        decide +kernel
  have hok : okT (famT n ss) = true := by
    unfold okT
    rw [hw0, hws, hw]
    simp only [Bool.and_eq_true, decide_eq_true_eq, List.headD_cons, List.tail_cons]
    refine ⟨?_, ?_, ?_, ?_, ?_⟩
    · rw [hcp, hw]
      refine hall _ fun p hp => ?_
      rcases List.mem_cons.mp hp with e | e
      · rw [e]
        simp only [List.all_cons, List.all_nil, Bool.and_true, Bool.and_eq_true]
        exact ⟨(okSg_iff _).mpr (.inl (by omega)), (okSg_iff _).mpr (.inr (.inl rfl))⟩
      · obtain ⟨q, hq, rfl⟩ := List.mem_map.mp e
        obtain ⟨s, hs, rfl⟩ := List.mem_map.mp hq
        rw [cp_lotT (hlb s hs), List.all_eq_true]
        intro c hc
        obtain ⟨x, hx, rfl⟩ := List.mem_map.mp hc
        have := (hF.lots s hs).2.1 x hx
        exact (okSg_iff _).mpr (.inl (by omega))
    · apply str_ext
      unfold L2.cutS
      have e1 : HT.sIx (famT n ss).length 0 (some 1) = min 1 (famT n ss).length := by simp [HT.sIx]
      have e2 : HT.sIx (famT n ss).length (famT n ss).length (some 2) = min 2 (famT n ss).length := by simp [HT.sIx]
      have hl : (famT n ss).length = (cp (famT n ss)).length := by simp [cp, Str.length]
      rw [e1, e2, hl]
      show ((cp (famT n ss)).drop _).take _ = _
      rw [hr]
      have e3 : cp ":" = [58] := by decide +kernel
      rw [e3]
      simp
    · rw [Str.length_append, dig_sgn (by omega) (by omega)]; rfl
    · have e4 : cp ": " = [58, 32] := by decide +kernel
      rw [e4]
      have : ¬ (48 + n.toNat ∈ [58, 32]) := by simp; omega
      simp [this]
    · rw [List.all_eq_true]
      intro w hw
      obtain ⟨s, hs, rfl⟩ := List.mem_map.mp hw
      rw [cp_lotT (hlb s hs)]
      have : ¬ (58 ∈ s.map fun x => 48 + x.toNat) := fun hm => by
        obtain ⟨x, hx, e⟩ := List.mem_map.mp hm
        have := (hF.lots s hs).2.1 x hx
        omega
      rw [decide_eq_false this]; rfl
  unfold parseT
  rw [hfo, hok, hF.isFam]
  rfl
end Lc

set_option Elab.async false
set_option linter.all false
set_option maxRecDepth 100000
set_option maxHeartbeats 4000000
namespace Lc
open PySem L2 PySem.Spec PyProof.Rows
def R_family_text : List PyData → Out → Prop := fun ds o => ∃ n ss, FamOk n ss ∧ ds = [famD n ss] ∧ o = .rt (.str (famT n ss))
def sp_family_text (K : PySem.W.Frag) : Sp := spD K R_family_text
def R_format_family (K : PySem.W.Frag) : List PyData → Out → Prop := fun ds o => ds.length = 1 ∧ R_fam K (fun n ss r o => r = [] ∧ o = .rt (.str (famT n ss))) ds o
def sp_format_family (K : PySem.W.Frag) : Sp := spD K (R_format_family K)
def TxtOk (d : PyData) : Prop := (tyName d).isSome = true ∧ ∀ t, d = .str t → t.length ≤ 1000 ∧ PyData.strOk t = true
def outOf (C : Addr) : Option PyData → Out
  | some f => .rt f
  | none => .ex C
def R_parse_family (K : PySem.W.Frag) : List PyData → Out → Prop := fun ds o => ∃ d, TxtOk d ∧ ds = [d] ∧ o = outOf (He.ga K "InvalidText") (parseD d)
def sp_parse_family (K : PySem.W.Frag) : Sp := spD K (R_parse_family K)
def t_family_text (K : PySem.W.Frag) (E : XK) : TS := (tRet (tJoin K (tC (.str " ")) (tOp (rAddU K) (tLst (tCons (tFs (tOp (rIx K) (tVar 0) (tC (.int 0))) ":") tNil)) (tLc (iSeq K (tOp (rIx K) (tVar 0) (tC (.int 1)))) (gName 2) tYes (tJoin K (tC (.str "")) (tLc (iSeq K (tVar 2)) (gName 1) tYes (tCB rStrU (tCons (tVar 1) tNil)) [1])) [2]))))
def t_format_family (K : PySem.W.Frag) (E : XK) : TS := (tSeq (tDrop (tCall (sp_check_family K) [] E (tCons (tVar 0) tNil)))
  (tRet (tCall (sp_family_text K) [] E0 (tCons (tVar 0) tNil))))
def t_parse_family (K : PySem.W.Frag) (E : XK) : TS := (tSeq (tIfS (tOr (tNot (tB (tIsi K "str" (tVar 0)))) (tOr (tNot (tB (tCB (rAll K) (tCons (tLc (iStr (tVar 0)) (gName 1) tYes (tOp (rInU K) (tVar 1) (tC (.str "01234567: "))) [1]) tNil)))) (tTest (tOp (rNeD K) (tSl (rSlU K) (tVar 0) (tPart (tC (.int 1))) (tPart (tC (.int 2)))) (tC (.str ":")))))) (tRaise (He.ga K "InvalidText") E) tNext)
  (tSeq (tAsg (tSplit (tVar 0) (tC (.str " "))) (gName 2))
  (tSeq (tIfS (tOr (tTest (tOp (rNeD K) (tCB (rLenU K) (tCons (tOp (rIx K) (tVar 2) (tC (.int 0))) tNil)) (tC (.int 2)))) (tOr (tTest (tOp (rInU K) (tOp (rIx K) (tOp (rIx K) (tVar 2) (tC (.int 0))) (tC (.int 0))) (tC (.str ": ")))) (tNot (tB (tCB (rAll K) (tCons (tLc (iSeq K (tSl (rSlU K) (tVar 2) (tPart (tC (.int 1))) tNoPart)) (gName 3) tYes (tOp (rNotInU K) (tC (.str ":")) (tVar 3)) [3]) tNil)))))) (tRaise (He.ga K "InvalidText") E) tNext)
  (tSeq (tAsg (tTup (tCons (tCB rIntU (tCons (tOp (rIx K) (tOp (rIx K) (tVar 2) (tC (.int 0))) (tC (.int 0))) tNil)) (tCons (tCB (rTupleOf K) (tCons (tLc (iSeq K (tSl (rSlU K) (tVar 2) (tPart (tC (.int 1))) tNoPart)) (gName 3) tYes (tCB (rTupleOf K) (tCons (tLc (iStr (tVar 3)) (gName 1) tYes (tCB rIntU (tCons (tVar 1) tNil)) [1]) tNil)) [3]) tNil)) tNil))) (gName 4))
  (tSeq (tIfS (tNot (tB (tCall (sp_is_family K) [] E0 (tCons (tVar 4) tNil)))) (tRaise (He.ga K "InvalidText") E) tNext)
  (tRet (tVar 4)))))))
section
variable {K : PySem.W.Frag} {E : XK}
theorem cutD_tl {a : PyData} {r : List PyData} : cutD (a :: r) (some 1) none = r := by
  have e1 : HT.sIx (a :: r).length 0 (some 1) = 1 := by simp [HT.sIx]
  have e2 : HT.sIx (a :: r).length (a :: r).length none = (a :: r).length := by simp [HT.sIx]
  unfold cutD
  rw [e1, e2]
  simp
theorem map_str {α : Type} (xs : List α) (f : α → Str) : xs.map (fun x => PyData.str (f x)) = (xs.map f).map .str := by rw [List.map_map]; rfl
theorem log_small {i : Int} (h0 : 0 ≤ i) (h9 : i ≤ 9) : i.natAbs.log2 < 1920 := Nat.lt_of_le_of_lt (Nat.log2_le_self _) (by omega)
theorem dig_len {i : Int} (h0 : 0 ≤ i) (h9 : i ≤ 9) : (dig i).length = 1 := by rw [dig_sgn h0 h9]; rfl
theorem sum_ones : ∀ l : List Int, (∀ x ∈ l, 0 ≤ x ∧ x ≤ 9) → ((l.map dig).map (·.length)).sum = l.length
  | [], _ => rfl
  | a :: r, h => by
    rw [List.map_cons, List.map_cons, List.sum_cons, sum_ones r (fun x hx => h x (by simp [hx])), dig_len (h a (by simp)).1 (h a (by simp)).2, List.length_cons]
    omega
/-- ''.join([str(k) for k in one]) -/
theorem ev_lotT {ρ : Rho} {i j : Nat} {s : List Int} {vs : List Nat} (hi : ρ[i]? = some (some (tI s))) (hj : j ∈ vs) (hjl : j < ρ.length) (hw : (wipeD ρ vs).length = ρ.length) (hs : s.length ≤ 1000) (hb : ∀ x ∈ s, 0 ≤ x ∧ x ≤ 9) : EvD K (tJoin K (tC (.str "")) (tLc (iSeq K (tVar i)) (gName j) tYes (tCB rStrU (tCons (tVar j) tNil)) vs)) ρ (.str (lotT s)) := by
  refine ev_join (ys := s.map dig) ev_str ?_ ?_
  · rw [← map_str]
    refine ev_lcN s .int (fun x => .str (dig x)) (it_seqT (ev_var hi)) (by omega) hj (fun x hx => ev_cb (ea_cons (ev_var (d := .int x) ?_) ea_nil) (ca_str (log_small (hb x hx).1 (hb x hx).2)))
    rw [List.getElem?_set_self (by rw [hw]; exact hjl)]
  · rw [sum_ones s hb, List.length_map]
    have : (Str.ofString "").length = 0 := rfl
    rw [this]; omega
theorem x_family_text {n : Int} {ss : List (List Int)} (hF : FamOk n ss) : ExS K E (t_family_text K E) [some (famD n ss), none, none] (.rt (.str (famT n ss))) := by
  have h7 := hF.n7
  have h1 := hF.n1
  have h8 := hF.s8
  have hlb : ∀ s ∈ ss, ∀ x ∈ s, 0 ≤ x ∧ x ≤ 9 := fun s hs x hx => by have := (hF.lots s hs).2.1 x hx; omega
  have hc : EvD K (tLc (iSeq K (tOp (rIx K) (tVar 0) (tC (.int 1)))) (gName 2) tYes (tJoin K (tC (.str "")) (tLc (iSeq K (tVar 2)) (gName 1) tYes (tCB rStrU (tCons (tVar 1) tNil)) [1])) [2]) [some (famD n ss), none, none] (.list (ss.map fun s => .str (lotT s))) :=
    ev_lcN ss tI (fun s => .str (lotT s)) (it_seqT (ev_fam1 rfl)) (by omega) (by simp) (fun s hs => ev_lotT rfl (by simp) (by show 1 < 3; decide) rfl (by have := (hF.lots s hs).len h7; omega) (hlb s hs))
  have hl := famT_len hF
  refine xs_ret (ev_join (ys := (dig n ++ ":") :: ss.map lotT) ev_str ?_ ?_)
  · have := ev_op (ev_lst (ea_cons (ev_fs (z := ":") (ev_fam0 (K := K) (ρ := [some (famD n ss), none, none]) (i := 0) rfl) (log_small (by omega) (by omega)) (by
      show (dig n).length + _ ≤ _
      rw [dig_len (by omega) (by omega)]; decide)) ea_nil) (by simp)) hc (od_addL (K := K) (by simp; omega))
    rw [map_str] at this
    exact this
  · have h4 : (Str.ofString " ").length = 1 := rfl
    have h3 : (dig n ++ ":").length = 2 := by
      rw [Str.length_append, dig_len (by omega) (by omega)]
      rfl
    have hs : ∀ l : List (List Int), (∀ s ∈ l, (lotT s).length ≤ 1000) → ((l.map lotT).map (·.length)).sum ≤ 1000 * l.length := by
      intro l
      induction l with
      | nil => intro _; simp
      | cons s l ih =>
        intro h
        have h1 := h s (by simp)
        have h2 := ih (fun z hz => h z (by simp [hz]))
        simp only [List.map_cons, List.sum_cons, List.length_cons]
        omega
    have h2 := hs ss (fun s hs => by
      have e : (lotT s).length = (cp (lotT s)).length := by simp [cp, Str.length]
      rw [e, cp_lotT (hlb s hs), List.length_map]
      have := (hF.lots s hs).len h7
      omega)
    simp only [List.map_cons, List.sum_cons, List.length_cons, List.length_map, h3, h4]
    omega
theorem pure_family_text {vs : List V} {H : Hp} {Q : VK} (hs : sp_family_text K vs H Q E) : t_family_text K E { nx := fun _ H' => Q .non H', rt := Q } (L2.start ["family", "thing", "one"] vs) H :=
  sp_body (fun ds o h => by
    obtain ⟨n, ss, hF, rfl, rfl⟩ := h
    exact .inl (x_family_text hF)) hs
theorem pure_format_family {vs : List V} {H : Hp} {Q : VK} (hs : sp_format_family K vs H Q E) : t_format_family K E { nx := fun _ H' => Q .non H', rt := Q } (L2.start ["family"] vs) H :=
  sp_body (fun ds o h => by
    obtain ⟨hl, d, r, rfl, h⟩ := h
    have hr : r = [] := List.length_eq_zero_iff.mp (by simpa using hl)
    subst hr
    rcases h with ⟨h1, h2, h3, rfl⟩ | ⟨n, ss, hF, rfl, _, rfl⟩
    · exact .inl (xs_seqX (xs_checkX h1 h2 h3 rfl))
    · exact .inl (xs_seq (xs_check hF rfl) (xs_ret (ev_call (ea_cons (ev_var rfl) ea_nil) ⟨n, ss, hF, rfl, rfl⟩)))) hs
/-! parse -/
theorem od_inS {c : Nat} {z : Str} : OpD K (rInU K) (.str (sgn c)) (.str z) (.bool (decide (c ∈ cp z))) := OpD.inr (OpD.inr fun A x y H l hx hy Q q => by
  cases hx; cases hy; exact ⟨c, z, rfl, rfl, q _ H (Same.refl H) (.bl _)⟩)
theorem od_niS {c : Nat} {z : Str} : OpD K (rNotInU K) (.str (sgn c)) (.str z) (.bool (!decide (c ∈ cp z))) := OpD.inr (OpD.inr fun A x y H l hx hy Q q => by
  cases hx; cases hy; exact ⟨c, z, rfl, rfl, q _ H (Same.refl H) (.bl _)⟩)
theorem sh_str {n : Nat} {t : Str} (h : PyData.strOk t = true) : Sh n (.str t) := ⟨by simp only [PyData.canLay0]; exact h, by simp [PyData.depth]⟩
theorem strOk_cut {t : Str} {i j : Option Int} (h : PyData.strOk t = true) : PyData.strOk (cutS t i j) = true := by
  unfold PyData.strOk at h ⊢
  rw [← Array.all_toList, List.all_eq_true] at h ⊢
  intro c hc
  unfold cutS at hc
  exact h c (List.mem_of_mem_drop (List.mem_of_mem_take (by simpa using hc)))
theorem x_parse_non {d : PyData} (h1 : (tyName d).isSome = true) (h2 : isStr d = false) : ExS K E (t_parse_family K E) [some d, none, none, none, none] (.ex (He.ga K "InvalidText")) := by
  refine xs_seqX (xs_if (b := true) (et_orT (et_to (et_not (et_B (ev_isStr (ev_var rfl) h1))) (by rw [h2]; rfl))) (fun _ => xs_raiseF) (fun z => by cases z))
theorem x_parse {t : Str} (hz : t.length ≤ 1000) (hok : PyData.strOk t = true) : ExS K E (t_parse_family K E) [some (.str t), none, none, none, none] (outOf (He.ga K "InvalidText") (parseT t)) := by
  have e0 : EvT K (tNot (tB (tIsi K "str" (tVar 0)))) [some (.str t), none, none, none, none] false := et_to (et_not (et_B (ev_isStr (ev_var rfl) rfl))) rfl
  have e1 : EvT K (tNot (tB (tCB (rAll K) (tCons (tLc (iStr (tVar 0)) (gName 1) tYes (tOp (rInU K) (tVar 1) (tC (.str "01234567: "))) [1]) tNil)))) [some (.str t), none, none, none, none] (!(cp t).all okSg) := by
    refine et_not (et_B (ev_all (cp t) (fun c => .str (sgn c)) okSg (it_str (ev_var rfl)) ?_ (by simp) (fun c _ => ev_op (ev_var rfl) ev_str od_inS)))
    have : (cp t).length = t.length := by simp [cp, Str.length]
    omega
  have e2 : EvT K (tTest (tOp (rNeD K) (tSl (rSlU K) (tVar 0) (tPart (tC (.int 1))) (tPart (tC (.int 2)))) (tC (.str ":")))) [some (.str t), none, none, none, none] (!decide (cutS t (some 1) (some 2) = ":")) := by
    refine et_to (et_test (ev_op (ev_slS (ev_var rfl) (eo_some ev_int) (eo_some ev_int) (by omega)) ev_str (od_ne (sh_str (n := 0) (strOk_cut hok)) (sh_str (n := 0) (by decide +kernel))))) ?_
    rw [eqv_str]
  by_cases h1 : (cp t).all okSg = true
  · by_cases h2 : cutS t (some 1) (some 2) = ":"
    · have hne : cp t ≠ [] := fun e => by have := cutS_12 h2; rw [e] at this; simp at this
      obtain ⟨w, ws, hws⟩ : ∃ w ws, wsT t = w :: ws := by
        cases hz : wsT t with
        | nil => exact (ws_ne hne hz).elim
        | cons w ws => exact ⟨w, ws, rfl⟩
      have hw0 : w0T t = w := by unfold w0T; rw [hws]; rfl
      have hjo := ws_join t
      have hmem : ∀ x ∈ w :: ws, (cp x).all okSg = true ∧ x.length ≤ 1000 := by
        have hcp : cp t = jl 32 ((wsT t).map cp) := by rw [← cp_join]; exact (congrArg cp hjo).symm
        have : ∀ (l : List (List Nat)), ∀ p ∈ l, (∀ c ∈ p, c ∈ jl 32 l) ∧ p.length ≤ (jl 32 l).length := by
          intro l
          induction l with
          | nil => intro p hp; cases hp
          | cons x l ih =>
            intro p hp
            cases l with
            | nil => rw [List.mem_singleton.mp hp]; exact ⟨fun c hc => hc, Nat.le_refl _⟩
            | cons y r =>
              show (∀ c ∈ p, c ∈ x ++ 32 :: jl 32 (y :: r)) ∧ p.length ≤ (x ++ 32 :: jl 32 (y :: r)).length
              rcases List.mem_cons.mp hp with e | e
              · rw [e]; exact ⟨fun c hc => by simp [hc], by simp⟩
              · obtain ⟨k1, k2⟩ := ih p e
                refine ⟨fun c hc => ?_, ?_⟩
                · have := k1 c hc
                  simp [this]
                · rw [List.length_append, List.length_cons]; omega
        intro x hx
        have hm := this ((wsT t).map cp) (cp x) (List.mem_map.mpr ⟨x, by rw [hws]; exact hx, rfl⟩)
        rw [← hcp] at hm
        rw [List.all_eq_true] at h1
        refine ⟨by rw [List.all_eq_true]; exact fun c hc => h1 c (hm.1 c hc), ?_⟩
        have e1 : (cp t).length = t.length := by simp [cp, Str.length]
        have e2 : (cp x).length = x.length := by simp [cp, Str.length]
        omega
      have hlen : (w :: ws).length ≤ 2000 := by
        have hcp : cp t = jl 32 ((wsT t).map cp) := by rw [← cp_join]; exact (congrArg cp hjo).symm
        have : ∀ (l : List (List Nat)), l.length ≤ (jl 32 l).length + 1 := by
          intro l
          induction l with
          | nil => simp
          | cons x l ih =>
            cases l with
            | nil => simp
            | cons y r =>
              show _ ≤ (x ++ 32 :: jl 32 (y :: r)).length + 1
              rw [List.length_append, List.length_cons (a := 32), List.length_cons (a := x)]
              omega
        have h := this ((wsT t).map cp)
        rw [← hcp, List.length_map, hws] at h
        have e1 : (cp t).length = t.length := by simp [cp, Str.length]
        omega
      refine xs_seq (xs_if (b := false) (et_orF e0 (et_orF (et_to e1 (by rw [h1]; rfl)) (et_to e2 (by rw [decide_eq_true h2]; rfl)))) (fun z => by cases z) (fun _ => xs_next)) ?_
      refine xs_seq (xs_asg (d := .list ((w :: ws).map .str)) (by
        rw [← hws]
        exact ev_split (ev_var rfl) ev_str (by decide +kernel) (Nat.le_trans (by omega : _ ≤ 100000) (by decide)))) ?_
      show ExS K E _ [some (.str t), none, some (.list ((w :: ws).map .str)), none, none] _
      have ew0 : ∀ (f : Option PyData) (wo : Option PyData), EvD K (tOp (rIx K) (tVar 2) (tC (.int 0))) [some (.str t), none, some (.list ((w :: ws).map .str)), wo, f] (.str w) := fun f wo => ev_op (ev_var rfl) ev_int (od_ixL (atI_of (by omega) rfl))
      have et : ∀ (f : Option PyData), EvD K (tSl (rSlU K) (tVar 2) (tPart (tC (.int 1))) tNoPart) [some (.str t), none, some (.list ((w :: ws).map .str)), none, f] (.list (ws.map .str)) := fun f => by
        have h := ev_slL (K := K) (ρ := [some (.str t), none, some (.list ((w :: ws).map .str)), none, f]) (ev_var (i := 2) (d := .list ((w :: ws).map .str)) rfl) (eo_some (ev_int (i := 1))) eo_none
        have e : cutD ((w :: ws).map PyData.str) (some 1) none = ws.map .str := cutD_tl
        rw [e] at h
        exact h
      have hwl := (hmem w (by simp)).2
      have f1 : EvT K (tTest (tOp (rNeD K) (tCB (rLenU K) (tCons (tOp (rIx K) (tVar 2) (tC (.int 0))) tNil)) (tC (.int 2)))) [some (.str t), none, some (.list ((w :: ws).map .str)), none, none] (!decide (w.length = 2)) := by
        refine et_to (et_test (ev_op (ev_cb (ea_cons (ew0 _ _) ea_nil) (ca_lenS (by omega))) ev_int (od_ne (sh_int (n := 0)) (sh_int (n := 0))))) ?_
        rw [eqv_int]
        have : ((w.length : Int) = 2) ↔ (w.length = 2) := by omega
        simp only [this]
      by_cases h3 : w.length = 2
      · have hl2 : (cp w).length = 2 := by rw [← h3]; simp [cp, Str.length]
        obtain ⟨c0, c1, hcw⟩ : ∃ c0 c1, cp w = [c0, c1] := by
          match hz : cp w, hl2 with
          | [a, b], _ => exact ⟨a, b, rfl⟩
        have ec0 : ∀ (f : Option PyData) (wo : Option PyData), EvD K (tOp (rIx K) (tOp (rIx K) (tVar 2) (tC (.int 0))) (tC (.int 0))) [some (.str t), none, some (.list ((w :: ws).map .str)), wo, f] (.str (sgn c0)) := fun f wo => ev_op (ew0 _ _) ev_int (od_ixS (by omega) (by show atI (cp w) 0 = _; rw [hcw]; rfl))
        have f2 : EvT K (tTest (tOp (rInU K) (tOp (rIx K) (tOp (rIx K) (tVar 2) (tC (.int 0))) (tC (.int 0))) (tC (.str ": ")))) [some (.str t), none, some (.list ((w :: ws).map .str)), none, none] (decide (c0 ∈ cp ": ")) := et_test (ev_op (ec0 _ _) ev_str od_inS)
        have f3 : EvT K (tNot (tB (tCB (rAll K) (tCons (tLc (iSeq K (tSl (rSlU K) (tVar 2) (tPart (tC (.int 1))) tNoPart)) (gName 3) tYes (tOp (rNotInU K) (tC (.str ":")) (tVar 3)) [3]) tNil)))) [some (.str t), none, some (.list ((w :: ws).map .str)), none, none] (!ws.all fun w => !decide (58 ∈ cp w)) :=
          et_not (et_B (ev_all ws .str (fun w => !decide (58 ∈ cp w)) (it_seqL (et none)) (by simp at hlen; omega) (by simp) (fun x _ => ev_op (ev_c (d := .str (sgn 58)) fun _ => .str _) (ev_var rfl) od_niS)))
        by_cases h4 : c0 ∈ cp ": "
        · have hno : parseT t = none := by
            unfold parseT okT
            rw [hw0, hcw, List.headD_cons, decide_eq_true h4]
            simp
          rw [hno]
          exact xs_seqX (xs_if (b := true) (et_orF (et_to f1 (by rw [decide_eq_true h3]; rfl)) (et_orT (et_to f2 (decide_eq_true h4)))) (fun _ => xs_raiseF) (fun z => by cases z))
        · by_cases h5 : (ws.all fun w => !decide (58 ∈ cp w)) = true
          · refine xs_seq (xs_if (b := false) (et_orF (et_to f1 (by rw [decide_eq_true h3]; rfl)) (et_orF (et_to f2 (decide_eq_false h4)) (et_to f3 (by rw [h5]; rfl)))) (fun z => by cases z) (fun _ => xs_next)) ?_
            have hokT : okT t = true := by
              unfold okT
              rw [h1, decide_eq_true h2, hw0, decide_eq_true h3, hcw, List.headD_cons, decide_eq_false h4, hws, List.tail_cons, h5]
              rfl
            have hc0 : 48 ≤ c0 ∧ c0 ≤ 55 := by
              have h6 : okSg c0 = true := List.all_eq_true.mp (hmem w (by simp)).1 c0 (by rw [hcw]; simp)
              have e4 : cp ": " = [58, 32] := by decide +kernel
              rw [e4] at h4
              rcases (okSg_iff c0).mp h6 with h | h | h
              · exact h
              · exact (h4 (by simp [h])).elim
              · exact (h4 (by simp [h])).elim
            have hd : ∀ x ∈ ws, ∀ c ∈ cp x, 48 ≤ c ∧ c ≤ 55 := fun x hx c hc => by
              have h6 : okSg c = true := List.all_eq_true.mp (hmem x (by simp [hx])).1 c hc
              rcases (okSg_iff c).mp h6 with h | h | h
              · exact h
              · have := List.all_eq_true.mp h5 x hx
                rw [← h] at this
                simp [hc] at this
              · exact (ws_free t x (by rw [hws]; simp [hx]) (h ▸ hc)).elim
            have hfo : foundT t = .tuple [.int ((c0 : Int) - 48), .tuple (ws.map fun w => .tuple ((cp w).map fun (c : Nat) => PyData.int ((c : Int) - 48)))] := by
              unfold foundT; rw [hw0, hws, hcw]; rfl
            refine xs_seq (xs_asg (d := foundT t) ?_) ?_
            · rw [hfo]
              refine ev_tup (ea_cons (ev_cb (ea_cons (ec0 _ _) ea_nil) (ca_intS (int_sgn hc0.1 (by omega)) (by show (1 : Nat) ≤ 640; decide))) (ea_cons (ev_tupLc ws .str (fun w => .tuple ((cp w).map fun (c : Nat) => PyData.int ((c : Int) - 48))) (it_seqL (et none)) (by simp at hlen; omega) (by simp) (fun x hx => ?_)) ea_nil)) (by simp)
              refine ev_tupLc (cp x) (fun c => .str (sgn c)) (fun (c : Nat) => PyData.int ((c : Int) - 48)) (it_str (ev_var rfl)) ?_ (by simp) (fun c hc => ev_cb (ea_cons (ev_var rfl) ea_nil) (ca_intS (int_sgn (hd x hx c hc).1 (by have := (hd x hx c hc).2; omega)) (by show (1 : Nat) ≤ 640; decide)))
              have := (hmem x (by simp [hx])).2
              have e2 : (cp x).length = x.length := by simp [cp, Str.length]
              omega
            · show ExS K E _ [some (.str t), none, some (.list ((w :: ws).map .str)), none, some (foundT t)] _
              have hsh : Sh 40 (foundT t) := by
                rw [hfo]
                refine Sh.mono (m := 3) (n := 40) (sh_tup fun d hd => ?_) (by omega)
                rcases List.mem_cons.mp hd with e | e
                · rw [e]; exact sh_int
                · rw [List.mem_singleton.mp e]
                  refine sh_tup fun d hd => ?_
                  obtain ⟨x, _, rfl⟩ := List.mem_map.mp hd
                  refine sh_tup fun d hd => ?_
                  obtain ⟨c, _, rfl⟩ := List.mem_map.mp hd
                  exact sh_int
              have hshort : Short (foundT t) := by
                rw [hfo]
                intro l hl
                have := PyData.tuple.inj hl
                subst this
                refine ⟨by simp, fun x hx m hm => ?_⟩
                rcases List.mem_cons.mp hx with e | e
                · rw [e] at hm; cases hm
                · rw [List.mem_singleton.mp e] at hm
                  have := PyData.tuple.inj hm
                  subst this
                  refine ⟨by rw [List.length_map]; simp at hlen; omega, fun y hy k hk => ?_⟩
                  obtain ⟨z, hz, rfl⟩ := List.mem_map.mp hy
                  have := PyData.tuple.inj hk
                  subst this
                  rw [List.length_map]
                  have := (hmem z (by simp [hz])).2
                  have e2 : (cp z).length = z.length := by simp [cp, Str.length]
                  omega
              have hif : EvT K (tNot (tB (tCall (sp_is_family K) [] E0 (tCons (tVar 4) tNil)))) [some (.str t), none, some (.list ((w :: ws).map .str)), none, some (foundT t)] (!isFam (foundT t)) := et_not (et_B (ev_call (ea_cons (ev_var rfl) ea_nil) ⟨foundT t, hsh, hshort, rfl, rfl⟩))
              by_cases h6 : isFam (foundT t) = true
              · have : parseT t = some (foundT t) := by unfold parseT; rw [hokT, h6]; rfl
                rw [this]
                exact xs_seq (xs_if (b := false) (et_to hif (by rw [h6]; rfl)) (fun z => by cases z) (fun _ => xs_next)) (xs_ret (ev_var rfl))
              · have h6' : isFam (foundT t) = false := by simpa using h6
                have : parseT t = none := by unfold parseT; rw [hokT, h6']; rfl
                rw [this]
                exact xs_seqX (xs_if (b := true) (et_to hif (by rw [h6']; rfl)) (fun _ => xs_raiseF) (fun z => by cases z))
          · have h5' : (ws.all fun w => !decide (58 ∈ cp w)) = false := by simpa using h5
            have hno : parseT t = none := by
              unfold parseT okT
              rw [hws, List.tail_cons, h5']
              simp
            rw [hno]
            exact xs_seqX (xs_if (b := true) (et_orF (et_to f1 (by rw [decide_eq_true h3]; rfl)) (et_orF (et_to f2 (decide_eq_false h4)) (et_to f3 (by rw [h5']; rfl)))) (fun _ => xs_raiseF) (fun z => by cases z))
      · have hno : parseT t = none := by
          unfold parseT okT
          rw [hw0, decide_eq_false h3]
          simp
        rw [hno]
        exact xs_seqX (xs_if (b := true) (et_orT (et_to f1 (by rw [decide_eq_false h3]; rfl))) (fun _ => xs_raiseF) (fun z => by cases z))
    · have hno : parseT t = none := by
        unfold parseT okT
        rw [decide_eq_false h2]
        simp
      rw [hno]
      exact xs_seqX (xs_if (b := true) (et_orF e0 (et_orF (et_to e1 (by rw [h1]; rfl)) (et_to e2 (by rw [decide_eq_false h2]; rfl)))) (fun _ => xs_raiseF) (fun z => by cases z))
  · have h1' : (cp t).all okSg = false := by simpa using h1
    have hno : parseT t = none := by
      unfold parseT okT
      rw [h1']
      simp
    rw [hno]
    exact xs_seqX (xs_if (b := true) (et_orF e0 (et_orT (et_to e1 (by rw [h1']; rfl)))) (fun _ => xs_raiseF) (fun z => by cases z))
theorem pure_parse_family {vs : List V} {H : Hp} {Q : VK} (hs : sp_parse_family K vs H Q E) : t_parse_family K E { nx := fun _ H' => Q .non H', rt := Q } (L2.start ["text", "sign", "words", "word", "found"] vs) H :=
  sp_body (fun ds o h => by
    obtain ⟨d, ⟨h1, h2⟩, rfl, rfl⟩ := h
    refine .inl ?_
    cases d with
    | str t => exact x_parse (h2 t rfl).1 (h2 t rfl).2
    | _ => exact x_parse_non h1 rfl) hs
end
end Lc

set_option Elab.async false
set_option linter.all false
set_option maxRecDepth 100000
set_option maxHeartbeats 4000000
namespace Lc
open PySem L2 PySem.Spec PyProof.Rows
def R_law_call (K : PySem.W.Frag) : List PyData → Out → Prop := fun ds o => ∃ how d, ds = [.int how, d] ∧ ((how = 0 ∧ R_parse_family K [d] o) ∨ (how = 1 ∧ R_format_family K [d] o))
def sp_law_call (K : PySem.W.Frag) : Sp := spD K (R_law_call K)
def sp_law_outcome (K : PySem.W.Frag) : Sp := spD K (R_outcome K (R_law_call K))
def t_law_outcome (K : PySem.W.Frag) (E : XK) : TS := (tSeq (tAsg (tC .non) (gName 2))
  (tSeq (tAsg (tC .non) (gName 3))
  (tSeq (tTryK K (.ref (He.ga K "ColourError")) 4 2 3 (sp_law_call K) (tCons (tVar 0) (tCons (tVar 1) tNil)))
  (tSeq (tIfS (tTest (tOp rIsU (tVar 2) (tC .non))) (tRet (tTup (tCons (tC (.str "returned")) (tCons (tVar 3) tNil)))) tNext)
  (tRet (tTup (tCons (tC (.str "raised")) (tCons (tCall (sp_law_name K) [] E0 (tCons (tVar 2) tNil)) tNil))))))))
def t_law_call (K : PySem.W.Frag) (E : XK) : TS := (tRet (tIf (tTest (tOp (rEqD K) (tVar 0) (tC (.int 0)))) (tCall (sp_parse_family K) [] E (tCons (tVar 1) tNil)) (tCall (sp_format_family K) [] E (tCons (tVar 1) tNil))))
def t_law (K : PySem.W.Frag) (E : XK) : TS := (tSeq (tAsg (tCall (sp_law_town K) [] E0 (tCons (tVar 0) tNil)) (gName 1))
  (tSeq (tAsg (tCall (sp_law_family K) [] E0 (tCons (tVar 0) (tCons (tVar 1) (tCons (tC (.int 7)) tNil)))) (gName 2))
  (tSeq (tAsg (tOp (rAddU K) (tCB rStrU (tCons (tOp (rIx K) (tVar 2) (tC (.int 0))) tNil)) (tC (.str ":"))) (gName 3))
  (tSeq (tFor (iSeq K (tOp (rIx K) (tVar 2) (tC (.int 1)))) (gName 4) (tAsg (tOp (rAddU K) (tOp (rAddU K) (tVar 3) (tC (.str " "))) (tJoin K (tC (.str "")) (tLc (iSeq K (tVar 4)) (gName 5) tYes (tCB rStrU (tCons (tVar 5) tNil)) [5]))) (gName 3)))
  (tSeq (tIfS (tOr (tTest (tOp (rNeD K) (tCall (sp_format_family K) [] E0 (tCons (tVar 2) tNil)) (tVar 3))) (tTest (tOp (rNeD K) (tCall (sp_law_outcome K) [] E0 (tCons (tC (.int 0)) (tCons (tVar 3) tNil))) (tTup (tCons (tC (.str "returned")) (tCons (tVar 2) tNil)))))) (tRet (tC (.bl false))) tNext)
  (tSeq (tFor (iRng1 (tCons (tC (.int 14)) tNil)) (gName 5) (tSeq (tAsg (tCall (sp_law_draw K) [] E0 (tCons (tVar 0) (tCons (tVar 1) (tCons (tOp (rAddU K) (tCB (rLenU K) (tCons (tVar 3) tNil)) (tC (.int 1))) tNil)))) (gName 6))
  (tSeq (tAsg (tCall (sp_law_pick K) [] E0 (tCons (tVar 0) (tCons (tVar 1) (tCons (tOp (rAddU K) (tCB rListS (tCons (tC (.str "01234567 :")) tNil)) (tLst (tCons (tC (.str "")) (tCons (tC (.str "  ")) (tCons (tC (.str "\n")) (tCons (tC (.str " 0")) (tCons (tC (.str "-")) (tCons (tC (.str "01")) tNil)))))))) tNil)))) (gName 7))
  (tSeq (tAsg (tOp (rAddU K) (tOp (rAddU K) (tSl (rSlU K) (tVar 3) tNoPart (tPart (tVar 6))) (tVar 7)) (tSl (rSlU K) (tVar 3) (tPart (tOp (rAddU K) (tVar 6) (tCall (sp_law_draw K) [] E0 (tCons (tVar 0) (tCons (tVar 1) (tCons (tC (.int 2)) tNil)))))) tNoPart)) (gName 8))
  (tSeq (tAsg (tCall (sp_law_outcome K) [] E0 (tCons (tC (.int 0)) (tCons (tVar 8) tNil))) (gName 9))
  (tIfS (tTest (tOp (rEqD K) (tOp (rIx K) (tVar 9) (tC (.int 0))) (tC (.str "returned")))) (tIfS (tOr (tTest (tOp rNotU (tCall (sp_is_family K) [] E0 (tCons (tOp (rIx K) (tVar 9) (tC (.int 1))) tNil)) (tC (.bl true)))) (tTest (tOp (rNeD K) (tCall (sp_format_family K) [] E0 (tCons (tOp (rIx K) (tVar 9) (tC (.int 1))) tNil)) (tVar 8)))) (tRet (tC (.bl false))) tNext) (tIfS (tOr (tTest (tOp (rNeD K) (tVar 9) (tCall (sp_law_raises K) [] E0 (tCons (tC (.str "text")) tNil)))) (tTest (tOp (rEqD K) (tVar 8) (tVar 3)))) (tRet (tC (.bl false))) tNext)))))))
  (tSeq (tAsg (tLst (tCons (tC .non) (tCons (tC (.int 5)) (tCons (tC (.bl true)) (tCons (tC (.str "")) (tCons (tC (.str " ")) (tCons (tC (.str "2")) (tCons (tC (.str "2:")) (tCons (tC (.str "2: ")) (tCons (tC (.str "2:0")) (tCons (tC (.str "2: 0 ")) (tCons (tC (.str " 2: 0")) (tCons (tC (.str "0: 0")) (tCons (tC (.str "8: 0")) (tCons (tC (.str "2: 2")) (tCons (tC (.str "2: 10")) (tCons (tC (.str "2: 00")) tNil))))))))))))))))) (gName 10))
  (tSeq (tAsg (tOp (rAddU K) (tVar 10) (tLst (tCons (tC (.str "2: 1 0")) (tCons (tC (.str "2: 0 0")) (tCons (tC (.str "2: 0  1")) (tCons (tC (.str "02: 0")) (tCons (tC (.str "2: 0\n")) (tCons (tC (.str "2; 0")) (tCons (tC (.str ":: 0")) (tCons (tC (.str " : 0")) (tCons (tC (.str "2: :")) (tCons (tC (.str "2: 0:1")) tNil)))))))))))) (gName 10))
  (tSeq (tAsg (tOp (rAddU K) (tVar 10) (tLst (tCons (tC (.str "2: 0,1")) (tCons (tC (.str "2: -1")) (tCons (tLst (tCons (tVar 3) tNil)) (tCons (tTup (tCons (tVar 3) tNil)) (tCons tDNewK (tCons (tVar 2) (tCons (tOp (rAddU K) (tVar 3) (tC (.str " "))) (tCons (tOp (rAddU K) (tVar 3) (tC (.str "9"))) tNil)))))))))) (gName 10))
  (tSeq (tIfS (tTest (tOp (rNeD K) (tLc (iSeq K (tVar 10)) (gName 11) (tTest (tOp (rNeD K) (tCall (sp_law_outcome K) [] E0 (tCons (tC (.int 0)) (tCons (tVar 11) tNil))) (tCall (sp_law_raises K) [] E0 (tCons (tC (.str "text")) tNil)))) (tVar 11) [11]) (tLst tNil))) (tRet (tC (.bl false))) tNext)
  (tSeq (tFor (iSeq K (tTup (tCons (tC .non) (tCons (tTup tNil) (tCons (tOp (rIx K) (tVar 2) (tC (.int 1))) (tCons (tVar 3) (tCons (tCB (rListU K) (tCons (tVar 2) tNil)) (tCons (tTup (tCons (tC (.int 2)) (tCons (tTup tNil) tNil))) (tCons (tTup (tCons (tC (.int 0)) (tCons (tTup (tCons (tTup (tCons (tC (.int 0)) tNil)) tNil)) tNil))) tNil))))))))) (gName 11) (tIfS (tTest (tOp (rNeD K) (tCall (sp_law_outcome K) [] E0 (tCons (tC (.int 1)) (tCons (tVar 11) tNil))) (tCall (sp_law_raises K) [] E0 (tCons (tC (.str "family")) tNil)))) (tRet (tC (.bl false))) tNext))
  (tRet (tAndV (tOp (rEqD K) (tCall (sp_parse_family K) [] E0 (tCons (tC (.str "7: 0123456")) tNil)) (tTup (tCons (tC (.int 7)) (tCons (tTup (tCons (tTupRg (tRg1 (tC (.int 7)))) tNil)) tNil)))) (tOp (rEqD K) (tCall (sp_parse_family K) [] E0 (tCons (tC (.str "1: 0")) tNil)) (tTup (tCons (tC (.int 1)) (tCons (tTup (tCons (tTup (tCons (tC (.int 0)) tNil)) tNil)) tNil)))))))))))))))))
section
variable {K : PySem.W.Frag} {E : XK}
theorem pure_law_outcome {vs : List V} {H : Hp} {Q : VK} (hs : sp_law_outcome K vs H Q E) : t_law_outcome K E { nx := fun _ H' => Q .non H', rt := Q } (L2.start ["how", "arguments", "caught", "result", "error"] vs) H := pure_outcome hs
theorem pure_law_call {vs : List V} {H : Hp} {Q : VK} (hs : sp_law_call K vs H Q E) : t_law_call K E { nx := fun _ H' => Q .non H', rt := Q } (L2.start ["how", "arguments"] vs) H :=
  sp_body (fun ds o h => by
    obtain ⟨how, d, rfl, h⟩ := h
    refine .inl ?_
    have ht : EvT K (tTest (tOp (rEqD K) (tVar 0) (tC (.int 0)))) [some (.int how), some d] (decide (how = 0)) := et_to (et_test (ev_op (ev_var rfl) ev_int (od_eq (sh_int (n := 0)) (sh_int (n := 0))))) (by rw [eqv_int])
    rcases h with ⟨rfl, h⟩ | ⟨rfl, h⟩
    · exact xs_retIfT (et_to ht rfl) (ea_cons (ev_var rfl) ea_nil) h (fun r e => by
        obtain ⟨d', _, _, ho⟩ := h
        rw [e] at ho
        revert ho
        cases parseD d' <;> intro ho <;> cases ho)
    · exact xs_retIfF (et_to ht rfl) (ea_cons (ev_var rfl) ea_nil) h (fun r e => by
        obtain ⟨_, d', r', e', h⟩ := h
        rcases h with ⟨_, _, _, ho⟩ | ⟨n, ss, _, _, _, ho⟩
        · rw [e] at ho; cases ho
        · rw [e] at ho; cases ho)) hs
end
end Lc

set_option Elab.async false
set_option linter.all false
set_option maxRecDepth 100000
set_option maxHeartbeats 4000000
namespace Lc
open PySem L2 PySem.Spec PyProof.Rows
/-! ### plain -/
theorem join_snoc (sep x : Str) (y : Str) : ∀ (l : List Str) (x : Str), Str.join sep (x :: (l ++ [y])) = Str.join sep (x :: l) ++ sep ++ y
  | [], x => rfl
  | z :: l, x => by
    show x ++ sep ++ Str.join sep (z :: (l ++ [y])) = x ++ sep ++ Str.join sep (z :: l) ++ sep ++ y
    rw [join_snoc sep x y l z]
    simp only [Str.append_assoc]
def preT (n : Int) (ss : List (List Int)) (i : Nat) : Str := Str.join " " ((dig n ++ ":") :: (ss.take i).map lotT)
theorem preT_succ {n : Int} {ss : List (List Int)} {i : Nat} (h : i < ss.length) : preT n ss (i + 1) = preT n ss i ++ " " ++ lotT ss[i] := by
  unfold preT
  rw [List.take_succ_eq_append_getElem h, List.map_append]
  exact join_snoc " " "" (lotT ss[i]) _ _
theorem preT_all {n : Int} {ss : List (List Int)} : preT n ss ss.length = famT n ss := by
  unfold preT famT
  rw [List.take_length]
theorem preT_len {n : Int} {ss : List (List Int)} (hF : FamOk n ss) {i : Nat} (h : i ≤ ss.length) : (preT n ss i).length ≤ 2000 := by
  unfold preT
  refine Nat.le_trans (StrLaws.join_length_le _ _) ?_
  have h7 := hF.n7
  have h1 := hF.n1
  have h8 := hF.s8
  have hs : ∀ l : List (List Int), (∀ s ∈ l, (lotT s).length ≤ 7) → ((l.map lotT).map (·.length)).sum ≤ 7 * l.length := by
    intro l
    induction l with
    | nil => intro _; simp
    | cons s l ih =>
      intro h
      have h1 := h s (by simp)
      have h2 := ih (fun z hz => h z (by simp [hz]))
      simp only [List.map_cons, List.sum_cons, List.length_cons]
      omega
  have h2 := hs (ss.take i) (fun s hs => by
    have hs' := List.mem_of_mem_take hs
    have hb := (hF.lots s hs').2.1
    have e : (lotT s).length = (cp (lotT s)).length := by simp [cp, Str.length]
    rw [e, cp_lotT (fun x hx => by have := hb x hx; omega), List.length_map]
    exact (hF.lots s hs').len h7)
  have h3 : (dig n ++ ":").length = 2 := by
    rw [Str.length_append, dig_sgn (by omega) (by omega)]
    rfl
  have h4 : (Str.ofString " ").length = 1 := rfl
  have h5 : (ss.take i).length ≤ 8 := by rw [List.length_take]; omega
  simp only [List.map_cons, List.sum_cons, List.length_cons, List.length_map, h3, h4]
  omega
theorem strOk_iff {t : Str} : PyData.strOk t = true ↔ ∀ c ∈ cp t, c < 0x110000 := by
  unfold PyData.strOk
  rw [← Array.all_toList, List.all_eq_true]
  simp
theorem strOk_app {a b : Str} (ha : PyData.strOk a = true) (hb : PyData.strOk b = true) : PyData.strOk (a ++ b) = true := by
  rw [strOk_iff] at *
  intro c hc
  rw [cp_app] at hc
  rcases List.mem_append.mp hc with h | h
  · exact ha c h
  · exact hb c h
theorem famT_ok {n : Int} {ss : List (List Int)} (hF : FamOk n ss) : PyData.strOk (famT n ss) = true := by
  have h := text_parse hF
  rw [strOk_iff]
  unfold parseT at h
  by_cases hc : (okT (famT n ss) && isFam (foundT (famT n ss))) = true
  · rw [Bool.and_eq_true] at hc
    have h1 := hc.1
    unfold okT at h1
    rw [Bool.and_eq_true] at h1
    intro c hm
    rcases (okSg_iff c).mp (List.all_eq_true.mp h1.1 c hm) with h | h | h <;> omega
  · rw [if_neg hc] at h; cases h
theorem cutS_len {t : Str} {i j : Option Int} : (cutS t i j).length ≤ t.length := by
  unfold cutS
  have e : ∀ l : List Nat, (⟨l.toArray⟩ : Str).length = l.length := fun l => by simp [Str.length]
  rw [e]
  refine Nat.le_trans (List.length_take_le' _ _) ?_
  rw [List.length_drop]
  have : t.cps.toList.length = t.length := by simp [Str.length]
  omega
/-- what ends in none of the signs is not read -/
theorem noParse {n : Int} {ss : List (List Int)} (hF : FamOk n ss) : parseT (famT n ss ++ " ") = none ∧ parseT (famT n ss ++ "9") = none := by
  have key : ∀ (c : Nat) (t : Str), parseT (famT n ss ++ t) ≠ none → cp t = [c] → 48 ≤ c ∧ c ≤ 55 := by
    intro c t h hc
    cases hp : parseT (famT n ss ++ t) with
    | none => exact (h hp).elim
    | some d =>
      obtain ⟨m, us, hG, _, e⟩ := parse_text hp
      have hl : (cp (famT m us)).getLast? = some c := by rw [e, cp_app, hc]; simp
      have : ∀ l : List (List Nat), l ≠ [] → ∀ x, l.getLast? = some x → x ≠ [] → (jl 32 l).getLast? = x.getLast? := by
        intro l
        induction l with
        | nil => intro h; exact (h rfl).elim
        | cons a l ih =>
          intro _ x hx hxe
          cases l with
          | nil => have : a = x := by simpa using hx
                   rw [this]; rfl
          | cons b r =>
            show (a ++ 32 :: jl 32 (b :: r)).getLast? = _
            have h2 := ih (by simp) x (by simpa using hx) hxe
            have hj : jl 32 (b :: r) ≠ [] := fun z => by
              rw [z] at h2
              cases hz : x.getLast? with
              | none => exact hxe (List.getLast?_eq_none_iff.mp hz)
              | some y => rw [hz] at h2; cases h2
            rw [← h2, List.getLast?_append]
            cases hz : (jl 32 (b :: r)).getLast? with
            | none => exact (hj (List.getLast?_eq_none_iff.mp hz)).elim
            | some y => simp [List.getLast?_cons, hz]
      have hne : us ≠ [] := fun e => by have := hG.s1; rw [e] at this; simp at this
      obtain ⟨s, hs⟩ : ∃ s, us.getLast? = some s := by
        cases hz : us.getLast? with
        | none => exact (hne (List.getLast?_eq_none_iff.mp hz)).elim
        | some s => exact ⟨s, rfl⟩
      have hsm : s ∈ us := List.mem_of_getLast? hs
      have hb := (hG.lots s hsm).2.1
      have h7 := hG.n7
      have hcs : cp (lotT s) = s.map fun x => 48 + x.toNat := cp_lotT (fun x hx => by have := hb x hx; omega)
      have hse : cp (lotT s) ≠ [] := fun z => (hG.lots s hsm).1 (List.map_eq_nil_iff.mp (hcs ▸ z))
      have hcp : cp (famT m us) = jl 32 (((dig m ++ ":") :: us.map lotT).map cp) := cp_join 32 _
      rw [hcp, this _ (by simp) (cp (lotT s)) (by
        rw [List.map_cons, List.map_map, List.getLast?_cons]
        have : (us.map (cp ∘ lotT)).getLast? = some (cp (lotT s)) := by rw [List.getLast?_map, hs]; rfl
        rw [this]; rfl) hse, hcs, List.getLast?_map] at hl
      cases hz : s.getLast? with
      | none => rw [hz] at hl; cases hl
      | some x =>
        rw [hz] at hl
        have h1 := hb x (List.mem_of_getLast? hz)
        have : 48 + x.toNat = c := by simpa using hl
        omega
  constructor
  · apply Classical.byContradiction
    intro h
    have := key 32 " " h (by decide +kernel)
    omega
  · apply Classical.byContradiction
    intro h
    have := key 57 "9" h (by decide +kernel)
    omega
def bads1 : List PyData := [.none, .int 5, .bool true, .str "", .str " ", .str "2", .str "2:", .str "2: ", .str "2:0", .str "2: 0 ", .str " 2: 0", .str "0: 0", .str "8: 0", .str "2: 2", .str "2: 10", .str "2: 00"]
def bads2 : List PyData := [.str "2: 1 0", .str "2: 0 0", .str "2: 0  1", .str "02: 0", .str "2: 0\n", .str "2; 0", .str ":: 0", .str " : 0", .str "2: :", .str "2: 0:1"]
def bads3 (t : Str) (n : Int) (ss : List (List Int)) : List PyData := [.str "2: 0,1", .str "2: -1", .list [.str t], .tuple [.str t], .dict [], famD n ss, .str (t ++ " "), .str (t ++ "9")]
def constBads : List Str := ["", " ", "2", "2:", "2: ", "2:0", "2: 0 ", " 2: 0", "0: 0", "8: 0", "2: 2", "2: 10", "2: 00", "2: 1 0", "2: 0 0", "2: 0  1", "02: 0", "2: 0\n", "2; 0", ":: 0", " : 0", "2: :", "2: 0:1", "2: 0,1", "2: -1"]
theorem const_no : ∀ t ∈ constBads, (t.length ≤ 1000 ∧ PyData.strOk t = true) ∧ parseT t = none := by decide +kernel
theorem txt_const {t : Str} (h : t ∈ constBads) : TxtOk (.str t) ∧ parseD (.str t) = none := ⟨⟨rfl, fun u e => by cases e; exact (const_no t h).1⟩, (const_no t h).2⟩
theorem bads_txt {n : Int} {ss : List (List Int)} (hF : FamOk n ss) : ∀ d ∈ bads1 ++ bads2 ++ bads3 (famT n ss) n ss, TxtOk d ∧ parseD d = none := by
  have hl := famT_len hF
  have hok := famT_ok hF
  have nostr : ∀ d : PyData, (tyName d).isSome = true → isStr d = false → TxtOk d ∧ parseD d = none := fun d h1 h2 => by
    cases d with
    | str t => cases h2
    | _ => exact ⟨⟨h1, fun t e => by cases e⟩, rfl⟩
  intro d hd
  rw [List.append_assoc] at hd
  rcases List.mem_append.mp hd with h | h
  · simp only [bads1, List.mem_cons, List.not_mem_nil, or_false] at h
    rcases h with rfl | rfl | rfl | rfl | rfl | rfl | rfl | rfl | rfl | rfl | rfl | rfl | rfl | rfl | rfl | rfl
    · exact nostr _ rfl rfl
    · exact nostr _ rfl rfl
    · exact nostr _ rfl rfl
    all_goals exact txt_const (by decide +kernel)
  · rcases List.mem_append.mp h with h | h
    · simp only [bads2, List.mem_cons, List.not_mem_nil, or_false] at h
      rcases h with rfl | rfl | rfl | rfl | rfl | rfl | rfl | rfl | rfl | rfl
      all_goals exact txt_const (by decide +kernel)
    · simp only [bads3, List.mem_cons, List.not_mem_nil, or_false] at h
      rcases h with rfl | rfl | rfl | rfl | rfl | rfl | rfl | rfl
      · exact txt_const (by decide +kernel)
      · exact txt_const (by decide +kernel)
      · exact nostr _ rfl rfl
      · exact nostr _ rfl rfl
      · exact nostr _ rfl rfl
      · exact nostr _ rfl rfl
      · refine ⟨⟨rfl, fun u e => ?_⟩, (noParse hF).1⟩
        cases e
        exact ⟨by rw [Str.length_append]; have : (Str.ofString " ").length = 1 := rfl; omega, strOk_app hok (by decide +kernel)⟩
      · refine ⟨⟨rfl, fun u e => ?_⟩, (noParse hF).2⟩
        cases e
        exact ⟨by rw [Str.length_append]; have : (Str.ofString "9").length = 1 := rfl; omega, strOk_app hok (by decide +kernel)⟩
end Lc

set_option Elab.async false
set_option linter.all false
set_option maxRecDepth 100000
set_option maxHeartbeats 4000000
namespace Lc
open PySem L2 PySem.Spec PyProof.Rows
section
variable {K : PySem.W.Frag} {E : XK} {tn : Addr} {ns : List Int}
abbrev r82 (tn : Addr) (ns : List Int) (fam te on k at_ sg ot to ba bd : Option PyData) : Rho := [some (scrD ns), some (adrD tn), fam, te, on, k, at_, sg, ot, to, ba, bd]
def told82 (t : Str) : PyData := match parseT t with
  | some f => retD f
  | none => raisedD 11
theorem ev_parse82 {ρ : Rho} {tv : TE} (hE : Errs K) {t : Str} (hv : EvD K tv ρ (.str t)) (hz : t.length ≤ 1000) (hok : PyData.strOk t = true) : EvD K (tCall (sp_law_outcome K) [] E0 (tCons (tC (.int 0)) (tCons tv tNil))) ρ (told82 t) := by
  have hT : TxtOk (.str t) := ⟨rfl, fun u e => by cases e; exact ⟨hz, hok⟩⟩
  unfold told82
  cases hp : parseT t with
  | some f => exact ev_outR ev_int hv ⟨0, .str t, rfl, .inl ⟨rfl, .str t, hT, rfl, by show _ = outOf _ (parseT t); rw [hp]; rfl⟩⟩
  | none => exact ev_outX ev_int hv ⟨0, .str t, rfl, .inl ⟨rfl, .str t, hT, rfl, by show _ = outOf _ (parseT t); rw [hp]; rfl⟩⟩ (hE 11 (by decide))
theorem ev_badT {ρ : Rho} {tv : TE} (hE : Errs K) {d : PyData} (hv : EvD K tv ρ d) (hT : TxtOk d) (hp : parseD d = none) : EvD K (tCall (sp_law_outcome K) [] E0 (tCons (tC (.int 0)) (tCons tv tNil))) ρ (raisedD 11) :=
  ev_outX ev_int hv ⟨0, d, rfl, .inl ⟨rfl, d, hT, rfl, by rw [hp]; rfl⟩⟩ (hE 11 (by decide))
theorem ev_badF {ρ : Rho} {tv : TE} (hE : Errs K) {d : PyData} (hv : EvD K tv ρ d) (h1 : Sh 40 d) (h2 : Short d) (h3 : isFam d = false) : EvD K (tCall (sp_law_outcome K) [] E0 (tCons (tC (.int 1)) (tCons tv tNil))) ρ (raisedD 0) :=
  ev_outX ev_int hv ⟨1, d, rfl, .inr ⟨rfl, rfl, d, [], rfl, .inl ⟨h1, h2, h3, rfl⟩⟩⟩ (hE 0 (by decide))
theorem ev_format {ρ : Rho} {tv : TE} {n : Int} {ss : List (List Int)} (hF : FamOk n ss) (hv : EvD K tv ρ (famD n ss)) : EvD K (tCall (sp_format_family K) [] E0 (tCons tv tNil)) ρ (.str (famT n ss)) :=
  ev_call (ea_cons hv ea_nil) ⟨rfl, famD n ss, [], rfl, .inr ⟨n, ss, hF, rfl, rfl, rfl⟩⟩
/-- text[e:], e drawn -/
theorem ew_slS {ρ : Rho} {n : Nat} {t : Str} {ta tl : TE} {R Rr : PyData → Prop} (ht : EvD K ta ρ (.str t)) (hl : EvW K tn ns tl ρ n R) (hR : ∀ d, R d → ∃ r : Int, d = .int r ∧ Rr (.str (cutS t (some r) none))) (hz : t.length ≤ 100000) : EvW K tn ns (tSl (rSlU K) ta (tPart tl) tNoPart) ρ n Rr := fun c A σ H hc l hm htw hE Q q =>
  ht A σ H l hE _ fun v H1 s1 hv => hl c A σ H1 hc (l.same s1) hm (htw.same s1) (hE.same (cut_same s1)) _ fun d u H2 hd k2 t2 hu => by
    obtain ⟨r, rfl, hr⟩ := hR d hd
    cases hv; cases hu
    exact ⟨r, rfl, .inr (.inr ⟨t, rfl, Nat.le_trans hz (by decide), q _ _ H2 hr ((Keep.of s1).trans k2) t2 (.str _)⟩)⟩
/-- one changed text -/
theorem turn82 (hE : Errs K) {n : Int} {ss : List (List Int)} {on k at_ sg ot to ba bd : Option PyData} (hF : FamOk n ss) :
    ExW K tn ns (tSeq (tAsg (tCall (sp_law_draw K) [] E0 (tCons (tVar 0) (tCons (tVar 1) (tCons (tOp (rAddU K) (tCB (rLenU K) (tCons (tVar 3) tNil)) (tC (.int 1))) tNil)))) (gName 6))
  (tSeq (tAsg (tCall (sp_law_pick K) [] E0 (tCons (tVar 0) (tCons (tVar 1) (tCons (tOp (rAddU K) (tCB rListS (tCons (tC (.str "01234567 :")) tNil)) (tLst (tCons (tC (.str "")) (tCons (tC (.str "  ")) (tCons (tC (.str "\n")) (tCons (tC (.str " 0")) (tCons (tC (.str "-")) (tCons (tC (.str "01")) tNil)))))))) tNil)))) (gName 7))
  (tSeq (tAsg (tOp (rAddU K) (tOp (rAddU K) (tSl (rSlU K) (tVar 3) tNoPart (tPart (tVar 6))) (tVar 7)) (tSl (rSlU K) (tVar 3) (tPart (tOp (rAddU K) (tVar 6) (tCall (sp_law_draw K) [] E0 (tCons (tVar 0) (tCons (tVar 1) (tCons (tC (.int 2)) tNil)))))) tNoPart)) (gName 8))
  (tSeq (tAsg (tCall (sp_law_outcome K) [] E0 (tCons (tC (.int 0)) (tCons (tVar 8) tNil))) (gName 9))
  (tIfS (tTest (tOp (rEqD K) (tOp (rIx K) (tVar 9) (tC (.int 0))) (tC (.str "returned")))) (tIfS (tOr (tTest (tOp rNotU (tCall (sp_is_family K) [] E0 (tCons (tOp (rIx K) (tVar 9) (tC (.int 1))) tNil)) (tC (.bl true)))) (tTest (tOp (rNeD K) (tCall (sp_format_family K) [] E0 (tCons (tOp (rIx K) (tVar 9) (tC (.int 1))) tNil)) (tVar 8)))) (tRet (tC (.bl false))) tNext) (tIfS (tOr (tTest (tOp (rNeD K) (tVar 9) (tCall (sp_law_raises K) [] E0 (tCons (tC (.str "text")) tNil)))) (tTest (tOp (rEqD K) (tVar 8) (tVar 3)))) (tRet (tC (.bl false))) tNext))))))
      (r82 tn ns (some (famD n ss)) (some (.str (famT n ss))) on k at_ sg ot to ba bd) 3
      (fun ρ' => ∃ at_ sg ot to, ρ' = r82 tn ns (some (famD n ss)) (some (.str (famT n ss))) on k at_ sg ot to ba bd) (· = .bool true) := by
  have hl := famT_len hF
  have hok := famT_ok hF
  refine ExW.mono (xw_seq (n := 1) (m := 2) (Pm := fun ρ' => ∃ at_ sg ot to, ρ' = r82 tn ns (some (famD n ss)) (some (.str (famT n ss))) on k at_ sg ot to ba bd) (xw_asg (ew_draw (k := ((famT n ss).length : Int) + 1) rfl rfl (ev_op (ev_cb (ea_cons (ev_var rfl) ea_nil) (ca_lenS (by omega))) ev_int od_add) (by omega) (by omega))) (fun ρ1 h1 => ?_)) (by omega) (fun _ h => h) (fun _ h => h)
  obtain ⟨d, ⟨a, rfl, ha0, ha1⟩, rfl⟩ := h1
  show ExW K tn ns _ (r82 tn ns (some (famD n ss)) (some (.str (famT n ss))) on k (some (.int a)) sg ot to ba bd) 2 _ _
  refine ExW.mono (xw_seq (n := 1) (m := 1) (Pm := fun ρ' => ∃ at_ sg ot to, ρ' = r82 tn ns (some (famD n ss)) (some (.str (famT n ss))) on k at_ sg ot to ba bd) (xw_asg (ew_pick (R := fun d => ∃ z : Str, d = .str z ∧ z.length ≤ 10 ∧ PyData.strOk z = true) (xs := signsD "01234567 :" ++ [.str "", .str "  ", .str "\n", .str " 0", .str "-", .str "01"]) rfl rfl (ev_op (ev_cb (ea_cons ev_str ea_nil) (ca_listS (by decide +kernel))) (ev_lst (ea_cons ev_str (ea_cons ev_str (ea_cons ev_str (ea_cons ev_str (ea_cons ev_str (ea_cons ev_str ea_nil)))))) (by simp)) (od_addL (by rw [signsD_len]; decide +kernel))) (by simp) (by rw [List.length_append, signsD_len]; decide +kernel) (fun d hd => ?_))) (fun ρ1 h1 => ?_)) (by omega) (fun _ h => h) (fun _ h => h)
  · have hall : ∀ z ∈ ((cp "01234567 :").map sgn ++ (["", "  ", "\n", " 0", "-", "01"] : List Str)), z.length ≤ 10 ∧ PyData.strOk z = true := by decide +kernel
    have e : signsD "01234567 :" ++ [.str "", .str "  ", .str "\n", .str " 0", .str "-", .str "01"] = ((cp "01234567 :").map sgn ++ (["", "  ", "\n", " 0", "-", "01"] : List Str)).map .str := by
      rw [List.map_append, List.map_map]; rfl
    rw [e] at hd
    obtain ⟨z, hz, rfl⟩ := List.mem_map.mp hd
    exact ⟨z, rfl, (hall z hz).1, (hall z hz).2⟩
  obtain ⟨d, ⟨z, rfl, hz1, hz2⟩, rfl⟩ := h1
  show ExW K tn ns _ (r82 tn ns (some (famD n ss)) (some (.str (famT n ss))) on k (some (.int a)) (some (.str z)) ot to ba bd) 1 _ _
  have c1 : (cutS (famT n ss) none (some a)).length ≤ 200 := Nat.le_trans cutS_len hl
  refine ExW.mono (xw_seq (n := 1) (m := 0) (Pm := fun ρ' => ∃ at_ sg ot to, ρ' = r82 tn ns (some (famD n ss)) (some (.str (famT n ss))) on k at_ sg ot to ba bd) (xw_asg (R := fun d => ∃ o : Str, d = .str o ∧ o.length ≤ 1000 ∧ PyData.strOk o = true) (ew_op (n := 0) (m := 1) (Ra := (· = .str (cutS (famT n ss) none (some a) ++ z))) (Rb := fun d => ∃ o : Str, d = .str o ∧ o.length ≤ 200 ∧ PyData.strOk o = true) (ew_pure (ev_op (ev_slS (ev_var rfl) eo_none (eo_some (ev_var rfl)) (by omega)) (ev_var rfl) (od_addS (by omega)))) (ew_slS (n := 1) (t := famT n ss) (ev_var rfl) (R := fun d => ∃ r : Int, d = .int r) (ew_op (n := 0) (m := 1) (Ra := (· = .int a)) (Rb := fun d => ∃ r : Int, d = .int r ∧ 0 ≤ r ∧ r < 2) (ew_pure (ev_var rfl)) (ew_draw rfl rfl ev_int (by omega) (by omega)) (fun d e hd he => ?_)) (fun d hd => ?_) (by omega)) (fun d e hd he => ?_))) (fun ρ1 h1 => ?_)) (by omega) (fun _ h => h) (fun _ h => h)
  · obtain ⟨r, rfl, _⟩ := he
    subst hd
    exact ⟨_, od_add, a + r, rfl⟩
  · obtain ⟨r, rfl⟩ := hd
    exact ⟨r, rfl, _, rfl, Nat.le_trans cutS_len hl, strOk_cut hok⟩
  · obtain ⟨o, rfl, ho1, ho2⟩ := he
    subst hd
    refine ⟨_, od_addS (by rw [Str.length_append]; omega), _, rfl, ?_, ?_⟩
    · rw [Str.length_append, Str.length_append]; omega
    · exact strOk_app (strOk_app (strOk_cut hok) hz2) ho2
  obtain ⟨d, ⟨o, rfl, ho1, ho2⟩, rfl⟩ := h1
  show ExW K tn ns _ (r82 tn ns (some (famD n ss)) (some (.str (famT n ss))) on k (some (.int a)) (some (.str z)) (some (.str o)) to ba bd) 0 _ _
  refine xw_seqP (E := E0) (xs_asg (ev_parse82 hE (ev_var rfl) ho1 ho2)) ?_
  show ExW K tn ns _ (r82 tn ns (some (famD n ss)) (some (.str (famT n ss))) on k (some (.int a)) (some (.str z)) (some (.str o)) (some (told82 o)) ba bd) 0 _ _
  refine ExW.mono (xw_pure (E := E0) (ρ1 := r82 tn ns (some (famD n ss)) (some (.str (famT n ss))) on k (some (.int a)) (some (.str z)) (some (.str o)) (some (told82 o)) ba bd) ?_) (by omega) (fun ρ' h => ⟨_, _, _, _, h⟩) (fun _ h => h)
  unfold told82
  cases hp : parseT o with
  | some f =>
    obtain ⟨m, us, hG, rfl, he⟩ := parse_text hp
    have ev1 : EvD K (tOp (rIx K) (tVar 9) (tC (.int 1))) (r82 tn ns (some (famD n ss)) (some (.str (famT n ss))) on k (some (.int a)) (some (.str z)) (some (.str o)) (some (retD (famD m us))) ba bd) (famD m us) := ev_op (ev_var rfl) ev_int (od_ixT rfl)
    refine xs_if (b := true) (et_to (et_test (ev_op (ev_op (ev_var (d := retD (famD m us)) rfl) ev_int (od_ixT (d := .str "returned") rfl)) ev_str (od_eq (sh_str (n := 0) (by decide +kernel)) (sh_str (n := 0) (by decide +kernel))))) (by rw [eqv_str, decide_eq_true rfl])) (fun _ => ?_) (fun z => by cases z)
    refine xs_if (b := false) (et_orF (et_to (et_test (ev_op (ev_call (ea_cons ev1 ea_nil) ⟨famD m us, sh_fam.mono (by omega : 3 ≤ 40), hG.short, rfl, rfl⟩) ev_bl od_notB)) (by rw [hG.isFam]; rfl)) (ne_false (ev_to (ev_format hG ev1) (by rw [he])) (ev_var rfl) (sh_str (n := 0) ho2) (by omega))) (fun z => by cases z) (fun _ => xs_next)
  | none =>
    refine xs_if (b := false) (et_to (et_test (ev_op (ev_op (ev_var (d := raisedD 11) rfl) ev_int (od_ixT (d := .str "raised") rfl)) ev_str (od_eq (sh_str (n := 0) (by decide +kernel)) (sh_str (n := 0) (by decide +kernel))))) (by rw [eqv_str]; decide +kernel)) (fun z => by cases z) (fun _ => ?_)
    refine xs_if (b := false) (et_orF (ne_false (ev_var rfl) (ev_raises 11 (by decide) (by decide +kernel)) (sh_raised (n := 0)) (by omega)) (et_to (et_test (ev_op (ev_var rfl) (ev_var rfl) (od_eq (sh_str (n := 0) ho2) (sh_str (n := 0) hok)))) ?_)) (fun z => by cases z) (fun _ => xs_next)
    rw [eqv_str, decide_eq_false]
    intro e
    rw [e, text_parse hF] at hp
    cases hp
end
end Lc

set_option Elab.async false
set_option linter.all false
set_option maxRecDepth 100000
set_option maxHeartbeats 4000000
namespace Lc
open PySem L2 PySem.Spec PyProof.Rows
section
variable {K : PySem.W.Frag} {E : XK} {tn : Addr} {ns : List Int}
theorem filt_false {α : Type} : ∀ l : List α, l.filter (fun _ => false) = []
  | [] => rfl
  | _ :: r => filt_false r
def badsF (n : Int) (ss : List (List Int)) : List PyData := [.none, .tuple [], .tuple (ss.map tI), .str (famT n ss), .list [.int n, .tuple (ss.map tI)], .tuple [.int 2, .tuple []], .tuple [.int 0, .tuple [.tuple [.int 0]]]]
theorem isFam_first {d : PyData} {l : List PyData} (h : btw d 1 7 = false) : isFam (.tuple (d :: l)) = false := by
  cases hf : isFam (.tuple (d :: l)) with
  | false => rfl
  | true =>
    obtain ⟨n, ss, e, hF⟩ := isFam_inv hf
    have := PyData.tuple.inj e
    simp only [List.cons.injEq] at this
    rw [this.1, btw_int, decide_eq_true hF.n1, decide_eq_true hF.n7] at h
    cases h
theorem badsF_ok {n : Int} {ss : List (List Int)} (hF : FamOk n ss) : ∀ d ∈ badsF n ss, Sh 40 d ∧ Short d ∧ isFam d = false := by
  have hsT : Sh 2 (.tuple (ss.map tI)) := sh_tD (n := 0)
  have h8 := hF.s8
  have h7 := hF.n7
  have nost : ∀ d : PyData, (∀ l, d ≠ .tuple l) → Short d ∧ isFam d = false := fun d h => ⟨fun l e => (h l e).elim, by
    cases d with
    | tuple l => exact (h l rfl).elim
    | _ => rfl⟩
  intro d hd
  simp only [badsF, List.mem_cons, List.not_mem_nil, or_false] at hd
  rcases hd with rfl | rfl | rfl | rfl | rfl | rfl | rfl
  · exact ⟨sh_none, nost _ (fun l e => by cases e)⟩
  · exact ⟨sh_nil, fun l e => by have := PyData.tuple.inj e; subst this; simp, rfl⟩
  · refine ⟨hsT.mono (by omega), fun l e => ?_, ?_⟩
    · have := PyData.tuple.inj e
      subst this
      refine ⟨by rw [List.length_map]; omega, fun x hx m hm => ?_⟩
      obtain ⟨s, hs, rfl⟩ := List.mem_map.mp hx
      have := PyData.tuple.inj hm
      subst this
      refine ⟨by rw [List.length_map]; have := (hF.lots s hs).len h7; omega, fun y hy k hk => ?_⟩
      obtain ⟨z, _, rfl⟩ := List.mem_map.mp hy
      cases hk
    · obtain ⟨s, r, rfl⟩ : ∃ s r, ss = s :: r := by
        cases ss with
        | nil => have := hF.s1; simp at this
        | cons s r => exact ⟨s, r, rfl⟩
      exact isFam_first rfl
  · exact ⟨sh_str (famT_ok hF), nost _ (fun l e => by cases e)⟩
  · refine ⟨Sh.mono (m := 3) (n := 40) (sh_lst fun x hx => ?_) (by omega), nost _ (fun l e => by cases e)⟩
    rcases List.mem_cons.mp hx with e | e
    · rw [e]; exact sh_int
    · rw [List.mem_singleton.mp e]; exact hsT
  · refine ⟨Sh.mono (m := 3) (n := 40) (sh_tup fun x hx => ?_) (by omega), fun l e => ?_, by decide +kernel⟩
    · rcases List.mem_cons.mp hx with e | e
      · rw [e]; exact sh_int
      · rw [List.mem_singleton.mp e]; exact sh_nil
    · have := PyData.tuple.inj e
      subst this
      refine ⟨by simp, fun x hx m hm => ?_⟩
      rcases List.mem_cons.mp hx with e | e
      · rw [e] at hm; cases hm
      · rw [List.mem_singleton.mp e] at hm
        have := PyData.tuple.inj hm
        subst this
        exact ⟨by simp, fun y hy => by cases hy⟩
  · refine ⟨Sh.mono (m := 4) (n := 40) (sh_tup fun x hx => ?_) (by omega), fun l e => ?_, by decide +kernel⟩
    · rcases List.mem_cons.mp hx with e | e
      · rw [e]; exact sh_int
      · rw [List.mem_singleton.mp e]
        refine sh_tup fun y hy => ?_
        rw [List.mem_singleton.mp hy]
        refine sh_tup fun z hz => ?_
        rw [List.mem_singleton.mp hz]
        exact sh_int
    · have := PyData.tuple.inj e
      subst this
      refine ⟨by simp, fun x hx m hm => ?_⟩
      rcases List.mem_cons.mp hx with e | e
      · rw [e] at hm; cases hm
      · rw [List.mem_singleton.mp e] at hm
        have := PyData.tuple.inj hm
        subst this
        refine ⟨by simp, fun y hy k hk => ?_⟩
        rw [List.mem_singleton.mp hy] at hk
        have := PyData.tuple.inj hk
        subst this
        simp
theorem fam7 : FamOk 7 [[0, 1, 2, 3, 4, 5, 6]] := isFam_famD.mp (by decide +kernel)
theorem fam1 : FamOk 1 [[0]] := isFam_famD.mp (by decide +kernel)
theorem txt7 : parseT "7: 0123456" = some (famD 7 [[0, 1, 2, 3, 4, 5, 6]]) := by
  have : famT 7 [[0, 1, 2, 3, 4, 5, 6]] = "7: 0123456" := by decide +kernel
  rw [← this]; exact text_parse fam7
theorem txt1 : parseT "1: 0" = some (famD 1 [[0]]) := by
  have : famT 1 [[0]] = "1: 0" := by decide +kernel
  rw [← this]; exact text_parse fam1
theorem ev_parseOk {ρ : Rho} {t : Str} {d : PyData} (h : parseT t = some d) (hz : t.length ≤ 1000) (hok : PyData.strOk t = true) : EvD K (tCall (sp_parse_family K) [] E0 (tCons (tC (.str t)) tNil)) ρ d :=
  ev_call (ea_cons ev_str ea_nil) ⟨.str t, ⟨rfl, fun u e => by cases e; exact ⟨hz, hok⟩⟩, rfl, by show _ = outOf _ (parseT t); rw [h]; rfl⟩
/-- the bads, the refused families, the two texts -/
theorem end82 (hE : Errs K) {n : Int} {ss : List (List Int)} {on k at_ sg ot to : Option PyData} (hF : FamOk n ss) :
    ExS K E (tSeq (tAsg (tLst (tCons (tC .non) (tCons (tC (.int 5)) (tCons (tC (.bl true)) (tCons (tC (.str "")) (tCons (tC (.str " ")) (tCons (tC (.str "2")) (tCons (tC (.str "2:")) (tCons (tC (.str "2: ")) (tCons (tC (.str "2:0")) (tCons (tC (.str "2: 0 ")) (tCons (tC (.str " 2: 0")) (tCons (tC (.str "0: 0")) (tCons (tC (.str "8: 0")) (tCons (tC (.str "2: 2")) (tCons (tC (.str "2: 10")) (tCons (tC (.str "2: 00")) tNil))))))))))))))))) (gName 10))
  (tSeq (tAsg (tOp (rAddU K) (tVar 10) (tLst (tCons (tC (.str "2: 1 0")) (tCons (tC (.str "2: 0 0")) (tCons (tC (.str "2: 0  1")) (tCons (tC (.str "02: 0")) (tCons (tC (.str "2: 0\n")) (tCons (tC (.str "2; 0")) (tCons (tC (.str ":: 0")) (tCons (tC (.str " : 0")) (tCons (tC (.str "2: :")) (tCons (tC (.str "2: 0:1")) tNil)))))))))))) (gName 10))
  (tSeq (tAsg (tOp (rAddU K) (tVar 10) (tLst (tCons (tC (.str "2: 0,1")) (tCons (tC (.str "2: -1")) (tCons (tLst (tCons (tVar 3) tNil)) (tCons (tTup (tCons (tVar 3) tNil)) (tCons tDNewK (tCons (tVar 2) (tCons (tOp (rAddU K) (tVar 3) (tC (.str " "))) (tCons (tOp (rAddU K) (tVar 3) (tC (.str "9"))) tNil)))))))))) (gName 10))
  (tSeq (tIfS (tTest (tOp (rNeD K) (tLc (iSeq K (tVar 10)) (gName 11) (tTest (tOp (rNeD K) (tCall (sp_law_outcome K) [] E0 (tCons (tC (.int 0)) (tCons (tVar 11) tNil))) (tCall (sp_law_raises K) [] E0 (tCons (tC (.str "text")) tNil)))) (tVar 11) [11]) (tLst tNil))) (tRet (tC (.bl false))) tNext)
  (tSeq (tFor (iSeq K (tTup (tCons (tC .non) (tCons (tTup tNil) (tCons (tOp (rIx K) (tVar 2) (tC (.int 1))) (tCons (tVar 3) (tCons (tCB (rListU K) (tCons (tVar 2) tNil)) (tCons (tTup (tCons (tC (.int 2)) (tCons (tTup tNil) tNil))) (tCons (tTup (tCons (tC (.int 0)) (tCons (tTup (tCons (tTup (tCons (tC (.int 0)) tNil)) tNil)) tNil))) tNil))))))))) (gName 11) (tIfS (tTest (tOp (rNeD K) (tCall (sp_law_outcome K) [] E0 (tCons (tC (.int 1)) (tCons (tVar 11) tNil))) (tCall (sp_law_raises K) [] E0 (tCons (tC (.str "family")) tNil)))) (tRet (tC (.bl false))) tNext))
  (tRet (tAndV (tOp (rEqD K) (tCall (sp_parse_family K) [] E0 (tCons (tC (.str "7: 0123456")) tNil)) (tTup (tCons (tC (.int 7)) (tCons (tTup (tCons (tTupRg (tRg1 (tC (.int 7)))) tNil)) tNil)))) (tOp (rEqD K) (tCall (sp_parse_family K) [] E0 (tCons (tC (.str "1: 0")) tNil)) (tTup (tCons (tC (.int 1)) (tCons (tTup (tCons (tTup (tCons (tC (.int 0)) tNil)) tNil)) tNil)))))))))))
      (r82 tn ns (some (famD n ss)) (some (.str (famT n ss))) on k at_ sg ot to none none) (.rt (.bool true)) := by
  have hl := famT_len hF
  refine xs_seq (xs_asg (d := .list bads1) (ev_lst (ea_cons ev_non (ea_cons ev_int (ea_cons ev_bl (ea_cons ev_str (ea_cons ev_str (ea_cons ev_str (ea_cons ev_str (ea_cons ev_str (ea_cons ev_str (ea_cons ev_str (ea_cons ev_str (ea_cons ev_str (ea_cons ev_str (ea_cons ev_str (ea_cons ev_str (ea_cons ev_str ea_nil)))))))))))))))) (by simp [bads1]))) ?_
  refine xs_seq (xs_asg (d := .list (bads1 ++ bads2)) (ev_op (ev_var rfl) (ev_lst (ea_cons ev_str (ea_cons ev_str (ea_cons ev_str (ea_cons ev_str (ea_cons ev_str (ea_cons ev_str (ea_cons ev_str (ea_cons ev_str (ea_cons ev_str (ea_cons ev_str ea_nil)))))))))) (by simp)) (od_addL (by simp [bads1])))) ?_
  refine xs_seq (xs_asg (d := .list (bads1 ++ bads2 ++ bads3 (famT n ss) n ss)) (ev_op (ev_var rfl) (ev_lst (ea_cons ev_str (ea_cons ev_str (ea_cons (ev_lst (ea_cons (ev_var rfl) ea_nil) (by simp)) (ea_cons (ev_tup (ea_cons (ev_var rfl) ea_nil) (by simp)) (ea_cons ev_dnew (ea_cons (ev_var rfl) (ea_cons (ev_op (ev_var rfl) ev_str (od_addS (by have : (Str.ofString " ").length = 1 := rfl; omega))) (ea_cons (ev_op (ev_var rfl) ev_str (od_addS (by have : (Str.ofString "9").length = 1 := rfl; omega))) ea_nil)))))))) (by simp)) (od_addL (by simp [bads1, bads2])))) ?_
  show ExS K E _ (r82 tn ns (some (famD n ss)) (some (.str (famT n ss))) on k at_ sg ot to (some (.list (bads1 ++ bads2 ++ bads3 (famT n ss) n ss))) none) _
  refine xs_seq (xs_if (b := false) (et_to (et_test (ev_op (ev_lcNF (bads1 ++ bads2 ++ bads3 (famT n ss) n ss) (fun x => x) (fun _ => false) (fun x => x) (it_id (it_seqL (ev_var rfl))) (by simp [bads1, bads2, bads3]) (by simp) (fun d hd => ne_false (ev_badT hE (ev_var rfl) (bads_txt hF d hd).1 (bads_txt hF d hd).2) (ev_raises 11 (by decide) (by decide +kernel)) (sh_raised (n := 0)) (by omega)) (fun x _ z => by cases z)) (ev_lst ea_nil (by simp)) (od_ne (n := 1) (m := 1) (by rw [filt_false]; exact sh_nilL) sh_nilL))) (by rw [filt_false]; rfl)) (fun z => by cases z) (fun _ => xs_next)) ?_
  refine xs_forEach (xs := badsF n ss) (it_seqT (ev_tup (ea_cons ev_non (ea_cons (ev_tup ea_nil (by simp)) (ea_cons (ev_fam1 rfl) (ea_cons (ev_var rfl) (ea_cons (ev_cb (ea_cons (ev_var (d := .tuple [.int n, .tuple (ss.map tI)]) rfl) ea_nil) ca_listT) (ea_cons (ev_tup (ea_cons ev_int (ea_cons (ev_tup ea_nil (by simp)) ea_nil)) (by simp)) (ea_cons (ev_tup (ea_cons ev_int (ea_cons (ev_tup (ea_cons (ev_tup (ea_cons ev_int ea_nil) (by simp)) ea_nil) (by simp)) ea_nil)) (by simp)) ea_nil))))))) (by show (7 : Nat) ≤ 100000; decide))) (by show 11 < 12; decide) (fun d hd => ?_) (fun q => ?_)
  · obtain ⟨h1, h2, h3⟩ := badsF_ok hF d hd
    exact xs_if (b := false) (ne_false (ev_badF hE (ev_var rfl) h1 h2 h3) (ev_raises 0 (by decide) (by decide +kernel)) (sh_raised (n := 0)) (by omega)) (fun z => by cases z) (fun _ => xs_next)
  · have e7 : rngD 0 (Int.toNat 7) = [PyData.int 0, .int 1, .int 2, .int 3, .int 4, .int 5, .int 6] := rfl
    refine xs_ret (ev_to (ev_and (b := true) (c := true) (ev_to (ev_op (ev_parseOk txt7 (by decide +kernel) (by decide +kernel)) (ev_tup (ea_cons ev_int (ea_cons (ev_tup (ea_cons (ev_tupRg1 ev_int (by decide) (by decide)) ea_nil) (by simp)) ea_nil)) (by simp)) (od_eq (n := 3) (m := 3) sh_fam (by rw [e7]; exact sh_fam (n := 7) (ss := [[0, 1, 2, 3, 4, 5, 6]])))) ?_) (fun _ => ev_to (ev_op (ev_parseOk txt1 (by decide +kernel) (by decide +kernel)) (ev_tup (ea_cons ev_int (ea_cons (ev_tup (ea_cons (ev_tup (ea_cons ev_int ea_nil) (by simp)) ea_nil) (by simp)) ea_nil)) (by simp)) (od_eq (n := 3) (m := 3) sh_fam (sh_fam (n := 1) (ss := [[0]])))) ?_)) rfl)
    · rw [e7]
      have : PyData.eqv (famD 7 [[0, 1, 2, 3, 4, 5, 6]]) (famD 7 [[0, 1, 2, 3, 4, 5, 6]]) = true := eq_refl (n := 3) sh_fam
      exact congrArg PyData.bool this
    · have : PyData.eqv (famD 1 [[0]]) (famD 1 [[0]]) = true := eq_refl (n := 3) sh_fam
      exact congrArg PyData.bool this
theorem text82 {n : Int} {ss : List (List Int)} (hF : FamOk n ss) : ExS K E (tFor (iSeq K (tOp (rIx K) (tVar 2) (tC (.int 1)))) (gName 4) (tAsg (tOp (rAddU K) (tOp (rAddU K) (tVar 3) (tC (.str " "))) (tJoin K (tC (.str "")) (tLc (iSeq K (tVar 4)) (gName 5) tYes (tCB rStrU (tCons (tVar 5) tNil)) [5]))) (gName 3)))
    (r82 tn ns (some (famD n ss)) (some (.str (preT n ss 0))) none none none none none none none none) (.nx (r82 tn ns (some (famD n ss)) (some (.str (preT n ss ss.length))) ((ss.map tI)[ss.length - 1]?) none none none none none none none)) := by
  have hn7 := hF.n7
  have hlast : (if ss.length = 0 then none else (ss.map tI)[ss.length - 1]?) = (ss.map tI)[ss.length - 1]? := if_neg (by have := hF.s1; omega)
  rw [← hlast]
  refine xs_for (ws := [4]) ss tI (fun i => r82 tn ns (some (famD n ss)) (some (.str (preT n ss i))) (if i = 0 then none else (ss.map tI)[i - 1]?) none none none none none none none) (fun i => r82 tn ns (some (famD n ss)) (some (.str (preT n ss i))) ((ss.map tI)[i]?) none none none none none none none) (it_seqT (ev_fam1 rfl)) rfl (fun i h => ?_) (fun i h => ?_)
  · have e : (ss.map tI)[i]? = some (tI ss[i]) := by rw [List.getElem?_map, List.getElem?_eq_getElem h]; rfl
    show TgD K (gName 4) (tI ss[i]) _ (r82 tn ns (some (famD n ss)) (some (.str (preT n ss i))) ((ss.map tI)[i]?) none none none none none none none) _
    rw [e]
    exact tg_name
  · have e : (ss.map tI)[i]? = some (tI ss[i]) := by rw [List.getElem?_map, List.getElem?_eq_getElem h]; rfl
    show ExS K E _ (r82 tn ns (some (famD n ss)) (some (.str (preT n ss i))) ((ss.map tI)[i]?) none none none none none none none) (.nx (r82 tn ns (some (famD n ss)) (some (.str (preT n ss (i + 1)))) (if i + 1 = 0 then none else (ss.map tI)[i + 1 - 1]?) none none none none none none none))
    rw [if_neg (by omega), Nat.add_sub_cancel, e, preT_succ h]
    have hs : ss[i] ∈ ss := List.getElem_mem h
    have hb := (hF.lots _ hs).2.1
    have hll := (hF.lots _ hs).len hn7
    have hpl := preT_len hF (Nat.le_of_lt h)
    have hpl2 := preT_len hF (i := i + 1) h
    rw [preT_succ h, Str.length_append, Str.length_append] at hpl2
    have h1 : EvD K (tOp (rAddU K) (tVar 3) (tC (.str " "))) (r82 tn ns (some (famD n ss)) (some (.str (preT n ss i))) (some (tI ss[i])) none none none none none none none) (.str (preT n ss i ++ " ")) := ev_op (ev_var rfl) ev_str (od_addS (by omega))
    have h2 : EvD K (tJoin K (tC (.str "")) (tLc (iSeq K (tVar 4)) (gName 5) tYes (tCB rStrU (tCons (tVar 5) tNil)) [5])) (r82 tn ns (some (famD n ss)) (some (.str (preT n ss i))) (some (tI ss[i])) none none none none none none none) (.str (lotT ss[i])) := ev_lotT rfl (by simp) (by show 5 < 12; decide) rfl (by omega) (fun x hx => by have := hb x hx; omega)
    exact xs_asg (ev_op h1 h2 (od_addS (by rw [Str.length_append]; omega)))
theorem main82 (hE : Errs K) : ∃ tz, t_law K E = tSeq (tAsg (tCall (sp_law_town K) [] E0 (tCons (tVar 0) tNil)) (gName 1)) tz ∧ ∀ tn ns, ns.length ≤ 63 → ExW K tn ns tz (some (scrD ns) :: some (adrD tn) :: List.replicate 10 none) 200 (fun _ => False) (· = .bool true) := by
  refine ⟨_, rfl, fun tn ns _ => ?_⟩
  refine ExW.mono (xw_seq (n := 100) (m := 42) (Pm := fun _ => False) (xw_asg (R := fun d => ∃ n ss, FamOk n ss ∧ d = famD n ss) (ew_town (P := P_law_family) (Rt := R_law_family) (d := .int 7) rfl rfl ev_int ⟨7, rfl, by omega, by omega⟩ (by
    rintro e ⟨most, n, ss, _, h2, _, h3⟩
    exact ⟨n, ss, h2, h3⟩))) (fun ρ1 h1 => ?_)) (by omega) (fun _ h => h) (fun _ h => h)
  obtain ⟨d, ⟨n, ss, hF, rfl⟩, rfl⟩ := h1
  have hn7 := hF.n7
  have hn1 := hF.n1
  have h8 := hF.s8
  have hl := famT_len hF
  have hok := famT_ok hF
  show ExW K tn ns _ (r82 tn ns (some (famD n ss)) none none none none none none none none none) 42 _ _
  have hd2 : (dig n).length = 1 := dig_len (by omega) (by omega)
  refine xw_seqP (E := E0) (xs_asg (d := .str (preT n ss 0)) (ev_op (ev_cb (ea_cons (ev_fam0 rfl) ea_nil) (ca_str (log_small (by omega) (by omega)))) ev_str (od_addS (by
    show (dig n).length + _ ≤ _
    rw [hd2]; decide)))) ?_
  show ExW K tn ns _ (r82 tn ns (some (famD n ss)) (some (.str (preT n ss 0))) none none none none none none none none) 42 _ _
  refine xw_seqP (E := E0) (text82 hF) ?_
  rw [preT_all]
  generalize (ss.map tI)[ss.length - 1]? = on
  have hf : EvD K (tCall (sp_format_family K) [] E0 (tCons (tVar 2) tNil)) (r82 tn ns (some (famD n ss)) (some (.str (famT n ss))) on none none none none none none none) (.str (famT n ss)) := ev_format hF (ev_var rfl)
  have ho : EvD K (tCall (sp_law_outcome K) [] E0 (tCons (tC (.int 0)) (tCons (tVar 3) tNil))) (r82 tn ns (some (famD n ss)) (some (.str (famT n ss))) on none none none none none none none) (retD (famD n ss)) := by
    have := ev_parse82 hE (K := K) (ρ := r82 tn ns (some (famD n ss)) (some (.str (famT n ss))) on none none none none none none none) (tv := tVar 3) (ev_var rfl) (Nat.le_trans hl (by omega)) hok
    unfold told82 at this
    rw [text_parse hF] at this
    exact this
  refine xw_no (E := E0) (et_orF (ne_false hf (ev_var rfl) (sh_str (n := 0) hok) (by omega)) (ne_false ho (ev_tup (ea_cons ev_str (ea_cons (ev_var rfl) ea_nil)) (by simp)) (sh_ret (n := 3) sh_fam) (by omega))) ?_
  refine ExW.mono (xw_seq (n := 42) (m := 0) (Pm := fun _ => False) (Pn := fun ρ' => ∃ k at_ sg ot to, ρ' = r82 tn ns (some (famD n ss)) (some (.str (famT n ss))) on k at_ sg ot to none none) ?_ (fun ρ' h => ?_)) (by omega) (fun _ h => h) (fun _ h => h)
  · refine ExW.mono (xw_for (n := 3) (List.range 14) (fun i => .int (0 + (i : Int))) (fun i ρ' => ∃ k at_ sg ot to, ρ' = r82 tn ns (some (famD n ss)) (some (.str (famT n ss))) on k at_ sg ot to none none) (fun i ρ' => ρ'.set 5 (some (.int (0 + (i : Int))))) (it_rng1 (n := 14) ev_int (by omega)) ⟨none, none, none, none, none, rfl⟩ (fun i h ρ' _ => tg_name) (fun i h ρ' ⟨k, at_, sg, ot, to, e⟩ => ?_)) (by simp) (fun ρ' h => h) (fun _ h => h)
    subst e
    exact ExW.mono (turn82 hE hF) (by omega) (fun ρ' ⟨a, s, o, t, e⟩ => ⟨_, a, s, o, t, e⟩) (fun _ h => h)
  · obtain ⟨k, at_, sg, ot, to, rfl⟩ := h
    exact xw_pureR (E := E0) (end82 hE hF) rfl
theorem pure_law82 {vs : List V} {H : Hp} {Q : VK} (hs : spLawE K vs H Q E) : t_law K E { nx := fun _ H' => Q .non H', rt := Q } (L2.start ["script", "town", "family", "text", "one", "k", "at", "sign", "other", "told", "bads", "bad"] vs) H := by
  obtain ⟨tz, e, h⟩ := main82 (K := K) (E := E) hs.1
  rw [e]
  exact law_start (m := 10) rfl (by decide) h hs.2
end
end Lc

set_option maxHeartbeats 0
namespace Lc
open PySem L2 PySem.Spec PyProof.Rows
def top (i : Nat) : Stmt := PySem.Challenge.pw_lotcolours_k82_whole_texts.main.body.getD i (.Pass ⟨0, 0, 0, 0⟩)
abbrev s_law_draw : Stmt := top 29
theorem sc_law_draw : FnScope ["script", "town", "limit", "at", "left", "number"] ["script", "town", "limit"] (defScope s_law_draw) := ⟨rfl, rfl, rfl, by decide +kernel, rfl, by decide +kernel, by decide +kernel⟩
theorem d_law_draw {P : Program} {w : World} {K : PySem.W.Frag} {mg : Str → Option Value} {base : Heap} (T : Bl mg)  (f : Addr) (cdv : Value) (A : Around) (outer : List Env) (s : Shared) (H : Hp) (E : XK) (hr : Room 0 (A.deeper (envOfC "_law_draw" (defScope s_law_draw) s.heap.objs.size f cdv))) :
  PSs (cxOf (L2.CX P w) P w K mg base ["script", "town", "limit", "at", "left", "number"] "_law_draw" (defScope s_law_draw) f cdv A outer s H E).nox (defBody s_law_draw) (t_law_draw K E) :=
  (pss_cons (ps_asg (pe_op op_addU (pe_ix ix_seq (pv 1) pe_int (fun _ _ => rfl)) pe_int) (pg_sub (pv 1) pe_int set_list))
  (pss_cons (ps_if (pt_cmpR (op_eqD hr.units) (pv 0) (pe_lst pa_nil) (nomark _)) (pss_one (ps_ret (pe_op op_mod (pe_op op_divU (pe_op op_mulU (pe_op op_mulU (pe_ix ix_seq (pv 1) pe_int (fun _ _ => rfl)) (pe_ix ix_seq (pv 1) pe_int (fun _ _ => rfl))) pe_int) pe_int) (pv 2)))) pss_nil)
  (pss_cons (ps_set (i := 3) sc_law_draw.nd rfl (by first | exact Or.inl rfl | exact Or.inr rfl) (pe_op op_mod (pe_ix ix_seq (pv 1) pe_int (fun _ _ => rfl)) (pe_callB cr_lenU (by rfl) T.b_len (by decide +kernel) (pa_cons (pv 0) pa_nil))))
  (pss_cons (ps_set (i := 4) sc_law_draw.nd rfl (by first | exact Or.inl rfl | exact Or.inr rfl) (pe_ix ix_seq (pv 1) (pe_op op_addU pe_int (pv 3)) (fun _ _ => rfl)))
  (pss_cons (ps_if (PW.pt (pw_and (pt_cmpR op_ge (pe_ix ix_seq (pv 0) (pv 3) (fun _ _ => rfl)) (pe_op op_pow pe_int pe_int) (nomark _)) (pw_and1 (pt_cmpR op_gt (pv 4) pe_int (nomark _))))) (pss_cons (ps_asg (pe_op op_divU (pv 4) (pv 2)) (pg_sub (pv 1) (pe_op op_addU pe_int (pv 3)) set_list))
  (pss_one (ps_ret (pe_op op_mod (pv 4) (pv 2))))) pss_nil)
  (pss_cons (ps_set (i := 5) sc_law_draw.nd rfl (by first | exact Or.inl rfl | exact Or.inr rfl) (pe_op op_mod (pe_op op_addU (pe_ix ix_seq (pv 0) (pv 3) (fun _ _ => rfl)) (pe_op op_mulU pe_int (pe_ix ix_seq (pv 1) pe_int (fun _ _ => rfl)))) pe_int))
  (pss_cons (ps_set (i := 5) sc_law_draw.nd rfl (by first | exact Or.inl rfl | exact Or.inr rfl) (pe_op op_mod (pe_op op_pow (pv 5) pe_int) pe_int))
  (pss_one (ps_ret (pe_op op_mod (pe_op op_divU (pe_op op_mod (pe_op op_addU (pe_op op_mulU (pe_op op_divU (pv 5) pe_int) pe_int) (pv 5)) pe_int) pe_int) (pv 2)))))))))))
theorem o_law_draw {P : Program} {w : World} {K : PySem.W.Frag} {mg : Str → Option Value} {base : Heap} {f : Addr} {fd : FuncData} (T : Bl mg)  (F : FunD K "_law_draw" "_law_draw" (defArgs s_law_draw) (defBody s_law_draw) (defScope s_law_draw) [] [] f fd) : FnOk P w K mg base (L2.CX P w) 1 f fd ["script", "town", "limit"] (sp_law_draw K) :=
  F.ok sc_law_draw (fun vs H Q E h => spT_len (E := E) (k := 1) (fun ds h => by obtain ⟨_, rfl, _⟩ := h; rfl) h) (fun cdv A outer s H vs Q E hr h => ⟨t_law_draw K E, PSs.nox (d_law_draw T  f cdv A outer s H E hr), pure_law_draw h⟩)
theorem ok_law_draw {P : Program} {w : World} {K : PySem.W.Frag} {mg : Str → Option Value} {base : Heap} {f : Addr} {fd : FuncData} (T : Bl mg)  (F : FunD K "_law_draw" "_law_draw" (defArgs s_law_draw) (defBody s_law_draw) (defScope s_law_draw) [] [] f fd) (g : mg "_law_draw" = some (.ref f)) : FnAt P w K mg base 1 "_law_draw" ["script", "town", "limit"] (sp_law_draw K) :=
  ⟨f, fd, o_law_draw T  F, g, F.kp, F.bindsN fun _ _ _ _ _ _ us hl => match us, hl with | [_, _, _], _ => rfl⟩
abbrev s_law_family : Stmt := top 34
theorem sc_law_family : FnScope ["script", "town", "most", "things", "found", "often", "is_paired", "turn", "k", "one"] ["script", "town", "most"] (defScope s_law_family) := ⟨rfl, rfl, rfl, by decide +kernel, rfl, by decide +kernel, by decide +kernel⟩
theorem d_law_family {P : Program} {w : World} {K : PySem.W.Frag} {mg : Str → Option Value} {base : Heap} (T : Bl mg) (c_law_draw : FnAt P w K mg base 1 "_law_draw" ["script", "town", "limit"] (sp_law_draw K)) (f : Addr) (cdv : Value) (A : Around) (outer : List Env) (s : Shared) (H : Hp) (E : XK) (hr : Room 1 (A.deeper (envOfC "_law_family" (defScope s_law_family) s.heap.objs.size f cdv))) :
  PSs (cxOf (L2.CX P w) P w K mg base ["script", "town", "most", "things", "found", "often", "is_paired", "turn", "k", "one"] "_law_family" (defScope s_law_family) f cdv A outer s H E).nox (defBody s_law_family) (t_law_family K E) :=
  (pss_cons (ps_par (by rfl) sc_law_family.nd rfl rfl (by decide) rfl rfl (pa_cons (pe_op op_addU pe_int (pe_callF c_law_draw (hr.mono (by decide)) (by rfl) passL (pa_cons (pv 0) (pa_cons (pv 1) (pa_cons (pv 2) pa_nil))))) (pa_cons (pe_lst pa_nil) pa_nil)) (by rfl))
  (pss_cons (ps_asg (pe_tup (pa_cons (pe_op op_addU pe_int (pe_callF c_law_draw (hr.mono (by decide)) (by rfl) passL (pa_cons (pv 0) (pa_cons (pv 1) (pa_cons pe_int pa_nil))))) (pa_cons (pe_and (pe_cmpR op_gt (pv 3) pe_int (nomark _)) (pe_one (pe_cmpR (op_eqD hr.units) (pe_callF c_law_draw (hr.mono (by decide)) (by rfl) passL (pa_cons (pv 0) (pa_cons (pv 1) (pa_cons pe_int pa_nil)))) pe_int (nomark _)))) pa_nil))) (pg_tup rfl (pgs_cons (pg_name (i := 5) sc_law_family.nd rfl (by first | exact Or.inl rfl | exact Or.inr rfl)) (pgs_cons (pg_name (i := 6) sc_law_family.nd rfl (by first | exact Or.inl rfl | exact Or.inr rfl)) pgs_nil))))
  (pss_cons (ps_for PassesOwn.never rfl (pi_range1 (by rfl) T.b_range (pa_cons (pe_op op_addU pe_int (pe_callF c_law_draw (hr.mono (by decide)) (by rfl) passL (pa_cons (pv 0) (pa_cons (pv 1) (pa_cons pe_int pa_nil))))) pa_nil)) (pg_name (i := 7) sc_law_family.nd rfl (by first | exact Or.inl rfl | exact Or.inr rfl)) (pss_cons (ps_if (pt_val (pv 6)) (pss_cons (ps_set (i := 8) sc_law_family.nd rfl (by first | exact Or.inl rfl | exact Or.inr rfl) (pe_callF c_law_draw (hr.mono (by decide)) (by rfl) passL (pa_cons (pv 0) (pa_cons (pv 1) (pa_cons (pv 3) pa_nil)))))
  (pss_one (ps_set (i := 9) sc_law_family.nd rfl (by first | exact Or.inl rfl | exact Or.inr rfl) (pe_callB (cr_sortD (units70 hr)) (by rfl) T.b_sorted (by decide +kernel) (pa_cons (pe_lst (pa_cons (pv 8) (pa_cons (pe_op op_mod (pe_op op_addU (pe_op op_addU (pv 8) pe_int) (pe_callF c_law_draw (hr.mono (by decide)) (by rfl) passL (pa_cons (pv 0) (pa_cons (pv 1) (pa_cons pe_int pa_nil))))) (pv 3)) pa_nil))) pa_nil))))) (pss_one (ps_setLc (i := 9) (own := [("k", 8)]) (by rfl) sc_law_family.nd rfl rfl (sw_true rfl rfl rfl (by decide +kernel)) (pi_range1 (by rfl) T.b_range (pa_cons (pv 3) pa_nil)) (blkOk_by (own := [("k", 8)]) (by kernel_rfl)) (fun _ _ _ _ _ => (pg_name (i := 8) sc_law_family.nd rfl (by first | exact Or.inl rfl | exact Or.inr rfl))) (fun _ _ _ _ _ => (pts_one (pt_cmpR (op_ltU hr.units0) (pe_callF c_law_draw (hr.mono (by decide)) (by rfl) passL (pa_cons (pv 0) (pa_cons (pv 1) (pa_cons pe_int pa_nil)))) (pv 5) (nomark _)))) (fun _ _ _ _ _ => (pv 8)))))
  (pss_cons (ps_set (i := 9) sc_law_family.nd rfl (by first | exact Or.inl rfl | exact Or.inr rfl) (pe_callTy cr_tupleOf (by rfl) T.b_tuple (by decide +kernel) (pa_cons (pe_ifExp (pt_cmpR (op_neD hr.units) (pv 9) (pe_lst pa_nil) (nomark _)) (pv 9) (pe_lst (pa_cons (pe_callF c_law_draw (hr.mono (by decide)) (by rfl) passL (pa_cons (pv 0) (pa_cons (pv 1) (pa_cons (pv 3) pa_nil)))) pa_nil))) pa_nil)))
  (pss_one (ps_set (i := 4) sc_law_family.nd rfl (by first | exact Or.inl rfl | exact Or.inr rfl) (pe_op op_addU (pv 4) (pe_ifExp (pt_cmpR (op_notInU (units65 hr)) (pv 9) (pv 4) (by rfl)) (pe_lst (pa_cons (pv 9) pa_nil)) (pe_lst pa_nil))))))))
  (pss_one (ps_ret (pe_tup (pa_cons (pv 3) (pa_cons (pe_callTy cr_tupleOf (by rfl) T.b_tuple (by decide +kernel) (pa_cons (pe_callB (cr_sortD (units70 hr)) (by rfl) T.b_sorted (by decide +kernel) (pa_cons (pv 4) pa_nil)) pa_nil)) pa_nil))))))))
theorem o_law_family {P : Program} {w : World} {K : PySem.W.Frag} {mg : Str → Option Value} {base : Heap} {f : Addr} {fd : FuncData} (T : Bl mg) (c_law_draw : FnAt P w K mg base 1 "_law_draw" ["script", "town", "limit"] (sp_law_draw K)) (F : FunD K "_law_family" "_law_family" (defArgs s_law_family) (defBody s_law_family) (defScope s_law_family) [] [] f fd) : FnOk P w K mg base (L2.CX P w) 2 f fd ["script", "town", "most"] (sp_law_family K) :=
  F.ok sc_law_family (fun vs H Q E h => spT_len (E := E) (k := 1) (fun ds h => by obtain ⟨_, rfl, _⟩ := h; rfl) h) (fun cdv A outer s H vs Q E hr h => ⟨t_law_family K E, PSs.nox (d_law_family T c_law_draw f cdv A outer s H E hr), pure_law_family h⟩)
theorem ok_law_family {P : Program} {w : World} {K : PySem.W.Frag} {mg : Str → Option Value} {base : Heap} {f : Addr} {fd : FuncData} (T : Bl mg) (c_law_draw : FnAt P w K mg base 1 "_law_draw" ["script", "town", "limit"] (sp_law_draw K)) (F : FunD K "_law_family" "_law_family" (defArgs s_law_family) (defBody s_law_family) (defScope s_law_family) [] [] f fd) (g : mg "_law_family" = some (.ref f)) : FnAt P w K mg base 2 "_law_family" ["script", "town", "most"] (sp_law_family K) :=
  ⟨f, fd, o_law_family T c_law_draw F, g, F.kp, F.bindsN fun _ _ _ _ _ _ us hl => match us, hl with | [_, _, _], _ => rfl⟩
abbrev s_is_between : Stmt := top 18
theorem sc_is_between : FnScope ["value", "low", "high"] ["value", "low", "high"] (defScope s_is_between) := ⟨rfl, rfl, rfl, by decide +kernel, rfl, by decide +kernel, by decide +kernel⟩
theorem d_is_between {P : Program} {w : World} {K : PySem.W.Frag} {mg : Str → Option Value} {base : Heap} (T : Bl mg)  (f : Addr) (cdv : Value) (A : Around) (outer : List Env) (s : Shared) (H : Hp) (E : XK) (hr : Room 0 (A.deeper (envOfC "is_between" (defScope s_is_between) s.heap.objs.size f cdv))) :
  PSs (cxOf (L2.CX P w) P w K mg base ["value", "low", "high"] "is_between" (defScope s_is_between) f cdv A outer s H E).nox (defBody s_is_between) (t_is_between K E) :=
  (pss_one (ps_ret (pe_and (pe_callB call_isi (by rfl) T.b_isinstance boot_isinstance (pa_cons (pv 0) (pa_cons (pe_bltn (by rfl) T.b_int (by decide +kernel) rfl) pa_nil))) (pe_and (pe_not (pe_callB call_isi (by rfl) T.b_isinstance boot_isinstance (pa_cons (pv 0) (pa_cons (pe_bltn (by rfl) T.b_bool (by decide +kernel) rfl) pa_nil)))) (pe_one (pe_chain op_le op_le (pv 1) (pv 0) (pv 2)))))))
theorem o_is_between {P : Program} {w : World} {K : PySem.W.Frag} {mg : Str → Option Value} {base : Heap} {f : Addr} {fd : FuncData} (T : Bl mg)  (F : FunD K "is_between" "is_between" (defArgs s_is_between) (defBody s_is_between) (defScope s_is_between) [] [] f fd) : FnOk P w K mg base (L2.CX P w) 1 f fd ["value", "low", "high"] (sp_is_between K) :=
  F.ok sc_is_between (fun vs H Q E h => spD_len (k := 3) (fun ds o h => by first | exact h.1 | (obtain ⟨_, rfl, _⟩ := h; rfl) | (obtain ⟨_, _, rfl, _⟩ := h; rfl) | (obtain ⟨_, _, _, rfl, _⟩ := h; rfl) | (obtain ⟨_, _, _, _, rfl, _⟩ := h; rfl) | (obtain ⟨_, _, _, _, _, rfl, _⟩ := h; rfl) | (obtain ⟨_, _, _, _, _, _, rfl, _⟩ := h; rfl) | (obtain ⟨_, _, _, _, _, _, _, rfl, _⟩ := h; rfl)) h) (fun cdv A outer s H vs Q E hr h => ⟨t_is_between K E, PSs.nox (d_is_between T  f cdv A outer s H E hr), pure_is_between h⟩)
theorem ok_is_between {P : Program} {w : World} {K : PySem.W.Frag} {mg : Str → Option Value} {base : Heap} {f : Addr} {fd : FuncData} (T : Bl mg)  (F : FunD K "is_between" "is_between" (defArgs s_is_between) (defBody s_is_between) (defScope s_is_between) [] [] f fd) (g : mg "is_between" = some (.ref f)) : FnAt P w K mg base 1 "is_between" ["value", "low", "high"] (sp_is_between K) :=
  ⟨f, fd, o_is_between T  F, g, F.kp, F.bindsN fun _ _ _ _ _ _ us hl => match us, hl with | [_, _, _], _ => rfl⟩
abbrev s_is_lot : Stmt := top 20
theorem sc_is_lot : FnScope ["things", "value", "one", "k"] ["things", "value"] (defScope s_is_lot) := ⟨rfl, rfl, rfl, by decide +kernel, rfl, by decide +kernel, by decide +kernel⟩
theorem d_is_lot {P : Program} {w : World} {K : PySem.W.Frag} {mg : Str → Option Value} {base : Heap} (T : Bl mg) (c_is_between : FnAt P w K mg base 1 "is_between" ["value", "low", "high"] (sp_is_between K)) (f : Addr) (cdv : Value) (A : Around) (outer : List Env) (s : Shared) (H : Hp) (E : XK) (hr : Room 1 (A.deeper (envOfC "is_lot" (defScope s_is_lot) s.heap.objs.size f cdv))) :
  PSs (cxOf (L2.CX P w) P w K mg base ["things", "value", "one", "k"] "is_lot" (defScope s_is_lot) f cdv A outer s H E).nox (defBody s_is_lot) (t_is_lot K E) :=
  (pss_cons (ps_if (PW.pt (pw_or (pt_not (pt_val (pe_callB call_isi (by rfl) T.b_isinstance boot_isinstance (pa_cons (pv 1) (pa_cons (pe_bltn (by rfl) T.b_tuple (by decide +kernel) rfl) pa_nil))))) (pw_or (pt_cmpR (op_eqD hr.units) (pv 1) (pe_tup pa_nil) (nomark _)) (pw_or1 (pt_not (pt_val (pe_callB (cr_all rfl) (by rfl) T.b_all (by decide +kernel) (pa_cons (pe_lc (own := [("one", 2)]) (by rfl) sc_is_lot.nd (pi_seq (pv 1)) (blkOk_by (own := [("one", 2)]) (by kernel_rfl)) (fun _ _ _ _ _ => (pg_name (i := 2) sc_is_lot.nd rfl (by first | exact Or.inl rfl | exact Or.inr rfl))) (fun _ _ _ _ _ => pts_nil) (fun _ _ _ _ _ => (pe_callF c_is_between (hr.mono (by decide)) (by rfl) passL (pa_cons (pv 2) (pa_cons pe_int (pa_cons (pe_op op_sub (pv 0) pe_int) pa_nil)))))) pa_nil)))))))) (pss_one (ps_ret pe_bl)) pss_nil)
  (pss_one (ps_ret (pe_callB (cr_all rfl) (by rfl) T.b_all (by decide +kernel) (pa_cons (pe_lc (own := [("k", 3)]) (by rfl) sc_is_lot.nd (pi_range1 (by rfl) T.b_range (pa_cons (pe_op op_sub (pe_callB cr_lenU (by rfl) T.b_len (by decide +kernel) (pa_cons (pv 1) pa_nil)) pe_int) pa_nil)) (blkOk_by (own := [("k", 3)]) (by kernel_rfl)) (fun _ _ _ _ _ => (pg_name (i := 3) sc_is_lot.nd rfl (by first | exact Or.inl rfl | exact Or.inr rfl))) (fun _ _ _ _ _ => pts_nil) (fun _ _ _ _ _ => (pe_cmpR (op_ltU hr.units0) (pe_ix ix_seq (pv 1) (pv 3) (fun _ _ => rfl)) (pe_ix ix_seq (pv 1) (pe_op op_addU (pv 3) pe_int) (fun _ _ => rfl)) (nomark _)))) pa_nil)))))
theorem o_is_lot {P : Program} {w : World} {K : PySem.W.Frag} {mg : Str → Option Value} {base : Heap} {f : Addr} {fd : FuncData} (T : Bl mg) (c_is_between : FnAt P w K mg base 1 "is_between" ["value", "low", "high"] (sp_is_between K)) (F : FunD K "is_lot" "is_lot" (defArgs s_is_lot) (defBody s_is_lot) (defScope s_is_lot) [] [] f fd) : FnOk P w K mg base (L2.CX P w) 2 f fd ["things", "value"] (sp_is_lot K) :=
  F.ok sc_is_lot (fun vs H Q E h => spD_len (k := 2) (fun ds o h => by first | exact h.1 | (obtain ⟨_, rfl, _⟩ := h; rfl) | (obtain ⟨_, _, rfl, _⟩ := h; rfl) | (obtain ⟨_, _, _, rfl, _⟩ := h; rfl) | (obtain ⟨_, _, _, _, rfl, _⟩ := h; rfl) | (obtain ⟨_, _, _, _, _, rfl, _⟩ := h; rfl) | (obtain ⟨_, _, _, _, _, _, rfl, _⟩ := h; rfl) | (obtain ⟨_, _, _, _, _, _, _, rfl, _⟩ := h; rfl)) h) (fun cdv A outer s H vs Q E hr h => ⟨t_is_lot K E, PSs.nox (d_is_lot T c_is_between f cdv A outer s H E hr), pure_is_lot h⟩)
theorem ok_is_lot {P : Program} {w : World} {K : PySem.W.Frag} {mg : Str → Option Value} {base : Heap} {f : Addr} {fd : FuncData} (T : Bl mg) (c_is_between : FnAt P w K mg base 1 "is_between" ["value", "low", "high"] (sp_is_between K)) (F : FunD K "is_lot" "is_lot" (defArgs s_is_lot) (defBody s_is_lot) (defScope s_is_lot) [] [] f fd) (g : mg "is_lot" = some (.ref f)) : FnAt P w K mg base 2 "is_lot" ["things", "value"] (sp_is_lot K) :=
  ⟨f, fd, o_is_lot T c_is_between F, g, F.kp, F.bindsN fun _ _ _ _ _ _ us hl => match us, hl with | [_, _], _ => rfl⟩
abbrev s_is_family : Stmt := top 21
theorem sc_is_family : FnScope ["value", "things", "sets", "one", "k"] ["value"] (defScope s_is_family) := ⟨rfl, rfl, rfl, by decide +kernel, rfl, by decide +kernel, by decide +kernel⟩
theorem d_is_family {P : Program} {w : World} {K : PySem.W.Frag} {mg : Str → Option Value} {base : Heap} (T : Bl mg) (c_is_between : FnAt P w K mg base 1 "is_between" ["value", "low", "high"] (sp_is_between K)) (c_is_lot : FnAt P w K mg base 2 "is_lot" ["things", "value"] (sp_is_lot K)) (f : Addr) (cdv : Value) (A : Around) (outer : List Env) (s : Shared) (H : Hp) (E : XK) (hr : Room 2 (A.deeper (envOfC "is_family" (defScope s_is_family) s.heap.objs.size f cdv))) :
  PSs (cxOf (L2.CX P w) P w K mg base ["value", "things", "sets", "one", "k"] "is_family" (defScope s_is_family) f cdv A outer s H E).nox (defBody s_is_family) (t_is_family K E) :=
  (pss_cons (ps_if (PW.pt (pw_or (pt_not (pt_val (pe_callB call_isi (by rfl) T.b_isinstance boot_isinstance (pa_cons (pv 0) (pa_cons (pe_bltn (by rfl) T.b_tuple (by decide +kernel) rfl) pa_nil))))) (pw_or (pt_cmpR (op_neD hr.units) (pe_callB cr_lenU (by rfl) T.b_len (by decide +kernel) (pa_cons (pv 0) pa_nil)) pe_int (nomark _)) (pw_or1 (pt_not (pt_val (pe_callF c_is_between (hr.mono (by decide)) (by rfl) passL (pa_cons (pe_ix ix_seq (pv 0) pe_int (fun _ _ => rfl)) (pa_cons pe_int (pa_cons pe_int pa_nil)))))))))) (pss_one (ps_ret pe_bl)) pss_nil)
  (pss_cons (ps_asg (pv 0) (pg_tup rfl (pgs_cons (pg_name (i := 1) sc_is_family.nd rfl (by first | exact Or.inl rfl | exact Or.inr rfl)) (pgs_cons (pg_name (i := 2) sc_is_family.nd rfl (by first | exact Or.inl rfl | exact Or.inr rfl)) pgs_nil))))
  (pss_cons (ps_if (PW.pt (pw_or (pt_not (pt_val (pe_callB call_isi (by rfl) T.b_isinstance boot_isinstance (pa_cons (pv 2) (pa_cons (pe_bltn (by rfl) T.b_tuple (by decide +kernel) rfl) pa_nil))))) (pw_or (pt_not (pt_chain op_le op_le pe_int (pe_callB cr_lenU (by rfl) T.b_len (by decide +kernel) (pa_cons (pv 2) pa_nil)) pe_int)) (pw_or1 (pt_not (pt_val (pe_callB (cr_all rfl) (by rfl) T.b_all (by decide +kernel) (pa_cons (pe_lc (own := [("one", 3)]) (by rfl) sc_is_family.nd (pi_seq (pv 2)) (blkOk_by (own := [("one", 3)]) (by kernel_rfl)) (fun _ _ _ _ _ => (pg_name (i := 3) sc_is_family.nd rfl (by first | exact Or.inl rfl | exact Or.inr rfl))) (fun _ _ _ _ _ => pts_nil) (fun _ _ _ _ _ => (pe_callF c_is_lot (hr.mono (by decide)) (by rfl) passL (pa_cons (pv 1) (pa_cons (pv 3) pa_nil))))) pa_nil)))))))) (pss_one (ps_ret pe_bl)) pss_nil)
  (pss_one (ps_ret (pe_callB (cr_all rfl) (by rfl) T.b_all (by decide +kernel) (pa_cons (pe_lc (own := [("k", 4)]) (by rfl) sc_is_family.nd (pi_range1 (by rfl) T.b_range (pa_cons (pe_op op_sub (pe_callB cr_lenU (by rfl) T.b_len (by decide +kernel) (pa_cons (pv 2) pa_nil)) pe_int) pa_nil)) (blkOk_by (own := [("k", 4)]) (by kernel_rfl)) (fun _ _ _ _ _ => (pg_name (i := 4) sc_is_family.nd rfl (by first | exact Or.inl rfl | exact Or.inr rfl))) (fun _ _ _ _ _ => pts_nil) (fun _ _ _ _ _ => (pe_cmpR (op_ltU hr.units0) (pe_ix ix_seq (pv 2) (pv 4) (fun _ _ => rfl)) (pe_ix ix_seq (pv 2) (pe_op op_addU (pv 4) pe_int) (fun _ _ => rfl)) (nomark _)))) pa_nil)))))))
theorem o_is_family {P : Program} {w : World} {K : PySem.W.Frag} {mg : Str → Option Value} {base : Heap} {f : Addr} {fd : FuncData} (T : Bl mg) (c_is_between : FnAt P w K mg base 1 "is_between" ["value", "low", "high"] (sp_is_between K)) (c_is_lot : FnAt P w K mg base 2 "is_lot" ["things", "value"] (sp_is_lot K)) (F : FunD K "is_family" "is_family" (defArgs s_is_family) (defBody s_is_family) (defScope s_is_family) [] [] f fd) : FnOk P w K mg base (L2.CX P w) 3 f fd ["value"] (sp_is_family K) :=
  F.ok sc_is_family (fun vs H Q E h => spD_len (k := 1) (fun ds o h => by first | exact h.1 | (obtain ⟨_, rfl, _⟩ := h; rfl) | (obtain ⟨_, _, rfl, _⟩ := h; rfl) | (obtain ⟨_, _, _, rfl, _⟩ := h; rfl) | (obtain ⟨_, _, _, _, rfl, _⟩ := h; rfl) | (obtain ⟨_, _, _, _, _, rfl, _⟩ := h; rfl) | (obtain ⟨_, _, _, _, _, _, rfl, _⟩ := h; rfl) | (obtain ⟨_, _, _, _, _, _, _, rfl, _⟩ := h; rfl)) h) (fun cdv A outer s H vs Q E hr h => ⟨t_is_family K E, PSs.nox (d_is_family T c_is_between c_is_lot f cdv A outer s H E hr), pure_is_family h⟩)
theorem ok_is_family {P : Program} {w : World} {K : PySem.W.Frag} {mg : Str → Option Value} {base : Heap} {f : Addr} {fd : FuncData} (T : Bl mg) (c_is_between : FnAt P w K mg base 1 "is_between" ["value", "low", "high"] (sp_is_between K)) (c_is_lot : FnAt P w K mg base 2 "is_lot" ["things", "value"] (sp_is_lot K)) (F : FunD K "is_family" "is_family" (defArgs s_is_family) (defBody s_is_family) (defScope s_is_family) [] [] f fd) (g : mg "is_family" = some (.ref f)) : FnAt P w K mg base 3 "is_family" ["value"] (sp_is_family K) :=
  ⟨f, fd, o_is_family T c_is_between c_is_lot F, g, F.kp, F.bindsN fun _ _ _ _ _ _ us hl => match us, hl with | [_], _ => rfl⟩
abbrev s_check_family : Stmt := top 22
theorem sc_check_family : FnScope ["value"] ["value"] (defScope s_check_family) := ⟨rfl, rfl, rfl, by decide +kernel, rfl, by decide +kernel, by decide +kernel⟩
theorem d_check_family {P : Program} {w : World} {K : PySem.W.Frag} {mg : Str → Option Value} {base : Heap} (T : Bl mg) (c_is_family : FnAt P w K mg base 3 "is_family" ["value"] (sp_is_family K)) (x_InvalidFamily : ExcAt K mg "InvalidFamily") (f : Addr) (cdv : Value) (A : Around) (outer : List Env) (s : Shared) (H : Hp) (E : XK) (hr : Room 3 (A.deeper (envOfC "check_family" (defScope s_check_family) s.heap.objs.size f cdv))) :
  PSs (cxOf (L2.CX P w) P w K mg base ["value"] "check_family" (defScope s_check_family) f cdv A outer s H E) (defBody s_check_family) (t_check_family K E) :=
  (pss_one (ps_if (pt_not (pt_val (pe_callF c_is_family (hr.mono (by decide)) (by rfl) passL (pa_cons (pv 0) pa_nil)))) (pss_one (ps_raiseF x_InvalidFamily)) pss_nil))
theorem o_check_family {P : Program} {w : World} {K : PySem.W.Frag} {mg : Str → Option Value} {base : Heap} {f : Addr} {fd : FuncData} (T : Bl mg) (c_is_family : FnAt P w K mg base 3 "is_family" ["value"] (sp_is_family K)) (x_InvalidFamily : ExcAt K mg "InvalidFamily") (F : FunD K "check_family" "check_family" (defArgs s_check_family) (defBody s_check_family) (defScope s_check_family) [] [] f fd) : FnOk P w K mg base (L2.CX P w) 4 f fd ["value"] (sp_check_family K) :=
  F.ok sc_check_family (fun vs H Q E h => spD_len (k := 1) (fun ds o h => by first | exact h.1 | (obtain ⟨_, rfl, _⟩ := h; rfl) | (obtain ⟨_, _, rfl, _⟩ := h; rfl) | (obtain ⟨_, _, _, rfl, _⟩ := h; rfl) | (obtain ⟨_, _, _, _, rfl, _⟩ := h; rfl) | (obtain ⟨_, _, _, _, _, rfl, _⟩ := h; rfl) | (obtain ⟨_, _, _, _, _, _, rfl, _⟩ := h; rfl) | (obtain ⟨_, _, _, _, _, _, _, rfl, _⟩ := h; rfl)) h) (fun cdv A outer s H vs Q E hr h => ⟨t_check_family K E, (d_check_family T c_is_family x_InvalidFamily f cdv A outer s H E hr), pure_check_family h⟩)
theorem ok_check_family {P : Program} {w : World} {K : PySem.W.Frag} {mg : Str → Option Value} {base : Heap} {f : Addr} {fd : FuncData} (T : Bl mg) (c_is_family : FnAt P w K mg base 3 "is_family" ["value"] (sp_is_family K)) (x_InvalidFamily : ExcAt K mg "InvalidFamily") (F : FunD K "check_family" "check_family" (defArgs s_check_family) (defBody s_check_family) (defScope s_check_family) [] [] f fd) (g : mg "check_family" = some (.ref f)) : FnAt P w K mg base 4 "check_family" ["value"] (sp_check_family K) :=
  ⟨f, fd, o_check_family T c_is_family x_InvalidFamily F, g, F.kp, F.bindsN fun _ _ _ _ _ _ us hl => match us, hl with | [_], _ => rfl⟩
abbrev s_family_text : Stmt := top 24
theorem sc_family_text : FnScope ["family", "thing", "one"] ["family"] (defScope s_family_text) := ⟨rfl, rfl, rfl, by decide +kernel, rfl, by decide +kernel, by decide +kernel⟩
theorem d_family_text {P : Program} {w : World} {K : PySem.W.Frag} {mg : Str → Option Value} {base : Heap} (T : Bl mg)  (f : Addr) (cdv : Value) (A : Around) (outer : List Env) (s : Shared) (H : Hp) (E : XK) (hr : Room 0 (A.deeper (envOfC "family_text" (defScope s_family_text) s.heap.objs.size f cdv))) :
  PSs (cxOf (L2.CX P w) P w K mg base ["family", "thing", "one"] "family_text" (defScope s_family_text) f cdv A outer s H E).nox (defBody s_family_text) (t_family_text K E) :=
  (pss_one (ps_ret (pe_join pe_str (pe_op op_addU (pe_lst (pa_cons (pe_joined (.cons (pe_fmt (pe_ix ix_seq (pv 0) pe_int (fun _ _ => rfl))) (.cons pe_str .nil))) pa_nil)) (pe_lc (own := [("one", 2)]) (by rfl) sc_family_text.nd (pi_seq (pe_ix ix_seq (pv 0) pe_int (fun _ _ => rfl))) (blkOk_by (own := [("one", 2)]) (by kernel_rfl)) (fun _ _ _ _ _ => (pg_name (i := 2) sc_family_text.nd rfl (by first | exact Or.inl rfl | exact Or.inr rfl))) (fun _ _ _ _ _ => pts_nil) (fun _ _ _ _ _ => (pe_join pe_str (pe_lc (own := [("thing", 1)]) (by rfl) sc_family_text.nd (pi_seq (pv 2)) (blkOk_by (own := [("thing", 1)]) (by kernel_rfl)) (fun _ _ _ _ _ => (pg_name (i := 1) sc_family_text.nd rfl (by first | exact Or.inl rfl | exact Or.inr rfl))) (fun _ _ _ _ _ => pts_nil) (fun _ _ _ _ _ => (pe_callTy cr_strU (by rfl) T.b_str (by decide +kernel) (pa_cons (pv 1) pa_nil)))))))))))
theorem o_family_text {P : Program} {w : World} {K : PySem.W.Frag} {mg : Str → Option Value} {base : Heap} {f : Addr} {fd : FuncData} (T : Bl mg)  (F : FunD K "family_text" "family_text" (defArgs s_family_text) (defBody s_family_text) (defScope s_family_text) [] [] f fd) : FnOk P w K mg base (L2.CX P w) 1 f fd ["family"] (sp_family_text K) :=
  F.ok sc_family_text (fun vs H Q E h => spD_len (k := 1) (fun ds o h => by first | exact h.1 | (obtain ⟨_, rfl, _⟩ := h; rfl) | (obtain ⟨_, _, rfl, _⟩ := h; rfl) | (obtain ⟨_, _, _, rfl, _⟩ := h; rfl) | (obtain ⟨_, _, _, _, rfl, _⟩ := h; rfl) | (obtain ⟨_, _, _, _, _, rfl, _⟩ := h; rfl) | (obtain ⟨_, _, _, _, _, _, rfl, _⟩ := h; rfl) | (obtain ⟨_, _, _, _, _, _, _, rfl, _⟩ := h; rfl)) h) (fun cdv A outer s H vs Q E hr h => ⟨t_family_text K E, PSs.nox (d_family_text T  f cdv A outer s H E hr), pure_family_text h⟩)
theorem ok_family_text {P : Program} {w : World} {K : PySem.W.Frag} {mg : Str → Option Value} {base : Heap} {f : Addr} {fd : FuncData} (T : Bl mg)  (F : FunD K "family_text" "family_text" (defArgs s_family_text) (defBody s_family_text) (defScope s_family_text) [] [] f fd) (g : mg "family_text" = some (.ref f)) : FnAt P w K mg base 1 "family_text" ["family"] (sp_family_text K) :=
  ⟨f, fd, o_family_text T  F, g, F.kp, F.bindsN fun _ _ _ _ _ _ us hl => match us, hl with | [_], _ => rfl⟩
abbrev s_format_family : Stmt := top 25
theorem sc_format_family : FnScope ["family"] ["family"] (defScope s_format_family) := ⟨rfl, rfl, rfl, by decide +kernel, rfl, by decide +kernel, by decide +kernel⟩
theorem d_format_family {P : Program} {w : World} {K : PySem.W.Frag} {mg : Str → Option Value} {base : Heap} (T : Bl mg) (c_check_family : FnAt P w K mg base 4 "check_family" ["value"] (sp_check_family K)) (c_family_text : FnAt P w K mg base 1 "family_text" ["family"] (sp_family_text K)) (f : Addr) (cdv : Value) (A : Around) (outer : List Env) (s : Shared) (H : Hp) (E : XK) (hr : Room 4 (A.deeper (envOfC "format_family" (defScope s_format_family) s.heap.objs.size f cdv))) :
  PSs (cxOf (L2.CX P w) P w K mg base ["family"] "format_family" (defScope s_format_family) f cdv A outer s H E) (defBody s_format_family) (t_format_family K E) :=
  (pss_cons (ps_expr (pe_callF c_check_family (hr.mono (by decide)) (by rfl) (passes_call (takes_of rfl rfl rfl rfl) (fun _ _ _ _ h => h)) (pa_cons (pv 0) pa_nil)))
  (pss_one (ps_ret (pe_callF c_family_text (hr.mono (by decide)) (by rfl) passL (pa_cons (pv 0) pa_nil)))))
theorem o_format_family {P : Program} {w : World} {K : PySem.W.Frag} {mg : Str → Option Value} {base : Heap} {f : Addr} {fd : FuncData} (T : Bl mg) (c_check_family : FnAt P w K mg base 4 "check_family" ["value"] (sp_check_family K)) (c_family_text : FnAt P w K mg base 1 "family_text" ["family"] (sp_family_text K)) (F : FunD K "format_family" "format_family" (defArgs s_format_family) (defBody s_format_family) (defScope s_format_family) [] [] f fd) : FnOk P w K mg base (L2.CX P w) 5 f fd ["family"] (sp_format_family K) :=
  F.ok sc_format_family (fun vs H Q E h => spD_len (k := 1) (fun ds o h => by first | exact h.1 | (obtain ⟨_, rfl, _⟩ := h; rfl) | (obtain ⟨_, _, rfl, _⟩ := h; rfl) | (obtain ⟨_, _, _, rfl, _⟩ := h; rfl) | (obtain ⟨_, _, _, _, rfl, _⟩ := h; rfl) | (obtain ⟨_, _, _, _, _, rfl, _⟩ := h; rfl) | (obtain ⟨_, _, _, _, _, _, rfl, _⟩ := h; rfl) | (obtain ⟨_, _, _, _, _, _, _, rfl, _⟩ := h; rfl)) h) (fun cdv A outer s H vs Q E hr h => ⟨t_format_family K E, (d_format_family T c_check_family c_family_text f cdv A outer s H E hr), pure_format_family h⟩)
theorem ok_format_family {P : Program} {w : World} {K : PySem.W.Frag} {mg : Str → Option Value} {base : Heap} {f : Addr} {fd : FuncData} (T : Bl mg) (c_check_family : FnAt P w K mg base 4 "check_family" ["value"] (sp_check_family K)) (c_family_text : FnAt P w K mg base 1 "family_text" ["family"] (sp_family_text K)) (F : FunD K "format_family" "format_family" (defArgs s_format_family) (defBody s_format_family) (defScope s_format_family) [] [] f fd) (g : mg "format_family" = some (.ref f)) : FnAt P w K mg base 5 "format_family" ["family"] (sp_format_family K) :=
  ⟨f, fd, o_format_family T c_check_family c_family_text F, g, F.kp, F.bindsN fun _ _ _ _ _ _ us hl => match us, hl with | [_], _ => rfl⟩
abbrev s_parse_family : Stmt := top 26
theorem sc_parse_family : FnScope ["text", "sign", "words", "word", "found"] ["text"] (defScope s_parse_family) := ⟨rfl, rfl, rfl, by decide +kernel, rfl, by decide +kernel, by decide +kernel⟩
theorem d_parse_family {P : Program} {w : World} {K : PySem.W.Frag} {mg : Str → Option Value} {base : Heap} (T : Bl mg) (c_is_family : FnAt P w K mg base 3 "is_family" ["value"] (sp_is_family K)) (x_InvalidText : ExcAt K mg "InvalidText") (f : Addr) (cdv : Value) (A : Around) (outer : List Env) (s : Shared) (H : Hp) (E : XK) (hr : Room 3 (A.deeper (envOfC "parse_family" (defScope s_parse_family) s.heap.objs.size f cdv))) :
  PSs (cxOf (L2.CX P w) P w K mg base ["text", "sign", "words", "word", "found"] "parse_family" (defScope s_parse_family) f cdv A outer s H E) (defBody s_parse_family) (t_parse_family K E) :=
  (pss_cons (ps_if (PW.pt (pw_or (pt_not (pt_val (pe_callB call_isi (by rfl) T.b_isinstance boot_isinstance (pa_cons (pv 0) (pa_cons (pe_bltn (by rfl) T.b_str (by decide +kernel) rfl) pa_nil))))) (pw_or (pt_not (pt_val (pe_callB (cr_all rfl) (by rfl) T.b_all (by decide +kernel) (pa_cons (pe_lc (own := [("sign", 1)]) (by rfl) sc_parse_family.nd (pi_str (pv 0)) (blkOk_by (own := [("sign", 1)]) (by kernel_rfl)) (fun _ _ _ _ _ => (pg_name (i := 1) sc_parse_family.nd rfl (by first | exact Or.inl rfl | exact Or.inr rfl))) (fun _ _ _ _ _ => pts_nil) (fun _ _ _ _ _ => (pe_cmpR (op_inU (units65 hr)) (pv 1) pe_str (by rfl)))) pa_nil)))) (pw_or1 (pt_cmpR (op_neD hr.units) (pe_slice sl_U (pv 0) (po_some pe_int) (po_some pe_int)) pe_str (nomark _)))))) (pss_one (ps_raiseF x_InvalidText)) pss_nil)
  (pss_cons (ps_set (i := 2) sc_parse_family.nd rfl (by first | exact Or.inl rfl | exact Or.inr rfl) (pe_split (pv 0) pe_str))
  (pss_cons (ps_if (PW.pt (pw_or (pt_cmpR (op_neD hr.units) (pe_callB cr_lenU (by rfl) T.b_len (by decide +kernel) (pa_cons (pe_ix ix_seq (pv 2) pe_int (fun _ _ => rfl)) pa_nil)) pe_int (nomark _)) (pw_or (pt_cmpR (op_inU (units65 hr)) (pe_ix ix_seq (pe_ix ix_seq (pv 2) pe_int (fun _ _ => rfl)) pe_int (fun _ _ => rfl)) pe_str (by rfl)) (pw_or1 (pt_not (pt_val (pe_callB (cr_all rfl) (by rfl) T.b_all (by decide +kernel) (pa_cons (pe_lc (own := [("word", 3)]) (by rfl) sc_parse_family.nd (pi_seq (pe_slice sl_U (pv 2) (po_some pe_int) po_none)) (blkOk_by (own := [("word", 3)]) (by kernel_rfl)) (fun _ _ _ _ _ => (pg_name (i := 3) sc_parse_family.nd rfl (by first | exact Or.inl rfl | exact Or.inr rfl))) (fun _ _ _ _ _ => pts_nil) (fun _ _ _ _ _ => (pe_cmpR (op_notInU (units65 hr)) pe_str (pv 3) (by rfl)))) pa_nil)))))))) (pss_one (ps_raiseF x_InvalidText)) pss_nil)
  (pss_cons (ps_set (i := 4) sc_parse_family.nd rfl (by first | exact Or.inl rfl | exact Or.inr rfl) (pe_tup (pa_cons (pe_callTy cr_intU (by rfl) T.b_int (by decide +kernel) (pa_cons (pe_ix ix_seq (pe_ix ix_seq (pv 2) pe_int (fun _ _ => rfl)) pe_int (fun _ _ => rfl)) pa_nil)) (pa_cons (pe_callTy cr_tupleOf (by rfl) T.b_tuple (by decide +kernel) (pa_cons (pe_lc (own := [("word", 3)]) (by rfl) sc_parse_family.nd (pi_seq (pe_slice sl_U (pv 2) (po_some pe_int) po_none)) (blkOk_by (own := [("word", 3)]) (by kernel_rfl)) (fun _ _ _ _ _ => (pg_name (i := 3) sc_parse_family.nd rfl (by first | exact Or.inl rfl | exact Or.inr rfl))) (fun _ _ _ _ _ => pts_nil) (fun _ _ _ _ _ => (pe_callTy cr_tupleOf (by rfl) T.b_tuple (by decide +kernel) (pa_cons (pe_lc (own := [("sign", 1)]) (by rfl) sc_parse_family.nd (pi_str (pv 3)) (blkOk_by (own := [("sign", 1)]) (by kernel_rfl)) (fun _ _ _ _ _ => (pg_name (i := 1) sc_parse_family.nd rfl (by first | exact Or.inl rfl | exact Or.inr rfl))) (fun _ _ _ _ _ => pts_nil) (fun _ _ _ _ _ => (pe_callTy cr_intU (by rfl) T.b_int (by decide +kernel) (pa_cons (pv 1) pa_nil)))) pa_nil)))) pa_nil)) pa_nil))))
  (pss_cons (ps_if (pt_not (pt_val (pe_callF c_is_family (hr.mono (by decide)) (by rfl) passL (pa_cons (pv 4) pa_nil)))) (pss_one (ps_raiseF x_InvalidText)) pss_nil)
  (pss_one (ps_ret (pv 4))))))))
theorem o_parse_family {P : Program} {w : World} {K : PySem.W.Frag} {mg : Str → Option Value} {base : Heap} {f : Addr} {fd : FuncData} (T : Bl mg) (c_is_family : FnAt P w K mg base 3 "is_family" ["value"] (sp_is_family K)) (x_InvalidText : ExcAt K mg "InvalidText") (F : FunD K "parse_family" "parse_family" (defArgs s_parse_family) (defBody s_parse_family) (defScope s_parse_family) [] [] f fd) : FnOk P w K mg base (L2.CX P w) 4 f fd ["text"] (sp_parse_family K) :=
  F.ok sc_parse_family (fun vs H Q E h => spD_len (k := 1) (fun ds o h => by first | exact h.1 | (obtain ⟨_, rfl, _⟩ := h; rfl) | (obtain ⟨_, _, rfl, _⟩ := h; rfl) | (obtain ⟨_, _, _, rfl, _⟩ := h; rfl) | (obtain ⟨_, _, _, _, rfl, _⟩ := h; rfl) | (obtain ⟨_, _, _, _, _, rfl, _⟩ := h; rfl) | (obtain ⟨_, _, _, _, _, _, rfl, _⟩ := h; rfl) | (obtain ⟨_, _, _, _, _, _, _, rfl, _⟩ := h; rfl)) h) (fun cdv A outer s H vs Q E hr h => ⟨t_parse_family K E, (d_parse_family T c_is_family x_InvalidText f cdv A outer s H E hr), pure_parse_family h⟩)
theorem ok_parse_family {P : Program} {w : World} {K : PySem.W.Frag} {mg : Str → Option Value} {base : Heap} {f : Addr} {fd : FuncData} (T : Bl mg) (c_is_family : FnAt P w K mg base 3 "is_family" ["value"] (sp_is_family K)) (x_InvalidText : ExcAt K mg "InvalidText") (F : FunD K "parse_family" "parse_family" (defArgs s_parse_family) (defBody s_parse_family) (defScope s_parse_family) [] [] f fd) (g : mg "parse_family" = some (.ref f)) : FnAt P w K mg base 4 "parse_family" ["text"] (sp_parse_family K) :=
  ⟨f, fd, o_parse_family T c_is_family x_InvalidText F, g, F.kp, F.bindsN fun _ _ _ _ _ _ us hl => match us, hl with | [_], _ => rfl⟩
abbrev s_law_call : Stmt := top 35
theorem sc_law_call : FnScope ["how", "arguments"] ["how", "arguments"] (defScope s_law_call) := ⟨rfl, rfl, rfl, by decide +kernel, rfl, by decide +kernel, by decide +kernel⟩
theorem d_law_call {P : Program} {w : World} {K : PySem.W.Frag} {mg : Str → Option Value} {base : Heap} (T : Bl mg) (c_format_family : FnAt P w K mg base 5 "format_family" ["family"] (sp_format_family K)) (c_parse_family : FnAt P w K mg base 4 "parse_family" ["text"] (sp_parse_family K)) (f : Addr) (cdv : Value) (A : Around) (outer : List Env) (s : Shared) (H : Hp) (E : XK) (hr : Room 5 (A.deeper (envOfC "_law_call" (defScope s_law_call) s.heap.objs.size f cdv))) :
  PSs (cxOf (L2.CX P w) P w K mg base ["how", "arguments"] "_law_call" (defScope s_law_call) f cdv A outer s H E) (defBody s_law_call) (t_law_call K E) :=
  (pss_one (ps_ret (pe_ifExp (pt_cmpR (op_eqD hr.units) (pv 0) pe_int (nomark _)) (pe_callF c_parse_family (hr.mono (by decide)) (by rfl) (passes_call (takes_of rfl rfl rfl rfl) (fun _ _ _ _ h => h)) (pa_cons (pv 1) pa_nil)) (pe_callF c_format_family (hr.mono (by decide)) (by rfl) (passes_call (takes_of rfl rfl rfl rfl) (fun _ _ _ _ h => h)) (pa_cons (pv 1) pa_nil)))))
theorem o_law_call {P : Program} {w : World} {K : PySem.W.Frag} {mg : Str → Option Value} {base : Heap} {f : Addr} {fd : FuncData} (T : Bl mg) (c_format_family : FnAt P w K mg base 5 "format_family" ["family"] (sp_format_family K)) (c_parse_family : FnAt P w K mg base 4 "parse_family" ["text"] (sp_parse_family K)) (F : FunD K "_law_call" "_law_call" (defArgs s_law_call) (defBody s_law_call) (defScope s_law_call) [] [] f fd) : FnOk P w K mg base (L2.CX P w) 6 f fd ["how", "arguments"] (sp_law_call K) :=
  F.ok sc_law_call (fun vs H Q E h => spD_len (k := 2) (fun ds o h => by first | exact h.1 | (obtain ⟨_, rfl, _⟩ := h; rfl) | (obtain ⟨_, _, rfl, _⟩ := h; rfl) | (obtain ⟨_, _, _, rfl, _⟩ := h; rfl) | (obtain ⟨_, _, _, _, rfl, _⟩ := h; rfl) | (obtain ⟨_, _, _, _, _, rfl, _⟩ := h; rfl) | (obtain ⟨_, _, _, _, _, _, rfl, _⟩ := h; rfl) | (obtain ⟨_, _, _, _, _, _, _, rfl, _⟩ := h; rfl)) h) (fun cdv A outer s H vs Q E hr h => ⟨t_law_call K E, (d_law_call T c_format_family c_parse_family f cdv A outer s H E hr), pure_law_call h⟩)
theorem ok_law_call {P : Program} {w : World} {K : PySem.W.Frag} {mg : Str → Option Value} {base : Heap} {f : Addr} {fd : FuncData} (T : Bl mg) (c_format_family : FnAt P w K mg base 5 "format_family" ["family"] (sp_format_family K)) (c_parse_family : FnAt P w K mg base 4 "parse_family" ["text"] (sp_parse_family K)) (F : FunD K "_law_call" "_law_call" (defArgs s_law_call) (defBody s_law_call) (defScope s_law_call) [] [] f fd) (g : mg "_law_call" = some (.ref f)) : FnAt P w K mg base 6 "_law_call" ["how", "arguments"] (sp_law_call K) :=
  ⟨f, fd, o_law_call T c_format_family c_parse_family F, g, F.kp, F.bindsN fun _ _ _ _ _ _ us hl => match us, hl with | [_, _], _ => rfl⟩
abbrev s_law_name : Stmt := top 32
theorem sc_law_name : FnScope ["caught", "found"] ["caught"] (defScope s_law_name) := ⟨rfl, rfl, rfl, by decide +kernel, rfl, by decide +kernel, by decide +kernel⟩
theorem d_law_name {P : Program} {w : World} {K : PySem.W.Frag} {mg : Str → Option Value} {base : Heap} (T : Bl mg) (x_InvalidBottom : ExcAt K mg "InvalidBottom") (x_InvalidColours : ExcAt K mg "InvalidColours") (x_InvalidFamily : ExcAt K mg "InvalidFamily") (x_InvalidLot : ExcAt K mg "InvalidLot") (x_InvalidMixture : ExcAt K mg "InvalidMixture") (x_InvalidNames : ExcAt K mg "InvalidNames") (x_InvalidNumber : ExcAt K mg "InvalidNumber") (x_InvalidRounding : ExcAt K mg "InvalidRounding") (x_InvalidSet : ExcAt K mg "InvalidSet") (x_InvalidSums : ExcAt K mg "InvalidSums") (x_InvalidText : ExcAt K mg "InvalidText") (x_InvalidTold : ExcAt K mg "InvalidTold") (x_LastOne : ExcAt K mg "LastOne") (x_NothingToUndo : ExcAt K mg "NothingToUndo") (x_TooMany : ExcAt K mg "TooMany") (f : Addr) (cdv : Value) (A : Around) (outer : List Env) (s : Shared) (H : Hp) (E : XK) (hr : Room 0 (A.deeper (envOfC "_law_name" (defScope s_law_name) s.heap.objs.size f cdv))) :
  PSs (cxOf (L2.CX P w) P w K mg base ["caught", "found"] "_law_name" (defScope s_law_name) f cdv A outer s H E).nox (defBody s_law_name) (t_law_name K E) :=
  (pss_cons (ps_if (pt_not (pt_val (pe_callB call_isX (by rfl) T.b_isinstance boot_isinstance (pa_cons (pv 0) (pa_cons (pe_bltn (by rfl) T.b_ValueError (by decide +kernel) rfl) pa_nil))))) (pss_one (ps_ret (pe_un un_neg pe_int))) pss_nil)
  (pss_cons (ps_set (i := 1) sc_law_name.nd rfl (by first | exact Or.inl rfl | exact Or.inr rfl) (pe_lst (pa_cons (pe_callB call_isX (by rfl) T.b_isinstance boot_isinstance (pa_cons (pv 0) (pa_cons (pe_glob (by rfl) x_InvalidFamily.g rfl) pa_nil))) (pa_cons (pe_callB call_isX (by rfl) T.b_isinstance boot_isinstance (pa_cons (pv 0) (pa_cons (pe_glob (by rfl) x_InvalidColours.g rfl) pa_nil))) pa_nil))))
  (pss_cons (ps_set (i := 1) sc_law_name.nd rfl (by first | exact Or.inl rfl | exact Or.inr rfl) (pe_op op_addU (pv 1) (pe_lst (pa_cons (pe_callB call_isX (by rfl) T.b_isinstance boot_isinstance (pa_cons (pv 0) (pa_cons (pe_glob (by rfl) x_InvalidNumber.g rfl) pa_nil))) (pa_cons (pe_callB call_isX (by rfl) T.b_isinstance boot_isinstance (pa_cons (pv 0) (pa_cons (pe_glob (by rfl) x_InvalidLot.g rfl) pa_nil))) pa_nil)))))
  (pss_cons (ps_set (i := 1) sc_law_name.nd rfl (by first | exact Or.inl rfl | exact Or.inr rfl) (pe_op op_addU (pv 1) (pe_lst (pa_cons (pe_callB call_isX (by rfl) T.b_isinstance boot_isinstance (pa_cons (pv 0) (pa_cons (pe_glob (by rfl) x_InvalidTold.g rfl) pa_nil))) (pa_cons (pe_callB call_isX (by rfl) T.b_isinstance boot_isinstance (pa_cons (pv 0) (pa_cons (pe_glob (by rfl) x_InvalidRounding.g rfl) pa_nil))) pa_nil)))))
  (pss_cons (ps_set (i := 1) sc_law_name.nd rfl (by first | exact Or.inl rfl | exact Or.inr rfl) (pe_op op_addU (pv 1) (pe_lst (pa_cons (pe_callB call_isX (by rfl) T.b_isinstance boot_isinstance (pa_cons (pv 0) (pa_cons (pe_glob (by rfl) x_InvalidSet.g rfl) pa_nil))) (pa_cons (pe_callB call_isX (by rfl) T.b_isinstance boot_isinstance (pa_cons (pv 0) (pa_cons (pe_glob (by rfl) x_InvalidNames.g rfl) pa_nil))) pa_nil)))))
  (pss_cons (ps_set (i := 1) sc_law_name.nd rfl (by first | exact Or.inl rfl | exact Or.inr rfl) (pe_op op_addU (pv 1) (pe_lst (pa_cons (pe_callB call_isX (by rfl) T.b_isinstance boot_isinstance (pa_cons (pv 0) (pa_cons (pe_glob (by rfl) x_InvalidMixture.g rfl) pa_nil))) (pa_cons (pe_callB call_isX (by rfl) T.b_isinstance boot_isinstance (pa_cons (pv 0) (pa_cons (pe_glob (by rfl) x_InvalidSums.g rfl) pa_nil))) pa_nil)))))
  (pss_cons (ps_set (i := 1) sc_law_name.nd rfl (by first | exact Or.inl rfl | exact Or.inr rfl) (pe_op op_addU (pv 1) (pe_lst (pa_cons (pe_callB call_isX (by rfl) T.b_isinstance boot_isinstance (pa_cons (pv 0) (pa_cons (pe_glob (by rfl) x_InvalidBottom.g rfl) pa_nil))) (pa_cons (pe_callB call_isX (by rfl) T.b_isinstance boot_isinstance (pa_cons (pv 0) (pa_cons (pe_glob (by rfl) x_InvalidText.g rfl) pa_nil))) pa_nil)))))
  (pss_cons (ps_set (i := 1) sc_law_name.nd rfl (by first | exact Or.inl rfl | exact Or.inr rfl) (pe_op op_addU (pv 1) (pe_lst (pa_cons (pe_callB call_isX (by rfl) T.b_isinstance boot_isinstance (pa_cons (pv 0) (pa_cons (pe_glob (by rfl) x_LastOne.g rfl) pa_nil))) (pa_cons (pe_callB call_isX (by rfl) T.b_isinstance boot_isinstance (pa_cons (pv 0) (pa_cons (pe_glob (by rfl) x_TooMany.g rfl) pa_nil))) pa_nil)))))
  (pss_cons (ps_set (i := 1) sc_law_name.nd rfl (by first | exact Or.inl rfl | exact Or.inr rfl) (pe_op op_addU (pv 1) (pe_lst (pa_cons (pe_callB call_isX (by rfl) T.b_isinstance boot_isinstance (pa_cons (pv 0) (pa_cons (pe_glob (by rfl) x_NothingToUndo.g rfl) pa_nil))) pa_nil))))
  (pss_one (ps_ret (pe_ifExp (pt_cmpR (op_eqD hr.units) (pe_bm PySem.F.plainAttrs_list PySem.F.slot_list_count PySem.F.type_list_count (mt_countL (units65 hr)) (pv 1) (pa_cons pe_bl pa_nil)) pe_int (nomark _)) (pe_bm PySem.F.plainAttrs_list PySem.F.slot_list_index PySem.F.type_list_index (mt_indexD (units65 hr)) (pv 1) (pa_cons pe_bl pa_nil)) (pe_un un_neg pe_int)))))))))))))
theorem o_law_name {P : Program} {w : World} {K : PySem.W.Frag} {mg : Str → Option Value} {base : Heap} {f : Addr} {fd : FuncData} (T : Bl mg) (x_InvalidBottom : ExcAt K mg "InvalidBottom") (x_InvalidColours : ExcAt K mg "InvalidColours") (x_InvalidFamily : ExcAt K mg "InvalidFamily") (x_InvalidLot : ExcAt K mg "InvalidLot") (x_InvalidMixture : ExcAt K mg "InvalidMixture") (x_InvalidNames : ExcAt K mg "InvalidNames") (x_InvalidNumber : ExcAt K mg "InvalidNumber") (x_InvalidRounding : ExcAt K mg "InvalidRounding") (x_InvalidSet : ExcAt K mg "InvalidSet") (x_InvalidSums : ExcAt K mg "InvalidSums") (x_InvalidText : ExcAt K mg "InvalidText") (x_InvalidTold : ExcAt K mg "InvalidTold") (x_LastOne : ExcAt K mg "LastOne") (x_NothingToUndo : ExcAt K mg "NothingToUndo") (x_TooMany : ExcAt K mg "TooMany") (F : FunD K "_law_name" "_law_name" (defArgs s_law_name) (defBody s_law_name) (defScope s_law_name) [] [] f fd) : FnOk P w K mg base (L2.CX P w) 1 f fd ["caught"] (sp_law_name K) :=
  F.ok sc_law_name (fun vs H Q E h => spD_len (k := 1) (fun ds o h => by first | exact h.1 | (obtain ⟨_, rfl, _⟩ := h; rfl) | (obtain ⟨_, _, rfl, _⟩ := h; rfl) | (obtain ⟨_, _, _, rfl, _⟩ := h; rfl) | (obtain ⟨_, _, _, _, rfl, _⟩ := h; rfl) | (obtain ⟨_, _, _, _, _, rfl, _⟩ := h; rfl) | (obtain ⟨_, _, _, _, _, _, rfl, _⟩ := h; rfl) | (obtain ⟨_, _, _, _, _, _, _, rfl, _⟩ := h; rfl)) h) (fun cdv A outer s H vs Q E hr h => ⟨t_law_name K E, PSs.nox (d_law_name T x_InvalidBottom x_InvalidColours x_InvalidFamily x_InvalidLot x_InvalidMixture x_InvalidNames x_InvalidNumber x_InvalidRounding x_InvalidSet x_InvalidSums x_InvalidText x_InvalidTold x_LastOne x_NothingToUndo x_TooMany f cdv A outer s H E hr), pure_law_name h⟩)
theorem ok_law_name {P : Program} {w : World} {K : PySem.W.Frag} {mg : Str → Option Value} {base : Heap} {f : Addr} {fd : FuncData} (T : Bl mg) (x_InvalidBottom : ExcAt K mg "InvalidBottom") (x_InvalidColours : ExcAt K mg "InvalidColours") (x_InvalidFamily : ExcAt K mg "InvalidFamily") (x_InvalidLot : ExcAt K mg "InvalidLot") (x_InvalidMixture : ExcAt K mg "InvalidMixture") (x_InvalidNames : ExcAt K mg "InvalidNames") (x_InvalidNumber : ExcAt K mg "InvalidNumber") (x_InvalidRounding : ExcAt K mg "InvalidRounding") (x_InvalidSet : ExcAt K mg "InvalidSet") (x_InvalidSums : ExcAt K mg "InvalidSums") (x_InvalidText : ExcAt K mg "InvalidText") (x_InvalidTold : ExcAt K mg "InvalidTold") (x_LastOne : ExcAt K mg "LastOne") (x_NothingToUndo : ExcAt K mg "NothingToUndo") (x_TooMany : ExcAt K mg "TooMany") (F : FunD K "_law_name" "_law_name" (defArgs s_law_name) (defBody s_law_name) (defScope s_law_name) [] [] f fd) (g : mg "_law_name" = some (.ref f)) : FnAt P w K mg base 1 "_law_name" ["caught"] (sp_law_name K) :=
  ⟨f, fd, o_law_name T x_InvalidBottom x_InvalidColours x_InvalidFamily x_InvalidLot x_InvalidMixture x_InvalidNames x_InvalidNumber x_InvalidRounding x_InvalidSet x_InvalidSums x_InvalidText x_InvalidTold x_LastOne x_NothingToUndo x_TooMany F, g, F.kp, F.bindsN fun _ _ _ _ _ _ us hl => match us, hl with | [_], _ => rfl⟩
abbrev s_law_outcome : Stmt := top 31
theorem sc_law_outcome : FnScope ["how", "arguments", "caught", "result", "error"] ["how", "arguments"] (defScope s_law_outcome) := ⟨rfl, rfl, rfl, by decide +kernel, rfl, by decide +kernel, by decide +kernel⟩
theorem d_law_outcome {P : Program} {w : World} {K : PySem.W.Frag} {mg : Str → Option Value} {base : Heap} (T : Bl mg) (c_law_call : FnAt P w K mg base 6 "_law_call" ["how", "arguments"] (sp_law_call K)) (c_law_name : FnAt P w K mg base 1 "_law_name" ["caught"] (sp_law_name K)) (x_ColourError : ExcAt K mg "ColourError") (f : Addr) (cdv : Value) (A : Around) (outer : List Env) (s : Shared) (H : Hp) (E : XK) (hr : Room 6 (A.deeper (envOfC "_law_outcome" (defScope s_law_outcome) s.heap.objs.size f cdv))) :
  PSs (cxOf (L2.CX P w) P w K mg base ["how", "arguments", "caught", "result", "error"] "_law_outcome" (defScope s_law_outcome) f cdv A outer s H E).nox (defBody s_law_outcome) (t_law_outcome K E) :=
  (pss_cons (ps_set (i := 2) sc_law_outcome.nd rfl (by first | exact Or.inl rfl | exact Or.inr rfl) pe_non)
  (pss_cons (ps_set (i := 3) sc_law_outcome.nd rfl (by first | exact Or.inl rfl | exact Or.inr rfl) pe_non)
  (pss_cons (ps_tryKeep (i := 4) (j := 2) (Wout := fun _ _ _ _ => False) (tb := fun W => tAsg (tCallS (sp_law_call K) (WE W) (tCons (tVar 0) (tCons (tVar 1) tNil))) (gName 3)) rfl rfl sc_law_outcome.nd rfl rfl (by decide) rfl rfl rfl ⟨by rfl, by decide, .inl x_ColourError.g⟩ takes0 (fun a pn => pss_one (ps_set (i := 2) sc_law_outcome.nd rfl (by first | exact Or.inl rfl | exact Or.inr rfl) (pv 4))) (fun W pn xe tk _ => pss_one (ps_set (i := 3) sc_law_outcome.nd rfl (by first | exact Or.inl rfl | exact Or.inr rfl) (pe_callFS c_law_call (hr.mono (by decide)) (by rfl) tk (pa_cons (pv 0) (pa_cons (pv 1) pa_nil))))))
  (pss_cons (ps_if (pt_cmpR op_isU (pv 2) pe_non (nomark _)) (pss_one (ps_ret (pe_tup (pa_cons pe_str (pa_cons (pv 3) pa_nil))))) pss_nil)
  (pss_one (ps_ret (pe_tup (pa_cons pe_str (pa_cons (pe_callF c_law_name (hr.mono (by decide)) (by rfl) passL (pa_cons (pv 2) pa_nil)) pa_nil)))))))))
theorem o_law_outcome {P : Program} {w : World} {K : PySem.W.Frag} {mg : Str → Option Value} {base : Heap} {f : Addr} {fd : FuncData} (T : Bl mg) (c_law_call : FnAt P w K mg base 6 "_law_call" ["how", "arguments"] (sp_law_call K)) (c_law_name : FnAt P w K mg base 1 "_law_name" ["caught"] (sp_law_name K)) (x_ColourError : ExcAt K mg "ColourError") (F : FunD K "_law_outcome" "_law_outcome" (defArgs s_law_outcome) (defBody s_law_outcome) (defScope s_law_outcome) [] [] f fd) : FnOk P w K mg base (L2.CX P w) 7 f fd ["how", "arguments"] (sp_law_outcome K) :=
  F.ok sc_law_outcome (fun vs H Q E h => spD_len (k := 2) (fun ds o h => by first | exact h.1 | (obtain ⟨_, rfl, _⟩ := h; rfl) | (obtain ⟨_, _, rfl, _⟩ := h; rfl) | (obtain ⟨_, _, _, rfl, _⟩ := h; rfl) | (obtain ⟨_, _, _, _, rfl, _⟩ := h; rfl) | (obtain ⟨_, _, _, _, _, rfl, _⟩ := h; rfl) | (obtain ⟨_, _, _, _, _, _, rfl, _⟩ := h; rfl) | (obtain ⟨_, _, _, _, _, _, _, rfl, _⟩ := h; rfl)) h) (fun cdv A outer s H vs Q E hr h => ⟨t_law_outcome K E, PSs.nox (d_law_outcome T c_law_call c_law_name x_ColourError f cdv A outer s H E hr), pure_law_outcome h⟩)
theorem ok_law_outcome {P : Program} {w : World} {K : PySem.W.Frag} {mg : Str → Option Value} {base : Heap} {f : Addr} {fd : FuncData} (T : Bl mg) (c_law_call : FnAt P w K mg base 6 "_law_call" ["how", "arguments"] (sp_law_call K)) (c_law_name : FnAt P w K mg base 1 "_law_name" ["caught"] (sp_law_name K)) (x_ColourError : ExcAt K mg "ColourError") (F : FunD K "_law_outcome" "_law_outcome" (defArgs s_law_outcome) (defBody s_law_outcome) (defScope s_law_outcome) [] [] f fd) (g : mg "_law_outcome" = some (.ref f)) : FnAt P w K mg base 7 "_law_outcome" ["how", "arguments"] (sp_law_outcome K) :=
  ⟨f, fd, o_law_outcome T c_law_call c_law_name x_ColourError F, g, F.kp, F.bindsN fun _ _ _ _ _ _ us hl => match us, hl with | [_, _], _ => rfl⟩
abbrev s_law_pick : Stmt := top 30
theorem sc_law_pick : FnScope ["script", "town", "choices"] ["script", "town", "choices"] (defScope s_law_pick) := ⟨rfl, rfl, rfl, by decide +kernel, rfl, by decide +kernel, by decide +kernel⟩
theorem d_law_pick {P : Program} {w : World} {K : PySem.W.Frag} {mg : Str → Option Value} {base : Heap} (T : Bl mg) (c_law_draw : FnAt P w K mg base 1 "_law_draw" ["script", "town", "limit"] (sp_law_draw K)) (f : Addr) (cdv : Value) (A : Around) (outer : List Env) (s : Shared) (H : Hp) (E : XK) (hr : Room 1 (A.deeper (envOfC "_law_pick" (defScope s_law_pick) s.heap.objs.size f cdv))) :
  PSs (cxOf (L2.CX P w) P w K mg base ["script", "town", "choices"] "_law_pick" (defScope s_law_pick) f cdv A outer s H E).nox (defBody s_law_pick) (t_law_pick K E) :=
  (pss_one (ps_ret (pe_ix ix_seq (pv 2) (pe_callF c_law_draw (hr.mono (by decide)) (by rfl) passL (pa_cons (pv 0) (pa_cons (pv 1) (pa_cons (pe_callB cr_lenU (by rfl) T.b_len (by decide +kernel) (pa_cons (pv 2) pa_nil)) pa_nil)))) (fun _ _ => rfl))))
theorem o_law_pick {P : Program} {w : World} {K : PySem.W.Frag} {mg : Str → Option Value} {base : Heap} {f : Addr} {fd : FuncData} (T : Bl mg) (c_law_draw : FnAt P w K mg base 1 "_law_draw" ["script", "town", "limit"] (sp_law_draw K)) (F : FunD K "_law_pick" "_law_pick" (defArgs s_law_pick) (defBody s_law_pick) (defScope s_law_pick) [] [] f fd) : FnOk P w K mg base (L2.CX P w) 2 f fd ["script", "town", "choices"] (sp_law_pick K) :=
  F.ok sc_law_pick (fun vs H Q E h => spT_len (E := E) (k := 1) (fun ds h => by obtain ⟨_, rfl, _⟩ := h; rfl) h) (fun cdv A outer s H vs Q E hr h => ⟨t_law_pick K E, PSs.nox (d_law_pick T c_law_draw f cdv A outer s H E hr), pure_law_pick h⟩)
theorem ok_law_pick {P : Program} {w : World} {K : PySem.W.Frag} {mg : Str → Option Value} {base : Heap} {f : Addr} {fd : FuncData} (T : Bl mg) (c_law_draw : FnAt P w K mg base 1 "_law_draw" ["script", "town", "limit"] (sp_law_draw K)) (F : FunD K "_law_pick" "_law_pick" (defArgs s_law_pick) (defBody s_law_pick) (defScope s_law_pick) [] [] f fd) (g : mg "_law_pick" = some (.ref f)) : FnAt P w K mg base 2 "_law_pick" ["script", "town", "choices"] (sp_law_pick K) :=
  ⟨f, fd, o_law_pick T c_law_draw F, g, F.kp, F.bindsN fun _ _ _ _ _ _ us hl => match us, hl with | [_, _, _], _ => rfl⟩
abbrev s_law_raises : Stmt := top 33
theorem sc_law_raises : FnScope ["name", "some"] ["name"] (defScope s_law_raises) := ⟨rfl, rfl, rfl, by decide +kernel, rfl, by decide +kernel, by decide +kernel⟩
theorem d_law_raises {P : Program} {w : World} {K : PySem.W.Frag} {mg : Str → Option Value} {base : Heap} (T : Bl mg)  (f : Addr) (cdv : Value) (A : Around) (outer : List Env) (s : Shared) (H : Hp) (E : XK) (hr : Room 0 (A.deeper (envOfC "_law_raises" (defScope s_law_raises) s.heap.objs.size f cdv))) :
  PSs (cxOf (L2.CX P w) P w K mg base ["name", "some"] "_law_raises" (defScope s_law_raises) f cdv A outer s H E).nox (defBody s_law_raises) (t_law_raises K E) :=
  (pss_cons (ps_set (i := 1) sc_law_raises.nd rfl (by first | exact Or.inl rfl | exact Or.inr rfl) (pe_lst (pa_cons pe_str (pa_cons pe_str (pa_cons pe_str (pa_cons pe_str (pa_cons pe_str (pa_cons pe_str (pa_cons pe_str (pa_cons pe_str pa_nil))))))))))
  (pss_cons (ps_set (i := 1) sc_law_raises.nd rfl (by first | exact Or.inl rfl | exact Or.inr rfl) (pe_op op_addU (pv 1) (pe_lst (pa_cons pe_str (pa_cons pe_str (pa_cons pe_str (pa_cons pe_str (pa_cons pe_str (pa_cons pe_str (pa_cons pe_str pa_nil))))))))))
  (pss_one (ps_ret (pe_tup (pa_cons pe_str (pa_cons (pe_bm PySem.F.plainAttrs_list PySem.F.slot_list_index PySem.F.type_list_index (mt_indexD (units65 hr)) (pv 1) (pa_cons (pv 0) pa_nil)) pa_nil)))))))
theorem o_law_raises {P : Program} {w : World} {K : PySem.W.Frag} {mg : Str → Option Value} {base : Heap} {f : Addr} {fd : FuncData} (T : Bl mg)  (F : FunD K "_law_raises" "_law_raises" (defArgs s_law_raises) (defBody s_law_raises) (defScope s_law_raises) [] [] f fd) : FnOk P w K mg base (L2.CX P w) 1 f fd ["name"] (sp_law_raises K) :=
  F.ok sc_law_raises (fun vs H Q E h => spD_len (k := 1) (fun ds o h => by first | exact h.1 | (obtain ⟨_, rfl, _⟩ := h; rfl) | (obtain ⟨_, _, rfl, _⟩ := h; rfl) | (obtain ⟨_, _, _, rfl, _⟩ := h; rfl) | (obtain ⟨_, _, _, _, rfl, _⟩ := h; rfl) | (obtain ⟨_, _, _, _, _, rfl, _⟩ := h; rfl) | (obtain ⟨_, _, _, _, _, _, rfl, _⟩ := h; rfl) | (obtain ⟨_, _, _, _, _, _, _, rfl, _⟩ := h; rfl)) h) (fun cdv A outer s H vs Q E hr h => ⟨t_law_raises K E, PSs.nox (d_law_raises T  f cdv A outer s H E hr), pure_law_raises h⟩)
theorem ok_law_raises {P : Program} {w : World} {K : PySem.W.Frag} {mg : Str → Option Value} {base : Heap} {f : Addr} {fd : FuncData} (T : Bl mg)  (F : FunD K "_law_raises" "_law_raises" (defArgs s_law_raises) (defBody s_law_raises) (defScope s_law_raises) [] [] f fd) (g : mg "_law_raises" = some (.ref f)) : FnAt P w K mg base 1 "_law_raises" ["name"] (sp_law_raises K) :=
  ⟨f, fd, o_law_raises T  F, g, F.kp, F.bindsN fun _ _ _ _ _ _ us hl => match us, hl with | [_], _ => rfl⟩
abbrev s_law_town : Stmt := top 28
theorem sc_law_town : FnScope ["script"] ["script"] (defScope s_law_town) := ⟨rfl, rfl, rfl, by decide +kernel, rfl, by decide +kernel, by decide +kernel⟩
theorem d_law_town {P : Program} {w : World} {K : PySem.W.Frag} {mg : Str → Option Value} {base : Heap} (T : Bl mg)  (f : Addr) (cdv : Value) (A : Around) (outer : List Env) (s : Shared) (H : Hp) (E : XK) (hr : Room 0 (A.deeper (envOfC "_law_town" (defScope s_law_town) s.heap.objs.size f cdv))) :
  PSs (cxOf (L2.CX P w) P w K mg base ["script"] "_law_town" (defScope s_law_town) f cdv A outer s H E).nox (defBody s_law_town) (t_law_town K E) :=
  (pss_one (ps_ret (pe_op op_addU (pe_lst (pa_cons pe_int pa_nil)) (pe_callTy (cr_listU rfl) (by rfl) T.b_list (by decide +kernel) (pa_cons (pv 0) pa_nil)))))
theorem o_law_town {P : Program} {w : World} {K : PySem.W.Frag} {mg : Str → Option Value} {base : Heap} {f : Addr} {fd : FuncData} (T : Bl mg)  (F : FunD K "_law_town" "_law_town" (defArgs s_law_town) (defBody s_law_town) (defScope s_law_town) [] [] f fd) : FnOk P w K mg base (L2.CX P w) 1 f fd ["script"] (sp_law_town K) :=
  F.ok sc_law_town (fun vs H Q E h => by obtain ⟨A, ns, _, _, hd, _⟩ := h; simpa using hd.length) (fun cdv A outer s H vs Q E hr h => ⟨t_law_town K E, PSs.nox (d_law_town T  f cdv A outer s H E hr), pure_law_town h⟩)
theorem ok_law_town {P : Program} {w : World} {K : PySem.W.Frag} {mg : Str → Option Value} {base : Heap} {f : Addr} {fd : FuncData} (T : Bl mg)  (F : FunD K "_law_town" "_law_town" (defArgs s_law_town) (defBody s_law_town) (defScope s_law_town) [] [] f fd) (g : mg "_law_town" = some (.ref f)) : FnAt P w K mg base 1 "_law_town" ["script"] (sp_law_town K) :=
  ⟨f, fd, o_law_town T  F, g, F.kp, F.bindsN fun _ _ _ _ _ _ us hl => match us, hl with | [_], _ => rfl⟩
abbrev s_law : Stmt := top 36
theorem sc_law : FnScope ["script", "town", "family", "text", "one", "k", "at", "sign", "other", "told", "bads", "bad"] ["script"] (defScope s_law) := ⟨rfl, rfl, rfl, by decide +kernel, rfl, by decide +kernel, by decide +kernel⟩
theorem d_law {P : Program} {w : World} {K : PySem.W.Frag} {mg : Str → Option Value} {base : Heap} (T : Bl mg) (c_law_draw : FnAt P w K mg base 1 "_law_draw" ["script", "town", "limit"] (sp_law_draw K)) (c_law_family : FnAt P w K mg base 2 "_law_family" ["script", "town", "most"] (sp_law_family K)) (c_law_outcome : FnAt P w K mg base 7 "_law_outcome" ["how", "arguments"] (sp_law_outcome K)) (c_law_pick : FnAt P w K mg base 2 "_law_pick" ["script", "town", "choices"] (sp_law_pick K)) (c_law_raises : FnAt P w K mg base 1 "_law_raises" ["name"] (sp_law_raises K)) (c_law_town : FnAt P w K mg base 1 "_law_town" ["script"] (sp_law_town K)) (c_format_family : FnAt P w K mg base 5 "format_family" ["family"] (sp_format_family K)) (c_is_family : FnAt P w K mg base 3 "is_family" ["value"] (sp_is_family K)) (c_parse_family : FnAt P w K mg base 4 "parse_family" ["text"] (sp_parse_family K)) (f : Addr) (cdv : Value) (A : Around) (outer : List Env) (s : Shared) (H : Hp) (E : XK) (hr : Room 7 (A.deeper (envOfC "law" (defScope s_law) s.heap.objs.size f cdv))) :
  PSs (cxOf (L2.CX P w) P w K mg base ["script", "town", "family", "text", "one", "k", "at", "sign", "other", "told", "bads", "bad"] "law" (defScope s_law) f cdv A outer s H E).nox (defBody s_law) (t_law K E) :=
  (pss_cons (ps_set (i := 1) sc_law.nd rfl (by first | exact Or.inl rfl | exact Or.inr rfl) (pe_callF c_law_town (hr.mono (by decide)) (by rfl) passL (pa_cons (pv 0) pa_nil)))
  (pss_cons (ps_set (i := 2) sc_law.nd rfl (by first | exact Or.inl rfl | exact Or.inr rfl) (pe_callF c_law_family (hr.mono (by decide)) (by rfl) passL (pa_cons (pv 0) (pa_cons (pv 1) (pa_cons pe_int pa_nil)))))
  (pss_cons (ps_set (i := 3) sc_law.nd rfl (by first | exact Or.inl rfl | exact Or.inr rfl) (pe_op op_addU (pe_callTy cr_strU (by rfl) T.b_str (by decide +kernel) (pa_cons (pe_ix ix_seq (pv 2) pe_int (fun _ _ => rfl)) pa_nil)) pe_str))
  (pss_cons (ps_for PassesOwn.never rfl (pi_seq (pe_ix ix_seq (pv 2) pe_int (fun _ _ => rfl))) (pg_name (i := 4) sc_law.nd rfl (by first | exact Or.inl rfl | exact Or.inr rfl)) (pss_one (ps_set (i := 3) sc_law.nd rfl (by first | exact Or.inl rfl | exact Or.inr rfl) (pe_op op_addU (pe_op op_addU (pv 3) pe_str) (pe_join pe_str (pe_lc (own := [("k", 5)]) (by rfl) sc_law.nd (pi_seq (pv 4)) (blkOk_by (own := [("k", 5)]) (by kernel_rfl)) (fun _ _ _ _ _ => (pg_name (i := 5) sc_law.nd rfl (by first | exact Or.inl rfl | exact Or.inr rfl))) (fun _ _ _ _ _ => pts_nil) (fun _ _ _ _ _ => (pe_callTy cr_strU (by rfl) T.b_str (by decide +kernel) (pa_cons (pv 5) pa_nil)))))))))
  (pss_cons (ps_if (PW.pt (pw_or (pt_cmpR (op_neD hr.units) (pe_callF c_format_family (hr.mono (by decide)) (by rfl) passL (pa_cons (pv 2) pa_nil)) (pv 3) (nomark _)) (pw_or1 (pt_cmpR (op_neD hr.units) (pe_callF c_law_outcome (hr.mono (by decide)) (by rfl) passL (pa_cons pe_int (pa_cons (pv 3) pa_nil))) (pe_tup (pa_cons pe_str (pa_cons (pv 2) pa_nil))) (nomark _))))) (pss_one (ps_ret pe_bl)) pss_nil)
  (pss_cons (ps_for PassesOwn.never rfl (pi_range1 (by rfl) T.b_range (pa_cons pe_int pa_nil)) (pg_name (i := 5) sc_law.nd rfl (by first | exact Or.inl rfl | exact Or.inr rfl)) (pss_cons (ps_set (i := 6) sc_law.nd rfl (by first | exact Or.inl rfl | exact Or.inr rfl) (pe_callF c_law_draw (hr.mono (by decide)) (by rfl) passL (pa_cons (pv 0) (pa_cons (pv 1) (pa_cons (pe_op op_addU (pe_callB cr_lenU (by rfl) T.b_len (by decide +kernel) (pa_cons (pv 3) pa_nil)) pe_int) pa_nil)))))
  (pss_cons (ps_set (i := 7) sc_law.nd rfl (by first | exact Or.inl rfl | exact Or.inr rfl) (pe_callF c_law_pick (hr.mono (by decide)) (by rfl) passL (pa_cons (pv 0) (pa_cons (pv 1) (pa_cons (pe_op op_addU (pe_callTy (cr_listS rfl) (by rfl) T.b_list (by decide +kernel) (pa_cons pe_str pa_nil)) (pe_lst (pa_cons pe_str (pa_cons pe_str (pa_cons pe_str (pa_cons pe_str (pa_cons pe_str (pa_cons pe_str pa_nil)))))))) pa_nil)))))
  (pss_cons (ps_set (i := 8) sc_law.nd rfl (by first | exact Or.inl rfl | exact Or.inr rfl) (pe_op op_addU (pe_op op_addU (pe_slice sl_U (pv 3) po_none (po_some (pv 6))) (pv 7)) (pe_slice sl_U (pv 3) (po_some (pe_op op_addU (pv 6) (pe_callF c_law_draw (hr.mono (by decide)) (by rfl) passL (pa_cons (pv 0) (pa_cons (pv 1) (pa_cons pe_int pa_nil)))))) po_none)))
  (pss_cons (ps_set (i := 9) sc_law.nd rfl (by first | exact Or.inl rfl | exact Or.inr rfl) (pe_callF c_law_outcome (hr.mono (by decide)) (by rfl) passL (pa_cons pe_int (pa_cons (pv 8) pa_nil))))
  (pss_one (ps_if (pt_cmpR (op_eqD hr.units) (pe_ix ix_seq (pv 9) pe_int (fun _ _ => rfl)) pe_str (nomark _)) (pss_one (ps_if (PW.pt (pw_or (pt_cmpR op_notU (pe_callF c_is_family (hr.mono (by decide)) (by rfl) passL (pa_cons (pe_ix ix_seq (pv 9) pe_int (fun _ _ => rfl)) pa_nil)) pe_bl (nomark _)) (pw_or1 (pt_cmpR (op_neD hr.units) (pe_callF c_format_family (hr.mono (by decide)) (by rfl) passL (pa_cons (pe_ix ix_seq (pv 9) pe_int (fun _ _ => rfl)) pa_nil)) (pv 8) (nomark _))))) (pss_one (ps_ret pe_bl)) pss_nil)) (pss_one (ps_if (PW.pt (pw_or (pt_cmpR (op_neD hr.units) (pv 9) (pe_callF c_law_raises (hr.mono (by decide)) (by rfl) passL (pa_cons pe_str pa_nil)) (nomark _)) (pw_or1 (pt_cmpR (op_eqD hr.units) (pv 8) (pv 3) (nomark _))))) (pss_one (ps_ret pe_bl)) pss_nil)))))))))
  (pss_cons (ps_set (i := 10) sc_law.nd rfl (by first | exact Or.inl rfl | exact Or.inr rfl) (pe_lst (pa_cons pe_non (pa_cons pe_int (pa_cons pe_bl (pa_cons pe_str (pa_cons pe_str (pa_cons pe_str (pa_cons pe_str (pa_cons pe_str (pa_cons pe_str (pa_cons pe_str (pa_cons pe_str (pa_cons pe_str (pa_cons pe_str (pa_cons pe_str (pa_cons pe_str (pa_cons pe_str pa_nil))))))))))))))))))
  (pss_cons (ps_set (i := 10) sc_law.nd rfl (by first | exact Or.inl rfl | exact Or.inr rfl) (pe_op op_addU (pv 10) (pe_lst (pa_cons pe_str (pa_cons pe_str (pa_cons pe_str (pa_cons pe_str (pa_cons pe_str (pa_cons pe_str (pa_cons pe_str (pa_cons pe_str (pa_cons pe_str (pa_cons pe_str pa_nil)))))))))))))
  (pss_cons (ps_set (i := 10) sc_law.nd rfl (by first | exact Or.inl rfl | exact Or.inr rfl) (pe_op op_addU (pv 10) (pe_lst (pa_cons pe_str (pa_cons pe_str (pa_cons (pe_lst (pa_cons (pv 3) pa_nil)) (pa_cons (pe_tup (pa_cons (pv 3) pa_nil)) (pa_cons pe_dnewK (pa_cons (pv 2) (pa_cons (pe_op op_addU (pv 3) pe_str) (pa_cons (pe_op op_addU (pv 3) pe_str) pa_nil)))))))))))
  (pss_cons (ps_if (pt_cmpR (op_neD hr.units) (pe_lc (own := [("bad", 11)]) (by rfl) sc_law.nd (pi_seq (pv 10)) (blkOk_by (own := [("bad", 11)]) (by kernel_rfl)) (fun _ _ _ _ _ => (pg_name (i := 11) sc_law.nd rfl (by first | exact Or.inl rfl | exact Or.inr rfl))) (fun _ _ _ _ _ => (pts_one (pt_cmpR (op_neD hr.units) (pe_callF c_law_outcome (hr.mono (by decide)) (by rfl) passL (pa_cons pe_int (pa_cons (pv 11) pa_nil))) (pe_callF c_law_raises (hr.mono (by decide)) (by rfl) passL (pa_cons pe_str pa_nil)) (nomark _)))) (fun _ _ _ _ _ => (pv 11))) (pe_lst pa_nil) (nomark _)) (pss_one (ps_ret pe_bl)) pss_nil)
  (pss_cons (ps_for PassesOwn.never rfl (pi_seq (pe_tup (pa_cons pe_non (pa_cons (pe_tup pa_nil) (pa_cons (pe_ix ix_seq (pv 2) pe_int (fun _ _ => rfl)) (pa_cons (pv 3) (pa_cons (pe_callTy (cr_listU rfl) (by rfl) T.b_list (by decide +kernel) (pa_cons (pv 2) pa_nil)) (pa_cons (pe_tup (pa_cons pe_int (pa_cons (pe_tup pa_nil) pa_nil))) (pa_cons (pe_tup (pa_cons pe_int (pa_cons (pe_tup (pa_cons (pe_tup (pa_cons pe_int pa_nil)) pa_nil)) pa_nil))) pa_nil))))))))) (pg_name (i := 11) sc_law.nd rfl (by first | exact Or.inl rfl | exact Or.inr rfl)) (pss_one (ps_if (pt_cmpR (op_neD hr.units) (pe_callF c_law_outcome (hr.mono (by decide)) (by rfl) passL (pa_cons pe_int (pa_cons (pv 11) pa_nil))) (pe_callF c_law_raises (hr.mono (by decide)) (by rfl) passL (pa_cons pe_str pa_nil)) (nomark _)) (pss_one (ps_ret pe_bl)) pss_nil)))
  (pss_one (ps_ret (pe_and (pe_cmpR (op_eqD hr.units) (pe_callF c_parse_family (hr.mono (by decide)) (by rfl) passL (pa_cons pe_str pa_nil)) (pe_tup (pa_cons pe_int (pa_cons (pe_tup (pa_cons (pe_tupRg rfl (by rfl) T.b_tuple (prg_1 (by rfl) T.b_range pe_int)) pa_nil)) pa_nil))) (nomark _)) (pe_one (pe_cmpR (op_eqD hr.units) (pe_callF c_parse_family (hr.mono (by decide)) (by rfl) passL (pa_cons pe_str pa_nil)) (pe_tup (pa_cons pe_int (pa_cons (pe_tup (pa_cons (pe_tup (pa_cons pe_int pa_nil)) pa_nil)) pa_nil))) (nomark _)))))))))))))))))
theorem o_law {P : Program} {w : World} {K : PySem.W.Frag} {mg : Str → Option Value} {base : Heap} {f : Addr} {fd : FuncData} (T : Bl mg) (c_law_draw : FnAt P w K mg base 1 "_law_draw" ["script", "town", "limit"] (sp_law_draw K)) (c_law_family : FnAt P w K mg base 2 "_law_family" ["script", "town", "most"] (sp_law_family K)) (c_law_outcome : FnAt P w K mg base 7 "_law_outcome" ["how", "arguments"] (sp_law_outcome K)) (c_law_pick : FnAt P w K mg base 2 "_law_pick" ["script", "town", "choices"] (sp_law_pick K)) (c_law_raises : FnAt P w K mg base 1 "_law_raises" ["name"] (sp_law_raises K)) (c_law_town : FnAt P w K mg base 1 "_law_town" ["script"] (sp_law_town K)) (c_format_family : FnAt P w K mg base 5 "format_family" ["family"] (sp_format_family K)) (c_is_family : FnAt P w K mg base 3 "is_family" ["value"] (sp_is_family K)) (c_parse_family : FnAt P w K mg base 4 "parse_family" ["text"] (sp_parse_family K)) (F : FunD K "law" "law" (defArgs s_law) (defBody s_law) (defScope s_law) [] [] f fd) : FnOk P w K mg base L2.CX0 8 f fd ["script"] (spLawE K) :=
  F.ok sc_law (fun vs H Q E h => by obtain ⟨_, a, ns, rfl, _⟩ := h; rfl) (fun cdv A outer s H vs Q E hr h => ⟨t_law K E, PSs.nox (d_law T c_law_draw c_law_family c_law_outcome c_law_pick c_law_raises c_law_town c_format_family c_is_family c_parse_family f cdv A outer s H E hr), pure_law82 h⟩)
def dd_law_draw : He.DefD := ⟨("_law_draw", none), "_law_draw", "_law_draw", defArgs s_law_draw, defBody s_law_draw, defScope s_law_draw, [], []⟩
def dd_law_family : He.DefD := ⟨("_law_family", none), "_law_family", "_law_family", defArgs s_law_family, defBody s_law_family, defScope s_law_family, [], []⟩
def dd_is_between : He.DefD := ⟨("is_between", none), "is_between", "is_between", defArgs s_is_between, defBody s_is_between, defScope s_is_between, [], []⟩
def dd_is_lot : He.DefD := ⟨("is_lot", none), "is_lot", "is_lot", defArgs s_is_lot, defBody s_is_lot, defScope s_is_lot, [], []⟩
def dd_is_family : He.DefD := ⟨("is_family", none), "is_family", "is_family", defArgs s_is_family, defBody s_is_family, defScope s_is_family, [], []⟩
def dd_check_family : He.DefD := ⟨("check_family", none), "check_family", "check_family", defArgs s_check_family, defBody s_check_family, defScope s_check_family, [], []⟩
def dd_family_text : He.DefD := ⟨("family_text", none), "family_text", "family_text", defArgs s_family_text, defBody s_family_text, defScope s_family_text, [], []⟩
def dd_format_family : He.DefD := ⟨("format_family", none), "format_family", "format_family", defArgs s_format_family, defBody s_format_family, defScope s_format_family, [], []⟩
def dd_parse_family : He.DefD := ⟨("parse_family", none), "parse_family", "parse_family", defArgs s_parse_family, defBody s_parse_family, defScope s_parse_family, [], []⟩
def dd_law_call : He.DefD := ⟨("_law_call", none), "_law_call", "_law_call", defArgs s_law_call, defBody s_law_call, defScope s_law_call, [], []⟩
def dd_law_name : He.DefD := ⟨("_law_name", none), "_law_name", "_law_name", defArgs s_law_name, defBody s_law_name, defScope s_law_name, [], []⟩
def dd_law_outcome : He.DefD := ⟨("_law_outcome", none), "_law_outcome", "_law_outcome", defArgs s_law_outcome, defBody s_law_outcome, defScope s_law_outcome, [], []⟩
def dd_law_pick : He.DefD := ⟨("_law_pick", none), "_law_pick", "_law_pick", defArgs s_law_pick, defBody s_law_pick, defScope s_law_pick, [], []⟩
def dd_law_raises : He.DefD := ⟨("_law_raises", none), "_law_raises", "_law_raises", defArgs s_law_raises, defBody s_law_raises, defScope s_law_raises, [], []⟩
def dd_law_town : He.DefD := ⟨("_law_town", none), "_law_town", "_law_town", defArgs s_law_town, defBody s_law_town, defScope s_law_town, [], []⟩
def dd_law : He.DefD := ⟨("law", none), "law", "law", defArgs s_law, defBody s_law, defScope s_law, [], []⟩
def fn : List He.DefD := [dd_law_draw, dd_law_family, dd_is_between, dd_is_lot, dd_is_family, dd_check_family, dd_family_text, dd_format_family, dd_parse_family, dd_law_call, dd_law_name, dd_law_outcome, dd_law_pick, dd_law_raises, dd_law_town, dd_law]
def fa : List He.Fa := [.glo "_law_draw", .glo "_law_family", .glo "is_between", .glo "is_lot", .glo "is_family", .glo "check_family", .glo "family_text", .glo "format_family", .glo "parse_family", .glo "_law_call", .glo "_law_name", .glo "_law_outcome", .glo "_law_pick", .glo "_law_raises", .glo "_law_town", .glo "law", .free "len", .free "isinstance", .free "int", .free "bool", .free "tuple", .free "list", .free "dict", .free "str", .free "set", .free "all", .free "any", .free "range", .free "sum", .free "max", .free "min", .free "abs", .free "sorted", .free "enumerate", .free "zip", .free "ValueError", .glo "ColourError", .glo "InvalidBottom", .glo "InvalidColours", .glo "InvalidFamily", .glo "InvalidLot", .glo "InvalidMixture", .glo "InvalidNames", .glo "InvalidNumber", .glo "InvalidRounding", .glo "InvalidSet", .glo "InvalidSums", .glo "InvalidText", .glo "InvalidTold", .glo "LastOne", .glo "NothingToUndo", .glo "TooMany", .exc "ColourError", .exc "InvalidBottom", .exc "InvalidColours", .exc "InvalidFamily", .exc "InvalidLot", .exc "InvalidMixture", .exc "InvalidNames", .exc "InvalidNumber", .exc "InvalidRounding", .exc "InvalidSet", .exc "InvalidSums", .exc "InvalidText", .exc "InvalidTold", .exc "LastOne", .exc "NothingToUndo", .exc "TooMany"]
abbrev R : PySem.W.OpenRow := PySem.W.OpenLaw.row PySem.Challenge.rw_lotcolours_k82_whole_texts
abbrev hk : PySem.W.Hook := hookX 5 fa fn
def ob (s : PySem.W.SharedT) : Bool × He.AlD := obsX 5 fa fn (HandSHeadRun.getT s)
theorem ob_eq (s : PySem.W.SharedT) : ob s = hk.obs s.abs := obsX_eq (HandSHeadRun.getT_eq s)
theorem run (w : World) : HandSHeadRun.RunEq R (PySem.W.view R.prog [36]) hk ob 6000 ["ColourError", "InvalidFamily", "InvalidColours", "InvalidNumber", "InvalidLot", "InvalidTold", "InvalidRounding", "InvalidSet", "InvalidNames", "InvalidMixture", "InvalidSums", "InvalidBottom", "InvalidText", "LastOne", "TooMany", "NothingToUndo", "is_between", "is_lot", "is_family", "check_family", "family_text", "format_family", "parse_family", "_law_town", "_law_draw", "_law_pick", "_law_outcome", "_law_name", "_law_raises", "_law_family", "_law_call"] w := by
  intro os
  kernel_rfl
theorem facts {P : Program} {w : World} {K : PySem.W.Frag} {h : Heap} {mg : Str → Option Value} {f : Addr} (X : K.In h) (G : h.Ns mainGlobals mg) (hfa : mg ("law" : Str) = some (.ref f)) (c : He.SaysD fa fn K) :
    ∃ fd : FuncData, (∀ (s : Shared) (v : Value), BindsTo s fd ⟨[v], []⟩ [("script", v)]) ∧ ∀ base : Heap, K.In base → base.Ns mainGlobals mg → FnOk P w K mg base L2.CX0 8 f fd ["script"] (spLawE K) := by
  have T : Bl mg := ⟨He.free_ok X G (c.fact 16 (f := .free "len") rfl), He.free_ok X G (c.fact 17 (f := .free "isinstance") rfl), He.free_ok X G (c.fact 18 (f := .free "int") rfl), He.free_ok X G (c.fact 19 (f := .free "bool") rfl), He.free_ok X G (c.fact 20 (f := .free "tuple") rfl), He.free_ok X G (c.fact 21 (f := .free "list") rfl), He.free_ok X G (c.fact 22 (f := .free "dict") rfl), He.free_ok X G (c.fact 23 (f := .free "str") rfl), He.free_ok X G (c.fact 24 (f := .free "set") rfl), He.free_ok X G (c.fact 25 (f := .free "all") rfl), He.free_ok X G (c.fact 26 (f := .free "any") rfl), He.free_ok X G (c.fact 27 (f := .free "range") rfl), He.free_ok X G (c.fact 28 (f := .free "sum") rfl), He.free_ok X G (c.fact 29 (f := .free "max") rfl), He.free_ok X G (c.fact 30 (f := .free "min") rfl), He.free_ok X G (c.fact 31 (f := .free "abs") rfl), He.free_ok X G (c.fact 32 (f := .free "sorted") rfl), He.free_ok X G (c.fact 33 (f := .free "enumerate") rfl), He.free_ok X G (c.fact 34 (f := .free "zip") rfl), He.free_ok X G (c.fact 35 (f := .free "ValueError") rfl)⟩
  have x_ColourError : ExcAt K mg "ColourError" := ⟨He.glo_ok X G (c.fact 36 (f := .glo "ColourError") rfl), (He.exc_ok (c.fact 52 (f := .exc "ColourError") rfl)).1, (He.exc_ok (c.fact 52 (f := .exc "ColourError") rfl)).2.1, (He.exc_ok (c.fact 52 (f := .exc "ColourError") rfl)).2.2.1, (He.exc_ok (c.fact 52 (f := .exc "ColourError") rfl)).2.2.2⟩
  have x_InvalidBottom : ExcAt K mg "InvalidBottom" := ⟨He.glo_ok X G (c.fact 37 (f := .glo "InvalidBottom") rfl), (He.exc_ok (c.fact 53 (f := .exc "InvalidBottom") rfl)).1, (He.exc_ok (c.fact 53 (f := .exc "InvalidBottom") rfl)).2.1, (He.exc_ok (c.fact 53 (f := .exc "InvalidBottom") rfl)).2.2.1, (He.exc_ok (c.fact 53 (f := .exc "InvalidBottom") rfl)).2.2.2⟩
  have x_InvalidColours : ExcAt K mg "InvalidColours" := ⟨He.glo_ok X G (c.fact 38 (f := .glo "InvalidColours") rfl), (He.exc_ok (c.fact 54 (f := .exc "InvalidColours") rfl)).1, (He.exc_ok (c.fact 54 (f := .exc "InvalidColours") rfl)).2.1, (He.exc_ok (c.fact 54 (f := .exc "InvalidColours") rfl)).2.2.1, (He.exc_ok (c.fact 54 (f := .exc "InvalidColours") rfl)).2.2.2⟩
  have x_InvalidFamily : ExcAt K mg "InvalidFamily" := ⟨He.glo_ok X G (c.fact 39 (f := .glo "InvalidFamily") rfl), (He.exc_ok (c.fact 55 (f := .exc "InvalidFamily") rfl)).1, (He.exc_ok (c.fact 55 (f := .exc "InvalidFamily") rfl)).2.1, (He.exc_ok (c.fact 55 (f := .exc "InvalidFamily") rfl)).2.2.1, (He.exc_ok (c.fact 55 (f := .exc "InvalidFamily") rfl)).2.2.2⟩
  have x_InvalidLot : ExcAt K mg "InvalidLot" := ⟨He.glo_ok X G (c.fact 40 (f := .glo "InvalidLot") rfl), (He.exc_ok (c.fact 56 (f := .exc "InvalidLot") rfl)).1, (He.exc_ok (c.fact 56 (f := .exc "InvalidLot") rfl)).2.1, (He.exc_ok (c.fact 56 (f := .exc "InvalidLot") rfl)).2.2.1, (He.exc_ok (c.fact 56 (f := .exc "InvalidLot") rfl)).2.2.2⟩
  have x_InvalidMixture : ExcAt K mg "InvalidMixture" := ⟨He.glo_ok X G (c.fact 41 (f := .glo "InvalidMixture") rfl), (He.exc_ok (c.fact 57 (f := .exc "InvalidMixture") rfl)).1, (He.exc_ok (c.fact 57 (f := .exc "InvalidMixture") rfl)).2.1, (He.exc_ok (c.fact 57 (f := .exc "InvalidMixture") rfl)).2.2.1, (He.exc_ok (c.fact 57 (f := .exc "InvalidMixture") rfl)).2.2.2⟩
  have x_InvalidNames : ExcAt K mg "InvalidNames" := ⟨He.glo_ok X G (c.fact 42 (f := .glo "InvalidNames") rfl), (He.exc_ok (c.fact 58 (f := .exc "InvalidNames") rfl)).1, (He.exc_ok (c.fact 58 (f := .exc "InvalidNames") rfl)).2.1, (He.exc_ok (c.fact 58 (f := .exc "InvalidNames") rfl)).2.2.1, (He.exc_ok (c.fact 58 (f := .exc "InvalidNames") rfl)).2.2.2⟩
  have x_InvalidNumber : ExcAt K mg "InvalidNumber" := ⟨He.glo_ok X G (c.fact 43 (f := .glo "InvalidNumber") rfl), (He.exc_ok (c.fact 59 (f := .exc "InvalidNumber") rfl)).1, (He.exc_ok (c.fact 59 (f := .exc "InvalidNumber") rfl)).2.1, (He.exc_ok (c.fact 59 (f := .exc "InvalidNumber") rfl)).2.2.1, (He.exc_ok (c.fact 59 (f := .exc "InvalidNumber") rfl)).2.2.2⟩
  have x_InvalidRounding : ExcAt K mg "InvalidRounding" := ⟨He.glo_ok X G (c.fact 44 (f := .glo "InvalidRounding") rfl), (He.exc_ok (c.fact 60 (f := .exc "InvalidRounding") rfl)).1, (He.exc_ok (c.fact 60 (f := .exc "InvalidRounding") rfl)).2.1, (He.exc_ok (c.fact 60 (f := .exc "InvalidRounding") rfl)).2.2.1, (He.exc_ok (c.fact 60 (f := .exc "InvalidRounding") rfl)).2.2.2⟩
  have x_InvalidSet : ExcAt K mg "InvalidSet" := ⟨He.glo_ok X G (c.fact 45 (f := .glo "InvalidSet") rfl), (He.exc_ok (c.fact 61 (f := .exc "InvalidSet") rfl)).1, (He.exc_ok (c.fact 61 (f := .exc "InvalidSet") rfl)).2.1, (He.exc_ok (c.fact 61 (f := .exc "InvalidSet") rfl)).2.2.1, (He.exc_ok (c.fact 61 (f := .exc "InvalidSet") rfl)).2.2.2⟩
  have x_InvalidSums : ExcAt K mg "InvalidSums" := ⟨He.glo_ok X G (c.fact 46 (f := .glo "InvalidSums") rfl), (He.exc_ok (c.fact 62 (f := .exc "InvalidSums") rfl)).1, (He.exc_ok (c.fact 62 (f := .exc "InvalidSums") rfl)).2.1, (He.exc_ok (c.fact 62 (f := .exc "InvalidSums") rfl)).2.2.1, (He.exc_ok (c.fact 62 (f := .exc "InvalidSums") rfl)).2.2.2⟩
  have x_InvalidText : ExcAt K mg "InvalidText" := ⟨He.glo_ok X G (c.fact 47 (f := .glo "InvalidText") rfl), (He.exc_ok (c.fact 63 (f := .exc "InvalidText") rfl)).1, (He.exc_ok (c.fact 63 (f := .exc "InvalidText") rfl)).2.1, (He.exc_ok (c.fact 63 (f := .exc "InvalidText") rfl)).2.2.1, (He.exc_ok (c.fact 63 (f := .exc "InvalidText") rfl)).2.2.2⟩
  have x_InvalidTold : ExcAt K mg "InvalidTold" := ⟨He.glo_ok X G (c.fact 48 (f := .glo "InvalidTold") rfl), (He.exc_ok (c.fact 64 (f := .exc "InvalidTold") rfl)).1, (He.exc_ok (c.fact 64 (f := .exc "InvalidTold") rfl)).2.1, (He.exc_ok (c.fact 64 (f := .exc "InvalidTold") rfl)).2.2.1, (He.exc_ok (c.fact 64 (f := .exc "InvalidTold") rfl)).2.2.2⟩
  have x_LastOne : ExcAt K mg "LastOne" := ⟨He.glo_ok X G (c.fact 49 (f := .glo "LastOne") rfl), (He.exc_ok (c.fact 65 (f := .exc "LastOne") rfl)).1, (He.exc_ok (c.fact 65 (f := .exc "LastOne") rfl)).2.1, (He.exc_ok (c.fact 65 (f := .exc "LastOne") rfl)).2.2.1, (He.exc_ok (c.fact 65 (f := .exc "LastOne") rfl)).2.2.2⟩
  have x_NothingToUndo : ExcAt K mg "NothingToUndo" := ⟨He.glo_ok X G (c.fact 50 (f := .glo "NothingToUndo") rfl), (He.exc_ok (c.fact 66 (f := .exc "NothingToUndo") rfl)).1, (He.exc_ok (c.fact 66 (f := .exc "NothingToUndo") rfl)).2.1, (He.exc_ok (c.fact 66 (f := .exc "NothingToUndo") rfl)).2.2.1, (He.exc_ok (c.fact 66 (f := .exc "NothingToUndo") rfl)).2.2.2⟩
  have x_TooMany : ExcAt K mg "TooMany" := ⟨He.glo_ok X G (c.fact 51 (f := .glo "TooMany") rfl), (He.exc_ok (c.fact 67 (f := .exc "TooMany") rfl)).1, (He.exc_ok (c.fact 67 (f := .exc "TooMany") rfl)).2.1, (He.exc_ok (c.fact 67 (f := .exc "TooMany") rfl)).2.2.1, (He.exc_ok (c.fact 67 (f := .exc "TooMany") rfl)).2.2.2⟩
  obtain ⟨fd_law_draw, F_law_draw⟩ := c.def_ 0 (d := dd_law_draw) rfl
  obtain ⟨fd_law_family, F_law_family⟩ := c.def_ 1 (d := dd_law_family) rfl
  obtain ⟨fd_is_between, F_is_between⟩ := c.def_ 2 (d := dd_is_between) rfl
  obtain ⟨fd_is_lot, F_is_lot⟩ := c.def_ 3 (d := dd_is_lot) rfl
  obtain ⟨fd_is_family, F_is_family⟩ := c.def_ 4 (d := dd_is_family) rfl
  obtain ⟨fd_check_family, F_check_family⟩ := c.def_ 5 (d := dd_check_family) rfl
  obtain ⟨fd_family_text, F_family_text⟩ := c.def_ 6 (d := dd_family_text) rfl
  obtain ⟨fd_format_family, F_format_family⟩ := c.def_ 7 (d := dd_format_family) rfl
  obtain ⟨fd_parse_family, F_parse_family⟩ := c.def_ 8 (d := dd_parse_family) rfl
  obtain ⟨fd_law_call, F_law_call⟩ := c.def_ 9 (d := dd_law_call) rfl
  obtain ⟨fd_law_name, F_law_name⟩ := c.def_ 10 (d := dd_law_name) rfl
  obtain ⟨fd_law_outcome, F_law_outcome⟩ := c.def_ 11 (d := dd_law_outcome) rfl
  obtain ⟨fd_law_pick, F_law_pick⟩ := c.def_ 12 (d := dd_law_pick) rfl
  obtain ⟨fd_law_raises, F_law_raises⟩ := c.def_ 13 (d := dd_law_raises) rfl
  obtain ⟨fd_law_town, F_law_town⟩ := c.def_ 14 (d := dd_law_town) rfl
  obtain ⟨fd_law, F_law⟩ := c.def_ 15 (d := dd_law) rfl
  have e := hfa.symm.trans (He.glo_ok X G (c.fact 15 (f := .glo "law") rfl))
  cases e
  have b := FunD.bindsA (ps := ["script"]) F_law fun _ _ _ _ _ _ us hl => match us, hl with | [_], _ => rfl
  refine ⟨fd_law, fun s v => b s [v] rfl, fun base _ _ => ?_⟩
  have c_law_draw : FnAt P w K mg base 1 "_law_draw" ["script", "town", "limit"] (sp_law_draw K) := ok_law_draw T  F_law_draw (He.glo_ok X G (c.fact 0 (f := .glo "_law_draw") rfl))
  have c_law_family : FnAt P w K mg base 2 "_law_family" ["script", "town", "most"] (sp_law_family K) := ok_law_family T c_law_draw F_law_family (He.glo_ok X G (c.fact 1 (f := .glo "_law_family") rfl))
  have c_is_between : FnAt P w K mg base 1 "is_between" ["value", "low", "high"] (sp_is_between K) := ok_is_between T  F_is_between (He.glo_ok X G (c.fact 2 (f := .glo "is_between") rfl))
  have c_is_lot : FnAt P w K mg base 2 "is_lot" ["things", "value"] (sp_is_lot K) := ok_is_lot T c_is_between F_is_lot (He.glo_ok X G (c.fact 3 (f := .glo "is_lot") rfl))
  have c_is_family : FnAt P w K mg base 3 "is_family" ["value"] (sp_is_family K) := ok_is_family T c_is_between c_is_lot F_is_family (He.glo_ok X G (c.fact 4 (f := .glo "is_family") rfl))
  have c_check_family : FnAt P w K mg base 4 "check_family" ["value"] (sp_check_family K) := ok_check_family T c_is_family x_InvalidFamily F_check_family (He.glo_ok X G (c.fact 5 (f := .glo "check_family") rfl))
  have c_family_text : FnAt P w K mg base 1 "family_text" ["family"] (sp_family_text K) := ok_family_text T  F_family_text (He.glo_ok X G (c.fact 6 (f := .glo "family_text") rfl))
  have c_format_family : FnAt P w K mg base 5 "format_family" ["family"] (sp_format_family K) := ok_format_family T c_check_family c_family_text F_format_family (He.glo_ok X G (c.fact 7 (f := .glo "format_family") rfl))
  have c_parse_family : FnAt P w K mg base 4 "parse_family" ["text"] (sp_parse_family K) := ok_parse_family T c_is_family x_InvalidText F_parse_family (He.glo_ok X G (c.fact 8 (f := .glo "parse_family") rfl))
  have c_law_call : FnAt P w K mg base 6 "_law_call" ["how", "arguments"] (sp_law_call K) := ok_law_call T c_format_family c_parse_family F_law_call (He.glo_ok X G (c.fact 9 (f := .glo "_law_call") rfl))
  have c_law_name : FnAt P w K mg base 1 "_law_name" ["caught"] (sp_law_name K) := ok_law_name T x_InvalidBottom x_InvalidColours x_InvalidFamily x_InvalidLot x_InvalidMixture x_InvalidNames x_InvalidNumber x_InvalidRounding x_InvalidSet x_InvalidSums x_InvalidText x_InvalidTold x_LastOne x_NothingToUndo x_TooMany F_law_name (He.glo_ok X G (c.fact 10 (f := .glo "_law_name") rfl))
  have c_law_outcome : FnAt P w K mg base 7 "_law_outcome" ["how", "arguments"] (sp_law_outcome K) := ok_law_outcome T c_law_call c_law_name x_ColourError F_law_outcome (He.glo_ok X G (c.fact 11 (f := .glo "_law_outcome") rfl))
  have c_law_pick : FnAt P w K mg base 2 "_law_pick" ["script", "town", "choices"] (sp_law_pick K) := ok_law_pick T c_law_draw F_law_pick (He.glo_ok X G (c.fact 12 (f := .glo "_law_pick") rfl))
  have c_law_raises : FnAt P w K mg base 1 "_law_raises" ["name"] (sp_law_raises K) := ok_law_raises T  F_law_raises (He.glo_ok X G (c.fact 13 (f := .glo "_law_raises") rfl))
  have c_law_town : FnAt P w K mg base 1 "_law_town" ["script"] (sp_law_town K) := ok_law_town T  F_law_town (He.glo_ok X G (c.fact 14 (f := .glo "_law_town") rfl))
  exact o_law T c_law_draw c_law_family c_law_outcome c_law_pick c_law_raises c_law_town c_format_family c_is_family c_parse_family F_law
end Lc
open PySem PySem.W PySem.Calls PyProof.Rows
theorem PySem.Challenge.cw_lotcolours_k82_whole_texts_holds : PySem.Challenge.rw_lotcolours_k82_whole_texts.Holds := by
  w_on; o_law
  refine HandSHeadRun.head_any (r := OpenLaw.row PySem.Challenge.rw_lotcolours_k82_whole_texts) (q := view (OpenLaw.row PySem.Challenge.rw_lotcolours_k82_whole_texts).prog [36]) (H := Lc.hk) (ob := Lc.ob) (M := 6000) (loose := ["ColourError", "InvalidFamily", "InvalidColours", "InvalidNumber", "InvalidLot", "InvalidTold", "InvalidRounding", "InvalidSet", "InvalidNames", "InvalidMixture", "InvalidSums", "InvalidBottom", "InvalidText", "LastOne", "TooMany", "NothingToUndo", "is_between", "is_lot", "is_family", "check_family", "family_text", "format_family", "parse_family", "_law_town", "_law_draw", "_law_pick", "_law_outcome", "_law_name", "_law_raises", "_law_family", "_law_call"]) (d := HandSHeadRun.topDef (OpenLaw.row PySem.Challenge.rw_lotcolours_k82_whole_texts).prog 36) (kwd := []) Lc.ob_eq
    (by kernel_rfl) (fun s => by kernel_rfl) Lc.run (by kernel_rfl) (by kernel_rfl) (by kernel_rfl) (by rfl) (by first | assumption | decide +kernel) (by decide +kernel) ⟨rfl, rfl, rfl, rfl, rfl, by decide +kernel⟩ ?hw ?hc
  case hw => w_witness2
  case hc =>
    refine L2.walk_ofE (l := PySem.Challenge.rw_lotcolours_k82_whole_texts) (n := 63) (k := 8) (x := "script") (CX := L2.CX0) rfl (by decide) (by kernel_rfl) ⟨rfl, by decide, by decide⟩ ?F (fun _ _ _ _ z => z)
    intro w mg fa h Y G hmg0
    obtain ⟨K, KX, ce, c⟩ := Y
    have hmg : mg ("law" : PySem.Str) = some (.ref fa) := by
      have e : (HandSHeadRun.topDef (OpenLaw.row PySem.Challenge.rw_lotcolours_k82_whole_texts).prog 36).name = ("law" : PySem.Str) := by kernel_rfl
      rw [← e]
      exact hmg0
    obtain ⟨fd, hb, hF⟩ := Lc.facts (P := (PySem.Challenge.rw_lotcolours_k82_whole_texts).prog) (w := w) KX G hmg c
    exact ⟨K, fd, Lc.spLawE K, KX, hb, fun H a ns hl _ hS => ⟨Lc.errsB_ok ce, ⟨a, ns, rfl, hS, hl, fun _ => rfl⟩⟩, hF⟩
