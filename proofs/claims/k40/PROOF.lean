import PyProof.Rows.All
import Wide.All
import OpenK.AllK
import Wide.FinOn
import HandS.ForMost
import HandS.ForExc
import HandS.Walk
import HandS.TupAny
import HandS.TupLe
import HandS.TupMul
import HandS.Deep
import HandS.IsInst
import HandS.SortOrd
import HandS.SortRule
import HandS.SortInts
import HandS.TupSets
import HandS.Conv
import HandS.Strs
import HandS.ExcValue
import HandS.ExcIs
import HandS.Wide
import HandS.FStr
import HandS.Zip
import HandS.DictTup
import HandS.Style
import HandS.Flow
import HandS.Codes
import HandS.OwnEq
import HandS.CallLocal
import HandS.Defaults
import HandS.Head0
import HandS.Head1
import HandS.Head2
import HandS.HeadEnd
import HandS.HeadHook1
import HandS.HeadHook2
import KE.DatumIndex
import KE.GoesMore
import KE.GoesEnum
import PyProof.StrLawsTight
import KE.KDictZip
import KE.GoesZip
import PySem.Challenge.RW_lotcolours_k40_whole_lots
set_option Elab.async false
set_option linter.all false
set_option maxRecDepth 100000
set_option maxHeartbeats 4000000
namespace Lc
open PySem L2

/-! ### the heap without the mutable places -/
def cut (A : List Addr) (H : Hp) : Hp := fun a => if a ∈ A then none else H a
theorem cut_out {A : List Addr} {H : Hp} {a : Addr} (h : a ∉ A) : cut A H a = H a := by unfold cut; rw [if_neg h]
theorem cut_in {A : List Addr} {H : Hp} {a : Addr} (h : a ∈ A) : cut A H a = none := by unfold cut; rw [if_pos h]
theorem cut_some {A : List Addr} {H : Hp} {a : Addr} {o : HO} (h : cut A H a = some o) : a ∉ A ∧ H a = some o := by
  by_cases ha : a ∈ A
  · rw [cut_in ha] at h; cases h
  · rw [cut_out ha] at h; exact ⟨ha, h⟩
theorem cut_nil {H : Hp} : cut [] H = H := by funext a; exact cut_out (by simp)
def Live (A : List Addr) (H : Hp) : Prop := ∀ a ∈ A, H a ≠ none
theorem Live.nil {H : Hp} : Live [] H := fun a h => by simp at h
theorem Live.same {A : List Addr} {H H' : Hp} (l : Live A H) (s : Same H H') : Live A H' := fun a ha e => by
  cases q : H a with
  | none => exact l a ha q
  | some o => rw [s a o q] at e; cases e
theorem Live.fresh {A : List Addr} {H : Hp} {p : Addr} (l : Live A H) (h : H p = none) : p ∉ A := fun hp => l p hp h
theorem cut_same {A : List Addr} {H H' : Hp} (s : Same H H') : Same (cut A H) (cut A H') := fun a o e => by
  obtain ⟨h1, h2⟩ := cut_some e
  rw [cut_out h1]; exact s a o h2
theorem same_cut {A : List Addr} {H : Hp} : Same (cut A H) H := fun a o e => (cut_some e).2
theorem same_new {H : Hp} {p : Addr} {o : HO} (h : H p = none) : Same H (upd H p o) := fun a u e => by
  rw [upd_ne (ne_of_none e h)]; exact e
theorem cut_new {A : List Addr} {H : Hp} {p : Addr} {o : HO} (l : Live A H) (h : H p = none) : cut A (upd H p o) p = some o := by
  rw [cut_out (l.fresh h)]; exact upd_same

/-! ### deep data -/
theorem rd_same {F F' : Hp} {a : Addr} {u : HO} (s : Same F F') (h : Rd F a u) : Rd F' a u := by
  rcases h with h | ⟨o, h⟩
  · exact .inl (s a _ h)
  · exact .inr ⟨o, s a _ h⟩
theorem sql_same {K : PySem.W.Frag} {F F' : Hp} {a : Addr} {xs : List V} (s : Same F F') (h : SqL K F a xs) : SqL K F' a xs := by
  rcases h with h | h
  · exact .inl (rd_same s h)
  · exact .inr h
theorem sqt_same {K : PySem.W.Frag} {F F' : Hp} {a : Addr} {xs : List V} (s : Same F F') (h : SqT K F a xs) : SqT K F' a xs := by
  rcases h with h | h
  · exact .inl (rd_same s h)
  · exact .inr h
/-- the script, an address as it is, a class -/
def scrD (ns : List Int) : PyData := .dict [(.list (.none :: ns.map .int), .none)]
def adrD (a : Addr) : PyData := .dict [(.list [.bool true, .int (a : Nat)], .none)]
/-- a caught error of the class D, at a -/
def ExR (D a : Addr) : HO := .ext fun h => ∃ (oe : Obj) (vs : Array Value), h.get? a = some oe ∧ Zc (.ref D) none oe ∧ oe.data = .fields vs
def excD (D : Addr) : PyData := .dict [(.list [.bool false, .int (D : Nat)], .none)]
def tyD (n : String) : PyData := .dict [(.list [.str (Str.ofString n)], .none)]
/-- a dict with plain keys -/
def keyD : Key → PyData
  | .inl i => .int i
  | .inr x => .str x
def dctD (ks : List Key) (ds : List PyData) : PyData := .dict ((ks.map keyD).zip ds)
theorem dctD_ne {ks : List Key} {ds : List PyData} {l : List PyData} {e : PyData} (h : .dict [(.list l, e)] = dctD ks ds) : False := by
  unfold dctD at h
  cases ks with
  | nil => simp at h
  | cons k ks =>
    cases ds with
    | nil => simp at h
    | cons d ds => cases k <;> simp [keyD] at h
/-- a tuple known to have no dict; one that may be a key -/
def ftD (ds : List PyData) : PyData := .dict [(.list [.int 0], .list ds)]
def ptD (ds : List PyData) : PyData := .dict [(.list [.int 1], .list ds)]
mutual
inductive Dq (K : PySem.W.Frag) (H : Hp) : V → PyData → Prop
  | exc {a D : Addr} : H a = some (ExR D a) → Dq K H (.ref a) (excD D)
  | dct {a : Addr} {kvs : List (Key × V)} {ds : List PyData} : H a = some (.dK kvs) → DqAll K H (kvs.map (·.2)) ds → Dq K H (.ref a) (dctD (kvs.map (·.1)) ds)
  | non : Dq K H .non .none
  | bl (b : Bool) : Dq K H (.bl b) (.bool b)
  | int (i : Int) : Dq K H (.int i) (.int i)
  | str (x : Str) : Dq K H (.str x) (.str x)
  | lst {a : Addr} {xs : List V} {ds : List PyData} : H a = some (.lst xs) → DqAll K H xs ds → Dq K H (.ref a) (.list ds)
  | tup {a : Addr} {xs : List V} {ds : List PyData} : Rd H a (.tup xs) → DqAll K H xs ds → Dq K H (.ref a) (.tuple ds)
  | ftp {a : Addr} {o : Obj} {xs : List V} {ds : List PyData} : H a = some (.frz o (.tup xs)) → o.dict = none → DqAll K H xs ds → Dq K H (.ref a) (ftD ds)
  | ptp {a : Addr} {xs : List V} {ds : List PyData} : H a = some (.tup xs) → DqAll K H xs ds → Dq K H (.ref a) (ptD ds)
  | scr {a : Addr} {ns : List Int} : SqL K H a (ns.map V.int) → Dq K H (.ref a) (scrD ns)
  | adr (a : Addr) : Dq K H (.ref a) (adrD a)
  | ty (n : String) : Dq K H (.ty n) (tyD n)
inductive DqAll (K : PySem.W.Frag) (H : Hp) : List V → List PyData → Prop
  | nil : DqAll K H [] []
  | cons {v : V} {vs : List V} {d : PyData} {ds : List PyData} : Dq K H v d → DqAll K H vs ds → DqAll K H (v :: vs) (d :: ds)
end
theorem Dq.listI {K : PySem.W.Frag} {H : Hp} {v : V} {ds : List PyData} (h : Dq K H v (.list ds)) : ∃ a xs, v = .ref a ∧ H a = some (.lst xs) ∧ DqAll K H xs ds := by
  cases h with
  | lst h1 h2 => exact ⟨_, _, rfl, h1, h2⟩
theorem Dq.tupI {K : PySem.W.Frag} {H : Hp} {v : V} {ds : List PyData} (h : Dq K H v (.tuple ds)) : ∃ a xs, v = .ref a ∧ Rd H a (.tup xs) ∧ DqAll K H xs ds := by
  cases h with
  | tup h1 h2 => exact ⟨_, _, rfl, h1, h2⟩
theorem ints_inj : ∀ {ns ms : List Int}, ns.map PyData.int = ms.map PyData.int → ns = ms
  | [], [], _ => rfl
  | [], _ :: _, h => by simp at h
  | _ :: _, [], h => by simp at h
  | n :: ns, m :: ms, h => by
    simp only [List.map_cons, List.cons.injEq, PyData.int.injEq] at h
    rw [h.1, ints_inj h.2]
theorem Dq.scrI {K : PySem.W.Frag} {H : Hp} {v : V} {ns : List Int} (h : Dq K H v (scrD ns)) : ∃ a, v = .ref a ∧ SqL K H a (ns.map V.int) := by
  generalize e : scrD ns = d at h
  cases h with
  | scr h1 =>
    rename_i a ms
    have : ns = ms := ints_inj (by simpa [scrD] using e)
    subst this
    exact ⟨_, rfl, h1⟩
  | adr a => simp [scrD, adrD] at e
  | exc h1 => simp [scrD, excD] at e
  | dct h1 h2 => exact (dctD_ne e).elim
  | ty n => simp [scrD, tyD] at e
  | ftp h1 h2 h3 => simp [scrD, ftD] at e
  | ptp h1 h2 => simp [scrD, ptD] at e
  | _ => simp [scrD] at e
theorem Dq.adrI {K : PySem.W.Frag} {H : Hp} {v : V} {a : Addr} (h : Dq K H v (adrD a)) : v = .ref a := by
  generalize e : adrD a = d at h
  cases h with
  | adr b =>
    have : a = b := by
      have h1 : ((a : Nat) : Int) = ((b : Nat) : Int) := by simpa [adrD] using e
      exact Int.ofNat.inj h1
    rw [this]
  | scr h1 => simp [scrD, adrD] at e
  | exc h1 => simp [adrD, excD] at e
  | dct h1 h2 => exact (dctD_ne e).elim
  | ty n => simp [adrD, tyD] at e
  | ftp h1 h2 h3 => simp [adrD, ftD] at e
  | ptp h1 h2 => simp [adrD, ptD] at e
  | _ => simp [adrD] at e
mutual
theorem dp_same {K : PySem.W.Frag} {F F' : Hp} (s : Same F F') : ∀ {d : PyData} {v : V}, Dq K F v d → Dq K F' v d
  | _, _, .non => .non
  | _, _, .bl b => .bl b
  | _, _, .int i => .int i
  | _, _, .str x => .str x
  | _, _, .lst h1 h2 => .lst (s _ _ h1) (dpall_same s h2)
  | _, _, .tup h1 h2 => .tup (rd_same s h1) (dpall_same s h2)
  | _, _, .ftp h1 h2 h3 => .ftp (s _ _ h1) h2 (dpall_same s h3)
  | _, _, .ptp h1 h2 => .ptp (s _ _ h1) (dpall_same s h2)
  | _, _, .scr h1 => .scr (sql_same s h1)
  | _, _, .exc h1 => .exc (s _ _ h1)
  | _, _, .dct h1 h2 => .dct (s _ _ h1) (dpall_same s h2)
  | _, _, .adr a => .adr a
  | _, _, .ty n => .ty n
theorem dpall_same {K : PySem.W.Frag} {F F' : Hp} (s : Same F F') : ∀ {ds : List PyData} {vs : List V}, DqAll K F vs ds → DqAll K F' vs ds
  | _, _, .nil => .nil
  | _, _, .cons h1 h2 => .cons (dp_same s h1) (dpall_same s h2)
end
theorem sqt_cut {K : PySem.W.Frag} {A : List Addr} {H : Hp} {a : Addr} {xs : List V} (h : Rd (cut A H) a (.tup xs)) : SqT K H a xs := .inl (rd_same same_cut h)
theorem rd_uniq {F : Hp} {a : Addr} {xs ys : List V} (h : Rd F a (.tup xs)) (k : Rd F a (.tup ys)) : xs = ys := by
  rcases h with h | ⟨o, h⟩ <;> rcases k with k | ⟨o', k⟩ <;> rw [h] at k <;> cases k <;> rfl
theorem DqAll.length {K : PySem.W.Frag} {F : Hp} : ∀ {vs : List V} {ds : List PyData}, DqAll K F vs ds → vs.length = ds.length
  | _, _, .nil => rfl
  | _, _, .cons _ t => by simp [DqAll.length t]
theorem DqAll.get {K : PySem.W.Frag} {F : Hp} : ∀ {vs : List V} {ds : List PyData} {i : Nat} {d : PyData}, DqAll K F vs ds → ds[i]? = some d → ∃ v, vs[i]? = some v ∧ Dq K F v d
  | _, _, _, _, .nil, h => by simp at h
  | _, _, 0, _, .cons h _, e => by simp at e; subst e; exact ⟨_, rfl, h⟩
  | _, _, i + 1, d, .cons _ t, e => by
    obtain ⟨v, h1, h2⟩ := DqAll.get (i := i) (d := d) t (by simpa using e)
    exact ⟨v, by simpa using h1, h2⟩
theorem DqAll.getV {K : PySem.W.Frag} {F : Hp} : ∀ {vs : List V} {ds : List PyData} {i : Nat} {v : V}, DqAll K F vs ds → vs[i]? = some v → ∃ d, ds[i]? = some d ∧ Dq K F v d
  | _, _, _, _, .nil, h => by simp at h
  | _, _, 0, _, .cons h _, e => by simp at e; subst e; exact ⟨_, rfl, h⟩
  | _, _, i + 1, d, .cons _ t, e => by
    obtain ⟨v, h1, h2⟩ := DqAll.getV (i := i) (v := d) t (by simpa using e)
    exact ⟨v, by simpa using h1, h2⟩
theorem DqAll.append {K : PySem.W.Frag} {F : Hp} : ∀ {vs us : List V} {ds es : List PyData}, DqAll K F vs ds → DqAll K F us es → DqAll K F (vs ++ us) (ds ++ es)
  | _, _, _, _, .nil, h => h
  | _, _, _, _, .cons h t, h' => .cons h (DqAll.append t h')
theorem DqAll.drop {K : PySem.W.Frag} {F : Hp} : ∀ (n : Nat) {vs : List V} {ds : List PyData}, DqAll K F vs ds → DqAll K F (vs.drop n) (ds.drop n)
  | 0, _, _, h => h
  | _ + 1, _, _, .nil => .nil
  | n + 1, _, _, .cons _ t => DqAll.drop n t
theorem DqAll.take {K : PySem.W.Frag} {F : Hp} : ∀ (n : Nat) {vs : List V} {ds : List PyData}, DqAll K F vs ds → DqAll K F (vs.take n) (ds.take n)
  | 0, _, _, _ => .nil
  | _ + 1, _, _, .nil => .nil
  | n + 1, _, _, .cons h t => .cons h (DqAll.take n t)
theorem DqAll.ints {K : PySem.W.Frag} {F : Hp} : ∀ {vs : List V} {ns : List Int}, DqAll K F vs (ns.map PyData.int) → vs = ns.map V.int
  | _, [], h => by cases h; rfl
  | _, n :: ns, h => by
    cases h with
    | cons h1 h2 => cases h1; rw [DqAll.ints h2]; rfl
theorem DqAll.ofInts {K : PySem.W.Frag} {F : Hp} : ∀ (ns : List Int), DqAll K F (ns.map V.int) (ns.map PyData.int)
  | [] => .nil
  | n :: ns => .cons (.int n) (DqAll.ofInts ns)
theorem DqAll.bools {K : PySem.W.Frag} {F : Hp} : ∀ {vs : List V} {ns : List Bool}, DqAll K F vs (ns.map PyData.bool) → vs = ns.map V.bl
  | _, [], h => by cases h; rfl
  | _, n :: ns, h => by
    cases h with
    | cons h1 h2 => cases h1; rw [DqAll.bools h2]; rfl
theorem DqAll.strs {K : PySem.W.Frag} {F : Hp} : ∀ {vs : List V} {ns : List Str}, DqAll K F vs (ns.map PyData.str) → vs = ns.map V.str
  | _, [], h => by cases h; rfl
  | _, n :: ns, h => by
    cases h with
    | cons h1 h2 => cases h1; rw [DqAll.strs h2]; rfl

/-! ### the slots -/
abbrev Rho := List (Option PyData)
def SlotR (K : PySem.W.Frag) (F : Hp) : Option V → Option PyData → Prop
  | some v, some d => Dq K F v d
  | none, some _ => False
  | _, none => True
inductive EnvD (K : PySem.W.Frag) (F : Hp) : St → Rho → Prop
  | nil : EnvD K F [] []
  | cons {o : Option V} {r : Option PyData} {σ : St} {ρ : Rho} : SlotR K F o r → EnvD K F σ ρ → EnvD K F (o :: σ) (r :: ρ)
section
variable {K : PySem.W.Frag} {F F' : Hp}
theorem SlotR.same (s : Same F F') : ∀ {o : Option V} {r : Option PyData}, SlotR K F o r → SlotR K F' o r
  | some _, some _, h => dp_same s h
  | none, some _, h => h
  | some _, none, _ => trivial
  | none, none, _ => trivial
theorem EnvD.same (s : Same F F') : ∀ {σ : St} {ρ : Rho}, EnvD K F σ ρ → EnvD K F' σ ρ
  | _, _, .nil => .nil
  | _, _, .cons h t => .cons (h.same s) (t.same s)
theorem EnvD.get : ∀ {σ : St} {ρ : Rho} {i : Nat} {d : PyData}, EnvD K F σ ρ → ρ[i]? = some (some d) → ∃ v, σ[i]? = some (some v) ∧ Dq K F v d
  | _, _, _, _, .nil, h => by simp at h
  | o :: _, _, 0, d, .cons h _, e => by
    simp at e; subst e
    cases o with
    | none => exact h.elim
    | some v => exact ⟨v, rfl, h⟩
  | _, _, i + 1, d, .cons _ t, e => by
    obtain ⟨v, h1, h2⟩ := EnvD.get (i := i) (d := d) t (by simpa using e)
    exact ⟨v, by simpa using h1, h2⟩
theorem EnvD.set {v : V} {d : PyData} (h : Dq K F v d) : ∀ (i : Nat) {σ : St} {ρ : Rho}, EnvD K F σ ρ → EnvD K F (σ.set i (some v)) (ρ.set i (some d))
  | _, _, _, .nil => .nil
  | 0, _, _, .cons _ t => .cons h t
  | i + 1, _, _, .cons q t => .cons q (EnvD.set h i t)
theorem EnvD.forget (o : Option V) : ∀ (i : Nat) {σ : St} {ρ : Rho}, EnvD K F σ ρ → EnvD K F (σ.set i o) (ρ.set i none)
  | _, _, _, .nil => .nil
  | 0, _, _, .cons _ t => .cons (by cases o <;> trivial) t
  | i + 1, _, _, .cons q t => .cons q (EnvD.forget o i t)
theorem EnvD.keep (i : Nat) {σ : St} {ρ : Rho} (h : EnvD K F σ ρ) : EnvD K F σ (ρ.set i none) := by
  induction h generalizing i with
  | nil => exact .nil
  | cons q t ih =>
    rename_i o r σ ρ
    cases i with
    | zero => exact .cons (by cases o <;> trivial) t
    | succ i => exact .cons q (ih i)
end
def wipeD (ρ : Rho) : List Nat → Rho
  | [] => ρ
  | v :: vs => (wipeD ρ vs).set v none
theorem EnvD.wipe {K : PySem.W.Frag} {F : Hp} {σ : St} {ρ : Rho} (h : EnvD K F σ ρ) : ∀ vs : List Nat, EnvD K F (L2.wipe σ vs) (wipeD ρ vs)
  | [] => h
  | v :: vs => EnvD.forget none v (h.wipe vs)
theorem wipe_set (σ : St) (x : Option V) : ∀ (vs : List Nat) (j : Nat), j ∈ vs → wipe (σ.set j x) vs = wipe σ vs
  | [], j, h => by simp at h
  | v :: vs, j, h => by
    show (wipe (σ.set j x) vs).set v none = (wipe σ vs).set v none
    by_cases hj : j ∈ vs
    · rw [wipe_set σ x vs j hj]
    · have hv : j = v := by simpa [hj] using h
      subst hv
      have aux : ∀ (ws : List Nat), j ∉ ws → wipe (σ.set j x) ws = (wipe σ ws).set j x := by
        intro ws
        induction ws with
        | nil => intro _; rfl
        | cons w ws ih =>
          intro hw
          have h1 : j ≠ w := fun e => hw (by simp [e])
          have h2 : j ∉ ws := fun e => hw (by simp [e])
          show (wipe (σ.set j x) ws).set w none = ((wipe σ ws).set w none).set j x
          rw [ih h2, List.set_comm _ _ h1]
      rw [aux vs hj, List.set_set]
theorem wipe_wipe (σ : St) : ∀ (vs : List Nat), wipe (wipe σ vs) vs = wipe σ vs := by
  have key : ∀ (ws vs : List Nat) (τ : St), (∀ w ∈ ws, w ∈ vs) → wipe (wipe τ ws) vs = wipe τ vs := by
    intro ws
    induction ws with
    | nil => intro vs τ _; rfl
    | cons w ws ih =>
      intro vs τ h
      show wipe ((wipe τ ws).set w none) vs = wipe τ vs
      rw [wipe_set _ _ vs w (h w (by simp)), ih vs τ (fun x hx => h x (by simp [hx]))]
  intro vs
  exact key vs vs σ (fun _ h => h)
theorem wipe_back (σ : St) (x : Option V) (vs : List Nat) (j : Nat) (h : j ∈ vs) : wipe ((wipe σ vs).set j x) vs = wipe σ vs := by
  rw [wipe_set _ _ _ _ h, wipe_wipe]

/-! ### what evaluates to what -/
def EvD (K : PySem.W.Frag) (te : TE) (ρ : Rho) (d : PyData) : Prop :=
  ∀ A σ H, Live A H → EnvD K (cut A H) σ ρ → ∀ Q : VK, (∀ v H', Same H H' → Dq K (cut A H') v d → Q v H') → te σ H Q
def EvT (K : PySem.W.Frag) (tt : TT) (ρ : Rho) (b : Bool) : Prop :=
  ∀ A σ H, Live A H → EnvD K (cut A H) σ ρ → ∀ Q : Bool → Hp → Prop, (∀ H', Same H H' → Q b H') → tt σ H Q
def EvA (K : PySem.W.Frag) (ta : TA) (ρ : Rho) (ds : List PyData) : Prop :=
  ∀ A σ H, Live A H → EnvD K (cut A H) σ ρ → ∀ Q : List V → Hp → Prop, (∀ vs H', Same H H' → DqAll K (cut A H') vs ds → Q vs H') → ta σ H Q
/-- operations on values -/
def OpD (K : PySem.W.Frag) (r : R2) (d e f : PyData) : Prop :=
  ∀ A x y H, Live A H → Dq K (cut A H) x d → Dq K (cut A H) y e → ∀ Q : VK, (∀ v H', Same H H' → Dq K (cut A H') v f → Q v H') → r x y H Q
def UnD (K : PySem.W.Frag) (r : V → Hp → VK → Prop) (d f : PyData) : Prop :=
  ∀ A x H, Live A H → Dq K (cut A H) x d → ∀ Q : VK, (∀ v H', Same H H' → Dq K (cut A H') v f → Q v H') → r x H Q
def CaD (K : PySem.W.Frag) (r : List V → Hp → VK → Prop) (ds : List PyData) (f : PyData) : Prop :=
  ∀ A xs H, Live A H → DqAll K (cut A H) xs ds → ∀ Q : VK, (∀ v H', Same H H' → Dq K (cut A H') v f → Q v H') → r xs H Q
section
variable {K : PySem.W.Frag} {ρ : Rho} {ta tb tc te : TE} {t u : TT} {d e f : PyData} {b : Bool}
theorem ev_var {i : Nat} (h : ρ[i]? = some (some d)) : EvD K (tVar i) ρ d := fun A σ H _ hE Q q => by
  obtain ⟨v, h1, h2⟩ := hE.get h
  exact ⟨v, h1, q v H (Same.refl H) h2⟩
theorem ev_c {v : V} (h : ∀ F, Dq K F v d) : EvD K (tC v) ρ d := fun A σ H _ hE Q q => q v H (Same.refl H) (h _)
theorem ev_int {i : Int} : EvD K (tC (.int i)) ρ (.int i) := ev_c fun _ => .int i
theorem ev_bl {i : Bool} : EvD K (tC (.bl i)) ρ (.bool i) := ev_c fun _ => .bl i
theorem ev_str {i : Str} : EvD K (tC (.str i)) ρ (.str i) := ev_c fun _ => .str i
theorem ev_non : EvD K (tC .non) ρ .none := ev_c fun _ => .non
theorem ev_op {r : R2} (ha : EvD K ta ρ d) (hb : EvD K tb ρ e) (hr : OpD K r d e f) : EvD K (tOp r ta tb) ρ f := fun A σ H l hE Q q =>
  ha A σ H l hE _ fun x H1 s1 hx => hb A σ H1 (l.same s1) (hE.same (cut_same s1)) _ fun y H2 s2 hy =>
    hr A x y H2 ((l.same s1).same s2) (dp_same (cut_same s2) hx) hy Q fun v H3 s3 hv => q v H3 ((s1.trans s2).trans s3) hv
theorem ev_un {r : V → Hp → VK → Prop} (ha : EvD K ta ρ d) (hr : UnD K r d f) : EvD K (tUn r ta) ρ f := fun A σ H l hE Q q =>
  ha A σ H l hE _ fun x H1 s1 hx => hr A x H1 (l.same s1) hx Q fun v H3 s3 hv => q v H3 (s1.trans s3) hv
theorem ea_nil : EvA K tNil ρ [] := fun A σ H l hE Q q => q [] H (Same.refl H) .nil
theorem ea_cons {tr : TA} {ds : List PyData} (ha : EvD K ta ρ d) (hr : EvA K tr ρ ds) : EvA K (tCons ta tr) ρ (d :: ds) := fun A σ H l hE Q q =>
  ha A σ H l hE _ fun x H1 s1 hx => hr A σ H1 (l.same s1) (hE.same (cut_same s1)) _ fun xs H2 s2 hxs => q _ H2 (s1.trans s2) (.cons (dp_same (cut_same s2) hx) hxs)
theorem ev_cb {r : List V → Hp → VK → Prop} {tr : TA} {ds : List PyData} (ha : EvA K tr ρ ds) (hr : CaD K r ds f) : EvD K (tCB r tr) ρ f := fun A σ H l hE Q q =>
  ha A σ H l hE _ fun xs H1 s1 hx => hr A xs H1 (l.same s1) hx Q fun v H3 s3 hv => q v H3 (s1.trans s3) hv
theorem ev_tup {tr : TA} {ds : List PyData} (ha : EvA K tr ρ ds) (hz : ds.length ≤ 100000) : EvD K (tTup tr) ρ (.tuple ds) := fun A σ H l hE Q q =>
  ha A σ H l hE _ fun xs H1 s1 hx => ⟨Nat.le_trans (by rw [hx.length]; exact hz) (by decide), fun p hp =>
    q _ _ (s1.trans (same_new hp)) (.tup (.inl (cut_new (l.same s1) hp)) (dpall_same (cut_same (same_new hp)) hx))⟩
theorem ev_lst {tr : TA} {ds : List PyData} (ha : EvA K tr ρ ds) (hz : ds.length ≤ 100000) : EvD K (tLst tr) ρ (.list ds) := fun A σ H l hE Q q =>
  ha A σ H l hE _ fun xs H1 s1 hx => ⟨Nat.le_trans (by rw [hx.length]; exact hz) (by decide), fun p hp =>
    q _ _ (s1.trans (same_new hp)) (.lst (cut_new (l.same s1) hp) (dpall_same (cut_same (same_new hp)) hx))⟩
theorem ev_to {d' : PyData} (h : EvD K te ρ d) (e : d = d') : EvD K te ρ d' := e ▸ h
theorem et_to {b' : Bool} (h : EvT K t ρ b) (e : b = b') : EvT K t ρ b' := e ▸ h
/-! tests -/
theorem et_B (h : EvD K te ρ (.bool b)) : EvT K (tB te) ρ b := fun A σ H l hE Q q => h A σ H l hE _ fun v H' s hv => by
  cases hv; exact ⟨b, rfl, q H' s⟩
theorem et_test (h : EvD K te ρ (.bool b)) : EvT K (tTest te) ρ b := fun A σ H l hE Q q => h A σ H l hE _ fun v H' s hv => by
  cases hv; exact ⟨b, rfl, q H' s⟩
theorem et_not (h : EvT K t ρ b) : EvT K (tNot t) ρ (!b) := fun A σ H l hE Q q => h A σ H l hE _ fun H' s => q H' s
theorem et_and {c : Bool} (h1 : EvT K t ρ b) (h2 : b = true → EvT K u ρ c) : EvT K (tAnd t u) ρ (b && c) := fun A σ H l hE Q q => h1 A σ H l hE _ fun H1 s1 => by
  cases b with
  | true =>
    show (if true = true then u σ H1 Q else Q false H1)
    rw [if_pos rfl]
    exact h2 rfl A σ H1 (l.same s1) (hE.same (cut_same s1)) Q fun H2 s2 => q H2 (s1.trans s2)
  | false => exact iteF (q H1 s1)
theorem et_or {c : Bool} (h1 : EvT K t ρ b) (h2 : b = false → EvT K u ρ c) : EvT K (tOr t u) ρ (b || c) := fun A σ H l hE Q q => h1 A σ H l hE _ fun H1 s1 => by
  cases b with
  | false =>
    show (if false = true then Q true H1 else u σ H1 Q)
    rw [if_neg Bool.false_ne_true]
    exact h2 rfl A σ H1 (l.same s1) (hE.same (cut_same s1)) Q fun H2 s2 => q H2 (s1.trans s2)
  | true => exact iteT (q H1 s1)
theorem ev_if (h : EvT K t ρ b) (h1 : b = true → EvD K ta ρ d) (h2 : b = false → EvD K tb ρ d) : EvD K (tIf t ta tb) ρ d := fun A σ H l hE Q q => h A σ H l hE _ fun H1 s1 => by
  cases b with
  | true => exact iteT (h1 rfl A σ H1 (l.same s1) (hE.same (cut_same s1)) Q fun v H2 s2 => q v H2 (s1.trans s2))
  | false => exact iteF (h2 rfl A σ H1 (l.same s1) (hE.same (cut_same s1)) Q fun v H2 s2 => q v H2 (s1.trans s2))
theorem ev_and {c : Bool} (h1 : EvD K ta ρ (.bool b)) (h2 : b = true → EvD K tb ρ (.bool c)) : EvD K (tAndV ta tb) ρ (.bool (b && c)) := fun A σ H l hE Q q => h1 A σ H l hE _ fun v H1 s1 hv => by
  cases hv
  refine ⟨b, rfl, ?_⟩
  cases b with
  | true => exact iteT (h2 rfl A σ H1 (l.same s1) (hE.same (cut_same s1)) Q fun v H2 s2 => q v H2 (s1.trans s2))
  | false => exact iteF (q _ H1 s1 (.bl _))
theorem ev_or {c : Bool} (h1 : EvD K ta ρ (.bool b)) (h2 : b = false → EvD K tb ρ (.bool c)) : EvD K (tOrV ta tb) ρ (.bool (b || c)) := fun A σ H l hE Q q => h1 A σ H l hE _ fun v H1 s1 hv => by
  cases hv
  refine ⟨b, rfl, ?_⟩
  cases b with
  | true => exact iteT (q _ H1 s1 (.bl _))
  | false => exact iteF (h2 rfl A σ H1 (l.same s1) (hE.same (cut_same s1)) Q fun v H2 s2 => q v H2 (s1.trans s2))
theorem ev_not (h1 : EvD K ta ρ (.bool b)) : EvD K (tNotV ta) ρ (.bool (!b)) := fun A σ H l hE Q q => h1 A σ H l hE _ fun v H1 s1 hv => by
  cases hv
  exact ⟨b, rfl, q _ H1 s1 (.bl _)⟩
theorem ev_chain {r r' : R2} {c : Bool} (ha : EvD K ta ρ d) (hb : EvD K tb ρ e) (hr : OpD K r d e (.bool b)) (hc : b = true → EvD K tc ρ f) (hr' : b = true → OpD K r' e f (.bool c)) :
    EvD K (tChain r r' ta tb tc) ρ (.bool (b && c)) := fun A σ H l hE Q q =>
  ha A σ H l hE _ fun x H1 s1 hx => hb A σ H1 (l.same s1) (hE.same (cut_same s1)) _ fun y H2 s2 hy =>
    hr A x y H2 ((l.same s1).same s2) (dp_same (cut_same s2) hx) hy _ fun v H3 s3 hv => by
      cases hv
      refine ⟨b, rfl, ?_⟩
      have s13 := (s1.trans s2).trans s3
      cases b with
      | true =>
        refine iteT (hc rfl A σ H3 (l.same s13) (hE.same (cut_same s13)) _ fun z H4 s4 hz => ?_)
        exact hr' rfl A y z H4 ((l.same s13).same s4) (dp_same (cut_same (s3.trans s4)) hy) hz Q fun w H5 s5 hw => q w H5 ((s13.trans s4).trans s5) hw
      | false => exact iteF (q _ H3 s13 (.bl _))
end
end Lc

set_option Elab.async false
set_option linter.all false
set_option maxRecDepth 100000
set_option maxHeartbeats 4000000
namespace Lc
open PySem L2

/-! ### what is kept outside of A -/
def Keep (A : List Addr) (H H' : Hp) : Prop := ∀ a o, a ∉ A → H a = some o → H' a = some o
theorem Keep.refl {A : List Addr} {H : Hp} : Keep A H H := fun _ _ _ h => h
theorem Keep.of {A : List Addr} {H H' : Hp} (s : Same H H') : Keep A H H' := fun a o _ h => s a o h
theorem Keep.trans {A : List Addr} {H H1 H2 : Hp} (a : Keep A H H1) (b : Keep A H1 H2) : Keep A H H2 := fun x o hx h => b x o hx (a x o hx h)
theorem Keep.cut {A : List Addr} {H H' : Hp} (g : Keep A H H') : Same (cut A H) (cut A H') := fun a o e => by
  obtain ⟨h1, h2⟩ := cut_some e
  rw [cut_out h1]; exact g a o h1 h2
theorem Keep.mono {A B : List Addr} {H H' : Hp} (g : Keep A H H') (h : ∀ a ∈ A, a ∈ B) : Keep B H H' := fun a o ha e => g a o (fun z => ha (h a z)) e
/-- B does not touch what A's side sees in H -/
def Off (A : List Addr) (H : Hp) (B : List Addr) : Prop := ∀ a o, cut A H a = some o → a ∉ B
theorem Off.refl {A : List Addr} {H : Hp} : Off A H A := fun a o e => (cut_some e).1
theorem Off.cut {A B : List Addr} {H H' : Hp} (o : Off A H B) (k : Keep A H H') : Same (cut A H) (cut B H') := fun a u e => by
  rw [cut_out (o a u e)]
  exact k a u (cut_some e).1 (cut_some e).2
theorem off_new {A : List Addr} {H : Hp} {D : Addr} (h : H D = none) : Off A H (D :: A) := fun a o e hm => by
  obtain ⟨h1, h2⟩ := cut_some e
  rcases List.mem_cons.mp hm with z | z
  · rw [z, h] at h2; cases h2
  · exact h1 z

/-! ### what is walked -/
structure ItOk (K : PySem.W.Frag) (A : List Addr) (J : It) (ds : List PyData) (H1 : Hp) : Prop where
  goes : ∀ i H, i < ds.length → Keep A H1 H → J.go i H
  stops : ∀ H, Keep A H1 H → J.stop ds.length H
  yields : ∀ i H x H' B, i < ds.length → Keep A H1 H → Live B H → Off A H1 B → J.yld i H x H' → Same H H' ∧ ∃ d, ds[i]? = some d ∧ Dq K (cut B H') x d
def ItD (K : PySem.W.Frag) (wi : TI) (ρ : Rho) (ds : List PyData) : Prop :=
  ∀ A σ H, Live A H → EnvD K (cut A H) σ ρ → ∀ R : It → Hp → Prop, (∀ J H1, Same H H1 → ItOk K A J ds H1 → R J H1) → wi σ H R
def rngD (lo : Int) (n : Nat) : List PyData := (List.range n).map fun (i : Nat) => PyData.int (lo + (i : Int))
theorem rngD_len {lo : Int} {n : Nat} : (rngD lo n).length = n := by simp [rngD]
theorem rngD_at {lo : Int} {n i : Nat} (h : i < n) : (rngD lo n)[i]? = some (.int (lo + (i : Int))) := by simp [rngD, h]
def zipD (xs ys : List PyData) : List PyData := (xs.zip ys).map fun p => .tuple [p.1, p.2]
theorem zipD_at {xs ys : List PyData} {i : Nat} {d e : PyData} (h1 : xs[i]? = some d) (h2 : ys[i]? = some e) : (zipD xs ys)[i]? = some (.tuple [d, e]) := by
  unfold zipD
  rw [List.getElem?_map, List.getElem?_zip_eq_some.mpr (show xs[i]? = some (d, e).1 ∧ ys[i]? = some (d, e).2 from ⟨h1, h2⟩)] <;> rfl
def enumD (xs : List PyData) : List PyData := zipD (rngD 0 xs.length) xs
section
variable {K : PySem.W.Frag} {A : List Addr} {ρ : Rho} {ta tb tc te : TE} {t u : TT} {d e f : PyData} {b : Bool}
theorem itok_list {a : Addr} {xs : List V} {ds : List PyData} {H1 : Hp} (h1 : cut A H1 a = some (.lst xs)) (h2 : DqAll K (cut A H1) xs ds) : ItOk K A (Itl K a) ds H1 where
  goes := fun i H hi k => walk_list.goes i H (by rw [h2.length]; exact hi) (sql_same (k.cut.trans same_cut) (SqL.of h1))
  stops := fun H k => by rw [← h2.length]; exact walk_list.stops H (sql_same (k.cut.trans same_cut) (SqL.of h1))
  yields := fun i H x H' B hi k l o y => by
    obtain ⟨e, h⟩ := walk_list.yields i H x H' (by rw [h2.length]; exact hi) (sql_same (k.cut.trans same_cut) (SqL.of h1)) y
    subst e
    obtain ⟨d, q1, q2⟩ := h2.getV h
    exact ⟨Same.refl _, d, q1, dp_same (o.cut k) q2⟩
theorem itok_tup {a : Addr} {xs : List V} {ds : List PyData} {H1 : Hp} (h1 : Rd (cut A H1) a (.tup xs)) (h2 : DqAll K (cut A H1) xs ds) : ItOk K A (Itt K a) ds H1 where
  goes := fun i H hi k => walk_tup.goes i H (by rw [h2.length]; exact hi) (sqt_same (k.cut.trans same_cut) (.inl h1))
  stops := fun H k => by rw [← h2.length]; exact walk_tup.stops H (sqt_same (k.cut.trans same_cut) (.inl h1))
  yields := fun i H x H' B hi k l o y => by
    obtain ⟨e, h⟩ := walk_tup.yields i H x H' (by rw [h2.length]; exact hi) (sqt_same (k.cut.trans same_cut) (.inl h1)) y
    subst e
    obtain ⟨d, q1, q2⟩ := h2.getV h
    exact ⟨Same.refl _, d, q1, dp_same (o.cut k) q2⟩
theorem itok_rng {lo : Int} {n : Nat} {H1 : Hp} : ItOk K A (Itr lo n) (rngD lo n) H1 where
  goes := fun i H hi _ => walk_range.goes i H (by rw [rngD_len] at hi; exact hi) trivial
  stops := fun H _ => by rw [rngD_len]; exact walk_range.stops H trivial
  yields := fun i H x H' B hi _ l _ y => by
    have h : i < n := by rw [rngD_len] at hi; exact hi
    obtain ⟨e, h2⟩ := walk_range.yields i H x H' h trivial y
    subst e
    refine ⟨Same.refl _, .int (lo + (i : Int)), rngD_at h, ?_⟩
    rw [h2]; exact .int _
/-- a new pair each -/
theorem itok_pair {J : It} {n : Nat} {G : Hp → Prop} {fx fy : Nat → Option V} {ds : List PyData} {H1 : Hp} (w : Walk J n G (YPair fx fy)) (hn : n = ds.length) (hG : ∀ H, Keep A H1 H → G H)
    (hx : ∀ i x y, i < n → fx i = some x → fy i = some y → ∃ d e, ds[i]? = some (.tuple [d, e]) ∧ Dq K (cut A H1) x d ∧ Dq K (cut A H1) y e) : ItOk K A J ds H1 where
  goes := fun i H hi k => w.goes i H (by omega) (hG H k)
  stops := fun H k => by rw [← hn]; exact w.stops H (hG H k)
  yields := fun i H x H' B hi k l o y => by
    obtain ⟨T, p, q, rfl, hT, rfl, h1, h2⟩ := w.yields i H x H' (by omega) (hG H k) y
    obtain ⟨d, e, k1, k2, k3⟩ := hx i p q (by omega) h1 h2
    have s : Same (cut A H1) (cut B (upd H T (.tup [p, q]))) := (o.cut k).trans (cut_same (same_new hT))
    exact ⟨same_new hT, _, k1, .tup (.inl (cut_new l hT)) (.cons (dp_same s k2) (.cons (dp_same s k3) .nil))⟩
/-- a list or a tuple walked -/
def iSeq (K : PySem.W.Frag) (te : TE) : TI := fun σ H R => iList K te σ H R ∨ iTup K te σ H R
theorem pi_seq {X : Cx} {tg l : Expr} {tl : TE} (hl : PE X l tl) : PI X tg l (iSeq X.K tl) := ⟨fun pins s σ H R I h => by
  rcases h with h | h
  · exact (pi_list hl).run pins s σ H R I h
  · exact (pi_tup hl).run pins s σ H R I h⟩
theorem it_seqL {ds : List PyData} (h : EvD K te ρ (.list ds)) : ItD K (iSeq K te) ρ ds := fun A σ H l hE R q => .inl (h A σ H l hE _ fun v H1 s1 hv => by
  cases hv with
  | lst h1 h2 => exact ⟨_, rfl, ⟨_, sql_same same_cut (SqL.of h1)⟩, q _ H1 s1 (itok_list h1 h2)⟩)
theorem it_seqT {ds : List PyData} (h : EvD K te ρ (.tuple ds)) : ItD K (iSeq K te) ρ ds := fun A σ H l hE R q => .inr (h A σ H l hE _ fun v H1 s1 hv => by
  cases hv with
  | tup h1 h2 => exact ⟨_, rfl, ⟨_, sqt_same same_cut (.inl h1)⟩, q _ H1 s1 (itok_tup h1 h2)⟩)
theorem it_rng1 {n : Int} (h : EvD K te ρ (.int n)) (hn : -(2 ^ 62) ≤ n ∧ n < 2 ^ 62) : ItD K (iRng1 (tCons te tNil)) ρ (rngD 0 n.toNat) := fun A σ H l hE R q =>
  ea_cons h ea_nil A σ H l hE _ fun vs H1 s1 hv => by
    cases hv with
    | cons h1 h2 =>
      cases h1; cases h2
      exact ⟨n, rfl, hn.1, hn.2, q _ H1 s1 itok_rng⟩
theorem it_rng2 {m n : Int} (h : EvD K ta ρ (.int m)) (h' : EvD K tb ρ (.int n)) (hm : -(2 ^ 62) ≤ m ∧ m < 2 ^ 62) (hn : -(2 ^ 62) ≤ n ∧ n < 2 ^ 62) : ItD K (iRng2 (tCons ta (tCons tb tNil))) ρ (rngD m (n - m).toNat) := fun A σ H l hE R q =>
  ea_cons h (ea_cons h' ea_nil) A σ H l hE _ fun vs H1 s1 hv => by
    cases hv with
    | cons h1 h2 =>
      cases h1
      cases h2 with
      | cons h3 h4 =>
        cases h3; cases h4
        exact ⟨m, n, rfl, ⟨hm.1, hm.2, hn.1, hn.2⟩, q _ H1 s1 itok_rng⟩
theorem it_zip {xs ys : List PyData} (h : EvD K ta ρ (.list xs)) (h' : EvD K tb ρ (.list ys)) : ItD K (iZip K (tCons ta (tCons tb tNil))) ρ (zipD xs ys) := fun A σ H l hE R q =>
  ea_cons h (ea_cons h' ea_nil) A σ H l hE _ fun vs H1 s1 hv => by
    cases hv with
    | cons h1 h2 =>
      cases h2 with
      | cons h3 h4 =>
        cases h4
        cases h1 with
        | lst a1 a2 =>
          cases h3 with
          | lst b1 b2 =>
            refine ⟨_, _, _, _, rfl, sql_same same_cut (SqL.of a1), sql_same same_cut (SqL.of b1), q _ H1 s1 (itok_pair (walk_zip rfl) (by rw [a2.length, b2.length]; simp [zipD])
              (fun H k => ⟨sql_same (k.cut.trans same_cut) (SqL.of a1), sql_same (k.cut.trans same_cut) (SqL.of b1)⟩) (fun i x y hi e1 e2 => ?_))⟩
            obtain ⟨d, k1, k2⟩ := a2.getV e1
            obtain ⟨e, k3, k4⟩ := b2.getV e2
            exact ⟨d, e, zipD_at k1 k3, k2, k4⟩
theorem it_enum {xs : List PyData} (h : EvD K ta ρ (.list xs)) : ItD K (iEnum K (tCons ta tNil)) ρ (enumD xs) := fun A σ H l hE R q =>
  ea_cons h ea_nil A σ H l hE _ fun vs H1 s1 hv => by
    cases hv with
    | cons h1 h4 =>
      cases h4
      cases h1 with
      | lst a1 a2 =>
        refine ⟨_, _, rfl, sql_same same_cut (SqL.of a1), q _ H1 s1 (itok_pair walk_enum (by rw [a2.length]; simp [enumD, zipD, rngD])
          (fun H k => sql_same (k.cut.trans same_cut) (SqL.of a1)) (fun i x y hi e1 e2 => ?_))⟩
        obtain ⟨d, k1, k2⟩ := a2.getV e2
        cases e1
        refine ⟨.int ((i : Nat) : Int), d, ?_, .int _, k2⟩
        have h0 : i < xs.length := by rw [← a2.length]; exact hi
        have h1 : (rngD 0 xs.length)[i]? = some (.int ((i : Nat) : Int)) := by rw [rngD_at h0, Int.zero_add]
        exact zipD_at h1 k1

/-! ### targets -/
def TgD (K : PySem.W.Frag) (g : TG) (d : PyData) (ρ ρ' : Rho) (vs : List Nat) : Prop :=
  ∀ A σ H v, Live A H → EnvD K (cut A H) σ ρ → Dq K (cut A H) v d → ∀ Q : St → Hp → Prop, (∀ σ', EnvD K (cut A H) σ' ρ' → (∀ ws : List Nat, (∀ i ∈ vs, i ∈ ws) → wipe σ' ws = wipe σ ws) → Q σ' H) → g v σ H Q
theorem tg_name {i : Nat} : TgD K (gName i) d ρ (ρ.set i (some d)) [i] := fun A σ H v l hE hv Q q =>
  q _ (hE.set hv i) fun ws hw => wipe_set σ _ ws i (hw i (by simp))
def TgsD (K : PySem.W.Frag) (g : TGs) (ds : List PyData) (ρ ρ' : Rho) (vs : List Nat) : Prop :=
  ∀ A σ H us, Live A H → EnvD K (cut A H) σ ρ → DqAll K (cut A H) us ds → ∀ Q : St → Hp → Prop, (∀ σ', EnvD K (cut A H) σ' ρ' → (∀ ws : List Nat, (∀ i ∈ vs, i ∈ ws) → wipe σ' ws = wipe σ ws) → Q σ' H) → g us σ H Q
theorem tgs_nil : TgsD K gNil [] ρ ρ [] := fun A σ H us l hE hv Q q => by
  cases hv; exact ⟨rfl, q σ hE fun _ _ => rfl⟩
theorem tgs_cons {g : TG} {gs : TGs} {ds : List PyData} {ρ1 ρ2 : Rho} {vs ws : List Nat} (h1 : TgD K g d ρ ρ1 vs) (h2 : TgsD K gs ds ρ1 ρ2 ws) : TgsD K (gCons g gs) (d :: ds) ρ ρ2 (vs ++ ws) := fun A σ H us l hE hv Q q => by
  cases hv with
  | cons k1 k2 =>
    exact ⟨_, _, rfl, h1 A σ H _ l hE k1 _ fun σ1 hE1 w1 => h2 A σ1 H _ l hE1 k2 Q fun σ2 hE2 w2 => q σ2 hE2 fun zs hz =>
      (w2 zs fun i hi => hz i (List.mem_append_right _ hi)).trans (w1 zs fun i hi => hz i (List.mem_append_left _ hi))⟩
theorem tg_tup {n : Nat} {gs : TGs} {ds : List PyData} {ρ' : Rho} {vs : List Nat} (h : TgsD K gs ds ρ ρ' vs) (hn : ds.length = n) : TgD K (gTup K n gs) (.tuple ds) ρ ρ' vs := fun A σ H v l hE hv Q q => by
  cases hv with
  | tup k1 k2 => exact ⟨_, _, rfl, sqt_same same_cut (.inl k1), by rw [k2.length]; exact hn, h A σ H _ l hE k2 Q q⟩
theorem tg_two {i j : Nat} {e : PyData} : TgD K (gTup K 2 (gCons (gName i) (gCons (gName j) gNil))) (.tuple [d, e]) ρ ((ρ.set i (some d)).set j (some e)) [i, j] :=
  tg_tup (tgs_cons tg_name (tgs_cons tg_name tgs_nil)) rfl

/-! ### comprehensions -/
/-- one turn's store in the list that grows -/
theorem ev_lcF {α : Type} {wi : TI} {g : TG} {tt : TT} {vs ws : List Nat} (xs : List α) (enc : α → PyData) (p : α → Bool) (out : α → PyData) (r2 : α → Rho) (hi : ItD K wi ρ (xs.map enc)) (hz : xs.length ≤ 100000) (hw : ∀ i ∈ ws, i ∈ vs)
    (hg : ∀ x ∈ xs, TgD K g (enc x) (wipeD ρ vs) (r2 x) ws) (ht : ∀ x ∈ xs, EvT K tt (r2 x) (p x)) (he : ∀ x ∈ xs, p x = true → EvD K te (r2 x) (out x)) :
    EvD K (tLc wi g tt te vs) ρ (.list ((xs.filter p).map out)) := fun A σ H l hE Q q => hi A σ H l hE _ fun J H1 s1 hJ => fun D hD => by
  have l1 := l.same s1
  have hDA : D ∉ A := l1.fresh hD
  have E1 : EnvD K (cut A H1) (wipe σ vs) (wipeD ρ vs) := (hE.same (cut_same s1)).wipe vs
  have oD : Off A H1 (D :: A) := off_new hD
  refine ⟨fun i m H' => m = xs.length - i ∧ i ≤ xs.length ∧ Keep [D] H1 H' ∧ ∃ us, H' D = some (.lst us) ∧ DqAll K (cut (D :: A) H') us ((((xs.take i).filter p).map out)), ⟨xs.length, ?_⟩, ?_⟩
  · refine ⟨by simp, Nat.zero_le _, fun a o ha h => by rw [upd_ne (by simpa using ha)]; exact h, [], upd_same, ?_⟩
    simp; exact .nil
  · rintro i m H' ⟨rfl, hle, hk, us, hus, hdp⟩
    have kA : Keep A H1 H' := fun a o ha h => hk a o (fun z => by rw [List.mem_singleton.mp z, hD] at h; cases h) h
    have lv : Live (D :: A) H' := fun a ha e => by
      rcases List.mem_cons.mp ha with z | z
      · rw [z, hus] at e; cases e
      · cases q1 : H1 a with
        | none => exact l1 a z q1
        | some o => rw [hk a o (fun w => hDA (List.mem_singleton.mp w ▸ z)) q1] at e; cases e
    by_cases hlt : i < xs.length
    · refine .inr ⟨hJ.goes i H' (by simpa using hlt) kA, fun H2 => Keep [D] H1 H2 ∧ ∃ us, H2 D = some (.lst us) ∧ DqAll K (cut (D :: A) H2) us ((((xs.take (i + 1)).filter p).map out)), fun H2 h2 => ⟨xs.length - (i + 1), by omega, rfl, hlt, h2⟩, fun x H2 hy => ?_⟩
      obtain ⟨s2, d, hd, hx⟩ := hJ.yields i H' x H2 (D :: A) (by simpa using hlt) kA lv oD hy
      have hdi : d = enc xs[i] := by
        rw [List.getElem?_map, List.getElem?_eq_getElem hlt] at hd
        exact (Option.some.inj hd).symm
      subst hdi
      have hm : xs[i] ∈ xs := List.getElem_mem hlt
      have lv2 := lv.same s2
      refine hg _ hm (D :: A) (wipe σ vs) H2 x lv2 (E1.same (oD.cut (kA.trans (Keep.of s2)))) hx _ fun σ2 hE2 w2 => ⟨?_, ?_⟩
      · rw [w2 vs hw, wipe_wipe]
      · refine ht _ hm (D :: A) σ2 H2 lv2 hE2 _ fun H3 s3 => ?_
        have tk : (xs.take (i + 1)) = xs.take i ++ [xs[i]] := by rw [List.take_add_one, List.getElem?_eq_getElem hlt] <;> rfl
        have s23 := s2.trans s3
        cases hp : p xs[i] with
        | false =>
          refine iteF ⟨hk.trans (Keep.of s23), us, s23 D _ hus, ?_⟩
          have e : (((xs.take (i + 1)).filter p).map out) = ((xs.take i).filter p).map out := by
            rw [tk, List.filter_append, List.filter_cons_of_neg (by rw [hp]; decide)]; simp
          rw [e]
          exact dpall_same (cut_same s23) hdp
        | true =>
          refine iteT (he _ hm hp (D :: A) σ2 H3 (lv2.same s3) (hE2.same (cut_same s3)) _ fun y H4 s4 hy4 => ?_)
          have s24 := s23.trans s4
          have kp : Keep (D :: A) H4 (upd H4 D (.lst (us ++ [y]))) := fun a o ha h => by
            rw [upd_ne (fun z => ha (by simp [z]))]; exact h
          refine ⟨us, s24 D _ hus, ?_, fun a o ha h => by rw [upd_ne (by simpa using ha)]; exact s24 a o (hk a o ha h), us ++ [y], upd_same, ?_⟩
          · have := hdp.length
            rw [List.length_map] at this
            have h2 := List.length_filter_le p (xs.take i)
            rw [List.length_take] at h2
            have : us.length < 100000 := by omega
            exact Nat.lt_of_lt_of_le this (by decide)
          · have e : (((xs.take (i + 1)).filter p).map out) = ((xs.take i).filter p).map out ++ [out xs[i]] := by
              rw [tk, List.filter_append, List.filter_cons_of_pos hp]; simp
            rw [e]
            exact (dpall_same ((cut_same s24).trans kp.cut) hdp).append (.cons (dp_same kp.cut hy4) .nil)
    · have e : i = xs.length := by omega
      subst e
      refine .inl ⟨by have := hJ.stops H' kA; simpa using this, q _ H' ?_ ?_⟩
      · exact fun a o h => hk a o (fun z => by rw [List.mem_singleton.mp z] at h; rw [s1 _ _ h] at hD; cases hD) (s1 a o h)
      · refine .lst (by rw [cut_out hDA]; exact hus) ?_
        rw [List.take_length] at hdp
        refine dpall_same (fun a o e => ?_) hdp
        obtain ⟨h1, h2⟩ := cut_some e
        rw [cut_out (fun z => h1 (List.mem_cons_of_mem _ z))]; exact h2
theorem et_yes : EvT K tYes ρ true := fun A σ H l hE Q q => q H (Same.refl H)
theorem ev_lc {α : Type} {wi : TI} {g : TG} {vs ws : List Nat} (xs : List α) (enc : α → PyData) (out : α → PyData) (r2 : α → Rho) (hi : ItD K wi ρ (xs.map enc)) (hz : xs.length ≤ 100000) (hw : ∀ i ∈ ws, i ∈ vs)
    (hg : ∀ x ∈ xs, TgD K g (enc x) (wipeD ρ vs) (r2 x) ws) (he : ∀ x ∈ xs, EvD K te (r2 x) (out x)) :
    EvD K (tLc wi g tYes te vs) ρ (.list (xs.map out)) := by
  have h := ev_lcF (tt := tYes) xs enc (fun _ => true) out r2 hi hz hw hg (fun _ _ => et_yes) (fun x hx _ => he x hx)
  have e : xs.filter (fun _ => true) = xs := by simp
  rw [e] at h
  exact h
/-- the target a name -/
theorem ev_lcN {α : Type} {wi : TI} {j : Nat} {vs : List Nat} (xs : List α) (enc : α → PyData) (out : α → PyData) (hi : ItD K wi ρ (xs.map enc)) (hz : xs.length ≤ 100000) (hw : j ∈ vs)
    (he : ∀ x ∈ xs, EvD K te ((wipeD ρ vs).set j (some (enc x))) (out x)) :
    EvD K (tLc wi (gName j) tYes te vs) ρ (.list (xs.map out)) :=
  ev_lc (ws := [j]) xs enc out (fun x => (wipeD ρ vs).set j (some (enc x))) hi hz (fun i h => by rw [List.mem_singleton.mp h]; exact hw) (fun x _ => tg_name) he
theorem ev_lcNF {α : Type} {wi : TI} {j : Nat} {tt : TT} {vs : List Nat} (xs : List α) (enc : α → PyData) (p : α → Bool) (out : α → PyData) (hi : ItD K wi ρ (xs.map enc)) (hz : xs.length ≤ 100000) (hw : j ∈ vs)
    (ht : ∀ x ∈ xs, EvT K tt ((wipeD ρ vs).set j (some (enc x))) (p x)) (he : ∀ x ∈ xs, p x = true → EvD K te ((wipeD ρ vs).set j (some (enc x))) (out x)) :
    EvD K (tLc wi (gName j) tt te vs) ρ (.list ((xs.filter p).map out)) :=
  ev_lcF (ws := [j]) xs enc p out (fun x => (wipeD ρ vs).set j (some (enc x))) hi hz (fun i h => by rw [List.mem_singleton.mp h]; exact hw) (fun x _ => tg_name) ht he
end
end Lc

set_option Elab.async false
set_option linter.all false
set_option maxRecDepth 100000
set_option maxHeartbeats 4000000
namespace Lc
open PySem L2
section
variable {K : PySem.W.Frag} {A : List Addr} {ρ : Rho} {ta tb tc te : TE} {t u : TT} {d e f : PyData} {b : Bool}
/-! ### two clauses -/
theorem ev_lc2 {α β : Type} {wi wi1 : TI} {g g1 : TG} {tt tt1 : TT} {vs vs1 ws ws1 : List Nat} (xs : List α) (enc : α → PyData) (r2 : α → Rho) (ys : α → List β) (enc1 : α → β → PyData) (r3 : α → β → Rho) (p1 : α → β → Bool) (out : α → β → PyData)
    (hi : ItD K wi ρ (xs.map enc)) (hz : (xs.flatMap ys).length < 100000) (hw : ∀ i ∈ ws, i ∈ vs) (hw1 : ∀ i ∈ ws1, i ∈ vs1)
    (hg : ∀ x ∈ xs, TgD K g (enc x) (wipeD ρ vs) (r2 x) ws) (ht : ∀ x ∈ xs, EvT K tt (r2 x) true) (hi1 : ∀ x ∈ xs, ItD K wi1 (r2 x) ((ys x).map (enc1 x)))
    (hg1 : ∀ x ∈ xs, ∀ y ∈ ys x, TgD K g1 (enc1 x y) (wipeD (r2 x) vs1) (r3 x y) ws1) (ht1 : ∀ x ∈ xs, ∀ y ∈ ys x, EvT K tt1 (r3 x y) (p1 x y)) (he : ∀ x ∈ xs, ∀ y ∈ ys x, p1 x y = true → EvD K te (r3 x y) (out x y)) :
    EvD K (tLc2 wi g tt wi1 g1 tt1 te vs vs1) ρ (.list (xs.flatMap fun x => ((ys x).filter (p1 x)).map (out x))) := fun A σ H l hE Q q => hi A σ H l hE _ fun J H1 s1 hJ => fun D hD => by
  have l1 := l.same s1
  have hDA : D ∉ A := l1.fresh hD
  have E1 : EnvD K (cut A H1) (wipe σ vs) (wipeD ρ vs) := (hE.same (cut_same s1)).wipe vs
  have oD : Off A H1 (D :: A) := off_new hD
  let res : List α → List PyData := fun zs => zs.flatMap fun x => ((ys x).filter (p1 x)).map (out x)
  let res1 : α → Nat → List PyData := fun x j => (((ys x).take j).filter (p1 x)).map (out x)
  have szs : ∀ i (hlt : i < xs.length) (j : Nat), (res (xs.take i)).length + (res1 xs[i] j).length < 100000 ∨ (ys xs[i]).length ≤ j ∨ (res (xs.take i)).length + (res1 xs[i] j).length < 100000 := by
    intro i hlt j
    refine .inl ?_
    have h1 : (res (xs.take i)).length + (res1 xs[i] j).length ≤ (xs.flatMap ys).length := by
      have a1 : ∀ zs : List α, (res zs).length ≤ (zs.flatMap ys).length := by
        intro zs
        induction zs with
        | nil => simp [res]
        | cons z zs ih =>
          have e1 : res (z :: zs) = ((ys z).filter (p1 z)).map (out z) ++ res zs := by simp [res]
          rw [e1, List.flatMap_cons, List.length_append, List.length_append, List.length_map]
          have := List.length_filter_le (p1 z) (ys z)
          omega
      have a2 : (res1 xs[i] j).length ≤ (ys xs[i]).length := by
        show ((((ys xs[i]).take j).filter (p1 xs[i])).map (out xs[i])).length ≤ _
        rw [List.length_map]
        have := List.length_filter_le (p1 xs[i]) ((ys xs[i]).take j)
        rw [List.length_take] at this
        omega
      have a3 : xs = xs.take i ++ xs[i] :: xs.drop (i + 1) := by simp
      have a4 : (xs.flatMap ys).length = ((xs.take i).flatMap ys).length + ((ys xs[i]).length + ((xs.drop (i + 1)).flatMap ys).length) := by
        conv => lhs; rw [a3]
        rw [List.flatMap_append, List.flatMap_cons, List.length_append, List.length_append]
      have := a1 (xs.take i)
      omega
    omega
  refine ⟨fun i m H' => m = xs.length - i ∧ i ≤ xs.length ∧ Keep [D] H1 H' ∧ ∃ us, H' D = some (.lst us) ∧ DqAll K (cut (D :: A) H') us (res (xs.take i)), ⟨xs.length, ?_⟩, ?_⟩
  · refine ⟨by simp, Nat.zero_le _, fun a o ha h => by rw [upd_ne (by simpa using ha)]; exact h, [], upd_same, ?_⟩
    simp [res]; exact .nil
  · rintro i m H' ⟨rfl, hle, hk, us, hus, hdp⟩
    have live_of : ∀ H' us, Keep [D] H1 H' → H' D = some (.lst us) → Live (D :: A) H' := fun H' us hk hus a ha e => by
      rcases List.mem_cons.mp ha with z | z
      · rw [z, hus] at e; cases e
      · cases q1 : H1 a with
        | none => exact l1 a z q1
        | some o => rw [hk a o (fun w => hDA (List.mem_singleton.mp w ▸ z)) q1] at e; cases e
    have kA : ∀ H', Keep [D] H1 H' → Keep A H1 H' := fun H' hk a o ha h => hk a o (fun z => by rw [List.mem_singleton.mp z, hD] at h; cases h) h
    have lv := live_of H' us hk hus
    by_cases hlt : i < xs.length
    · refine .inr ⟨hJ.goes i H' (by simpa using hlt) (kA _ hk), fun H2 => Keep [D] H1 H2 ∧ ∃ us, H2 D = some (.lst us) ∧ DqAll K (cut (D :: A) H2) us (res (xs.take (i + 1))), fun H2 h2 => ⟨xs.length - (i + 1), by omega, rfl, hlt, h2⟩, fun x H2 hy => ?_⟩
      obtain ⟨s2, d, hd, hx⟩ := hJ.yields i H' x H2 (D :: A) (by simpa using hlt) (kA _ hk) lv oD hy
      have hdi : d = enc xs[i] := by
        rw [List.getElem?_map, List.getElem?_eq_getElem hlt] at hd
        exact (Option.some.inj hd).symm
      subst hdi
      have hm : xs[i] ∈ xs := List.getElem_mem hlt
      have lv2 := lv.same s2
      have tk : (xs.take (i + 1)) = xs.take i ++ [xs[i]] := by rw [List.take_add_one, List.getElem?_eq_getElem hlt] <;> rfl
      refine hg _ hm (D :: A) (wipe σ vs) H2 x lv2 (E1.same (oD.cut ((kA _ hk).trans (Keep.of s2)))) hx _ fun σ2 hE2 w2 => ⟨?_, ?_⟩
      · rw [w2 vs hw, wipe_wipe]
      · refine ht _ hm (D :: A) σ2 H2 lv2 hE2 _ fun H3 s3 => iteT ?_
        have s23 := s2.trans s3
        refine hi1 _ hm (D :: A) σ2 H3 (lv2.same s3) (hE2.same (cut_same s3)) _ fun J1 H4 s4 hJ1 => ?_
        have s24 := s23.trans s4
        have E4 : EnvD K (cut (D :: A) H4) (wipe σ2 vs1) (wipeD (r2 xs[i]) vs1) := (hE2.same ((cut_same s3).trans (cut_same s4))).wipe vs1
        refine ⟨fun j m H' => m = (ys xs[i]).length - j ∧ j ≤ (ys xs[i]).length ∧ Keep [D] H4 H' ∧ ∃ us, H' D = some (.lst us) ∧ DqAll K (cut (D :: A) H') us (res (xs.take i) ++ res1 xs[i] j), ⟨(ys xs[i]).length, ?_⟩, ?_⟩
        · refine ⟨by simp, Nat.zero_le _, Keep.refl, us, s24 D _ hus, ?_⟩
          have e0 : res1 xs[i] 0 = [] := by simp [res1]
          rw [e0, List.append_nil]
          exact dpall_same (cut_same s24) hdp
        · rintro j m H5 ⟨rfl, hjle, hk5, us5, hus5, hdp5⟩
          have hk15 : Keep [D] H1 H5 := (hk.trans (Keep.of s24)).trans hk5
          have lv5 := live_of H5 us5 hk15 hus5
          have k45 : Keep (D :: A) H4 H5 := hk5.mono (by simp)
          have oo : Off (D :: A) H4 (D :: A) := Off.refl
          by_cases hjlt : j < (ys xs[i]).length
          · refine .inr ⟨hJ1.goes j H5 (by simpa using hjlt) k45, fun H6 => Keep [D] H4 H6 ∧ ∃ us, H6 D = some (.lst us) ∧ DqAll K (cut (D :: A) H6) us (res (xs.take i) ++ res1 xs[i] (j + 1)), fun H6 h6 => ⟨(ys xs[i]).length - (j + 1), by omega, rfl, hjlt, h6⟩, fun x6 H6 hy6 => ?_⟩
            obtain ⟨s6, d6, hd6, hx6⟩ := hJ1.yields j H5 x6 H6 (D :: A) (by simpa using hjlt) k45 lv5 oo hy6
            have hdi6 : d6 = enc1 xs[i] (ys xs[i])[j] := by
              rw [List.getElem?_map, List.getElem?_eq_getElem hjlt] at hd6
              exact (Option.some.inj hd6).symm
            subst hdi6
            have hm6 : (ys xs[i])[j] ∈ ys xs[i] := List.getElem_mem hjlt
            have lv6 := lv5.same s6
            refine hg1 _ hm _ hm6 (D :: A) (wipe σ2 vs1) H6 x6 lv6 (E4.same ((k45.cut).trans (cut_same s6))) hx6 _ fun σ7 hE7 w7 => ⟨?_, ?_⟩
            · rw [w7 vs1 hw1, wipe_wipe]
            · refine ht1 _ hm _ hm6 (D :: A) σ7 H6 lv6 hE7 _ fun H8 s8 => ?_
              have tk1 : ((ys xs[i]).take (j + 1)) = (ys xs[i]).take j ++ [(ys xs[i])[j]] := by rw [List.take_add_one, List.getElem?_eq_getElem hjlt] <;> rfl
              have s68 := s6.trans s8
              cases hp : p1 xs[i] (ys xs[i])[j] with
              | false =>
                refine iteF ⟨hk5.trans (Keep.of s68), us5, s68 D _ hus5, ?_⟩
                have e : res1 xs[i] (j + 1) = res1 xs[i] j := by
                  show ((((ys xs[i]).take (j + 1)).filter (p1 xs[i])).map (out xs[i])) = _
                  rw [tk1, List.filter_append, List.filter_cons_of_neg (by rw [hp]; decide)]; simp [res1]
                rw [e]
                exact dpall_same (cut_same s68) hdp5
              | true =>
                refine iteT (he _ hm _ hm6 hp (D :: A) σ7 H8 (lv6.same s8) (hE7.same (cut_same s8)) _ fun y H9 s9 hy9 => ?_)
                have s69 := s68.trans s9
                have kp : Keep (D :: A) H9 (upd H9 D (.lst (us5 ++ [y]))) := fun a o ha h => by
                  rw [upd_ne (fun z => ha (by simp [z]))]; exact h
                refine ⟨us5, s69 D _ hus5, ?_, fun a o ha h => by rw [upd_ne (by simpa using ha)]; exact s69 a o (hk5 a o ha h), us5 ++ [y], upd_same, ?_⟩
                · have hl := hdp5.length
                  rw [List.length_append] at hl
                  have := szs i hlt j
                  have : us5.length < 100000 := by omega
                  exact Nat.lt_of_lt_of_le this (by decide)
                · have e : res1 xs[i] (j + 1) = res1 xs[i] j ++ [out xs[i] (ys xs[i])[j]] := by
                    show ((((ys xs[i]).take (j + 1)).filter (p1 xs[i])).map (out xs[i])) = _
                    rw [tk1, List.filter_append, List.filter_cons_of_pos hp]; simp [res1]
                  rw [e, ← List.append_assoc]
                  exact (dpall_same ((cut_same s69).trans kp.cut) hdp5).append (.cons (dp_same kp.cut hy9) .nil)
          · have e : j = (ys xs[i]).length := by omega
            subst e
            refine .inl ⟨by have := hJ1.stops H5 k45; simpa using this, hk15, us5, hus5, ?_⟩
            have e : res (xs.take (i + 1)) = res (xs.take i) ++ res1 xs[i] (ys xs[i]).length := by
              rw [tk]
              show List.flatMap _ _ = _
              rw [List.flatMap_append]
              simp [res, res1]
            rw [e]
            exact hdp5
    · have e : i = xs.length := by omega
      subst e
      refine .inl ⟨by have := hJ.stops H' (kA _ hk); simpa using this, q _ H' ?_ ?_⟩
      · exact fun a o h => hk a o (fun z => by rw [List.mem_singleton.mp z] at h; rw [s1 _ _ h] at hD; cases hD) (s1 a o h)
      · refine .lst (by rw [cut_out hDA]; exact hus) ?_
        rw [List.take_length] at hdp
        refine dpall_same (fun a o e => ?_) hdp
        obtain ⟨h1, h2⟩ := cut_some e
        rw [cut_out (fun z => h1 (List.mem_cons_of_mem _ z))]; exact h2

/-! ### statements -/
inductive Out where
  | nx (ρ : Rho) | rt (d : PyData) | ex (C : Addr)
def Cont (K : PySem.W.Frag) (A : List Addr) (E : XK) (D : Ends) (H : Hp) : Out → Prop
  | .nx ρ => ∀ σ' H', Same H H' → EnvD K (cut A H') σ' ρ → D.nx σ' H'
  | .rt d => ∀ v H', Same H H' → Dq K (cut A H') v d → D.rt v H'
  | .ex C => ∀ H', Same H H' → E (.ref C) none H'
def ExS (K : PySem.W.Frag) (E : XK) (ts : TS) (ρ : Rho) (o : Out) : Prop :=
  ∀ A σ H D, Live A H → EnvD K (cut A H) σ ρ → Cont K A E D H o → ts D σ H
variable {E : XK} {ts tz tw : TS} {o : Out} {ρ1 ρ2 : Rho}
theorem Cont.same {D : Ends} {H H' : Hp} (s : Same H H') (c : Cont K A E D H o) : Cont K A E D H' o := by
  cases o with
  | nx ρ => exact fun σ' H2 s2 => c σ' H2 (s.trans s2)
  | rt d => exact fun v H2 s2 => c v H2 (s.trans s2)
  | ex C => exact fun H2 s2 => c H2 (s.trans s2)
theorem xs_seq (h1 : ExS K E ts ρ (.nx ρ1)) (h2 : ExS K E tz ρ1 o) : ExS K E (tSeq ts tz) ρ o := fun A σ H D l hE c =>
  h1 A σ H { D with nx := tz D } l hE fun σ' H' s hE' => h2 A σ' H' D (l.same s) hE' (c.same s)
theorem xs_seqR (h1 : ExS K E ts ρ (.rt d)) : ExS K E (tSeq ts tz) ρ (.rt d) := fun A σ H D l hE c =>
  h1 A σ H { D with nx := tz D } l hE fun v H' s hv => c v H' s hv
theorem xs_seqX {C : Addr} (h1 : ExS K E ts ρ (.ex C)) : ExS K E (tSeq ts tz) ρ (.ex C) := fun A σ H D l hE c =>
  h1 A σ H { D with nx := tz D } l hE fun H' s => c H' s
theorem xs_next : ExS K E tNext ρ (.nx ρ) := fun A σ H D l hE c => c σ H (Same.refl H) hE
theorem xs_ret (h : EvD K te ρ d) : ExS K E (tRet te) ρ (.rt d) := fun A σ H D l hE c => h A σ H l hE _ fun v H' s hv => c v H' s hv
theorem xs_drop (h : EvD K te ρ d) : ExS K E (tDrop te) ρ (.nx ρ) := fun A σ H D l hE c => h A σ H l hE _ fun v H' s hv => c σ H' s (hE.same (cut_same s))
theorem xs_asg {i : Nat} (h : EvD K te ρ d) : ExS K E (tAsg te (gName i)) ρ (.nx (ρ.set i (some d))) := fun A σ H D l hE c =>
  h A σ H l hE _ fun v H' s hv => c _ H' s ((hE.same (cut_same s)).set hv i)
theorem xs_asgT {g : TG} {vs : List Nat} (h : EvD K te ρ d) (hg : TgD K g d ρ ρ1 vs) : ExS K E (tAsg te g) ρ (.nx ρ1) := fun A σ H D l hE c =>
  h A σ H l hE _ fun v H' s hv => hg A σ H' v (l.same s) (hE.same (cut_same s)) hv _ fun σ' hE' _ => c σ' H' s hE'
theorem xs_par {i j : Nat} {ta : TA} (h : EvA K ta ρ [d, e]) : ExS K E (tPar i j ta) ρ (.nx ((ρ.set i (some d)).set j (some e))) := fun A σ H D l hE c =>
  h A σ H l hE _ fun vs H' s hv => by
    cases hv with
    | cons h1 h2 =>
      cases h2 with
      | cons h3 h4 =>
        cases h4
        exact ⟨_, _, rfl, c _ H' s (((hE.same (cut_same s)).set h1 i).set h3 j)⟩
theorem xs_if (h : EvT K t ρ b) (h1 : b = true → ExS K E ts ρ o) (h2 : b = false → ExS K E tz ρ o) : ExS K E (tIfS t ts tz) ρ o := fun A σ H D l hE c => h A σ H l hE _ fun H' s => by
  cases b with
  | true => exact iteT (h1 rfl A σ H' D (l.same s) (hE.same (cut_same s)) (c.same s))
  | false => exact iteF (h2 rfl A σ H' D (l.same s) (hE.same (cut_same s)) (c.same s))
theorem xs_raise {C : Addr} : ExS K E (fun _ _ H => E (.ref C) none H) ρ (.ex C) := fun A σ H D l hE c => c H (Same.refl H)
/-- a for that runs through -/
theorem xs_for {α : Type} {wi : TI} {g : TG} (xs : List α) (enc : α → PyData) (r : Nat → Rho) (r2 : Nat → Rho) {ws : List Nat} (hi : ItD K wi ρ (xs.map enc)) (h0 : r 0 = ρ)
    (hg : ∀ i (h : i < xs.length), TgD K g (enc xs[i]) (r i) (r2 i) ws) (hb : ∀ i, i < xs.length → ExS K E ts (r2 i) (.nx (r (i + 1)))) : ExS K E (tFor wi g ts) ρ (.nx (r xs.length)) := fun A σ H D l hE c => hi A σ H l hE _ fun J H1 s1 hJ => by
  refine ⟨fun i m σ' H' => m = xs.length - i ∧ i ≤ xs.length ∧ Same H1 H' ∧ EnvD K (cut A H') σ' (r i), ⟨xs.length, by simp, Nat.zero_le _, Same.refl _, by rw [h0]; exact hE.same (cut_same s1)⟩, ?_⟩
  rintro i m σ' H' ⟨rfl, hle, hk, hE'⟩
  have lv : Live A H' := (l.same s1).same hk
  by_cases hlt : i < xs.length
  · refine .inr ⟨hJ.goes i H' (by simpa using hlt) (Keep.of hk), fun σ2 H2 => Same H1 H2 ∧ EnvD K (cut A H2) σ2 (r (i + 1)), fun σ2 H2 h2 => ⟨xs.length - (i + 1), by omega, rfl, hlt, h2.1, h2.2⟩, fun x H2 hy => ?_⟩
    obtain ⟨s2, d, hd, hx⟩ := hJ.yields i H' x H2 A (by simpa using hlt) (Keep.of hk) lv Off.refl hy
    have hdi : d = enc xs[i] := by
      rw [List.getElem?_map, List.getElem?_eq_getElem hlt] at hd
      exact (Option.some.inj hd).symm
    subst hdi
    refine hg i hlt A σ' H2 x (lv.same s2) (hE'.same (cut_same s2)) hx _ fun σ2 hE2 _ => ?_
    exact hb i hlt A σ2 H2 _ (lv.same s2) hE2 fun σ3 H3 s3 hE3 => ⟨(hk.trans s2).trans s3, hE3⟩
  · have e : i = xs.length := by omega
    subst e
    exact .inl ⟨by have := hJ.stops H' (Keep.of hk); simpa using this, c σ' H' (s1.trans hk) hE'⟩
/-- a for that is left by a return in turn n -/
theorem xs_forR {α : Type} {wi : TI} {g : TG} (xs : List α) (enc : α → PyData) (r : Nat → Rho) (r2 : Nat → Rho) (n : Nat) {ws : List Nat} (hn : n < xs.length) (hi : ItD K wi ρ (xs.map enc)) (h0 : r 0 = ρ)
    (hg : ∀ i (h : i < xs.length), i ≤ n → TgD K g (enc xs[i]) (r i) (r2 i) ws) (hb : ∀ i, i < n → ExS K E ts (r2 i) (.nx (r (i + 1)))) (hr : ExS K E ts (r2 n) (.rt d)) : ExS K E (tFor wi g ts) ρ (.rt d) := fun A σ H D l hE c => hi A σ H l hE _ fun J H1 s1 hJ => by
  refine ⟨fun i m σ' H' => m = xs.length - i ∧ i ≤ n ∧ Same H1 H' ∧ EnvD K (cut A H') σ' (r i), ⟨xs.length, by simp, Nat.zero_le _, Same.refl _, by rw [h0]; exact hE.same (cut_same s1)⟩, ?_⟩
  rintro i m σ' H' ⟨rfl, hle, hk, hE'⟩
  have lv : Live A H' := (l.same s1).same hk
  have hlt : i < xs.length := by omega
  refine .inr ⟨hJ.goes i H' (by simpa using hlt) (Keep.of hk), fun σ2 H2 => i < n ∧ Same H1 H2 ∧ EnvD K (cut A H2) σ2 (r (i + 1)), fun σ2 H2 h2 => ⟨xs.length - (i + 1), by omega, rfl, by omega, h2.2.1, h2.2.2⟩, fun x H2 hy => ?_⟩
  obtain ⟨s2, d, hd, hx⟩ := hJ.yields i H' x H2 A (by simpa using hlt) (Keep.of hk) lv Off.refl hy
  have hdi : d = enc xs[i] := by
    rw [List.getElem?_map, List.getElem?_eq_getElem hlt] at hd
    exact (Option.some.inj hd).symm
  subst hdi
  refine hg i hlt hle A σ' H2 x (lv.same s2) (hE'.same (cut_same s2)) hx _ fun σ2 hE2 _ => ?_
  by_cases hin : i < n
  · exact hb i hin A σ2 H2 _ (lv.same s2) hE2 fun σ3 H3 s3 hE3 => ⟨hin, (hk.trans s2).trans s3, hE3⟩
  · have e : i = n := by omega
    subst e
    exact hr A σ2 H2 _ (lv.same s2) hE2 fun v H3 s3 hv => c v H3 (s1.trans ((hk.trans s2).trans s3)) hv
/-- a while: the states r 0, r 1, .. r n, the test true ahead of n -/
theorem xs_while (r : Nat → Rho) (n : Nat) (h0 : r 0 = ρ) (ht : ∀ i, i < n → EvT K t (r i) true) (hf : EvT K t (r n) false) (hb : ∀ i, i < n → ExS K E ts (r i) (.nx (r (i + 1)))) : ExS K E (tWhile t ts) ρ (.nx (r n)) := fun A σ H D l hE c => by
  refine ⟨fun m σ' H' => ∃ i, m = n - i ∧ i ≤ n ∧ Same H H' ∧ EnvD K (cut A H') σ' (r i), ⟨n, 0, by simp, Nat.zero_le _, Same.refl _, by rw [h0]; exact hE⟩, ?_⟩
  rintro m σ' H' ⟨i, rfl, hle, hk, hE'⟩
  have lv : Live A H' := l.same hk
  by_cases hlt : i < n
  · refine ht i hlt A σ' H' lv hE' _ fun H2 s2 => iteT ⟨fun σ2 H3 => Same H H3 ∧ EnvD K (cut A H3) σ2 (r (i + 1)), fun σ2 H3 h3 => ⟨n - (i + 1), by omega, i + 1, rfl, hlt, h3.1, h3.2⟩, ?_⟩
    exact hb i hlt A σ' H2 _ (lv.same s2) (hE'.same (cut_same s2)) fun σ3 H3 s3 hE3 => ⟨(hk.trans s2).trans s3, hE3⟩
  · have e : i = n := by omega
    subst e
    exact hf A σ' H' lv hE' _ fun H2 s2 => iteF (c σ' H2 (hk.trans s2) (hE'.same (cut_same s2)))
end
end Lc

set_option Elab.async false
set_option linter.all false
set_option maxRecDepth 100000
set_option maxHeartbeats 4000000
namespace Lc
open PySem L2 PySem.Spec PyProof.Rows

/-! ### shapes -/
def Sh (n : Nat) (d : PyData) : Prop := d.canLay0 = true ∧ d.depth ≤ n
theorem Sh.shaped {n : Nat} {d : PyData} (h : Sh n d) (hn : n ≤ 64) : SeqAt.shaped d = true := by
  show (d.canLay0 && decide (d.depth ≤ 64)) = true
  rw [h.1, decide_eq_true (Nat.le_trans h.2 hn)]; rfl
theorem Sh.mono {m n : Nat} {d : PyData} (h : Sh m d) (hn : m ≤ n) : Sh n d := ⟨h.1, Nat.le_trans h.2 hn⟩
theorem sh_int {n : Nat} {i : Int} : Sh n (.int i) := ⟨by simp [PyData.canLay0], by simp [PyData.depth]⟩
theorem sh_bool {n : Nat} {i : Bool} : Sh n (.bool i) := ⟨by simp [PyData.canLay0], by simp [PyData.depth]⟩
theorem sh_none {n : Nat} : Sh n .none := ⟨by simp [PyData.canLay0], by simp [PyData.depth]⟩
theorem sh_all {n : Nat} : ∀ {ds : List PyData}, (∀ d ∈ ds, Sh n d) → PyData.canLayAll0 ds = true ∧ PyData.depthAll ds ≤ n
  | [], _ => ⟨by simp [PyData.canLayAll0], by simp [PyData.depthAll]⟩
  | d :: ds, h => by
    obtain ⟨h1, h2⟩ := sh_all (n := n) (ds := ds) fun x hx => h x (by simp [hx])
    obtain ⟨h3, h4⟩ := h d (by simp)
    exact ⟨by simp [PyData.canLayAll0, h1, h3], by simp only [PyData.depthAll]; omega⟩
theorem sh_tup {n : Nat} {ds : List PyData} (h : ∀ d ∈ ds, Sh n d) : Sh (n + 1) (.tuple ds) := by
  obtain ⟨h1, h2⟩ := sh_all h
  exact ⟨by simp only [PyData.canLay0]; exact h1, by simp only [PyData.depth]; omega⟩
theorem sh_lst {n : Nat} {ds : List PyData} (h : ∀ d ∈ ds, Sh n d) : Sh (n + 1) (.list ds) := by
  obtain ⟨h1, h2⟩ := sh_all h
  exact ⟨by simp only [PyData.canLay0]; exact h1, by simp only [PyData.depth]; omega⟩
theorem sh_tupI {n : Nat} {ns : List Int} : Sh (n + 1) (.tuple (ns.map .int)) := sh_tup fun d hd => by
  obtain ⟨i, _, rfl⟩ := List.mem_map.mp hd
  exact sh_int
theorem sh_nil {n : Nat} : Sh (n + 1) (.tuple []) := sh_tup fun d hd => by simp at hd
theorem sh_nilL {n : Nat} : Sh (n + 1) (.list []) := sh_lst fun d hd => by simp at hd
mutual
theorem dq_dp {K : PySem.W.Frag} {H : Hp} : ∀ (d : PyData) {v : V}, d.canLay0 = true → Dq K H v d → Dp K H v d
  | .none, _, _, h => by cases h; exact .non
  | .bool b, _, _, h => by cases h; exact .bl b
  | .int i, _, _, h => by cases h; exact .int i
  | .str x, _, _, h => by cases h; exact .str x
  | .list ds, _, c, h => by cases h with | lst h1 h2 => exact .lst (SqL.of h1) (dq_dps ds (by simpa [PyData.canLay0] using c) h2)
  | .tuple ds, _, c, h => by cases h with | tup h1 h2 => exact .tup (.inl h1) (dq_dps ds (by simpa [PyData.canLay0] using c) h2)
  | .dict _, _, c, h => by simp [PyData.canLay0] at c
theorem dq_dps {K : PySem.W.Frag} {H : Hp} : ∀ (ds : List PyData) {vs : List V}, PyData.canLayAll0 ds = true → DqAll K H vs ds → DpAll K H vs ds
  | [], _, _, h => by cases h; exact .nil
  | d :: ds, _, c, h => by
    cases h with
    | cons h1 h2 =>
      have c' : d.canLay0 = true ∧ PyData.canLayAll0 ds = true := by simpa [PyData.canLayAll0] using c
      exact .cons (dq_dp d c'.1 h1) (dq_dps ds c'.2 h2)
end
theorem dq_out {K : PySem.W.Frag} {A : List Addr} {H : Hp} {v : V} {d : PyData} (h : Dq K (cut A H) v d) : Dq K H v d := dp_same same_cut h
theorem dqs_out {K : PySem.W.Frag} {A : List Addr} {H : Hp} {v : List V} {d : List PyData} (h : DqAll K (cut A H) v d) : DqAll K H v d := dpall_same same_cut h

/-! ### one of two readings -/
def rO (r r' : R2) : R2 := fun x y H Q => r x y H Q ∨ r' x y H Q
theorem opr_o {X : Cx} {f : Value → Value → Sem Value} {r r' : R2} (h : OpR X f r) (h' : OpR X f r') : OpR X f (rO r r') := by
  intro pins s σ H x y v u Q I rx ry q
  rcases q with q | q
  · exact h pins s σ H x y v u Q I rx ry q
  · exact h' pins s σ H x y v u Q I rx ry q
theorem ixr_o {X : Cx} {r r' : R2} (h : IxR X r) (h' : IxR X r') : IxR X (rO r r') := h.or h'
def cO (r r' : List V → Hp → VK → Prop) : List V → Hp → VK → Prop := fun xs H Q => r xs H Q ∨ r' xs H Q
theorem cr_o {X : Cx} {f : Value} {r r' : List V → Hp → VK → Prop} (h : CallR X f r) (h' : CallR X f r') : CallR X f (cO r r') := by
  intro pins s σ H xs us Q I rs q
  rcases q with q | q
  · exact h pins s σ H xs us Q I rs q
  · exact h' pins s σ H xs us Q I rs q
section
variable {K : PySem.W.Frag} {r r' : R2} {d e f : PyData}
theorem OpD.inl (h : OpD K r d e f) : OpD K (rO r r') d e f := fun A x y H l hx hy Q q => .inl (h A x y H l hx hy Q q)
theorem OpD.inr (h : OpD K r' d e f) : OpD K (rO r r') d e f := fun A x y H l hx hy Q q => .inr (h A x y H l hx hy Q q)
theorem CaD.inl {r r' : List V → Hp → VK → Prop} {ds : List PyData} (h : CaD K r ds f) : CaD K (cO r r') ds f := fun A xs H l hx Q q => .inl (h A xs H l hx Q q)
theorem CaD.inr {r r' : List V → Hp → VK → Prop} {ds : List PyData} (h : CaD K r' ds f) : CaD K (cO r r') ds f := fun A xs H l hx Q q => .inr (h A xs H l hx Q q)
end

/-! ### + - * // % ** -/
def rAddStr : R2 := fun x y H Q => ∃ i j, x = .str i ∧ y = .str j ∧ i.length + j.length ≤ sizeLine ∧ Q (.str (i ++ j)) H
def rAddU (K : PySem.W.Frag) : R2 := rO (rI0 fun i j => .int (i + j)) (rO (rCatA K) (rO rCat rAddStr))
theorem op_addU {X : Cx} : OpR X (binaryOp .Add) (rAddU X.K) := opr_o op_add (opr_o op_catA (opr_o op_cat op_add_str))
abbrev rSubU : R2 := rI0 fun i j => .int (i - j)
abbrev rModU : R2 := rI (fun _ j => 0 < j) fun i j => .int (i % j)
def rDivU : R2 := rO (rI CDiv fun i j => .int (i / j)) (rI CDivW fun i j => .int (i / j))
theorem op_divU {X : Cx} : OpR X (binaryOp .FloorDiv) rDivU := opr_o op_fdiv op_fdivW
abbrev rPowU : R2 := rI CPow fun i j => .int (i ^ j.toNat)
/-- a tuple times 0, times 1 -/
def rRepT1 (K : PySem.W.Frag) : R2 := fun x y H Q => ∃ l xs, x = .ref l ∧ y = .int 1 ∧ SqT K H l xs ∧ Q (.ref l) H
theorem tuple_mul1 (l : Addr) (items : Array Value) (n : Nat) (dd : Option Addr) (sl : Array (Option Value)) (u : Tok) :
    Meets (Builtin.«tuple.__mul__» ⟨[.ref l, .int 1 u], []⟩) (fun _ R s => s.heap.get? l = some { cls := .type "tuple", dict := dd, data := .seq items n, slots := sl } ∧ R (.ok (.ret (Value.ref l))) s) :=
  .of_wp fun prog w A R s h => by
    obtain ⟨hp, g, d, tk, os⟩ := s
    obtain ⟨hl, h⟩ := h
    have f1 := AutoSeq1.idx_int
    have c0 : (decide ((1 : Int) < -(2 ^ 63)) || decide ((1 : Int) ≥ 2 ^ 63)) = false := by decide
    have c1 : (items.isEmpty || (1 : Int) == 1) = true := by simp
    wp_walk using wpAny_loadPart' hl
    repeat (first
      | (refine wpAny_ite_false (decide_eq_false (by rw [c0]; exact Bool.false_ne_true)) ?_; wp_walk using wpAny_loadPart' hl)
      | (refine wpAny_ite_true (decide_eq_true (by rw [c1])) ?_; wp_walk using wpAny_loadPart' hl))
    exact ⟨_, rfl, h⟩
theorem tuple_mul0 (l : Addr) (items : Array Value) (n : Nat) (dd : Option Addr) (sl : Array (Option Value)) (u : Tok) (hi : items.isEmpty = false) :
    Meets (Builtin.«tuple.__mul__» ⟨[.ref l, .int 0 u], []⟩) (fun _ R s => s.heap.get? l = some { cls := .type "tuple", dict := dd, data := .seq items n, slots := sl } ∧
      R (.ok (.ret (Value.ref s.heap.objs.size))) { s with heap := s.heap.push { cls := Value.type "tuple", data := Data.seq #[] } }) :=
  .of_wp fun prog w A R s h => by
    obtain ⟨hp, g, d, tk, os⟩ := s
    obtain ⟨hl, h⟩ := h
    have f1 := AutoSeq1.idx_int
    have c0 : (decide ((0 : Int) < -(2 ^ 63)) || decide ((0 : Int) ≥ 2 ^ 63)) = false := by decide
    have c1 : (items.isEmpty || (0 : Int) == 1) = false := by rw [hi]; rfl
    have c2 : (decide ((0 : Int) ≤ 0) || items.isEmpty) = true := by simp
    wp_walk using wpAny_loadPart' hl
    repeat (first
      | (refine wpAny_ite_false (decide_eq_false (by rw [c0]; exact Bool.false_ne_true)) ?_; wp_walk using wpAny_loadPart' hl)
      | (refine wpAny_ite_false (decide_eq_false (by rw [c1]; exact Bool.false_ne_true)) ?_; wp_walk using wpAny_loadPart' hl)
      | (refine wpAny_ite_true (decide_eq_true (by rw [c2])) ?_; wp_walk using wpAny_loadPart' hl))
    exact ⟨_, rfl, h⟩
def rRepT0 (K : PySem.W.Frag) : R2 := fun x y H Q => ∃ l xs, x = .ref l ∧ y = .int 0 ∧ SqT K H l xs ∧ xs ≠ [] ∧ ∀ p, H p = none → Q (.ref p) (upd H p (.tup []))
theorem op_repT1 {X : Cx} : OpR X (binaryOp .Mult) (rRepT1 X.K) := by
  intro pins s σ H x y v u Q I rx ry h
  obtain ⟨l, xs, rfl, rfl, hT, q⟩ := h
  cases rx
  obtain ⟨t, rfl⟩ := ry
  obtain ⟨its, r, ⟨⟨cls, dd, data, sl⟩, ho, hc, n, hd⟩, hs⟩ := I.tuple hT
  simp only at hc hd
  subst hc hd
  exact wpAny_binaryOp_repeat_ref (T := "tuple") (U := "int") (by decide) ⟨_, ho, rfl⟩ (fun s' => typeIs_int s' 1 t) noFill_tuple_mul F.fills_int_mul F.slot_int_rmul repeat_tuple F.slot_int_index.lookup
    (call_meets F.slot_int_rmul (typeIs_int s 1 t) F.entry_int_rmul (F.args_int_rmul_2 _ _) (int_rmul_tuple 1 t l its.toArray n dd sl)
      ⟨ho, rfl, ⟨_, ho, rfl⟩, call_meets F.slot_tuple_mul ⟨_, ho, rfl⟩ F.entry_tuple_mul (F.args_tuple_mul_2 _ _) (tuple_mul1 l its.toArray n dd sl t) ⟨ho, .ref l, H, I, rfl, q⟩⟩)
theorem op_repT0 {X : Cx} : OpR X (binaryOp .Mult) (rRepT0 X.K) := by
  intro pins s σ H x y v u Q I rx ry h
  obtain ⟨l, xs, rfl, rfl, hT, hne, q⟩ := h
  cases rx
  obtain ⟨t, rfl⟩ := ry
  obtain ⟨its, r, ⟨⟨cls, dd, data, sl⟩, ho, hc, n, hd⟩, hs⟩ := I.tuple hT
  simp only at hc hd
  subst hc hd
  have hi : its.toArray.isEmpty = false := by
    cases its with
    | nil => exact absurd (List.eq_nil_of_length_eq_zero r.length) hne
    | cons a b => rfl
  refine wpAny_binaryOp_repeat_ref (T := "tuple") (U := "int") (by decide) ⟨_, ho, rfl⟩ (fun s' => typeIs_int s' 0 t) noFill_tuple_mul F.fills_int_mul F.slot_int_rmul repeat_tuple F.slot_int_index.lookup
    (call_meets F.slot_int_rmul (typeIs_int s 0 t) F.entry_int_rmul (F.args_int_rmul_2 _ _) (int_rmul_tuple 0 t l its.toArray n dd sl)
      ⟨ho, rfl, ⟨_, ho, rfl⟩, call_meets F.slot_tuple_mul ⟨_, ho, rfl⟩ F.entry_tuple_mul (F.args_tuple_mul_2 _ _) (tuple_mul0 l its.toArray n dd sl t hi) ⟨ho, ?_⟩⟩)
  refine ⟨.ref s.heap.objs.size, _, I.laid (t' := s.toks) (o := .tup []) (fun b ob q => Heap.get?_push_of_some _ q) (Nat.le_refl _) ?_, rfl, q _ (I.hok.fresh (Nat.le_refl _))⟩
  exact ⟨Nat.zero_le _, [], .nil, IsTup.new _ _⟩
def rMulU (K : PySem.W.Frag) : R2 := rO (rI CMul fun i j => .int (i * j)) (rO (rI CMulW fun i j => .int (i * j)) (rO (rRepT K) (rO (rRepT1 K) (rO (rRepT0 K) rRep))))
theorem op_mulU {X : Cx} : OpR X (binaryOp .Mult) (rMulU X.K) := opr_o op_mul (opr_o op_mulW (opr_o op_repT (opr_o op_repT1 (opr_o op_repT0 op_rep))))

/-! ### comparisons -/
abbrev rLtI : R2 := rI0 fun i j => .bl (decide (i < j))
abbrev rLeI : R2 := rI0 fun i j => .bl (decide (i ≤ j))
abbrev rGtI : R2 := rI0 fun i j => .bl (decide (j < i))
abbrev rGeI : R2 := rI0 fun i j => .bl (decide (j ≤ i))
def rLtU (K : PySem.W.Frag) : R2 := rO rLtI (rLtT K)
theorem op_ltU {X : Cx} (hu : X.A.units < cLine) : OpR X (compareOp .Lt) (rLtU X.K) := opr_o op_lt (op_ltT hu)
/-- in a tuple, items of any depth -/
def rInTD (K : PySem.W.Frag) : R2 := fun x y H Q => ∃ d ds, Dp K H x d ∧ Dp K H y (.tuple ds) ∧ SeqAt.shaped d = true ∧ SeqAt.shaped (.tuple ds) = true ∧ Q (.bl (ds.any fun z => PyData.eqv z d)) H
def rNotInTD (K : PySem.W.Frag) : R2 := fun x y H Q => ∃ d ds, Dp K H x d ∧ Dp K H y (.tuple ds) ∧ SeqAt.shaped d = true ∧ SeqAt.shaped (.tuple ds) = true ∧ Q (.bl (!ds.any fun z => PyData.eqv z d)) H
theorem op_inTD {X : Cx} (hu : X.A.units + 65 < cLine) : OpR X (compareOp .In) (rInTD X.K) := by
  intro pins s σ H x y v u Q I rx ry h
  obtain ⟨d, ds, hd, he, sd, se, q⟩ := h
  obtain ⟨as, r1⟩ := Dp.reads I d x v hd rx
  obtain ⟨bs, r2⟩ := Dp.reads I (.tuple ds) y u he ry
  exact SeqAt.in_tuple_reads r2 r1 (SeqAt.canLay_of_shaped se) (SeqAt.canLay_of_shaped sd) (room_in_shaped sd hu) ⟨.bl _, H, I, rfl, q⟩
theorem op_notInTD {X : Cx} (hu : X.A.units + 65 < cLine) : OpR X (compareOp .NotIn) (rNotInTD X.K) := by
  intro pins s σ H x y v u Q I rx ry h
  obtain ⟨d, ds, hd, he, sd, se, q⟩ := h
  obtain ⟨as, r1⟩ := Dp.reads I d x v hd rx
  obtain ⟨bs, r2⟩ := Dp.reads I (.tuple ds) y u he ry
  exact SeqAt.notIn_tuple_reads r2 r1 (SeqAt.canLay_of_shaped se) (SeqAt.canLay_of_shaped sd) (room_in_shaped sd hu) ⟨.bl _, H, I, rfl, q⟩
def rInSign : R2 := fun x y H Q => ∃ (c : Nat) (z : Str), x = .str ⟨#[c]⟩ ∧ y = .str z ∧ Q (.bl (decide (c ∈ z.cps.toList))) H
def rNotInSign : R2 := fun x y H Q => ∃ (c : Nat) (z : Str), x = .str ⟨#[c]⟩ ∧ y = .str z ∧ Q (.bl (!decide (c ∈ z.cps.toList))) H
def rInU (K : PySem.W.Frag) : R2 := rO (rInTD K) (rO (rInD K) rInSign)
def rNotInU (K : PySem.W.Frag) : R2 := rO (rNotInTD K) (rO (rNotInD K) rNotInSign)
theorem op_inU {X : Cx} (hu : X.A.units + 65 < cLine) : OpR X (compareOp .In) (rInU X.K) := opr_o (op_inTD hu) (opr_o (op_inD hu) op_in_sign)
theorem op_notInU {X : Cx} (hu : X.A.units + 65 < cLine) : OpR X (compareOp .NotIn) (rNotInU X.K) := opr_o (op_notInTD hu) (opr_o (op_notInD hu) op_notIn_sign)
def rIsNone : R2 := fun x y H Q => y = .non ∧ Q (.bl (decide (x = .non))) H
def rNotNone : R2 := fun x y H Q => y = .non ∧ Q (.bl (!decide (x = .non))) H
def rIsBl : R2 := fun x y H Q => ∃ a b, x = .bl a ∧ y = .bl b ∧ Q (.bl (decide (a = b))) H
def rNotBl : R2 := fun x y H Q => ∃ a b, x = .bl a ∧ y = .bl b ∧ Q (.bl (!decide (a = b))) H
def rIsU : R2 := rO rIsNone rIsBl
def rNotU : R2 := rO rNotNone rNotBl
theorem op_isU {X : Cx} : OpR X (compareOp .Is) rIsU := opr_o op_isN L2.op_isBl
theorem op_notU {X : Cx} : OpR X (compareOp .IsNot) rNotU := opr_o op_notN L2.op_notBl

/-! ### built-ins -/
def rLenSeq (K : PySem.W.Frag) : List V → Hp → VK → Prop := fun xs H Q => ∃ p ys, xs = [.ref p] ∧ (SqL K H p ys ∨ SqT K H p ys) ∧ Q (.int ys.length) H
def rLenStr : List V → Hp → VK → Prop := fun xs H Q => ∃ z, xs = [.str z] ∧ z.length ≤ sizeLine ∧ Q (.int z.length) H
def rLenU (K : PySem.W.Frag) : List V → Hp → VK → Prop := cO (rLenSeq K) rLenStr
theorem cr_lenU {X : Cx} : CallR X (.builtin "len") (rLenU X.K) := cr_o call_len_seq call_len_str
def rAbsI : List V → Hp → VK → Prop := fun xs H Q => ∃ i, xs = [.int i] ∧ Q (.int (if i < 0 then -i else i)) H
theorem cr_absI {X : Cx} : CallR X (.builtin "abs") rAbsI := call_abs
def rMin2 : List V → Hp → VK → Prop := fun xs H Q => ∃ i j, xs = [.int i, .int j] ∧ Q (.int (if j < i then j else i)) H
def rMax2 : List V → Hp → VK → Prop := fun xs H Q => ∃ i j, xs = [.int i, .int j] ∧ Q (.int (if j > i then j else i)) H
def rMinU (K : PySem.W.Frag) : List V → Hp → VK → Prop := cO (rMin K) rMin2
def rMaxU (K : PySem.W.Frag) : List V → Hp → VK → Prop := cO (rMax K) rMax2
theorem cr_minU {X : Cx} (hc : X.calm = true) : CallR X (.builtin "min") (rMinU X.K) := cr_o (cr_min hc) (call_min2 hc)
theorem cr_maxU {X : Cx} (hc : X.calm = true) : CallR X (.builtin "max") (rMaxU X.K) := cr_o (cr_max hc) (call_max2 hc)
def rTupleOf (K : PySem.W.Frag) : List V → Hp → VK → Prop := fun xs H Q => ∃ p ys, xs = [.ref p] ∧ ((SqL K H p ys ∧ ∀ l, H l = none → Q (.ref l) (upd H l (.tup ys))) ∨ (SqT K H p ys ∧ Q (.ref p) H))
theorem cr_tupleOf {X : Cx} : CallR X (.type "tuple") (rTupleOf X.K) := call_tuple_of
def rListOf (K : PySem.W.Frag) : List V → Hp → VK → Prop := fun xs H Q => ∃ p ys, xs = [.ref p] ∧ (SqL K H p ys ∨ SqT K H p ys) ∧ ∀ l, H l = none → Q (.ref l) (upd H l (.lst ys))
theorem cr_listOf {X : Cx} : CallR X (.type "list") (rListOf X.K) := call_list_of
def rInt1 : List V → Hp → VK → Prop := fun xs H Q => (∃ i, xs = [.int i] ∧ Q (.int i) H) ∨ ∃ k, xs = [.bl k] ∧ Q (.int (if k then 1 else 0)) H
theorem cr_int1 {X : Cx} : CallR X (.type "int") rInt1 := call_int1

/-! ### what they are worth on data -/
section
variable {K : PySem.W.Frag} {r r' : R2} {d e f : PyData} {ρ : Rho} {ta tb te : TE}
theorem od_I0 {g : Int → Int → V} {h : Int → Int → PyData} (hg : ∀ i j F, Dq K F (g i j) (h i j)) {i j : Int} : OpD K (rI0 g) (.int i) (.int j) (h i j) := fun A x y H l hx hy Q q => by
  cases hx; cases hy; exact ⟨i, j, rfl, rfl, q _ H (Same.refl H) (hg i j _)⟩
theorem od_I {C : Int → Int → Prop} {g : Int → Int → V} {h : Int → Int → PyData} (hg : ∀ i j F, Dq K F (g i j) (h i j)) {i j : Int} (hc : C i j) : OpD K (rI C g) (.int i) (.int j) (h i j) := fun A x y H l hx hy Q q => by
  cases hx; cases hy; exact ⟨i, j, rfl, rfl, hc, q _ H (Same.refl H) (hg i j _)⟩
theorem od_add {i j : Int} : OpD K (rAddU K) (.int i) (.int j) (.int (i + j)) := OpD.inl (od_I0 (h := fun i j => .int (i + j)) fun _ _ _ => .int _)
theorem od_sub {i j : Int} : OpD K rSubU (.int i) (.int j) (.int (i - j)) := od_I0 (h := fun i j => .int (i - j)) fun _ _ _ => .int _
theorem od_mod {i j : Int} (h : 0 < j) : OpD K rModU (.int i) (.int j) (.int (i % j)) := od_I (C := fun _ j => 0 < j) (h := fun i j => .int (i % j)) (fun _ _ _ => .int _) h
theorem od_div {i j : Int} (h : 0 < j) (h2 : j < 1073741824) : OpD K rDivU (.int i) (.int j) (.int (i / j)) := OpD.inl (od_I (C := CDiv) (h := fun i j => .int (i / j)) (fun _ _ _ => .int _) ⟨h, h2⟩)
theorem od_divW {i j : Int} (h : 0 < j) (h2 : j.natAbs.log2 < 9000) : OpD K rDivU (.int i) (.int j) (.int (i / j)) := OpD.inr (od_I (C := CDivW) (h := fun i j => .int (i / j)) (fun _ _ _ => .int _) ⟨h, h2⟩)
theorem od_pow {i j : Int} (h : CPow i j) : OpD K rPowU (.int i) (.int j) (.int (i ^ j.toNat)) := od_I (C := CPow) (h := fun i j => .int (i ^ j.toNat)) (fun _ _ _ => .int _) h
theorem od_mul {i j : Int} (h : CMul i j) : OpD K (rMulU K) (.int i) (.int j) (.int (i * j)) := OpD.inl (od_I (C := CMul) (h := fun i j => .int (i * j)) (fun _ _ _ => .int _) h)
theorem od_mulW {i j : Int} (h : CMulW i j) : OpD K (rMulU K) (.int i) (.int j) (.int (i * j)) := OpD.inr (OpD.inl (od_I (C := CMulW) (h := fun i j => .int (i * j)) (fun _ _ _ => .int _) h))
theorem od_lt {i j : Int} : OpD K (rLtU K) (.int i) (.int j) (.bool (decide (i < j))) := OpD.inl (od_I0 (h := fun i j => .bool (decide (i < j))) fun _ _ _ => .bl _)
theorem od_le {i j : Int} : OpD K rLeI (.int i) (.int j) (.bool (decide (i ≤ j))) := od_I0 (h := fun i j => .bool (decide (i ≤ j))) fun _ _ _ => .bl _
theorem od_gt {i j : Int} : OpD K rGtI (.int i) (.int j) (.bool (decide (j < i))) := od_I0 (h := fun i j => .bool (decide (j < i))) fun _ _ _ => .bl _
theorem od_ge {i j : Int} : OpD K rGeI (.int i) (.int j) (.bool (decide (j ≤ i))) := od_I0 (h := fun i j => .bool (decide (j ≤ i))) fun _ _ _ => .bl _
theorem od_ltT {ns ms : List Int} : OpD K (rLtU K) (.tuple (ns.map .int)) (.tuple (ms.map .int)) (.bool (HT.lexLt ns ms)) := OpD.inr fun A x y H l hx hy Q q => by
  cases hx with
  | tup h1 h2 =>
    cases hy with
    | tup h3 h4 =>
      have e1 := h2.ints; have e2 := h4.ints; subst e1 e2
      exact ⟨_, _, ns, ms, rfl, rfl, sqt_cut h1, sqt_cut h3, q _ H (Same.refl H) (.bl _)⟩
theorem od_addT {ds es : List PyData} (hz : ds.length + es.length ≤ 100000) : OpD K (rAddU K) (.tuple ds) (.tuple es) (.tuple (ds ++ es)) := OpD.inr (OpD.inl fun A x y H l hx hy Q q => by
  cases hx with
  | tup h1 h2 =>
    cases hy with
    | tup h3 h4 =>
      refine ⟨_, _, _, _, rfl, rfl, sqt_cut h1, sqt_cut h3, Nat.le_trans (by rw [h2.length, h4.length]; exact hz) (by decide), fun e => ?_, fun _ e => ?_, fun _ _ p hp => ?_⟩
      · subst e; cases h2; exact q _ H (Same.refl H) (.tup h3 h4)
      · subst e; cases h4; exact q _ H (Same.refl H) (by rw [List.append_nil]; exact .tup h1 h2)
      · exact q _ _ (same_new hp) (.tup (.inl (cut_new l hp)) (dpall_same (cut_same (same_new hp)) (h2.append h4))))
theorem od_addL {ds es : List PyData} (hz : ds.length + es.length ≤ 100000) : OpD K (rAddU K) (.list ds) (.list es) (.list (ds ++ es)) := OpD.inr (OpD.inr (OpD.inl fun A x y H l hx hy Q q => by
  cases hx with
  | lst h1 h2 =>
    cases hy with
    | lst h3 h4 =>
      refine ⟨_, _, _, _, rfl, rfl, same_cut _ _ h1, same_cut _ _ h3, Nat.le_trans (by rw [h2.length, h4.length]; exact hz) (by decide), fun p hp => ?_⟩
      exact q _ _ (same_new hp) (.lst (cut_new l hp) (dpall_same (cut_same (same_new hp)) (h2.append h4)))))
theorem od_addS {x y : Str} (hz : x.length + y.length ≤ 100000) : OpD K (rAddU K) (.str x) (.str y) (.str (x ++ y)) := OpD.inr (OpD.inr (OpD.inr fun A v w H l hx hy Q q => by
  cases hx; cases hy
  exact ⟨x, y, rfl, rfl, Nat.le_trans hz (by decide), q _ H (Same.refl H) (.str _)⟩))
theorem dqall_rep {F : Hp} {vs : List V} {ds : List PyData} (h : DqAll K F vs ds) : ∀ n, DqAll K F (List.replicate n vs).flatten (List.replicate n ds).flatten
  | 0 => .nil
  | n + 1 => by
    rw [List.replicate_succ, List.replicate_succ, List.flatten_cons, List.flatten_cons]
    exact h.append (dqall_rep h n)
theorem od_repT {ds : List PyData} {k : Int} (hd : ds ≠ []) (h0 : 0 ≤ k) (h1 : k ≤ 1000) (hz : ds.length ≤ 1000) : OpD K (rMulU K) (.tuple ds) (.int k) (.tuple (List.replicate k.toNat ds).flatten) := OpD.inr (OpD.inr fun A x y H l hx hy Q q => by
  cases hy
  cases hx with
  | tup h3 h4 =>
    rename_i a xs
    have hne : xs ≠ [] := fun e => hd (by subst e; cases h4; rfl)
    by_cases k0 : k = 0
    · subst k0
      exact .inr (.inr (.inl ⟨_, _, rfl, rfl, sqt_cut h3, hne, fun p hp => q _ _ (same_new hp) (by simpa using Dq.tup (.inl (cut_new l hp)) .nil)⟩))
    · by_cases k1 : k = 1
      · subst k1
        exact .inr (.inl ⟨_, _, rfl, rfl, sqt_cut h3, q _ H (Same.refl H) (by simpa using Dq.tup h3 h4)⟩)
      · exact .inl ⟨_, k, _, rfl, rfl, sqt_cut h3, hne, by omega, h1, by rw [h4.length]; exact hz, fun p hp => q _ _ (same_new hp) (.tup (.inl (cut_new l hp)) (dpall_same (cut_same (same_new hp)) (dqall_rep h4 _)))⟩)
theorem od_repL {ds : List PyData} {k : Int} (h0 : -1000 ≤ k) (h1 : k ≤ 1000) (hz : ds.length ≤ 1000) : OpD K (rMulU K) (.list ds) (.int k) (.list (List.replicate k.toNat ds).flatten) := OpD.inr (OpD.inr (OpD.inr (OpD.inr (OpD.inr fun A x y H l hx hy Q q => by
  cases hy
  cases hx with
  | lst h3 h4 =>
    refine ⟨_, k, _, rfl, rfl, same_cut _ _ h3, by omega, by omega, ?_, fun p hp => q _ _ (same_new hp) (.lst (cut_new l hp) (dpall_same (cut_same (same_new hp)) (dqall_rep h4 _)))⟩
    rw [h4.length]
    exact Nat.le_trans (Nat.mul_le_mul hz (show k.toNat ≤ 1000 by omega)) (by decide)))))
theorem od_eq {n m : Nat} (h1 : Sh n d) (h2 : Sh m e) (hn : n ≤ 64 := by decide) (hm : m ≤ 64 := by decide) : OpD K (rEqD K) d e (.bool (PyData.eqv d e)) := fun A x y H l hx hy Q q =>
  ⟨d, e, dq_dp d h1.1 (dq_out hx), dq_dp e h2.1 (dq_out hy), h1.shaped hn, h2.shaped hm, q _ H (Same.refl H) (.bl _)⟩
theorem od_ne {n m : Nat} (h1 : Sh n d) (h2 : Sh m e) (hn : n ≤ 64 := by decide) (hm : m ≤ 64 := by decide) : OpD K (rNeD K) d e (.bool (!PyData.eqv d e)) := fun A x y H l hx hy Q q =>
  ⟨d, e, dq_dp d h1.1 (dq_out hx), dq_dp e h2.1 (dq_out hy), h1.shaped hn, h2.shaped hm, q _ H (Same.refl H) (.bl _)⟩
theorem od_inT {ds : List PyData} {n m : Nat} (h1 : Sh n d) (h2 : Sh m (.tuple ds)) (hn : n ≤ 64 := by decide) (hm : m ≤ 64 := by decide) : OpD K (rInU K) d (.tuple ds) (.bool (ds.any fun z => PyData.eqv z d)) := OpD.inl fun A x y H l hx hy Q q =>
  ⟨d, ds, dq_dp d h1.1 (dq_out hx), dq_dp _ h2.1 (dq_out hy), h1.shaped hn, h2.shaped hm, q _ H (Same.refl H) (.bl _)⟩
theorem od_inL {ds : List PyData} {n m : Nat} (h1 : Sh n d) (h2 : Sh m (.list ds)) (hn : n ≤ 64 := by decide) (hm : m ≤ 64 := by decide) : OpD K (rInU K) d (.list ds) (.bool (ds.any fun z => PyData.eqv z d)) := OpD.inr (OpD.inl fun A x y H l hx hy Q q =>
  ⟨d, ds, dq_dp d h1.1 (dq_out hx), dq_dp _ h2.1 (dq_out hy), h1.shaped hn, h2.shaped hm, q _ H (Same.refl H) (.bl _)⟩)
theorem od_niT {ds : List PyData} {n m : Nat} (h1 : Sh n d) (h2 : Sh m (.tuple ds)) (hn : n ≤ 64 := by decide) (hm : m ≤ 64 := by decide) : OpD K (rNotInU K) d (.tuple ds) (.bool (!ds.any fun z => PyData.eqv z d)) := OpD.inl fun A x y H l hx hy Q q =>
  ⟨d, ds, dq_dp d h1.1 (dq_out hx), dq_dp _ h2.1 (dq_out hy), h1.shaped hn, h2.shaped hm, q _ H (Same.refl H) (.bl _)⟩
theorem od_niL {ds : List PyData} {n m : Nat} (h1 : Sh n d) (h2 : Sh m (.list ds)) (hn : n ≤ 64 := by decide) (hm : m ≤ 64 := by decide) : OpD K (rNotInU K) d (.list ds) (.bool (!ds.any fun z => PyData.eqv z d)) := OpD.inr (OpD.inl fun A x y H l hx hy Q q =>
  ⟨d, ds, dq_dp d h1.1 (dq_out hx), dq_dp _ h2.1 (dq_out hy), h1.shaped hn, h2.shaped hm, q _ H (Same.refl H) (.bl _)⟩)
def isNone : PyData → Bool
  | .none => true
  | _ => false
theorem dq_non {F : Hp} {v : V} (h : Dq K F v d) : decide (v = .non) = isNone d := by
  cases h <;> simp [isNone, scrD, adrD, tyD, excD, dctD, ftD, ptD]
theorem od_isN : OpD K rIsU d .none (.bool (isNone d)) := OpD.inl fun A x y H l hx hy Q q => by
  cases hy; exact ⟨rfl, by rw [dq_non hx]; exact q _ H (Same.refl H) (.bl _)⟩
theorem od_notN : OpD K rNotU d .none (.bool (!isNone d)) := OpD.inl fun A x y H l hx hy Q q => by
  cases hy; exact ⟨rfl, by rw [dq_non hx]; exact q _ H (Same.refl H) (.bl _)⟩
theorem od_isB {a b : Bool} : OpD K rIsU (.bool a) (.bool b) (.bool (decide (a = b))) := OpD.inr fun A x y H l hx hy Q q => by
  cases hx; cases hy; exact ⟨a, b, rfl, rfl, q _ H (Same.refl H) (.bl _)⟩
theorem od_notB {a b : Bool} : OpD K rNotU (.bool a) (.bool b) (.bool (!decide (a = b))) := OpD.inr fun A x y H l hx hy Q q => by
  cases hx; cases hy; exact ⟨a, b, rfl, rfl, q _ H (Same.refl H) (.bl _)⟩
theorem atI_dq {F : Hp} {vs : List V} {ds : List PyData} {i : Int} (h : DqAll K F vs ds) (hi : atI ds i = some d) : ∃ v, atI vs i = some v ∧ Dq K F v d := by
  unfold atI at hi ⊢
  rw [h.length]
  cases e : ixN ds.length i with
  | none => rw [e] at hi; cases hi
  | some j =>
    rw [e] at hi
    obtain ⟨v, h1, h2⟩ := h.get (i := j) (d := d) hi
    exact ⟨v, h1, h2⟩
theorem od_ixT {ds : List PyData} {i : Int} (h : atI ds i = some d) : OpD K (rIx K) (.tuple ds) (.int i) d := fun A x y H l hx hy Q q => by
  cases hy
  cases hx with
  | tup h1 h2 =>
    obtain ⟨v, k1, k2⟩ := atI_dq h2 h
    exact .inr (.inl ⟨_, _, i, v, rfl, rfl, sqt_cut h1, k1, q _ H (Same.refl H) k2⟩)
theorem od_ixL {ds : List PyData} {i : Int} (h : atI ds i = some d) : OpD K (rIx K) (.list ds) (.int i) d := fun A x y H l hx hy Q q => by
  cases hy
  cases hx with
  | lst h1 h2 =>
    obtain ⟨v, k1, k2⟩ := atI_dq h2 h
    exact .inl ⟨_, _, i, v, rfl, rfl, SqL.of (same_cut _ _ h1), k1, q _ H (Same.refl H) k2⟩
theorem od_ixS {z : Str} {i : Int} {c : Nat} (hz : z.length ≤ 100000) (h : atI z.cps.toList i = some c) : OpD K (rIx K) (.str z) (.int i) (.str ⟨#[c]⟩) := fun A x y H l hx hy Q q => by
  cases hy
  cases hx
  exact .inr (.inr ⟨z, i, c, rfl, rfl, Nat.le_trans hz (by decide), h, q _ H (Same.refl H) (.str _)⟩)
theorem atI_nat {α : Type} {ds : List α} {d : α} {i : Nat} (h : ds[i]? = some d) : atI ds (i : Int) = some d := L2.atI_nat h
theorem atI_of {α : Type} {ds : List α} {d : α} {i : Int} (h0 : 0 ≤ i) (h : ds[i.toNat]? = some d) : atI ds i = some d := by
  have e : i = (i.toNat : Int) := by omega
  rw [e]; exact L2.atI_nat h
theorem ud_neg {i : Int} : UnD K (rU fun i => .int (-i)) (.int i) (.int (-i)) := fun A x H l hx Q q => by
  cases hx; exact ⟨i, rfl, q _ H (Same.refl H) (.int _)⟩
/-! calls -/
theorem ca_lenT {ds : List PyData} : CaD K (rLenU K) [.tuple ds] (.int ds.length) := CaD.inl fun A xs H l hx Q q => by
  cases hx with
  | cons h1 h2 =>
    cases h2
    cases h1 with
    | tup k1 k2 => exact ⟨_, _, rfl, .inr (sqt_cut k1), q _ H (Same.refl H) (by rw [k2.length]; exact .int _)⟩
theorem ca_lenL {ds : List PyData} : CaD K (rLenU K) [.list ds] (.int ds.length) := CaD.inl fun A xs H l hx Q q => by
  cases hx with
  | cons h1 h2 =>
    cases h2
    cases h1 with
    | lst k1 k2 => exact ⟨_, _, rfl, .inl (SqL.of (same_cut _ _ k1)), q _ H (Same.refl H) (by rw [k2.length]; exact .int _)⟩
theorem ca_lenS {z : Str} (hz : z.length ≤ 100000) : CaD K (rLenU K) [.str z] (.int z.length) := CaD.inr fun A xs H l hx Q q => by
  cases hx with
  | cons h1 h2 =>
    cases h2
    cases h1
    exact ⟨z, rfl, Nat.le_trans hz (by decide), q _ H (Same.refl H) (.int _)⟩
theorem ca_abs {i : Int} : CaD K rAbsI [.int i] (.int (i.natAbs : Int)) := fun A xs H l hx Q q => by
  cases hx with
  | cons h1 h2 =>
    cases h2; cases h1
    refine ⟨i, rfl, q _ H (Same.refl H) ?_⟩
    have e : (if i < 0 then -i else i) = (i.natAbs : Int) := by split <;> omega
    rw [e]; exact .int _
theorem ca_sum {ns : List Int} : CaD K (rSum K) [.list (ns.map .int)] (.int ns.sum) := fun A xs H l hx Q q => by
  cases hx with
  | cons h1 h2 =>
    cases h2
    cases h1 with
    | lst k1 k2 =>
      have e := k2.ints; subst e
      exact ⟨_, ns, rfl, SqL.of (same_cut _ _ k1), q _ H (Same.refl H) (.int _)⟩
theorem ca_all {bs : List Bool} : CaD K (rAll K) [.list (bs.map .bool)] (.bool (bs.all id)) := fun A xs H l hx Q q => by
  cases hx with
  | cons h1 h2 =>
    cases h2
    cases h1 with
    | lst k1 k2 =>
      have e := k2.bools; subst e
      exact ⟨_, bs, rfl, SqL.of (same_cut _ _ k1), q _ H (Same.refl H) (.bl _)⟩
theorem ca_max {ns : List Int} {m : Int} (h0 : m ∈ ns) (hm : ∀ x ∈ ns, x ≤ m) : CaD K (rMaxU K) [.list (ns.map .int)] (.int m) := CaD.inl fun A xs H l hx Q q => by
  cases hx with
  | cons h1 h2 =>
    cases h2
    cases h1 with
    | lst k1 k2 =>
      have e := k2.ints; subst e
      refine ⟨_, ns, rfl, SqL.of (same_cut _ _ k1), List.length_pos_of_mem h0, fun m' h' hm' => ?_⟩
      have : m' = m := Int.le_antisymm (hm m' h') (hm' m h0)
      rw [this]
      exact q _ H (Same.refl H) (.int _)
theorem ca_min {ns : List Int} {m : Int} (h0 : m ∈ ns) (hm : ∀ x ∈ ns, m ≤ x) : CaD K (rMinU K) [.list (ns.map .int)] (.int m) := CaD.inl fun A xs H l hx Q q => by
  cases hx with
  | cons h1 h2 =>
    cases h2
    cases h1 with
    | lst k1 k2 =>
      have e := k2.ints; subst e
      refine ⟨_, ns, rfl, SqL.of (same_cut _ _ k1), List.length_pos_of_mem h0, fun m' h' hm' => ?_⟩
      have : m' = m := Int.le_antisymm (hm' m h0) (hm m' h')
      rw [this]
      exact q _ H (Same.refl H) (.int _)
theorem ca_min2 {i j : Int} : CaD K (rMinU K) [.int i, .int j] (.int (min i j)) := CaD.inr fun A xs H l hx Q q => by
  cases hx with
  | cons h1 h2 =>
    cases h2 with
    | cons h3 h4 =>
      cases h4; cases h1; cases h3
      refine ⟨i, j, rfl, q _ H (Same.refl H) ?_⟩
      have e : (if j < i then j else i) = min i j := by rw [Int.min_def]; split <;> split <;> omega
      rw [e]; exact .int _
theorem ca_tupleL {ds : List PyData} : CaD K (rTupleOf K) [.list ds] (.tuple ds) := fun A xs H l hx Q q => by
  cases hx with
  | cons h1 h2 =>
    cases h2
    cases h1 with
    | lst k1 k2 => exact ⟨_, _, rfl, .inl ⟨SqL.of (same_cut _ _ k1), fun p hp => q _ _ (same_new hp) (.tup (.inl (cut_new l hp)) (dpall_same (cut_same (same_new hp)) k2))⟩⟩
theorem ca_listL {ds : List PyData} : CaD K (rListOf K) [.list ds] (.list ds) := fun A xs H l hx Q q => by
  cases hx with
  | cons h1 h2 =>
    cases h2
    cases h1 with
    | lst k1 k2 => exact ⟨_, _, rfl, .inl (SqL.of (same_cut _ _ k1)), fun p hp => q _ _ (same_new hp) (.lst (cut_new l hp) (dpall_same (cut_same (same_new hp)) k2))⟩
theorem ca_listT {ds : List PyData} : CaD K (rListOf K) [.tuple ds] (.list ds) := fun A xs H l hx Q q => by
  cases hx with
  | cons h1 h2 =>
    cases h2
    cases h1 with
    | tup k1 k2 => exact ⟨_, _, rfl, .inr (sqt_cut k1), fun p hp => q _ _ (same_new hp) (.lst (cut_new l hp) (dpall_same (cut_same (same_new hp)) k2))⟩
theorem ca_listScr {ns : List Int} : CaD K (rListOf K) [scrD ns] (.list (ns.map .int)) := fun A xs H l hx Q q => by
  cases hx with
  | cons h1 h2 =>
    cases h2
    obtain ⟨a, rfl, k⟩ := h1.scrI
    exact ⟨_, _, rfl, .inl (sql_same same_cut k), fun p hp => q _ _ (same_new hp) (.lst (cut_new l hp) (DqAll.ofInts ns))⟩
theorem ca_intB {b : Bool} : CaD K rInt1 [.bool b] (.int (if b then 1 else 0)) := fun A xs H l hx Q q => by
  cases hx with
  | cons h1 h2 => cases h2; cases h1; exact .inr ⟨b, rfl, q _ H (Same.refl H) (.int _)⟩
end

/-! ### promises -/
def ResC (K : PySem.W.Frag) (A : List Addr) (E : XK) (Q : VK) (H : Hp) : Out → Prop
  | .nx _ => False
  | .rt d => ∀ v H', Same H H' → Dq K (cut A H') v d → Q v H'
  | .ex C => ∀ H', Same H H' → E (.ref C) none H'
/-- a def on data: R tells what comes of arguments -/
def spD (K : PySem.W.Frag) (R : List PyData → Out → Prop) : Sp := fun vs H Q E => ∃ A ds o, Live A H ∧ DqAll K (cut A H) vs ds ∧ R ds o ∧ ResC K A E Q H o
def startD (n : Nat) (ds : List PyData) : Rho := ds.map some ++ List.replicate (n - ds.length) none
theorem env_start {K : PySem.W.Frag} {F : Hp} : ∀ {vs : List V} {ds : List PyData} {m : Nat}, DqAll K F vs ds → EnvD K F (vs.map some ++ List.replicate m none) (ds.map some ++ List.replicate m none)
  | _, _, 0, .nil => .nil
  | _, _, m + 1, .nil => .cons trivial (env_start (m := m) .nil)
  | _, _, m, .cons h t => .cons h (env_start t)
theorem env_of {K : PySem.W.Frag} {F : Hp} {N : List Str} {vs : List V} {ds : List PyData} (h : DqAll K F vs ds) : EnvD K F (L2.start N vs) (startD N.length ds) := by
  unfold L2.start startD
  rw [h.length]
  exact env_start h
section
variable {K : PySem.W.Frag} {ρ : Rho} {ta tb te : TE} {E : XK} {d : PyData} {ts : TS}
/-- the body keeps the promise -/
theorem sp_body {R : List PyData → Out → Prop} {N : List Str} {t : TS} {vs : List V} {H : Hp} {Q : VK} (h : ∀ ds o, R ds o → ExS K E t (startD N.length ds) o ∨ (o = .rt .none ∧ ∃ ρ', ExS K E t (startD N.length ds) (.nx ρ')))
    (hs : spD K R vs H Q E) : t { nx := fun _ H' => Q .non H', rt := Q } (L2.start N vs) H := by
  obtain ⟨A, ds, o, l, hv, hR, c⟩ := hs
  rcases h ds o hR with h1 | ⟨rfl, ρ', h1⟩
  · refine h1 A _ H _ l (env_of hv) ?_
    cases o with
    | nx ρ => exact c.elim
    | rt d => exact c
    | ex C => exact c
  · exact h1 A _ H _ l (env_of hv) fun σ' H' s hE => c .non H' s .non
theorem ev_call {R : List PyData → Out → Prop} {t : TA} {ds : List PyData} (ha : EvA K t ρ ds) (hR : R ds (.rt d)) : EvD K (tCall (spD K R) [] E t) ρ d := fun A σ H l hE Q q =>
  ha A σ H l hE _ fun vs H1 s1 hv => by
    rw [List.append_nil]
    exact ⟨A, ds, .rt d, l.same s1, hv, hR, fun v H2 s2 h2 => q v H2 (s1.trans s2) h2⟩
/-- it raises -/
def EvX (K : PySem.W.Frag) (E : XK) (te : TE) (ρ : Rho) (C : Addr) : Prop :=
  ∀ A σ H, Live A H → EnvD K (cut A H) σ ρ → ∀ Q : VK, (∀ H', Same H H' → E (.ref C) none H') → te σ H Q
theorem ex_call {R : List PyData → Out → Prop} {t : TA} {ds : List PyData} {C : Addr} (ha : EvA K t ρ ds) (hR : R ds (.ex C)) : EvX K E (tCall (spD K R) [] E t) ρ C := fun A σ H l hE Q q =>
  ha A σ H l hE _ fun vs H1 s1 hv => by
    rw [List.append_nil]
    exact ⟨A, ds, .ex C, l.same s1, hv, hR, fun H2 s2 => q H2 (s1.trans s2)⟩
theorem xs_dropX {C : Addr} (h : EvX K E te ρ C) : ExS K E (tDrop te) ρ (.ex C) := fun A σ H D l hE c => h A σ H l hE _ c
theorem xs_asgX {C : Addr} {g : TG} (h : EvX K E te ρ C) : ExS K E (tAsg te g) ρ (.ex C) := fun A σ H D l hE c => h A σ H l hE _ c
theorem xs_retX {C : Addr} (h : EvX K E te ρ C) : ExS K E (tRet te) ρ (.ex C) := fun A σ H D l hE c => h A σ H l hE _ c
end
end Lc

set_option Elab.async false
set_option linter.all false
set_option maxRecDepth 100000
set_option maxHeartbeats 4000000
namespace Lc
open PySem L2 PySem.Spec PyProof.Rows

/-! ### the order of data: ints, and tuples of such -/
mutual
def ltD : PyData → PyData → Bool
  | .int i, .int j => decide (i < j)
  | .tuple xs, .tuple ys => ltAll xs ys
  | _, _ => false
def ltAll : List PyData → List PyData → Bool
  | [], [] => false
  | [], _ :: _ => true
  | _ :: _, [] => false
  | x :: xs, y :: ys => if PyData.eqv x y then ltAll xs ys else ltD x y
end
mutual
def cmb : PyData → PyData → Bool
  | .int _, .int _ => true
  | .tuple xs, .tuple ys => cmbAll xs ys
  | _, _ => false
def cmbAll : List PyData → List PyData → Bool
  | x :: xs, y :: ys => cmb x y && cmbAll xs ys
  | [], _ => true
  | _ :: _, [] => true
end
section
variable {s : Shared} {A : Around}
/-- place by place -/
theorem readsAll_get {h : Heap} : ∀ {vs : List Value} {ds : List PyData} {as : List Addr}, ReadsAll h vs ds as → ∀ (j : Nat) (h1 : j < vs.length), ∃ d bs, ds[j]? = some d ∧ Reads h vs[j] d bs
  | _, _, _, .nil, j, h1 => by simp at h1
  | _, _, _, .cons r t, 0, _ => ⟨_, _, rfl, r⟩
  | _, _, _, .cons r t, j + 1, h1 => by
    obtain ⟨d, bs, e, q⟩ := readsAll_get t j (by simpa using h1)
    exact ⟨d, bs, by simpa using e, by simpa using q⟩
theorem readsAll_len {h : Heap} : ∀ {vs : List Value} {ds : List PyData} {as : List Addr}, ReadsAll h vs ds as → vs.length = ds.length
  | _, _, _, .nil => rfl
  | _, _, _, .cons _ t => by simp [readsAll_len t]
theorem lex_all (xs ys : List PyData) : ∀ (i k : Nat), k = min xs.length ys.length - i → i ≤ min xs.length ys.length →
    Ob.lexAt (fun j => PyData.eqv (xs.getD j .none) (ys.getD j .none)) (fun j => ltD (xs.getD j .none) (ys.getD j .none)) (decide (xs.length < ys.length)) i k = ltAll (xs.drop i) (ys.drop i) := by
  intro i k
  induction k generalizing i with
  | zero =>
    intro hk hi
    rw [Ob.lexAt_zero]
    rcases Nat.lt_or_ge xs.length ys.length with h | h
    · rw [decide_eq_true h]
      have e : i = xs.length := by omega
      rw [e, List.drop_length, List.drop_eq_getElem_cons h] <;> rfl
    · rw [decide_eq_false (by omega)]
      have e : i = ys.length := by omega
      rw [e, List.drop_length]
      rcases Nat.lt_or_ge ys.length xs.length with h2 | h2
      · rw [List.drop_eq_getElem_cons h2] <;> rfl
      · have : xs.drop ys.length = [] := List.drop_eq_nil_of_le h2
        rw [this] <;> rfl
  | succ k ih =>
    intro hk hi
    have h1 : i < xs.length := by omega
    have h2 : i < ys.length := by omega
    rw [Ob.lexAt_succ, List.drop_eq_getElem_cons h1, List.drop_eq_getElem_cons h2]
    have g1 : xs.getD i .none = xs[i] := by simp [h1]
    have g2 : ys.getD i .none = ys[i] := by simp [h2]
    simp only [g1, g2, ltAll]
    rw [ih (i + 1) (by omega) (by omega)]
theorem cmbAll_at : ∀ {xs ys : List PyData}, cmbAll xs ys = true → ∀ (j : Nat) (a b : PyData), xs[j]? = some a → ys[j]? = some b → cmb a b = true
  | [], _, _, j, _, _, h, _ => by simp at h
  | _ :: _, [], _, j, _, _, _, h => by simp at h
  | x :: xs, y :: ys, h, 0, a, b, h1, h2 => by
    simp at h1 h2; subst h1 h2
    exact (Bool.and_eq_true_iff.mp (by simpa [cmbAll] using h)).1
  | x :: xs, y :: ys, h, j + 1, a, b, h1, h2 => by
    have h' : cmb x y = true ∧ cmbAll xs ys = true := by simpa [cmbAll] using h
    exact cmbAll_at h'.2 j a b (by simpa using h1) (by simpa using h2)
theorem canLay_at : ∀ {xs : List PyData}, PyData.canLayAll0 xs = true → ∀ (j : Nat) (a : PyData), xs[j]? = some a → a.canLay0 = true ∧ a.depth ≤ PyData.depthAll xs
  | [], _, j, _, h => by simp at h
  | x :: xs, h, 0, a, h1 => by
    simp at h1; subst h1
    exact ⟨(Bool.and_eq_true_iff.mp (by simpa [PyData.canLayAll0] using h)).1, by simp only [PyData.depthAll]; omega⟩
  | x :: xs, h, j + 1, a, h1 => by
    have h' : x.canLay0 = true ∧ PyData.canLayAll0 xs = true := by simpa [PyData.canLayAll0] using h
    obtain ⟨k1, k2⟩ := canLay_at h'.2 j a (by simpa using h1)
    exact ⟨k1, by simp only [PyData.depthAll]; omega⟩
/-- < of two data -/
theorem lt_data : ∀ (n : Nat) (A : Around) (x y : PyData) (v u : Value) (as bs : List Addr), x.depth ≤ n → cmb x y = true → x.canLay0 = true → y.canLay0 = true → Reads s.heap v x as → Reads s.heap u y bs → A.units + n + 1 < cLine → Ob.RcOp .Lt A s v u (ltD x y) := by
  intro n
  induction n with
  | zero =>
    intro A x y v u as bs hd hc hx hy rv ru hu
    cases x with
    | int i =>
      cases y with
      | int j =>
        cases rv; cases ru
        exact Ob.RcOp.lt_int _ _ _ _
      | _ => simp [cmb] at hc
    | tuple xs => simp [PyData.depth] at hd
    | _ => cases y <;> simp [cmb] at hc
  | succ n ih =>
    intro A x y v u as bs hd hc hx hy rv ru hu
    cases x with
    | int i =>
      cases y with
      | int j =>
        cases rv; cases ru
        exact Ob.RcOp.lt_int _ _ _ _
      | _ => simp [cmb] at hc
    | tuple xs =>
      cases y with
      | tuple ys =>
        have hc' : cmbAll xs ys = true := by simpa [cmb] using hc
        have hx' : PyData.canLayAll0 xs = true := by simpa [PyData.canLay0] using hx
        have hy' : PyData.canLayAll0 ys = true := by simpa [PyData.canLay0] using hy
        have hd' : PyData.depthAll xs ≤ n := by simp only [PyData.depth] at hd; omega
        cases rv with
        | tuple o1 c1 d1 r1 =>
          cases ru with
          | tuple o2 c2 d2 r2 =>
            rename_i a1 ob1 vs1 n1 a2 ob2 vs2 n2
            have l1 := readsAll_len r1
            have l2 := readsAll_len r2
            simp only [Array.length_toList] at l1 l2
            have key := Ob.RcOp.tuples_lt (A := A) (s := s) (l := a1) (b := a2) (items := vs1) (items2 := vs2) (e := fun j => PyData.eqv (xs.getD j .none) (ys.getD j .none)) (r := fun j => ltD (xs.getD j .none) (ys.getD j .none))
              ⟨_, o1, c1, _, d1⟩ ⟨_, o2, c2, _, d2⟩ (by omega) (fun j h1 h2 => ?_) (fun j h1 h2 _ => ?_)
            · have e := lex_all xs ys 0 (min vs1.size vs2.size) (by rw [l1, l2]; rfl) (Nat.zero_le _)
              rw [l1, l2] at key e
              rw [e] at key
              exact key
            · obtain ⟨d, ds, e1, q1⟩ := readsAll_get r1 j (by simpa using h1)
              obtain ⟨e, es, e2, q2⟩ := readsAll_get r2 j (by simpa using h2)
              have g1 : xs.getD j .none = d := by rw [List.getD_eq_getElem?_getD, e1] <;> rfl
              have g2 : ys.getD j .none = e := by rw [List.getD_eq_getElem?_getD, e2] <;> rfl
              obtain ⟨k1, k2⟩ := canLay_at hx' j d e1
              obtain ⟨k3, k4⟩ := canLay_at hy' j e e2
              show SeqAt.EqAt A.in1 s vs1[j] vs2[j] (PyData.eqv (xs.getD j .none) (ys.getD j .none))
              rw [g1, g2]
              refine SeqAt.eqAt_reads d e A.in1 s _ _ _ _ (by simpa using q1) (by simpa using q2) k1 k3 ?_
              show A.units + 1 + min d.depth e.depth < cLine
              have := Nat.min_le_left d.depth e.depth
              omega
            · obtain ⟨d, ds, e1, q1⟩ := readsAll_get r1 j (by simpa using h1)
              obtain ⟨e, es, e2, q2⟩ := readsAll_get r2 j (by simpa using h2)
              have g1 : xs.getD j .none = d := by rw [List.getD_eq_getElem?_getD, e1] <;> rfl
              have g2 : ys.getD j .none = e := by rw [List.getD_eq_getElem?_getD, e2] <;> rfl
              obtain ⟨k1, k2⟩ := canLay_at hx' j d e1
              obtain ⟨k3, k4⟩ := canLay_at hy' j e e2
              show Ob.RcOp .Lt A.in1 s vs1[j] vs2[j] (ltD (xs.getD j .none) (ys.getD j .none))
              rw [g1, g2]
              refine ih A.in1 d e _ _ _ _ (by omega) (cmbAll_at hc' j d e e1 e2) k1 k3 (by simpa using q1) (by simpa using q2) ?_
              show A.units + 1 + n + 1 < cLine
              omega
      | _ => simp [cmb] at hc
    | _ => cases y <;> simp [cmb] at hc
end
/-! ### one order for all: a strict weak one -/
def cmpI (i j : Int) : Ordering := if i < j then .lt else if j < i then .gt else .eq
mutual
def cmpX : PyData → PyData → Ordering
  | .int i, .int j => cmpI i j
  | .int _, _ => .lt
  | .tuple _, .int _ => .gt
  | .tuple xs, .tuple ys => cmpXs xs ys
  | .tuple _, _ => .lt
  | _, .int _ => .gt
  | _, .tuple _ => .gt
  | _, _ => .eq
def cmpXs : List PyData → List PyData → Ordering
  | [], [] => .eq
  | [], _ :: _ => .lt
  | _ :: _, [] => .gt
  | x :: xs, y :: ys => match cmpX x y with
    | .eq => cmpXs xs ys
    | o => o
end
def ltX (x y : PyData) : Bool := cmpX x y == .lt
def ltXs (x y : List PyData) : Bool := cmpXs x y == .lt
theorem cmpI_swap (i j : Int) : cmpI j i = (cmpI i j).swap := by
  unfold cmpI
  by_cases h1 : i < j
  · rw [if_pos h1, if_neg (by omega), if_pos h1]; rfl
  · by_cases h2 : j < i
    · rw [if_pos h2, if_neg h1, if_pos h2]; rfl
    · rw [if_neg h2, if_neg h1, if_neg h1, if_neg h2]; rfl
mutual
theorem cmpX_swap : ∀ x y : PyData, cmpX y x = (cmpX x y).swap
  | .int i, .int j => by simp only [cmpX]; exact cmpI_swap i j
  | .tuple xs, .tuple ys => by simp only [cmpX]; exact cmpXs_swap xs ys
  | .int _, .tuple _ => rfl | .int _, .none => rfl | .int _, .bool _ => rfl | .int _, .str _ => rfl | .int _, .list _ => rfl | .int _, .dict _ => rfl
  | .tuple _, .int _ => rfl | .tuple _, .none => rfl | .tuple _, .bool _ => rfl | .tuple _, .str _ => rfl | .tuple _, .list _ => rfl | .tuple _, .dict _ => rfl
  | .none, .int _ => rfl | .none, .tuple _ => rfl | .none, .none => rfl | .none, .bool _ => rfl | .none, .str _ => rfl | .none, .list _ => rfl | .none, .dict _ => rfl
  | .bool _, .int _ => rfl | .bool _, .tuple _ => rfl | .bool _, .none => rfl | .bool _, .bool _ => rfl | .bool _, .str _ => rfl | .bool _, .list _ => rfl | .bool _, .dict _ => rfl
  | .str _, .int _ => rfl | .str _, .tuple _ => rfl | .str _, .none => rfl | .str _, .bool _ => rfl | .str _, .str _ => rfl | .str _, .list _ => rfl | .str _, .dict _ => rfl
  | .list _, .int _ => rfl | .list _, .tuple _ => rfl | .list _, .none => rfl | .list _, .bool _ => rfl | .list _, .str _ => rfl | .list _, .list _ => rfl | .list _, .dict _ => rfl
  | .dict _, .int _ => rfl | .dict _, .tuple _ => rfl | .dict _, .none => rfl | .dict _, .bool _ => rfl | .dict _, .str _ => rfl | .dict _, .list _ => rfl | .dict _, .dict _ => rfl
theorem cmpXs_swap : ∀ xs ys : List PyData, cmpXs ys xs = (cmpXs xs ys).swap
  | [], [] => rfl
  | [], _ :: _ => rfl
  | _ :: _, [] => rfl
  | x :: xs, y :: ys => by
    simp only [cmpXs]
    rw [cmpX_swap x y, cmpXs_swap xs ys]
    cases cmpX x y <;> rfl
end
/-- x ≤ y ≤ z -/
def Tri (a b c : Ordering) : Prop := a ≠ .gt → b ≠ .gt → c ≠ .gt ∧ (c = .eq → a = .eq ∧ b = .eq)
theorem tri_I (i j k : Int) : Tri (cmpI i j) (cmpI j k) (cmpI i k) := by
  unfold Tri cmpI
  (repeat' split) <;> first | omega | simp
theorem tri_gt {b c : Ordering} : Tri .gt b c := fun h _ => absurd rfl h
theorem tri_gt2 {a c : Ordering} : Tri a .gt c := fun _ h => absurd rfl h
theorem tri_lt {a b : Ordering} : Tri a b .lt := fun _ _ => ⟨by simp, by simp⟩
theorem tri_eq : Tri .eq .eq .eq := fun _ _ => ⟨by simp, by simp⟩
mutual
theorem tri_X : ∀ x y z : PyData, Tri (cmpX x y) (cmpX y z) (cmpX x z)
  | .int i, .int j, .int k => by simp only [cmpX]; exact tri_I i j k
  | .tuple xs, .tuple ys, .tuple zs => by simp only [cmpX]; exact tri_Xs xs ys zs
  | .int _, _, .tuple _ => tri_lt | .int _, _, .none => tri_lt | .int _, _, .bool _ => tri_lt | .int _, _, .str _ => tri_lt | .int _, _, .list _ => tri_lt | .int _, _, .dict _ => tri_lt
  | .tuple _, _, .none => tri_lt | .tuple _, _, .bool _ => tri_lt | .tuple _, _, .str _ => tri_lt | .tuple _, _, .list _ => tri_lt | .tuple _, _, .dict _ => tri_lt
  | .int _, .tuple _, .int _ => tri_gt2 | .int _, .none, .int _ => tri_gt2 | .int _, .bool _, .int _ => tri_gt2 | .int _, .str _, .int _ => tri_gt2 | .int _, .list _, .int _ => tri_gt2 | .int _, .dict _, .int _ => tri_gt2
  | .tuple _, .int _, .int _ => tri_gt | .tuple _, .int _, .tuple _ => tri_gt
  | .tuple _, .tuple _, .int _ => tri_gt2
  | .tuple _, .none, .int _ => tri_gt2 | .tuple _, .bool _, .int _ => tri_gt2 | .tuple _, .str _, .int _ => tri_gt2 | .tuple _, .list _, .int _ => tri_gt2 | .tuple _, .dict _, .int _ => tri_gt2
  | .tuple _, .none, .tuple _ => tri_gt2 | .tuple _, .bool _, .tuple _ => tri_gt2 | .tuple _, .str _, .tuple _ => tri_gt2 | .tuple _, .list _, .tuple _ => tri_gt2 | .tuple _, .dict _, .tuple _ => tri_gt2
  | .none, .int _, _ => tri_gt | .none, .tuple _, _ => tri_gt
  | .bool _, .int _, _ => tri_gt | .bool _, .tuple _, _ => tri_gt
  | .str _, .int _, _ => tri_gt | .str _, .tuple _, _ => tri_gt
  | .list _, .int _, _ => tri_gt | .list _, .tuple _, _ => tri_gt
  | .dict _, .int _, _ => tri_gt | .dict _, .tuple _, _ => tri_gt
  | .none, y, z => by cases y <;> cases z <;> first | exact tri_eq | exact tri_gt2 | exact tri_gt
  | .bool _, y, z => by cases y <;> cases z <;> first | exact tri_eq | exact tri_gt2 | exact tri_gt
  | .str _, y, z => by cases y <;> cases z <;> first | exact tri_eq | exact tri_gt2 | exact tri_gt
  | .list _, y, z => by cases y <;> cases z <;> first | exact tri_eq | exact tri_gt2 | exact tri_gt
  | .dict _, y, z => by cases y <;> cases z <;> first | exact tri_eq | exact tri_gt2 | exact tri_gt
theorem tri_Xs : ∀ xs ys zs : List PyData, Tri (cmpXs xs ys) (cmpXs ys zs) (cmpXs xs zs)
  | [], [], [] => tri_eq
  | [], _, _ :: _ => tri_lt
  | [], _ :: _, [] => tri_gt2
  | _ :: _, [], _ => tri_gt
  | _ :: _, _ :: _, [] => tri_gt2
  | x :: xs, y :: ys, z :: zs => by
    have h1 := tri_X x y z
    have h2 := tri_Xs xs ys zs
    simp only [cmpXs]
    cases e1 : cmpX x y <;> cases e2 : cmpX y z <;> cases e3 : cmpX x z <;> simp_all [Tri]
end
theorem ltXs_asym (xs ys : List PyData) (h : ltXs xs ys = true) : ltXs ys xs = false := by
  unfold ltXs at *
  rw [cmpXs_swap xs ys]
  have e : cmpXs xs ys = .lt := by simpa using h
  rw [e]; rfl
theorem ltXs_tr (xs ys zs : List PyData) (h1 : ltXs ys xs = false) (h2 : ltXs zs ys = false) : ltXs zs xs = false := by
  unfold ltXs at *
  have a1 : cmpXs xs ys ≠ .gt := fun e => by rw [cmpXs_swap xs ys, e] at h1; simp [Ordering.swap] at h1
  have a2 : cmpXs ys zs ≠ .gt := fun e => by rw [cmpXs_swap ys zs, e] at h2; simp [Ordering.swap] at h2
  have := (tri_Xs xs ys zs a1 a2).1
  rw [cmpXs_swap xs zs]
  cases e : cmpXs xs zs <;> simp_all [Ordering.swap]
theorem swo_Xs : SrtO.Swo ltXs := ⟨ltXs_asym, ltXs_tr⟩
/-! on ints and tuples of such -/
mutual
def frg : PyData → Bool
  | .int _ => true
  | .tuple xs => frgs xs
  | _ => false
def frgs : List PyData → Bool
  | [] => true
  | x :: xs => frg x && frgs xs
end
mutual
theorem eqv_cmpX : ∀ x y : PyData, frg x = true → frg y = true → PyData.eqv x y = (cmpX x y == .eq)
  | .int i, .int j, _, _ => by
    have : PyData.eqv (.int i) (.int j) = (i == j) := by simp only [PyData.eqv]
    rw [this]
    simp only [cmpX, cmpI]
    by_cases h : i = j
    · subst h; simp
    · have h1 : (i == j) = false := by simpa using h
      rw [h1]
      rcases Int.lt_or_gt_of_ne h with h2 | h2
      · rw [if_pos h2]; rfl
      · rw [if_neg (by omega), if_pos h2]; rfl
  | .int i, .tuple ys, _, _ => by simp [PyData.eqv, cmpX]
  | .tuple xs, .int j, _, _ => by simp [PyData.eqv, cmpX]
  | .tuple xs, .tuple ys, h1, h2 => by
    have : PyData.eqv (.tuple xs) (.tuple ys) = PyData.eqvAll xs ys := by simp only [PyData.eqv]
    rw [this]
    simp only [cmpX]
    exact eqv_cmpXs xs ys (by simpa [frg] using h1) (by simpa [frg] using h2)
  | .none, _, h, _ => by simp [frg] at h
  | .bool _, _, h, _ => by simp [frg] at h
  | .str _, _, h, _ => by simp [frg] at h
  | .list _, _, h, _ => by simp [frg] at h
  | .dict _, _, h, _ => by simp [frg] at h
  | .int _, .none, _, h => by simp [frg] at h
  | .int _, .bool _, _, h => by simp [frg] at h
  | .int _, .str _, _, h => by simp [frg] at h
  | .int _, .list _, _, h => by simp [frg] at h
  | .int _, .dict _, _, h => by simp [frg] at h
  | .tuple _, .none, _, h => by simp [frg] at h
  | .tuple _, .bool _, _, h => by simp [frg] at h
  | .tuple _, .str _, _, h => by simp [frg] at h
  | .tuple _, .list _, _, h => by simp [frg] at h
  | .tuple _, .dict _, _, h => by simp [frg] at h
theorem eqv_cmpXs : ∀ xs ys : List PyData, frgs xs = true → frgs ys = true → PyData.eqvAll xs ys = (cmpXs xs ys == .eq)
  | [], [], _, _ => by simp [PyData.eqvAll, cmpXs]
  | [], _ :: _, _, _ => by simp [PyData.eqvAll, cmpXs]
  | _ :: _, [], _, _ => by simp [PyData.eqvAll, cmpXs]
  | x :: xs, y :: ys, h1, h2 => by
    have a : frg x = true ∧ frgs xs = true := by simpa [frgs] using h1
    have b : frg y = true ∧ frgs ys = true := by simpa [frgs] using h2
    have : PyData.eqvAll (x :: xs) (y :: ys) = (PyData.eqv x y && PyData.eqvAll xs ys) := by simp only [PyData.eqvAll]
    rw [this, eqv_cmpX x y a.1 b.1, eqv_cmpXs xs ys a.2 b.2]
    simp only [cmpXs]
    cases cmpX x y <;> simp
end
mutual
theorem ltD_ltX : ∀ x y : PyData, frg x = true → frg y = true → cmb x y = true → ltD x y = ltX x y
  | .int i, .int j, _, _, _ => by
    simp only [ltD, ltX, cmpX, cmpI]
    by_cases h : i < j
    · rw [if_pos h, decide_eq_true h]; rfl
    · rw [if_neg h, decide_eq_false h]
      by_cases h2 : j < i
      · rw [if_pos h2]; rfl
      · rw [if_neg h2]; rfl
  | .tuple xs, .tuple ys, h1, h2, h3 => by
    simp only [ltD, ltX, cmpX]
    exact ltAll_ltXs xs ys (by simpa [frg] using h1) (by simpa [frg] using h2) (by simpa [cmb] using h3)
  | .int _, .tuple _, _, _, h => by simp [cmb] at h
  | .tuple _, .int _, _, _, h => by simp [cmb] at h
  | .none, _, h, _, _ => by simp [frg] at h
  | .bool _, _, h, _, _ => by simp [frg] at h
  | .str _, _, h, _, _ => by simp [frg] at h
  | .list _, _, h, _, _ => by simp [frg] at h
  | .dict _, _, h, _, _ => by simp [frg] at h
  | .int _, .none, _, h, _ => by simp [frg] at h
  | .int _, .bool _, _, h, _ => by simp [frg] at h
  | .int _, .str _, _, h, _ => by simp [frg] at h
  | .int _, .list _, _, h, _ => by simp [frg] at h
  | .int _, .dict _, _, h, _ => by simp [frg] at h
  | .tuple _, .none, _, h, _ => by simp [frg] at h
  | .tuple _, .bool _, _, h, _ => by simp [frg] at h
  | .tuple _, .str _, _, h, _ => by simp [frg] at h
  | .tuple _, .list _, _, h, _ => by simp [frg] at h
  | .tuple _, .dict _, _, h, _ => by simp [frg] at h
theorem ltAll_ltXs : ∀ xs ys : List PyData, frgs xs = true → frgs ys = true → cmbAll xs ys = true → ltAll xs ys = ltXs xs ys
  | [], [], _, _, _ => by simp [ltAll, ltXs, cmpXs]
  | [], _ :: _, _, _, _ => by simp [ltAll, ltXs, cmpXs]
  | _ :: _, [], _, _, _ => by simp [ltAll, ltXs, cmpXs]
  | x :: xs, y :: ys, h1, h2, h3 => by
    have a : frg x = true ∧ frgs xs = true := by simpa [frgs] using h1
    have b : frg y = true ∧ frgs ys = true := by simpa [frgs] using h2
    have c : cmb x y = true ∧ cmbAll xs ys = true := by simpa [cmbAll] using h3
    have ih := ltAll_ltXs xs ys a.2 b.2 c.2
    unfold ltXs at ih ⊢
    simp only [ltAll, cmpXs]
    rw [eqv_cmpX x y a.1 b.1, ltD_ltX x y a.1 b.1 c.1, ih]
    unfold ltX
    cases cmpX x y <;> simp
end
mutual
theorem frg_lay : ∀ x : PyData, frg x = true → x.canLay0 = true
  | .int _, _ => by simp [PyData.canLay0]
  | .tuple xs, h => by simp only [PyData.canLay0]; exact frgs_lay xs (by simpa [frg] using h)
  | .none, h => by simp [frg] at h
  | .bool _, h => by simp [frg] at h
  | .str _, h => by simp [frg] at h
  | .list _, h => by simp [frg] at h
  | .dict _, h => by simp [frg] at h
theorem frgs_lay : ∀ x : List PyData, frgs x = true → PyData.canLayAll0 x = true
  | [], _ => by simp [PyData.canLayAll0]
  | x :: xs, h => by
    have a : frg x = true ∧ frgs xs = true := by simpa [frgs] using h
    simp [PyData.canLayAll0, frg_lay x a.1, frgs_lay xs a.2]
end

/-! ### a plain stable sort -/
section sort
variable {α : Type} {lt : α → α → Bool}
def ins (lt : α → α → Bool) (x : α) : List α → List α
  | [] => [x]
  | y :: ys => if lt y x then y :: ins lt x ys else x :: y :: ys
def isort (lt : α → α → Bool) : List α → List α
  | [] => []
  | x :: xs => ins lt x (isort lt xs)
theorem ins_perm (x : α) : ∀ l : List α, (ins lt x l).Perm (x :: l)
  | [] => List.Perm.refl _
  | y :: ys => by
    unfold ins
    split
    · exact ((ins_perm x ys).cons y).trans (List.Perm.swap x y ys)
    · exact List.Perm.refl _
theorem isort_perm : ∀ l : List α, (isort lt l).Perm l
  | [] => List.Perm.refl _
  | x :: xs => (ins_perm x _).trans ((isort_perm xs).cons x)
theorem ins_sorted (O : SrtO.Swo lt) (x : α) : ∀ l : List α, SrtO.Srtd lt l → SrtO.Srtd lt (ins lt x l)
  | [], _ => SrtO.srtd_one x
  | y :: ys, h => by
    unfold ins
    have h' := List.pairwise_cons.mp h
    cases q : lt y x with
    | true =>
      rw [if_pos rfl]
      refine List.pairwise_cons.mpr ⟨fun z hz => ?_, ins_sorted O x ys h'.2⟩
      rcases List.mem_cons.mp ((ins_perm x ys).mem_iff.mp hz) with e | hz
      · rw [e]; exact O.asym y x q
      · exact h'.1 z hz
    | false =>
      rw [if_neg (by decide)]
      refine List.pairwise_cons.mpr ⟨fun z hz => ?_, h⟩
      rcases List.mem_cons.mp hz with e | hz
      · rw [e]; exact q
      · exact O.tr x y z q (h'.1 z hz)
theorem isort_sorted (O : SrtO.Swo lt) : ∀ l : List α, SrtO.Srtd lt (isort lt l)
  | [] => List.Pairwise.nil
  | x :: xs => ins_sorted O x _ (isort_sorted O xs)
theorem ins_stb (O : SrtO.Swo lt) (x : α) : ∀ l : List α, SrtO.Stb lt (ins lt x l) (x :: l)
  | [] => SrtO.Stb.refl _
  | y :: ys => by
    unfold ins
    cases q : lt y x with
    | true =>
      rw [if_pos rfl]
      have h1 : SrtO.Stb lt ([y] ++ ins lt x ys) ([y] ++ (x :: ys)) := (SrtO.Stb.refl [y]).app (ins_stb O x ys)
      have h2 : SrtO.Stb lt (([y] ++ [x]) ++ ys) (([x] ++ [y]) ++ ys) := (SrtO.Stb.swap O (A := [y]) (B := [x]) fun a ha b hb => by rw [List.mem_singleton.mp ha, List.mem_singleton.mp hb]; exact q).app (SrtO.Stb.refl ys)
      exact h1.trans h2
    | false => rw [if_neg (by decide)]; exact SrtO.Stb.refl _
theorem isort_stb (O : SrtO.Swo lt) : ∀ l : List α, SrtO.Stb lt (isort lt l) l
  | [] => SrtO.Stb.refl _
  | x :: xs => (ins_stb O x _).trans ((SrtO.Stb.refl [x]).app (isort_stb O xs))
end sort
end Lc

set_option Elab.async false
set_option linter.all false
set_option maxRecDepth 100000
set_option maxHeartbeats 4000000
namespace SrtO
open PySem PyProof.Rows Srt Lc
section
variable {prog : Program} {w : World} {A : Around} {E : Value → Shared → Prop} {s : Shared}
theorem katlex_data {b : Bool} (hu : A.units + 60 < cLine) : ∀ (xs ys : List Value) (ds es : List PyData) (as bs : List Addr) (i : Nat), ReadsAll s.heap xs ds as → ReadsAll s.heap ys es bs → frgs ds = true → frgs es = true → PyData.depthAll ds ≤ 40 → cmbAll ds es = true →
    (b = true → i = 0 → (∀ d r, ds = d :: r → ∃ n, d = .int n) ∧ (∀ d r, es = d :: r → ∃ n, d = .int n)) →
    PySem.W.KatLex prog w A b (decide (xs.length < ys.length)) (fun r s' => s' = s ∧ r = ltAll ds es) (xs.zip ys) i s
  | [], [], _, _, _, _, i, .nil, .nil, _, _, _, _, _ => PySem.W.kat_nil ⟨rfl, by simp [ltAll]⟩
  | [], _ :: _, _, _, _, _, i, .nil, .cons _ _, _, _, _, _, _ => PySem.W.kat_nil ⟨rfl, by simp [ltAll]⟩
  | _ :: _, [], _, _, _, _, i, .cons _ _, .nil, _, _, _, _, _ => PySem.W.kat_nil ⟨rfl, by simp [ltAll]⟩
  | x :: xs, y :: ys, d :: ds, e :: es, _, _, i, .cons rx tx, .cons ry ty, f1, f2, hd, hc, hb => by
    have a : frg d = true ∧ frgs ds = true := by simpa [frgs] using f1
    have b' : frg e = true ∧ frgs es = true := by simpa [frgs] using f2
    have c : cmb d e = true ∧ cmbAll ds es = true := by simpa [cmbAll] using hc
    have hd1 : d.depth ≤ 40 ∧ PyData.depthAll ds ≤ 40 := by simp only [PyData.depthAll] at hd; omega
    have hmin := Nat.min_le_left d.depth e.depth
    have ih := katlex_data (b := b) hu xs ys ds es _ _ (i + 1) tx ty a.2 b'.2 hd1.2 c.2 (fun _ h => by omega)
    refine PySem.W.kat_cons (SeqAt.eqAt_reads d e A s x y _ _ rx ry (frg_lay d a.1) (frg_lay e b'.1) (by omega) prog w _ _ ?_)
    refine PySem.W.kat_go (fun e1 => ?_) (fun e1 => ?_)
    · have el : ltAll (d :: ds) (e :: es) = ltAll ds es := by simp only [ltAll]; rw [e1]; rfl
      rw [el]
      have ez : decide ((x :: xs).length < (y :: ys).length) = decide (xs.length < ys.length) := by simp
      rw [ez]
      exact PySem.W.kat_yes ih
    · have el : ltAll (d :: ds) (e :: es) = ltD d e := by simp only [ltAll]; rw [e1]; rfl
      rw [el]
      refine PySem.W.kat_no ?_
      cases hbi : (b && i == 0) with
      | true =>
        have hb1 : b = true ∧ i = 0 := by simpa using hbi
        obtain ⟨k1, k2⟩ := hb hb1.1 hb1.2
        obtain ⟨n, rfl⟩ := k1 d ds rfl
        obtain ⟨m, rfl⟩ := k2 e es rfl
        cases rx; cases ry
        exact oneLt_int ⟨rfl, by simp [ltD]⟩
      | false =>
        refine PySem.W.kat_one _ _ (lt_data 40 A d e x y _ _ hd1.1 c.1 (frg_lay d a.1) (frg_lay e b'.1) rx ry (by omega) prog w _ _ ?_)
        exact (show s = s ∧ ltD d e = ltD d e from ⟨rfl, rfl⟩)
/-- v is a tuple of the data k -/
def IsTD (h : Heap) (v : Value) (k : List PyData) : Prop := ∃ a o vs n as, v = .ref a ∧ h.get? a = some o ∧ o.cls = .type "tuple" ∧ o.data = .seq vs n ∧ ReadsAll h vs.toList k as ∧ frgs k = true ∧ PyData.depthAll k ≤ 40
theorem tups_cmp {vs : List Value} {k : Value → List PyData} {b : Bool} (hu : A.units + 60 < cLine) (hk : ∀ v ∈ vs, IsTD s.heap v (k v)) (hc : ∀ v ∈ vs, ∀ u ∈ vs, cmbAll (k v) (k u) = true) (hb : b = true → ∀ v ∈ vs, ∃ n r, k v = .int n :: r) :
    Cmp prog w A s (tuples' b) (fun p => p.1 ∈ vs) (lt2 fun v u => ltXs (k v) (k u)) := by
  intro p q hm hm'
  show wpAny (model prog w) A (keyLt' (tuples' b) p.1 q.1) (fun r s' => s' = s ∧ r = ltXs (k p.1) (k q.1)) (fun _ _ => False) s
  have c := hc _ hm _ hm'
  have b1 := fun h => hb h _ hm
  have b2 := fun h => hb h _ hm'
  have h1 := hk _ hm
  have h2 := hk _ hm'
  generalize k p.1 = d at *
  generalize k q.1 = e at *
  obtain ⟨a, o, xs, n, as, e1, ho, hcl, hd, r1, f1, z1⟩ := h1
  obtain ⟨a', o', ys, n', as', e2, ho', hcl', hd', r2, f2, z2⟩ := h2
  rw [e1, e2, ← ltAll_ltXs d e f1 f2 c]
  refine PySem.W.kat_lt ho hd ho' hd' ?_
  have key := katlex_data (prog := prog) (w := w) (s := s) (b := b) hu xs.toList ys.toList d e as as' 0 r1 r2 f1 f2 z1 c (fun hbt _ => ⟨fun d' r' ed => ?_, fun d' r' ed => ?_⟩)
  · simpa using key
  · obtain ⟨n, r, eq⟩ := b1 hbt
    rw [eq] at ed; cases ed; exact ⟨n, rfl⟩
  · obtain ⟨n, r, eq⟩ := b2 hbt
    rw [eq] at ed; cases ed; exact ⟨n, rfl⟩
theorem katTups_of {h : Heap} : ∀ (vs : List Value) {k : Value → List PyData}, (∀ v ∈ vs, IsTD h v (k v)) → (∀ v ∈ vs, k v ≠ []) → ∃ fs, PySem.W.KatTups h vs fs ∧ fs.length = vs.length ∧ ∀ f ∈ fs, ∃ v ∈ vs, ∃ d r as, k v = d :: r ∧ Reads h f d as
  | [], _, _, _ => ⟨[], trivial, rfl, fun f hf => by simp at hf⟩
  | v :: vs, k, hk, hn => by
    obtain ⟨fs, h1, h2, h3⟩ := katTups_of vs (k := k) (fun u hu => hk u (by simp [hu])) (fun u hu => hn u (by simp [hu]))
    obtain ⟨a, o, xs, n, as, e1, ho, hc, hd, r1, f1, z1⟩ := hk v (by simp)
    have hne := hn v (by simp)
    cases ek : k v with
    | nil => exact absurd ek hne
    | cons d r =>
      rw [ek] at r1
      cases hxs : xs.toList with
      | nil => rw [hxs] at r1; cases r1
      | cons f fr =>
        rw [hxs] at r1
        cases r1 with
        | cons rf rt =>
          have hf : xs[0]? = some f := by
            rw [← Array.getElem?_toList, hxs] <;> rfl
          subst e1
          refine ⟨f :: fs, ⟨⟨a, o, xs, n, rfl, ho, hc, hd, hf⟩, h1⟩, by simp [h2], fun g hg => ?_⟩
          rcases List.mem_cons.mp hg with e | hg
          · subst e; exact ⟨_, by simp, d, r, _, ek, rf⟩
          · obtain ⟨u, hu, q⟩ := h3 g hg
            exact ⟨u, by simp [hu], q⟩
mutual
theorem reads_keeps {h h' : Heap} (kp : ∀ b o, h.get? b = some o → o.cls = .type "tuple" → h'.get? b = some o) : ∀ (d : PyData) {v : Value} {as : List Addr}, frg d = true → Reads h v d as → Reads h' v d as
  | .int i, _, _, _, r => by cases r; exact .int _ _
  | .tuple xs, _, _, f, r => by
    cases r with
    | tuple h1 h2 h3 h4 => exact .tuple (kp _ _ h1 h2) h2 h3 (readsAll_keeps kp xs (by simpa [frg] using f) h4)
  | .none, _, _, f, _ => by simp [frg] at f
  | .bool _, _, _, f, _ => by simp [frg] at f
  | .str _, _, _, f, _ => by simp [frg] at f
  | .list _, _, _, f, _ => by simp [frg] at f
  | .dict _, _, _, f, _ => by simp [frg] at f
theorem readsAll_keeps {h h' : Heap} (kp : ∀ b o, h.get? b = some o → o.cls = .type "tuple" → h'.get? b = some o) : ∀ (ds : List PyData) {vs : List Value} {as : List Addr}, frgs ds = true → ReadsAll h vs ds as → ReadsAll h' vs ds as
  | [], _, _, _, r => by cases r; exact .nil
  | d :: ds, _, _, f, r => by
    have a : frg d = true ∧ frgs ds = true := by simpa [frgs] using f
    cases r with
    | cons h1 h2 => exact .cons (reads_keeps kp d a.1 h1) (readsAll_keeps kp ds a.2 h2)
end
theorem IsTD.keeps {h h' : Heap} {v : Value} {k : List PyData} (x : IsTD h v k) (kp : ∀ b o, h.get? b = some o → o.cls = .type "tuple" → h'.get? b = some o) : IsTD h' v k := by
  obtain ⟨a, o, xs, n, as, e1, ho, hc, hd, r1, f1, z1⟩ := x
  exact ⟨a, o, xs, n, as, e1, kp _ _ ho hc, hc, hd, readsAll_keeps kp k f1 r1, f1, z1⟩
def FirstsOk (ds : List (List PyData)) : Prop := (∀ d ∈ ds, ∃ i r, d = .int i :: r) ∨ (∀ d ∈ ds, ∃ t r, d = .tuple t :: r)
theorem tups_sortable {a : Addr} {vs : List Value} {k : Value → List PyData} (h0 : 0 < vs.length) (hu : A.units + 60 < cLine) (hk : ∀ v ∈ vs, IsTD s.heap v (k v)) (hc : ∀ v ∈ vs, ∀ u ∈ vs, cmbAll (k v) (k u) = true) (hf : FirstsOk (vs.map k))
    (ha : ∀ o, s.heap.get? a = some o → o.cls ≠ .type "tuple") : SortableO prog w A s a vs fun v u => ltXs (k v) (k u) := by
  intro h' keep
  have hk' : ∀ v ∈ vs, IsTD h' v (k v) := fun v hm => (hk v hm).keeps fun b o e c => keep b o (fun z => by subst z; exact ha o e c) e
  have hn : ∀ v ∈ vs, k v ≠ [] := fun v hv => by
    rcases hf with hf | hf
    · obtain ⟨i, r, e⟩ := hf (k v) (List.mem_map.mpr ⟨v, hv, rfl⟩); rw [e]; simp
    · obtain ⟨i, r, e⟩ := hf (k v) (List.mem_map.mpr ⟨v, hv, rfl⟩); rw [e]; simp
  obtain ⟨fs, h1, h2, h3⟩ := katTups_of (h := h') vs hk' hn
  rcases hf with hf | hf
  · refine ⟨tuples' true, fun Q E hq => ?_, tups_cmp (s := { s with heap := h' }) hu hk' hc fun _ v hv => hf (k v) (List.mem_map.mpr ⟨v, hv, rfl⟩)⟩
    refine PySem.W.kat_kind (T := .type "int") h1 (by omega) (fun f hm => ?_) (by rfl) ?_
    · obtain ⟨v, hv, d, r, as, e, rd⟩ := h3 f hm
      obtain ⟨i, r', e'⟩ := hf (k v) (List.mem_map.mpr ⟨v, hv, rfl⟩)
      rw [e'] at e
      cases e
      cases rd
      exact PySem.W.Looks.now
    · have e : (Value.type "int" != Value.type "tuple") = true := by first | decide +kernel | rfl | decide
      rw [e]
      exact hq
  · refine ⟨tuples' false, fun Q E hq => ?_, tups_cmp (s := { s with heap := h' }) hu hk' hc (fun z => by cases z)⟩
    refine PySem.W.kat_kind (T := .type "tuple") h1 (by omega) (fun f hm => ?_) (by rfl) ?_
    · obtain ⟨v, hv, d, r, as, e, rd⟩ := h3 f hm
      obtain ⟨i, r', e'⟩ := hf (k v) (List.mem_map.mpr ⟨v, hv, rfl⟩)
      rw [e'] at e
      cases e
      cases rd with
      | tuple q1 q2 q3 q4 => exact fun A Q E s k q => wpAny_typeOf_ref (k _ _ q1) (by rw [q2]; exact q)
    · have e : (Value.type "tuple" != Value.type "tuple") = false := by first | decide +kernel | rfl | decide
      rw [e]
      exact hq
theorem swo_k (k : Value → List PyData) : Swo fun v u => ltXs (k v) (k u) := ⟨fun x y h => ltXs_asym _ _ h, fun x y z h1 h2 => ltXs_tr _ _ _ h1 h2⟩
theorem sorted_tupsD {l : Addr} {vs : List Value} {k : Value → List PyData} {Q : Value → Shared → Prop} (hu : A.units + 70 < cLine) (hl : s.heap.IsList l vs.toArray) (hz : vs.length ≤ sizeLine) (hk : ∀ v ∈ vs, IsTD s.heap v (k v)) (hc : ∀ v ∈ vs, ∀ u ∈ vs, cmbAll (k v) (k u) = true) (hf : FirstsOk (vs.map k))
    (h : ∀ (h' : Heap) (d : Addr) (out : List Value), Srtd (fun v u => ltXs (k v) (k u)) out → Stb (fun v u => ltXs (k v) (k u)) out vs → (∀ b o, s.heap.get? b = some o → h'.get? b = some o) → s.heap.objs.size ≤ d → (∃ n, h'.get? d = some (seqObj "list" out.toArray n)) → Q (.ref d) { s with heap := h' }) :
    wpAny (model prog w) A (call (.builtin "sorted") [.ref l]) Q E s := by
  refine sorted_ord (swo_k k) hl hz (fun h2 h₁ a ha kk => ?_) fun out hs hb => ?_
  · refine tups_sortable (A := A.in1.in1) (s := { s with heap := h₁ }) (by omega) (show A.units + 1 + 1 + 60 < cLine by omega) (fun v hm => (hk v hm).keeps fun b o e _ => (kk b o e).2) hc hf fun o e => ?_
    have e' : some o = some (seqObj "list" vs.toArray 0) := e.symm.trans ha
    cases e'
    intro c
    exact absurd (Value.type.inj c) (by decide)
  · exact h _ _ out hs hb (fun b o e => sortedAll_old e) (Nat.le_succ _) (sortedAll_at s.heap vs out.toArray)
end
end SrtO

set_option Elab.async false
set_option linter.all false
set_option maxRecDepth 100000
set_option maxHeartbeats 4000000
namespace Lc
open PySem L2 PySem.Spec PyProof.Rows
mutual
theorem dq_uniq {K : PySem.W.Frag} {F : Hp} : ∀ (d e : PyData) {v : V}, frg d = true → frg e = true → Dq K F v d → Dq K F v e → d = e
  | .int i, .int j, _, _, _, h1, h2 => by cases h1; cases h2; rfl
  | .tuple xs, .tuple ys, _, f1, f2, h1, h2 => by
    cases h1 with
    | tup a1 a2 =>
      cases h2 with
      | tup b1 b2 =>
        have e := rd_uniq a1 b1
        subst e
        rw [dqs_uniq xs ys (by simpa [frg] using f1) (by simpa [frg] using f2) a2 b2]
  | .int _, .tuple _, _, _, _, h1, h2 => by cases h1; cases h2
  | .tuple _, .int _, _, _, _, h1, h2 => by cases h2; cases h1
  | .none, _, _, f, _, _, _ => by simp [frg] at f
  | .bool _, _, _, f, _, _, _ => by simp [frg] at f
  | .str _, _, _, f, _, _, _ => by simp [frg] at f
  | .list _, _, _, f, _, _, _ => by simp [frg] at f
  | .dict _, _, _, f, _, _, _ => by simp [frg] at f
  | .int _, .none, _, _, f, _, _ => by simp [frg] at f
  | .int _, .bool _, _, _, f, _, _ => by simp [frg] at f
  | .int _, .str _, _, _, f, _, _ => by simp [frg] at f
  | .int _, .list _, _, _, f, _, _ => by simp [frg] at f
  | .int _, .dict _, _, _, f, _, _ => by simp [frg] at f
  | .tuple _, .none, _, _, f, _, _ => by simp [frg] at f
  | .tuple _, .bool _, _, _, f, _, _ => by simp [frg] at f
  | .tuple _, .str _, _, _, f, _, _ => by simp [frg] at f
  | .tuple _, .list _, _, _, f, _, _ => by simp [frg] at f
  | .tuple _, .dict _, _, _, f, _, _ => by simp [frg] at f
theorem dqs_uniq {K : PySem.W.Frag} {F : Hp} : ∀ (ds es : List PyData) {vs : List V}, frgs ds = true → frgs es = true → DqAll K F vs ds → DqAll K F vs es → ds = es
  | [], [], _, _, _, _, _ => rfl
  | [], _ :: _, _, _, _, h1, h2 => by cases h1; cases h2
  | _ :: _, [], _, _, _, h1, h2 => by cases h2; cases h1
  | d :: ds, e :: es, _, f1, f2, h1, h2 => by
    have a : frg d = true ∧ frgs ds = true := by simpa [frgs] using f1
    have b : frg e = true ∧ frgs es = true := by simpa [frgs] using f2
    cases h1 with
    | cons h3 h4 =>
      cases h2 with
      | cons h5 h6 => rw [dq_uniq d e a.1 b.1 h3 h5, dqs_uniq ds es a.2 b.2 h4 h6]
end
/-- sorted(xs), xs a list of tuples of ints and of such tuples: a new list -/
def rSortTD (K : PySem.W.Frag) : List V → Hp → VK → Prop := fun vs H Q => ∃ (F : Hp) (a : Addr) (xs : List V) (ds : List (List PyData)), vs = [V.ref a] ∧ Same F H ∧ H a = some (.lst xs) ∧ DqAll K F xs (ds.map .tuple) ∧
  (∀ d ∈ ds, frgs d = true ∧ PyData.depthAll d ≤ 40) ∧ (∀ d ∈ ds, ∀ e ∈ ds, cmbAll d e = true) ∧ SrtO.FirstsOk ds ∧ ∀ ys p, DqAll K F ys ((isort ltXs ds).map .tuple) → H p = none → Q (.ref p) (upd H p (.lst ys))
theorem dqall_of {K : PySem.W.Frag} {F : Hp} {k : V → List PyData} : ∀ (vs : List V), (∀ v ∈ vs, Dq K F v (.tuple (k v))) → DqAll K F vs ((vs.map k).map .tuple)
  | [], _ => .nil
  | v :: vs, h => .cons (h v (by simp)) (dqall_of vs fun u hu => h u (by simp [hu]))
theorem dqall_map {K : PySem.W.Frag} {F : Hp} : ∀ {vs : List V} {ds : List (List PyData)} {k : V → List PyData}, DqAll K F vs (ds.map .tuple) → (∀ v d, v ∈ vs → d ∈ ds → Dq K F v (.tuple d) → k v = d) → vs.map k = ds
  | [], [], _, _, _ => rfl
  | [], _ :: _, _, h, _ => by cases h
  | _ :: _, [], _, h, _ => by cases h
  | v :: vs, d :: ds, k, h, hk => by
    cases h with
    | cons h1 h2 =>
      rw [List.map_cons, hk v d (by simp) (by simp) h1, dqall_map h2 fun u e hu he => hk u e (by simp [hu]) (by simp [he])]
theorem cr_sortTD {X : Cx} (hu : X.A.units + 70 < cLine) : CallR X (.builtin "sorted") (rSortTD X.K) := by
  intro pins s σ H vs us Q I r h
  obtain ⟨F, a, xs, ds, rfl, sF, hs, hx, hfr, hcm, hfi, q⟩ := h
  obtain ⟨its, rv, hl, hz⟩ := I.list (SqL.of hs)
  obtain ⟨u, rfl, ru⟩ := vals1 r
  obtain rfl : u = Value.ref a := ru
  classical
  let k : V → List PyData := fun v => if h : ∃ d, d ∈ ds ∧ Dq X.K F v (.tuple d) then h.choose else []
  have hkv : ∀ v d, d ∈ ds → Dq X.K F v (.tuple d) → k v = d := fun v d hd h => by
    have hex : ∃ d, d ∈ ds ∧ Dq X.K F v (.tuple d) := ⟨d, hd, h⟩
    show (if h : ∃ d, d ∈ ds ∧ Dq X.K F v (.tuple d) then h.choose else []) = d
    rw [dif_pos hex]
    have h2 := hex.choose_spec
    have h3 := dq_uniq (.tuple hex.choose) (.tuple d) (by simp only [frg]; exact (hfr _ h2.1).1) (by simp only [frg]; exact (hfr d hd).1) h2.2 h
    exact PyData.tuple.inj h3
  have hmem : ∀ v ∈ xs, ∃ d, d ∈ ds ∧ Dq X.K F v (.tuple d) := fun v hv => by
    obtain ⟨i, hi, e⟩ := List.mem_iff_getElem.mp hv
    have h1 : xs[i]? = some v := by rw [List.getElem?_eq_getElem hi, e]
    obtain ⟨d, h2, h3⟩ := hx.getV h1
    rw [List.getElem?_map] at h2
    cases q : ds[i]? with
    | none => rw [q] at h2; cases h2
    | some d' =>
      rw [q] at h2
      have e2 : PyData.tuple d' = d := Option.some.inj h2
      subst e2
      exact ⟨d', List.mem_of_getElem? q, h3⟩
  have emap : xs.map k = ds := dqall_map hx fun v d _ hd h => hkv v d hd h
  obtain ⟨e1, e2⟩ := refs_back rv fun x m => by
    obtain ⟨d, _, h⟩ := hmem x m
    cases h with
    | tup _ _ => exact ⟨_, rfl⟩
  have hit : ∀ v ∈ its, backV v ∈ xs := fun v hv => by rw [e1]; exact List.mem_map.mpr ⟨v, hv, rfl⟩
  have kits : its.map (fun u => k (backV u)) = ds := by rw [← emap, e1, List.map_map]; rfl
  refine SrtO.sorted_tupsD (k := fun u => k (backV u)) hu hl.isList (by rw [← rv.length]; exact hz) (fun v hv => ?_) (fun v hv u hu' => ?_) (by rw [kits]; exact hfi) fun h' d out h1 h2 kp hd hn => ?_
  · obtain ⟨t, rfl⟩ := e2 v hv
    obtain ⟨d, hd, h⟩ := hmem _ (hit _ hv)
    have ek : k (backV (.ref t)) = d := hkv _ d hd h
    show SrtO.IsTD s.heap (.ref t) (k (backV (.ref t)))
    rw [ek]
    have hd' : Dq X.K H (V.ref t) (.tuple d) := dp_same sF h
    have hdp := dq_dp _ (frg_lay (.tuple d) (by simp only [frg]; exact (hfr d hd).1)) hd'
    obtain ⟨as, rd⟩ := Dp.reads I (.tuple d) _ (.ref t) hdp rfl
    cases rd with
    | tuple q1 q2 q3 q4 => exact ⟨t, _, _, _, as, rfl, q1, q2, q3, q4, (hfr d hd).1, (hfr d hd).2⟩
  · obtain ⟨d, hd, h⟩ := hmem _ (hit _ hv)
    obtain ⟨d', hd', h'⟩ := hmem _ (hit _ hu')
    show cmbAll (k (backV v)) (k (backV u)) = true
    rw [hkv _ d hd h, hkv _ d' hd' h']
    exact hcm d hd d' hd'
  · have h3 : ∀ u ∈ out, u ∈ its := fun u hu => h2.perm.mem_iff.mp hu
    obtain ⟨n, hn⟩ := hn
    have hb := SrtO.Stb.map swo_Xs (fun u => k (backV u)) h2
    have hsd := SrtO.srtd_map (lt := ltXs) (f := fun u => k (backV u)) h1
    rw [kits] at hb
    have eo : out.map (fun u => k (backV u)) = isort ltXs ds := by
      refine SrtO.stb_uniq swo_Xs hsd (isort_sorted swo_Xs ds) (hb.trans ?_)
      have h := isort_stb swo_Xs ds
      exact ⟨h.perm.symm, fun x => (h.cls x).symm⟩
    have ho : ∀ v ∈ out.map backV, Dq X.K F v (.tuple (k v)) := fun v hv => by
      obtain ⟨u, hu, rfl⟩ := List.mem_map.mp hv
      obtain ⟨d, hd, h⟩ := hmem _ (hit _ (h3 u hu))
      rw [hkv _ d hd h]; exact h
    have hall := dqall_of (out.map backV) ho
    have hall' : DqAll X.K F (out.map backV) ((isort ltXs ds).map .tuple) := by
      rw [← eo]
      have e3 : (out.map backV).map k = out.map (fun u => k (backV u)) := by rw [List.map_map]; rfl
      rw [e3] at hall
      exact hall
    refine ⟨.ref d, upd H d (.lst (out.map backV)), I.laid (t' := s.toks) kp hd ⟨?_, out, n, vals_back (fun u hu => e2 u (h3 u hu)), hn⟩, rfl, q _ d hall' (I.hok.fresh hd)⟩
    rw [List.length_map, h2.perm.length_eq, ← rv.length]; exact hz
/-- sorted: of ints, of tuples -/
def rSortD (K : PySem.W.Frag) : List V → Hp → VK → Prop := cO (rSortedI K) (rSortTD K)
theorem cr_sortD {X : Cx} (hu : X.A.units + 70 < cLine) : CallR X (.builtin "sorted") (rSortD X.K) := cr_o cr_sortedI (cr_sortTD hu)
section
variable {K : PySem.W.Frag}
theorem ca_sortT {ds : List (List PyData)} (h1 : ∀ d ∈ ds, frgs d = true ∧ PyData.depthAll d ≤ 40) (h2 : ∀ d ∈ ds, ∀ e ∈ ds, cmbAll d e = true) (h3 : SrtO.FirstsOk ds) : CaD K (rSortD K) [.list (ds.map .tuple)] (.list ((isort ltXs ds).map .tuple)) := CaD.inr fun A xs H l hx Q q => by
  cases hx with
  | cons h4 h5 =>
    cases h5
    cases h4 with
    | lst k1 k2 => exact ⟨cut A H, _, _, ds, rfl, same_cut, same_cut _ _ k1, k2, h1, h2, h3, fun ys p hy hp => q _ _ (same_new hp) (.lst (cut_new l hp) (dpall_same (cut_same (same_new hp)) hy))⟩
/-- ints -/
def ltI (i j : Int) : Bool := decide (i < j)
theorem swo_I : SrtO.Swo ltI := ⟨fun x y h => by simp [ltI] at *; omega, fun x y z h1 h2 => by simp [ltI] at *; omega⟩
theorem perm_sorted_eq : ∀ {l m : List Int}, l.Perm m → l.Pairwise (· ≤ ·) → m.Pairwise (· ≤ ·) → l = m := fun {l m} h h1 h2 =>
  SrtO.stb_uniq (lt := ltI) swo_I (h1.imp fun {a b} hab => by simp [ltI]; omega) (h2.imp fun {a b} hab => by simp [ltI]; omega) ⟨h, fun x => by
    have aux : ∀ k : List Int, k.filter (SrtO.eqv ltI x) = List.replicate (k.count x) x := by
      intro k
      induction k with
      | nil => rfl
      | cons y k ih =>
        by_cases e : y = x
        · subst e
          rw [List.filter_cons_of_pos (by simp [SrtO.eqv, ltI]), ih, List.count_cons_self]; rfl
        · rw [List.filter_cons_of_neg (by simp [SrtO.eqv, ltI]; omega), ih, List.count_cons_of_ne (by simpa using e)]
    rw [aux, aux, h.count_eq]⟩
theorem ca_sortI {ns : List Int} : CaD K (rSortD K) [.list (ns.map .int)] (.list ((isort ltI ns).map .int)) := CaD.inl fun A xs H l hx Q q => by
  cases hx with
  | cons h4 h5 =>
    cases h5
    cases h4 with
    | lst k1 k2 =>
      have e := k2.ints; subst e
      refine ⟨_, ns, rfl, SqL.of (same_cut _ _ k1), fun ns' p hp hs hn => q _ _ (same_new hn) (.lst (cut_new l hn) ?_)⟩
      have e : ns' = isort ltI ns := perm_sorted_eq (hp.trans (isort_perm ns).symm) hs ((isort_sorted swo_I ns).imp fun {a b} hab => by simp [ltI] at hab; omega)
      rw [e]
      exact DqAll.ofInts _
end
end Lc

set_option Elab.async false
set_option linter.all false
set_option maxRecDepth 100000
set_option maxHeartbeats 4000000
namespace Lc
open PySem L2 PySem.Spec PyProof.Rows
/-! ### isinstance -/
def tyName : PyData → Option String
  | .none => some "NoneType"
  | .bool _ => some "bool"
  | .int _ => some "int"
  | .str _ => some "str"
  | .list _ => some "list"
  | .tuple _ => some "tuple"
  | .dict [] => some "dict"
  | .dict (_ :: _) => none
theorem dq_ty {K : PySem.W.Frag} {H : Hp} {v : V} {d : PyData} {n : String} (h : Dq K H v d) (hn : tyName d = some n) : TyX K H v (.type n) := by
  cases h with
  | non => cases hn; exact .base .non
  | bl b => cases hn; exact .base (.bl b)
  | int i => cases hn; exact .base (.int i)
  | str x => cases hn; exact .base (.str x)
  | lst h1 h2 => cases hn; exact .base (.lst h1)
  | tup h1 h2 =>
    cases hn
    rcases h1 with h1 | ⟨o, h1⟩
    · exact .base (.tup h1)
    · exact .fTuple h1
  | ftp h1 h2 h3 => simp [tyName, ftD] at hn
  | ptp h1 h2 => simp [tyName, ptD] at hn
  | scr h1 => simp [tyName, scrD] at hn
  | adr a => simp [tyName, adrD] at hn
  | exc h1 => simp [tyName, excD] at hn
  | dct h1 h2 =>
    rename_i a kvs ds
    have : n = "dict" := by
      unfold dctD at hn
      cases hz : ((kvs.map (·.1)).map keyD).zip ds with
      | nil => rw [hz] at hn; exact (Option.some.inj hn).symm
      | cons p r => rw [hz] at hn; cases hn
    subst this
    exact .base (.dK h1)
  | ty n => simp [tyName, tyD] at hn
def isTuple : PyData → Bool
  | .tuple _ => true
  | _ => false
def isIntB : PyData → Bool
  | .int _ => true
  | .bool _ => true
  | _ => false
def isBool : PyData → Bool
  | .bool _ => true
  | _ => false
def isStr : PyData → Bool
  | .str _ => true
  | _ => false
section
variable {K : PySem.W.Frag} {d : PyData} {ρ : Rho} {ta : TE}
/-- isinstance(e, T), T a built-in class -/
def tIsi (K : PySem.W.Frag) (T : String) (ta : TE) : TE := tCB (rIsi K) (tCons ta (tCons (tC (.ty T)) tNil))
theorem ev_isi {T : String} {n : String} {b : Bool} (h : EvD K ta ρ d) (hn : tyName d = some n) (hb : kitB n T = some b) : EvD K (tIsi K T ta) ρ (.bool b) := fun A σ H l hE Q q =>
  h A σ H l hE _ fun v H1 s1 hv => ⟨v, .ty T, .type n, .type T, b, rfl, .ty T, dq_ty (dq_out hv) hn, kit_ty hb, q _ H1 s1 (.bl _)⟩
theorem ev_isTuple (h : EvD K ta ρ d) (hd : (tyName d).isSome = true) : EvD K (tIsi K "tuple" ta) ρ (.bool (isTuple d)) := by
  cases d with
  | dict l =>
    cases l with
    | nil => first | exact ev_isi (b := true) h rfl (by decide +kernel) | exact ev_isi (b := false) h rfl (by decide +kernel)
    | cons p r => simp [tyName] at hd
  | none => first | exact ev_isi (b := true) h rfl (by decide +kernel) | exact ev_isi (b := false) h rfl (by decide +kernel)
  | bool _ => first | exact ev_isi (b := true) h rfl (by decide +kernel) | exact ev_isi (b := false) h rfl (by decide +kernel)
  | int _ => first | exact ev_isi (b := true) h rfl (by decide +kernel) | exact ev_isi (b := false) h rfl (by decide +kernel)
  | str _ => first | exact ev_isi (b := true) h rfl (by decide +kernel) | exact ev_isi (b := false) h rfl (by decide +kernel)
  | list _ => first | exact ev_isi (b := true) h rfl (by decide +kernel) | exact ev_isi (b := false) h rfl (by decide +kernel)
  | tuple _ => first | exact ev_isi (b := true) h rfl (by decide +kernel) | exact ev_isi (b := false) h rfl (by decide +kernel)
theorem ev_isInt (h : EvD K ta ρ d) (hd : (tyName d).isSome = true) : EvD K (tIsi K "int" ta) ρ (.bool (isIntB d)) := by
  cases d with
  | dict l =>
    cases l with
    | nil => first | exact ev_isi (b := true) h rfl (by decide +kernel) | exact ev_isi (b := false) h rfl (by decide +kernel)
    | cons p r => simp [tyName] at hd
  | none => first | exact ev_isi (b := true) h rfl (by decide +kernel) | exact ev_isi (b := false) h rfl (by decide +kernel)
  | bool _ => first | exact ev_isi (b := true) h rfl (by decide +kernel) | exact ev_isi (b := false) h rfl (by decide +kernel)
  | int _ => first | exact ev_isi (b := true) h rfl (by decide +kernel) | exact ev_isi (b := false) h rfl (by decide +kernel)
  | str _ => first | exact ev_isi (b := true) h rfl (by decide +kernel) | exact ev_isi (b := false) h rfl (by decide +kernel)
  | list _ => first | exact ev_isi (b := true) h rfl (by decide +kernel) | exact ev_isi (b := false) h rfl (by decide +kernel)
  | tuple _ => first | exact ev_isi (b := true) h rfl (by decide +kernel) | exact ev_isi (b := false) h rfl (by decide +kernel)
theorem ev_isBool (h : EvD K ta ρ d) (hd : (tyName d).isSome = true) : EvD K (tIsi K "bool" ta) ρ (.bool (isBool d)) := by
  cases d with
  | dict l =>
    cases l with
    | nil => first | exact ev_isi (b := true) h rfl (by decide +kernel) | exact ev_isi (b := false) h rfl (by decide +kernel)
    | cons p r => simp [tyName] at hd
  | none => first | exact ev_isi (b := true) h rfl (by decide +kernel) | exact ev_isi (b := false) h rfl (by decide +kernel)
  | bool _ => first | exact ev_isi (b := true) h rfl (by decide +kernel) | exact ev_isi (b := false) h rfl (by decide +kernel)
  | int _ => first | exact ev_isi (b := true) h rfl (by decide +kernel) | exact ev_isi (b := false) h rfl (by decide +kernel)
  | str _ => first | exact ev_isi (b := true) h rfl (by decide +kernel) | exact ev_isi (b := false) h rfl (by decide +kernel)
  | list _ => first | exact ev_isi (b := true) h rfl (by decide +kernel) | exact ev_isi (b := false) h rfl (by decide +kernel)
  | tuple _ => first | exact ev_isi (b := true) h rfl (by decide +kernel) | exact ev_isi (b := false) h rfl (by decide +kernel)
theorem ev_isStr (h : EvD K ta ρ d) (hd : (tyName d).isSome = true) : EvD K (tIsi K "str" ta) ρ (.bool (isStr d)) := by
  cases d with
  | dict l =>
    cases l with
    | nil => first | exact ev_isi (b := true) h rfl (by decide +kernel) | exact ev_isi (b := false) h rfl (by decide +kernel)
    | cons p r => simp [tyName] at hd
  | none => first | exact ev_isi (b := true) h rfl (by decide +kernel) | exact ev_isi (b := false) h rfl (by decide +kernel)
  | bool _ => first | exact ev_isi (b := true) h rfl (by decide +kernel) | exact ev_isi (b := false) h rfl (by decide +kernel)
  | int _ => first | exact ev_isi (b := true) h rfl (by decide +kernel) | exact ev_isi (b := false) h rfl (by decide +kernel)
  | str _ => first | exact ev_isi (b := true) h rfl (by decide +kernel) | exact ev_isi (b := false) h rfl (by decide +kernel)
  | list _ => first | exact ev_isi (b := true) h rfl (by decide +kernel) | exact ev_isi (b := false) h rfl (by decide +kernel)
  | tuple _ => first | exact ev_isi (b := true) h rfl (by decide +kernel) | exact ev_isi (b := false) h rfl (by decide +kernel)
theorem sh_ty {n : Nat} (h : Sh n d) : (tyName d).isSome = true := by
  cases d <;> first | rfl | (have := h.1; simp [PyData.canLay0] at this)
/-! slices -/
def cutD (xs : List PyData) (lo hi : Option Int) : List PyData := (xs.drop (HT.sIx xs.length 0 lo)).take (HT.sIx xs.length xs.length hi - HT.sIx xs.length 0 lo)
theorem cut_dq {F : Hp} {vs : List V} {ds : List PyData} {lo hi : Option Int} (h : DqAll K F vs ds) : DqAll K F (cutV vs lo hi) (cutD ds lo hi) := by
  unfold cutV cutD
  rw [h.length]
  exact (h.drop _).take _
def rSlStr : V → Option Int → Option Int → Hp → VK → Prop := fun x lo hi H Q => ∃ z, x = .str z ∧ z.length ≤ sizeLine ∧ Q (.str (cutS z lo hi)) H
def rSlU (K : PySem.W.Frag) : V → Option Int → Option Int → Hp → VK → Prop := fun x lo hi H Q => rSlL K x lo hi H Q ∨ rSlA K x lo hi H Q ∨ rSlStr x lo hi H Q
def EvO (K : PySem.W.Frag) (to : TO) (ρ : Rho) (o : Option Int) : Prop :=
  ∀ A σ H, Live A H → EnvD K (cut A H) σ ρ → ∀ Q : Option Int → Hp → Prop, (∀ H', Same H H' → Q o H') → to σ H Q
theorem eo_none : EvO K tNoPart ρ none := fun A σ H l hE Q q => q H (Same.refl H)
theorem eo_some {i : Int} (h : EvD K ta ρ (.int i)) : EvO K (tPart ta) ρ (some i) := fun A σ H l hE Q q => h A σ H l hE _ fun v H1 s1 hv => by
  cases hv; exact ⟨i, rfl, q H1 s1⟩
theorem ev_slT {ds : List PyData} {lo hi : TO} {i j : Option Int} (h : EvD K ta ρ (.tuple ds)) (hl : EvO K lo ρ i) (hh : EvO K hi ρ j) : EvD K (tSl (rSlU K) ta lo hi) ρ (.tuple (cutD ds i j)) := fun A σ H l hE Q q =>
  h A σ H l hE _ fun v H1 s1 hv => hl A σ H1 (l.same s1) (hE.same (cut_same s1)) _ fun H2 s2 => hh A σ H2 (l.same (s1.trans s2)) (hE.same (cut_same (s1.trans s2))) _ fun H3 s3 => by
    have hv3 := dp_same (cut_same (s2.trans s3)) hv
    cases hv3 with
    | tup k1 k2 =>
      rename_i a0 xs0
      refine .inr (.inl ⟨_, _, rfl, sqt_cut k1, fun hw => ?_, fun _ p hp => ?_⟩)
      · refine q _ H3 ((s1.trans s2).trans s3) ?_
        have e : cutD ds i j = ds := by
          unfold cutD
          rw [← k2.length, hw.1, hw.2, List.drop_zero, Nat.sub_zero, k2.length, List.take_length]
        rw [e]; exact .tup k1 k2
      · have sn := same_new (o := .tup (cutV xs0 i j)) hp
        exact q _ _ (((s1.trans s2).trans s3).trans sn) (.tup (.inl (cut_new (l.same ((s1.trans s2).trans s3)) hp)) (dpall_same (cut_same sn) (cut_dq k2)))
theorem ev_slL {ds : List PyData} {lo hi : TO} {i j : Option Int} (h : EvD K ta ρ (.list ds)) (hl : EvO K lo ρ i) (hh : EvO K hi ρ j) : EvD K (tSl (rSlU K) ta lo hi) ρ (.list (cutD ds i j)) := fun A σ H l hE Q q =>
  h A σ H l hE _ fun v H1 s1 hv => hl A σ H1 (l.same s1) (hE.same (cut_same s1)) _ fun H2 s2 => hh A σ H2 (l.same (s1.trans s2)) (hE.same (cut_same (s1.trans s2))) _ fun H3 s3 => by
    have hv3 := dp_same (cut_same (s2.trans s3)) hv
    cases hv3 with
    | lst k1 k2 =>
      rename_i a0 xs0
      refine .inl ⟨_, _, rfl, SqL.of (same_cut _ _ k1), fun p hp => ?_⟩
      have sn := same_new (o := .lst (cutV xs0 i j)) hp
      exact q _ _ (((s1.trans s2).trans s3).trans sn) (.lst (cut_new (l.same ((s1.trans s2).trans s3)) hp) (dpall_same (cut_same sn) (cut_dq k2)))
theorem ev_slS {z : Str} {lo hi : TO} {i j : Option Int} (h : EvD K ta ρ (.str z)) (hl : EvO K lo ρ i) (hh : EvO K hi ρ j) (hz : z.length ≤ 100000) : EvD K (tSl (rSlU K) ta lo hi) ρ (.str (cutS z i j)) := fun A σ H l hE Q q =>
  h A σ H l hE _ fun v H1 s1 hv => hl A σ H1 (l.same s1) (hE.same (cut_same s1)) _ fun H2 s2 => hh A σ H2 (l.same (s1.trans s2)) (hE.same (cut_same (s1.trans s2))) _ fun H3 s3 => by
    cases hv
    exact .inr (.inr ⟨z, rfl, Nat.le_trans hz (by decide), q _ H3 ((s1.trans s2).trans s3) (.str _)⟩)
end
theorem sl_U {X : Cx} : SlR X (rSlU X.K) := by
  intro pins s σ H x v vl vu lo hi sl Q I rx hs pl pu h
  rcases h with h | h | h
  · exact sl_list pins s σ H x v vl vu lo hi sl Q I rx hs pl pu h
  · exact sl_tupA pins s σ H x v vl vu lo hi sl Q I rx hs pl pu h
  · exact sl_str pins s σ H x v vl vu lo hi sl Q I rx hs pl pu h
theorem units65 {k : Nat} {A : Around} (r : Room k A) : A.units + 65 < cLine := by have := r.un; omega
theorem units70 {k : Nat} {A : Around} (r : Room k A) : A.units + 70 < cLine := by have := r.un; omega
/-! tuple(range(..)), list(range(..)) -/
section
variable {K : PySem.W.Frag} {ρ : Rho} {ta tb : TE}
theorem rgV_dq {F : Hp} (a b : Int) : DqAll K F (rgV a b) (rngD a (b - a).toNat) := by
  unfold rgV rngD
  generalize List.range (b - a).toNat = l
  induction l with
  | nil => exact .nil
  | cons x xs ih => exact .cons (.int _) ih
theorem ev_tupRg1 {n : Int} (h : EvD K ta ρ (.int n)) (h1 : n ≤ 16777216) (h0 : 0 ≤ n) : EvD K (tTupRg (tRg1 ta)) ρ (.tuple (rngD 0 n.toNat)) := fun A σ H l hE Q q => h A σ H l hE _ fun v H1 s1 hv => by
  cases hv
  refine ⟨n, rfl, RgOk.of_le (by omega) h1 (by omega) h0, fun p hp => q _ _ (s1.trans (same_new hp)) (.tup (.inl (cut_new (l.same s1) hp)) ?_)⟩
  have e := rgV_dq (K := K) (F := cut A (upd H1 p (.tup (rgV 0 n)))) 0 n
  rw [Int.sub_zero] at e
  exact e
theorem ev_lstRg1 {n : Int} (h : EvD K ta ρ (.int n)) (h1 : n ≤ 16777216) (h0 : 0 ≤ n) : EvD K (tLstRg (tRg1 ta)) ρ (.list (rngD 0 n.toNat)) := fun A σ H l hE Q q => h A σ H l hE _ fun v H1 s1 hv => by
  cases hv
  refine ⟨n, rfl, RgOk.of_le (by omega) h1 (by omega) h0, fun p hp => q _ _ (s1.trans (same_new hp)) (.lst (cut_new (l.same s1) hp) ?_)⟩
  have e := rgV_dq (K := K) (F := cut A (upd H1 p (.lst (rgV 0 n)))) 0 n
  rw [Int.sub_zero] at e
  exact e
theorem ev_tupRg2 {m n : Int} (h : EvD K ta ρ (.int m)) (h' : EvD K tb ρ (.int n)) (h0 : 0 ≤ m) (h1 : n ≤ 16777216) (h2 : m ≤ 16777216) (h3 : 0 ≤ n) : EvD K (tTupRg (tRg2 ta tb)) ρ (.tuple (rngD m (n - m).toNat)) := fun A σ H l hE Q q =>
  h A σ H l hE _ fun v H1 s1 hv => h' A σ H1 (l.same s1) (hE.same (cut_same s1)) _ fun u H2 s2 hu => by
  cases hv; cases hu
  exact ⟨m, n, rfl, rfl, RgOk.of_le h0 h1 h2 h3, fun p hp => q _ _ ((s1.trans s2).trans (same_new hp)) (.tup (.inl (cut_new (l.same (s1.trans s2)) hp)) (rgV_dq m n))⟩
end
end Lc

set_option Elab.async false
set_option linter.all false
set_option maxRecDepth 100000
set_option maxHeartbeats 4000000
namespace Lc
open PySem L2 PySem.Spec PyProof.Rows
/-! ### a def where it stands -/
def FnAt (P : Program) (w : World) (K : PySem.W.Frag) (mg : Str → Option Value) (base : Heap) (k : Nat) (x : Str) (ps : List Str) (sp : Sp) : Prop :=
  ∃ f fd, FnOk P w K mg base (L2.CX P w) k f fd ps sp ∧ mg x = some (.ref f) ∧ PySem.W.keepIn K (.ref f) = true ∧ Binds K fd ps []
section
variable {X : Cx} {k : Nat} {x : Str} {ps : List Str} {sp : Sp} {E : XK} {p pos : Pos} {e : Expr} {es : List Expr} {t : TA}
theorem pe_callF (F : FnAt X.prog X.w X.K X.mg X.base k x ps sp) (hr : Room k X.A) (hg : Gl X x) (hx : Passes (L2.CX X.prog X.w) X E)
    (ha : PA X (e :: es) t) (hdb : (x == ("__debug__" : Str)) = false := by decide) (he : starEach (e :: es) X.env = (false, eval e X.env) :: starEach es X.env := by rfl) (hpl : (backTo pos (starEach es X.env)).any (·.1) = false := by rfl) :
    PE X (.Call (.Name x p) (e :: es) [] pos) (tCall sp [] E t) := by
  obtain ⟨f, fd, F1, g, kp, b⟩ := F
  exact pe_call F1 hr hg g kp b .nil hx ha hdb he hpl
end
/-! ### raise -/
structure ExcAt (K : PySem.W.Frag) (mg : Str → Option Value) (x : Str) : Prop where
  g : mg x = some (.ref (He.ga K x))
  ok : PySem.W.excIn K (He.ga K x) He.veBase "ValueError.__new__" = true
  kp : PySem.W.keepIn K (.ref (He.ga K x)) = true
  sb : PySem.W.subIn K (.ref (He.ga K x)) (.type "BaseException") = some true
  ty : PySem.W.typeIn K (.ref (He.ga K x)) = some (.type "type")
def tRaise (C : Addr) (E : XK) : TS := fun _ _ H => E (.ref C) none H
theorem xs_raiseF {K : PySem.W.Frag} {E : XK} {ρ : Rho} {C : Addr} : ExS K E (tRaise C E) ρ (.ex C) := xs_raise
theorem ps_raiseF {X : Cx} {x m : Str} {j : Nat} {p p2 pos pos2 : Pos} {E : XK} {E₁ : Value → Shared → Prop} (h : ExcAt X.K X.mg x) (hg : Gl X x := by rfl) (hc : X.calm = true := by rfl) (hs : X.stack = X.env :: X.outer := by rfl) (hf : X.env.frame = some X.env.locals := by rfl) (hex : X.ex = [] := by rfl)
    (hx : X.xe = fun e s' => wpAny (model X.prog X.w) X.A (leaving X.env e) (fun _ s'' => L2.CX X.prog X.w X.outer X.H_0 X.s_0 E e s'') E₁ s' := by rfl) (hdb : (x == ("__debug__" : Str)) = false := by decide) :
    PS X (.Raise (some (.Call (.Name x p) [.Constant (.str m) j p2] [] pos)) none pos2) (tRaise (He.ga X.K x) E) :=
  ps_raise hc (takes_of hs hf hex hx) (pmk_own PySem.F.excBase_ValueError h.ok h.g h.kp (raises_own h.sb h.ty) hg hdb)
/-! ### the names of built-ins are free -/
structure Bl (mg : Str → Option Value) : Prop where
  b_len : mg "len" = none
  b_isinstance : mg "isinstance" = none
  b_int : mg "int" = none
  b_bool : mg "bool" = none
  b_tuple : mg "tuple" = none
  b_list : mg "list" = none
  b_dict : mg "dict" = none
  b_str : mg "str" = none
  b_set : mg "set" = none
  b_all : mg "all" = none
  b_any : mg "any" = none
  b_range : mg "range" = none
  b_sum : mg "sum" = none
  b_max : mg "max" = none
  b_min : mg "min" = none
  b_abs : mg "abs" = none
  b_sorted : mg "sorted" = none
  b_enumerate : mg "enumerate" = none
  b_zip : mg "zip" = none
  b_ValueError : mg "ValueError" = none
/-! ### unions to come -/
def rListU (K : PySem.W.Frag) : List V → Hp → VK → Prop := rListOf K
theorem cr_listU {X : Cx} (hc : X.calm = true) : CallR X (.type "list") (rListU X.K) := cr_listOf
def rIntU : List V → Hp → VK → Prop := cO rInt1 fun xs H Q => ∃ a n, xs = [.str a] ∧ PySem.intText? a = some n ∧ a.length ≤ 640 ∧ Q (.int n) H
theorem cr_intU {X : Cx} : CallR X (.type "int") rIntU := cr_o cr_int1 call_int_str
def rStrU : List V → Hp → VK → Prop := fun xs H Q => ∃ i, xs = [.int i] ∧ i.natAbs.log2 < 1920 ∧ Q (.str (toString i)) H
theorem cr_strU {X : Cx} : CallR X (.type "str") rStrU := call_str_int
end Lc

set_option Elab.async false
set_option linter.all false
set_option maxRecDepth 100000
set_option maxHeartbeats 4000000
namespace Lc
open PySem L2 PySem.Spec PyProof.Rows
/-! ### the town: what the law's draws change -/
def TownOk (ns : List Int) (c : Nat) (ts : List Int) : Prop := ts.length = ns.length + 1 ∧ 0 ≤ ts.getD 0 0 ∧ ts.getD 0 0 ≤ (c : Int)
def Town (ns : List Int) (tn : Addr) (c : Nat) (H : Hp) : Prop := ∃ ts : List Int, H tn = some (.lst (ts.map V.int)) ∧ TownOk ns c ts
theorem Town.mono {ns : List Int} {tn : Addr} {c c' : Nat} {H : Hp} (t : Town ns tn c H) (h : c ≤ c') : Town ns tn c' H := by
  obtain ⟨ts, h1, h2, h3, h4⟩ := t
  exact ⟨ts, h1, h2, h3, by omega⟩
theorem Town.same {ns : List Int} {tn : Addr} {c : Nat} {H H' : Hp} (t : Town ns tn c H) (s : Same H H') : Town ns tn c H' := by
  obtain ⟨ts, h1, h2⟩ := t
  exact ⟨ts, s _ _ h1, h2⟩
theorem Town.live {ns : List Int} {tn : Addr} {c : Nat} {H : Hp} (t : Town ns tn c H) : H tn ≠ none := by
  obtain ⟨ts, h1, _⟩ := t
  rw [h1]; simp
theorem live_keep {A : List Addr} {tn : Addr} {ns : List Int} {c : Nat} {H H' : Hp} (l : Live A H) (k : Keep [tn] H H') (t : Town ns tn c H') : Live A H' := fun a ha e => by
  by_cases h : a = tn
  · subst h; exact t.live e
  · cases q : H a with
    | none => exact l a ha q
    | some o => rw [k a o (by simpa using h) q] at e; cases e
theorem keep_cut {A : List Addr} {tn : Addr} {H H' : Hp} (hm : tn ∈ A) (k : Keep [tn] H H') : Same (cut A H) (cut A H') := (k.mono (B := A) (by simpa using hm)).cut
/-- at most M draws in all -/
abbrev MD : Nat := 1000000
section
variable (K : PySem.W.Frag) (tn : Addr) (ns : List Int)
def EvW (te : TE) (ρ : Rho) (n : Nat) (R : PyData → Prop) : Prop :=
  ∀ c A σ H, c + n ≤ MD → Live A H → tn ∈ A → Town ns tn c H → EnvD K (cut A H) σ ρ → ∀ Q : VK, (∀ d v H', R d → Keep [tn] H H' → Town ns tn (c + n) H' → Dq K (cut A H') v d → Q v H') → te σ H Q
def EtW (tt : TT) (ρ : Rho) (n : Nat) (R : Bool → Prop) : Prop :=
  ∀ c A σ H, c + n ≤ MD → Live A H → tn ∈ A → Town ns tn c H → EnvD K (cut A H) σ ρ → ∀ Q : Bool → Hp → Prop, (∀ b H', R b → Keep [tn] H H' → Town ns tn (c + n) H' → Q b H') → tt σ H Q
def EaW (ta : TA) (ρ : Rho) (n : Nat) (R : List PyData → Prop) : Prop :=
  ∀ c A σ H, c + n ≤ MD → Live A H → tn ∈ A → Town ns tn c H → EnvD K (cut A H) σ ρ → ∀ Q : List V → Hp → Prop, (∀ ds vs H', R ds → Keep [tn] H H' → Town ns tn (c + n) H' → DqAll K (cut A H') vs ds → Q vs H') → ta σ H Q
end
section
variable {K : PySem.W.Frag} {tn : Addr} {ns : List Int} {ρ : Rho} {ta tb te : TE} {t u : TT} {d e f : PyData} {n m : Nat}
theorem ew_pure (h : EvD K te ρ d) : EvW K tn ns te ρ 0 (· = d) := fun c A σ H hc l hm ht hE Q q =>
  h A σ H l hE Q fun v H' s hv => q d v H' rfl (Keep.of s) (ht.same s) hv
theorem et_pure {b : Bool} (h : EvT K t ρ b) : EtW K tn ns t ρ 0 (· = b) := fun c A σ H hc l hm ht hE Q q =>
  h A σ H l hE Q fun H' s => q b H' rfl (Keep.of s) (ht.same s)
theorem EvW.mono {R R' : PyData → Prop} (h : EvW K tn ns te ρ n R) (hn : n ≤ m) (hR : ∀ d, R d → R' d) : EvW K tn ns te ρ m R' := fun c A σ H hc l hm ht hE Q q =>
  h c A σ H (by omega) l hm ht hE Q fun d v H' r k t hv => q d v H' (hR d r) k (t.mono (by omega)) hv
theorem EtW.mono {R R' : Bool → Prop} (h : EtW K tn ns t ρ n R) (hn : n ≤ m) (hR : ∀ d, R d → R' d) : EtW K tn ns t ρ m R' := fun c A σ H hc l hm ht hE Q q =>
  h c A σ H (by omega) l hm ht hE Q fun d H' r k t => q d H' (hR d r) k (t.mono (by omega))
theorem ew_op {r : R2} {Ra Rb R : PyData → Prop} (ha : EvW K tn ns ta ρ n Ra) (hb : EvW K tn ns tb ρ m Rb) (hr : ∀ d e, Ra d → Rb e → ∃ f, OpD K r d e f ∧ R f) : EvW K tn ns (tOp r ta tb) ρ (n + m) R := fun c A σ H hc l hm ht hE Q q =>
  ha c A σ H (by omega) l hm ht hE _ fun d x H1 rd k1 t1 hx => hb (c + n) A σ H1 (by omega) (live_keep l k1 t1) hm t1 (hE.same (keep_cut hm k1)) _ fun e y H2 re k2 t2 hy => by
    obtain ⟨f, ho, rf⟩ := hr d e rd re
    refine ho A x y H2 (live_keep (live_keep l k1 t1) k2 t2) (dp_same (keep_cut hm k2) hx) hy Q fun v H3 s3 hv => ?_
    exact q f v H3 rf ((k1.trans k2).trans (Keep.of s3)) ((t2.mono (by omega)).same s3) hv
theorem ea_nilW : EaW K tn ns tNil ρ 0 (· = []) := fun c A σ H hc l hm ht hE Q q => q [] [] H rfl Keep.refl ht .nil
theorem ea_consW {tr : TA} {Ra : PyData → Prop} {Rs R : List PyData → Prop} (ha : EvW K tn ns ta ρ n Ra) (hr : EaW K tn ns tr ρ m Rs) (hR : ∀ d ds, Ra d → Rs ds → R (d :: ds)) : EaW K tn ns (tCons ta tr) ρ (n + m) R := fun c A σ H hc l hm ht hE Q q =>
  ha c A σ H (by omega) l hm ht hE _ fun d x H1 rd k1 t1 hx => hr (c + n) A σ H1 (by omega) (live_keep l k1 t1) hm t1 (hE.same (keep_cut hm k1)) _ fun ds xs H2 re k2 t2 hxs =>
    q (d :: ds) _ H2 (hR d ds rd re) (k1.trans k2) (t2.mono (by omega)) (.cons (dp_same (keep_cut hm k2) hx) hxs)
theorem ew_cb {r : List V → Hp → VK → Prop} {tr : TA} {Rs : List PyData → Prop} {R : PyData → Prop} (ha : EaW K tn ns tr ρ n Rs) (hr : ∀ ds, Rs ds → ∃ f, CaD K r ds f ∧ R f) : EvW K tn ns (tCB r tr) ρ n R := fun c A σ H hc l hm ht hE Q q =>
  ha c A σ H hc l hm ht hE _ fun ds xs H1 rd k1 t1 hx => by
    obtain ⟨f, ho, rf⟩ := hr ds rd
    exact ho A xs H1 (live_keep l k1 t1) hx Q fun v H3 s3 hv => q f v H3 rf (k1.trans (Keep.of s3)) (t1.same s3) hv
theorem ew_tup {tr : TA} {Rs : List PyData → Prop} {R : PyData → Prop} (ha : EaW K tn ns tr ρ n Rs) (hr : ∀ ds, Rs ds → ds.length ≤ 100000 ∧ R (.tuple ds)) : EvW K tn ns (tTup tr) ρ n R := fun c A σ H hc l hm ht hE Q q =>
  ha c A σ H hc l hm ht hE _ fun ds xs H1 rd k1 t1 hx => ⟨Nat.le_trans (by rw [hx.length]; exact (hr ds rd).1) (by decide), fun p hp =>
    q _ _ _ (hr ds rd).2 (k1.trans (Keep.of (same_new hp))) (t1.same (same_new hp)) (.tup (.inl (cut_new (live_keep l k1 t1) hp)) (dpall_same (cut_same (same_new hp)) hx))⟩
theorem ew_lst {tr : TA} {Rs : List PyData → Prop} {R : PyData → Prop} (ha : EaW K tn ns tr ρ n Rs) (hr : ∀ ds, Rs ds → ds.length ≤ 100000 ∧ R (.list ds)) : EvW K tn ns (tLst tr) ρ n R := fun c A σ H hc l hm ht hE Q q =>
  ha c A σ H hc l hm ht hE _ fun ds xs H1 rd k1 t1 hx => ⟨Nat.le_trans (by rw [hx.length]; exact (hr ds rd).1) (by decide), fun p hp =>
    q _ _ _ (hr ds rd).2 (k1.trans (Keep.of (same_new hp))) (t1.same (same_new hp)) (.lst (cut_new (live_keep l k1 t1) hp) (dpall_same (cut_same (same_new hp)) hx))⟩
theorem et_testW {R : PyData → Prop} {P : Bool → Prop} (h : EvW K tn ns te ρ n R) (hR : ∀ d, R d → ∃ b, d = .bool b ∧ P b) : EtW K tn ns (tTest te) ρ n P := fun c A σ H hc l hm ht hE Q q => h c A σ H hc l hm ht hE _ fun d v H' r k t hv => by
  obtain ⟨b, rfl, p⟩ := hR d r
  cases hv; exact ⟨b, rfl, q b H' p k t⟩
theorem et_BW {R : PyData → Prop} {P : Bool → Prop} (h : EvW K tn ns te ρ n R) (hR : ∀ d, R d → ∃ b, d = .bool b ∧ P b) : EtW K tn ns (tB te) ρ n P := fun c A σ H hc l hm ht hE Q q => h c A σ H hc l hm ht hE _ fun d v H' r k t hv => by
  obtain ⟨b, rfl, p⟩ := hR d r
  cases hv; exact ⟨b, rfl, q b H' p k t⟩
theorem ew_and {P P' : Bool → Prop} {R R' : PyData → Prop} (h1 : EvW K tn ns ta ρ n R) (hR : ∀ d, R d → ∃ b, d = .bool b ∧ P b) (h2 : EvW K tn ns tb ρ m R') : EvW K tn ns (tAndV ta tb) ρ (n + m) (fun d => (d = .bool false ∧ P false) ∨ (P true ∧ R' d)) := fun c A σ H hc l hm ht hE Q q => h1 c A σ H (by omega) l hm ht hE _ fun d v H1 r k1 t1 hv => by
  obtain ⟨b, rfl, p⟩ := hR d r
  cases hv
  refine ⟨b, rfl, ?_⟩
  cases b with
  | true => exact iteT (h2 (c + n) A σ H1 (by omega) (live_keep l k1 t1) hm t1 (hE.same (keep_cut hm k1)) Q fun d v H2 r2 k2 t2 hv => q d v H2 (.inr ⟨p, r2⟩) (k1.trans k2) (t2.mono (by omega)) hv)
  | false => exact iteF (q _ _ H1 (.inl ⟨rfl, p⟩) k1 (t1.mono (by omega)) (.bl _))
theorem ew_if {P : Bool → Prop} {R : PyData → Prop} (h : EtW K tn ns t ρ n P) (h1 : P true → EvW K tn ns ta ρ m R) (h2 : P false → EvW K tn ns tb ρ m R) : EvW K tn ns (tIf t ta tb) ρ (n + m) R := fun c A σ H hc l hm ht hE Q q => h c A σ H (by omega) l hm ht hE _ fun b H1 p k1 t1 => by
  cases b with
  | true => exact iteT (h1 p (c + n) A σ H1 (by omega) (live_keep l k1 t1) hm t1 (hE.same (keep_cut hm k1)) Q fun d v H2 r2 k2 t2 hv => q d v H2 r2 (k1.trans k2) (t2.mono (by omega)) hv)
  | false => exact iteF (h2 p (c + n) A σ H1 (by omega) (live_keep l k1 t1) hm t1 (hE.same (keep_cut hm k1)) Q fun d v H2 r2 k2 t2 hv => q d v H2 r2 (k1.trans k2) (t2.mono (by omega)) hv)
/-- a def on data, its arguments drawn -/
theorem ew_callP {Rp : List PyData → Out → Prop} {E : XK} {tr : TA} {Rs : List PyData → Prop} {R : PyData → Prop} (ha : EaW K tn ns tr ρ n Rs) (hr : ∀ ds, Rs ds → ∃ d, Rp ds (.rt d) ∧ R d) : EvW K tn ns (tCall (spD K Rp) [] E tr) ρ n R := fun c A σ H hc l hm ht hE Q q =>
  ha c A σ H hc l hm ht hE _ fun ds xs H1 rd k1 t1 hx => by
    obtain ⟨d, hp, rd⟩ := hr ds rd
    rw [List.append_nil]
    exact ⟨A, ds, .rt d, live_keep l k1 t1, hx, hp, fun v H2 s2 h2 => q d v H2 rd (k1.trans (Keep.of s2)) (t1.same s2) h2⟩
/-- a def that draws: script, town and more; at most n draws -/
def spT (K : PySem.W.Frag) (n : Nat) (P : List PyData → Prop) (R : List PyData → PyData → Prop) : Sp := fun vs H Q _ =>
  ∃ A tn ns c, c + n ≤ MD ∧ Live A H ∧ tn ∈ A ∧ Town ns tn c H ∧ ∃ ds, DqAll K (cut A H) vs (scrD ns :: adrD tn :: ds) ∧ P ds ∧ ∀ d v H', R ds d → Keep [tn] H H' → Town ns tn (c + n) H' → Dq K (cut A H') v d → Q v H'
theorem ew_callT {P : List PyData → Prop} {Rt : List PyData → PyData → Prop} {E : XK} {tr : TA} {Rs : List PyData → Prop} {R : PyData → Prop} (ha : EaW K tn ns tr ρ n Rs) (hr : ∀ ds, Rs ds → ∃ es, ds = scrD ns :: adrD tn :: es ∧ P es ∧ ∀ d, Rt es d → R d) : EvW K tn ns (tCall (spT K m P Rt) [] E tr) ρ (n + m) R := fun c A σ H hc l hm ht hE Q q =>
  ha c A σ H (by omega) l hm ht hE _ fun ds xs H1 rd k1 t1 hx => by
    obtain ⟨es, rfl, hp, hR⟩ := hr ds rd
    rw [List.append_nil]
    exact ⟨A, tn, ns, c + n, by omega, live_keep l k1 t1, hm, t1, es, hx, hp, fun d v H2 r2 k2 t2 h2 => q d v H2 (hR d r2) (k1.trans k2) (t2.mono (by omega)) h2⟩
/-! ### comprehensions that draw -/
def LcR {α : Type} (R : α → Option PyData → Prop) : List α → List PyData → Prop
  | [], ds => ds = []
  | x :: xs, ds => (∃ d ds', R x (some d) ∧ ds = d :: ds' ∧ LcR R xs ds') ∨ (R x none ∧ LcR R xs ds)
theorem LcR.snoc {α : Type} {R : α → Option PyData → Prop} {x : α} {d : PyData} (h : R x (some d)) : ∀ {xs : List α} {ds : List PyData}, LcR R xs ds → LcR R (xs ++ [x]) (ds ++ [d])
  | [], ds, e => by cases e; exact .inl ⟨d, [], h, rfl, rfl⟩
  | y :: xs, ds, .inl ⟨e, ds', h1, h2, h3⟩ => by subst h2; exact .inl ⟨e, _, h1, rfl, LcR.snoc h h3⟩
  | y :: xs, ds, .inr ⟨h1, h2⟩ => .inr ⟨h1, LcR.snoc h h2⟩
theorem LcR.skip {α : Type} {R : α → Option PyData → Prop} {x : α} (h : R x none) : ∀ {xs : List α} {ds : List PyData}, LcR R xs ds → LcR R (xs ++ [x]) ds
  | [], ds, e => by cases e; exact .inr ⟨h, rfl⟩
  | y :: xs, ds, .inl ⟨e, ds', h1, h2, h3⟩ => .inl ⟨e, ds', h1, h2, LcR.skip h h3⟩
  | y :: xs, ds, .inr ⟨h1, h2⟩ => .inr ⟨h1, LcR.skip h h2⟩
theorem LcR.len {α : Type} {R : α → Option PyData → Prop} : ∀ {xs : List α} {ds : List PyData}, LcR R xs ds → ds.length ≤ xs.length
  | [], ds, e => by cases e; simp
  | y :: xs, ds, .inl ⟨e, ds', h1, h2, h3⟩ => by subst h2; simpa using h3.len
  | y :: xs, ds, .inr ⟨h1, h2⟩ => by have := h2.len; simp; omega
theorem ew_lc {α : Type} {wi : TI} {g : TG} {tt : TT} {vs ws : List Nat} {n1 n2 : Nat} (xs : List α) (enc : α → PyData) (P : α → Bool → Prop) (Ro : α → PyData → Prop) (r2 : α → Rho) (hi : ItD K wi ρ (xs.map enc)) (hz : xs.length ≤ 50000) (hw : ∀ i ∈ ws, i ∈ vs)
    (hg : ∀ x ∈ xs, TgD K g (enc x) (wipeD ρ vs) (r2 x) ws) (ht : ∀ x ∈ xs, EtW K tn ns tt (r2 x) n1 (P x)) (he : ∀ x ∈ xs, EvW K tn ns te (r2 x) n2 (Ro x)) :
    EvW K tn ns (tLc wi g tt te vs) ρ (xs.length * (n1 + n2)) (fun d => ∃ ds, d = .list ds ∧ LcR (fun x o => match o with | some d => P x true ∧ Ro x d | none => P x false) xs ds) := fun c A σ H hc l hm htw hE Q q => hi A σ H l hE _ fun J H1 s1 hJ => fun D hD => by
  have l1 := l.same s1
  have hDA : D ∉ A := l1.fresh hD
  have hDt : D ≠ tn := fun z => hDA (z ▸ hm)
  have E1 : EnvD K (cut A H1) (wipe σ vs) (wipeD ρ vs) := (hE.same (cut_same s1)).wipe vs
  have oD : Off A H1 (D :: A) := off_new hD
  have hmD : tn ∈ D :: A := List.mem_cons_of_mem _ hm
  let RR : α → Option PyData → Prop := fun x o => match o with | some d => P x true ∧ Ro x d | none => P x false
  refine ⟨fun i m H' => m = xs.length - i ∧ i ≤ xs.length ∧ Keep [tn, D] H1 H' ∧ Town ns tn (c + i * (n1 + n2)) H' ∧ ∃ us ds, H' D = some (.lst us) ∧ DqAll K (cut (D :: A) H') us ds ∧ LcR RR (xs.take i) ds, ⟨xs.length, ?_⟩, ?_⟩
  · refine ⟨by simp, Nat.zero_le _, fun a o ha h => by rw [upd_ne (fun z => ha (by simp [z]))]; exact h, ?_, [], [], upd_same, .nil, by simp [LcR]⟩
    rw [Nat.zero_mul, Nat.add_zero]
    exact (htw.same s1).same (same_new hD)
  · rintro i m H' ⟨rfl, hle, hk, hT, us, ds, hus, hdp, hlc⟩
    have kA : Keep A H1 H' := fun a o ha h => hk a o (fun z => by
      rcases List.mem_cons.mp z with z | z
      · exact ha (z ▸ hm)
      · rw [List.mem_singleton.mp z, hD] at h; cases h) h
    have lv : Live (D :: A) H' := fun a ha e => by
      rcases List.mem_cons.mp ha with z | z
      · rw [z, hus] at e; cases e
      · by_cases ht : a = tn
        · subst ht; exact hT.live e
        · cases q1 : H1 a with
          | none => exact l1 a z q1
          | some o => rw [hk a o (fun w => by
              rcases List.mem_cons.mp w with w | w
              · exact ht w
              · exact hDA (List.mem_singleton.mp w ▸ z)) q1] at e; cases e
    by_cases hlt : i < xs.length
    · have hstep : (i + 1) * (n1 + n2) ≤ xs.length * (n1 + n2) := Nat.mul_le_mul_right _ hlt
      have hexp : (i + 1) * (n1 + n2) = i * (n1 + n2) + (n1 + n2) := Nat.succ_mul _ _
      refine .inr ⟨hJ.goes i H' (by simpa using hlt) kA, fun H2 => Keep [tn, D] H1 H2 ∧ Town ns tn (c + (i + 1) * (n1 + n2)) H2 ∧ ∃ us ds, H2 D = some (.lst us) ∧ DqAll K (cut (D :: A) H2) us ds ∧ LcR RR (xs.take (i + 1)) ds, fun H2 h2 => ⟨xs.length - (i + 1), by omega, rfl, hlt, h2⟩, fun x H2 hy => ?_⟩
      obtain ⟨s2, d, hd, hx⟩ := hJ.yields i H' x H2 (D :: A) (by simpa using hlt) kA lv oD hy
      have hdi : d = enc xs[i] := by
        rw [List.getElem?_map, List.getElem?_eq_getElem hlt] at hd
        exact (Option.some.inj hd).symm
      subst hdi
      have hmx : xs[i] ∈ xs := List.getElem_mem hlt
      have lv2 := lv.same s2
      have tk : (xs.take (i + 1)) = xs.take i ++ [xs[i]] := by rw [List.take_add_one, List.getElem?_eq_getElem hlt] <;> rfl
      refine hg _ hmx (D :: A) (wipe σ vs) H2 x lv2 (E1.same (oD.cut (kA.trans (Keep.of s2)))) hx _ fun σ2 hE2 w2 => ⟨?_, ?_⟩
      · rw [w2 vs hw, wipe_wipe]
      · refine ht _ hmx (c + i * (n1 + n2)) (D :: A) σ2 H2 (by omega) lv2 hmD (hT.same s2) hE2 _ fun b H3 pb k3 t3 => ?_
        have kk : Keep [tn] H' H3 := (Keep.of s2).trans k3
        have toD : Keep [tn, D] H1 H3 := hk.trans (kk.mono (by simp))
        have hD3 : H3 D = some (.lst us) := kk D _ (by simpa using hDt) hus
        cases b with
        | false =>
          refine iteF ⟨toD, t3.mono (by omega), us, ds, hD3, dpall_same (keep_cut hmD kk) hdp, ?_⟩
          rw [tk]
          exact LcR.skip (R := RR) pb hlc
        | true =>
          have lv3 := live_keep lv2 k3 t3
          refine iteT (he _ hmx (c + i * (n1 + n2) + n1) (D :: A) σ2 H3 (by omega) lv3 hmD t3 (hE2.same (keep_cut hmD k3)) _ fun d4 y H4 rd k4 t4 hy4 => ?_)
          have kk4 : Keep [tn] H' H4 := kk.trans k4
          have kp : Keep (D :: A) H4 (upd H4 D (.lst (us ++ [y]))) := fun a o ha h => by
            rw [upd_ne (fun z => ha (by simp [z]))]; exact h
          have hlen := hlc.len
          rw [List.length_take] at hlen
          refine ⟨us, kk4 D _ (by simpa using hDt) hus, ?_, ?_, ?_, us ++ [y], ds ++ [d4], upd_same, ?_, ?_⟩
          · have := hdp.length
            have : us.length < 100000 := by omega
            exact Nat.lt_of_lt_of_le this (by decide)
          · exact fun a o ha h => by
              rw [upd_ne (fun z => ha (by simp [z]))]
              exact (hk.trans (kk4.mono (by simp))) a o ha h
          · obtain ⟨ts, q1, q2⟩ := t4
            refine Town.mono ⟨ts, ?_, q2⟩ (by omega)
            rw [upd_ne (Ne.symm hDt)]; exact q1
          · exact (dpall_same ((keep_cut hmD kk4).trans kp.cut) hdp).append (.cons (dp_same kp.cut hy4) .nil)
          · rw [tk]
            exact LcR.snoc (R := RR) ⟨pb, rd⟩ hlc
    · have e : i = xs.length := by omega
      subst e
      refine .inl ⟨by have := hJ.stops H' kA; simpa using this, q (.list ds) _ H' ⟨ds, rfl, by rw [List.take_length] at hlc; exact hlc⟩ ?_ hT ?_⟩
      · exact fun a o ha h => hk a o (fun z => by
          rcases List.mem_cons.mp z with z | z
          · exact ha (by simp [z])
          · rw [List.mem_singleton.mp z] at h; rw [s1 _ _ h] at hD; cases hD) (s1 a o h)
      · refine .lst (by rw [cut_out hDA]; exact hus) ?_
        refine dpall_same (fun a o e => ?_) hdp
        obtain ⟨h1, h2⟩ := cut_some e
        rw [cut_out (fun z => h1 (List.mem_cons_of_mem _ z))]; exact h2
end
end Lc

set_option Elab.async false
set_option linter.all false
set_option maxRecDepth 100000
set_option maxHeartbeats 4000000
namespace Lc
open PySem L2 PySem.Spec PyProof.Rows
section
variable (K : PySem.W.Frag) (tn : Addr) (ns : List Int)
def ExW (ts : TS) (ρ : Rho) (n : Nat) (Pn : Rho → Prop) (Pr : PyData → Prop) : Prop :=
  ∀ c A σ H D, c + n ≤ MD → Live A H → tn ∈ A → Town ns tn c H → EnvD K (cut A H) σ ρ →
    (∀ ρ' σ' H', Pn ρ' → Keep [tn] H H' → Town ns tn (c + n) H' → EnvD K (cut A H') σ' ρ' → D.nx σ' H') →
    (∀ d v H', Pr d → Keep [tn] H H' → Town ns tn (c + n) H' → Dq K (cut A H') v d → D.rt v H') → ts D σ H
end
section
variable {K : PySem.W.Frag} {tn : Addr} {ns : List Int} {ρ ρ1 : Rho} {ta tb te : TE} {t u : TT} {d e f : PyData} {n m : Nat} {ts tz tw : TS} {Pn Pn' Pm : Rho → Prop} {Pr Pr' : PyData → Prop} {E : XK}
theorem ExW.mono (h : ExW K tn ns ts ρ n Pn Pr) (hn : n ≤ m) (h1 : ∀ ρ, Pn ρ → Pn' ρ) (h2 : ∀ d, Pr d → Pr' d) : ExW K tn ns ts ρ m Pn' Pr' := fun c A σ H D hc l hm ht hE q1 q2 =>
  h c A σ H D (by omega) l hm ht hE (fun ρ' σ' H' p k t hE' => q1 ρ' σ' H' (h1 _ p) k (t.mono (by omega)) hE') (fun d v H' p k t hv => q2 d v H' (h2 _ p) k (t.mono (by omega)) hv)
theorem xw_pure (h : ExS K E ts ρ (.nx ρ1)) : ExW K tn ns ts ρ 0 (· = ρ1) Pr := fun c A σ H D hc l hm ht hE q1 q2 =>
  h A σ H D l hE fun σ' H' s hE' => q1 ρ1 σ' H' rfl (Keep.of s) (ht.same s) hE'
theorem xw_pureR (h : ExS K E ts ρ (.rt d)) (hd : Pr d) : ExW K tn ns ts ρ 0 Pn Pr := fun c A σ H D hc l hm ht hE q1 q2 =>
  h A σ H D l hE fun v H' s hv => q2 d v H' hd (Keep.of s) (ht.same s) hv
theorem xw_seq (h1 : ExW K tn ns ts ρ n Pn Pr) (h2 : ∀ ρ', Pn ρ' → ExW K tn ns tz ρ' m Pm Pr) : ExW K tn ns (tSeq ts tz) ρ (n + m) Pm Pr := fun c A σ H D hc l hm ht hE q1 q2 =>
  h1 c A σ H { D with nx := tz D } (by omega) l hm ht hE
    (fun ρ' σ' H' p k t hE' => h2 ρ' p (c + n) A σ' H' D (by omega) (live_keep l k t) hm t hE' (fun ρ2 σ2 H2 p2 k2 t2 hE2 => q1 ρ2 σ2 H2 p2 (k.trans k2) (t2.mono (by omega)) hE2) (fun d v H2 p2 k2 t2 hv => q2 d v H2 p2 (k.trans k2) (t2.mono (by omega)) hv))
    (fun d v H' p k t hv => q2 d v H' p k (t.mono (by omega)) hv)
/-- a pure statement, then the rest -/
theorem xw_seqP (h1 : ExS K E ts ρ (.nx ρ1)) (h2 : ExW K tn ns tz ρ1 m Pm Pr) : ExW K tn ns (tSeq ts tz) ρ m Pm Pr := by
  have := xw_seq (tn := tn) (ns := ns) (Pr := Pr) (xw_pure h1) (fun ρ' e => by rw [e]; exact h2)
  rw [Nat.zero_add] at this
  exact this
theorem xw_next : ExW K tn ns tNext ρ 0 (· = ρ) Pr := fun c A σ H D hc l hm ht hE q1 q2 => q1 ρ σ H rfl Keep.refl ht hE
theorem xw_ret {R : PyData → Prop} (h : EvW K tn ns te ρ n R) : ExW K tn ns (tRet te) ρ n Pn R := fun c A σ H D hc l hm ht hE q1 q2 =>
  h c A σ H hc l hm ht hE _ fun d v H' r k t hv => q2 d v H' r k t hv
theorem xw_drop {R : PyData → Prop} (h : EvW K tn ns te ρ n R) : ExW K tn ns (tDrop te) ρ n (· = ρ) Pr := fun c A σ H D hc l hm ht hE q1 q2 =>
  h c A σ H hc l hm ht hE _ fun d v H' r k t hv => q1 ρ σ H' rfl k t (hE.same (keep_cut hm k))
theorem xw_asg {R : PyData → Prop} {i : Nat} (h : EvW K tn ns te ρ n R) : ExW K tn ns (tAsg te (gName i)) ρ n (fun ρ' => ∃ d, R d ∧ ρ' = ρ.set i (some d)) Pr := fun c A σ H D hc l hm ht hE q1 q2 =>
  h c A σ H hc l hm ht hE _ fun d v H' r k t hv => q1 _ _ H' ⟨d, r, rfl⟩ k t ((hE.same (keep_cut hm k)).set hv i)
theorem xw_asgT {R : PyData → Prop} {g : TG} {ws : List Nat} {r2 : PyData → Rho} (h : EvW K tn ns te ρ n R) (hg : ∀ d, R d → TgD K g d ρ (r2 d) ws) : ExW K tn ns (tAsg te g) ρ n (fun ρ' => ∃ d, R d ∧ ρ' = r2 d) Pr := fun c A σ H D hc l hm ht hE q1 q2 =>
  h c A σ H hc l hm ht hE _ fun d v H' r k t hv => hg d r A σ H' v (live_keep l k t) (hE.same (keep_cut hm k)) hv _ fun σ' hE' _ => q1 _ σ' H' ⟨d, r, rfl⟩ k t hE'
theorem xw_par {i j : Nat} {ta : TA} {R : List PyData → Prop} (h : EaW K tn ns ta ρ n R) (hR : ∀ ds, R ds → ds.length = 2) : ExW K tn ns (tPar i j ta) ρ n (fun ρ' => ∃ d e, R [d, e] ∧ ρ' = (ρ.set i (some d)).set j (some e)) Pr := fun c A σ H D hc l hm ht hE q1 q2 =>
  h c A σ H hc l hm ht hE _ fun ds vs H' r k t hv => by
    have hl := hR ds r
    match ds, hl, hv with
    | [d, e], _, .cons h1 (.cons h2 .nil) => exact ⟨_, _, rfl, q1 _ _ H' ⟨d, e, r, rfl⟩ k t (((hE.same (keep_cut hm k)).set h1 i).set h2 j)⟩
theorem xw_if {P : Bool → Prop} (h : EtW K tn ns t ρ n P) (h1 : P true → ExW K tn ns ts ρ m Pn Pr) (h2 : P false → ExW K tn ns tz ρ m Pn Pr) : ExW K tn ns (tIfS t ts tz) ρ (n + m) Pn Pr := fun c A σ H D hc l hm ht hE q1 q2 =>
  h c A σ H (by omega) l hm ht hE _ fun b H1 p k1 t1 => by
    have E1 := hE.same (keep_cut hm k1)
    have L1 := live_keep l k1 t1
    cases b with
    | true => exact iteT (h1 p (c + n) A σ H1 D (by omega) L1 hm t1 E1 (fun ρ2 σ2 H2 p2 k2 t2 hE2 => q1 ρ2 σ2 H2 p2 (k1.trans k2) (t2.mono (by omega)) hE2) (fun d v H2 p2 k2 t2 hv => q2 d v H2 p2 (k1.trans k2) (t2.mono (by omega)) hv))
    | false => exact iteF (h2 p (c + n) A σ H1 D (by omega) L1 hm t1 E1 (fun ρ2 σ2 H2 p2 k2 t2 hE2 => q1 ρ2 σ2 H2 p2 (k1.trans k2) (t2.mono (by omega)) hE2) (fun d v H2 p2 k2 t2 hv => q2 d v H2 p2 (k1.trans k2) (t2.mono (by omega)) hv))
/-- a pure test that is known -/
theorem xw_ifP {b : Bool} (h : EvT K t ρ b) (h1 : b = true → ExW K tn ns ts ρ m Pn Pr) (h2 : b = false → ExW K tn ns tz ρ m Pn Pr) : ExW K tn ns (tIfS t ts tz) ρ m Pn Pr := by
  have := xw_if (tn := tn) (ns := ns) (m := m) (et_pure (tn := tn) (ns := ns) h) (fun e => h1 e.symm) (fun e => h2 e.symm)
  rw [Nat.zero_add] at this
  exact this
/-- a for over what is known; I: what holds between two turns -/
theorem xw_for {α : Type} {wi : TI} {g : TG} {ws : List Nat} (xs : List α) (enc : α → PyData) (I : Nat → Rho → Prop) (r2 : α → Rho → Rho) (hi : ItD K wi ρ (xs.map enc)) (h0 : I 0 ρ)
    (hg : ∀ i (h : i < xs.length) ρ', I i ρ' → TgD K g (enc xs[i]) ρ' (r2 xs[i] ρ') ws) (hb : ∀ i (h : i < xs.length) ρ', I i ρ' → ExW K tn ns ts (r2 xs[i] ρ') n (I (i + 1)) Pr) :
    ExW K tn ns (tFor wi g ts) ρ (xs.length * n) (I xs.length) Pr := fun c A σ H D hc l hm ht hE q1 q2 => hi A σ H l hE _ fun J H1 s1 hJ => by
  refine ⟨fun i m σ' H' => m = xs.length - i ∧ i ≤ xs.length ∧ Keep [tn] H1 H' ∧ Town ns tn (c + i * n) H' ∧ ∃ ρ', I i ρ' ∧ EnvD K (cut A H') σ' ρ', ⟨xs.length, by simp, Nat.zero_le _, Keep.refl, by rw [Nat.zero_mul, Nat.add_zero]; exact ht.same s1, ρ, h0, hE.same (cut_same s1)⟩, ?_⟩
  rintro i m σ' H' ⟨rfl, hle, hk, hT, ρ', hI, hE'⟩
  have lv : Live A H' := live_keep (l.same s1) hk hT
  have kA : Keep A H1 H' := hk.mono (by simpa using hm)
  by_cases hlt : i < xs.length
  · have hstep : (i + 1) * n ≤ xs.length * n := Nat.mul_le_mul_right _ hlt
    have hexp : (i + 1) * n = i * n + n := Nat.succ_mul _ _
    refine .inr ⟨hJ.goes i H' (by simpa using hlt) kA, fun σ2 H2 => Keep [tn] H1 H2 ∧ Town ns tn (c + (i + 1) * n) H2 ∧ ∃ ρ2, I (i + 1) ρ2 ∧ EnvD K (cut A H2) σ2 ρ2, fun σ2 H2 h2 => ⟨xs.length - (i + 1), by omega, rfl, hlt, h2⟩, fun x H2 hy => ?_⟩
    obtain ⟨s2, d, hd, hx⟩ := hJ.yields i H' x H2 A (by simpa using hlt) kA lv Off.refl hy
    have hdi : d = enc xs[i] := by
      rw [List.getElem?_map, List.getElem?_eq_getElem hlt] at hd
      exact (Option.some.inj hd).symm
    subst hdi
    refine hg i hlt ρ' hI A σ' H2 x (lv.same s2) (hE'.same (cut_same s2)) hx _ fun σ2 hE2 _ => ?_
    refine hb i hlt ρ' hI (c + i * n) A σ2 H2 _ (by omega) (lv.same s2) hm (hT.same s2) hE2 (fun ρ3 σ3 H3 p3 k3 t3 hE3 => ⟨(hk.trans (Keep.of s2)).trans k3, t3.mono (by omega), ρ3, p3, hE3⟩) (fun d v H3 p3 k3 t3 hv => ?_)
    exact q2 d v H3 p3 (((Keep.of s1).trans (hk.trans (Keep.of s2))).trans k3) (t3.mono (by omega)) hv
  · have e : i = xs.length := by omega
    subst e
    exact .inl ⟨by have := hJ.stops H' kA; simpa using this, q1 ρ' σ' H' hI ((Keep.of s1).trans hk) hT hE'⟩
/-- the body of a def that draws -/
theorem sp_bodyT {P : List PyData → Prop} {R : List PyData → PyData → Prop} {N : List Str} {t : TS} {vs : List V} {H : Hp} {Q : VK} (h : ∀ tn ns ds, P ds → ExW K tn ns t (startD N.length (scrD ns :: adrD tn :: ds)) n (fun _ => False) (R ds))
    (hs : spT K n P R vs H Q E) : t { nx := fun _ H' => Q .non H', rt := Q } (L2.start N vs) H := by
  obtain ⟨A, tn, ns, c, hc, l, hm, hT, ds, hv, hP, q⟩ := hs
  exact h tn ns ds hP c A _ H _ hc l hm hT (env_of hv) (fun _ _ _ z => z.elim) q
theorem spT_len {P : List PyData → Prop} {R : List PyData → PyData → Prop} {k : Nat} (hP : ∀ ds, P ds → ds.length = k) {vs : List V} {H : Hp} {Q : VK} (hs : spT K n P R vs H Q E) : vs.length = k + 2 := by
  obtain ⟨A, tn, ns, c, hc, l, hm, hT, ds, hv, hp, q⟩ := hs
  rw [hv.length]
  simp [hP ds hp]
theorem spD_len {R : List PyData → Out → Prop} {k : Nat} (hR : ∀ ds o, R ds o → ds.length = k) {vs : List V} {H : Hp} {Q : VK} (hs : spD K R vs H Q E) : vs.length = k := by
  obtain ⟨A, ds, o, l, hv, hr, c⟩ := hs
  rw [hv.length]
  exact hR ds o hr
/-! ### the town is made -/
def spTown (K : PySem.W.Frag) : Sp := fun vs H Q _ => ∃ A ns, Live A H ∧ ns.length ≤ 1000 ∧ DqAll K (cut A H) vs [scrD ns] ∧ ∀ p H', H p = none → Same H H' → H' p = some (.lst (((0 : Int) :: ns).map V.int)) → Q (.ref p) H'
theorem spTown_len {vs : List V} {H : Hp} {Q : VK} (hs : spTown K vs H Q E) : vs.length = 1 := by
  obtain ⟨A, ns, l, _, hv, q⟩ := hs
  rw [hv.length]; rfl
/-- the reading of [0] + list(script) -/
def t_law_town (K : PySem.W.Frag) (E : XK) : TS := (tRet (tOp (rAddU K) (tLst (tCons (tC (.int 0)) tNil)) (tCB (rListU K) (tCons (tVar 0) tNil))))
theorem pure_law_town {vs : List V} {H : Hp} {Q : VK} (hs : spTown K vs H Q E) : t_law_town K E { nx := fun _ H' => Q .non H', rt := Q } (L2.start ["script"] vs) H := by
  obtain ⟨A, ns, l, hz, hv, q⟩ := hs
  cases hv with
  | cons h1 h2 =>
    cases h2
    obtain ⟨a, rfl, k⟩ := h1.scrI
    refine ⟨by decide, fun p hp => ⟨.ref a, rfl, ?_⟩⟩
    refine ⟨a, _, rfl, .inl (sql_same (same_cut.trans (same_new hp)) k), fun p2 hp2 => ?_⟩
    have hne : p ≠ p2 := fun z => by rw [← z, upd_same] at hp2; cases hp2
    refine .inr (.inr (.inl ⟨p, p2, [.int 0], _, rfl, rfl, by rw [upd_ne hne]; exact upd_same, upd_same, ?_, fun p3 hp3 => ?_⟩))
    · rw [List.length_map]
      exact Nat.le_trans (show 1 + ns.length ≤ 2000 by omega) (by decide)
    · exact q p3 _ (((same_new hp).trans (same_new hp2)).free hp3) (((same_new hp).trans (same_new hp2)).trans (same_new hp3)) upd_same
end
end Lc

set_option Elab.async false
set_option linter.all false
set_option maxRecDepth 100000
set_option maxHeartbeats 4000000
namespace Lc
open PySem L2 PySem.Spec PyProof.Rows
section
variable {K : PySem.W.Frag} {E : XK}
theorem dps_ints {H : Hp} : ∀ ns : List Int, DpAll K H (ns.map V.int) (ns.map PyData.int)
  | [] => .nil
  | n :: ns => .cons (.int n) (dps_ints ns)
theorem sh_lstI {n : Nat} {ns : List Int} : Sh (n + 1) (.list (ns.map .int)) := sh_lst fun d hd => by
  obtain ⟨i, _, rfl⟩ := List.mem_map.mp hd
  exact sh_int
theorem od_eqScr {ns : List Int} {e : PyData} (h : Sh 40 e) : OpD K (rEqD K) (scrD ns) e (.bool (PyData.eqv (.list (ns.map .int)) e)) := fun A x y H l hx hy Q q => by
  obtain ⟨a, rfl, k⟩ := hx.scrI
  exact ⟨.list (ns.map .int), e, .lst (sql_same same_cut k) (dps_ints ns), dq_dp e h.1 (dq_out hy), (sh_lstI (n := 10)).shaped (by decide), h.shaped (by decide), q _ H (Same.refl H) (.bl _)⟩
theorem ca_lenScr {ns : List Int} : CaD K (rLenU K) [scrD ns] (.int ns.length) := CaD.inl fun A xs H l hx Q q => by
  cases hx with
  | cons h1 h2 =>
    cases h2
    obtain ⟨a, rfl, k⟩ := h1.scrI
    exact ⟨_, _, rfl, .inl (sql_same same_cut k), q _ H (Same.refl H) (by rw [List.length_map]; exact .int _)⟩
theorem od_ixScr {ns : List Int} {i : Int} {z : Int} (h : atI ns i = some z) : OpD K (rIx K) (scrD ns) (.int i) (.int z) := fun A x y H l hx hy Q q => by
  cases hy
  obtain ⟨a, rfl, k⟩ := hx.scrI
  refine .inl ⟨_, _, i, .int z, rfl, rfl, sql_same same_cut k, ?_, q _ H (Same.refl H) (.int _)⟩
  unfold atI at h ⊢
  rw [List.length_map]
  cases e : ixN ns.length i with
  | none => rw [e] at h; cases h
  | some j =>
    rw [e] at h
    have h' : ns[j]? = some z := h
    show (ns.map V.int)[j]? = some (V.int z)
    rw [List.getElem?_map, h'] <;> rfl
def t_law_draw (K : PySem.W.Frag) (E : XK) : TS := (tSeq (tAsg (tOp (rAddU K) (tOp (rIx K) (tVar 1) (tC (.int 0))) (tC (.int 1))) (gSub (tVar 1) (tC (.int 0)) rSetL))
  (tSeq (tIfS (tTest (tOp (rEqD K) (tVar 0) (tLst tNil))) (tRet (tOp rModU (tOp rDivU (tOp (rMulU K) (tOp (rMulU K) (tOp (rIx K) (tVar 1) (tC (.int 0))) (tOp (rIx K) (tVar 1) (tC (.int 0)))) (tC (.int 7))) (tC (.int 3))) (tVar 2))) tNext)
  (tSeq (tAsg (tOp rModU (tOp (rIx K) (tVar 1) (tC (.int 0))) (tCB (rLenU K) (tCons (tVar 0) tNil))) (gName 3))
  (tSeq (tAsg (tOp (rIx K) (tVar 1) (tOp (rAddU K) (tC (.int 1)) (tVar 3))) (gName 4))
  (tSeq (tIfS (tAnd (tTest (tOp rGeI (tOp (rIx K) (tVar 0) (tVar 3)) (tOp rPowU (tC (.int 10)) (tC (.int 18))))) (tTest (tOp rGtI (tVar 4) (tC (.int 0))))) (tSeq (tAsg (tOp rDivU (tVar 4) (tVar 2)) (gSub (tVar 1) (tOp (rAddU K) (tC (.int 1)) (tVar 3)) rSetL))
  (tRet (tOp rModU (tVar 4) (tVar 2)))) tNext)
  (tSeq (tAsg (tOp rModU (tOp (rAddU K) (tOp (rIx K) (tVar 0) (tVar 3)) (tOp (rMulU K) (tC (.int 104729)) (tOp (rIx K) (tVar 1) (tC (.int 0))))) (tC (.int 4294967291))) (gName 5))
  (tSeq (tAsg (tOp rModU (tOp rPowU (tVar 5) (tC (.int 5))) (tC (.int 4294967279))) (gName 5))
  (tRet (tOp rModU (tOp rDivU (tOp rModU (tOp (rAddU K) (tOp (rMulU K) (tOp rDivU (tVar 5) (tC (.int 64))) (tC (.int 69621))) (tVar 5)) (tC (.int 4294967231))) (tC (.int 8))) (tVar 2))))))))))
def pDraw : List PyData → Prop := fun ds => ∃ limit : Int, ds = [.int limit] ∧ 0 < limit ∧ limit < 1073741824
def rDraw : List PyData → PyData → Prop := fun ds d => ∃ limit r : Int, ds = [.int limit] ∧ d = .int r ∧ 0 ≤ r ∧ r < limit
def spDraw (K : PySem.W.Frag) : Sp := spT K 1 pDraw rDraw
theorem ed_nat (a b : Int) (h : 0 < b) : 0 ≤ a % b ∧ a % b < b := ⟨Int.emod_nonneg _ (by omega), Int.emod_lt_of_pos _ h⟩
theorem cmulL {i j : Int} (h1 : -1000000000000 ≤ i) (h2 : i ≤ 1000000000000) : CMul i j := .inl ⟨by omega, by omega⟩
theorem cmulR {i j : Int} (h1 : -1000000000000 ≤ j) (h2 : j ≤ 1000000000000) : CMul i j := .inr ⟨by omega, by omega⟩
/-- data that is an int is that int under any places -/
theorem dq_int {F F' : Hp} {v : V} {i : Int} (h : Dq K F v (.int i)) : Dq K F' v (.int i) := by cases h; exact .int i
theorem pure_law_draw {vs : List V} {H : Hp} {Q : VK} (hs : spDraw K vs H Q E) : t_law_draw K E { nx := fun _ H' => Q .non H', rt := Q } (L2.start ["script", "town", "limit", "at", "left", "number"] vs) H := by
  obtain ⟨A, tn, ns, c, hc, l, hm, ⟨ts, hts, tl, t0, t1⟩, ds, hv, ⟨limit, rfl, hl0, hl1⟩, q⟩ := hs
  have hlen : 0 < ts.length := by omega
  have hc' : c + 1 ≤ 1000000 := hc
  -- the places without the town
  let B := A.filter (fun a => decide (a ≠ tn))
  have hB : ∀ a, a ∈ B → a ∈ A := fun a ha => (List.mem_filter.mp ha).1
  have htB : tn ∉ B := fun h => by have := (List.mem_filter.mp h).2; simp at this
  have sAB : ∀ H : Hp, Same (cut A H) (cut B H) := fun H a o e => by
    obtain ⟨h1, h2⟩ := cut_some e
    rw [cut_out (fun z => h1 (hB a z))]; exact h2
  have lB : ∀ H' : Hp, Keep [tn] H H' → Live B H' := fun H' k a ha e => by
    have hne : a ≠ tn := fun z => htB (z ▸ ha)
    cases q1 : H a with
    | none => exact l a (hB a ha) q1
    | some o => rw [k a o (by simpa using hne) q1] at e; cases e
  match vs, hv with
  | [vs0, vs1, vs2], .cons hs0 (.cons ha0 (.cons hl0' .nil)) =>
    cases hl0'
    have e1 := ha0.adrI
    subst e1
    have env : ∀ (H' : Hp) (us : List Int), Keep [tn] H H' → H' tn = some (.lst (us.map V.int)) → EnvD K (cut B H') [some vs0, some (.ref tn), some (.int limit), none, none, none] [some (scrD ns), some (.list (us.map .int)), some (.int limit), none, none, none] := fun H' us k hu =>
      .cons (dp_same ((keep_cut hm k).trans (sAB H')) hs0) (.cons (.lst (by rw [cut_out htB]; exact hu) (DqAll.ofInts us)) (.cons (.int limit) (.cons trivial (.cons trivial (.cons trivial .nil)))))
    have g0 : ∀ us : List Int, 0 < us.length → atI (us.map PyData.int) 0 = some (.int (us.getD 0 0)) := fun us hu => by
      have : (us.map PyData.int)[0]? = some (.int (us.getD 0 0)) := by
        cases us with
        | nil => simp at hu
        | cons a r => rfl
      exact atI_nat (i := 0) this
    -- the count
    let us := ts.set 0 (ts.getD 0 0 + 1)
    have ul : us.length = ts.length := by simp [us]
    have u0 : us.getD 0 0 = ts.getD 0 0 + 1 := by
      cases ts with
      | nil => simp at hlen
      | cons a r => rfl
    have step1 : EvD K (tOp (rAddU K) (tOp (rIx K) (tVar 1) (tC (.int 0))) (tC (.int 1))) [some (scrD ns), some (.list (ts.map .int)), some (.int limit), none, none, none] (.int (ts.getD 0 0 + 1)) :=
      ev_op (ev_op (ev_var rfl) ev_int (od_ixL (g0 ts hlen))) ev_int od_add
    refine step1 B _ H (lB H Keep.refl) (env H ts Keep.refl hts) _ fun x H1 s1 hx => ?_
    cases hx
    refine ⟨.ref tn, rfl, tn, ts.map V.int, 0, 0, rfl, rfl, s1 _ _ hts, by unfold ixN; rw [List.length_map, if_pos (Int.le_refl 0), if_pos (by omega)]; rfl, ?_⟩
    have eset : (ts.map V.int).set 0 (.int (ts.getD 0 0 + 1)) = us.map V.int := by simp [us, List.map_set]
    rw [eset]
    have k2 : Keep [tn] H (upd H1 tn (.lst (us.map V.int))) := fun a o ha h => by
      rw [upd_ne (by simpa using ha)]; exact s1 a o h
    have hus : upd H1 tn (.lst (us.map V.int)) tn = some (.lst (us.map V.int)) := upd_same
    generalize hH2 : upd H1 tn (.lst (us.map V.int)) = H2 at k2 hus ⊢
    have E2 := env H2 us k2 hus
    have L2' := lB H2 k2
    have towns : ∀ (H' : Hp) (zs : List Int), Keep [tn] H H' → H' tn = some (.lst (zs.map V.int)) → zs.length = ts.length → zs.getD 0 0 = us.getD 0 0 → Town ns tn (c + 1) H' := fun H' zs k hz hl h0 => ⟨zs, hz, by omega, by rw [h0, u0]; omega, by rw [h0, u0]; push_cast; omega⟩
    -- a pure end
    have fin : ∀ (tz : TS) (r : Int), ExS K E tz [some (scrD ns), some (.list (us.map .int)), some (.int limit), none, none, none] (.rt (.int r)) → 0 ≤ r → r < limit → tz { nx := fun _ H' => Q .non H', rt := Q } [some vs0, some (.ref tn), some (.int limit), none, none, none] H2 := fun tz r h h0 h1 =>
      h B _ H2 _ L2' E2 fun v H3 s3 hv => q (.int r) v H3 ⟨limit, r, rfl, rfl, h0, h1⟩ (k2.trans (Keep.of s3)) (towns H3 us (k2.trans (Keep.of s3)) (s3 _ _ hus) ul rfl) (dq_int hv)
    have v1 : EvD K (tOp (rIx K) (tVar 1) (tC (.int 0))) [some (scrD ns), some (.list (us.map .int)), some (.int limit), none, none, none] (.int (us.getD 0 0)) := ev_op (ev_var rfl) ev_int (od_ixL (g0 us (by omega)))
    have hub : 0 ≤ us.getD 0 0 ∧ us.getD 0 0 ≤ 1000001 := by rw [u0]; omega
    by_cases hn : ns = []
    · -- an empty script
      have htest : EvT K (tTest (tOp (rEqD K) (tVar 0) (tLst tNil))) [some (scrD ns), some (.list (us.map .int)), some (.int limit), none, none, none] true :=
        et_test (ev_op (ev_var rfl) (ev_lst ea_nil (by simp)) (by
          have := od_eqScr (K := K) (ns := ns) (e := .list []) sh_nilL
          rw [hn] at this ⊢
          exact this))
      have hret := ed_nat (us.getD 0 0 * us.getD 0 0 * 7 / 3) limit hl0
      refine fin _ _ (xs_seqR (xs_if htest (fun _ => xs_ret (ev_op (ev_op (ev_op (ev_op v1 v1 (od_mul (cmulL (by omega) (by omega)))) ev_int (od_mul (cmulR (by omega) (by omega)))) ev_int (od_div (by omega) (by omega))) (ev_var rfl) (od_mod hl0))) (fun z => by cases z))) hret.1 hret.2
    · have hnl : 0 < ns.length := List.length_pos_iff.mpr hn
      have htest : EvT K (tTest (tOp (rEqD K) (tVar 0) (tLst tNil))) [some (scrD ns), some (.list (us.map .int)), some (.int limit), none, none, none] false :=
        et_test (ev_op (ev_var rfl) (ev_lst ea_nil (by simp)) (by
          have h := od_eqScr (K := K) (ns := ns) (e := .list []) sh_nilL
          cases ns with
          | nil => exact absurd rfl hn
          | cons a r => simpa [PyData.eqv, PyData.eqvAll] using h))
      let j := us.getD 0 0 % (ns.length : Int)
      have hj := ed_nat (us.getD 0 0) (ns.length : Int) (by omega)
      have hjn : j.toNat < ns.length := by show (us.getD 0 0 % (ns.length : Int)).toNat < ns.length; omega
      have hat : atI ns j = some (ns.getD j.toNat 0) := atI_of hj.1 (by simp [hjn])
      have hleft : atI (us.map PyData.int) (1 + j) = some (.int (us.getD (1 + j).toNat 0)) := by
        have h1 : (1 + j).toNat < us.length := by omega
        exact atI_of (by omega) (by simp [h1])
      have s3 : ExS K E (tAsg (tOp rModU (tOp (rIx K) (tVar 1) (tC (.int 0))) (tCB (rLenU K) (tCons (tVar 0) tNil))) (gName 3)) [some (scrD ns), some (.list (us.map .int)), some (.int limit), none, none, none] (.nx [some (scrD ns), some (.list (us.map .int)), some (.int limit), some (.int j), none, none]) :=
        xs_asg (ev_op v1 (ev_cb (ea_cons (ev_var rfl) ea_nil) ca_lenScr) (od_mod (by omega)))
      have s4 : ExS K E (tAsg (tOp (rIx K) (tVar 1) (tOp (rAddU K) (tC (.int 1)) (tVar 3))) (gName 4)) [some (scrD ns), some (.list (us.map .int)), some (.int limit), some (.int j), none, none] (.nx [some (scrD ns), some (.list (us.map .int)), some (.int limit), some (.int j), some (.int (us.getD (1 + j).toNat 0)), none]) :=
        xs_asg (ev_op (ev_var rfl) (ev_op ev_int (ev_var rfl) od_add) (od_ixL hleft))
      have vat : ∀ (x : Option PyData), EvD K (tOp (rIx K) (tVar 0) (tVar 3)) [some (scrD ns), some (.list (us.map .int)), some (.int limit), some (.int j), some (.int (us.getD (1 + j).toNat 0)), x] (.int (ns.getD j.toNat 0)) := fun x => ev_op (ev_var rfl) (ev_var rfl) (od_ixScr hat)
      have v1' : ∀ (x : Option PyData), EvD K (tOp (rIx K) (tVar 1) (tC (.int 0))) [some (scrD ns), some (.list (us.map .int)), some (.int limit), some (.int j), some (.int (us.getD (1 + j).toNat 0)), x] (.int (us.getD 0 0)) := fun x => ev_op (ev_var rfl) ev_int (od_ixL (g0 us (by omega)))
      have ht5 : EvT K (tAnd (tTest (tOp rGeI (tOp (rIx K) (tVar 0) (tVar 3)) (tOp rPowU (tC (.int 10)) (tC (.int 18))))) (tTest (tOp rGtI (tVar 4) (tC (.int 0))))) [some (scrD ns), some (.list (us.map .int)), some (.int limit), some (.int j), some (.int (us.getD (1 + j).toNat 0)), none] (decide ((10 : Int) ^ (18 : Int).toNat ≤ ns.getD j.toNat 0) && decide (0 < us.getD (1 + j).toNat 0)) :=
        et_and (et_test (ev_op (vat none) (ev_op ev_int ev_int (od_pow ⟨by omega, by omega, by decide⟩)) od_ge)) (fun _ => et_test (ev_op (ev_var rfl) ev_int od_gt))
      have s2 : ExS K E (tIfS (tTest (tOp (rEqD K) (tVar 0) (tLst tNil))) (tRet (tOp rModU (tOp rDivU (tOp (rMulU K) (tOp (rMulU K) (tOp (rIx K) (tVar 1) (tC (.int 0))) (tOp (rIx K) (tVar 1) (tC (.int 0)))) (tC (.int 7))) (tC (.int 3))) (tVar 2))) tNext) [some (scrD ns), some (.list (us.map .int)), some (.int limit), none, none, none] (.nx [some (scrD ns), some (.list (us.map .int)), some (.int limit), none, none, none]) :=
        xs_if htest (fun z => by cases z) (fun _ => xs_next)
      cases hb : (decide ((10 : Int) ^ (18 : Int).toNat ≤ ns.getD j.toNat 0) && decide (0 < us.getD (1 + j).toNat 0)) with
      | false =>
        rw [hb] at ht5
        let z1 := (ns.getD j.toNat 0 + 104729 * us.getD 0 0) % 4294967291
        have hz1 := ed_nat (ns.getD j.toNat 0 + 104729 * us.getD 0 0) 4294967291 (by omega)
        let z2 := z1 ^ (5 : Int).toNat % 4294967279
        have hz2 := ed_nat (z1 ^ (5 : Int).toNat) 4294967279 (by omega)
        have hret := ed_nat ((z2 / 64 * 69621 + z2) % 4294967231 / 8) limit hl0
        refine fin _ _ (xs_seq s2 (xs_seq s3 (xs_seq s4 (xs_seq (xs_if ht5 (fun z => by cases z) (fun _ => xs_next)) (xs_seq (xs_asg (d := .int z1) (ev_op (ev_op (vat none) (ev_op ev_int (v1' none) (od_mul (cmulL (by omega) (by omega)))) od_add) ev_int (od_mod (by omega)))) (xs_seq (xs_asg (d := .int z2) (ev_op (ev_op (ev_var rfl) ev_int (od_pow ⟨by omega, by omega, ?_⟩)) ev_int (od_mod (by omega)))) (xs_ret (ev_op (ev_op (ev_op (ev_op (ev_op (ev_op (ev_var rfl) ev_int (od_div (by omega) (by omega))) ev_int (od_mul (cmulR (by omega) (by omega)))) (ev_var rfl) od_add) ev_int (od_mod (by omega))) ev_int (od_div (by omega) (by omega))) (ev_var rfl) (od_mod hl0))))))))) hret.1 hret.2
        have a1 : 0 ≤ z1 ∧ z1 < 4294967291 := hz1
        have : z1.natAbs < 4294967291 := by omega
        exact Nat.lt_trans this (by decide)
      | true =>
        rw [hb] at ht5
        have eat : EvD K (tOp rModU (tOp (rIx K) (tVar 1) (tC (.int 0))) (tCB (rLenU K) (tCons (tVar 0) tNil))) [some (scrD ns), some (.list (us.map .int)), some (.int limit), none, none, none] (.int j) :=
          ev_op v1 (ev_cb (ea_cons (ev_var rfl) ea_nil) ca_lenScr) (od_mod (by omega))
        have elf : EvD K (tOp (rIx K) (tVar 1) (tOp (rAddU K) (tC (.int 1)) (tVar 3))) [some (scrD ns), some (.list (us.map .int)), some (.int limit), some (.int j), none, none] (.int (us.getD (1 + j).toNat 0)) :=
          ev_op (ev_var rfl) (ev_op ev_int (ev_var rfl) od_add) (od_ixL hleft)
        refine htest B _ H2 L2' E2 _ fun H3 sm3 => iteF ?_
        have E3 := E2.same (cut_same sm3)
        refine eat B _ H3 (L2'.same sm3) E3 _ fun x H4 sm4 hx => ?_
        cases hx
        have E4 := (E3.same (cut_same sm4)).set (Dq.int j) 3
        refine elf B _ H4 ((L2'.same sm3).same sm4) E4 _ fun x H5 sm5 hx => ?_
        cases hx
        have E5 := (E4.same (cut_same sm5)).set (Dq.int (us.getD (1 + j).toNat 0)) 4
        have s25 := (sm3.trans sm4).trans sm5
        refine ht5 B _ H5 (L2'.same s25) E5 _ fun H6 sm6 => iteT ?_
        have s26 := s25.trans sm6
        have E6 := E5.same (cut_same sm6)
        have hq : EvD K (tOp rDivU (tVar 4) (tVar 2)) [some (scrD ns), some (.list (us.map .int)), some (.int limit), some (.int j), some (.int (us.getD (1 + j).toNat 0)), none] (.int (us.getD (1 + j).toNat 0 / limit)) := ev_op (ev_var rfl) (ev_var rfl) (od_div hl0 hl1)
        refine hq B _ H6 (L2'.same s26) E6 _ fun x H7 sm7 hx => ?_
        cases hx
        have s27 := s26.trans sm7
        have E7 := E6.same (cut_same sm7)
        refine ⟨.ref tn, rfl, ?_⟩
        have hix : EvD K (tOp (rAddU K) (tC (.int 1)) (tVar 3)) [some (scrD ns), some (.list (us.map .int)), some (.int limit), some (.int j), some (.int (us.getD (1 + j).toNat 0)), none] (.int (1 + j)) := ev_op ev_int (ev_var rfl) od_add
        refine hix B _ H7 (L2'.same s27) E7 _ fun x H8 sm8 hx => ?_
        cases hx
        have s28 := s27.trans sm8
        have hin : (1 + j).toNat < us.length := by omega
        refine ⟨tn, us.map V.int, 1 + j, (1 + j).toNat, rfl, rfl, s28 _ _ hus, ?_, ?_⟩
        · unfold ixN
          rw [List.length_map, if_pos (by omega), if_pos (by omega)]
        have eset2 : (us.map V.int).set (1 + j).toNat (.int (us.getD (1 + j).toNat 0 / limit)) = (us.set (1 + j).toNat (us.getD (1 + j).toNat 0 / limit)).map V.int := by simp [List.map_set]
        rw [eset2]
        have hret := ed_nat (us.getD (1 + j).toNat 0) limit hl0
        refine ⟨_, rfl, _, rfl, _, _, rfl, rfl, hl0, ?_⟩
        have k9 : Keep [tn] H (upd H8 tn (.lst ((us.set (1 + j).toNat (us.getD (1 + j).toNat 0 / limit)).map V.int))) := fun a o ha h => by
          rw [upd_ne (by simpa using ha)]; exact s28 a o (k2 a o ha h)
        refine q (.int _) _ _ ⟨limit, _, rfl, rfl, hret.1, hret.2⟩ k9 (towns _ _ k9 upd_same (by rw [List.length_set]; exact ul) ?_) (.int _)
        have hne : (1 + j).toNat ≠ 0 := by omega
        rw [List.getD_eq_getElem?_getD, List.getElem?_set_ne hne, ← List.getD_eq_getElem?_getD]
end
end Lc

set_option Elab.async false
set_option linter.all false
set_option maxRecDepth 100000
set_option maxHeartbeats 4000000
namespace Lc
open PySem L2 PySem.Spec PyProof.Rows
/-! ### two readings of one text -/
def tEither (t u : TE) : TE := fun σ H Q => t σ H Q ∨ u σ H Q
theorem pe_either {X : Cx} {e : Expr} {t u : TE} (h : PE X e t) (k : PE X e u) : PE X e (tEither t u) := ⟨fun pins s σ H Q I z => z.elim (h.run pins s σ H Q I) (k.run pins s σ H Q I)⟩
section
variable {X : Cx}
/-! ### t.index(x), l.count(x) of deep data -/
def rIndexT (K : PySem.W.Frag) : V → List V → Hp → VK → Prop := fun x xs H Q => ∃ (y : V) (d : PyData) (ds : List PyData), xs = [y] ∧ Dp K H x (.tuple ds) ∧ Dp K H y d ∧ SeqAt.shaped (.tuple ds) = true ∧ SeqAt.shaped d = true ∧ true ∈ ds.map (fun z => PyData.eqv z d) ∧ Q (.int ((ds.map fun z => PyData.eqv z d).idxOf true : Nat)) H
theorem mt_indexT (hu : X.A.units + 65 < cLine) : MtR X "tuple.index" (rIndexT X.K) := by
  intro pins s σ H x xs v us Q I rx rxs h
  obtain ⟨y, d, ds, rfl, hl, hy, sl, sd, hm, q⟩ := h
  cases rxs with
  | cons ry rt =>
    rename_i uy ut
    cases rt
    obtain ⟨bs, r1⟩ := Dp.reads I d y uy hy ry
    have hxs : PyData.canLayAll0 ds = true := SeqAt.canLay_of_shaped sl
    have hroom : X.A.units + 1 + min (PyData.depthAll ds) d.depth < cLine := room_in_shaped sd hu
    cases hl with
    | tup hs ha =>
      cases rx
      obtain ⟨its, rv, ht, hlen⟩ := I.tuple hs
      obtain ⟨as, h4⟩ := Dp.readsAll I ds _ its ha rv
      have hmap : its.map (SeqAt.readOf s.heap) = ds := SeqAt.readsAll_map ds its as hxs h4
      have hall := SeqAt.items_eqAt (A := X.A) (vs := its.toArray) (show ReadsAll s.heap its.toArray.toList ds as from h4) r1 hxs (SeqAt.canLay_of_shaped sd) hroom
      obtain ⟨o, e1, e2, n, e3⟩ := ht
      refine SeqAt.call_tuple_index (ks := ds.map fun z => PyData.eqv z d) (k := true) (vs := its) ⟨o, e1, e2, n, e3⟩ ⟨?_, fun j h1 h2 => ?_⟩ hm ⟨.int _, H, I.tok _, ⟨_, rfl⟩, q⟩
      · rw [List.length_map, ← hmap, List.length_map]
      · have hj := hall its[j] (by simp)
        have e : (ds.map fun z => PyData.eqv z d)[j] = PyData.eqv (SeqAt.readOf s.heap its[j]) d := by
          have h3 : j < ds.length := by simpa using h2
          rw [List.getElem_map]
          congr 1
          have : (its.map (SeqAt.readOf s.heap))[j]? = ds[j]? := by rw [hmap]
          rw [List.getElem?_map, List.getElem?_eq_getElem h1, List.getElem?_eq_getElem h3] at this
          exact (Option.some.inj this).symm
        rw [e]
        cases hb : PyData.eqv (SeqAt.readOf s.heap its[j]) d <;> rw [hb] at hj <;> exact hj
def rCountL (K : PySem.W.Frag) : V → List V → Hp → VK → Prop := fun x xs H Q => ∃ (y : V) (d : PyData) (ds : List PyData), xs = [y] ∧ Dp K H x (.list ds) ∧ Dp K H y d ∧ SeqAt.shaped (.list ds) = true ∧ SeqAt.shaped d = true ∧ Q (.int (ds.countP (fun z => PyData.eqv z d) : Nat)) H
theorem mt_countL (hu : X.A.units + 65 < cLine) : MtR X "list.count" (rCountL X.K) := by
  intro pins s σ H x xs v us Q I rx rxs h
  obtain ⟨y, d, ds, rfl, hl, hy, sl, sd, q⟩ := h
  cases rxs with
  | cons ry rt =>
    rename_i uy ut
    cases rt
    obtain ⟨bs, r1⟩ := Dp.reads I d y uy hy ry
    have hxs : PyData.canLayAll0 ds = true := SeqAt.canLay_of_shaped sl
    have hroom : X.A.units + 1 + min (PyData.depthAll ds) d.depth < cLine := room_in_shaped sd hu
    cases hl with
    | lst hs ha =>
      cases rx
      obtain ⟨its, rv, ⟨⟨cls, dd, data, sls⟩, n, ho, hc, hdn, hdt⟩, hlen⟩ := I.list hs
      simp only at hc hdt
      subst hc hdt
      obtain ⟨as, h4⟩ := Dp.readsAll I ds _ its ha rv
      have hmap : its.map (SeqAt.readOf s.heap) = ds := SeqAt.readsAll_map ds its as hxs h4
      refine call_meets PySem.F.slot_list_count ⟨_, ho, rfl⟩ PySem.F.entry_list_count (PySem.F.args_list_count_2 _ _)
        (SeqAt.list_countAt _ its.toArray n dd sls uy (fun u => PyData.eqv (SeqAt.readOf s.heap u) d)) ⟨ho, SeqAt.items_eqAt (vs := its.toArray) (show ReadsAll s.heap its.toArray.toList ds as from h4) r1 hxs (SeqAt.canLay_of_shaped sd) hroom, ?_⟩
      refine ⟨.int (ds.countP (fun z => PyData.eqv z d) : Nat), H, I.tok _, ⟨s.toks, ?_⟩, q⟩
      rw [← hmap, List.countP_map]
      rfl
/-! ### isinstance of a caught error -/
def rIsX (K : PySem.W.Frag) : List V → Hp → VK → Prop := fun xs H Q => ∃ (a D : Addr) (c : V) (cv : Value) (b : Bool), xs = [.ref a, c] ∧ H a = some (ExR D a) ∧ ExcC K D ∧ (∀ u, RelV c u → u = cv) ∧ PySem.W.kitOne K (.ref D) cv = some b ∧ Q (.bl b) H
theorem call_isX : CallR X (.builtin "isinstance") (rIsX X.K) := by
  intro pins s σ H xs us Q I r h
  obtain ⟨a, D, c, cv, b, rfl, ha, C, hcv, e, q⟩ := h
  cases r with
  | cons rx rr =>
    cases rr with
    | cons rt rr =>
      cases rr
      cases rx
      have ec := hcv _ rt
      subst ec
      obtain ⟨⟨oe, vs, hget, hz, hv⟩, _, _⟩ := I.hok a _ ha
      have J : PySem.W.InstAt s.heap a oe D none := by
        obtain ⟨oc, od, oda, osl⟩ := oe
        obtain ⟨h1, h2⟩ := hz
        dsimp only at h1 h2 hv
        subst h1 h2 hv
        exact ⟨hget, rfl, rfl, trivial⟩
      exact PySem.W.kia_one (PySem.W.handS_kitx_exc C.hg C.hk C.hs C.hd C.ha C.hn C.ht C.hm) I.kIn J e (fun z => nomatch z) fun tk => ⟨.bl b, H, I.kept (t' := tk) fun _ _ z => z, rfl, q⟩
/-! ### a caught error that lives on -/
variable {pins : List (Addr × Obj)} {σ : L2.St} {H : Hp} {s : Shared}
theorem exR_ok {P : Program} {w : World} {H : Hp} {h : Heap} {a D : Addr} {oe : Obj} {vs : Array Value} (e : h.get? a = some oe) (z : Zc (.ref D) none oe) (d : oe.data = .fields vs) : ObjOk P w H h a (ExR D a) :=
  ⟨⟨oe, vs, e, z, d⟩, ⟨oe, e⟩, fun _ _ ⟨o, v, q, r⟩ k => ⟨o, v, k o q, r⟩⟩
theorem track {a D : Addr} {oe : Obj} {vs : Array Value} (I : L2.Inv X ((a, oe) :: pins) σ H s) (z : Zc (.ref D) none oe) (d : oe.data = .fields vs) (h0 : X.s_0.heap.get? a = none) (hp : ∀ p ∈ X.pn ++ pins, p.1 ≠ a) : L2.Inv X pins σ (upd H a (ExR D a)) s := by
  obtain ⟨ga, na, nL, nF, nc⟩ := I.pin (a, oe) (List.mem_append.mpr (.inr List.mem_cons_self))
  have ne : ∀ {b : Addr} {o : HO}, H b = some o → b ≠ a := fun e z => by rw [z, na] at e; cases e
  refine ⟨I.ok, I.os, I.bare, ⟨I.base.keep, I.base.slot, fun b o e n hx => ?_, I.base.there, fun b xs e => ?_, fun b o u e => ?_, fun b ps e => ?_⟩, I.loc, I.cell, ?_, fun x c e => ?_, fun p hm => ?_, ?_, I.len⟩
  · have : b ≠ a := fun z => by rw [z, h0] at e; cases e
    rw [upd_ne this]
    exact I.base.free b o e n hx
  · have q := I.base.tups b xs e
    rw [upd_ne (ne q)]
    exact q
  · have q := I.base.frzs b o u e
    rw [upd_ne (ne q)]
    exact q
  · obtain ⟨m, q⟩ := I.base.tbls b ps e
    exact ⟨m, by rw [upd_ne (ne q)]; exact q⟩
  · rw [upd_ne (Ne.symm nL)]
    exact I.free
  · have hc : c ≠ a := fun q => by
      obtain ⟨v, o, ho, hd⟩ := I.cell x c e
      rw [q, ga] at ho
      cases ho
      rw [d] at hd
      cases hd
    rw [upd_ne hc]
    exact I.freeC x c e
  · have hm' : p ∈ X.pn ++ ((a, oe) :: pins) := by
      rcases List.mem_append.mp hm with h | h
      · exact List.mem_append.mpr (.inl h)
      · exact List.mem_append.mpr (.inr (List.mem_cons_of_mem _ h))
    obtain ⟨e, n, r⟩ := I.pin p hm'
    exact ⟨e, by rw [upd_ne (hp p hm)]; exact n, r⟩
  · exact I.hok.laidN (fun _ _ z => z) na (exR_ok ga z d)
/-- what 'except x as n: m = n' wishes of the body's errors: slot i is n's, slot j is m's -/
def wKeep (K : PySem.W.Frag) (c : Value) (i j : Nat) (Wout : WX) (D : Ends) : WX := fun cls d σ H =>
  ∃ b, PySem.W.exmOne K cls c = some b ∧ (b = true → d = none ∧ ∃ C, cls = .ref C ∧ ∀ a, H a = none → D.nx ((σ.set j (some (.ref a))).set i none) (upd H a (ExR C a))) ∧ (b = false → Wout cls d σ H)
variable {x n m : Str} {c : Value} {i j : Nat} {body : List Stmt} {np p1 p2 pos pos' pos2 : Pos} {tb : WX → TS} {Wout : WX}
theorem ps_tryKeep (stk : X.stack = X.env :: X.outer) (frm : X.env.frame = some X.env.locals) (nd : X.N.Nodup) (ni : X.N[i]? = some n) (nj : X.N[j]? = some m) (ij : i ≠ j) (kn : X.env.kindOf n = some .local) (km : X.env.kindOf m = some .local) (hex : X.ex = []) (nam : Names X x c) (tk : Takes X Wout)
    (sui : ∀ (a : Addr) (pn : List (Addr × Obj)), PSs (X.suite a pn) [.Assign [.Name m p1] (.Name n p2) pos2] (tAsg (tVar i) (gName j)))
    (bod : ∀ (W : WX) (pn : List (Addr × Obj)) (xe : Value → Shared → Prop), Takes (X.tr pn xe) W → PassesOwn (model X.prog X.w) X.A X.env xe → PSs (X.tr pn xe) body (tb W)) :
    PS X (.Try body [.ExceptHandler (some (.Name x np)) (some n) [.Assign [.Name m p1] (.Name n p2) pos2] pos'] [] [] pos) (fun D σ H => tb (wKeep X.K c i j Wout D) D σ H) := by
  refine ⟨fun pins s σ H D inv hyp => ?_⟩
  have okX := inv.ok
  have frames : X.A.frames = some (X.env :: X.outer) := by rw [okX.frames, stk]
  refine wpAny_Try_except ?_
  let xe' : Value → Shared → Prop := fun e s₁ => wpAny (model X.prog X.w) X.A (noteFrame e X.env) (fun _ s₂ => wpAny (model X.prog X.w) X.A (setFlight e none) (fun _ s₃ => wpAny (model X.prog X.w) X.A (handleBy e X.env [.ExceptHandler (some (.Name x np)) (some n) [.Assign [.Name m p1] (.Name n p2) pos2] pos']) (SP X pins D) X.xe s₃) X.xe s₂) X.xe s₁
  have takes : Takes (X.tr (X.pn ++ pins) xe') (wKeep X.K c i j Wout D) := by
    intro u st' caught
    obtain ⟨a, B, sI, pinsI, σ', H', cls, d, rfl, invT, inB, upS, sky0, notH, osE, gensE, b, exm, yes, no⟩ := caught
    have invI : L2.Inv X pins σ' H' sI := invT.ofTry okX
    have sky : Sky B (X.env :: X.outer) a (Zc cls d) X.env.locals st'.heap := by rw [← stk]; exact sky0
    show wpAny (model X.prog X.w) X.A (noteFrame (.ref a) X.env) _ _ _
    refine Sky.land Zc.steady frames frm sky fun hp3 fly3 ups3 => ?_
    have inv3 : L2.Inv X pins σ' H' { st' with heap := hp3 } := invI.landed inB fly3.1 (upS.trans ups3) osE gensE
    obtain ⟨ob3, vs3, at3, zc3, dat3⟩ := fly3.there
    have notFrame : a ∉ frs (X.env :: X.outer) := fun mem => by
      obtain ⟨_, o', e', nofld⟩ := fly3.2.2.1.mem mem
      rw [at3] at e'; cases e'
      exact nofld _ dat3
    have notLoc : a ≠ X.env.locals := fun q => notFrame (List.mem_filterMap.mpr ⟨X.env, List.mem_cons_self, by rw [frm, q]⟩)
    have notFs : a ∉ X.fs := fun mem => by
      obtain ⟨e, he, q⟩ := List.mem_filterMap.mp mem
      exact notFrame (List.mem_filterMap.mpr ⟨e, List.mem_cons_of_mem _ he, q⟩)
    have newI : sI.heap.get? a = none := by
      cases e : sI.heap.get? a with
      | none => rfl
      | some o =>
        have := inB a o e (by rw [stk]; exact notFrame)
        rw [fly3.2.1] at this; cases this
    have new0 : X.s_0.heap.get? a = none := by
      cases e : X.s_0.heap.get? a with
      | none => rfl
      | some o =>
        obtain ⟨o', q⟩ := invI.base.there a o e (by rw [hex]; exact fun z => nomatch z)
        rw [newI] at q; cases q
    have pinNe : ∀ p ∈ X.pn ++ pins, p.1 ≠ a := fun p hm q => by
      have := (invI.pin p hm).1
      rw [q, newI] at this; cases this
    have suite3 := inv3.suite at3 dat3 notH notLoc notFs
    refine wpAny_handleBy_cons (codeAny_handlers_test ?_) (by intro q; cases q)
    have looksT : PySem.W.Looks (model X.prog X.w) hp3 (typeOf (.ref a)) cls := fun A Q E s k q => wpAny_typeOf_ref (k _ _ at3) (by rw [zc3.1]; exact q)
    have looksM := PySem.W.exm_one (M := model X.prog X.w) (inv3.kIn) looksT exm
    have evalC : ∀ {Q : Value → Shared → Prop} {E : Value → Shared → Prop}, Q c { st' with heap := hp3 } → wpAny (model X.prog X.w) (X.A.mark (some (.ref a))) (eval (.Name x np) X.env) Q E { st' with heap := hp3 } := fun {Q E} q => by
      obtain ⟨hg, hdbg, hm | ⟨hm, hv, hnn⟩⟩ := nam
      · exact ld_glob (X := X.suite a ((a, ob3) :: (X.pn ++ pins))) suite3 hg hm q hdbg
      · exact ld_blt (X := X.suite a ((a, ob3) :: (X.pn ++ pins))) suite3 hg hm hv q hnn hdbg
    refine evalC (looksM.here ?_)
    cases b with
    | true =>
      obtain ⟨rfl, C, rfl, cont⟩ := yes rfl
      refine codeAny_handlers_suite_as ?_
      refine HandSPX.lands_againZ fly3 fun hp4 fly4 ups4 => ?_
      have inv4 : L2.Inv X pins σ' H' { st' with heap := hp4 } := invI.landed inB fly4.1 ((upS.trans ups3).trans ups4) osE gensE
      obtain ⟨ob4, vs4, at4, zc4, dat4⟩ := fly4.there
      have suite4 := inv4.suite at4 dat4 notH notLoc notFs
      refine store_ok (X := X.suite a ((a, ob4) :: (X.pn ++ pins))) (v := .ref a) suite4 nd ni (.inl kn) rfl (fun s5 inv5 => ?_) (.inr kn)
      have lenI : i < σ'.length := by
        have h1 := inv4.len
        have h2 := (List.getElem?_eq_some_iff.mp ni).1
        omega
      refine wpAny_mono ((sui a ((a, ob4) :: (X.pn ++ pins))).run [] s5 _ H' { nx := fun σ6 H6 => H6 = H' ∧ σ6 = (σ'.set i (some (.ref a))).set j (some (.ref a)), rt := fun _ _ => False } inv5 ⟨.ref a, ?_, rfl, rfl⟩) (fun f s6 out => ?_) (fun _ _ z => False.elim z)
      · rw [List.getElem?_set_self lenI]
      cases f with
      | next =>
        obtain ⟨σ6, H6, inv6, e1, e2⟩ := out
        subst e1 e2
        have inv7 : L2.Inv X ((a, ob4) :: pins) ((σ'.set i (some (.ref a))).set j (some (.ref a))) H6 s6 :=
          ⟨okX, inv6.os, inv6.bare, inv6.base, inv6.loc, inv6.cell, inv6.free, inv6.freeC, fun p hm => inv6.pin p (by
            show p ∈ ((a, ob4) :: (X.pn ++ pins)) ++ []
            rw [List.append_nil]
            rcases List.mem_append.mp hm with h | h
            · exact List.mem_cons_of_mem _ (List.mem_append.mpr (.inl h))
            · rcases List.mem_cons.mp h with h | h
              · rw [h]; exact List.mem_cons_self
              · exact List.mem_cons_of_mem _ (List.mem_append.mpr (.inr h))), inv6.hok, inv6.len⟩
        refine gone_ok inv7 nd ni kn fun s7 inv8 => ?_
        refine ⟨_, _, track inv8 zc4 dat4 new0 pinNe, ?_⟩
        have e : ((σ'.set i (some (V.ref a))).set j (some (.ref a))).set i none = (σ'.set j (some (.ref a))).set i none := by
          rw [List.set_comm _ _ ij, List.set_set]
        rw [e]
        exact cont a notH
      | brk => obtain ⟨_, _, _, z⟩ := out; exact z.elim
      | cont => obtain ⟨_, _, _, z⟩ := out; exact z.elim
      | ret u => obtain ⟨_, _, _, _, _, z⟩ := out; exact z.elim
    | false =>
      show wpAny _ X.A (handleBy (.ref a) X.env []) _ _ _
      refine wpAny_handleBy_nil ?_
      obtain ⟨k1, k2, k3, oe, vs, T, oT, ts', he, hz, hd, h1, hr⟩ := id fly3
      unfold PySem.passOn
      refine wpAny_bind (wpAny_field he hd h1 ?_)
      rw [if_neg (show ¬ ((Value.ref T == Value.none) = true) from by simp)]
      have thrown : wpAny (model X.prog X.w) X.A (setFlight (.ref a) X.env.frame) (fun _ s4 => wpAny (model X.prog X.w) X.A (throw (.ref a) : Sem Flow) (SP X pins D) X.xe s4) X.xe { st' with heap := hp3 } := by
        rw [frm]
        refine HandSPX.setFlight_upZ fly3 fun h4 hh4 up4 => wpAny_throw (tk _ _ ?_)
        exact ⟨a, B, sI, pins, σ', H', cls, d, rfl, invI, inB, (upS.trans ups3).trans up4, .inr (.inr (by rw [stk]; exact hh4)), notH, osE, gensE, no rfl⟩
      first
        | exact wpAny_bind (wpAny_pure (wpAny_bind thrown))
        | exact wpAny_bind thrown
  refine wpAny_mono ((bod (wKeep X.K c i j Wout D) (X.pn ++ pins) xe' takes PassesOwn.looking).run [] s σ H D (inv.toTry _) hyp) (fun f s1 out => ?_) (fun e s1 he => he)
  cases f with
  | next =>
    obtain ⟨σ', H', J', q⟩ := out
    exact wpAny_execs_nil ⟨σ', H', J'.ofTry okX, q⟩
  | brk =>
    obtain ⟨σ', H', J', q⟩ := out
    exact ⟨σ', H', J'.ofTry okX, q⟩
  | cont =>
    obtain ⟨σ', H', J', q⟩ := out
    exact ⟨σ', H', J'.ofTry okX, q⟩
  | ret u =>
    obtain ⟨v, σ', H', J', r, q⟩ := out
    exact ⟨v, σ', H', J'.ofTry okX, r, q⟩
end
end Lc

set_option Elab.async false
set_option linter.all false
set_option maxRecDepth 100000
set_option maxHeartbeats 4000000
namespace Lc
open PySem L2 PySem.Spec PyProof.Rows
section
variable {K : PySem.W.Frag} {ρ : Rho} {ta tb te : TE} {t u : TT} {d e : PyData} {b c : Bool} {E : XK}
theorem et_orT (h : EvT K t ρ true) : EvT K (tOr t u) ρ true := fun A σ H l hE Q q => h A σ H l hE _ fun H1 s1 => iteT (q H1 s1)
theorem et_orF (h : EvT K t ρ false) (h2 : EvT K u ρ c) : EvT K (tOr t u) ρ c := et_to (et_or h fun _ => h2) (Bool.false_or c)
theorem et_andF (h : EvT K t ρ false) : EvT K (tAnd t u) ρ false := fun A σ H l hE Q q => h A σ H l hE _ fun H1 s1 => iteF (q H1 s1)
theorem et_andT (h : EvT K t ρ true) (h2 : EvT K u ρ c) : EvT K (tAnd t u) ρ c := et_to (et_and h fun _ => h2) (Bool.true_and c)
theorem ev_andF (h : EvD K ta ρ (.bool false)) : EvD K (tAndV ta tb) ρ (.bool false) := ev_to (ev_and (c := false) h fun z => by cases z) (by rfl)
theorem ev_andT (h : EvD K ta ρ (.bool true)) (h2 : EvD K tb ρ (.bool c)) : EvD K (tAndV ta tb) ρ (.bool c) := ev_to (ev_and h fun _ => h2) (by rw [Bool.true_and])
theorem ev_orT (h : EvD K ta ρ (.bool true)) : EvD K (tOrV ta tb) ρ (.bool true) := ev_to (ev_or (c := true) h fun z => by cases z) (by rfl)
theorem ev_orF (h : EvD K ta ρ (.bool false)) (h2 : EvD K tb ρ (.bool c)) : EvD K (tOrV ta tb) ρ (.bool c) := ev_to (ev_or h fun _ => h2) (by rw [Bool.false_or])
theorem it_id {wi : TI} {ds : List PyData} (h : ItD K wi ρ ds) : ItD K wi ρ (ds.map fun x => x) := by rw [List.map_id']; exact h
theorem it_eq {wi : TI} {ds es : List PyData} (h : ItD K wi ρ ds) (e : ds = es) : ItD K wi ρ es := e ▸ h
/-- all([..]), tuple([..]), sum([..]), max([..]), min([..]) of a comprehension over one name -/
theorem ev_all {α : Type} {wi : TI} {j : Nat} {vs : List Nat} (xs : List α) (enc : α → PyData) (p : α → Bool) (hi : ItD K wi ρ (xs.map enc)) (hz : xs.length ≤ 100000) (hw : j ∈ vs)
    (he : ∀ x ∈ xs, EvD K te ((wipeD ρ vs).set j (some (enc x))) (.bool (p x))) : EvD K (tCB (rAll K) (tCons (tLc wi (gName j) tYes te vs) tNil)) ρ (.bool (xs.all p)) := by
  have h := ev_lcN xs enc (fun x => .bool (p x)) hi hz hw he
  have e1 : xs.map (fun x => PyData.bool (p x)) = (xs.map p).map .bool := by rw [List.map_map]; rfl
  rw [e1] at h
  have h2 := ev_cb (ea_cons h ea_nil) (ca_all (K := K) (bs := xs.map p))
  have e2 : (xs.map p).all id = xs.all p := by rw [List.all_map]; rfl
  rw [e2] at h2
  exact h2
theorem ev_tupLc {α : Type} {wi : TI} {j : Nat} {vs : List Nat} (xs : List α) (enc : α → PyData) (out : α → PyData) (hi : ItD K wi ρ (xs.map enc)) (hz : xs.length ≤ 100000) (hw : j ∈ vs)
    (he : ∀ x ∈ xs, EvD K te ((wipeD ρ vs).set j (some (enc x))) (out x)) : EvD K (tCB (rTupleOf K) (tCons (tLc wi (gName j) tYes te vs) tNil)) ρ (.tuple (xs.map out)) :=
  ev_cb (ea_cons (ev_lcN xs enc out hi hz hw he) ea_nil) ca_tupleL
theorem ev_tupLcF {α : Type} {wi : TI} {j : Nat} {tt : TT} {vs : List Nat} (xs : List α) (enc : α → PyData) (p : α → Bool) (out : α → PyData) (hi : ItD K wi ρ (xs.map enc)) (hz : xs.length ≤ 100000) (hw : j ∈ vs)
    (ht : ∀ x ∈ xs, EvT K tt ((wipeD ρ vs).set j (some (enc x))) (p x)) (he : ∀ x ∈ xs, p x = true → EvD K te ((wipeD ρ vs).set j (some (enc x))) (out x)) : EvD K (tCB (rTupleOf K) (tCons (tLc wi (gName j) tt te vs) tNil)) ρ (.tuple ((xs.filter p).map out)) :=
  ev_cb (ea_cons (ev_lcNF xs enc p out hi hz hw ht he) ea_nil) ca_tupleL
theorem map_int {α : Type} (xs : List α) (f : α → Int) : xs.map (fun x => PyData.int (f x)) = (xs.map f).map .int := by rw [List.map_map]; rfl
theorem ev_lcI {α : Type} {wi : TI} {j : Nat} {vs : List Nat} (xs : List α) (enc : α → PyData) (f : α → Int) (hi : ItD K wi ρ (xs.map enc)) (hz : xs.length ≤ 100000) (hw : j ∈ vs)
    (he : ∀ x ∈ xs, EvD K te ((wipeD ρ vs).set j (some (enc x))) (.int (f x))) : EvD K (tLc wi (gName j) tYes te vs) ρ (.list ((xs.map f).map .int)) := by
  have h := ev_lcN xs enc (fun x => .int (f x)) hi hz hw he
  rw [map_int] at h
  exact h
theorem ev_sumLc {α : Type} {wi : TI} {j : Nat} {vs : List Nat} (xs : List α) (enc : α → PyData) (f : α → Int) (hi : ItD K wi ρ (xs.map enc)) (hz : xs.length ≤ 100000) (hw : j ∈ vs)
    (he : ∀ x ∈ xs, EvD K te ((wipeD ρ vs).set j (some (enc x))) (.int (f x))) : EvD K (tCB (rSum K) (tCons (tLc wi (gName j) tYes te vs) tNil)) ρ (.int (xs.map f).sum) :=
  ev_cb (ea_cons (ev_lcI xs enc f hi hz hw he) ea_nil) ca_sum
end
end Lc

set_option Elab.async false
set_option linter.all false
set_option maxRecDepth 100000
set_option maxHeartbeats 4000000
namespace Lc
open PySem L2 PySem.Spec PyProof.Rows
/-! ### the program's data and what its defs are worth -/
def tI (l : List Int) : PyData := .tuple (l.map .int)
def famD (n : Int) (ss : List (List Int)) : PyData := .tuple [.int n, .tuple (ss.map tI)]
def btw (d : PyData) (lo hi : Int) : Bool := match d with
  | .int i => decide (lo ≤ i) && decide (i ≤ hi)
  | _ => false
def intOf : PyData → Int
  | .int i => i
  | _ => 0
def ascI : List Int → Bool
  | a :: b :: r => decide (a < b) && ascI (b :: r)
  | _ => true
def isLot (n : Int) (d : PyData) : Bool := match d with
  | .tuple ds => !ds.isEmpty && ds.all (fun x => btw x 0 (n - 1)) && ascI (ds.map intOf)
  | _ => false
def tupOf : PyData → List Int
  | .tuple ds => ds.map intOf
  | _ => []
def ascT : List (List Int) → Bool
  | a :: b :: r => HT.lexLt a b && ascT (b :: r)
  | _ => true
def isFam (d : PyData) : Bool := match d with
  | .tuple [.int n, .tuple ss] => decide (1 ≤ n) && decide (n ≤ 7) && decide (1 ≤ ss.length) && decide (ss.length ≤ 8) && ss.all (fun s => isLot n s) && ascT (ss.map tupOf)
  | _ => false
def LotOk (n : Int) (l : List Int) : Prop := l ≠ [] ∧ (∀ x ∈ l, 0 ≤ x ∧ x < n) ∧ ascI l = true
structure FamOk (n : Int) (ss : List (List Int)) : Prop where
  n1 : 1 ≤ n
  n7 : n ≤ 7
  s1 : 1 ≤ ss.length
  s8 : ss.length ≤ 8
  lots : ∀ s ∈ ss, LotOk n s
  asc : ascT ss = true
theorem tI_inj : ∀ {l m : List Int}, tI l = tI m → l = m := fun h => ints_inj (PyData.tuple.inj h)
theorem intOf_ints : ∀ l : List Int, (l.map PyData.int).map intOf = l
  | [] => rfl
  | a :: r => by rw [List.map_cons, List.map_cons, intOf_ints r]; rfl
theorem tupOf_one (l : List Int) : tupOf (tI l) = l := by unfold tI tupOf; exact intOf_ints l
theorem btw_int {i lo hi : Int} : btw (.int i) lo hi = (decide (lo ≤ i) && decide (i ≤ hi)) := rfl
theorem all_btw : ∀ {ds : List PyData} {lo hi : Int}, ds.all (fun x => btw x lo hi) = true → ds = (ds.map intOf).map .int ∧ ∀ x ∈ ds.map intOf, lo ≤ x ∧ x ≤ hi
  | [], _, _, _ => ⟨rfl, fun x h => by simp at h⟩
  | d :: ds, lo, hi, h => by
    have h' : btw d lo hi = true ∧ ds.all (fun x => btw x lo hi) = true := by simpa using h
    obtain ⟨e, k⟩ := all_btw h'.2
    cases d with
    | int i =>
      have hi' : lo ≤ i ∧ i ≤ hi := by simpa [btw] using h'.1
      refine ⟨by rw [List.map_cons, List.map_cons, ← e]; rfl, fun x hx => ?_⟩
      rcases List.mem_cons.mp hx with z | z
      · rw [z]; exact hi'
      · exact k x z
    | _ => simp [btw] at h'
theorem isLot_tI {n : Int} {l : List Int} : isLot n (tI l) = true ↔ LotOk n l := by
  unfold isLot tI LotOk
  simp only [intOf_ints, Bool.and_eq_true]
  constructor
  · rintro ⟨⟨h1, h2⟩, h3⟩
    refine ⟨fun e => by subst e; simp at h1, fun x hx => ?_, h3⟩
    have := (all_btw h2).2
    rw [intOf_ints] at this
    have := this x hx
    omega
  · rintro ⟨h1, h2, h3⟩
    refine ⟨⟨?_, ?_⟩, h3⟩
    · cases l with
      | nil => exact absurd rfl h1
      | cons a r => rfl
    · rw [List.all_eq_true]
      intro x hx
      obtain ⟨i, hi, rfl⟩ := List.mem_map.mp hx
      have := h2 i hi
      simp [btw]; omega
theorem isLot_inv {n : Int} {d : PyData} (h : isLot n d = true) : ∃ l, d = tI l ∧ LotOk n l := by
  cases d with
  | tuple ds =>
    have h0 := h
    unfold isLot at h
    simp only [Bool.and_eq_true] at h
    obtain ⟨e, _⟩ := all_btw h.1.2
    refine ⟨ds.map intOf, by unfold tI; rw [← e], ?_⟩
    have e2 : PyData.tuple ds = tI (ds.map intOf) := by unfold tI; rw [← e]
    rw [e2] at h0
    exact isLot_tI.mp h0
  | _ => simp [isLot] at h
theorem tupOf_tI : ∀ ss : List (List Int), (ss.map tI).map tupOf = ss
  | [] => rfl
  | a :: r => by rw [List.map_cons, List.map_cons, tupOf_tI r, tupOf_one]
theorem isFam_famD {n : Int} {ss : List (List Int)} : isFam (famD n ss) = true ↔ FamOk n ss := by
  unfold famD isFam
  simp only [Bool.and_eq_true, decide_eq_true_eq, List.length_map, tupOf_tI]
  constructor
  · rintro ⟨⟨⟨⟨⟨h1, h2⟩, h3⟩, h4⟩, h5⟩, h6⟩
    exact ⟨h1, h2, h3, h4, fun s hs => isLot_tI.mp (List.all_eq_true.mp h5 _ (List.mem_map.mpr ⟨s, hs, rfl⟩)), h6⟩
  · rintro ⟨h1, h2, h3, h4, h5, h6⟩
    refine ⟨⟨⟨⟨⟨h1, h2⟩, h3⟩, h4⟩, List.all_eq_true.mpr fun x hx => ?_⟩, h6⟩
    obtain ⟨s, hs, rfl⟩ := List.mem_map.mp hx
    exact isLot_tI.mpr (h5 s hs)
theorem all_lots : ∀ {n : Int} {ss : List PyData}, ss.all (fun s => isLot n s) = true → ss = (ss.map tupOf).map tI
  | _, [], _ => rfl
  | n, s :: ss, h => by
    have h' : isLot n s = true ∧ ss.all (fun s => isLot n s) = true := by simpa using h
    obtain ⟨l, rfl, _⟩ := isLot_inv h'.1
    rw [List.map_cons, List.map_cons, ← all_lots h'.2, tupOf_one]
theorem isFam_inv {d : PyData} (h : isFam d = true) : ∃ n ss, d = famD n ss ∧ FamOk n ss := by
  unfold isFam at h
  split at h
  · rename_i n ss
    have h5 : ss.all (fun s => isLot n s) = true := by simp only [Bool.and_eq_true] at h; exact h.1.2
    have e := all_lots h5
    refine ⟨n, ss.map tupOf, by unfold famD; rw [← e], ?_⟩
    apply isFam_famD.mp
    unfold famD
    rw [← e]
    unfold isFam
    exact h
  · cases h
/-! ### promises -/
abbrev Ret (o : Out) (d : PyData) : Prop := o = .rt d
def R_is_between : List PyData → Out → Prop := fun ds o => ∃ d lo hi, (tyName d).isSome = true ∧ ds = [d, .int lo, .int hi] ∧ o = .rt (.bool (btw d lo hi))
def sp_is_between (K : PySem.W.Frag) : Sp := spD K R_is_between
def R_is_lot : List PyData → Out → Prop := fun ds o => ∃ n d, Sh 40 d ∧ ds = [.int n, d] ∧ (∀ l, d = .tuple l → l.length ≤ 10000) ∧ o = .rt (.bool (isLot n d))
def sp_is_lot (K : PySem.W.Frag) : Sp := spD K R_is_lot
/-- short at every depth -/
def Short (d : PyData) : Prop := ∀ l, d = .tuple l → l.length ≤ 10000 ∧ ∀ x ∈ l, ∀ m, x = .tuple m → m.length ≤ 10000 ∧ ∀ y ∈ m, ∀ k, y = .tuple k → k.length ≤ 10000
def R_is_family : List PyData → Out → Prop := fun ds o => ∃ d, Sh 40 d ∧ Short d ∧ ds = [d] ∧ o = .rt (.bool (isFam d))
def sp_is_family (K : PySem.W.Frag) : Sp := spD K R_is_family
def R_check_family (K : PySem.W.Frag) : List PyData → Out → Prop := fun ds o => ∃ d, Sh 40 d ∧ Short d ∧ ds = [d] ∧ o = if isFam d then .rt .none else .ex (He.ga K "InvalidFamily")
def sp_check_family (K : PySem.W.Frag) : Sp := spD K (R_check_family K)
/-! colours -/
def isPM (d : PyData) : Bool := match d with
  | .int i => decide (i = -1) || decide (i = 1)
  | _ => false
def areCol (n : Int) (d : PyData) : Bool := match d with
  | .tuple ds => decide ((ds.length : Int) = n) && ds.all isPM
  | _ => false
def ColOk (n : Int) (c : List Int) : Prop := (c.length : Int) = n ∧ ∀ x ∈ c, x = -1 ∨ x = 1
theorem all_pm : ∀ {ds : List PyData}, ds.all isPM = true → ds = (ds.map intOf).map .int ∧ ∀ x ∈ ds.map intOf, x = -1 ∨ x = 1
  | [], _ => ⟨rfl, fun x h => by simp at h⟩
  | d :: ds, h => by
    have h' : isPM d = true ∧ ds.all isPM = true := by simpa using h
    obtain ⟨e, k⟩ := all_pm h'.2
    cases d with
    | int i =>
      have hi' : i = -1 ∨ i = 1 := by simpa [isPM] using h'.1
      refine ⟨by rw [List.map_cons, List.map_cons, ← e]; rfl, fun x hx => ?_⟩
      rcases List.mem_cons.mp hx with z | z
      · rw [z]; exact hi'
      · exact k x z
    | _ => simp [isPM] at h'
theorem areCol_tI {n : Int} {c : List Int} : areCol n (tI c) = true ↔ ColOk n c := by
  unfold areCol tI ColOk
  simp only [List.length_map, Bool.and_eq_true, decide_eq_true_eq]
  constructor
  · rintro ⟨h1, h2⟩
    have := (all_pm h2).2
    rw [intOf_ints] at this
    exact ⟨h1, this⟩
  · rintro ⟨h1, h2⟩
    refine ⟨h1, List.all_eq_true.mpr fun x hx => ?_⟩
    obtain ⟨i, hi, rfl⟩ := List.mem_map.mp hx
    rcases h2 i hi with e | e <;> subst e <;> rfl
theorem areCol_inv {n : Int} {d : PyData} (h : areCol n d = true) : ∃ c, d = tI c ∧ ColOk n c := by
  cases d with
  | tuple ds =>
    have h0 := h
    unfold areCol at h
    simp only [Bool.and_eq_true] at h
    obtain ⟨e, _⟩ := all_pm h.2
    have e2 : PyData.tuple ds = tI (ds.map intOf) := by unfold tI; rw [← e]
    refine ⟨_, e2, ?_⟩
    rw [e2] at h0
    exact areCol_tI.mp h0
  | _ => simp [areCol] at h
def R_are_colours : List PyData → Out → Prop := fun ds o => ∃ n ss d, Sh 40 d ∧ (∀ l, d = .tuple l → l.length ≤ 10000) ∧ ds = [famD n ss, d] ∧ o = .rt (.bool (areCol n d))
def sp_are_colours (K : PySem.W.Frag) : Sp := spD K R_are_colours
/-- a def of a family and a value: the family is looked at first -/
def R_fam (K : PySem.W.Frag) (R : Int → List (List Int) → List PyData → Out → Prop) : List PyData → Out → Prop := fun ds o => ∃ d r, ds = d :: r ∧ ((Sh 40 d ∧ Short d ∧ isFam d = false ∧ o = .ex (He.ga K "InvalidFamily")) ∨ ∃ n ss, FamOk n ss ∧ d = famD n ss ∧ R n ss r o)
def R_is_colours (K : PySem.W.Frag) : List PyData → Out → Prop := fun ds o => ds.length = 2 ∧ R_fam K (fun n ss r o => ∃ d, Sh 40 d ∧ (∀ l, d = .tuple l → l.length ≤ 10000) ∧ r = [d] ∧ o = .rt (.bool (areCol n d))) ds o
def sp_is_colours (K : PySem.W.Frag) : Sp := spD K (R_is_colours K)
def R_check_both (K : PySem.W.Frag) : List PyData → Out → Prop := fun ds o => ds.length = 2 ∧ R_fam K (fun n ss r o => ∃ d, Sh 40 d ∧ (∀ l, d = .tuple l → l.length ≤ 10000) ∧ r = [d] ∧ o = if areCol n d then .rt .none else .ex (He.ga K "InvalidColours")) ds o
def sp_check_both (K : PySem.W.Frag) : Sp := spD K (R_check_both K)
/-- the sum of a set, of all sets -/
def sumM (c : List Int) (s : List Int) : Int := (s.map fun x => c.getD x.toNat 0).sum
def sumsM (ss : List (List Int)) (c : List Int) : List Int := ss.map (sumM c)
/-- the greatest of numbers that are not negative -/
def maxM (l : List Int) : Int := l.foldr max 0
def minM : List Int → Int
  | [] => 0
  | x :: xs => xs.foldl min x
def unevM (ss : List (List Int)) (c : List Int) : Int := maxM ((sumsM ss c).map fun x => (x.natAbs : Int))
/-- the sets' things have places in c -/
def InC (ss : List (List Int)) (c : List Int) : Prop := ss.length ≤ 1000 ∧ ∀ s ∈ ss, s.length ≤ 1000 ∧ ∀ x ∈ s, 0 ≤ x ∧ x < (c.length : Int)
def R_found_sums : List PyData → Out → Prop := fun ds o => ∃ n ss c, InC ss c ∧ ds = [famD n ss, tI c] ∧ o = .rt (tI (sumsM ss c))
def sp_found_sums (K : PySem.W.Frag) : Sp := spD K R_found_sums
def R_found_uneven : List PyData → Out → Prop := fun ds o => ∃ n ss c, InC ss c ∧ ss ≠ [] ∧ ds = [famD n ss, tI c] ∧ o = .rt (.int (unevM ss c))
def sp_found_uneven (K : PySem.W.Frag) : Sp := spD K R_found_uneven
def R_sums (K : PySem.W.Frag) : List PyData → Out → Prop := fun ds o => ds.length = 2 ∧ R_fam K (fun n ss r o => ∃ d, Sh 40 d ∧ (∀ l, d = .tuple l → l.length ≤ 10000) ∧ r = [d] ∧ o = if areCol n d then .rt (tI (sumsM ss (tupOf d))) else .ex (He.ga K "InvalidColours")) ds o
def sp_sums (K : PySem.W.Frag) : Sp := spD K (R_sums K)
def R_uneven (K : PySem.W.Frag) : List PyData → Out → Prop := fun ds o => ds.length = 2 ∧ R_fam K (fun n ss r o => ∃ d, Sh 40 d ∧ (∀ l, d = .tuple l → l.length ≤ 10000) ∧ r = [d] ∧ o = if areCol n d then .rt (.int (unevM ss (tupOf d))) else .ex (He.ga K "InvalidColours")) ds o
def sp_uneven (K : PySem.W.Frag) : Sp := spD K (R_uneven K)
/-- all rows of so many choices -/
def rowsM (ch : List Int) : Nat → List (List Int)
  | 0 => [[]]
  | k + 1 => (rowsM ch k).flatMap fun r => ch.map fun x => r ++ [x]
def lD (rows : List (List Int)) : PyData := .list (rows.map tI)
def colsM (k : Nat) : List (List Int) := rowsM [-1, 1] k
def R_all_colours : List PyData → Out → Prop := fun ds o => ∃ k : Nat, k ≤ 7 ∧ ds = [.int (k : Int)] ∧ o = .rt (lD (colsM k))
def sp_all_colours (K : PySem.W.Frag) : Sp := spD K R_all_colours
def leastM (n : Int) (ss : List (List Int)) : Int := minM ((colsM n.toNat).map (unevM ss))
/-- a family whose sets may be any (a family within a lot) -/
def FamW (n : Int) (ss : List (List Int)) : Prop := 0 ≤ n ∧ n ≤ 7 ∧ ss ≠ [] ∧ ss.length ≤ 1000 ∧ ∀ s ∈ ss, s.length ≤ 1000 ∧ ∀ x ∈ s, 0 ≤ x ∧ x < n
def R_found_least : List PyData → Out → Prop := fun ds o => ∃ n ss, FamW n ss ∧ ds = [famD n ss] ∧ o = .rt (.int (leastM n ss))
def sp_found_least (K : PySem.W.Frag) : Sp := spD K R_found_least
def R_least_uneven (K : PySem.W.Frag) : List PyData → Out → Prop := fun ds o => ds.length = 1 ∧ R_fam K (fun n ss r o => r = [] ∧ o = .rt (.int (leastM n ss))) ds o
def sp_least_uneven (K : PySem.W.Frag) : Sp := spD K (R_least_uneven K)
def bestM (n : Int) (ss : List (List Int)) : List (List Int) := (colsM n.toNat).filter fun c => decide (unevM ss c = leastM n ss)
def tD (rows : List (List Int)) : PyData := .tuple (rows.map tI)
def R_all_best (K : PySem.W.Frag) : List PyData → Out → Prop := fun ds o => ds.length = 1 ∧ R_fam K (fun n ss r o => r = [] ∧ o = .rt (tD (bestM n ss))) ds o
def sp_all_best (K : PySem.W.Frag) : Sp := spD K (R_all_best K)
end Lc

set_option Elab.async false
set_option linter.all false
namespace Lc
open PySem L2 PySem.Spec PyProof.Rows
def t_is_between (K : PySem.W.Frag) (E : XK) : TS := (tRet (tAndV (tIsi K "int" (tVar 0)) (tAndV (tNotV (tIsi K "bool" (tVar 0))) (tChain rLeI rLeI (tVar 1) (tVar 0) (tVar 2)))))
def t_is_lot (K : PySem.W.Frag) (E : XK) : TS := (tSeq (tIfS (tOr (tNot (tB (tIsi K "tuple" (tVar 1)))) (tOr (tTest (tOp (rEqD K) (tVar 1) (tTup tNil))) (tNot (tB (tCB (rAll K) (tCons (tLc (iSeq K (tVar 1)) (gName 2) tYes (tCall (sp_is_between K) [] E0 (tCons (tVar 2) (tCons (tC (.int 0)) (tCons (tOp rSubU (tVar 0) (tC (.int 1))) tNil)))) [2]) tNil)))))) (tRet (tC (.bl false))) tNext)
  (tRet (tCB (rAll K) (tCons (tLc (iRng1 (tCons (tOp rSubU (tCB (rLenU K) (tCons (tVar 1) tNil)) (tC (.int 1))) tNil)) (gName 3) tYes (tOp (rLtU K) (tOp (rIx K) (tVar 1) (tVar 3)) (tOp (rIx K) (tVar 1) (tOp (rAddU K) (tVar 3) (tC (.int 1))))) [3]) tNil))))
def t_is_family (K : PySem.W.Frag) (E : XK) : TS := (tSeq (tIfS (tOr (tNot (tB (tIsi K "tuple" (tVar 0)))) (tOr (tTest (tOp (rNeD K) (tCB (rLenU K) (tCons (tVar 0) tNil)) (tC (.int 2)))) (tNot (tB (tCall (sp_is_between K) [] E0 (tCons (tOp (rIx K) (tVar 0) (tC (.int 0))) (tCons (tC (.int 1)) (tCons (tC (.int 7)) tNil)))))))) (tRet (tC (.bl false))) tNext)
  (tSeq (tAsg (tVar 0) (gTup K 2 (gCons (gName 1) (gCons (gName 2) gNil))))
  (tSeq (tIfS (tOr (tNot (tB (tIsi K "tuple" (tVar 2)))) (tOr (tNot (tTest (tChain rLeI rLeI (tC (.int 1)) (tCB (rLenU K) (tCons (tVar 2) tNil)) (tC (.int 8))))) (tNot (tB (tCB (rAll K) (tCons (tLc (iSeq K (tVar 2)) (gName 3) tYes (tCall (sp_is_lot K) [] E0 (tCons (tVar 1) (tCons (tVar 3) tNil))) [3]) tNil)))))) (tRet (tC (.bl false))) tNext)
  (tRet (tCB (rAll K) (tCons (tLc (iRng1 (tCons (tOp rSubU (tCB (rLenU K) (tCons (tVar 2) tNil)) (tC (.int 1))) tNil)) (gName 4) tYes (tOp (rLtU K) (tOp (rIx K) (tVar 2) (tVar 4)) (tOp (rIx K) (tVar 2) (tOp (rAddU K) (tVar 4) (tC (.int 1))))) [4]) tNil))))))
def t_check_family (K : PySem.W.Frag) (E : XK) : TS := (tIfS (tNot (tB (tCall (sp_is_family K) [] E0 (tCons (tVar 0) tNil)))) (tRaise (He.ga K "InvalidFamily") E) tNext)
def t_are_colours (K : PySem.W.Frag) (E : XK) : TS := (tSeq (tIfS (tOr (tNot (tB (tIsi K "tuple" (tVar 1)))) (tTest (tOp (rNeD K) (tCB (rLenU K) (tCons (tVar 1) tNil)) (tOp (rIx K) (tVar 0) (tC (.int 0)))))) (tRet (tC (.bl false))) tNext)
  (tRet (tCB (rAll K) (tCons (tLc (iSeq K (tVar 1)) (gName 2) tYes (tAndV (tIsi K "int" (tVar 2)) (tAndV (tNotV (tIsi K "bool" (tVar 2))) (tOp (rInU K) (tVar 2) (tTup (tCons (tUn (rU fun i => .int (-i)) (tC (.int 1))) (tCons (tC (.int 1)) tNil)))))) [2]) tNil))))
def t_is_colours (K : PySem.W.Frag) (E : XK) : TS := (tSeq (tDrop (tCall (sp_check_family K) [] E (tCons (tVar 0) tNil)))
  (tRet (tCall (sp_are_colours K) [] E0 (tCons (tVar 0) (tCons (tVar 1) tNil)))))
def t_check_both (K : PySem.W.Frag) (E : XK) : TS := (tSeq (tDrop (tCall (sp_check_family K) [] E (tCons (tVar 0) tNil)))
  (tIfS (tNot (tB (tCall (sp_are_colours K) [] E0 (tCons (tVar 0) (tCons (tVar 1) tNil))))) (tRaise (He.ga K "InvalidColours") E) tNext))
def t_found_sums (K : PySem.W.Frag) (E : XK) : TS := (tRet (tCB (rTupleOf K) (tCons (tLc (iSeq K (tOp (rIx K) (tVar 0) (tC (.int 1)))) (gName 3) tYes (tCB (rSum K) (tCons (tLc (iSeq K (tVar 3)) (gName 2) tYes (tOp (rIx K) (tVar 1) (tVar 2)) [2]) tNil)) [3]) tNil)))
def t_found_uneven (K : PySem.W.Frag) (E : XK) : TS := (tRet (tCB (rMaxU K) (tCons (tLc (iSeq K (tCall (sp_found_sums K) [] E0 (tCons (tVar 0) (tCons (tVar 1) tNil)))) (gName 2) tYes (tCB rAbsI (tCons (tVar 2) tNil)) [2]) tNil)))
def t_sums (K : PySem.W.Frag) (E : XK) : TS := (tSeq (tDrop (tCall (sp_check_both K) [] E (tCons (tVar 0) (tCons (tVar 1) tNil))))
  (tRet (tCall (sp_found_sums K) [] E0 (tCons (tVar 0) (tCons (tVar 1) tNil)))))
def t_uneven (K : PySem.W.Frag) (E : XK) : TS := (tSeq (tDrop (tCall (sp_check_both K) [] E (tCons (tVar 0) (tCons (tVar 1) tNil))))
  (tRet (tCall (sp_found_uneven K) [] E0 (tCons (tVar 0) (tCons (tVar 1) tNil)))))
def t_all_colours (K : PySem.W.Frag) (E : XK) : TS := (tSeq (tAsg (tLst (tCons (tTup tNil) tNil)) (gName 1))
  (tSeq (tFor (iRng1 (tCons (tVar 0) tNil)) (gName 2) (tAsg (tLc2 (iSeq K (tVar 1)) (gName 3) tYes (iSeq K (tTup (tCons (tUn (rU fun i => .int (-i)) (tC (.int 1))) (tCons (tC (.int 1)) tNil)))) (gName 4) tYes (tOp (rAddU K) (tVar 3) (tTup (tCons (tVar 4) tNil))) [3, 4] [4]) (gName 1)))
  (tRet (tVar 1))))
def t_found_least (K : PySem.W.Frag) (E : XK) : TS := (tRet (tCB (rMinU K) (tCons (tLc (iSeq K (tCall (sp_all_colours K) [] E0 (tCons (tOp (rIx K) (tVar 0) (tC (.int 0))) tNil))) (gName 1) tYes (tCall (sp_found_uneven K) [] E0 (tCons (tVar 0) (tCons (tVar 1) tNil))) [1]) tNil)))
def t_least_uneven (K : PySem.W.Frag) (E : XK) : TS := (tSeq (tDrop (tCall (sp_check_family K) [] E (tCons (tVar 0) tNil)))
  (tRet (tCall (sp_found_least K) [] E0 (tCons (tVar 0) tNil))))
def t_all_best (K : PySem.W.Frag) (E : XK) : TS := (tSeq (tDrop (tCall (sp_check_family K) [] E (tCons (tVar 0) tNil)))
  (tSeq (tAsg (tCall (sp_found_least K) [] E0 (tCons (tVar 0) tNil)) (gName 1))
  (tRet (tCB (rTupleOf K) (tCons (tLc (iSeq K (tCall (sp_all_colours K) [] E0 (tCons (tOp (rIx K) (tVar 0) (tC (.int 0))) tNil))) (gName 2) (tTest (tOp (rEqD K) (tCall (sp_found_uneven K) [] E0 (tCons (tVar 0) (tCons (tVar 2) tNil))) (tVar 1))) (tVar 2) [2]) tNil)))))
end Lc

set_option Elab.async false
set_option linter.all false
set_option maxRecDepth 100000
set_option maxHeartbeats 4000000
namespace Lc
open PySem L2 PySem.Spec PyProof.Rows
section
variable {K : PySem.W.Frag} {E : XK}
/-! ### is_between -/
theorem x_is_between {d : PyData} {lo hi : Int} (hd : (tyName d).isSome = true) : ExS K E (t_is_between K E) [some d, some (.int lo), some (.int hi)] (.rt (.bool (btw d lo hi))) := by
  refine xs_ret ?_
  have h1 := ev_isInt (K := K) (ρ := [some d, some (.int lo), some (.int hi)]) (ta := tVar 0) (ev_var rfl) hd
  have h2 := ev_isBool (K := K) (ρ := [some d, some (.int lo), some (.int hi)]) (ta := tVar 0) (ev_var rfl) hd
  cases d with
  | int i => exact ev_andT h1 (ev_andT (ev_not h2) (ev_chain (ev_var rfl) (ev_var rfl) od_le (fun _ => ev_var rfl) (fun _ => od_le)))
  | bool b => exact ev_andT h1 (ev_andF (ev_not h2))
  | _ => exact ev_andF h1
theorem pure_is_between {vs : List V} {H : Hp} {Q : VK} (hs : sp_is_between K vs H Q E) : t_is_between K E { nx := fun _ H' => Q .non H', rt := Q } (L2.start ["value", "low", "high"] vs) H :=
  sp_body (R := R_is_between) (fun ds o h => by
    obtain ⟨d, lo, hi, hd, rfl, rfl⟩ := h
    exact .inl (x_is_between hd)) hs
/-! ### is_lot -/
theorem asc_range : ∀ l : List Int, (List.range (l.length - 1)).all (fun k => decide (l.getD k 0 < l.getD (k + 1) 0)) = ascI l
  | [] => rfl
  | [a] => rfl
  | a :: b :: r => by
    have ih := asc_range (b :: r)
    have e1 : (a :: b :: r).length - 1 = (b :: r).length - 1 + 1 := by simp
    rw [e1, List.range_succ_eq_map, List.all_cons, List.all_map]
    show (decide (a < b) && _) = (decide (a < b) && ascI (b :: r))
    rw [← ih]
    rfl
theorem x_is_lot {n : Int} {d : PyData} (hd : Sh 40 d) (hz : ∀ l, d = .tuple l → l.length ≤ 10000) : ExS K E (t_is_lot K E) [some (.int n), some d, none, none] (.rt (.bool (isLot n d))) := by
  have h1 := ev_isTuple (K := K) (ρ := [some (.int n), some d, none, none]) (ta := tVar 1) (ev_var rfl) (sh_ty hd)
  cases d with
  | tuple ds =>
    have hl := hz ds rfl
    have hsub : ∀ x ∈ ds, (tyName x).isSome = true := fun x hx => by
      obtain ⟨i, hi⟩ := List.mem_iff_getElem?.mp hx
      have := (canLay_at (by simpa [PyData.canLay0] using hd.1) i x hi).1
      exact sh_ty (n := x.depth) ⟨this, Nat.le_refl _⟩
    have h2 : EvT K (tTest (tOp (rEqD K) (tVar 1) (tTup tNil))) [some (.int n), some (.tuple ds), none, none] ds.isEmpty := by
      have h := et_test (ev_op (ρ := [some (.int n), some (.tuple ds), none, none]) (ev_var (i := 1) rfl) (ev_tup ea_nil (by simp)) (od_eq (K := K) hd (sh_nil (n := 3))))
      refine et_to h ?_
      cases ds <;> simp [PyData.eqv, PyData.eqvAll]
    have h3 := ev_all (K := K) (ρ := [some (.int n), some (.tuple ds), none, none]) (j := 2) (vs := [2]) (te := tCall (sp_is_between K) [] E0 (tCons (tVar 2) (tCons (tC (.int 0)) (tCons (tOp rSubU (tVar 0) (tC (.int 1))) tNil)))) ds (fun x => x) (fun x => btw x 0 (n - 1)) (it_id (it_seqT (ev_var (i := 1) rfl))) (by omega) (by simp)
      (fun x hx => ev_call (ea_cons (ev_var rfl) (ea_cons ev_int (ea_cons (ev_op (ev_var rfl) ev_int od_sub) ea_nil))) ⟨x, 0, n - 1, hsub x hx, rfl, rfl⟩)
    cases he : ds.isEmpty with
    | true =>
      rw [he] at h2
      have e : isLot n (.tuple ds) = false := by simp [isLot, he]
      rw [e]
      exact xs_seqR (xs_if (et_orF (et_not (et_B h1)) (et_orT h2)) (fun _ => xs_ret ev_bl) (fun z => by cases z))
    | false =>
      rw [he] at h2
      cases ha : ds.all (fun x => btw x 0 (n - 1)) with
      | false =>
        rw [ha] at h3
        have e : isLot n (.tuple ds) = false := by simp only [isLot, ha]; simp
        rw [e]
        exact xs_seqR (xs_if (et_orF (et_not (et_B h1)) (et_orF h2 (et_not (et_B h3)))) (fun _ => xs_ret ev_bl) (fun z => by cases z))
      | true =>
        rw [ha] at h3
        obtain ⟨eds, _⟩ := all_btw ha
        generalize hl' : ds.map intOf = l at eds
        have e : isLot n (.tuple ds) = ascI l := by simp only [isLot, he, ha, hl']; simp
        rw [e]
        refine xs_seq (xs_if (et_orF (et_not (et_B h1)) (et_orF h2 (et_not (et_B h3)))) (fun z => by cases z) (fun _ => xs_next)) (xs_ret ?_)
        rw [← asc_range l]
        have hll : l.length = ds.length := by rw [← hl', List.length_map]
        have hlen : EvD K (tOp rSubU (tCB (rLenU K) (tCons (tVar 1) tNil)) (tC (.int 1))) [some (.int n), some (.tuple ds), none, none] (.int ((l.length : Int) - 1)) := by
          rw [hll]
          exact ev_op (ev_cb (ea_cons (ev_var rfl) ea_nil) ca_lenT) ev_int od_sub
        have hit := it_rng1 hlen (by omega)
        have e2 : ((l.length : Int) - 1).toNat = l.length - 1 := by omega
        rw [e2] at hit
        refine ev_all (List.range (l.length - 1)) (fun i => .int (0 + (i : Int))) (fun k => decide (l.getD k 0 < l.getD (k + 1) 0)) hit (by rw [List.length_range]; omega) (by simp) (fun k hk => ?_)
        have hk' : k < l.length - 1 := List.mem_range.mp hk
        have g : ∀ j : Nat, j < l.length → atI ds (j : Int) = some (.int (l.getD j 0)) := fun j hj => by
          refine atI_nat ?_
          rw [eds, List.getElem?_map]
          simp [hj]
        have g1 := g k (by omega)
        have g2 := g (k + 1) (by omega)
        refine ev_op (ev_op (ev_var rfl) (ev_var rfl) (od_ixT ?_)) (ev_op (ev_var rfl) (ev_op (ev_var rfl) ev_int od_add) (od_ixT ?_)) od_lt
        · rw [Int.zero_add]; exact g1
        · rw [Int.zero_add]; exact_mod_cast g2
  | _ =>
    refine xs_seqR (xs_if (et_orT (et_not (et_B h1))) (fun _ => xs_ret ev_bl) (fun z => by cases z))
theorem pure_is_lot {vs : List V} {H : Hp} {Q : VK} (hs : sp_is_lot K vs H Q E) : t_is_lot K E { nx := fun _ H' => Q .non H', rt := Q } (L2.start ["things", "value", "one", "k"] vs) H :=
  sp_body (R := R_is_lot) (fun ds o h => by
    obtain ⟨n, d, hd, rfl, hz, rfl⟩ := h
    exact .inl (x_is_lot hd hz)) hs
end
end Lc

set_option Elab.async false
set_option linter.all false
set_option maxRecDepth 100000
set_option maxHeartbeats 4000000
namespace Lc
open PySem L2 PySem.Spec PyProof.Rows
section
variable {K : PySem.W.Frag} {E : XK}
/-! ### is_family -/
theorem lex_range : ∀ l : List (List Int), (List.range (l.length - 1)).all (fun k => HT.lexLt (l.getD k []) (l.getD (k + 1) [])) = ascT l
  | [] => rfl
  | [a] => rfl
  | a :: b :: r => by
    have ih := lex_range (b :: r)
    have e1 : (a :: b :: r).length - 1 = (b :: r).length - 1 + 1 := by simp
    rw [e1, List.range_succ_eq_map, List.all_cons, List.all_map]
    show (HT.lexLt a b && _) = (HT.lexLt a b && ascT (b :: r))
    rw [← ih]
    rfl
theorem sh_sub {n : Nat} {ds : List PyData} (h : Sh (n + 1) (.tuple ds)) : ∀ x ∈ ds, Sh n x := fun x hx => by
  obtain ⟨i, hi⟩ := List.mem_iff_getElem?.mp hx
  obtain ⟨h1, h2⟩ := canLay_at (by simpa [PyData.canLay0] using h.1) i x hi
  have := h.2
  simp only [PyData.depth] at this
  exact ⟨h1, by omega⟩
theorem sh_ix {n : Nat} {ds : List PyData} (h : Sh (n + 1) (.tuple ds)) {i : Nat} {x : PyData} (e : ds[i]? = some x) : Sh n x := sh_sub h x (List.mem_of_getElem? e)
theorem x_is_family {d : PyData} (hd : Sh 40 d) (hz : Short d) : ExS K E (t_is_family K E) [some d, none, none, none, none] (.rt (.bool (isFam d))) := by
  have h1 := ev_isTuple (K := K) (ρ := [some d, none, none, none, none]) (ta := tVar 0) (ev_var rfl) (sh_ty hd)
  cases d with
  | tuple ds =>
    obtain ⟨hl, hz1⟩ := hz ds rfl
    have h2 : EvT K (tTest (tOp (rNeD K) (tCB (rLenU K) (tCons (tVar 0) tNil)) (tC (.int 2)))) [some (.tuple ds), none, none, none, none] (!decide (ds.length = 2)) := by
      refine et_to (et_test (ev_op (ev_cb (ea_cons (ev_var rfl) ea_nil) ca_lenT) ev_int (od_ne (sh_int (n := 1)) (sh_int (n := 1))))) ?_
      simp only [PyData.eqv]
      by_cases h : ds.length = 2
      · simp [h]
      · simp only [decide_eq_false h]
        have : ((ds.length : Int) == 2) = false := by simpa using (by omega : ¬ (ds.length : Int) = 2)
        rw [this]
    by_cases hlen : ds.length = 2
    · obtain ⟨a, b, rfl⟩ : ∃ a b, ds = [a, b] := by
        match ds, hlen with
        | [a, b], _ => exact ⟨a, b, rfl⟩
      have ha : Sh 39 a := sh_sub hd a (by simp)
      have hb : Sh 39 b := sh_sub hd b (by simp)
      rw [decide_eq_true hlen] at h2
      have h3 : EvD K (tCall (sp_is_between K) [] E0 (tCons (tOp (rIx K) (tVar 0) (tC (.int 0))) (tCons (tC (.int 1)) (tCons (tC (.int 7)) tNil)))) [some (.tuple [a, b]), none, none, none, none] (.bool (btw a 1 7)) :=
        ev_call (ea_cons (ev_op (ev_var rfl) ev_int (od_ixT (d := a) rfl)) (ea_cons ev_int (ea_cons ev_int ea_nil))) ⟨a, 1, 7, sh_ty ha, rfl, rfl⟩
      cases hbt : btw a 1 7 with
      | false =>
        rw [hbt] at h3
        have e : isFam (.tuple [a, b]) = false := by
          unfold isFam
          split
          · rename_i n ss heq
            simp only [PyData.tuple.injEq, List.cons.injEq, and_true] at heq
            obtain ⟨rfl, rfl⟩ := heq
            simp only [btw, Bool.and_eq_false_iff, decide_eq_false_iff_not] at hbt
            simp only [Bool.and_eq_false_iff, decide_eq_false_iff_not]
            rcases hbt with h | h
            · exact .inl (.inl (.inl (.inl (.inl h))))
            · exact .inl (.inl (.inl (.inl (.inr h))))
          · rfl
        rw [e]
        exact xs_seqR (xs_if (et_orF (et_not (et_B h1)) (et_orF h2 (et_not (et_B h3)))) (fun _ => xs_ret ev_bl) (fun z => by cases z))
      | true =>
        rw [hbt] at h3
        obtain ⟨n, rfl⟩ : ∃ n, a = .int n := by
          cases a with
          | int n => exact ⟨n, rfl⟩
          | _ => simp [btw] at hbt
        have hn : 1 ≤ n ∧ n ≤ 7 := by simpa [btw] using hbt
        refine xs_seq (xs_if (et_orF (et_not (et_B h1)) (et_orF h2 (et_not (et_B h3)))) (fun z => by cases z) (fun _ => xs_next)) ?_
        refine xs_seq (xs_asgT (ev_var (i := 0) rfl) tg_two) ?_
        show ExS K E _ [some (.tuple [.int n, b]), some (.int n), some b, none, none] _
        have k1 := ev_isTuple (K := K) (ρ := [some (.tuple [.int n, b]), some (.int n), some b, none, none]) (ta := tVar 2) (ev_var rfl) (sh_ty hb)
        cases b with
        | tuple ss =>
          obtain ⟨hsl, hz2⟩ := hz1 (.tuple ss) (by simp) ss rfl
          have hlen2 : EvD K (tCB (rLenU K) (tCons (tVar 2) tNil)) [some (.tuple [.int n, .tuple ss]), some (.int n), some (.tuple ss), none, none] (.int ss.length) := ev_cb (ea_cons (ev_var rfl) ea_nil) ca_lenT
          have k2 := et_test (ev_chain (ρ := [some (.tuple [.int n, .tuple ss]), some (.int n), some (.tuple ss), none, none]) (ev_int (K := K) (i := 1)) hlen2 od_le (fun _ => ev_int (i := 8)) (fun _ => od_le))
          have k3 := ev_all (K := K) (ρ := [some (.tuple [.int n, .tuple ss]), some (.int n), some (.tuple ss), none, none]) (j := 3) (vs := [3]) (te := tCall (sp_is_lot K) [] E0 (tCons (tVar 1) (tCons (tVar 3) tNil))) ss (fun x => x) (fun x => isLot n x) (it_id (it_seqT (ev_var (i := 2) rfl))) (by omega) (by simp)
            (fun x hx => ev_call (ea_cons (ev_var rfl) (ea_cons (ev_var rfl) ea_nil)) ⟨n, x, (sh_sub hb x hx).mono (by omega), rfl, fun l hl => hz2 x hx l hl, rfl⟩)
          cases hc : (decide ((1 : Int) ≤ (ss.length : Int)) && decide ((ss.length : Int) ≤ 8)) with
          | false =>
            rw [hc] at k2
            have e : isFam (.tuple [.int n, .tuple ss]) = false := by
              unfold isFam
              simp only [Bool.and_eq_false_iff, decide_eq_false_iff_not] at hc ⊢
              rcases hc with h | h
              · exact .inl (.inl (.inl (.inr (by omega))))
              · exact .inl (.inl (.inr (by omega)))
            rw [e]
            exact xs_seqR (xs_if (et_orF (et_not (et_B k1)) (et_orT (et_not k2))) (fun _ => xs_ret ev_bl) (fun z => by cases z))
          | true =>
            rw [hc] at k2
            have hc' : 1 ≤ ss.length ∧ ss.length ≤ 8 := by
              simp only [Bool.and_eq_true, decide_eq_true_eq] at hc
              omega
            cases hal : ss.all (fun x => isLot n x) with
            | false =>
              rw [hal] at k3
              have e : isFam (.tuple [.int n, .tuple ss]) = false := by
                unfold isFam
                simp only [hal, Bool.and_false, Bool.false_and]
              rw [e]
              exact xs_seqR (xs_if (et_orF (et_not (et_B k1)) (et_orF (et_not k2) (et_not (et_B k3)))) (fun _ => xs_ret ev_bl) (fun z => by cases z))
            | true =>
              rw [hal] at k3
              have ess := all_lots hal
              generalize hll : ss.map tupOf = l at ess
              have e : isFam (.tuple [.int n, .tuple ss]) = ascT l := by
                unfold isFam
                simp only [hal, hll, decide_eq_true hn.1, decide_eq_true hn.2, decide_eq_true hc'.1, decide_eq_true hc'.2, Bool.true_and]
              rw [e]
              refine xs_seq (xs_if (et_orF (et_not (et_B k1)) (et_orF (et_not k2) (et_not (et_B k3)))) (fun z => by cases z) (fun _ => xs_next)) (xs_ret ?_)
              rw [← lex_range l]
              have hls : l.length = ss.length := by rw [← hll, List.length_map]
              have hit := it_rng1 (ev_op hlen2 ev_int od_sub) (by omega : -(2 ^ 62) ≤ (ss.length : Int) - 1 ∧ (ss.length : Int) - 1 < 2 ^ 62)
              have e2 : ((ss.length : Int) - 1).toNat = l.length - 1 := by omega
              rw [e2] at hit
              refine ev_all (List.range (l.length - 1)) (fun i => .int (0 + (i : Int))) (fun k => HT.lexLt (l.getD k []) (l.getD (k + 1) [])) hit (by rw [List.length_range]; omega) (by simp) (fun k hk => ?_)
              have hk' : k < l.length - 1 := List.mem_range.mp hk
              have g : ∀ j : Nat, j < l.length → atI ss (j : Int) = some (tI (l.getD j [])) := fun j hj => by
                refine atI_nat ?_
                rw [ess, List.getElem?_map]
                simp [hj]
              have g1 := g k (by omega)
              have g2 := g (k + 1) (by omega)
              refine ev_op (ev_op (ev_var rfl) (ev_var rfl) (od_ixT ?_)) (ev_op (ev_var rfl) (ev_op (ev_var rfl) ev_int od_add) (od_ixT ?_)) od_ltT
              · rw [Int.zero_add]; exact g1
              · rw [Int.zero_add]; exact_mod_cast g2
        | _ => exact xs_seqR (xs_if (et_orT (et_not (et_B k1))) (fun _ => xs_ret ev_bl) (fun z => by cases z))
    · rw [decide_eq_false hlen] at h2
      have e : isFam (.tuple ds) = false := by
        unfold isFam
        split
        · rename_i n ss heq
          have := PyData.tuple.inj heq
          subst this
          simp at hlen
        · rfl
      rw [e]
      exact xs_seqR (xs_if (et_orF (et_not (et_B h1)) (et_orT h2)) (fun _ => xs_ret ev_bl) (fun z => by cases z))
  | _ => exact xs_seqR (xs_if (et_orT (et_not (et_B h1))) (fun _ => xs_ret ev_bl) (fun z => by cases z))
theorem pure_is_family {vs : List V} {H : Hp} {Q : VK} (hs : sp_is_family K vs H Q E) : t_is_family K E { nx := fun _ H' => Q .non H', rt := Q } (L2.start ["value", "things", "sets", "one", "k"] vs) H :=
  sp_body (R := R_is_family) (fun ds o h => by
    obtain ⟨d, hd, hz, rfl, rfl⟩ := h
    exact .inl (x_is_family hd hz)) hs
/-! ### check_family -/
theorem pure_check_family {vs : List V} {H : Hp} {Q : VK} (hs : sp_check_family K vs H Q E) : t_check_family K E { nx := fun _ H' => Q .non H', rt := Q } (L2.start ["value"] vs) H :=
  sp_body (R := R_check_family K) (fun ds o h => by
    obtain ⟨d, hd, hz, rfl, rfl⟩ := h
    have ht : EvT K (tNot (tB (tCall (sp_is_family K) [] E0 (tCons (tVar 0) tNil)))) [some d] (!isFam d) := et_not (et_B (ev_call (ea_cons (ev_var rfl) ea_nil) ⟨d, hd, hz, rfl, rfl⟩))
    cases hf : isFam d with
    | true =>
      rw [hf] at ht
      exact .inr ⟨by simp, [some d], xs_if ht (fun z => by cases z) (fun _ => xs_next)⟩
    | false =>
      rw [hf] at ht
      exact .inl (xs_if ht (fun _ => xs_raiseF) (fun z => by cases z))) hs
end
end Lc

set_option Elab.async false
set_option linter.all false
set_option maxRecDepth 100000
set_option maxHeartbeats 4000000
namespace Lc
open PySem L2 PySem.Spec PyProof.Rows
section
variable {K : PySem.W.Frag} {E : XK}
/-! ### families as data -/
theorem sh_fam {n : Int} {ss : List (List Int)} : Sh 3 (famD n ss) := sh_tup fun d hd => by
  simp only [List.mem_cons, List.mem_nil_iff, or_false] at hd
  rcases hd with rfl | rfl
  · exact sh_int
  · exact sh_tup fun d hd => by
      obtain ⟨s, _, rfl⟩ := List.mem_map.mp hd
      exact sh_tupI
theorem LotOk.len {n : Int} {s : List Int} (h : LotOk n s) (hn : n ≤ 7) : s.length ≤ 7 := by
  obtain ⟨h1, h2, h3⟩ := h
  have aux : ∀ (l : List Int) (a : Int), ascI l = true → (∀ x ∈ l, a ≤ x ∧ x < n) → (l.length : Int) ≤ max 0 (n - a) := by
    intro l
    induction l with
    | nil => intro a _ _; simp; omega
    | cons x r ih =>
      intro a hasc hb
      have hx := hb x (by simp)
      have hr : ascI r = true ∧ ∀ y ∈ r, x + 1 ≤ y := by
        clear ih hb
        induction r generalizing x with
        | nil => exact ⟨rfl, fun y hy => by simp at hy⟩
        | cons y r ih2 =>
          have h' : x < y ∧ ascI (y :: r) = true := by simpa [ascI] using hasc
          by_cases hy : a ≤ y ∧ y < n
          · have := ih2 y h'.2 hy
            exact ⟨h'.2, fun z hz => by
              rcases List.mem_cons.mp hz with e | e
              · omega
              · have := this.2 z e; omega⟩
          · refine ⟨h'.2, fun z hz => ?_⟩
            have key : ∀ (r : List Int) (y : Int), ascI (y :: r) = true → ∀ z ∈ y :: r, y ≤ z := by
              intro r
              induction r with
              | nil => intro y _ z hz; have := List.mem_singleton.mp hz; omega
              | cons w r ih3 =>
                intro y hy z hz
                have h2 : y < w ∧ ascI (w :: r) = true := by simpa [ascI] using hy
                rcases List.mem_cons.mp hz with e | e
                · omega
                · have := ih3 w h2.2 z e; omega
            have := key r y h'.2 z hz
            omega
      have := ih (x + 1) hr.1 (fun y hy => ⟨hr.2 y hy, (hb y (by simp [hy])).2⟩)
      simp only [List.length_cons]
      push_cast
      omega
  have := aux s 0 h3 h2
  omega
theorem FamOk.short {n : Int} {ss : List (List Int)} (h : FamOk n ss) : Short (famD n ss) := fun l hl => by
  have := PyData.tuple.inj hl
  subst this
  refine ⟨by simp, fun x hx m hm => ?_⟩
  simp only [List.mem_cons, List.mem_nil_iff, or_false] at hx
  rcases hx with rfl | rfl
  · cases hm
  · have := PyData.tuple.inj hm
    subst this
    refine ⟨by rw [List.length_map]; have := h.s8; omega, fun y hy k hk => ?_⟩
    obtain ⟨s, hs, rfl⟩ := List.mem_map.mp hy
    have := PyData.tuple.inj hk
    subst this
    have := (h.lots s hs).len h.n7
    rw [List.length_map]; omega
theorem FamOk.isFam {n : Int} {ss : List (List Int)} (h : FamOk n ss) : isFam (famD n ss) = true := isFam_famD.mpr h
theorem FamOk.w {n : Int} {ss : List (List Int)} (h : FamOk n ss) : FamW n ss :=
  ⟨by have := h.n1; omega, h.n7, fun e => by have := h.s1; rw [e] at this; simp at this, by have := h.s8; omega, fun s hs => ⟨by have := (h.lots s hs).len h.n7; omega, (h.lots s hs).2.1⟩⟩
theorem FamW.inC {n : Int} {ss : List (List Int)} {c : List Int} (h : FamW n ss) (hc : (c.length : Int) = n) : InC ss c := ⟨h.2.2.2.1, fun s hs => ⟨(h.2.2.2.2 s hs).1, fun x hx => by have := (h.2.2.2.2 s hs).2 x hx; omega⟩⟩
/-- check_family(family) in a body: it passes, it raises -/
theorem xs_check {ρ : Rho} {i : Nat} {n : Int} {ss : List (List Int)} (h : FamOk n ss) (hi : ρ[i]? = some (some (famD n ss))) : ExS K E (tDrop (tCall (sp_check_family K) [] E (tCons (tVar i) tNil))) ρ (.nx ρ) :=
  xs_drop (ev_call (ea_cons (ev_var hi) ea_nil) ⟨famD n ss, sh_fam.mono (by omega), h.short, rfl, by rw [h.isFam]; rfl⟩)
theorem xs_checkX {ρ : Rho} {i : Nat} {d : PyData} (h1 : Sh 40 d) (h2 : Short d) (h : isFam d = false) (hi : ρ[i]? = some (some d)) : ExS K E (tDrop (tCall (sp_check_family K) [] E (tCons (tVar i) tNil))) ρ (.ex (He.ga K "InvalidFamily")) :=
  xs_dropX (ex_call (ea_cons (ev_var hi) ea_nil) ⟨d, h1, h2, rfl, by rw [h]; rfl⟩)
/-! ### are_colours -/
theorem pm_eqv (i : Int) : ([PyData.int (-1), .int 1].any fun z => PyData.eqv z (.int i)) = isPM (.int i) := by
  simp only [List.any_cons, List.any_nil, PyData.eqv, isPM, Bool.or_false]
  by_cases h1 : i = -1
  · subst h1; rfl
  · by_cases h2 : i = 1
    · subst h2; rfl
    · have a : ((-1 : Int) == i) = false := by simpa using fun z => h1 z.symm
      have b : ((1 : Int) == i) = false := by simpa using fun z => h2 z.symm
      rw [a, b, decide_eq_false h1, decide_eq_false h2]
theorem x_are_colours {n : Int} {ss : List (List Int)} {d : PyData} (hd : Sh 40 d) (hz : ∀ l, d = .tuple l → l.length ≤ 10000) : ExS K E (t_are_colours K E) [some (famD n ss), some d, none] (.rt (.bool (areCol n d))) := by
  have h1 := ev_isTuple (K := K) (ρ := [some (famD n ss), some d, none]) (ta := tVar 1) (ev_var rfl) (sh_ty hd)
  cases d with
  | tuple ds =>
    have hl := hz ds rfl
    have h2 : EvT K (tTest (tOp (rNeD K) (tCB (rLenU K) (tCons (tVar 1) tNil)) (tOp (rIx K) (tVar 0) (tC (.int 0))))) [some (famD n ss), some (.tuple ds), none] (!decide ((ds.length : Int) = n)) := by
      refine et_to (et_test (ev_op (ev_cb (ea_cons (ev_var rfl) ea_nil) ca_lenT) (ev_op (ev_var rfl) ev_int (od_ixT (d := .int n) rfl)) (od_ne (sh_int (n := 1)) (sh_int (n := 1))))) ?_
      simp only [PyData.eqv]
      rw [Bool.beq_eq_decide_eq]
    cases hn : decide ((ds.length : Int) = n) with
    | false =>
      rw [hn] at h2
      have e : areCol n (.tuple ds) = false := by simp only [areCol, hn, Bool.false_and]
      rw [e]
      exact xs_seqR (xs_if (et_orF (et_not (et_B h1)) h2) (fun _ => xs_ret ev_bl) (fun z => by cases z))
    | true =>
      rw [hn] at h2
      have e : areCol n (.tuple ds) = ds.all isPM := by simp only [areCol, hn, Bool.true_and]
      rw [e]
      refine xs_seq (xs_if (et_orF (et_not (et_B h1)) h2) (fun z => by cases z) (fun _ => xs_next)) (xs_ret ?_)
      refine ev_all ds (fun x => x) isPM (it_id (it_seqT (ev_var rfl))) (by omega) (by simp) (fun x hx => ?_)
      have hty : (tyName x).isSome = true := sh_ty (sh_sub hd x hx)
      have k1 := ev_isInt (K := K) (ρ := [some (famD n ss), some (.tuple ds), some x]) (ta := tVar 2) (ev_var rfl) hty
      have k2 := ev_isBool (K := K) (ρ := [some (famD n ss), some (.tuple ds), some x]) (ta := tVar 2) (ev_var rfl) hty
      show EvD K _ [some (famD n ss), some (.tuple ds), some x] _
      cases x with
      | int i =>
        refine ev_andT k1 (ev_andT (ev_not k2) ?_)
        rw [← pm_eqv]
        exact ev_op (ev_var rfl) (ev_tup (ea_cons (ev_un ev_int ud_neg) (ea_cons ev_int ea_nil)) (by simp)) (od_inT (sh_int (n := 1)) (sh_tup (n := 1) fun d hd => by
          simp only [List.mem_cons, List.mem_nil_iff, or_false] at hd
          rcases hd with rfl | rfl <;> exact sh_int))
      | bool b => exact ev_andT k1 (ev_andF (ev_not k2))
      | _ => exact ev_andF k1
  | _ => exact xs_seqR (xs_if (et_orT (et_not (et_B h1))) (fun _ => xs_ret ev_bl) (fun z => by cases z))
theorem pure_are_colours {vs : List V} {H : Hp} {Q : VK} (hs : sp_are_colours K vs H Q E) : t_are_colours K E { nx := fun _ H' => Q .non H', rt := Q } (L2.start ["family", "value", "one"] vs) H :=
  sp_body (R := R_are_colours) (fun ds o h => by
    obtain ⟨n, ss, d, hd, hz, rfl, rfl⟩ := h
    exact .inl (x_are_colours hd hz)) hs
theorem pure_is_colours {vs : List V} {H : Hp} {Q : VK} (hs : sp_is_colours K vs H Q E) : t_is_colours K E { nx := fun _ H' => Q .non H', rt := Q } (L2.start ["family", "value"] vs) H :=
  sp_body (R := R_is_colours K) (fun ds o h => by
    obtain ⟨hl, d, r, rfl, h⟩ := h
    rcases h with ⟨h1, h2, h3, rfl⟩ | ⟨n, ss, hF, rfl, d, hd, hz, rfl, rfl⟩
    · match r, hl with
      | [y], _ => exact .inl (xs_seqX (xs_checkX h1 h2 h3 rfl))
    · exact .inl (xs_seq (xs_check hF rfl) (xs_ret (ev_call (ea_cons (ev_var rfl) (ea_cons (ev_var rfl) ea_nil)) ⟨n, ss, d, hd, hz, rfl, rfl⟩)))) hs
theorem pure_check_both {vs : List V} {H : Hp} {Q : VK} (hs : sp_check_both K vs H Q E) : t_check_both K E { nx := fun _ H' => Q .non H', rt := Q } (L2.start ["family", "colours"] vs) H :=
  sp_body (R := R_check_both K) (fun ds o h => by
    obtain ⟨hl, d, r, rfl, h⟩ := h
    rcases h with ⟨h1, h2, h3, rfl⟩ | ⟨n, ss, hF, rfl, d, hd, hz, rfl, rfl⟩
    · match r, hl with
      | [y], _ => exact .inl (xs_seqX (xs_checkX h1 h2 h3 rfl))
    · have ht : EvT K (tNot (tB (tCall (sp_are_colours K) [] E0 (tCons (tVar 0) (tCons (tVar 1) tNil))))) [some (famD n ss), some d] (!areCol n d) := et_not (et_B (ev_call (ea_cons (ev_var rfl) (ea_cons (ev_var rfl) ea_nil)) ⟨n, ss, d, hd, hz, rfl, rfl⟩))
      cases hf : areCol n d with
      | true =>
        rw [hf] at ht
        exact .inr ⟨by simp, [some (famD n ss), some d], xs_seq (xs_check hF rfl) (xs_if ht (fun z => by cases z) (fun _ => xs_next))⟩
      | false =>
        rw [hf] at ht
        exact .inl (xs_seq (xs_check hF rfl) (xs_if ht (fun _ => xs_raiseF) (fun z => by cases z)))) hs
/-! ### sums -/
theorem ev_fam1 {ρ : Rho} {i : Nat} {n : Int} {ss : List (List Int)} (h : ρ[i]? = some (some (famD n ss))) : EvD K (tOp (rIx K) (tVar i) (tC (.int 1))) ρ (.tuple (ss.map tI)) := ev_op (ev_var h) ev_int (od_ixT rfl)
theorem ev_fam0 {ρ : Rho} {i : Nat} {n : Int} {ss : List (List Int)} (h : ρ[i]? = some (some (famD n ss))) : EvD K (tOp (rIx K) (tVar i) (tC (.int 0))) ρ (.int n) := ev_op (ev_var h) ev_int (od_ixT rfl)
theorem at_tI {c : List Int} {x : Int} (h0 : 0 ≤ x) (h1 : x < (c.length : Int)) : atI (c.map PyData.int) x = some (.int (c.getD x.toNat 0)) := atI_of h0 (by
  have : x.toNat < c.length := by omega
  simp [this])
theorem x_found_sums {n : Int} {ss : List (List Int)} {c : List Int} (h : InC ss c) : ExS K E (t_found_sums K E) [some (famD n ss), some (tI c), none, none] (.rt (tI (sumsM ss c))) := by
  refine xs_ret ?_
  have e : tI (sumsM ss c) = .tuple (ss.map fun s => .int (sumM c s)) := by unfold tI sumsM; rw [List.map_map]; rfl
  rw [e]
  refine ev_tupLc ss tI (fun s => .int (sumM c s)) (it_seqT (ev_fam1 rfl)) (by have := h.1; omega) (by simp) (fun s hs => ?_)
  obtain ⟨hsl, hsx⟩ := h.2 s hs
  exact ev_sumLc s .int (fun x => c.getD x.toNat 0) (it_seqT (ev_var rfl)) (by omega) (by simp) (fun x hx => ev_op (ev_var rfl) (ev_var rfl) (od_ixT (at_tI (hsx x hx).1 (hsx x hx).2)))
theorem pure_found_sums {vs : List V} {H : Hp} {Q : VK} (hs : sp_found_sums K vs H Q E) : t_found_sums K E { nx := fun _ H' => Q .non H', rt := Q } (L2.start ["family", "colours", "thing", "one"] vs) H :=
  sp_body (R := R_found_sums) (fun ds o h => by
    obtain ⟨n, ss, c, hc, rfl, rfl⟩ := h
    exact .inl (x_found_sums hc)) hs
theorem maxM_mem : ∀ {l : List Int}, l ≠ [] → (∀ x ∈ l, 0 ≤ x) → maxM l ∈ l
  | [], h, _ => absurd rfl h
  | [a], _, h => by
    have := h a (by simp)
    show max a 0 ∈ [a]
    have e : max a 0 = a := by omega
    rw [e]; simp
  | a :: b :: r, _, h => by
    have ih := maxM_mem (l := b :: r) (by simp) (fun x hx => h x (by simp [hx]))
    show max a (maxM (b :: r)) ∈ _
    rcases Int.le_total a (maxM (b :: r)) with h1 | h1
    · have e : max a (maxM (b :: r)) = maxM (b :: r) := by omega
      rw [e]; simp [ih]
    · have e : max a (maxM (b :: r)) = a := by omega
      rw [e]; simp
theorem maxM_le : ∀ {l : List Int} {x : Int}, x ∈ l → x ≤ maxM l
  | a :: r, x, h => by
    show x ≤ max a (maxM r)
    rcases List.mem_cons.mp h with e | e
    · omega
    · have := maxM_le e; omega
theorem maxM_nonneg : ∀ l : List Int, 0 ≤ maxM l
  | [] => Int.le_refl 0
  | a :: r => by have := maxM_nonneg r; show 0 ≤ max a (maxM r); omega
theorem minM_mem : ∀ {l : List Int}, l ≠ [] → minM l ∈ l
  | [], h => absurd rfl h
  | a :: r, _ => by
    show r.foldl min a ∈ a :: r
    induction r generalizing a with
    | nil => simp
    | cons b r ih =>
      show r.foldl min (min a b) ∈ _
      have := ih (min a b) (by simp)
      rcases List.mem_cons.mp this with e | e
      · rcases Int.le_total a b with h | h
        · have : min a b = a := by omega
          rw [e, this]; simp
        · have : min a b = b := by omega
          rw [e, this]; simp
      · simp [e]
theorem foldl_min_le : ∀ (r : List Int) (a : Int), r.foldl min a ≤ a ∧ ∀ x ∈ r, r.foldl min a ≤ x
  | [], a => ⟨Int.le_refl _, fun x h => by simp at h⟩
  | b :: r, a => by
    obtain ⟨h1, h2⟩ := foldl_min_le r (min a b)
    refine ⟨by show r.foldl min (min a b) ≤ a; omega, fun x hx => ?_⟩
    show r.foldl min (min a b) ≤ x
    rcases List.mem_cons.mp hx with e | e
    · omega
    · exact h2 x e
theorem minM_le : ∀ {l : List Int} {x : Int}, x ∈ l → minM l ≤ x
  | a :: r, x, h => by
    show r.foldl min a ≤ x
    rcases List.mem_cons.mp h with e | e
    · rw [e]; exact (foldl_min_le r a).1
    · exact (foldl_min_le r a).2 x e
theorem x_found_uneven {n : Int} {ss : List (List Int)} {c : List Int} (h : InC ss c) (hne : ss ≠ []) : ExS K E (t_found_uneven K E) [some (famD n ss), some (tI c), none] (.rt (.int (unevM ss c))) := by
  refine xs_ret (ev_cb (ea_cons (ev_lcI (sumsM ss c) .int (fun x => (x.natAbs : Int)) (it_seqT (ev_call (ea_cons (ev_var rfl) (ea_cons (ev_var rfl) ea_nil)) ⟨n, ss, c, h, rfl, rfl⟩)) ?_ (by simp) (fun x hx => ev_cb (ea_cons (ev_var rfl) ea_nil) ca_abs)) ea_nil) (ca_max (maxM_mem ?_ ?_) (fun x hx => maxM_le hx)))
  · rw [show (sumsM ss c).length = ss.length by simp [sumsM]]; have := h.1; omega
  · simp [sumsM, hne]
  · intro x hx
    obtain ⟨y, _, rfl⟩ := List.mem_map.mp hx
    omega
theorem pure_found_uneven {vs : List V} {H : Hp} {Q : VK} (hs : sp_found_uneven K vs H Q E) : t_found_uneven K E { nx := fun _ H' => Q .non H', rt := Q } (L2.start ["family", "colours", "one"] vs) H :=
  sp_body (R := R_found_uneven) (fun ds o h => by
    obtain ⟨n, ss, c, hc, hne, rfl, rfl⟩ := h
    exact .inl (x_found_uneven hc hne)) hs
end
end Lc

set_option Elab.async false
set_option linter.all false
set_option maxRecDepth 100000
set_option maxHeartbeats 4000000
namespace Lc
open PySem L2 PySem.Spec PyProof.Rows
section
variable {K : PySem.W.Frag} {E : XK}
/-- check_both(family, colours) in a body -/
theorem xs_both {ρ : Rho} {i j : Nat} {n : Int} {ss : List (List Int)} {d : PyData} (h : FamOk n ss) (hi : ρ[i]? = some (some (famD n ss))) (hj : ρ[j]? = some (some d)) (hd : Sh 40 d) (hz : ∀ l, d = .tuple l → l.length ≤ 10000) (hc : areCol n d = true) :
    ExS K E (tDrop (tCall (sp_check_both K) [] E (tCons (tVar i) (tCons (tVar j) tNil)))) ρ (.nx ρ) :=
  xs_drop (ev_call (ea_cons (ev_var hi) (ea_cons (ev_var hj) ea_nil)) ⟨rfl, famD n ss, [d], rfl, .inr ⟨n, ss, h, rfl, d, hd, hz, rfl, by rw [hc]; rfl⟩⟩)
theorem xs_bothX {ρ : Rho} {i j : Nat} {n : Int} {ss : List (List Int)} {d : PyData} (h : FamOk n ss) (hi : ρ[i]? = some (some (famD n ss))) (hj : ρ[j]? = some (some d)) (hd : Sh 40 d) (hz : ∀ l, d = .tuple l → l.length ≤ 10000) (hc : areCol n d = false) :
    ExS K E (tDrop (tCall (sp_check_both K) [] E (tCons (tVar i) (tCons (tVar j) tNil)))) ρ (.ex (He.ga K "InvalidColours")) :=
  xs_dropX (ex_call (ea_cons (ev_var hi) (ea_cons (ev_var hj) ea_nil)) ⟨rfl, famD n ss, [d], rfl, .inr ⟨n, ss, h, rfl, d, hd, hz, rfl, by rw [hc]; rfl⟩⟩)
theorem xs_bothF {ρ : Rho} {i j : Nat} {d e : PyData} (h1 : Sh 40 d) (h2 : Short d) (h3 : isFam d = false) (hi : ρ[i]? = some (some d)) (hj : ρ[j]? = some (some e)) :
    ExS K E (tDrop (tCall (sp_check_both K) [] E (tCons (tVar i) (tCons (tVar j) tNil)))) ρ (.ex (He.ga K "InvalidFamily")) :=
  xs_dropX (ex_call (ea_cons (ev_var hi) (ea_cons (ev_var hj) ea_nil)) ⟨rfl, d, [e], rfl, .inl ⟨h1, h2, h3, rfl⟩⟩)
theorem pure_sums {vs : List V} {H : Hp} {Q : VK} (hs : sp_sums K vs H Q E) : t_sums K E { nx := fun _ H' => Q .non H', rt := Q } (L2.start ["family", "colours"] vs) H :=
  sp_body (R := R_sums K) (fun ds o h => by
    obtain ⟨hl, d, r, rfl, h⟩ := h
    rcases h with ⟨h1, h2, h3, rfl⟩ | ⟨n, ss, hF, rfl, d, hd, hz, rfl, rfl⟩
    · match r, hl with
      | [y], _ => exact .inl (xs_seqX (xs_bothF h1 h2 h3 rfl rfl))
    · cases hc : areCol n d with
      | false => exact .inl (xs_seqX (xs_bothX hF rfl rfl hd hz hc))
      | true =>
        obtain ⟨c, rfl, hok⟩ := areCol_inv hc
        rw [tupOf_one]
        exact .inl (xs_seq (xs_both hF rfl rfl hd hz hc) (xs_ret (ev_call (ea_cons (ev_var rfl) (ea_cons (ev_var rfl) ea_nil)) ⟨n, ss, c, hF.w.inC hok.1, rfl, rfl⟩)))) hs
theorem pure_uneven {vs : List V} {H : Hp} {Q : VK} (hs : sp_uneven K vs H Q E) : t_uneven K E { nx := fun _ H' => Q .non H', rt := Q } (L2.start ["family", "colours"] vs) H :=
  sp_body (R := R_uneven K) (fun ds o h => by
    obtain ⟨hl, d, r, rfl, h⟩ := h
    rcases h with ⟨h1, h2, h3, rfl⟩ | ⟨n, ss, hF, rfl, d, hd, hz, rfl, rfl⟩
    · match r, hl with
      | [y], _ => exact .inl (xs_seqX (xs_bothF h1 h2 h3 rfl rfl))
    · cases hc : areCol n d with
      | false => exact .inl (xs_seqX (xs_bothX hF rfl rfl hd hz hc))
      | true =>
        obtain ⟨c, rfl, hok⟩ := areCol_inv hc
        rw [tupOf_one]
        exact .inl (xs_seq (xs_both hF rfl rfl hd hz hc) (xs_ret (ev_call (ea_cons (ev_var rfl) (ea_cons (ev_var rfl) ea_nil)) ⟨n, ss, c, hF.w.inC hok.1, hF.w.2.2.1, rfl, rfl⟩)))) hs
/-! ### all_colours -/
theorem rowsM_len (ch : List Int) : ∀ k r, r ∈ rowsM ch k → r.length = k
  | 0, r, h => by rw [List.mem_singleton.mp h]; rfl
  | k + 1, r, h => by
    obtain ⟨r', h1, h2⟩ := List.mem_flatMap.mp h
    obtain ⟨x, _, rfl⟩ := List.mem_map.mp h2
    rw [List.length_append, rowsM_len ch k r' h1]; rfl
theorem rowsM_mem (ch : List Int) : ∀ k r, r ∈ rowsM ch k ↔ r.length = k ∧ ∀ x ∈ r, x ∈ ch
  | 0, r => by
    constructor
    · intro h; rw [List.mem_singleton.mp h]; exact ⟨rfl, fun x hx => by simp at hx⟩
    · rintro ⟨h, _⟩; rw [List.eq_nil_of_length_eq_zero h]; simp [rowsM]
  | k + 1, r => by
    constructor
    · intro h
      obtain ⟨r', h1, h2⟩ := List.mem_flatMap.mp h
      obtain ⟨x, hx, rfl⟩ := List.mem_map.mp h2
      obtain ⟨k1, k2⟩ := (rowsM_mem ch k r').mp h1
      refine ⟨by rw [List.length_append, k1]; rfl, fun y hy => ?_⟩
      rcases List.mem_append.mp hy with z | z
      · exact k2 y z
      · rw [List.mem_singleton.mp z]; exact hx
    · rintro ⟨h1, h2⟩
      have hne : r ≠ [] := fun e => by subst e; simp at h1
      have er : r = r.dropLast ++ [r.getLast hne] := (List.dropLast_concat_getLast hne).symm
      rw [er]
      refine List.mem_flatMap.mpr ⟨r.dropLast, (rowsM_mem ch k _).mpr ⟨by rw [List.length_dropLast]; omega, fun x hx => h2 x (List.dropLast_subset r hx)⟩, List.mem_map.mpr ⟨_, h2 _ (List.getLast_mem hne), rfl⟩⟩
theorem rowsM_size (ch : List Int) : ∀ k, (rowsM ch k).length = ch.length ^ k
  | 0 => rfl
  | k + 1 => by
    show ((rowsM ch k).flatMap fun r => ch.map fun x => r ++ [x]).length = _
    have aux : ∀ l : List (List Int), (l.flatMap fun r => ch.map fun x => r ++ [x]).length = l.length * ch.length := by
      intro l
      induction l with
      | nil => simp
      | cons a l ih => rw [List.flatMap_cons, List.length_append, ih, List.length_map, List.length_cons, Nat.succ_mul]; omega
    rw [aux, rowsM_size ch k, Nat.pow_succ]
/-- one turn of the loop that makes the rows -/
theorem ev_rows {ρ : Rho} {tt1 : TE} {i j l : Nat} (ch : List Int) (k : Nat) (hk : k < 7) (hch : ch.length ≤ 2) (hij : j ≠ l) (hi : (wipeD ρ [j, l]).length = ρ.length) (hr : ρ[i]? = some (some (lD (rowsM ch k)))) (hjl : j < ρ.length) (hll : l < ρ.length)
    (ht : ∀ r, EvD K tt1 ((wipeD ρ [j, l]).set j (some r)) (tI ch)) :
    EvD K (tLc2 (iSeq K (tVar i)) (gName j) tYes (iSeq K tt1) (gName l) tYes (tOp (rAddU K) (tVar j) (tTup (tCons (tVar l) tNil))) [j, l] [l]) ρ (lD (rowsM ch (k + 1))) := by
  have e : lD (rowsM ch (k + 1)) = .list ((rowsM ch k).flatMap fun r => (ch.filter (fun _ => true)).map fun x => tI (r ++ [x])) := by
    unfold lD
    congr 1
    show ((rowsM ch k).flatMap fun r => ch.map fun x => r ++ [x]).map tI = _
    rw [List.map_flatMap]
    congr 1
    funext r
    have : ch.filter (fun _ => true) = ch := by simp
    rw [this, List.map_map]; rfl
  rw [e]
  refine ev_lc2 (rowsM ch k) tI (fun r => (wipeD ρ [j, l]).set j (some (tI r))) (fun _ => ch) (fun _ x => .int x) (fun r x => (wipeD ((wipeD ρ [j, l]).set j (some (tI r))) [l]).set l (some (.int x))) (fun _ _ => true) (fun r x => tI (r ++ [x])) (ws := [j]) (ws1 := [l])
    (it_seqL (ev_var hr)) ?_ (by simp) (by simp) (fun r _ => tg_name) (fun r _ => et_yes) (fun r _ => it_seqT (ht _)) (fun r _ x _ => tg_name) (fun r _ x _ => et_yes) (fun r hr x hx _ => ?_)
  · have h1 : ((rowsM ch k).flatMap fun _ => ch).length = (rowsM ch k).length * ch.length := by
      generalize rowsM ch k = z
      induction z with
      | nil => simp
      | cons a z ih => rw [List.flatMap_cons, List.length_append, ih, List.length_cons, Nat.succ_mul]; omega
    rw [h1, rowsM_size]
    have h2 : ch.length ^ k ≤ 2 ^ 7 := Nat.le_trans (Nat.pow_le_pow_left hch k) (Nat.pow_le_pow_right (by omega) (by omega))
    have : ch.length ^ k * ch.length ≤ 2 ^ 7 * 2 := Nat.mul_le_mul h2 hch
    have h3 : (2 : Nat) ^ 7 * 2 = 256 := by decide
    omega
  · have hlen := rowsM_len ch k r hr
    have e2 : tI (r ++ [x]) = .tuple (r.map .int ++ [.int x]) := by unfold tI; rw [List.map_append]; rfl
    rw [e2]
    refine ev_op (ev_var (d := tI r) ?_) (ev_tup (ea_cons (ev_var (d := .int x) ?_) ea_nil) (by simp)) (od_addT (by simp; omega))
    · rw [List.getElem?_set_ne (Ne.symm hij)]
      show ((((wipeD ρ [j, l]).set j (some (tI r))).set l none))[j]? = _
      rw [List.getElem?_set_ne (Ne.symm hij), List.getElem?_set_self (by rw [hi]; exact hjl)]
    · rw [List.getElem?_set_self]
      show l < (((wipeD ρ [j, l]).set j (some (tI r))).set l none).length
      rw [List.length_set, List.length_set, hi]; exact hll
theorem x_all_colours {k : Nat} (hk : k ≤ 7) : ExS K E (t_all_colours K E) [some (.int (k : Int)), none, none, none, none] (.rt (lD (colsM k))) := by
  refine xs_seq (xs_asg (d := lD (colsM 0)) (ev_lst (ea_cons (ev_tup ea_nil (by simp)) ea_nil) (by decide))) ?_
  show ExS K E _ [some (.int (k : Int)), some (lD (colsM 0)), none, none, none] _
  have hit := it_rng1 (K := K) (ρ := [some (.int (k : Int)), some (lD (colsM 0)), none, none, none]) (te := tVar 0) (ev_var rfl) (by omega : -(2 ^ 62) ≤ (k : Int) ∧ (k : Int) < 2 ^ 62)
  rw [Int.toNat_natCast] at hit
  have hfor := xs_for (K := K) (E := E) (g := gName 2) (ts := (tAsg (tLc2 (iSeq K (tVar 1)) (gName 3) tYes (iSeq K (tTup (tCons (tUn (rU fun i => .int (-i)) (tC (.int 1))) (tCons (tC (.int 1)) tNil)))) (gName 4) tYes (tOp (rAddU K) (tVar 3) (tTup (tCons (tVar 4) tNil))) [3, 4] [4]) (gName 1))) (List.range k) (fun i => .int (0 + (i : Int)))
    (fun i => [some (.int (k : Int)), some (lD (colsM i)), if i = 0 then none else some (.int (0 + ((i - 1 : Nat) : Int))), none, none]) (fun i => [some (.int (k : Int)), some (lD (colsM i)), some (.int (0 + (i : Int))), none, none]) (ws := [2]) hit rfl
    (fun i hi => by
      rw [List.length_range] at hi
      rw [List.getElem_range]
      exact tg_name) (fun i hi => by
      rw [List.length_range] at hi
      refine xs_asg (ev_rows [-1, 1] i (by omega) (by simp) (by decide) rfl rfl (by simp) (by simp) (fun r => ?_))
      exact ev_tup (ea_cons (ev_un ev_int ud_neg) (ea_cons ev_int ea_nil)) (by simp))
  rw [List.length_range] at hfor
  exact xs_seq hfor (xs_ret (ev_var rfl))
theorem pure_all_colours {vs : List V} {H : Hp} {Q : VK} (hs : sp_all_colours K vs H Q E) : t_all_colours K E { nx := fun _ H' => Q .non H', rt := Q } (L2.start ["things", "rows", "thing", "row", "one"] vs) H :=
  sp_body (R := R_all_colours) (fun ds o h => by
    obtain ⟨k, hk, rfl, rfl⟩ := h
    exact .inl (x_all_colours hk)) hs
/-! ### found_least, least_uneven, all_best -/
theorem colsM_ne (k : Nat) : colsM k ≠ [] := fun e => by
  have := rowsM_size [-1, 1] k
  rw [show rowsM [-1, 1] k = [] from e] at this
  have h2 : 0 < 2 ^ k := Nat.pow_pos (by omega)
  simp at this
  omega
theorem colsM_small {k : Nat} (h : k ≤ 7) : (colsM k).length ≤ 128 := by
  show (rowsM [-1, 1] k).length ≤ 128
  rw [rowsM_size]
  exact Nat.le_trans (Nat.pow_le_pow_right (by simp) h) (by decide)
theorem ev_cols {ρ : Rho} {i : Nat} {n : Int} {ss : List (List Int)} (h0 : 0 ≤ n) (h7 : n ≤ 7) (h : ρ[i]? = some (some (famD n ss))) : EvD K (tCall (sp_all_colours K) [] E0 (tCons (tOp (rIx K) (tVar i) (tC (.int 0))) tNil)) ρ (lD (colsM n.toNat)) := by
  refine ev_call (ea_cons (ev_fam0 h) ea_nil) ⟨n.toNat, by omega, ?_, rfl⟩
  rw [Int.toNat_of_nonneg h0]
theorem FamW.col {n : Int} {ss : List (List Int)} {c : List Int} (h : FamW n ss) (hc : c ∈ colsM n.toNat) : InC ss c := h.inC (by have := rowsM_len _ _ _ hc; have := h.1; omega)
theorem x_found_least {n : Int} {ss : List (List Int)} (h : FamW n ss) : ExS K E (t_found_least K E) [some (famD n ss), none] (.rt (.int (leastM n ss))) := by
  have hsm := colsM_small (show n.toNat ≤ 7 by have := h.2.1; omega)
  refine xs_ret (ev_cb (ea_cons (ev_lcI (colsM n.toNat) tI (unevM ss) (it_seqL (ev_cols h.1 h.2.1 rfl)) (by omega) (by simp) (fun c hc => ev_call (ea_cons (ev_var rfl) (ea_cons (ev_var rfl) ea_nil)) ⟨n, ss, c, h.col hc, h.2.2.1, rfl, rfl⟩)) ea_nil) (ca_min (minM_mem ?_) (fun x hx => minM_le hx)))
  simp [colsM_ne]
theorem pure_found_least {vs : List V} {H : Hp} {Q : VK} (hs : sp_found_least K vs H Q E) : t_found_least K E { nx := fun _ H' => Q .non H', rt := Q } (L2.start ["family", "colours"] vs) H :=
  sp_body (R := R_found_least) (fun ds o h => by
    obtain ⟨n, ss, hw, rfl, rfl⟩ := h
    exact .inl (x_found_least hw)) hs
theorem pure_least_uneven {vs : List V} {H : Hp} {Q : VK} (hs : sp_least_uneven K vs H Q E) : t_least_uneven K E { nx := fun _ H' => Q .non H', rt := Q } (L2.start ["family"] vs) H :=
  sp_body (R := R_least_uneven K) (fun ds o h => by
    obtain ⟨hl, d, r, rfl, h⟩ := h
    rcases h with ⟨h1, h2, h3, rfl⟩ | ⟨n, ss, hF, rfl, rfl, rfl⟩
    · match r, hl with
      | [], _ => exact .inl (xs_seqX (xs_checkX h1 h2 h3 rfl))
    · exact .inl (xs_seq (xs_check hF rfl) (xs_ret (ev_call (ea_cons (ev_var rfl) ea_nil) ⟨n, ss, hF.w, rfl, rfl⟩)))) hs
theorem x_all_best {n : Int} {ss : List (List Int)} (hF : FamOk n ss) : ExS K E (t_all_best K E) [some (famD n ss), none, none] (.rt (tD (bestM n ss))) := by
  have hw := hF.w
  have hsm := colsM_small (show n.toNat ≤ 7 by have := hw.2.1; omega)
  refine xs_seq (xs_check hF rfl) (xs_seq (xs_asg (ev_call (ea_cons (ev_var rfl) ea_nil) ⟨n, ss, hw, rfl, rfl⟩)) (xs_ret ?_))
  show EvD K _ [some (famD n ss), some (.int (leastM n ss)), none] _
  refine ev_tupLcF (colsM n.toNat) tI (fun c => decide (unevM ss c = leastM n ss)) tI (it_seqL (ev_cols hw.1 hw.2.1 rfl)) (by omega) (by simp) (fun c hc => ?_) (fun c hc _ => ev_var rfl)
  refine et_to (et_test (ev_op (ev_call (ea_cons (ev_var rfl) (ea_cons (ev_var rfl) ea_nil)) ⟨n, ss, c, hw.col hc, hw.2.2.1, rfl, rfl⟩) (ev_var rfl) (od_eq (sh_int (n := 1)) (sh_int (n := 1))))) ?_
  simp only [PyData.eqv]
  rw [Bool.beq_eq_decide_eq]
theorem pure_all_best {vs : List V} {H : Hp} {Q : VK} (hs : sp_all_best K vs H Q E) : t_all_best K E { nx := fun _ H' => Q .non H', rt := Q } (L2.start ["family", "least", "colours"] vs) H :=
  sp_body (R := R_all_best K) (fun ds o h => by
    obtain ⟨hl, d, r, rfl, h⟩ := h
    rcases h with ⟨h1, h2, h3, rfl⟩ | ⟨n, ss, hF, rfl, rfl, rfl⟩
    · match r, hl with
      | [], _ => exact .inl (xs_seqX (xs_checkX h1 h2 h3 rfl))
    · exact .inl (x_all_best hF)) hs
end
end Lc

set_option Elab.async false
set_option linter.all false
set_option maxRecDepth 100000
set_option maxHeartbeats 4000000
namespace Lc
open PySem L2 PySem.Spec PyProof.Rows
/-! ### the order of tuples of ints -/
theorem cmpXs_ints : ∀ a b : List Int, cmpXs (a.map .int) (b.map .int) = .lt ↔ HT.lexLt a b = true
  | [], [] => by simp [cmpXs, HT.lexLt]
  | [], _ :: _ => by simp [cmpXs, HT.lexLt]
  | _ :: _, [] => by simp [cmpXs, HT.lexLt]
  | x :: a, y :: b => by
    have ih := cmpXs_ints a b
    simp only [List.map_cons, cmpXs, cmpX, cmpI, HT.lexLt_cons]
    by_cases h1 : x < y
    · rw [if_pos h1]
      have h2 : ¬ x = y := by omega
      rw [if_neg h2, decide_eq_true h1]; simp
    · by_cases h2 : y < x
      · rw [if_neg h1, if_pos h2]
        have h3 : ¬ x = y := by omega
        rw [if_neg h3, decide_eq_false h1]; simp
      · rw [if_neg h1, if_neg h2]
        have h3 : x = y := by omega
        rw [if_pos h3]; exact ih
theorem ltXs_ints (a b : List Int) : ltXs (a.map .int) (b.map .int) = HT.lexLt a b := by
  unfold ltXs
  cases h : HT.lexLt a b with
  | true => rw [(cmpXs_ints a b).mpr h]; rfl
  | false =>
    have : ¬ cmpXs (a.map .int) (b.map .int) = .lt := fun e => by rw [(cmpXs_ints a b).mp e] at h; cases h
    simpa using this
theorem swo_lex : SrtO.Swo HT.lexLt := ⟨fun x y h => by rw [← ltXs_ints] at h ⊢; exact ltXs_asym _ _ h, fun x y z h1 h2 => by rw [← ltXs_ints] at h1 h2 ⊢; exact ltXs_tr _ _ _ h1 h2⟩
theorem lex_tri : ∀ a b : List Int, a ≠ b → HT.lexLt b a = false → HT.lexLt a b = true
  | [], [], h, _ => absurd rfl h
  | [], _ :: _, _, _ => rfl
  | _ :: _, [], _, h => by simp [HT.lexLt] at h
  | x :: a, y :: b, h, h2 => by
    rw [HT.lexLt_cons] at h2 ⊢
    by_cases e : x = y
    · subst e
      rw [if_pos rfl] at h2 ⊢
      exact lex_tri a b (fun z => h (by rw [z])) h2
    · rw [if_neg (Ne.symm e)] at h2
      rw [if_neg e]
      simp at h2 ⊢
      omega
theorem lex_irr (a : List Int) : HT.lexLt a a = false := swo_lex.refl a
theorem ascT_of : ∀ {l : List (List Int)}, l.Pairwise (fun x y => HT.lexLt x y = true) → ascT l = true
  | [], _ => rfl
  | [_], _ => rfl
  | a :: b :: r, h => by
    have h' := List.pairwise_cons.mp h
    show (HT.lexLt a b && ascT (b :: r)) = true
    rw [h'.1 b (by simp), ascT_of h'.2]; rfl
theorem ascT_pw : ∀ {l : List (List Int)}, ascT l = true → l.Pairwise (fun x y => HT.lexLt x y = true)
  | [], _ => List.Pairwise.nil
  | [_], _ => List.pairwise_singleton _ _
  | a :: b :: r, h => by
    have h' : HT.lexLt a b = true ∧ ascT (b :: r) = true := by simpa [ascT] using h
    have ih := ascT_pw h'.2
    refine List.pairwise_cons.mpr ⟨fun z hz => ?_, ih⟩
    rcases List.mem_cons.mp hz with e | e
    · rw [e]; exact h'.1
    · exact swo_lex.ltle h'.1 (swo_lex.asym _ _ ((List.pairwise_cons.mp ih).1 z e))
theorem sorted_asc {l : List (List Int)} (h : SrtO.Srtd HT.lexLt l) (hn : l.Nodup) : ascT l = true :=
  ascT_of (List.Pairwise.imp₂ (fun a b h1 h2 => lex_tri a b h2 h1) h hn)
theorem isort_map {α β : Type} (lt : β → β → Bool) (f : α → β) : ∀ l : List α, isort lt (l.map f) = (isort (fun x y => lt (f x) (f y)) l).map f
  | [] => rfl
  | x :: xs => by
    show ins lt (f x) (isort lt (xs.map f)) = _
    rw [isort_map lt f xs]
    show ins lt (f x) ((isort (fun x y => lt (f x) (f y)) xs).map f) = (ins (fun x y => lt (f x) (f y)) x (isort (fun x y => lt (f x) (f y)) xs)).map f
    generalize isort (fun x y => lt (f x) (f y)) xs = z
    induction z with
    | nil => rfl
    | cons y z ih =>
      show (if lt (f y) (f x) then f y :: ins lt (f x) (z.map f) else f x :: f y :: z.map f) = List.map f (if lt (f y) (f x) then y :: ins (fun x y => lt (f x) (f y)) x z else x :: y :: z)
      by_cases h : lt (f y) (f x) = true
      · rw [if_pos h, if_pos h, ih]; rfl
      · rw [if_neg h, if_neg h]; rfl
theorem frgs_ints : ∀ l : List Int, frgs (l.map .int) = true
  | [] => rfl
  | a :: r => by simp [frgs, frg, frgs_ints r]
theorem depth_ints : ∀ l : List Int, PyData.depthAll (l.map .int) = 0
  | [] => by simp [PyData.depthAll]
  | a :: r => by simp only [List.map_cons, PyData.depthAll, PyData.depth, depth_ints r]; rfl
theorem cmb_ints : ∀ a b : List Int, cmbAll (a.map .int) (b.map .int) = true
  | [], [] => rfl
  | [], _ :: _ => rfl
  | _ :: _, [] => rfl
  | x :: a, y :: b => by simp [cmbAll, cmb, cmb_ints a b]
section
variable {K : PySem.W.Frag} {E : XK}
theorem ca_sortLD {fs : List (List Int)} (hne : ∀ f ∈ fs, f ≠ []) : CaD K (rSortD K) [lD fs] (lD (isort HT.lexLt fs)) := by
  have h := ca_sortT (K := K) (ds := fs.map fun f => f.map .int) (fun d hd => by
    obtain ⟨f, _, rfl⟩ := List.mem_map.mp hd
    exact ⟨frgs_ints f, by rw [depth_ints]; omega⟩) (fun d hd e he => by
    obtain ⟨f, _, rfl⟩ := List.mem_map.mp hd
    obtain ⟨g, _, rfl⟩ := List.mem_map.mp he
    exact cmb_ints f g) (.inl fun d hd => by
    obtain ⟨f, hf, rfl⟩ := List.mem_map.mp hd
    cases f with
    | nil => exact absurd rfl (hne _ hf)
    | cons i r => exact ⟨i, r.map .int, rfl⟩)
  rw [isort_map] at h
  have e : (fun (x y : List Int) => ltXs (x.map .int) (y.map .int)) = HT.lexLt := by funext x y; exact ltXs_ints x y
  rw [e, List.map_map, List.map_map] at h
  exact h
theorem sh_lD {n : Nat} {fs : List (List Int)} : Sh (n + 2) (lD fs) := sh_lst fun d hd => by
  obtain ⟨s, _, rfl⟩ := List.mem_map.mp hd
  exact sh_tupI
theorem sh_tD {n : Nat} {fs : List (List Int)} : Sh (n + 2) (tD fs) := sh_tup fun d hd => by
  obtain ⟨s, _, rfl⟩ := List.mem_map.mp hd
  exact sh_tupI
theorem sh_tI {n : Nat} {f : List Int} : Sh (n + 1) (tI f) := sh_tupI
/-! equality of such data -/
theorem eqv_ints : ∀ a b : List Int, PyData.eqvAll (a.map .int) (b.map .int) = decide (a = b)
  | [], [] => by simp [PyData.eqvAll]
  | [], _ :: _ => by simp [PyData.eqvAll]
  | _ :: _, [] => by simp [PyData.eqvAll]
  | x :: a, y :: b => by
    simp only [List.map_cons, PyData.eqvAll, PyData.eqv, eqv_ints a b]
    by_cases h : x = y
    · subst h; simp
    · have : (x == y) = false := by simpa using h
      rw [this]; simp [h]
theorem eqv_int (i j : Int) : PyData.eqv (.int i) (.int j) = decide (i = j) := by simp only [PyData.eqv]; rw [Bool.beq_eq_decide_eq]
theorem eqv_bool (i j : Bool) : PyData.eqv (.bool i) (.bool j) = decide (i = j) := by simp only [PyData.eqv]; cases i <;> cases j <;> rfl
theorem eqv_tI (a b : List Int) : PyData.eqv (tI a) (tI b) = decide (a = b) := by
  have : PyData.eqv (tI a) (tI b) = PyData.eqvAll (a.map .int) (b.map .int) := by simp only [tI, PyData.eqv]
  rw [this, eqv_ints]
theorem eqv_tIs : ∀ a b : List (List Int), PyData.eqvAll (a.map tI) (b.map tI) = decide (a = b)
  | [], [] => by simp [PyData.eqvAll]
  | [], _ :: _ => by simp [PyData.eqvAll]
  | _ :: _, [] => by simp [PyData.eqvAll]
  | x :: a, y :: b => by
    simp only [List.map_cons, PyData.eqvAll, eqv_tIs a b, eqv_tI]
    by_cases h : x = y
    · subst h; simp
    · simp [h]
theorem eqv_tD (a b : List (List Int)) : PyData.eqv (tD a) (tD b) = decide (a = b) := by
  have : PyData.eqv (tD a) (tD b) = PyData.eqvAll (a.map tI) (b.map tI) := by simp only [tD, PyData.eqv]
  rw [this, eqv_tIs]
theorem eqv_lD (a b : List (List Int)) : PyData.eqv (lD a) (lD b) = decide (a = b) := by
  have : PyData.eqv (lD a) (lD b) = PyData.eqvAll (a.map tI) (b.map tI) := by simp only [lD, PyData.eqv]
  rw [this, eqv_tIs]
theorem any_tI (a : List Int) : ∀ fs : List (List Int), (fs.map tI).any (fun z => PyData.eqv z (tI a)) = decide (a ∈ fs)
  | [] => by simp
  | f :: fs => by
    rw [List.map_cons, List.any_cons, any_tI a fs, eqv_tI]
    by_cases h : f = a
    · subst h; simp
    · have h2 : ¬ a = f := fun z => h z.symm
      simp [h, h2]
theorem any_ints (a : Int) : ∀ fs : List Int, (fs.map PyData.int).any (fun z => PyData.eqv z (.int a)) = decide (a ∈ fs)
  | [] => by simp
  | f :: fs => by
    rw [List.map_cons, List.any_cons, any_ints a fs, eqv_int]
    by_cases h : f = a
    · subst h; simp
    · have h2 : ¬ a = f := fun z => h z.symm
      simp [h, h2]
/-! ### what is walked, drawn -/
variable {tn : Addr} {ns : List Int} {ρ : Rho} {ta te : TE} {n m : Nat} {ts : TS} {Pr : PyData → Prop}
def ItW (K : PySem.W.Frag) (tn : Addr) (ns : List Int) (wi : TI) (ρ : Rho) (n : Nat) (P : List PyData → Prop) : Prop :=
  ∀ c A σ H, c + n ≤ MD → Live A H → tn ∈ A → Town ns tn c H → EnvD K (cut A H) σ ρ → ∀ R : It → Hp → Prop, (∀ J H1 ds, P ds → Keep [tn] H H1 → Town ns tn (c + n) H1 → ItOk K A J ds H1 → R J H1) → wi σ H R
theorem iw_rng1 {R : PyData → Prop} {B : Nat} (h : EvW K tn ns te ρ n R) (hR : ∀ d, R d → ∃ k : Nat, d = .int (k : Int) ∧ k ≤ B) (hB : B ≤ 100000) : ItW K tn ns (iRng1 (tCons te tNil)) ρ n (fun ds => ∃ k : Nat, k ≤ B ∧ R (.int (k : Int)) ∧ ds = rngD 0 k) := fun c A σ H hc l hm ht hE Q q =>
  h c A σ H hc l hm ht hE _ fun d v H1 r k t hv => by
    obtain ⟨j, rfl, hj⟩ := hR d r
    cases hv
    refine ⟨(j : Int), rfl, by omega, by omega, q _ H1 _ ⟨j, hj, r, rfl⟩ k t ?_⟩
    rw [Int.toNat_natCast]
    exact itok_rng
/-- a for over a drawn range -/
theorem xw_forR {R : PyData → Prop} {Q : Rho → Prop} {B j : Nat} {te : TE} (h : EvW K tn ns te ρ n R) (hR : ∀ d, R d → ∃ k : Nat, d = .int (k : Int) ∧ k ≤ B) (hB : B ≤ 100000) (I : Nat → Rho → Prop) (h0 : I 0 ρ)
    (hb : ∀ i ρ', i < B → I i ρ' → ExW K tn ns ts (ρ'.set j (some (.int (0 + (i : Int))))) m (I (i + 1)) Pr) (hd : ∀ (k : Nat) ρ', R (.int (k : Int)) → I k ρ' → Q ρ') :
    ExW K tn ns (tFor (iRng1 (tCons te tNil)) (gName j) ts) ρ (n + B * m) Q Pr := fun c A σ H D hc l hm ht hE q1 q2 =>
  iw_rng1 h hR hB c A σ H (by omega) l hm ht hE _ fun J H1 ds ⟨k, hk, hRk, eds⟩ k1 t1 hJ => by
    subst eds
    refine ⟨fun i m' σ' H' => m' = k - i ∧ i ≤ k ∧ Keep [tn] H1 H' ∧ Town ns tn (c + n + i * m) H' ∧ ∃ ρ', I i ρ' ∧ EnvD K (cut A H') σ' ρ', ⟨k, by simp, Nat.zero_le _, Keep.refl, by rw [Nat.zero_mul, Nat.add_zero]; exact t1, ρ, h0, hE.same (keep_cut hm k1)⟩, ?_⟩
    rintro i m' σ' H' ⟨rfl, hle, hk', hT, ρ', hI, hE'⟩
    have lv : Live A H' := live_keep (live_keep l k1 t1) hk' hT
    have kA : Keep A H1 H' := hk'.mono (by simpa using hm)
    by_cases hlt : i < k
    · have hstep : (i + 1) * m ≤ B * m := Nat.mul_le_mul_right _ (by omega)
      have hexp : (i + 1) * m = i * m + m := Nat.succ_mul _ _
      refine .inr ⟨hJ.goes i H' (by rw [rngD_len]; exact hlt) kA, fun σ2 H2 => Keep [tn] H1 H2 ∧ Town ns tn (c + n + (i + 1) * m) H2 ∧ ∃ ρ2, I (i + 1) ρ2 ∧ EnvD K (cut A H2) σ2 ρ2, fun σ2 H2 h2 => ⟨k - (i + 1), by omega, rfl, hlt, h2⟩, fun x H2 hy => ?_⟩
      obtain ⟨s2, d, hd', hx⟩ := hJ.yields i H' x H2 A (by rw [rngD_len]; exact hlt) kA lv Off.refl hy
      rw [rngD_at hlt] at hd'
      cases hd'
      refine hb i ρ' (by omega) hI (c + n + i * m) A _ H2 _ (by omega) (lv.same s2) hm (hT.same s2) ((hE'.same (cut_same s2)).set hx j) (fun ρ3 σ3 H3 p3 k3 t3 hE3 => ⟨(hk'.trans (Keep.of s2)).trans k3, t3.mono (by omega), ρ3, p3, hE3⟩) (fun d v H3 p3 k3 t3 hv => ?_)
      exact q2 d v H3 p3 ((k1.trans (hk'.trans (Keep.of s2))).trans k3) (t3.mono (by omega)) hv
    · have e : i = k := by omega
      subst e
      have hstep : i * m ≤ B * m := Nat.mul_le_mul_right _ (by omega)
      exact .inl ⟨by have := hJ.stops H' kA; rw [rngD_len] at this; exact this, q1 ρ' σ' H' (hd i ρ' hRk hI) (k1.trans hk') (hT.mono (by omega)) hE'⟩
/-- a draw -/
theorem ew_draw {E' : XK} {k : Int} {tl : TE} {i j : Nat} (hi : ρ[i]? = some (some (scrD ns))) (hj : ρ[j]? = some (some (adrD tn))) (hk : EvD K tl ρ (.int k)) (h0 : 0 < k) (h1 : k < 1073741824) :
    EvW K tn ns (tCall (spDraw K) [] E' (tCons (tVar i) (tCons (tVar j) (tCons tl tNil)))) ρ 1 (fun d => ∃ r : Int, d = .int r ∧ 0 ≤ r ∧ r < k) := by
  have ha : EaW K tn ns (tCons (tVar i) (tCons (tVar j) (tCons tl tNil))) ρ 0 (· = [scrD ns, adrD tn, .int k]) :=
    ea_consW (ew_pure (ev_var hi)) (ea_consW (ew_pure (ev_var hj)) (ea_consW (ew_pure hk) ea_nilW (R := (· = [.int k])) (by rintro d ds rfl rfl; rfl)) (R := (· = [adrD tn, .int k])) (by rintro d ds rfl rfl; rfl)) (by rintro d ds rfl rfl; rfl)
  have := ew_callT (m := 1) (P := pDraw) (Rt := rDraw) (E := E') (R := fun d => ∃ r : Int, d = .int r ∧ 0 ≤ r ∧ r < k) ha (fun ds e => ⟨[.int k], e, ⟨k, rfl, h0, h1⟩, fun d ⟨l, r, h2, h3, h4, h5⟩ => by
    have : k = l := by simpa using h2
    subst this
    exact ⟨r, h3, h4, h5⟩⟩)
  exact this
end
end Lc

set_option Elab.async false
set_option linter.all false
set_option maxRecDepth 100000
set_option maxHeartbeats 4000000
namespace Lc
open PySem L2 PySem.Spec PyProof.Rows
/-! ### errors by number -/
def errNames : List Str := ["InvalidFamily", "InvalidColours", "InvalidNumber", "InvalidLot", "InvalidTold", "InvalidRounding", "InvalidSet", "InvalidNames", "InvalidMixture", "InvalidSums", "InvalidBottom", "InvalidText", "LastOne", "TooMany", "NothingToUndo"]
structure ErrIs (K : PySem.W.Frag) (C : Addr) (k : Nat) : Prop where
  c : ExcC K C
  ex : PySem.W.exmOne K (.ref C) (.ref (He.ga K "ColourError")) = some true
  ve : PySem.W.kitOne K (.ref C) (.type "ValueError") = some true
  k15 : k < 15
  al : ∀ j, j < 15 → PySem.W.kitOne K (.ref C) (.ref (He.ga K (errNames.getD j ""))) = some (decide (j = k))
def Errs (K : PySem.W.Frag) : Prop := ∀ k, k < 15 → ErrIs K (He.ga K (errNames.getD k "")) k
/-! the head's look -/
def excB (K : PySem.W.Frag) (D : Addr) : Bool :=
  decide (PySem.W.findIn K (.ref D) "__getattribute__" = some (some (.builtin "BaseException.__getattribute__"))) && (decide (PySem.W.findIn K (.ref D) "__getattr__" = some none) && (decide (PySem.W.subIn K (.ref D) (.type "BaseException") = some true) && (PySem.W.hasDictIn K D && (decide (PySem.W.findIn K (.ref D) "__class__" = some (some (.builtin "object.__class__"))) && (decide (PySem.W.specialIn K (.builtin "object.__class__") "__get__" = some (some (.builtin "getset_descriptor.__get__"))) && (decide (PySem.W.takesIn K (.builtin "object.__class__") = some true) && decide (PySem.W.mroIn K D (.type "object") = some true)))))))
theorem excB_ok {K : PySem.W.Frag} {D : Addr} (h : excB K D = true) : ExcC K D := by
  unfold excB at h
  simp only [Bool.and_eq_true, decide_eq_true_eq] at h
  obtain ⟨h1, h2, h3, h4, h5, h6, h7, h8⟩ := h
  exact ⟨h1, h2, h3, h4, h5, h6, h7, h8⟩
def errB (K : PySem.W.Frag) (k : Nat) : Bool :=
  excB K (He.ga K (errNames.getD k "")) && (decide (PySem.W.exmOne K (.ref (He.ga K (errNames.getD k ""))) (.ref (He.ga K "ColourError")) = some true) && (decide (PySem.W.kitOne K (.ref (He.ga K (errNames.getD k ""))) (.type "ValueError") = some true) && (List.range 15).all fun j => decide (PySem.W.kitOne K (.ref (He.ga K (errNames.getD k ""))) (.ref (He.ga K (errNames.getD j ""))) = some (decide (j = k)))))
def errsB (K : PySem.W.Frag) : Bool := (List.range 15).all (errB K)
theorem errsB_ok {K : PySem.W.Frag} (h : errsB K = true) : Errs K := by
  intro k hk
  have h1 : errB K k = true := List.all_eq_true.mp h k (List.mem_range.mpr hk)
  unfold errB at h1
  simp only [Bool.and_eq_true, decide_eq_true_eq] at h1
  obtain ⟨h2, h3, h4, h5⟩ := h1
  exact ⟨excB_ok h2, h3, h4, hk, fun j hj => of_decide_eq_true (List.all_eq_true.mp h5 j (List.mem_range.mpr hj))⟩
section
variable {K : PySem.W.Frag} {ρ : Rho} {ta tb : TE} {E : XK} {d e : PyData}
theorem Dq.excI {F : Hp} {v : V} {D : Addr} (h : Dq K F v (excD D)) : ∃ a, v = .ref a ∧ F a = some (ExR D a) := by
  generalize e : excD D = d at h
  cases h with
  | exc h1 =>
    rename_i a D'
    have : D = D' := by
      have h1 : ((D : Nat) : Int) = ((D' : Nat) : Int) := by simpa [excD] using e
      exact Int.ofNat.inj h1
    subst this
    exact ⟨_, rfl, h1⟩
  | scr h1 => simp [scrD, excD] at e
  | dct h1 h2 => exact (dctD_ne e).elim
  | adr a => simp [adrD, excD] at e
  | ty n => simp [excD, tyD] at e
  | ftp h1 h2 h3 => simp [excD, ftD] at e
  | ptp h1 h2 => simp [excD, ptD] at e
  | _ => simp [excD] at e
def tIsX (K : PySem.W.Frag) (c : V) (ta : TE) : TE := tCB (rIsX K) (tCons ta (tCons (tC c) tNil))
theorem ev_isX {D : Addr} {c : V} {cv : Value} {b : Bool} (h : EvD K ta ρ (excD D)) (C : ExcC K D) (hc : ∀ u, RelV c u → u = cv) (hb : PySem.W.kitOne K (.ref D) cv = some b) : EvD K (tIsX K c ta) ρ (.bool b) := fun A σ H l hE Q q =>
  h A σ H l hE _ fun v H1 s1 hv => by
    obtain ⟨a, rfl, ha⟩ := hv.excI
    exact ⟨a, D, c, cv, b, rfl, same_cut _ _ ha, C, hc, hb, q _ H1 s1 (.bl _)⟩
theorem rel_ref {C : Addr} : ∀ u, RelV (.ref C) u → u = .ref C := fun u h => h
theorem rel_ty {n : String} : ∀ u, RelV (.ty n) u → u = .type n := fun u h => h
/-! ### index, count -/
def tIdxL (K : PySem.W.Frag) (to ta : TE) : TE := tBM K "list" (rIndexD K) to (tCons ta tNil)
def tCntL (K : PySem.W.Frag) (to ta : TE) : TE := tBM K "list" (rCountL K) to (tCons ta tNil)
theorem ev_cntL {ds : List PyData} {n m : Nat} (h : EvD K ta ρ (.list ds)) (k : EvD K tb ρ d) (h1 : Sh n (.list ds)) (h2 : Sh m d) (hn : n ≤ 64 := by decide) (hm : m ≤ 64 := by decide) : EvD K (tCntL K ta tb) ρ (.int (ds.countP (fun z => PyData.eqv z d) : Nat)) := fun A σ H l hE Q q =>
  h A σ H l hE _ fun v H1 s1 hv => by
    refine ⟨?_, k A σ H1 (l.same s1) (hE.same (cut_same s1)) _ fun w H2 s2 hw => ?_⟩
    · obtain ⟨a, xs, rfl, ha, _⟩ := hv.listI
      exact .inl ⟨rfl, xs, SqL.of (same_cut _ _ ha)⟩
    · exact ⟨w, d, ds, rfl, dq_dp _ h1.1 (dq_out (dp_same (cut_same s2) hv)), dq_dp _ h2.1 (dq_out hw), h1.shaped hn, h2.shaped hm, q _ H2 (s1.trans s2) (.int _)⟩
theorem ev_idxL {ds : List PyData} {z : PyData} {j n m : Nat} (h : EvD K ta ρ (.list ds)) (k : EvD K tb ρ d) (h1 : Sh n (.list ds)) (h2 : Sh m d) (hz : ds[j]? = some z) (hj : PyData.eqv z d = true) (hno : ∀ (i : Nat) (z' : PyData), i < j → ds[i]? = some z' → PyData.eqv z' d = false) (hn : n ≤ 64 := by decide) (hm : m ≤ 64 := by decide) : EvD K (tIdxL K ta tb) ρ (.int (j : Nat)) := fun A σ H l hE Q q =>
  h A σ H l hE _ fun v H1 s1 hv => by
    obtain ⟨a, xs, rfl, ha, _⟩ := id hv.listI
    refine ⟨.inl ⟨rfl, xs, SqL.of (same_cut _ _ ha)⟩, k A σ H1 (l.same s1) (hE.same (cut_same s1)) _ fun w H2 s2 hw => ?_⟩
    exact ⟨a, w, d, ds, j, z, rfl, rfl, dq_dp _ h1.1 (dq_out (dp_same (cut_same s2) hv)), dq_dp _ h2.1 (dq_out hw), h1.shaped hn, h2.shaped hm, hz, hj, hno, q _ H2 (s1.trans s2) (.int _)⟩
/-! ### try: r = f(..) except .. as n: m = n -/
def tTryK (K : PySem.W.Frag) (c : Value) (i j r : Nat) (sp : Sp) (tr : TA) : TS := fun D σ H => (tAsg (tCallS sp (WE (wKeep K c i j (fun _ _ _ _ => False) D)) tr) (gName r)) D σ H
theorem xs_tryR {c : Value} {i j r : Nat} {tr : TA} {Rp : List PyData → Out → Prop} {ds : List PyData} (ha : EvA K tr ρ ds) (hp : Rp ds (.rt d)) : ExS K E (tTryK K c i j r (spD K Rp) tr) ρ (.nx (ρ.set r (some d))) := fun A σ H D l hE k =>
  ha A σ H l hE _ fun vs H1 s1 hv => ⟨A, ds, .rt d, l.same s1, hv, hp, fun v H2 s2 h2 => k _ H2 (s1.trans s2) ((hE.same (cut_same (s1.trans s2))).set h2 r)⟩
theorem xs_tryX {C : Addr} {c : Value} {i j r : Nat} {tr : TA} {Rp : List PyData → Out → Prop} {ds : List PyData} (ha : EvA K tr ρ ds) (hp : Rp ds (.ex C)) (hx : PySem.W.exmOne K (.ref C) c = some true) : ExS K E (tTryK K c i j r (spD K Rp) tr) ρ (.nx ((ρ.set j (some (excD C))).set i none)) := fun A σ H D l hE k =>
  ha A σ H l hE _ fun vs H1 s1 hv => ⟨A, ds, .ex C, l.same s1, hv, hp, fun H2 s2 => ⟨true, hx, fun _ => ⟨rfl, C, rfl, fun a ha => by
    have s3 := (s1.trans s2).trans (same_new (o := ExR C a) ha)
    exact k _ _ s3 (((hE.same (cut_same s3)).set (.exc (cut_new (l.same (s1.trans s2)) ha)) j).forget none i)⟩, fun z => nomatch z⟩⟩
end
/-- f(..) in a body that is tried -/
theorem pe_callFS {X : Cx} {k : Nat} {x : Str} {ps : List Str} {sp : Sp} {W : WX} {p pos : Pos} {e : Expr} {es : List Expr} {t : TA} (F : FnAt X.prog X.w X.K X.mg X.base k x ps sp) (hr : Room k X.A) (hg : Gl X x) (tk : Takes X W)
    (ha : PA X (e :: es) t) (hdb : (x == ("__debug__" : Str)) = false := by decide) (he : starEach (e :: es) X.env = (false, eval e X.env) :: starEach es X.env := by rfl) (hpl : (backTo pos (starEach es X.env)).any (·.1) = false := by rfl) :
    PE X (.Call (.Name x p) (e :: es) [] pos) (tCallS sp (WE W) t) := by
  obtain ⟨f, fd, F1, g, kp, b⟩ := F
  exact pe_callS F1 hr hg g kp b (fun σ => passAt tk σ) ha hdb he hpl
/-! ### the promises of _law_name, _law_raises, _law_outcome -/
def R_law_name (K : PySem.W.Frag) : List PyData → Out → Prop := fun ds o => ∃ C k, ErrIs K C k ∧ ds = [excD C] ∧ o = .rt (.int (k : Int))
def sp_law_name (K : PySem.W.Frag) : Sp := spD K (R_law_name K)
def errWords : List Str := ["family", "colours", "number", "lot", "told", "rounding", "set", "names", "mixture", "sums", "bottom", "text", "last_one", "many", "undo"]
def raisedD (k : Nat) : PyData := .tuple [.str "raised", .int (k : Int)]
def retD (d : PyData) : PyData := .tuple [.str "returned", d]
def R_law_raises : List PyData → Out → Prop := fun ds o => ∃ k, k < 15 ∧ ds = [.str (errWords.getD k "")] ∧ o = .rt (raisedD k)
def sp_law_raises (K : PySem.W.Frag) : Sp := spD K R_law_raises
def R_outcome (K : PySem.W.Frag) (Rc : List PyData → Out → Prop) : List PyData → Out → Prop := fun ds o => ds.length = 2 ∧ ((∃ d, Rc ds (.rt d) ∧ o = .rt (retD d)) ∨ ∃ C k, Rc ds (.ex C) ∧ ErrIs K C k ∧ o = .rt (raisedD k))
end Lc

set_option Elab.async false
set_option linter.all false
set_option maxRecDepth 100000
set_option maxHeartbeats 4000000
namespace Lc
open PySem L2 PySem.Spec PyProof.Rows
def t_law_name (K : PySem.W.Frag) (E : XK) : TS := (tSeq (tIfS (tNot (tB (tIsX K (.ty "ValueError") (tVar 0)))) (tRet (tUn (rU fun i => .int (-i)) (tC (.int 1)))) tNext)
  (tSeq (tAsg (tLst (tCons (tIsX K (.ref (He.ga K "InvalidFamily")) (tVar 0)) (tCons (tIsX K (.ref (He.ga K "InvalidColours")) (tVar 0)) tNil))) (gName 1))
  (tSeq (tAsg (tOp (rAddU K) (tVar 1) (tLst (tCons (tIsX K (.ref (He.ga K "InvalidNumber")) (tVar 0)) (tCons (tIsX K (.ref (He.ga K "InvalidLot")) (tVar 0)) tNil)))) (gName 1))
  (tSeq (tAsg (tOp (rAddU K) (tVar 1) (tLst (tCons (tIsX K (.ref (He.ga K "InvalidTold")) (tVar 0)) (tCons (tIsX K (.ref (He.ga K "InvalidRounding")) (tVar 0)) tNil)))) (gName 1))
  (tSeq (tAsg (tOp (rAddU K) (tVar 1) (tLst (tCons (tIsX K (.ref (He.ga K "InvalidSet")) (tVar 0)) (tCons (tIsX K (.ref (He.ga K "InvalidNames")) (tVar 0)) tNil)))) (gName 1))
  (tSeq (tAsg (tOp (rAddU K) (tVar 1) (tLst (tCons (tIsX K (.ref (He.ga K "InvalidMixture")) (tVar 0)) (tCons (tIsX K (.ref (He.ga K "InvalidSums")) (tVar 0)) tNil)))) (gName 1))
  (tSeq (tAsg (tOp (rAddU K) (tVar 1) (tLst (tCons (tIsX K (.ref (He.ga K "InvalidBottom")) (tVar 0)) (tCons (tIsX K (.ref (He.ga K "InvalidText")) (tVar 0)) tNil)))) (gName 1))
  (tSeq (tAsg (tOp (rAddU K) (tVar 1) (tLst (tCons (tIsX K (.ref (He.ga K "LastOne")) (tVar 0)) (tCons (tIsX K (.ref (He.ga K "TooMany")) (tVar 0)) tNil)))) (gName 1))
  (tSeq (tAsg (tOp (rAddU K) (tVar 1) (tLst (tCons (tIsX K (.ref (He.ga K "NothingToUndo")) (tVar 0)) tNil))) (gName 1))
  (tRet (tIf (tTest (tOp (rEqD K) (tCntL K (tVar 1) (tC (.bl true))) (tC (.int 1)))) (tIdxL K (tVar 1) (tC (.bl true))) (tUn (rU fun i => .int (-i)) (tC (.int 1))))))))))))))
def t_law_raises (K : PySem.W.Frag) (E : XK) : TS := (tSeq (tAsg (tLst (tCons (tC (.str "family")) (tCons (tC (.str "colours")) (tCons (tC (.str "number")) (tCons (tC (.str "lot")) (tCons (tC (.str "told")) (tCons (tC (.str "rounding")) (tCons (tC (.str "set")) (tCons (tC (.str "names")) tNil))))))))) (gName 1))
  (tSeq (tAsg (tOp (rAddU K) (tVar 1) (tLst (tCons (tC (.str "mixture")) (tCons (tC (.str "sums")) (tCons (tC (.str "bottom")) (tCons (tC (.str "text")) (tCons (tC (.str "last_one")) (tCons (tC (.str "many")) (tCons (tC (.str "undo")) tNil))))))))) (gName 1))
  (tRet (tTup (tCons (tC (.str "raised")) (tCons (tIdxL K (tVar 1) (tVar 0)) tNil))))))
def t_outcome (K : PySem.W.Frag) (spc : Sp) : TS := (tSeq (tAsg (tC .non) (gName 2))
  (tSeq (tAsg (tC .non) (gName 3))
  (tSeq (tTryK K (.ref (He.ga K "ColourError")) 4 2 3 spc (tCons (tVar 0) (tCons (tVar 1) tNil)))
  (tSeq (tIfS (tTest (tOp rIsU (tVar 2) (tC .non))) (tRet (tTup (tCons (tC (.str "returned")) (tCons (tVar 3) tNil)))) tNext)
  (tRet (tTup (tCons (tC (.str "raised")) (tCons (tCall (sp_law_name K) [] E0 (tCons (tVar 2) tNil)) tNil))))))))
section
variable {K : PySem.W.Frag} {E : XK}
theorem eqv_str (a b : Str) : PyData.eqv (.str a) (.str b) = decide (a = b) := by simp only [PyData.eqv]; rw [Bool.beq_eq_decide_eq]
theorem cnt_one (k : Nat) (hk : k < 15) : (((List.range 15).map fun j => PyData.bool (decide (j = k))).countP fun z => PyData.eqv z (.bool true)) = 1 := by
  have : ∀ k, k < 15 → (((List.range 15).map fun j => PyData.bool (decide (j = k))).countP fun z => PyData.eqv z (.bool true)) = 1 := by
    intro k hk
    rw [List.countP_map]
    have e : ((fun z => PyData.eqv z (.bool true)) ∘ fun j => PyData.bool (decide (j = k))) = fun j => decide (j = k) := by
      funext j
      show PyData.eqv (.bool (decide (j = k))) (.bool true) = _
      rw [eqv_bool]
      cases decide (j = k) <;> rfl
    rw [e]
    clear e
    revert k
    decide +kernel
  exact this k hk
theorem x_law_name {C : Addr} {k : Nat} (h : ErrIs K C k) : ExS K E (t_law_name K E) [some (excD C), none] (.rt (.int (k : Int))) := by
  have hv : ∀ (fo : Option PyData) (j : Nat), j < 15 → EvD K (tIsX K (.ref (He.ga K (errNames.getD j ""))) (tVar 0)) [some (excD C), fo] (.bool (decide (j = k))) := fun fo j hj => ev_isX (ev_var rfl) h.c rel_ref (h.al j hj)
  have two : ∀ (l : List PyData) (i j : Nat), l.length ≤ 100 → i < 15 → j < 15 → EvD K (tOp (rAddU K) (tVar 1) (tLst (tCons (tIsX K (.ref (He.ga K (errNames.getD i ""))) (tVar 0)) (tCons (tIsX K (.ref (He.ga K (errNames.getD j ""))) (tVar 0)) tNil)))) [some (excD C), some (.list l)] (.list (l ++ [.bool (decide (i = k)), .bool (decide (j = k))])) := fun l i j hl hi hj => ev_op (ev_var rfl) (ev_lst (ea_cons (hv _ i hi) (ea_cons (hv _ j hj) ea_nil)) (by simp)) (od_addL (by simp; omega))
  refine xs_seq (xs_if (b := false) (et_not (et_B (ev_isX (ev_var rfl) h.c rel_ty h.ve))) (fun z => by cases z) (fun _ => xs_next)) ?_
  refine xs_seq (xs_asg (ev_lst (ea_cons (hv _ 0 (by decide)) (ea_cons (hv _ 1 (by decide)) ea_nil)) (by simp))) ?_
  refine xs_seq (xs_asg (two [.bool (decide (0 = k)), .bool (decide (1 = k))] 2 3 (by simp) (by decide) (by decide))) ?_
  refine xs_seq (xs_asg (two _ 4 5 (by simp) (by decide) (by decide))) ?_
  refine xs_seq (xs_asg (two _ 6 7 (by simp) (by decide) (by decide))) ?_
  refine xs_seq (xs_asg (two _ 8 9 (by simp) (by decide) (by decide))) ?_
  refine xs_seq (xs_asg (two _ 10 11 (by simp) (by decide) (by decide))) ?_
  refine xs_seq (xs_asg (two _ 12 13 (by simp) (by decide) (by decide))) ?_
  refine xs_seq (xs_asg (ev_op (ev_var rfl) (ev_lst (ea_cons (hv _ 14 (by decide)) ea_nil) (by simp)) (od_addL (by simp)))) ?_
  show ExS K E _ [some (excD C), some (.list ((List.range 15).map fun j => PyData.bool (decide (j = k))))] _
  have hsh : Sh 1 (.list ((List.range 15).map fun j => PyData.bool (decide (j = k)))) := sh_lst fun d hd => by
    obtain ⟨j, _, rfl⟩ := List.mem_map.mp hd
    exact sh_bool
  refine xs_ret (ev_if (b := true) (et_to (et_test (ev_op (ev_cntL (ev_var rfl) ev_bl hsh (sh_bool (n := 1))) ev_int (od_eq (sh_int (n := 1)) (sh_int (n := 1))))) ?_) (fun _ => ev_idxL (z := .bool true) (ev_var rfl) ev_bl hsh (sh_bool (n := 1)) ?_ (by decide +kernel) (fun i z' hi hz => ?_)) (fun z => by cases z))
  · rw [cnt_one k h.k15]; decide +kernel
  · rw [List.getElem?_map, List.getElem?_range h.k15]
    simp
  · have h15 := h.k15
    rw [List.getElem?_map, List.getElem?_range (by omega)] at hz
    have : z' = PyData.bool (decide (i = k)) := (Option.some.inj hz).symm
    rw [this, eqv_bool, decide_eq_false (by omega : ¬ i = k)]
    rfl
theorem pure_law_name {vs : List V} {H : Hp} {Q : VK} (hs : sp_law_name K vs H Q E) : t_law_name K E { nx := fun _ H' => Q .non H', rt := Q } (L2.start ["caught", "found"] vs) H :=
  sp_body (fun ds o h => by
    obtain ⟨C, k, hk, rfl, rfl⟩ := h
    exact .inl (x_law_name hk)) hs
theorem sh_strs : ∀ d ∈ errWords.map PyData.str, Sh 0 d := by
  have h : ∀ x ∈ errWords, PyData.strOk x = true := by decide +kernel
  intro d hd
  obtain ⟨x, hx, rfl⟩ := List.mem_map.mp hd
  exact ⟨by simp only [PyData.canLay0]; exact h x hx, by simp [PyData.depth]⟩
theorem words_nodup : ∀ i, i < 15 → ∀ j, j < 15 → i ≠ j → errWords.getD i "" ≠ errWords.getD j "" := by decide +kernel
theorem x_law_raises {k : Nat} (hk : k < 15) : ExS K E (t_law_raises K E) [some (.str (errWords.getD k "")), none] (.rt (raisedD k)) := by
  refine xs_seq (xs_asg (ev_lst (ea_cons ev_str (ea_cons ev_str (ea_cons ev_str (ea_cons ev_str (ea_cons ev_str (ea_cons ev_str (ea_cons ev_str (ea_cons ev_str ea_nil)))))))) (by simp))) ?_
  refine xs_seq (xs_asg (ev_op (ev_var rfl) (ev_lst (ea_cons ev_str (ea_cons ev_str (ea_cons ev_str (ea_cons ev_str (ea_cons ev_str (ea_cons ev_str (ea_cons ev_str ea_nil))))))) (by simp)) (od_addL (by simp)))) ?_
  show ExS K E _ [some (.str (errWords.getD k "")), some (.list (errWords.map .str))] _
  have hg : ∀ i, i < 15 → (errWords.map PyData.str)[i]? = some (.str (errWords.getD i "")) := fun i hi => by
    rw [List.getElem?_map, List.getD_eq_getElem?_getD, List.getElem?_eq_getElem (by simpa [errWords] using hi)]
    rfl
  have hm : PyData.str (errWords.getD k "") ∈ errWords.map PyData.str := List.mem_of_getElem? (hg k hk)
  refine xs_ret (ev_tup (ea_cons ev_str (ea_cons (ev_idxL (z := .str (errWords.getD k "")) (n := 1) (m := 0) (ev_var rfl) (ev_var rfl) (sh_lst sh_strs) (sh_strs _ hm) (hg k hk) ?_ (fun i z' hi hz => ?_)) ea_nil)) (by simp))
  · rw [eqv_str, decide_eq_true rfl]
  · rw [hg i (by omega)] at hz
    have : z' = .str (errWords.getD i "") := (Option.some.inj hz).symm
    rw [this, eqv_str, decide_eq_false (words_nodup i (by omega) k hk (by omega))]
theorem pure_law_raises {vs : List V} {H : Hp} {Q : VK} (hs : sp_law_raises K vs H Q E) : t_law_raises K E { nx := fun _ H' => Q .non H', rt := Q } (L2.start ["name", "some"] vs) H :=
  sp_body (fun ds o h => by
    obtain ⟨k, hk, rfl, rfl⟩ := h
    exact .inl (x_law_raises hk)) hs
theorem x_outcomeR {Rc : List PyData → Out → Prop} {a b d : PyData} (h : Rc [a, b] (.rt d)) : ExS K E (t_outcome K (spD K Rc)) [some a, some b, none, none, none] (.rt (retD d)) := by
  refine xs_seq (xs_asg ev_non) (xs_seq (xs_asg ev_non) (xs_seq (xs_tryR (ds := [a, b]) (ea_cons (ev_var rfl) (ea_cons (ev_var rfl) ea_nil)) h) ?_))
  refine xs_seqR (xs_if (b := true) (et_to (et_test (ev_op (ev_var (d := .none) rfl) ev_non od_isN)) rfl) (fun _ => xs_ret (ev_tup (ea_cons ev_str (ea_cons (ev_var rfl) ea_nil)) (by simp))) (fun z => by cases z))
theorem x_outcomeX {Rc : List PyData → Out → Prop} {a b : PyData} {C : Addr} {k : Nat} (h : Rc [a, b] (.ex C)) (hE : ErrIs K C k) : ExS K E (t_outcome K (spD K Rc)) [some a, some b, none, none, none] (.rt (raisedD k)) := by
  refine xs_seq (xs_asg ev_non) (xs_seq (xs_asg ev_non) (xs_seq (xs_tryX (ds := [a, b]) (ea_cons (ev_var rfl) (ea_cons (ev_var rfl) ea_nil)) h hE.ex) ?_))
  refine xs_seq (xs_if (b := false) (et_to (et_test (ev_op (ev_var (d := excD C) rfl) ev_non od_isN)) rfl) (fun z => by cases z) (fun _ => xs_next)) ?_
  exact xs_ret (ev_tup (ea_cons ev_str (ea_cons (ev_call (ea_cons (ev_var rfl) ea_nil) ⟨C, k, hE, rfl, rfl⟩) ea_nil)) (by simp))
theorem pure_outcome {Rc : List PyData → Out → Prop} {vs : List V} {H : Hp} {Q : VK} (hs : spD K (R_outcome K Rc) vs H Q E) : t_outcome K (spD K Rc) { nx := fun _ H' => Q .non H', rt := Q } (L2.start ["how", "arguments", "caught", "result", "error"] vs) H :=
  sp_body (fun ds o h => by
    obtain ⟨hl, h⟩ := h
    match ds, hl with
    | [a, b], _ =>
      rcases h with ⟨d, hd, rfl⟩ | ⟨C, k, hd, hE, rfl⟩
      · exact .inl (x_outcomeR hd)
      · exact .inl (x_outcomeX hd hE)) hs
end
end Lc

set_option Elab.async false
set_option linter.all false
set_option maxRecDepth 100000
set_option maxHeartbeats 4000000
namespace Lc
open PySem L2 PySem.Spec PyProof.Rows
/-! ### the law's own defs: promises -/
def sp_law_town (K : PySem.W.Frag) : Sp := spTown K
def sp_law_draw (K : PySem.W.Frag) : Sp := spDraw K
def P_law_family : List PyData → Prop := fun ds => ∃ most : Int, ds = [.int most] ∧ 1 ≤ most ∧ most ≤ 7
def R_law_family : List PyData → PyData → Prop := fun ds d => ∃ most n ss, ds = [.int most] ∧ FamOk n ss ∧ n ≤ most ∧ d = famD n ss
def sp_law_family (K : PySem.W.Frag) : Sp := spT K 100 P_law_family R_law_family
def R_law_all : List PyData → Out → Prop := fun ds o => ∃ (k : Nat) (a b : Int), k ≤ 7 ∧ ds = [.int (k : Int), tI [a, b]] ∧ o = .rt (lD (rowsM [a, b] k))
def sp_law_all (K : PySem.W.Frag) : Sp := spD K R_law_all
def sp_law_sums (K : PySem.W.Frag) : Sp := spD K R_found_sums
def sp_law_uneven (K : PySem.W.Frag) : Sp := spD K R_found_uneven
def P_law_hues : List PyData → Prop := fun ds => ∃ n : Int, ds = [.int n] ∧ 0 ≤ n ∧ n ≤ 7
def R_law_hues : List PyData → PyData → Prop := fun ds d => ∃ n c, ds = [.int n] ∧ ColOk n c ∧ d = tI c
def sp_law_hues (K : PySem.W.Frag) : Sp := spT K 7 P_law_hues R_law_hues
def t_law_family (K : PySem.W.Frag) (E : XK) : TS := (tSeq (tPar 3 4 (tCons (tOp (rAddU K) (tC (.int 1)) (tCall (sp_law_draw K) [] E0 (tCons (tVar 0) (tCons (tVar 1) (tCons (tVar 2) tNil))))) (tCons (tLst tNil) tNil)))
  (tSeq (tAsg (tTup (tCons (tOp (rAddU K) (tC (.int 1)) (tCall (sp_law_draw K) [] E0 (tCons (tVar 0) (tCons (tVar 1) (tCons (tC (.int 3)) tNil))))) (tCons (tAndV (tOp rGtI (tVar 3) (tC (.int 2))) (tOp (rEqD K) (tCall (sp_law_draw K) [] E0 (tCons (tVar 0) (tCons (tVar 1) (tCons (tC (.int 2)) tNil)))) (tC (.int 0)))) tNil))) (gTup K 2 (gCons (gName 5) (gCons (gName 6) gNil))))
  (tSeq (tFor (iRng1 (tCons (tOp (rAddU K) (tC (.int 1)) (tCall (sp_law_draw K) [] E0 (tCons (tVar 0) (tCons (tVar 1) (tCons (tC (.int 8)) tNil))))) tNil)) (gName 7) (tSeq (tIfS (tB (tVar 6)) (tSeq (tAsg (tCall (sp_law_draw K) [] E0 (tCons (tVar 0) (tCons (tVar 1) (tCons (tVar 3) tNil)))) (gName 8))
  (tAsg (tCB (rSortD K) (tCons (tLst (tCons (tVar 8) (tCons (tOp rModU (tOp (rAddU K) (tOp (rAddU K) (tVar 8) (tC (.int 1))) (tCall (sp_law_draw K) [] E0 (tCons (tVar 0) (tCons (tVar 1) (tCons (tC (.int 2)) tNil))))) (tVar 3)) tNil))) tNil)) (gName 9))) (tAsg (tLc (iRng1 (tCons (tVar 3) tNil)) (gName 8) (tTest (tOp (rLtU K) (tCall (sp_law_draw K) [] E0 (tCons (tVar 0) (tCons (tVar 1) (tCons (tC (.int 4)) tNil)))) (tVar 5))) (tVar 8) [8]) (gName 9)))
  (tSeq (tAsg (tCB (rTupleOf K) (tCons (tIf (tTest (tOp (rNeD K) (tVar 9) (tLst tNil))) (tVar 9) (tLst (tCons (tCall (sp_law_draw K) [] E0 (tCons (tVar 0) (tCons (tVar 1) (tCons (tVar 3) tNil)))) tNil))) tNil)) (gName 9))
  (tAsg (tOp (rAddU K) (tVar 4) (tIf (tTest (tOp (rNotInU K) (tVar 9) (tVar 4))) (tLst (tCons (tVar 9) tNil)) (tLst tNil))) (gName 4)))))
  (tRet (tTup (tCons (tVar 3) (tCons (tCB (rTupleOf K) (tCons (tCB (rSortD K) (tCons (tVar 4) tNil)) tNil)) tNil)))))))
def t_law_all (K : PySem.W.Frag) (E : XK) : TS := (tSeq (tAsg (tLst (tCons (tTup tNil) tNil)) (gName 2))
  (tSeq (tFor (iRng1 (tCons (tVar 0) tNil)) (gName 3) (tSeq (tAsg (tLst tNil) (gName 4))
  (tSeq (tFor (iSeq K (tVar 2)) (gName 5) (tAsg (tOp (rAddU K) (tVar 4) (tLc (iSeq K (tVar 1)) (gName 6) tYes (tOp (rAddU K) (tVar 5) (tTup (tCons (tVar 6) tNil))) [6])) (gName 4)))
  (tAsg (tVar 4) (gName 2)))))
  (tRet (tVar 2))))
def t_law_sums (K : PySem.W.Frag) (E : XK) : TS := (tRet (tCB (rTupleOf K) (tCons (tLc (iSeq K (tOp (rIx K) (tVar 0) (tC (.int 1)))) (gName 3) tYes (tCB (rSum K) (tCons (tLc (iSeq K (tVar 3)) (gName 2) tYes (tOp (rIx K) (tVar 1) (tVar 2)) [2]) tNil)) [3]) tNil)))
def t_law_uneven (K : PySem.W.Frag) (E : XK) : TS := (tRet (tCB (rMaxU K) (tCons (tLc (iSeq K (tCall (sp_law_sums K) [] E0 (tCons (tVar 0) (tCons (tVar 1) tNil)))) (gName 2) tYes (tCB rAbsI (tCons (tVar 2) tNil)) [2]) tNil)))
def t_law_hues (K : PySem.W.Frag) (E : XK) : TS := (tRet (tCB (rTupleOf K) (tCons (tLc (iRng1 (tCons (tVar 2) tNil)) (gName 3) tYes (tOp rSubU (tOp (rMulU K) (tC (.int 2)) (tCall (sp_law_draw K) [] E0 (tCons (tVar 0) (tCons (tVar 1) (tCons (tC (.int 2)) tNil))))) (tC (.int 1))) [3]) tNil)))
end Lc

set_option Elab.async false
set_option linter.all false
set_option maxRecDepth 100000
set_option maxHeartbeats 4000000
namespace Lc
open PySem L2 PySem.Spec PyProof.Rows
section
variable {K : PySem.W.Frag} {E : XK}
theorem pure_law_sums {vs : List V} {H : Hp} {Q : VK} (hs : sp_law_sums K vs H Q E) : t_law_sums K E { nx := fun _ H' => Q .non H', rt := Q } (L2.start ["family", "hues", "k", "one"] vs) H :=
  sp_body (R := R_found_sums) (fun ds o h => by
    obtain ⟨n, ss, c, hc, rfl, rfl⟩ := h
    exact .inl (x_found_sums hc)) hs
theorem pure_law_uneven {vs : List V} {H : Hp} {Q : VK} (hs : sp_law_uneven K vs H Q E) : t_law_uneven K E { nx := fun _ H' => Q .non H', rt := Q } (L2.start ["family", "hues", "one"] vs) H :=
  sp_body (R := R_found_uneven) (fun ds o h => by
    obtain ⟨n, ss, c, hc, hne, rfl, rfl⟩ := h
    exact .inl (x_found_uneven hc hne)) hs
/-! ### _law_all -/
theorem x_law_all {k : Nat} {a b : Int} (hk : k ≤ 7) : ExS K E (t_law_all K E) [some (.int (k : Int)), some (tI [a, b]), none, none, none, none, none] (.rt (lD (rowsM [a, b] k))) := by
  refine xs_seq (xs_asg (d := lD (rowsM [a, b] 0)) (ev_lst (ea_cons (ev_tup ea_nil (by simp)) ea_nil) (by show 1 ≤ 100000; decide))) ?_
  show ExS K E _ [some (.int (k : Int)), some (tI [a, b]), some (lD (rowsM [a, b] 0)), none, none, none, none] _
  have hit := it_rng1 (K := K) (ρ := [some (.int (k : Int)), some (tI [a, b]), some (lD (rowsM [a, b] 0)), none, none, none, none]) (te := tVar 0) (ev_var rfl) (by omega : -(2 ^ 62) ≤ (k : Int) ∧ (k : Int) < 2 ^ 62)
  rw [Int.toNat_natCast] at hit
  -- the state between two turns; what the inner names hold is not told
  let r : Nat → Rho := fun i => [some (.int (k : Int)), some (tI [a, b]), some (lD (rowsM [a, b] i)), none, none, none, none]
  have weak : ∀ {o1 o2 o3 o4 : Option PyData} {i : Nat} {ts : TS} {o : Out}, ExS K E ts (r i) o → ExS K E ts [some (.int (k : Int)), some (tI [a, b]), some (lD (rowsM [a, b] i)), o1, o2, o3, o4] o := fun {o1 o2 o3 o4 i ts o} h A σ H D l hE c => by
    refine h A σ H D l ?_ c
    have h3 := ((((hE.keep 3).keep 4).keep 5).keep 6)
    exact h3
  have turn : ∀ i, i < k → ∃ o1 o2 o3 o4, ExS K E (tSeq (tAsg (tLst tNil) (gName 4)) (tSeq (tFor (iSeq K (tVar 2)) (gName 5) (tAsg (tOp (rAddU K) (tVar 4) (tLc (iSeq K (tVar 1)) (gName 6) tYes (tOp (rAddU K) (tVar 5) (tTup (tCons (tVar 6) tNil))) [6])) (gName 4))) (tAsg (tVar 4) (gName 2))))
      [some (.int (k : Int)), some (tI [a, b]), some (lD (rowsM [a, b] i)), some (.int (0 + (i : Int))), none, none, none] (.nx [some (.int (k : Int)), some (tI [a, b]), some (lD (rowsM [a, b] (i + 1))), o1, o2, o3, o4]) := by
    intro i hi
    have hsz : (rowsM [a, b] i).length ≤ 128 := by
      rw [rowsM_size]
      exact Nat.le_trans (Nat.pow_le_pow_right (by simp) (show i ≤ 7 by omega)) (by show 2 ^ 7 ≤ 128; decide)
    let part : Nat → List (List Int) := fun j => ((rowsM [a, b] i).take j).flatMap fun r => [a, b].map fun x => r ++ [x]
    have hpl : ∀ j, (part j).length ≤ 256 := fun j => by
      have aux : ∀ l : List (List Int), (l.flatMap fun r => [a, b].map fun x => r ++ [x]).length = 2 * l.length := by
        intro l
        induction l with
        | nil => rfl
        | cons z l ih => rw [List.flatMap_cons, List.length_append, ih, List.length_map, List.length_cons]; simp; omega
      have : (part j).length = 2 * ((rowsM [a, b] i).take j).length := aux _
      rw [this, List.length_take]; omega
    have hfor := xs_for (K := K) (E := E) (ρ := [some (.int (k : Int)), some (tI [a, b]), some (lD (rowsM [a, b] i)), some (.int (0 + (i : Int))), some (lD []), none, none]) (g := gName 5) (ts := (tAsg (tOp (rAddU K) (tVar 4) (tLc (iSeq K (tVar 1)) (gName 6) tYes (tOp (rAddU K) (tVar 5) (tTup (tCons (tVar 6) tNil))) [6])) (gName 4))) (rowsM [a, b] i) tI
      (fun j => [some (.int (k : Int)), some (tI [a, b]), some (lD (rowsM [a, b] i)), some (.int (0 + (i : Int))), some (lD (part j)), if j = 0 then none else some (tI ((rowsM [a, b] i).getD (j - 1) [])), none])
      (fun j => [some (.int (k : Int)), some (tI [a, b]), some (lD (rowsM [a, b] i)), some (.int (0 + (i : Int))), some (lD (part j)), some (tI ((rowsM [a, b] i).getD j [])), none]) (ws := [5]) (wi := iSeq K (tVar 2)) (it_seqL (ev_var rfl)) (by simp [part])
      (fun j hj => by
        have : (rowsM [a, b] i)[j] = (rowsM [a, b] i).getD j [] := by simp [hj]
        rw [this]
        exact tg_name) (fun j hj => by
        have hlen : ((rowsM [a, b] i).getD j []).length = i := rowsM_len [a, b] i _ (by simp [hj])
        have h1 : EvD K (tLc (iSeq K (tVar 1)) (gName 6) tYes (tOp (rAddU K) (tVar 5) (tTup (tCons (tVar 6) tNil))) [6]) [some (.int (k : Int)), some (tI [a, b]), some (lD (rowsM [a, b] i)), some (.int (0 + (i : Int))), some (lD (part j)), some (tI ((rowsM [a, b] i).getD j [])), none] (.list ([a, b].map fun x => tI ((rowsM [a, b] i).getD j [] ++ [x]))) :=
          ev_lcN [a, b] .int (fun x => tI ((rowsM [a, b] i).getD j [] ++ [x])) (it_seqT (ev_var rfl)) (by simp) (by simp) (fun x _ => by
            have e2 : tI ((rowsM [a, b] i).getD j [] ++ [x]) = .tuple (((rowsM [a, b] i).getD j []).map .int ++ [.int x]) := by unfold tI; rw [List.map_append]; rfl
            rw [e2]
            exact ev_op (ev_var rfl) (ev_tup (ea_cons (ev_var rfl) ea_nil) (by simp)) (od_addT (by rw [List.length_map, hlen]; simp; omega)))
        have h2 := xs_asg (i := 4) (E := E) (ev_op (ev_var (i := 4) rfl) h1 (od_addL (by have := hpl j; simp; omega)))
        have e3 : part (j + 1) = part j ++ [a, b].map fun x => (rowsM [a, b] i).getD j [] ++ [x] := by
          show ((rowsM [a, b] i).take (j + 1)).flatMap _ = _
          rw [List.take_add_one, List.flatMap_append]
          have : (rowsM [a, b] i)[j]? = some ((rowsM [a, b] i).getD j []) := by simp [hj]
          rw [this]
          simp [part]
        have e4 : lD (part (j + 1)) = .list ((part j).map tI ++ [a, b].map fun x => tI ((rowsM [a, b] i).getD j [] ++ [x])) := by
          unfold lD
          rw [e3, List.map_append, List.map_map]; rfl
        rw [e4]
        exact h2)
    have hall : part (rowsM [a, b] i).length = rowsM [a, b] (i + 1) := by show List.flatMap _ _ = _; rw [List.take_length]; rfl
    rw [hall] at hfor
    exact ⟨_, _, _, _, xs_seq (xs_asg (d := lD []) (ev_lst ea_nil (by simp))) (xs_seq hfor (xs_asg (ev_var rfl)))⟩
  have hfor := xs_for (K := K) (E := E) (ρ := [some (.int (k : Int)), some (tI [a, b]), some (lD (rowsM [a, b] 0)), none, none, none, none]) (g := gName 3) (ts := (tSeq (tAsg (tLst tNil) (gName 4)) (tSeq (tFor (iSeq K (tVar 2)) (gName 5) (tAsg (tOp (rAddU K) (tVar 4) (tLc (iSeq K (tVar 1)) (gName 6) tYes (tOp (rAddU K) (tVar 5) (tTup (tCons (tVar 6) tNil))) [6])) (gName 4))) (tAsg (tVar 4) (gName 2))))) (List.range k) (fun i => .int (0 + (i : Int)))
    r (fun i => [some (.int (k : Int)), some (tI [a, b]), some (lD (rowsM [a, b] i)), some (.int (0 + (i : Int))), none, none, none]) (ws := [3]) hit rfl
    (fun i hi => by
      rw [List.length_range] at hi
      rw [List.getElem_range]
      exact tg_name) (fun i hi => by
      rw [List.length_range] at hi
      obtain ⟨o1, o2, o3, o4, h⟩ := turn i hi
      exact fun A σ H D l hE c => h A σ H D l hE fun σ' H' s hE' => c σ' H' s ((((hE'.keep 3).keep 4).keep 5).keep 6))
  rw [List.length_range] at hfor
  exact xs_seq hfor (xs_ret (ev_var rfl))
theorem pure_law_all {vs : List V} {H : Hp} {Q : VK} (hs : sp_law_all K vs H Q E) : t_law_all K E { nx := fun _ H' => Q .non H', rt := Q } (L2.start ["things", "choices", "rows", "turn", "longer", "row", "one"] vs) H :=
  sp_body (R := R_law_all) (fun ds o h => by
    obtain ⟨k, a, b, hk, rfl, rfl⟩ := h
    exact .inl (x_law_all hk)) hs
/-! ### _law_hues -/
theorem lcr_len {α : Type} {R : α → Option PyData → Prop} (h : ∀ x, ¬ R x none) : ∀ {xs : List α} {ds : List PyData}, LcR R xs ds → ds.length = xs.length
  | [], ds, e => by cases e; rfl
  | x :: xs, ds, .inl ⟨e, ds', h1, h2, h3⟩ => by subst h2; simp [lcr_len h h3]
  | x :: xs, ds, .inr ⟨h1, _⟩ => absurd h1 (h x)
theorem lcr_all {α : Type} {R : α → Option PyData → Prop} {P : PyData → Prop} (h : ∀ x d, R x (some d) → P d) : ∀ {xs : List α} {ds : List PyData}, LcR R xs ds → ∀ d ∈ ds, P d
  | [], ds, e => by cases e; intro d hd; simp at hd
  | x :: xs, ds, .inl ⟨e, ds', h1, h2, h3⟩ => by
    subst h2
    intro d hd
    rcases List.mem_cons.mp hd with z | z
    · rw [z]; exact h x e h1
    · exact lcr_all h h3 d z
  | x :: xs, ds, .inr ⟨h1, h2⟩ => lcr_all h h2
theorem ints_of {P : Int → Prop} : ∀ {ds : List PyData}, (∀ d ∈ ds, ∃ i, d = .int i ∧ P i) → ∃ l : List Int, ds = l.map .int ∧ ∀ x ∈ l, P x
  | [], _ => ⟨[], rfl, fun x h => by simp at h⟩
  | d :: ds, h => by
    obtain ⟨l, h1, h2⟩ := ints_of (ds := ds) fun x hx => h x (by simp [hx])
    obtain ⟨i, h3, h4⟩ := h d (by simp)
    exact ⟨i :: l, by rw [h1, h3]; rfl, fun x hx => by
      rcases List.mem_cons.mp hx with z | z
      · rw [z]; exact h4
      · exact h2 x z⟩
theorem pure_law_hues {vs : List V} {H : Hp} {Q : VK} (hs : sp_law_hues K vs H Q E) : t_law_hues K E { nx := fun _ H' => Q .non H', rt := Q } (L2.start ["script", "town", "things", "k"] vs) H :=
  sp_bodyT (fun tn ns ds ⟨n, hds, h0, h7⟩ => by
    subst hds
    show ExW K tn ns (t_law_hues K E) [some (scrD ns), some (adrD tn), some (.int n), none] _ _ _
    have hit := it_rng1 (K := K) (ρ := [some (scrD ns), some (adrD tn), some (.int n), none]) (te := tVar 2) (ev_var rfl) (by omega : -(2 ^ 62) ≤ n ∧ n < 2 ^ 62)
    have hlc := ew_lc (K := K) (tn := tn) (ns := ns) (ρ := [some (scrD ns), some (adrD tn), some (.int n), none]) (wi := iRng1 (tCons (tVar 2) tNil)) (g := gName 3) (tt := tYes) (vs := [3]) (ws := [3]) (n1 := 0) (n2 := 1) (te := (tOp rSubU (tOp (rMulU K) (tC (.int 2)) (tCall (sp_law_draw K) [] E0 (tCons (tVar 0) (tCons (tVar 1) (tCons (tC (.int 2)) tNil))))) (tC (.int 1)))) (List.range n.toNat) (fun i => .int (0 + (i : Int))) (fun _ b => b = true) (fun _ d => ∃ i : Int, d = .int i ∧ (i = -1 ∨ i = 1)) (fun i => [some (scrD ns), some (adrD tn), some (.int n), some (.int (0 + (i : Int)))]) hit (by rw [List.length_range]; omega) (by simp)
      (fun i _ => tg_name) (fun i _ => et_pure et_yes) (fun i _ => by
        have hd := ew_draw (K := K) (tn := tn) (ns := ns) (E' := E0) (ρ := [some (scrD ns), some (adrD tn), some (.int n), some (.int (0 + (i : Int)))]) (i := 0) (j := 1) (tl := tC (.int 2)) (k := 2) rfl rfl ev_int (by omega) (by omega)
        have h1 := ew_op (R := fun d => ∃ r : Int, d = .int (2 * r) ∧ 0 ≤ r ∧ r < 2) (ew_pure (ev_int (K := K) (i := 2))) hd (r := rMulU K) (fun d e h1 h2 => by
          obtain ⟨r, rfl, h3, h4⟩ := h2
          subst h1
          exact ⟨_, od_mul (cmulL (by omega) (by omega)), r, rfl, h3, h4⟩)
        exact ew_op h1 (ew_pure (ev_int (K := K) (i := 1))) (fun d e h1 h2 => by
          obtain ⟨r, rfl, h3, h4⟩ := h1
          subst h2
          exact ⟨_, od_sub, _, rfl, by omega⟩))
    refine ExW.mono (xw_ret (ew_cb (ea_consW hlc ea_nilW (R := fun ds => ∃ l : List Int, ColOk n l ∧ ds = [.list (l.map .int)]) (fun d ds h1 h2 => ?_)) (R := R_law_hues [.int n]) (fun ds h => ?_))) ?_ (fun _ h => h) (fun _ h => h)
    · obtain ⟨es, rfl, h3⟩ := h1
      subst h2
      have hl := lcr_len (fun x (hx : false = true) => by cases hx) h3
      obtain ⟨l, rfl, hl2⟩ := ints_of (P := fun i => i = -1 ∨ i = 1) (lcr_all (P := fun d => ∃ i : Int, d = .int i ∧ (i = -1 ∨ i = 1)) (fun x d h => h.2) h3)
      refine ⟨l, ⟨?_, hl2⟩, rfl⟩
      rw [List.length_map, List.length_range] at hl
      omega
    · obtain ⟨l, h1, rfl⟩ := h
      exact ⟨_, ca_tupleL, n, l, rfl, h1, rfl⟩
    · rw [List.length_range]; omega) hs
end
end Lc

set_option Elab.async false
set_option linter.all false
set_option maxRecDepth 100000
set_option maxHeartbeats 4000000
namespace Lc
open PySem L2 PySem.Spec PyProof.Rows
/-! ### _law_family -/
/-- strictly ascending, within 0 .. n - 1, perhaps empty -/
def AscIn (n : Int) (l : List Int) : Prop := (∀ x ∈ l, 0 ≤ x ∧ x < n) ∧ ascI l = true
theorem ascI_of : ∀ {l : List Int}, l.Pairwise (· < ·) → ascI l = true
  | [], _ => rfl
  | [_], _ => rfl
  | a :: b :: r, h => by
    have h' := List.pairwise_cons.mp h
    have h1 : a < b := h'.1 b (by simp)
    show (decide (a < b) && ascI (b :: r)) = true
    rw [decide_eq_true h1, ascI_of h'.2]; rfl
theorem ascI_pw : ∀ {l : List Int}, ascI l = true → l.Pairwise (· < ·)
  | [], _ => List.Pairwise.nil
  | [_], _ => List.pairwise_singleton _ _
  | a :: b :: r, h => by
    have h' : a < b ∧ ascI (b :: r) = true := by simpa [ascI] using h
    have ih := ascI_pw h'.2
    refine List.pairwise_cons.mpr ⟨fun z hz => ?_, ih⟩
    rcases List.mem_cons.mp hz with e | e
    · rw [e]; exact h'.1
    · have := (List.pairwise_cons.mp ih).1 z e; omega
theorem lcr_asc {R : Nat → Option PyData → Prop} (h : ∀ x d, R x (some d) → d = .int (0 + (x : Int))) : ∀ {xs : List Nat} {ds : List PyData}, xs.Pairwise (· < ·) → LcR R xs ds → ∃ l : List Int, ds = l.map .int ∧ l.Pairwise (· < ·) ∧ ∀ y ∈ l, ∃ x ∈ xs, y = (x : Int)
  | [], ds, _, e => by cases e; exact ⟨[], rfl, List.Pairwise.nil, fun y hy => by simp at hy⟩
  | x :: xs, ds, hp, .inl ⟨e, ds', h1, h2, h3⟩ => by
    have hp' := List.pairwise_cons.mp hp
    obtain ⟨l, k1, k2, k3⟩ := lcr_asc h hp'.2 h3
    refine ⟨(x : Int) :: l, ?_, List.pairwise_cons.mpr ⟨fun y hy => ?_, k2⟩, fun y hy => ?_⟩
    · rw [h2, h x e h1, k1, Int.zero_add]; rfl
    · obtain ⟨z, hz, rfl⟩ := k3 y hy
      have := hp'.1 z hz
      omega
    · rcases List.mem_cons.mp hy with e | e
      · exact ⟨x, by simp, e⟩
      · obtain ⟨z, hz, e2⟩ := k3 y e
        exact ⟨z, by simp [hz], e2⟩
  | x :: xs, ds, hp, .inr ⟨h1, h2⟩ => by
    obtain ⟨l, k1, k2, k3⟩ := lcr_asc h (List.pairwise_cons.mp hp).2 h2
    exact ⟨l, k1, k2, fun y hy => by
      obtain ⟨z, hz, e2⟩ := k3 y hy
      exact ⟨z, by simp [hz], e2⟩⟩
theorem range_pw : ∀ n : Nat, (List.range n).Pairwise (· < ·) := fun n => List.pairwise_lt_range
theorem asc_two {n k r : Int} (hn : 2 < n) (h0 : 0 ≤ k) (h1 : k < n) (hr0 : 0 ≤ r) (hr1 : r < 2) : AscIn n (isort ltI [k, (k + 1 + r) % n]) := by
  have hm := ed_nat (k + 1 + r) n (by omega)
  have hne : (k + 1 + r) % n ≠ k := by
    intro e
    by_cases h : k + 1 + r < n
    · rw [Int.emod_eq_of_lt (by omega) h] at e; omega
    · have : (k + 1 + r) % n = k + 1 + r - n := by
        rw [← Int.sub_emod_right, Int.emod_eq_of_lt (by omega) (by omega)]
      omega
  have hsplit : isort ltI [k, (k + 1 + r) % n] = if ltI ((k + 1 + r) % n) k then [(k + 1 + r) % n, k] else [k, (k + 1 + r) % n] := rfl
  rw [hsplit]
  by_cases h : (k + 1 + r) % n < k
  · rw [if_pos (by simpa [ltI] using h)]
    exact ⟨fun x hx => by simp at hx; omega, by simp [ascI]; omega⟩
  · rw [if_neg (by simpa [ltI] using h)]
    exact ⟨fun x hx => by simp at hx; omega, by simp [ascI]; omega⟩
def GoodF (n : Int) (fs : List (List Int)) : Prop := (∀ f ∈ fs, LotOk n f) ∧ fs.Nodup
section
variable {K : PySem.W.Frag} {E : XK} {tn : Addr} {ns : List Int}
/-- the slots of the body -/
abbrev rF (tn : Addr) (ns : List Int) (most n : Int) (fs : List (List Int)) (o : Int) (p : Bool) (a b c : Option PyData) : Rho := [some (scrD ns), some (adrD tn), some (.int most), some (.int n), some (lD fs), some (.int o), some (.bool p), a, b, c]
theorem fam_one {most n o : Int} {p : Bool} {fs : List (List Int)} {a b c : Option PyData} (hn : 1 ≤ n) (hn7 : n ≤ 7) (hp : p = true → 2 < n) :
    ExW K tn ns (tIfS (tB (tVar 6)) (tSeq (tAsg (tCall (sp_law_draw K) [] E0 (tCons (tVar 0) (tCons (tVar 1) (tCons (tVar 3) tNil)))) (gName 8))
      (tAsg (tCB (rSortD K) (tCons (tLst (tCons (tVar 8) (tCons (tOp rModU (tOp (rAddU K) (tOp (rAddU K) (tVar 8) (tC (.int 1))) (tCall (sp_law_draw K) [] E0 (tCons (tVar 0) (tCons (tVar 1) (tCons (tC (.int 2)) tNil))))) (tVar 3)) tNil))) tNil)) (gName 9)))
      (tAsg (tLc (iRng1 (tCons (tVar 3) tNil)) (gName 8) (tTest (tOp (rLtU K) (tCall (sp_law_draw K) [] E0 (tCons (tVar 0) (tCons (tVar 1) (tCons (tC (.int 4)) tNil)))) (tVar 5))) (tVar 8) [8]) (gName 9)))
      (rF tn ns most n fs o p a b c) 7 (fun ρ' => ∃ l b', AscIn n l ∧ ρ' = rF tn ns most n fs o p a b' (some (.list (l.map .int)))) (fun _ => False) := by
  refine xw_ifP (et_B (ev_var rfl)) (fun e => ?_) (fun e => ?_)
  · subst e
    have hn2 := hp rfl
    refine ExW.mono (xw_seq (m := 1) (Pm := fun ρ' => ∃ l b', AscIn n l ∧ ρ' = rF tn ns most n fs o true a b' (some (.list (l.map .int)))) (xw_asg (ew_draw rfl rfl (ev_var rfl) (by omega) (by omega))) (fun ρ' h => ?_)) (by omega) (fun _ h => h) (fun _ h => h)
    obtain ⟨d, ⟨k, rfl, h0, h1⟩, rfl⟩ := h
    show ExW K tn ns _ (rF tn ns most n fs o true a (some (.int k)) c) _ _ _
    have hd := ew_draw (K := K) (tn := tn) (ns := ns) (E' := E0) (ρ := rF tn ns most n fs o true a (some (.int k)) c) (i := 0) (j := 1) (tl := tC (.int 2)) (k := 2) rfl rfl ev_int (by omega) (by omega)
    have h2 := ew_op (r := rAddU K) (R := fun d => ∃ r : Int, d = .int (k + 1 + r) ∧ 0 ≤ r ∧ r < 2) (ew_pure (ev_op (K := K) (ρ := rF tn ns most n fs o true a (some (.int k)) c) (ev_var (i := 8) rfl) (ev_int (i := 1)) od_add)) hd (fun d e h1 h2 => by
      obtain ⟨r, rfl, h3, h4⟩ := h2
      subst h1
      exact ⟨_, od_add, r, rfl, h3, h4⟩)
    have h3 := ew_op (r := rModU) (R := fun d => ∃ r : Int, d = .int ((k + 1 + r) % n) ∧ 0 ≤ r ∧ r < 2) h2 (ew_pure (ev_var (K := K) (ρ := rF tn ns most n fs o true a (some (.int k)) c) (i := 3) (d := .int n) rfl)) (fun d e h1 h2 => by
      obtain ⟨r, rfl, h3, h4⟩ := h1
      subst h2
      exact ⟨_, od_mod (by omega), r, rfl, h3, h4⟩)
    have h4 := ea_consW (R := fun ds => ∃ r : Int, ds = [.int k, .int ((k + 1 + r) % n)] ∧ 0 ≤ r ∧ r < 2) (ew_pure (ev_var (K := K) (ρ := rF tn ns most n fs o true a (some (.int k)) c) (i := 8) (d := .int k) rfl)) (ea_consW (R := fun ds => ∃ r : Int, ds = [.int ((k + 1 + r) % n)] ∧ 0 ≤ r ∧ r < 2) h3 ea_nilW (by rintro d ds ⟨r, rfl, h3, h4⟩ rfl; exact ⟨r, rfl, h3, h4⟩)) (by rintro d ds rfl ⟨r, rfl, h3, h4⟩; exact ⟨r, rfl, h3, h4⟩)
    have h5 := ew_lst (R := fun d => ∃ r : Int, d = .list ([k, (k + 1 + r) % n].map .int) ∧ 0 ≤ r ∧ r < 2) h4 (by rintro ds ⟨r, rfl, h3, h4⟩; exact ⟨by simp, r, rfl, h3, h4⟩)
    have h6 := ew_cb (r := rSortD K) (R := fun d => ∃ l, AscIn n l ∧ d = .list (l.map .int)) (ea_consW (R := fun ds => ∃ r : Int, ds = [.list ([k, (k + 1 + r) % n].map .int)] ∧ 0 ≤ r ∧ r < 2) h5 ea_nilW (by rintro d ds ⟨r, rfl, h3, h4⟩ rfl; exact ⟨r, rfl, h3, h4⟩)) (by
      rintro ds ⟨r, rfl, h3, h4⟩
      exact ⟨_, ca_sortI, _, asc_two hn2 h0 h1 h3 h4, rfl⟩)
    exact ExW.mono (xw_asg h6) (by omega) (fun ρ' ⟨d, ⟨l, h7, h8⟩, h9⟩ => ⟨l, some (.int k), h7, by rw [h9, h8]; rfl⟩) (fun _ h => h)
  · have hit := it_rng1 (K := K) (ρ := rF tn ns most n fs o p a b c) (te := tVar 3) (ev_var rfl) (by omega : -(2 ^ 62) ≤ n ∧ n < 2 ^ 62)
    have hlc := ew_lc (K := K) (tn := tn) (ns := ns) (ρ := rF tn ns most n fs o p a b c) (wi := iRng1 (tCons (tVar 3) tNil)) (g := gName 8) (tt := (tTest (tOp (rLtU K) (tCall (sp_law_draw K) [] E0 (tCons (tVar 0) (tCons (tVar 1) (tCons (tC (.int 4)) tNil)))) (tVar 5)))) (vs := [8]) (ws := [8]) (n1 := 1) (n2 := 0) (te := tVar 8) (List.range n.toNat) (fun i => .int (0 + (i : Int))) (fun _ _ => True) (fun i d => d = .int (0 + (i : Int))) (fun i => rF tn ns most n fs o p a (some (.int (0 + (i : Int)))) c) hit (by rw [List.length_range]; omega) (by simp)
      (fun i _ => tg_name) (fun i _ => by
        have hd := ew_draw (K := K) (tn := tn) (ns := ns) (E' := E0) (ρ := rF tn ns most n fs o p a (some (.int (0 + (i : Int)))) c) (i := 0) (j := 1) (tl := tC (.int 4)) (k := 4) rfl rfl ev_int (by omega) (by omega)
        exact et_testW (ew_op (r := rLtU K) (R := fun d => ∃ b, d = .bool b ∧ True) hd (ew_pure (ev_var (K := K) (ρ := rF tn ns most n fs o p a (some (.int (0 + (i : Int)))) c) (i := 5) (d := .int o) rfl)) (by
          rintro d e ⟨r, rfl, _, _⟩ rfl
          exact ⟨_, od_lt, _, rfl, trivial⟩)) (fun d h => h)) (fun i _ => ew_pure (ev_var rfl))
    refine ExW.mono (xw_asg hlc) (by rw [List.length_range]; omega) (fun ρ' h => ?_) (fun _ h => h)
    obtain ⟨d, ⟨ds, rfl, h1⟩, rfl⟩ := h
    obtain ⟨l, rfl, h2, h3⟩ := lcr_asc (fun x d h => h.2) (range_pw _) h1
    refine ⟨l, b, ⟨fun x hx => ?_, ascI_of h2⟩, rfl⟩
    obtain ⟨z, hz, rfl⟩ := h3 x hx
    have := List.mem_range.mp hz
    omega
theorem fam_two {most n o : Int} {p : Bool} {fs : List (List Int)} {a b : Option PyData} {l : List Int} (hn : 1 ≤ n) (hn7 : n ≤ 7) (hl : AscIn n l) :
    ExW K tn ns (tAsg (tCB (rTupleOf K) (tCons (tIf (tTest (tOp (rNeD K) (tVar 9) (tLst tNil))) (tVar 9) (tLst (tCons (tCall (sp_law_draw K) [] E0 (tCons (tVar 0) (tCons (tVar 1) (tCons (tVar 3) tNil)))) tNil))) tNil)) (gName 9))
      (rF tn ns most n fs o p a b (some (.list (l.map .int)))) 1 (fun ρ' => ∃ f, LotOk n f ∧ ρ' = rF tn ns most n fs o p a b (some (tI f))) (fun _ => False) := by
  have ht : EvT K (tTest (tOp (rNeD K) (tVar 9) (tLst tNil))) (rF tn ns most n fs o p a b (some (.list (l.map .int)))) (!decide (l = [])) := by
    refine et_to (et_test (ev_op (ev_var rfl) (ev_lst ea_nil (by simp)) (od_ne (sh_lstI (n := 1)) (sh_nilL (n := 1))))) ?_
    cases l <;> simp [PyData.eqv, PyData.eqvAll]
  have hd := ew_draw (K := K) (tn := tn) (ns := ns) (E' := E0) (ρ := rF tn ns most n fs o p a b (some (.list (l.map .int)))) (i := 0) (j := 1) (tl := tVar 3) (k := n) rfl rfl (ev_var rfl) (by omega) (by omega)
  have hlst := ew_lst (R := fun d => ∃ f, LotOk n f ∧ d = .list (f.map .int)) (ea_consW (R := fun ds => ∃ r : Int, ds = [.int r] ∧ 0 ≤ r ∧ r < n) hd ea_nilW (by rintro d ds ⟨r, rfl, h3, h4⟩ rfl; exact ⟨r, rfl, h3, h4⟩)) (by
    rintro ds ⟨r, rfl, h3, h4⟩
    exact ⟨by simp, [r], ⟨by simp, fun x hx => by have := List.mem_singleton.mp hx; omega, rfl⟩, rfl⟩)
  have hif := ew_if (n := 0) (m := 1) (ta := tVar 9) (R := fun d => ∃ f, LotOk n f ∧ d = .list (f.map .int)) (et_pure (tn := tn) (ns := ns) ht) (fun e => by
    have hne : l ≠ [] := fun z => by rw [z] at e; simp at e
    exact EvW.mono (ew_pure (ev_var rfl)) (by omega) (fun d h => ⟨l, ⟨hne, hl.1, hl.2⟩, h⟩)) (fun _ => hlst)
  have hcb := ew_cb (r := rTupleOf K) (R := fun d => ∃ f, LotOk n f ∧ d = tI f) (ea_consW (R := fun ds => ∃ f, LotOk n f ∧ ds = [.list (f.map .int)]) hif ea_nilW (by rintro d ds ⟨f, h, rfl⟩ rfl; exact ⟨f, h, rfl⟩)) (by
    rintro ds ⟨f, h, rfl⟩
    exact ⟨_, ca_tupleL, f, h, rfl⟩)
  exact ExW.mono (xw_asg hcb) (by omega) (fun ρ' ⟨d, ⟨f, h1, h2⟩, h3⟩ => ⟨f, h1, by rw [h3, h2]; rfl⟩) (fun _ h => h)
theorem fam_three {most n o : Int} {p : Bool} {fs : List (List Int)} {a b : Option PyData} {f : List Int} (hz : fs.length ≤ 1000) :
    ExS K E (tAsg (tOp (rAddU K) (tVar 4) (tIf (tTest (tOp (rNotInU K) (tVar 9) (tVar 4))) (tLst (tCons (tVar 9) tNil)) (tLst tNil))) (gName 4))
      (rF tn ns most n fs o p a b (some (tI f))) (.nx (rF tn ns most n (if f ∈ fs then fs else fs ++ [f]) o p a b (some (tI f)))) := by
  have ht : EvT K (tTest (tOp (rNotInU K) (tVar 9) (tVar 4))) (rF tn ns most n fs o p a b (some (tI f))) (!decide (f ∈ fs)) := by
    refine et_to (et_test (ev_op (ev_var rfl) (ev_var rfl) (od_niL (sh_tI (n := 1)) (sh_lD (n := 1))))) ?_
    rw [any_tI]
  have hif : EvD K (tIf (tTest (tOp (rNotInU K) (tVar 9) (tVar 4))) (tLst (tCons (tVar 9) tNil)) (tLst tNil)) (rF tn ns most n fs o p a b (some (tI f))) (lD (if f ∈ fs then [] else [f])) :=
    ev_if ht (fun e => by
      have : f ∉ fs := by simpa using e
      rw [if_neg this]
      exact ev_lst (ea_cons (ev_var rfl) ea_nil) (by simp)) (fun e => by
      have : f ∈ fs := by simpa using e
      rw [if_pos this]
      exact ev_lst ea_nil (by simp))
  have h := xs_asg (i := 4) (E := E) (ev_op (ev_var (i := 4) (d := lD fs) rfl) hif (od_addL (by split <;> simp <;> omega)))
  have e : lD (if f ∈ fs then fs else fs ++ [f]) = .list (fs.map tI ++ (if f ∈ fs then [] else [f]).map tI) := by
    unfold lD
    split <;> simp
  unfold rF
  rw [e]
  exact h
theorem x_law_family {most : Int} (hm1 : 1 ≤ most) (hm7 : most ≤ 7) : ExW K tn ns (t_law_family K E) [some (scrD ns), some (adrD tn), some (.int most), none, none, none, none, none, none, none] 100 (fun _ => False) (R_law_family [.int most]) := by
  have e0 : (100 : Nat) = 1 + 99 := rfl
  have h1 : EaW K tn ns (tCons (tOp (rAddU K) (tC (.int 1)) (tCall (sp_law_draw K) [] E0 (tCons (tVar 0) (tCons (tVar 1) (tCons (tVar 2) tNil))))) (tCons (tLst tNil) tNil)) [some (scrD ns), some (adrD tn), some (.int most), none, none, none, none, none, none, none] 1 (fun ds => ∃ n : Int, 1 ≤ n ∧ n ≤ most ∧ ds = [.int n, lD []]) := by
    have hd := ew_draw (K := K) (tn := tn) (ns := ns) (E' := E0) (ρ := [some (scrD ns), some (adrD tn), some (.int most), none, none, none, none, none, none, none]) (i := 0) (j := 1) (tl := tVar 2) (k := most) rfl rfl (ev_var rfl) (by omega) (by omega)
    refine ea_consW (n := 1) (m := 0) (ew_op (n := 0) (m := 1) (r := rAddU K) (R := fun d => ∃ n : Int, d = .int n ∧ 1 ≤ n ∧ n ≤ most) (ew_pure ev_int) hd (by
      rintro d e rfl ⟨r, rfl, h3, h4⟩
      exact ⟨_, od_add, _, rfl, by omega, by omega⟩)) (ea_consW (n := 0) (m := 0) (R := (· = [lD []])) (ew_pure (ev_lst ea_nil (by simp))) ea_nilW (by rintro d ds rfl rfl; rfl)) (by rintro d ds ⟨n, rfl, h3, h4⟩ rfl; exact ⟨n, h3, h4, rfl⟩)
  rw [e0]
  refine xw_seq (xw_par h1 (by rintro ds ⟨n, _, _, rfl⟩; rfl)) (fun ρ1 hρ1 => ?_)
  obtain ⟨d, e, ⟨n, hn1, hnm, hde⟩, rfl⟩ := hρ1
  simp only [List.cons.injEq, and_true] at hde
  obtain ⟨rfl, rfl⟩ := hde
  show ExW K tn ns _ [some (scrD ns), some (adrD tn), some (.int most), some (.int n), some (lD []), none, none, none, none, none] 99 _ _
  have hn7 : n ≤ 7 := by omega
  let ρ1 : Rho := [some (scrD ns), some (adrD tn), some (.int most), some (.int n), some (lD []), none, none, none, none, none]
  have h2 : EvW K tn ns (tTup (tCons (tOp (rAddU K) (tC (.int 1)) (tCall (sp_law_draw K) [] E0 (tCons (tVar 0) (tCons (tVar 1) (tCons (tC (.int 3)) tNil))))) (tCons (tAndV (tOp rGtI (tVar 3) (tC (.int 2))) (tOp (rEqD K) (tCall (sp_law_draw K) [] E0 (tCons (tVar 0) (tCons (tVar 1) (tCons (tC (.int 2)) tNil)))) (tC (.int 0)))) tNil))) ρ1 2
      (fun d => ∃ (o : Int) (p : Bool), d = .tuple [.int o, .bool p] ∧ (p = true → 2 < n)) := by
    have hd3 := ew_draw (K := K) (tn := tn) (ns := ns) (E' := E0) (ρ := ρ1) (i := 0) (j := 1) (tl := tC (.int 3)) (k := 3) rfl rfl ev_int (by omega) (by omega)
    have hd2 := ew_draw (K := K) (tn := tn) (ns := ns) (E' := E0) (ρ := ρ1) (i := 0) (j := 1) (tl := tC (.int 2)) (k := 2) rfl rfl ev_int (by omega) (by omega)
    have heq := ew_op (n := 1) (m := 0) (r := rEqD K) (R := fun d => ∃ b : Bool, d = .bool b) hd2 (ew_pure (ev_int (K := K) (i := 0))) (by
      rintro d e ⟨r, rfl, _, _⟩ rfl
      exact ⟨_, od_eq (sh_int (n := 1)) (sh_int (n := 1)), _, rfl⟩)
    have hgt : EvD K (tOp rGtI (tVar 3) (tC (.int 2))) ρ1 (.bool (decide (2 < n))) := ev_op (ev_var rfl) ev_int od_gt
    have hand := ew_and (n := 0) (m := 1) (P := fun b => b = decide (2 < n)) (P' := fun _ => True) (ew_pure (tn := tn) (ns := ns) hgt) (fun d h => ⟨_, h, rfl⟩) heq
    have hand' := EvW.mono (R' := fun d => ∃ p : Bool, d = .bool p ∧ (p = true → 2 < n)) hand (Nat.le_refl _) (by
      rintro d (⟨rfl, h⟩ | ⟨h, b, rfl⟩)
      · exact ⟨false, rfl, fun z => by cases z⟩
      · exact ⟨b, rfl, fun _ => by simpa using h.symm⟩)
    refine ew_tup (ea_consW (n := 1) (m := 1) (R := fun ds => ∃ (o : Int) (p : Bool), ds = [.int o, .bool p] ∧ (p = true → 2 < n)) (ew_op (n := 0) (m := 1) (r := rAddU K) (R := fun d => ∃ o : Int, d = .int o) (ew_pure ev_int) hd3 (by
      rintro d e rfl ⟨r, rfl, h3, h4⟩
      exact ⟨_, od_add, _, rfl⟩)) (ea_consW (n := 1) (m := 0) (R := fun ds => ∃ p : Bool, ds = [.bool p] ∧ (p = true → 2 < n)) hand' ea_nilW (by rintro d ds ⟨p, rfl, h⟩ rfl; exact ⟨p, rfl, h⟩)) (by rintro d ds ⟨o, rfl⟩ ⟨p, rfl, h⟩; exact ⟨o, p, rfl, h⟩)) (by
      rintro ds ⟨o, p, rfl, h⟩
      exact ⟨by simp, o, p, rfl, h⟩)
  have e1 : (99 : Nat) = 2 + 97 := rfl
  rw [e1]
  let g2 : PyData → Rho := fun d => match d with
    | .tuple [x, y] => [some (scrD ns), some (adrD tn), some (.int most), some (.int n), some (lD []), some x, some y, none, none, none]
    | _ => []
  refine xw_seq (xw_asgT (r2 := g2) h2 (ws := [5, 6]) (by rintro d ⟨o, p, rfl, h⟩; exact tg_two)) (fun ρ2 hρ2 => ?_)
  obtain ⟨d, ⟨o, p, rfl, hp⟩, rfl⟩ := hρ2
  show ExW K tn ns _ (rF tn ns most n [] o p none none none) 97 _ _
  have hd8 := ew_draw (K := K) (tn := tn) (ns := ns) (E' := E0) (ρ := rF tn ns most n [] o p none none none) (i := 0) (j := 1) (tl := tC (.int 8)) (k := 8) rfl rfl ev_int (by omega) (by omega)
  have hcnt := ew_op (n := 0) (m := 1) (r := rAddU K) (R := fun d => ∃ k : Nat, d = .int (k : Int) ∧ 1 ≤ k ∧ k ≤ 8) (ew_pure (ev_int (K := K) (i := 1))) hd8 (by
    rintro d e rfl ⟨r, rfl, h3, h4⟩
    exact ⟨_, od_add, (1 + r).toNat, by rw [Int.toNat_of_nonneg (by omega)], by omega, by omega⟩)
  have e2 : (97 : Nat) = (1 + 8 * 8) + 32 := rfl
  rw [e2]
  refine xw_seq (Pn := fun ρ' => ∃ fs a b c, GoodF n fs ∧ 1 ≤ fs.length ∧ fs.length ≤ 8 ∧ ρ' = rF tn ns most n fs o p a b c) (xw_forR (B := 8) (m := 8) hcnt (by rintro d ⟨k, rfl, _, h⟩; exact ⟨k, rfl, h⟩) (by omega)
    (fun i ρ' => ∃ fs a b c, GoodF n fs ∧ (1 ≤ i → 1 ≤ fs.length) ∧ fs.length ≤ i ∧ ρ' = rF tn ns most n fs o p a b c) ⟨[], none, none, none, ⟨fun f hf => by simp at hf, List.nodup_nil⟩, fun h => by omega, Nat.le_refl _, rfl⟩ (fun i ρ' hi hI => ?_) (fun k ρ' hR hI => ?_)) (fun ρ3 hρ3 => ?_)
  · obtain ⟨fs, a, b, c, hg, hne, hlen, rfl⟩ := hI
    show ExW K tn ns _ (rF tn ns most n fs o p (some (.int (0 + (i : Int)))) b c) 8 _ _
    have e3 : (8 : Nat) = 7 + (1 + 0) := rfl
    refine ExW.mono (xw_seq (n := 7) (m := 1 + 0) (fam_one hn1 hn7 hp) (fun ρ4 h4 => ?_)) (Nat.le_refl _) (fun _ h => h) (fun _ h => h.elim)
    obtain ⟨l, b', hl, rfl⟩ := h4
    refine xw_seq (n := 1) (m := 0) (fam_two hn1 hn7 hl) (fun ρ5 h5 => ?_)
    obtain ⟨f, hf, rfl⟩ := h5
    refine ExW.mono (xw_pure (E := E) (fam_three (by omega))) (Nat.le_refl _) (fun ρ6 h6 => ?_) (fun _ h => h)
    refine ⟨_, _, _, _, ?_, fun _ => ?_, ?_, h6⟩
    · by_cases hm : f ∈ fs
      · rw [if_pos hm]; exact hg
      · rw [if_neg hm]
        refine ⟨fun g hg' => ?_, ?_⟩
        · rcases List.mem_append.mp hg' with z | z
          · exact hg.1 g z
          · rw [List.mem_singleton.mp z]; exact hf
        · rw [List.nodup_append]
          refine ⟨hg.2, by simp, fun x hx y hy => ?_⟩
          rw [List.mem_singleton.mp hy]
          exact fun z => hm (z ▸ hx)
    · by_cases hm : f ∈ fs
      · rw [if_pos hm]; exact List.length_pos_of_mem hm
      · rw [if_neg hm]; simp
    · split
      · omega
      · simp; omega
  · obtain ⟨fs, a, b, c, hg, hne, hlen, rfl⟩ := hI
    obtain ⟨k', hk, h1', h8'⟩ := hR
    have : k = k' := by
      have := PyData.int.inj hk
      omega
    subst this
    exact ⟨fs, a, b, c, hg, hne h1', by omega, rfl⟩
  · obtain ⟨fs, a, b, c, hg, h1', h8', rfl⟩ := hρ3
    have hs : EvD K (tCB (rTupleOf K) (tCons (tCB (rSortD K) (tCons (tVar 4) tNil)) tNil)) (rF tn ns most n fs o p a b c) (tD (isort HT.lexLt fs)) :=
      ev_cb (ea_cons (ev_cb (ea_cons (ev_var (d := lD fs) rfl) ea_nil) (ca_sortLD fun f hf => (hg.1 f hf).1)) ea_nil) ca_tupleL
    refine ExW.mono (xw_pureR (E := E) (d := famD n (isort HT.lexLt fs)) (xs_ret (ev_tup (ea_cons (ev_var rfl) (ea_cons hs ea_nil)) (by simp))) ?_) (by omega) (fun _ h => h) (fun _ h => h)
    have hperm := isort_perm (lt := HT.lexLt) fs
    refine ⟨most, n, isort HT.lexLt fs, rfl, ⟨hn1, hn7, by rw [hperm.length_eq]; exact h1', by rw [hperm.length_eq]; exact h8', fun s hs => hg.1 s (hperm.mem_iff.mp hs), sorted_asc (isort_sorted swo_lex fs) (hperm.nodup_iff.mpr hg.2)⟩, hnm, rfl⟩
theorem pure_law_family {vs : List V} {H : Hp} {Q : VK} (hs : sp_law_family K vs H Q E) : t_law_family K E { nx := fun _ H' => Q .non H', rt := Q } (L2.start ["script", "town", "most", "things", "found", "often", "is_paired", "turn", "k", "one"] vs) H :=
  sp_bodyT (fun tn ns ds ⟨most, hds, h1, h7⟩ => by
    subst hds
    exact x_law_family h1 h7) hs
end
end Lc

set_option Elab.async false
set_option linter.all false
set_option maxRecDepth 100000
set_option maxHeartbeats 4000000
namespace Lc
open PySem L2 PySem.Spec PyProof.Rows
/-! ### the law's start -/
def spLaw (K : PySem.W.Frag) : Sp := fun vs H Q _ => ∃ (a : Addr) (ns : List Int), vs = [.ref a] ∧ SqL K H a (ns.map V.int) ∧ ns.length ≤ 63 ∧ ∀ H', Q (.bl true) H'
section
variable {K : PySem.W.Frag} {E : XK}
theorem env_none {F : Hp} : ∀ m : Nat, EnvD K F (List.replicate m none) (List.replicate m none)
  | 0 => .nil
  | m + 1 => .cons trivial (env_none m)
theorem law_start {tz : TS} {N : List Str} {m M0 : Nat} (hN : N.length = m + 2) (hM : M0 ≤ MD) (h : ∀ tn ns, ns.length ≤ 63 → ExW K tn ns tz (some (scrD ns) :: some (adrD tn) :: List.replicate m none) M0 (fun _ => False) (· = .bool true))
    {vs : List V} {H : Hp} {Q : VK} (hs : spLaw K vs H Q E) : tSeq (tAsg (tCall (sp_law_town K) [] E0 (tCons (tVar 0) tNil)) (gName 1)) tz { nx := fun _ H' => Q .non H', rt := Q } (L2.start N vs) H := by
  obtain ⟨a, ns, rfl, hS, hl, q⟩ := hs
  have hst : L2.start N [.ref a] = some (.ref a) :: none :: List.replicate m none := by
    unfold L2.start
    rw [hN]
    show some (V.ref a) :: List.replicate (m + 2 - 1) none = _
    have : m + 2 - 1 = m + 1 := by omega
    rw [this]; rfl
  rw [hst]
  refine ⟨.ref a, rfl, [], ns, Live.nil, by omega, ?_, fun p H1 hp s1 h1 => ?_⟩
  · rw [cut_nil]; exact .cons (.scr hS) .nil
  · have sc : Same H (cut [p] H1) := fun b o e => by
      rw [cut_out (by
        intro z
        rw [List.mem_singleton.mp z, hp] at e; cases e)]
      exact s1 b o e
    refine h p ns hl 0 [p] _ H1 _ (by omega) (fun b hb => by rw [List.mem_singleton.mp hb, h1]; simp) (by simp) ⟨0 :: ns, h1, rfl, Int.le_refl _, Int.le_refl _⟩ (.cons (.scr (sql_same sc hS)) (.cons (.adr p) (env_none m))) (fun _ _ _ z => z.elim) (fun d v H' hd _ _ hv => ?_)
    subst hd
    cases hv
    exact q H'
/-- script, town and a limit of a def that draws -/
theorem ew_town {E' : XK} {ρ : Rho} {tn : Addr} {ns : List Int} {P : List PyData → Prop} {Rt : List PyData → PyData → Prop} {R : PyData → Prop} {tl : TE} {i j m : Nat} {d : PyData} (hi : ρ[i]? = some (some (scrD ns))) (hj : ρ[j]? = some (some (adrD tn))) (hk : EvD K tl ρ d) (hp : P [d]) (hR : ∀ e, Rt [d] e → R e) :
    EvW K tn ns (tCall (spT K m P Rt) [] E' (tCons (tVar i) (tCons (tVar j) (tCons tl tNil)))) ρ m R := by
  have ha : EaW K tn ns (tCons (tVar i) (tCons (tVar j) (tCons tl tNil))) ρ 0 (· = [scrD ns, adrD tn, d]) :=
    ea_consW (ew_pure (ev_var hi)) (ea_consW (ew_pure (ev_var hj)) (ea_consW (ew_pure hk) ea_nilW (R := (· = [d])) (by rintro d ds rfl rfl; rfl)) (R := (· = [adrD tn, d])) (by rintro d ds rfl rfl; rfl)) (by rintro d ds rfl rfl; rfl)
  have := ew_callT (m := m) (P := P) (Rt := Rt) (E := E') (R := R) ha (fun ds e => ⟨[d], e, hp, fun e h => hR e h⟩)
  rw [Nat.zero_add] at this
  exact this
/-- if this (shown false): return False -/
theorem xw_no {E : XK} {tn : Addr} {ns : List Int} {ρ : Rho} {t : TT} {te : TE} {tz : TS} {m : Nat} {Pm : Rho → Prop} {Pr : PyData → Prop} (h : EvT K t ρ false) (hz : ExW K tn ns tz ρ m Pm Pr) : ExW K tn ns (tSeq (tIfS t (tRet te) tNext) tz) ρ m Pm Pr :=
  xw_seqP (E := E) (xs_if h (fun z => by cases z) (fun _ => xs_next)) hz
theorem ne_false {ρ : Rho} {ta tb : TE} {d : PyData} {n : Nat} (ha : EvD K ta ρ d) (hb : EvD K tb ρ d) (hd : Sh n d) (hn : n ≤ 64) : EvT K (tTest (tOp (rNeD K) ta tb)) ρ false :=
  et_to (et_test (ev_op ha hb (od_ne hd hd hn hn))) (by rw [SeqAt.eqv_refl d hd.1]; rfl)
end
end Lc

set_option Elab.async false
set_option linter.all false
set_option maxRecDepth 100000
set_option maxHeartbeats 4000000
namespace Lc
open PySem L2 PySem.Spec PyProof.Rows
section
variable {K : PySem.W.Frag} {E : XK} {ρ : Rho} {ta tb : TE} {t : TT} {d : PyData}
/-! ### return f(..) of a def that may raise, in a choice -/
theorem ev_orX {R : List PyData → Out → Prop} {tr : TA} {ds : List PyData} {o : Out} (ha : EvA K tr ρ ds) (h : R ds o) : ∀ A σ H, Live A H → EnvD K (cut A H) σ ρ → ∀ Q : VK, ResC K A E Q H o → tCall (spD K R) [] E tr σ H Q := fun A σ H l hE Q q =>
  ha A σ H l hE _ fun vs H1 s1 hv => by
    rw [List.append_nil]
    refine ⟨A, ds, o, l.same s1, hv, h, ?_⟩
    cases o with
    | nx r => exact q
    | rt d => exact fun v H2 s2 h2 => q v H2 (s1.trans s2) h2
    | ex C => exact fun H2 s2 => q H2 (s1.trans s2)
theorem xs_retCall {R : List PyData → Out → Prop} {tr : TA} {ds : List PyData} {o : Out} (ha : EvA K tr ρ ds) (h : R ds o) (ho : ∀ r, o ≠ .nx r) : ExS K E (tRet (tCall (spD K R) [] E tr)) ρ o := fun A σ H D l hE c => by
  refine ev_orX ha h A σ H l hE _ ?_
  cases o with
  | nx r => exact (ho r rfl).elim
  | rt d => exact c
  | ex C => exact c
theorem xs_retIfT {R : List PyData → Out → Prop} {tr : TA} {ds : List PyData} {o : Out} (ht : EvT K t ρ true) (ha : EvA K tr ρ ds) (h : R ds o) (ho : ∀ r, o ≠ .nx r := by intro r; first | (intro z; cases z) | skip) : ExS K E (tRet (tIf t (tCall (spD K R) [] E tr) tb)) ρ o := fun A σ H D l hE c =>
  ht A σ H l hE _ fun H1 s1 => iteT (xs_retCall ha h ho A σ H1 D (l.same s1) (hE.same (cut_same s1)) (by
    cases o with
    | nx r => exact fun σ' H' s e => c σ' H' (s1.trans s) e
    | rt d => exact fun v H' s e => c v H' (s1.trans s) e
    | ex C => exact fun H' s => c H' (s1.trans s)))
theorem xs_retIfF {R : List PyData → Out → Prop} {tr : TA} {ds : List PyData} {o : Out} (ht : EvT K t ρ false) (ha : EvA K tr ρ ds) (h : R ds o) (ho : ∀ r, o ≠ .nx r := by intro r; first | (intro z; cases z) | skip) : ExS K E (tRet (tIf t ta (tCall (spD K R) [] E tr))) ρ o := fun A σ H D l hE c =>
  ht A σ H l hE _ fun H1 s1 => iteF (xs_retCall ha h ho A σ H1 D (l.same s1) (hE.same (cut_same s1)) (by
    cases o with
    | nx r => exact fun σ' H' s e => c σ' H' (s1.trans s) e
    | rt d => exact fun v H' s e => c v H' (s1.trans s) e
    | ex C => exact fun H' s => c H' (s1.trans s)))
/-! ### _law_pick -/
def P_law_pick : List PyData → Prop := fun ds => ∃ xs, ds = [.list xs] ∧ xs ≠ [] ∧ xs.length ≤ 100000
def R_law_pick : List PyData → PyData → Prop := fun ds d => ∃ xs, ds = [.list xs] ∧ d ∈ xs
def sp_law_pick (K : PySem.W.Frag) : Sp := spT K 1 P_law_pick R_law_pick
def t_law_pick (K : PySem.W.Frag) (E : XK) : TS := (tRet (tOp (rIx K) (tVar 2) (tCall (sp_law_draw K) [] E0 (tCons (tVar 0) (tCons (tVar 1) (tCons (tCB (rLenU K) (tCons (tVar 2) tNil)) tNil))))))
theorem pure_law_pick {vs : List V} {H : Hp} {Q : VK} (hs : sp_law_pick K vs H Q E) : t_law_pick K E { nx := fun _ H' => Q .non H', rt := Q } (L2.start ["script", "town", "choices"] vs) H :=
  sp_bodyT (fun tn ns ds h => by
    obtain ⟨xs, rfl, hne, hl⟩ := h
    have hpos : 0 < xs.length := List.length_pos_iff.mpr hne
    refine ExW.mono (xw_ret (R := fun d => d ∈ xs) (ew_op (n := 0) (m := 1) (Ra := (· = .list xs)) (Rb := fun d => ∃ r : Int, d = .int r ∧ 0 ≤ r ∧ r < (xs.length : Int)) (ew_pure (ev_var rfl)) (ew_draw (k := (xs.length : Int)) rfl rfl (ev_cb (ea_cons (ev_var rfl) ea_nil) ca_lenL) (by omega) (by omega)) (fun d e hd he => ?_))) (by omega) (fun _ z => z) (fun d hd => ⟨xs, rfl, hd⟩)
    obtain ⟨r, rfl, h0, h1⟩ := he
    subst hd
    have hr : r.toNat < xs.length := by omega
    exact ⟨xs[r.toNat], od_ixL (atI_of h0 (List.getElem?_eq_getElem hr)), List.getElem_mem hr⟩) hs
/-- script, town and a list to pick of -/
theorem ew_pick {E' : XK} {tn : Addr} {ns : List Int} {R : PyData → Prop} {tl : TE} {i j : Nat} {xs : List PyData} (hi : ρ[i]? = some (some (scrD ns))) (hj : ρ[j]? = some (some (adrD tn))) (hk : EvD K tl ρ (.list xs)) (hne : xs ≠ []) (hl : xs.length ≤ 100000) (hR : ∀ d ∈ xs, R d) :
    EvW K tn ns (tCall (sp_law_pick K) [] E' (tCons (tVar i) (tCons (tVar j) (tCons tl tNil)))) ρ 1 R :=
  ew_town (P := P_law_pick) (Rt := R_law_pick) hi hj hk ⟨xs, rfl, hne, hl⟩ (fun e ⟨ys, h1, h2⟩ => hR e (by
    have : xs = ys := by simpa using h1
    rw [this]; exact h2))
/-! ### outcomes -/
theorem ev_outR {Rc : List PyData → Out → Prop} {a : PyData} {f : PyData} (h1 : EvD K ta ρ a) (h2 : EvD K tb ρ d) (h : Rc [a, d] (.rt f)) : EvD K (tCall (spD K (R_outcome K Rc)) [] E0 (tCons ta (tCons tb tNil))) ρ (retD f) :=
  ev_call (ea_cons h1 (ea_cons h2 ea_nil)) ⟨rfl, .inl ⟨f, h, rfl⟩⟩
theorem ev_outX {Rc : List PyData → Out → Prop} {a : PyData} {C : Addr} {k : Nat} (h1 : EvD K ta ρ a) (h2 : EvD K tb ρ d) (h : Rc [a, d] (.ex C)) (hE : ErrIs K C k) : EvD K (tCall (spD K (R_outcome K Rc)) [] E0 (tCons ta (tCons tb tNil))) ρ (raisedD k) :=
  ev_call (ea_cons h1 (ea_cons h2 ea_nil)) ⟨rfl, .inr ⟨C, k, h, hE, rfl⟩⟩
theorem ev_raises {w : Str} (k : Nat) (hk : k < 15) (hw : w = errWords.getD k "") : EvD K (tCall (sp_law_raises K) [] E0 (tCons (tC (.str w)) tNil)) ρ (raisedD k) :=
  ev_call (ea_cons ev_str ea_nil) ⟨k, hk, by rw [hw], rfl⟩
theorem sh_raised {n k : Nat} : Sh (n + 1) (raisedD k) := sh_tup fun d hd => by
  rcases List.mem_cons.mp hd with e | e
  · rw [e]; exact ⟨by simp only [PyData.canLay0]; decide +kernel, by simp [PyData.depth]⟩
  · rw [List.mem_singleton.mp e]; exact sh_int
theorem sh_ret {n : Nat} (h : Sh n d) : Sh (n + 1) (retD d) := sh_tup fun e he => by
  rcases List.mem_cons.mp he with e | e
  · rw [e]; exact ⟨by simp only [PyData.canLay0]; decide +kernel, by simp [PyData.depth]⟩
  · rw [List.mem_singleton.mp e]; exact h
theorem eq_refl {n : Nat} (h : Sh n d) : PyData.eqv d d = true := SeqAt.eqv_refl d h.1
/-- a for that only looks at each -/
theorem xs_forEach {wi : TI} {ts tz : TS} {o : Out} {j : Nat} {xs : List PyData} (hi : ItD K wi ρ xs) (hj : j < ρ.length) (hb : ∀ x ∈ xs, ExS K E ts (ρ.set j (some x)) (.nx (ρ.set j (some x)))) (hz : ∀ q : Option PyData, ExS K E tz (ρ.set j q) o) : ExS K E (tSeq (tFor wi (gName j) ts) tz) ρ o := by
  have hr0 : ρ.set j ((ρ[j]?).getD none) = ρ := by
    rw [List.getElem?_eq_getElem hj]
    show ρ.set j ρ[j] = ρ
    rw [List.set_getElem_self]
  have hi' : ItD K wi ρ (xs.map fun x => x) := by rw [List.map_id']; exact hi
  refine xs_seq (xs_for (ws := [j]) xs (fun x => x) (fun i => ρ.set j (if i = 0 then (ρ[j]?).getD none else xs[i - 1]?)) (fun i => ρ.set j (xs[i]?)) hi' ?_ (fun i h => ?_) (fun i h => ?_)) (hz _)
  · show ρ.set j (if 0 = 0 then _ else _) = ρ
    rw [if_pos rfl]; exact hr0
  · have := tg_name (K := K) (i := j) (d := xs[i]) (ρ := ρ.set j (if i = 0 then (ρ[j]?).getD none else xs[i - 1]?))
    rw [List.set_set] at this
    show TgD K (gName j) xs[i] _ (ρ.set j xs[i]?) [j]
    rw [List.getElem?_eq_getElem h]
    exact this
  · show ExS K E ts (ρ.set j xs[i]?) (.nx (ρ.set j (if i + 1 = 0 then _ else xs[i + 1 - 1]?)))
    rw [if_neg (by omega), Nat.add_sub_cancel, List.getElem?_eq_getElem h]
    exact hb _ (List.getElem_mem h)
/-- the law's promise where errors are caught -/
def spLawE (K : PySem.W.Frag) : Sp := fun vs H Q E => Errs K ∧ spLaw K vs H Q E
end
end Lc

set_option Elab.async false
set_option linter.all false
set_option maxRecDepth 100000
set_option maxHeartbeats 4000000
namespace Lc
open PySem L2 PySem.Spec PyProof.Rows
/-! ### enumerate of a tuple -/
def IteT (K : PySem.W.Frag) (a : Addr) : It :=
  ⟨fun i H => ∃ (xs : List V) (x : V), SqT K H a xs ∧ xs[i]? = some x, fun i H v H' => ∃ T x, v = .ref T ∧ H T = none ∧ H' = upd H T (.tup [.int (i : Nat), x]) ∧ ∀ xs, SqT K H a xs → xs[i]? = some x, fun i H => ∃ xs : List V, SqT K H a xs ∧ xs.length = i⟩
set_option maxHeartbeats 1000000 in
theorem meets_enumB {v : Value} {o : Obj} {H : Heap → Prop} (B : Begins v o H) :
    Meets (Builtin.«enumerate.__new__» ⟨[.type "enumerate", v], []⟩) (fun _ R s => H s.heap ∧
      R (.ok (.ret (.ref (s.heap.push o).objs.size))) { s with heap := (s.heap.push o).push { cls := .type "enumerate", data := .fields #[.none, .bool false, .ref s.heap.objs.size, rawInt 0, .none, .none] } }) :=
  .of_wp fun prog w A R s h => by
    obtain ⟨hp, g, d, tk, os⟩ := s
    obtain ⟨h1, h⟩ := h
    have hsub := sub_enumerate
    have begin_ : ∀ {A' : Around} {E : Value → Shared → Prop} {Q : Value → Shared → Prop}, Q (.ref hp.objs.size) ⟨hp.push o, g, d, tk, os⟩ → wpAny (model prog w) A' (pyIter v) Q E ⟨hp, g, d, tk, os⟩ :=
      fun q => B.iter prog w _ _ ⟨hp, g, d, tk, os⟩ _ h1 q
    wp_walk using begin_
    refine wpAny_stack_any fun st => wpAny_pure ?_
    split
    · rename_i c _ _ _ _ _
      cases (c == Value.type "enumerate")
      · wp_walk using begin_
        exact ⟨_, rfl, h⟩
      · wp_walk using begin_
        exact ⟨_, rfl, h⟩
    · wp_walk using begin_
      exact ⟨_, rfl, h⟩
theorem call_enumT {prog : Program} {w : World} {A : Around} {E : Value → Shared → Prop} {s : Shared} {v : Value} {o : Obj} {H : Heap → Prop} {Q : Value → Shared → Prop} (B : Begins v o H) (h1 : H s.heap)
    (h : ∀ h', IsEnum h' (s.heap.objs.size + 1) s.heap.objs.size 0 .none → h'.get? s.heap.objs.size = some o → h'.objs.size = s.heap.objs.size + 2 → (∀ b o, s.heap.get? b = some o → h'.get? b = some o) → Q (.ref (s.heap.objs.size + 1)) { s with heap := h' }) :
    wpAny (model prog w) A (call (.type "enumerate") [v]) Q E s := by
  refine callType_new F.called_enumerate (by decide) (F.typeCall_enumerate_1 _) (F.newCall_enumerate_1 _) (fun obj => F.args_object_init_2 obj _) F.entry_enumerate_new (meets_enumB B) ⟨h1, ?_⟩
  have hz : (s.heap.push o).objs.size = s.heap.objs.size + 1 := Heap.size_push ..
  show _ ∧ _
  rw [hz]
  have he : IsEnum ((s.heap.push o).push { cls := .type "enumerate", data := .fields #[.none, .bool false, .ref s.heap.objs.size, rawInt 0, .none, .none] }) (s.heap.objs.size + 1) s.heap.objs.size 0 .none := by
    have := Heap.get?_push_size (s.heap.push o) (o := { cls := .type "enumerate", data := .fields #[.none, .bool false, .ref s.heap.objs.size, rawInt 0, .none, .none] }) rfl
    rw [hz] at this
    exact this
  exact ⟨⟨_, he, rfl⟩, h _ he (Heap.get?_push_of_some _ (Heap.get?_push_size _ B.free)) (by rw [Heap.size_push, hz]) fun b o x => Heap.get?_push_of_some _ (Heap.get?_push_of_some _ x)⟩
theorem turn_enumT {P : Program} {w : World} {K : PySem.W.Frag} {elts : List Expr} {kk : Nat} {tpos : Pos} (a e it : Addr) (hae : a ≠ e) (hai : a ≠ it) :
    Turn P w K (.Tuple elts kk tpos) (IteT K a) [e, it] e (fun i h => (∃ old, IsEnum h e it ((i : Nat) : Int) old) ∧ h.IsTupleIter it a i ∧ e ≠ it) where
  mem := by simp
  obj := fun i h st b hb => by
    obtain ⟨⟨old, he⟩, ⟨o, ho, hc, hd⟩, _⟩ := st
    have e' : b = e ∨ b = it := by simpa using hb
    rcases e' with z | z
    · rw [z]; exact ⟨_, he, fun v q => nomatch q⟩
    · rw [z]; exact ⟨o, ho, fun v q => by rw [hd] at q; cases q⟩
  keep := fun i h h' st k => let ⟨⟨old, he⟩, hi, hne⟩ := st; ⟨⟨old, k e (by simp) _ he⟩, hi.at fun o q => k it (by simp) o q, hne⟩
  item := by
    intro X hP hw hK hc i pins s σ H E I hf st hg
    subst hP hw hK
    obtain ⟨⟨old, he⟩, hit, hne⟩ := st
    obtain ⟨xs, x, hq, hx⟩ := hg
    obtain ⟨its, rv, p, hz⟩ := I.tuple hq
    obtain ⟨u, hu, ru⟩ := rv.get hx
    have hel : e < s.heap.objs.size := Heap.lt_size he
    have hil : it < s.heap.objs.size := by obtain ⟨_, q, _⟩ := hit; exact Heap.lt_size q
    have hu' : its.toArray[i]? = some u := by simpa using hu
    have hlt : i < its.toArray.size := by
      obtain ⟨q, _⟩ := Array.getElem?_eq_some_iff.mp hu'
      exact q
    refine wpAny_pyNext_enum_itemD (A := X.A) (Draws.tuple (A := X.A.in1) (I.ok.hd hc) it a hai its.toArray) he ⟨hit, p⟩ hlt hne (by
      intro hm
      rcases List.mem_cons.mp hm with z | z
      · exact hne z
      · exact hae (List.mem_singleton.mp z).symm) fun y h' tk hy ho st' hT hsz hk => ?_
    have ey : y = u := by rw [hu'] at hy; exact (Option.some.inj hy).symm
    subst ey
    refine ⟨_, rfl, wpAny_letOwnedTupleGo_enum (s := { s with heap := h', toks := tk + 1 }) ho fun h'' he' sb => ?_⟩
    have hT2 : h''.get? s.heap.objs.size = some { cls := .type "tuple", data := .seq #[.int i tk, y] } := (sb.2 _ (Nat.ne_of_gt hel)).trans hT
    have new : ObjOk X.prog X.w (upd H s.heap.objs.size (.tup [.int (i : Nat), x])) h'' s.heap.objs.size (.tup [.int (i : Nat), x]) :=
      ⟨by show 2 ≤ sizeLine; decide, [.int i tk, y], .cons ⟨_, rfl⟩ (.cons ru .nil), ⟨_, hT2, rfl, _, rfl⟩⟩
    have I1 : L2.Inv X pins σ (upd H s.heap.objs.size (.tup [.int (i : Nat), x])) { s with heap := h'', toks := tk + 1 } :=
      I.turnedNew (ch := [e, it]) (fun b ob hb q => (sb.2 b (fun z => hb (by simp [z]))).trans (hk b ob (fun z => hb (by simp [z])) (fun z => hb (by simp [z])) q)) hf (Nat.le_refl _) new
    refine ⟨.ref s.heap.objs.size, _, I1, rfl, ⟨_, x, rfl, I.hok.fresh (Nat.le_refl _), rfl, fun ys hy => by rw [I.tuple_inj hy hq]; exact hx⟩, ⟨⟨y, ?_⟩, st'.1.at fun o q => (sb.2 it (Ne.symm hne)).trans q, hne⟩, fun b hb => ?_⟩
    · have e1 : ((i + 1 : Nat) : Int) = (i : Int) + 1 := by omega
      rw [e1]; exact he'
    · have hb' : b < s.heap.objs.size := by
        have e' : b = e ∨ b = it := by simpa using hb
        rcases e' with z | z
        · rw [z]; exact hel
        · rw [z]; exact hil
      rw [upd_ne (Nat.ne_of_lt hb')]
      exact (hf b hb).1
  done := by
    intro X hP hw hK hc i pins s σ H E I hf st hg
    subst hP hw hK
    obtain ⟨⟨old, he⟩, hit, hne⟩ := st
    obtain ⟨xs, hq, hx⟩ := hg
    obtain ⟨its, rv, p, hz⟩ := I.tuple hq
    obtain ⟨f0, f1, f2, f3, f4, f5⟩ := hf it (by simp)
    have hl : its.toArray.size = i := by have := rv.length; simp; omega
    refine wpAny_pyNext_enum_endD (A := X.A) (Draws.tuple (A := X.A.in1) (I.ok.hd hc) it a hai its.toArray) he ⟨by rw [hl]; exact hit, p⟩ fun h' eb => ?_
    exact ⟨rfl, I.turned (t' := s.toks) (fun b o hb q => eb b o hb q) f0 f1 f3 f4 f5⟩
  self := fun A i s Q E st h => let ⟨⟨_, he⟩, _⟩ := st; wpAny_pyIter_enum he h
def iEnumT (K : PySem.W.Frag) (ta : TA) : TI := fun σ H R => ta σ H fun vs H1 => ∃ a xs, vs = [.ref a] ∧ SqT K H1 a xs ∧ R (IteT K a) H1
theorem pi_enumT {X : Cx} {e : Expr} {ta : TA} {p pos tpos : Pos} {elts : List Expr} {kk : Nat} (hg : Gl X "enumerate") (hm : X.mg "enumerate" = none) (ha : PA X [e] ta) (hs : starEach [e] X.env = [(false, eval e X.env)] := by rfl) :
    PI X (.Tuple elts kk tpos) (.Call (.Name "enumerate" p) [e] [] pos) (iEnumT X.K ta) := by
  refine ⟨fun pins s σ H R I h => ?_⟩
  refine Call_ (ld_blt I hg hm boot_enumerate (PyProof.Rows.callWith_type1 (thn (ha.run pos pins s σ H _ I h) fun us s1 ⟨vs, H1, I1, r1, q1⟩ => ?_) hs rfl))
  obtain ⟨a, xs, ex, hq, q⟩ := q1
  subst ex
  cases r1 with
  | cons r rr =>
    cases rr
    cases r
    obtain ⟨its, rv, p', hz⟩ := I1.tuple hq
    have hlt : a < s1.heap.objs.size := by
      obtain ⟨o, ho, _⟩ := p'
      exact Heap.lt_size ho
    refine call_enumT (begins_tuple a its.toArray) p' fun h' he hit hsz hk => wpAny_pyIter_enum he ?_
    have I2 : L2.Inv X pins σ H1 { s1 with heap := h' } := I1.kept (t' := s1.toks) hk
    refine ⟨s1.heap.objs.size + 1, [s1.heap.objs.size + 1, s1.heap.objs.size], _, _, H1, rfl, I2, turn_enumT a (s1.heap.objs.size + 1) s1.heap.objs.size (Nat.ne_of_lt (Nat.lt_succ_of_lt hlt)) (Nat.ne_of_lt hlt), ⟨⟨.none, he⟩, ⟨_, hit, rfl, rfl⟩, Nat.succ_ne_self _⟩, fun b hb => ?_, q⟩
    have e' : b = s1.heap.objs.size + 1 ∨ b = s1.heap.objs.size := by simpa using hb
    have hle : s1.heap.objs.size ≤ b := by
      rcases e' with z | z
      · rw [z]; exact Nat.le_add_right _ _
      · rw [z]; exact Nat.le_refl _
    exact I1.fpOk hle (I1.hok.fresh hle)
/-- enumerate of a list or a tuple -/
def iEnumU (K : PySem.W.Frag) (ta : TA) : TI := fun σ H R => iEnum K ta σ H R ∨ iEnumT K ta σ H R
theorem pi_enumU {X : Cx} {e : Expr} {ta : TA} {p pos tpos : Pos} {elts : List Expr} {kk : Nat} (hg : Gl X "enumerate") (hm : X.mg "enumerate" = none) (ha : PA X [e] ta) (hs : starEach [e] X.env = [(false, eval e X.env)] := by rfl) :
    PI X (.Tuple elts kk tpos) (.Call (.Name "enumerate" p) [e] [] pos) (iEnumU X.K ta) := ⟨fun pins s σ H R I h => by
  rcases h with h | h
  · exact (pi_enum hg hm ha hs).run pins s σ H R I h
  · exact (pi_enumT hg hm ha hs).run pins s σ H R I h⟩
section
variable {K : PySem.W.Frag} {ρ : Rho} {ta : TE}
theorem itok_enumT {A : List Addr} {a : Addr} {xs : List V} {ds : List PyData} {H1 : Hp} (h1 : Rd (cut A H1) a (.tup xs)) (h2 : DqAll K (cut A H1) xs ds) : ItOk K A (IteT K a) (enumD ds) H1 where
  goes := fun i H hi k => by
    have hl : i < xs.length := by rw [h2.length]; simpa [enumD, zipD, rngD_len] using hi
    exact ⟨xs, xs[i], sqt_same (k.cut.trans same_cut) (.inl h1), List.getElem?_eq_getElem hl⟩
  stops := fun H k => ⟨xs, sqt_same (k.cut.trans same_cut) (.inl h1), by rw [h2.length]; simp [enumD, zipD, rngD_len]⟩
  yields := fun i H x H' B hi k l o y => by
    obtain ⟨T, x', rfl, hT, rfl, hx⟩ := y
    have hx' := hx xs (sqt_same (k.cut.trans same_cut) (.inl h1))
    obtain ⟨d, hd, hq⟩ := h2.getV hx'
    have hi' : i < ds.length := by
      obtain ⟨q, _⟩ := List.getElem?_eq_some_iff.mp hd
      exact q
    have s : Same (cut A H1) (cut B (upd H T (.tup [.int (i : Nat), x']))) := (o.cut k).trans (cut_same (same_new hT))
    refine ⟨same_new hT, .tuple [.int (0 + (i : Int)), d], zipD_at (rngD_at hi') hd, .tup (.inl (cut_new l hT)) (.cons ?_ (.cons (dp_same s hq) .nil))⟩
    rw [Int.zero_add]
    exact .int _
theorem it_enumT {ds : List PyData} (h : EvD K ta ρ (.tuple ds)) : ItD K (iEnumU K (tCons ta tNil)) ρ (enumD ds) := fun A σ H l hE R q => .inr (ea_cons h ea_nil A σ H l hE _ fun vs H1 s1 hv => by
  cases hv with
  | cons h1 h2 =>
    cases h2
    cases h1 with
    | tup k1 k2 => exact ⟨_, _, rfl, sqt_cut k1, q _ H1 s1 (itok_enumT k1 k2)⟩)
end
end Lc

set_option Elab.async false
set_option linter.all false
set_option maxRecDepth 100000
set_option maxHeartbeats 4000000
namespace Lc
open PySem L2 PySem.Spec PyProof.Rows
/-! ### dicts with int keys -/
def dI (ks : List Int) (ds : List PyData) : PyData := dctD (ks.map Sum.inl) ds
def lkI : List Int → List PyData → Int → Option PyData
  | k' :: ks, d :: ds, k => if k' = k then some d else lkI ks ds k
  | _, _, _ => none
section
variable {K : PySem.W.Frag} {F : Hp} {ρ : Rho} {ta tb : TE} {d : PyData}
theorem zip_inj : ∀ {ks ls : List Key} {ds es : List PyData}, ks.length = ds.length → ls.length = es.length → (ks.map keyD).zip ds = (ls.map keyD).zip es → ks = ls ∧ ds = es
  | [], [], [], [], _, _, _ => ⟨rfl, rfl⟩
  | [], [], [], _ :: _, _, h, _ => by simp at h
  | [], [], _ :: _, _, h, _, _ => by simp at h
  | [], l :: ls, [], e :: es, _, _, h => by simp at h
  | [], l :: ls, [], [], _, h, _ => by simp at h
  | [], l :: ls, d :: ds, _, h, _, _ => by simp at h
  | k :: ks, [], d :: ds, [], _, _, h => by simp at h
  | k :: ks, [], d :: ds, e :: es, _, h, _ => by simp at h
  | k :: ks, _, [], _, h, _, _ => by simp at h
  | k :: ks, l :: ls, d :: ds, [], _, h, _ => by simp at h
  | k :: ks, l :: ls, d :: ds, e :: es, h1, h2, h => by
    simp only [List.map_cons, List.zip_cons_cons, List.cons.injEq, Prod.mk.injEq] at h
    obtain ⟨e1, e2⟩ := zip_inj (by simpa using h1) (by simpa using h2) h.2
    have ek : k = l := by
      have := h.1.1
      cases k <;> cases l <;> simp [keyD] at this <;> rw [this]
    exact ⟨by rw [ek, e1], by rw [h.1.2, e2]⟩
theorem Dq.dI_inv {v : V} {ks : List Int} {ds : List PyData} (hl : ks.length = ds.length) (h : Dq K F v (dI ks ds)) : ∃ a kvs, v = .ref a ∧ F a = some (.dK kvs) ∧ kvs.map (·.1) = ks.map Sum.inl ∧ DqAll K F (kvs.map (·.2)) ds := by
  generalize e : dI ks ds = x at h
  cases h with
  | dct h1 h2 =>
    rename_i a kvs es
    have e' : (((ks.map Sum.inl).map keyD).zip ds) = (((kvs.map (·.1)).map keyD).zip es) := by
      unfold dI dctD at e
      exact PyData.dict.inj e
    have hes : (kvs.map (·.1)).length = es.length := by rw [← h2.length, List.length_map, List.length_map]
    obtain ⟨e1, e2⟩ := zip_inj (by rw [List.length_map]; exact hl) hes e'
    subst e2
    exact ⟨a, kvs, rfl, h1, e1.symm, h2⟩
  | scr h1 => exact (dctD_ne e.symm).elim
  | adr a => exact (dctD_ne e.symm).elim
  | exc h1 => exact (dctD_ne e.symm).elim
  | ty n => exact (dctD_ne e.symm).elim
  | ftp h1 h2 h3 => exact (dctD_ne e.symm).elim
  | ptp h1 h2 => exact (dctD_ne e.symm).elim
  | _ => cases e
theorem val_dq {k : Int} : ∀ {kvs : List (Key × V)} {ks : List Int} {ds : List PyData}, kvs.map (·.1) = ks.map Sum.inl → DqAll K F (kvs.map (·.2)) ds → (∀ d, lkI ks ds k = some d → ∃ v, valV kvs (Sum.inl k : Key) = some v ∧ Dq K F v d) ∧ (lkI ks ds k = none → valV kvs (Sum.inl k : Key) = none)
  | [], [], ds, _, h => ⟨fun d z => by simp [lkI] at z, fun _ => rfl⟩
  | [], _ :: _, _, h, _ => by simp at h
  | _ :: _, [], _, h, _ => by simp at h
  | p :: kvs, k' :: ks, ds, hk, h => by
    cases h with
    | cons h1 h2 =>
      simp only [List.map_cons, List.cons.injEq] at hk
      obtain ⟨r1, r2⟩ := val_dq (k := k) hk.2 h2
      by_cases e : k' = k
      · have ep : p.1 = (Sum.inl k : Key) := by rw [hk.1, e]
        refine ⟨fun d hd => ?_, fun hn => ?_⟩
        · simp only [lkI, if_pos e, Option.some.injEq] at hd
          subst hd
          exact ⟨p.2, valV_pos ep, h1⟩
        · simp only [lkI, if_pos e] at hn
          cases hn
      · have ep : ¬ p.1 = (Sum.inl k : Key) := by rw [hk.1]; intro z; exact e (Sum.inl.inj z)
        refine ⟨fun d hd => ?_, fun hn => ?_⟩
        · simp only [lkI, if_neg e] at hd
          rw [valV_neg ep]
          exact r1 d hd
        · simp only [lkI, if_neg e] at hn
          rw [valV_neg ep]
          exact r2 hn
theorem ev_dget {ks : List Int} {ds : List PyData} {k : Int} (hl : ks.length = ds.length) (h : EvD K ta ρ (dI ks ds)) (h' : EvD K tb ρ (.int k)) (hk : lkI ks ds k = some d) : EvD K (tDGet ta tb) ρ d := fun A σ H l hE Q q =>
  h A σ H l hE _ fun v H1 s1 hv => h' A σ H1 (l.same s1) (hE.same (cut_same s1)) _ fun w H2 s2 hw => by
    cases hw
    obtain ⟨a, kvs, rfl, ha, hkk, hd⟩ := (dp_same (cut_same s2) hv).dI_inv hl
    obtain ⟨v, hv1, hv2⟩ := (val_dq (k := k) hkk hd).1 d hk
    refine ⟨a, v, rfl, ?_, q v H2 (s1.trans s2) hv2⟩
    rw [← hv1]
    exact DGet.k (k := Sum.inl k) (same_cut _ _ ha)
theorem et_din {ks : List Int} {ds : List PyData} {k : Int} (hl : ks.length = ds.length) (h : EvD K ta ρ (dI ks ds)) (h' : EvD K tb ρ (.int k)) : EvT K (tB (tDIn tb ta)) ρ (lkI ks ds k).isSome := et_B fun A σ H l hE Q q =>
  h' A σ H l hE _ fun w H1 s1 hw => h A σ H1 (l.same s1) (hE.same (cut_same s1)) _ fun v H2 s2 hv => by
    cases hw
    obtain ⟨a, kvs, rfl, ha, hkk, hd⟩ := hv.dI_inv hl
    refine ⟨a, valV kvs (Sum.inl k : Key), rfl, DGet.k (k := Sum.inl k) (same_cut _ _ ha), ?_⟩
    have e : (valV kvs (Sum.inl k : Key)).isSome = (lkI ks ds k).isSome := by
      cases hz : lkI ks ds k with
      | none => rw [(val_dq (k := k) hkk hd).2 hz]; rfl
      | some d => obtain ⟨v, hv1, _⟩ := (val_dq (k := k) hkk hd).1 d hz; rw [hv1]; rfl
    rw [e]
    exact q _ H2 (s1.trans s2) (.bl _)
def rDictP (K : PySem.W.Frag) : List V → Hp → VK → Prop := fun xs H Q => ∃ (a : Addr) (ps : List Addr) (kvs : List (Key × V)), xs = [.ref a] ∧ SqL K H a (ps.map V.ref) ∧ Paired (fun p kv => SqT K H p [kV kv.1, kv.2]) ps kvs ∧ ∀ p, H p = none → Q (.ref p) (upd H p (.dK (mergeK [] kvs)))
theorem cr_dictP {X : Cx} (hc : X.calm = true) : CallR X (.type "dict") (rDictP X.K) := call_dictP hc
def pairsI (ks : List Int) (ds : List PyData) : List PyData := (ks.zip ds).map fun p => .tuple [.int p.1, p.2]
theorem pairs_dq {A : List Addr} {H : Hp} : ∀ {xs : List V} {ks : List Int} {ds : List PyData}, ks.length = ds.length → DqAll K (cut A H) xs (pairsI ks ds) → ∃ (ps : List Addr) (kvs : List (Key × V)), xs = ps.map V.ref ∧ Paired (fun p kv => SqT K H p [kV kv.1, kv.2]) ps kvs ∧ kvs.map (·.1) = ks.map Sum.inl ∧ DqAll K (cut A H) (kvs.map (·.2)) ds
  | xs, [], [], _, h => by
    have h' : DqAll K (cut A H) xs [] := h
    cases h'
    exact ⟨[], [], rfl, .nil, rfl, .nil⟩
  | _, [], _ :: _, h, _ => by simp at h
  | _, _ :: _, [], h, _ => by simp at h
  | xs, k :: ks, d :: ds, hl, h => by
    have h' : DqAll K (cut A H) xs (.tuple [.int k, d] :: pairsI ks ds) := h
    cases h' with
    | cons h1 h2 =>
      obtain ⟨ps, kvs, e, hp, hk, hd⟩ := pairs_dq (by simpa using hl) h2
      obtain ⟨a, ys, rfl, ha, hys⟩ := h1.tupI
      cases hys with
      | cons q1 q2 =>
        cases q2 with
        | cons q2 q3 =>
          cases q3
          cases q1
          rename_i v
          exact ⟨a :: ps, (Sum.inl k, v) :: kvs, by rw [e]; rfl, .cons (sqt_cut ha) hp, by rw [List.map_cons, hk]; rfl, .cons q2 hd⟩
theorem merge_nodup : ∀ (kvs acc : List (Key × V)), ((acc ++ kvs).map (·.1)).Nodup → kvs.foldl (fun acc kv => putK acc kv.1 kv.2) acc = acc ++ kvs
  | [], acc, _ => by simp
  | p :: kvs, acc, h => by
    have hn : valV acc p.1 = none := by
      cases hz : valV acc p.1 with
      | none => rfl
      | some v =>
        exfalso
        have hm : p.1 ∈ acc.map (·.1) := by
          have : (acc.any fun kv => decide (kv.1 = p.1)) = true := by rw [valV_any, hz]; rfl
          obtain ⟨q, hq, e⟩ := List.any_eq_true.mp this
          exact List.mem_map.mpr ⟨q, hq, of_decide_eq_true e⟩
        rw [List.map_append, List.map_cons] at h
        exact (List.nodup_append.mp h).2.2 _ hm _ (by simp) rfl
    rw [List.foldl_cons, putK_new _ hn, merge_nodup kvs _ (by rw [List.append_assoc]; exact h), List.append_assoc]
    rfl
theorem ca_dictI {ks : List Int} {ds : List PyData} (hl : ks.length = ds.length) (hn : ks.Nodup) : CaD K (rDictP K) [.list (pairsI ks ds)] (dI ks ds) := fun A xs H l hx Q q => by
  cases hx with
  | cons h1 h2 =>
    cases h2
    obtain ⟨a, ys, rfl, ha, hys⟩ := h1.listI
    obtain ⟨ps, kvs, rfl, hp, hk, hd⟩ := pairs_dq hl hys
    refine ⟨a, ps, kvs, rfl, SqL.of (same_cut _ _ ha), hp, fun p hnew => ?_⟩
    have e : mergeK [] kvs = kvs := by
      unfold mergeK
      rw [merge_nodup kvs [] ?_]
      · rfl
      · rw [List.nil_append, hk]
        have : (ks.map (Sum.inl : Int → Key)).Nodup := by
          rw [List.Nodup, List.pairwise_map]
          exact List.Pairwise.imp (fun h z => h (Sum.inl.inj z)) hn
        exact this
    rw [e]
    refine q _ _ (same_new hnew) ?_
    have := Dq.dct (K := K) (H := cut A (upd H p (.dK kvs))) (a := p) (kvs := kvs) (ds := ds) (cut_new l hnew) (dpall_same (cut_same (same_new hnew)) hd)
    rw [hk] at this
    exact this
end
end Lc

set_option Elab.async false
set_option linter.all false
set_option maxRecDepth 100000
set_option maxHeartbeats 4000000
namespace Lc
open PySem L2 PySem.Spec PyProof.Rows
/-! ### a list that is appended to: its address is kept apart -/
def Box (K : PySem.W.Frag) (A : List Addr) (b : Addr) (ds : List PyData) (H : Hp) : Prop := ∃ xs, H b = some (.lst xs) ∧ DqAll K (cut A H) xs ds
def ExB (K : PySem.W.Frag) (b : Addr) (ts : TS) (ρ : Rho) (ds : List PyData) (ρ' : Rho) (ds' : List PyData) : Prop :=
  ∀ A σ H (D : Ends), Live A H → b ∈ A → Box K A b ds H → EnvD K (cut A H) σ ρ → (∀ σ' H', Keep [b] H H' → Box K A b ds' H' → EnvD K (cut A H') σ' ρ' → D.nx σ' H') → ts D σ H
section
variable {K : PySem.W.Frag} {b : Addr} {ρ ρ1 ρ2 : Rho} {ds ds1 ds2 : List PyData} {ts tz : TS} {E : XK} {t : TT} {ta te : TE} {d : PyData}
theorem Box.same {A : List Addr} {H H' : Hp} (h : Box K A b ds H) (s : Same H H') : Box K A b ds H' := by
  obtain ⟨xs, h1, h2⟩ := h
  exact ⟨xs, s _ _ h1, dpall_same (cut_same s) h2⟩
theorem box_live {A : List Addr} {H H' : Hp} (l : Live A H) (k : Keep [b] H H') (h : Box K A b ds H') : Live A H' := fun a ha e => by
  by_cases z : a = b
  · obtain ⟨xs, h1, _⟩ := h
    rw [z, h1] at e; cases e
  · cases q : H a with
    | none => exact l a ha q
    | some o => rw [k a o (by simpa using z) q] at e; cases e
theorem xb_pure (h : ExS K E ts ρ (.nx ρ1)) : ExB K b ts ρ ds ρ1 ds := fun A σ H D l hb hB hE q =>
  h A σ H D l hE fun σ' H' s hE' => q σ' H' (Keep.of s) (hB.same s) hE'
theorem xb_seq (h1 : ExB K b ts ρ ds ρ1 ds1) (h2 : ExB K b tz ρ1 ds1 ρ2 ds2) : ExB K b (tSeq ts tz) ρ ds ρ2 ds2 := fun A σ H D l hb hB hE q =>
  h1 A σ H { D with nx := tz D } l hb hB hE fun σ' H' k hB' hE' => h2 A σ' H' D (box_live l k hB') hb hB' hE' fun σ2 H2 k2 hB2 hE2 => q σ2 H2 (k.trans k2) hB2 hE2
/-- the list seen as data -/
theorem box_view {A : List Addr} {σ : L2.St} {H : Hp} {i : Nat} (hE : EnvD K (cut A H) σ ρ) (hi : ρ[i]? = some (some (adrD b))) (hB : Box K A b ds H) : EnvD K (cut (A.filter fun a => decide (a ≠ b)) H) σ (ρ.set i (some (.list ds))) := by
  have s : Same (cut A H) (cut (A.filter fun a => decide (a ≠ b)) H) := fun a o e => by
    obtain ⟨h1, h2⟩ := cut_some e
    rw [cut_out (fun hm => h1 (List.mem_filter.mp hm).1)]
    exact h2
  obtain ⟨xs, h1, h2⟩ := hB
  obtain ⟨v, hv, hq⟩ := hE.get hi
  have ev := hq.adrI
  subst ev
  have hd : Dq K (cut (A.filter fun a => decide (a ≠ b)) H) (.ref b) (.list ds) := .lst (by
    rw [cut_out (fun hm => by have := (List.mem_filter.mp hm).2; simp at this)]
    exact h1) (dpall_same s h2)
  have := (hE.same s).set hd i
  have e : σ.set i (some (.ref b)) = σ := by
    obtain ⟨hl, he⟩ := List.getElem?_eq_some_iff.mp hv
    rw [← he, List.set_getElem_self]
  rw [e] at this
  exact this
theorem live_filter {A : List Addr} {H : Hp} {p : Addr → Bool} (l : Live A H) : Live (A.filter p) H := fun a ha e => l a (List.mem_filter.mp ha).1 e
theorem xb_if {i : Nat} {bb : Bool} (hi : ρ[i]? = some (some (adrD b))) (ht : EvT K t (ρ.set i (some (.list ds))) bb) (h1 : bb = true → ExB K b ts ρ ds ρ1 ds1) (h2 : bb = false → ExB K b tz ρ ds ρ1 ds1) : ExB K b (tIfS t ts tz) ρ ds ρ1 ds1 := fun A σ H D l hb hB hE q =>
  ht _ σ H (live_filter l) (box_view hE hi hB) _ fun H' s => by
    cases bb with
    | true => exact iteT (h1 rfl A σ H' D (l.same s) hb (hB.same s) (hE.same (cut_same s)) fun σ2 H2 k2 hB2 hE2 => q σ2 H2 ((Keep.of s).trans k2) hB2 hE2)
    | false => exact iteF (h2 rfl A σ H' D (l.same s) hb (hB.same s) (hE.same (cut_same s)) fun σ2 H2 k2 hB2 hE2 => q σ2 H2 ((Keep.of s).trans k2) hB2 hE2)
theorem xb_append {i : Nat} (hi : ρ[i]? = some (some (adrD b))) (he : EvD K te ρ d) (hz : ds.length ≤ 100000) : ExB K b (tDrop (tBM K "list" rAppend (tVar i) (tCons te tNil))) ρ ds ρ (ds ++ [d]) := fun A σ H D l hb hB hE q => by
  obtain ⟨v, hv, hq⟩ := hE.get hi
  have ev := hq.adrI
  subst ev
  obtain ⟨xs, h1, h2⟩ := id hB
  refine ⟨.ref b, hv, .inl ⟨rfl, xs, SqL.of h1⟩, he A σ H l hE _ fun w H1 s1 hw => ?_⟩
  obtain ⟨xs', h1', h2'⟩ := hB.same s1
  refine ⟨b, xs', w, rfl, rfl, h1', ?_, ?_⟩
  · have := h2'.length
    have hsl : (100001 : Nat) ≤ sizeLine := by decide
    omega
  · have k2 : Keep [b] H1 (upd H1 b (.lst (xs' ++ [w]))) := fun a o ha e => by rw [upd_ne (by simpa using ha)]; exact e
    have sc : Same (cut A H1) (cut A (upd H1 b (.lst (xs' ++ [w])))) := keep_cut hb k2
    exact q σ _ ((Keep.of s1).trans k2) ⟨_, upd_same, (dpall_same sc h2').append (.cons (dp_same sc hw) .nil)⟩ ((hE.same (cut_same s1)).same sc)
theorem xb_for {α : Type} {wi : TI} {g : TG} (xs : List α) (enc : α → PyData) (r r2 : Nat → Rho) (cs : Nat → List PyData) {ws : List Nat} (hi : ItD K wi ρ (xs.map enc)) (h0 : r 0 = ρ) (hc0 : cs 0 = ds)
    (hg : ∀ i (h : i < xs.length), TgD K g (enc xs[i]) (r i) (r2 i) ws) (hb' : ∀ i, i < xs.length → ExB K b ts (r2 i) (cs i) (r (i + 1)) (cs (i + 1))) : ExB K b (tFor wi g ts) ρ ds (r xs.length) (cs xs.length) := fun A σ H D l hb hB hE q => hi A σ H l hE _ fun J H1 s1 hJ => by
  refine ⟨fun i m σ' H' => m = xs.length - i ∧ i ≤ xs.length ∧ Keep [b] H1 H' ∧ Box K A b (cs i) H' ∧ EnvD K (cut A H') σ' (r i), ⟨xs.length, by simp, Nat.zero_le _, Keep.refl, by rw [hc0]; exact hB.same s1, by rw [h0]; exact hE.same (cut_same s1)⟩, ?_⟩
  rintro i m σ' H' ⟨rfl, hle, hk, hB', hE'⟩
  have lv : Live A H' := box_live (l.same s1) hk hB'
  have kA : Keep A H1 H' := hk.mono (B := A) (by simpa using hb)
  by_cases hlt : i < xs.length
  · refine .inr ⟨hJ.goes i H' (by simpa using hlt) kA, fun σ2 H2 => Keep [b] H1 H2 ∧ Box K A b (cs (i + 1)) H2 ∧ EnvD K (cut A H2) σ2 (r (i + 1)), fun σ2 H2 h2 => ⟨xs.length - (i + 1), by omega, rfl, hlt, h2.1, h2.2.1, h2.2.2⟩, fun x H2 hy => ?_⟩
    obtain ⟨s2, d, hd, hx⟩ := hJ.yields i H' x H2 A (by simpa using hlt) kA lv Off.refl hy
    have hdi : d = enc xs[i] := by
      rw [List.getElem?_map, List.getElem?_eq_getElem hlt] at hd
      exact (Option.some.inj hd).symm
    subst hdi
    refine hg i hlt A σ' H2 x (lv.same s2) (hE'.same (cut_same s2)) hx _ fun σ2 hE2 _ => ?_
    exact hb' i hlt A σ2 H2 _ (lv.same s2) hb (hB'.same s2) hE2 fun σ3 H3 k3 hB3 hE3 => ⟨(hk.trans (Keep.of s2)).trans k3, hB3, hE3⟩
  · have e : i = xs.length := by omega
    subst e
    exact .inl ⟨by have := hJ.stops H' kA; simpa using this, q σ' H' ((Keep.of s1).trans hk) hB' hE'⟩
/-- x, found = (e, []); a part that appends; the rest sees the list as data -/
theorem xs_boxed {i j : Nat} {o : Out} (hij : i ≠ j) (he : EvD K ta ρ d) (hj : j < ρ.length) (rr : Addr → Rho) (hr : ∀ b, (rr b)[j]? = some (some (adrD b))) (hb : ∀ b, ExB K b ts ((ρ.set i (some d)).set j (some (adrD b))) [] (rr b) ds) (hz : ∀ b, ExS K E tz ((rr b).set j (some (.list ds))) o) :
    ExS K E (tSeq (tPar i j (tCons ta (tCons (tLst tNil) tNil))) (tSeq ts tz)) ρ o := fun A σ H D l hE c =>
  he A σ H l hE _ fun v H1 s1 hv => ⟨by decide, fun p hp => by
    have sn : Same H1 (upd H1 p (.lst [])) := same_new hp
    have l2 : Live (p :: A) (upd H1 p (.lst [])) := fun a ha e => by
      rcases List.mem_cons.mp ha with z | z
      · rw [z, upd_same] at e; cases e
      · exact ((l.same s1).same sn) a z e
    have hpA : p ∉ A := (l.same s1).fresh hp
    have sc : Same (cut A H1) (cut (p :: A) (upd H1 p (.lst []))) := fun a o' e => by
      obtain ⟨h1, h2⟩ := cut_some e
      have hap : a ≠ p := fun z => by rw [z, hp] at h2; cases h2
      rw [cut_out (by
        intro hm
        rcases List.mem_cons.mp hm with z | z
        · exact hap z
        · exact h1 z), upd_ne hap]
      exact h2
    have hE2 : EnvD K (cut (p :: A) (upd H1 p (.lst []))) ((σ.set i (some v)).set j (some (.ref p))) ((ρ.set i (some d)).set j (some (adrD p))) := (((hE.same (cut_same s1)).same sc).set (dp_same sc hv) i).set (.adr p) j
    refine ⟨_, _, rfl, ?_⟩
    refine hb p (p :: A) _ _ _ l2 List.mem_cons_self ⟨[], upd_same, .nil⟩ hE2 fun σ' H' k hB' hE' => ?_
    have vw := box_view hE' (hr p) hB'
    have ef : (p :: A).filter (fun a => decide (a ≠ p)) = A := by
      rw [List.filter_cons_of_neg (by simp), List.filter_eq_self]
      intro a ha
      simp
      intro z
      exact hpA (z ▸ ha)
    rw [ef] at vw
    have lA : Live A H' := fun a ha e => box_live l2 k hB' a (List.mem_cons_of_mem _ ha) e
    have sH : Same H H' := fun a o' e => by
      have e1 := sn _ _ (s1 _ _ e)
      exact k a o' (by
        intro hm
        rw [List.mem_singleton.mp hm] at e
        rw [s1 _ _ e] at hp; cases hp) e1
    refine hz p A σ' H' D lA vw ?_
    cases o with
    | nx r => exact fun σ2 H2 s2 h2 => c σ2 H2 (sH.trans s2) h2
    | rt d => exact fun v H2 s2 h2 => c v H2 (sH.trans s2) h2
    | ex C => exact fun H2 s2 => c H2 (sH.trans s2)⟩
end
end Lc

set_option Elab.async false
set_option linter.all false
set_option maxRecDepth 100000
set_option maxHeartbeats 4000000
namespace Lc
open PySem L2 PySem.Spec PyProof.Rows
theorem units1 {k : Nat} {A : Around} (r : Room k A) : A.units + 1 < cLine := by have := r.un; omega
section
variable {K : PySem.W.Frag} {b : Addr} {ρ ρ1 ρ2 : Rho} {ds : List PyData} {ts tz : TS} {E : XK} {ta : TE} {d : PyData}
/-- x, found = (e, []) through a pair; a part that appends; the rest sees the list as data -/
theorem xs_boxedT {i j : Nat} {o : Out} (he : EvD K ta ρ d) (rr : Addr → Rho) (hr : ∀ b, (rr b)[j]? = some (some (adrD b))) (hb : ∀ b, ExB K b ts ((ρ.set i (some d)).set j (some (adrD b))) [] (rr b) ds) (hz : ∀ b, ExS K E tz ((rr b).set j (some (.list ds))) o) :
    ExS K E (tSeq (tAsg (tTup (tCons ta (tCons (tLst tNil) tNil))) (gTup K 2 (gCons (gName i) (gCons (gName j) gNil)))) (tSeq ts tz)) ρ o := fun A σ H D l hE c =>
  he A σ H l hE _ fun v H1 s1 hv => ⟨by decide, fun p hp => ⟨by show 2 ≤ sizeLine; decide, fun t ht => by
    have sn : Same H1 (upd H1 p (.lst [])) := same_new hp
    have st : Same (upd H1 p (.lst [])) (upd (upd H1 p (.lst [])) t (.tup [v, .ref p])) := same_new ht
    have htp : p ≠ t := fun z => by rw [← z, upd_same] at ht; cases ht
    have l2 : Live (p :: A) (upd (upd H1 p (.lst [])) t (.tup [v, .ref p])) := fun a ha e => by
      rcases List.mem_cons.mp ha with z | z
      · rw [z, upd_ne htp, upd_same] at e; cases e
      · exact (((l.same s1).same sn).same st) a z e
    have hpA : p ∉ A := (l.same s1).fresh hp
    have sc : Same (cut A H1) (cut (p :: A) (upd (upd H1 p (.lst [])) t (.tup [v, .ref p]))) := fun a o' e => by
      obtain ⟨h1, h2⟩ := cut_some e
      have hap : a ≠ p := fun z => by rw [z, hp] at h2; cases h2
      rw [cut_out (by
        intro hm
        rcases List.mem_cons.mp hm with z | z
        · exact hap z
        · exact h1 z)]
      exact st _ _ (sn _ _ h2)
    have htA : t ∉ p :: A := fun hm => by
      rcases List.mem_cons.mp hm with z | z
      · exact htp z.symm
      · exact ((l.same s1).same sn).fresh ht z
    have hT : Dq K (cut (p :: A) (upd (upd H1 p (.lst [])) t (.tup [v, .ref p]))) (.ref t) (.tuple [d, adrD p]) := .tup (.inl (by rw [cut_out htA, upd_same])) (.cons (dp_same sc hv) (.cons (.adr p) .nil))
    refine tg_two (p :: A) σ _ _ l2 ((hE.same (cut_same s1)).same sc) hT _ fun σ' hE2 _ => ?_
    refine hb p (p :: A) _ _ _ l2 List.mem_cons_self ⟨[], by rw [upd_ne htp, upd_same], .nil⟩ hE2 fun σ2 H' k hB' hE' => ?_
    have vw := box_view hE' (hr p) hB'
    have ef : (p :: A).filter (fun a => decide (a ≠ p)) = A := by
      rw [List.filter_cons_of_neg (by simp), List.filter_eq_self]
      intro a ha
      simp
      intro z
      exact hpA (z ▸ ha)
    rw [ef] at vw
    have lA : Live A H' := fun a ha e => box_live l2 k hB' a (List.mem_cons_of_mem _ ha) e
    have sH : Same H H' := fun a o' e => by
      have e1 := st _ _ (sn _ _ (s1 _ _ e))
      exact k a o' (by
        intro hm
        rw [List.mem_singleton.mp hm] at e
        rw [s1 _ _ e] at hp; cases hp) e1
    refine hz p A σ2 H' D lA vw ?_
    cases o with
    | nx r => exact fun σ3 H2 s2 h2 => c σ3 H2 (sH.trans s2) h2
    | rt d => exact fun v H2 s2 h2 => c v H2 (sH.trans s2) h2
    | ex C => exact fun H2 s2 => c H2 (sH.trans s2)⟩⟩
end
end Lc

set_option Elab.async false
set_option linter.all false
set_option maxRecDepth 100000
set_option maxHeartbeats 4000000
namespace Lc
open PySem L2 PySem.Spec PyProof.Rows
/-! ### the family within a lot -/
def cutM (lot s : List Int) : List Int := (s.filter fun x => decide (x ∈ lot)).map fun x => (lot.idxOf x : Int)
def stepM (lot : List Int) (f : List (List Int)) (s : List Int) : List (List Int) := if cutM lot s ≠ [] ∧ cutM lot s ∉ f then f ++ [cutM lot s] else f
def accM (lot : List Int) (ss : List (List Int)) : List (List Int) := ss.foldl (stepM lot) []
def withinD (lot : List Int) (ss : List (List Int)) : PyData := if accM lot ss = [] then .none else famD (lot.length : Int) (isort HT.lexLt (accM lot ss))
def R_found_within : List PyData → Out → Prop := fun ds o => ∃ n ss lot, FamW n ss ∧ LotOk n lot ∧ ds = [famD n ss, tI lot] ∧ o = .rt (withinD lot ss)
def sp_found_within (K : PySem.W.Frag) : Sp := spD K R_found_within
def t_found_within (K : PySem.W.Frag) (E : XK) : TS := (tSeq (tAsg (tTup (tCons (tCB (rDictP K) (tCons (tLc (iEnumU K (tCons (tVar 1) tNil)) (gTup K 2 (gCons (gName 4) (gCons (gName 5) gNil))) tYes (tTup (tCons (tVar 5) (tCons (tVar 4) tNil))) [4, 5]) tNil)) (tCons (tLst tNil) tNil))) (gTup K 2 (gCons (gName 2) (gCons (gName 3) gNil))))
  (tSeq (tFor (iSeq K (tOp (rIx K) (tVar 0) (tC (.int 1)))) (gName 6) (tSeq (tAsg (tCB (rTupleOf K) (tCons (tLc (iSeq K (tVar 6)) (gName 5) (tB (tDIn (tVar 5) (tVar 2))) (tDGet (tVar 2) (tVar 5)) [5]) tNil)) (gName 7))
  (tIfS (tAnd (tTest (tOp (rNeD K) (tVar 7) (tTup tNil))) (tTest (tOp (rNotInU K) (tVar 7) (tVar 3)))) (tDrop (tBM K "list" rAppend (tVar 3) (tCons (tVar 7) tNil))) tNext)))
  (tRet (tIf (tTest (tOp (rNeD K) (tVar 3) (tLst tNil))) (tTup (tCons (tCB (rLenU K) (tCons (tVar 1) tNil)) (tCons (tCB (rTupleOf K) (tCons (tCB (rSortD K) (tCons (tVar 3) tNil)) tNil)) tNil))) (tC .non)))))
def plD (lot : List Int) : List PyData := (List.range' 0 lot.length).map fun (i : Nat) => PyData.int (i : Int)
theorem lk_range {x : Int} : ∀ (lot : List Int) (a : Nat), lkI lot ((List.range' a lot.length).map fun (i : Nat) => PyData.int (i : Int)) x = if x ∈ lot then some (.int ((a + lot.idxOf x : Nat) : Int)) else none
  | [], a => rfl
  | k :: ks, a => by
    rw [List.length_cons, List.range'_succ, List.map_cons]
    show (if k = x then some (PyData.int (a : Int)) else lkI ks _ x) = _
    by_cases e : k = x
    · subst e
      rw [if_pos rfl, if_pos (by simp), List.idxOf_cons_self]
      rfl
    · rw [if_neg e, lk_range ks (a + 1)]
      by_cases m : x ∈ ks
      · have e3 : (k :: ks).idxOf x = ks.idxOf x + 1 := by
          rw [List.idxOf_cons]
          have eb : (k == x) = false := by simpa using e
          rw [eb]; rfl
        rw [if_pos m, if_pos (by simp [m]), e3]
        congr 3
        omega
      · rw [if_neg m, if_neg (by simp [m, Ne.symm e])]
theorem lk_pl {x : Int} {lot : List Int} : lkI lot (plD lot) x = if x ∈ lot then some (.int (lot.idxOf x : Int)) else none := by
  have := lk_range (x := x) lot 0
  rw [Nat.zero_add] at this
  exact this
theorem plD_len (lot : List Int) : lot.length = (plD lot).length := by simp [plD]
section
variable {K : PySem.W.Frag} {E : XK}
theorem enum_eq (lot : List Int) : enumD (lot.map .int) = (lot.zip (List.range' 0 lot.length)).map fun (p : Int × Nat) => PyData.tuple [.int (p.2 : Int), .int p.1] := by
  apply List.ext_getElem?
  intro i
  by_cases h : i < lot.length
  · have h1 : (enumD (lot.map .int))[i]? = some (.tuple [.int (0 + (i : Int)), .int lot[i]]) := zipD_at (rngD_at (by simpa using h)) (by rw [List.getElem?_map, List.getElem?_eq_getElem h]; rfl)
    rw [h1, List.getElem?_map, List.getElem?_zip_eq_some.mpr (show lot[i]? = some (lot[i], i).1 ∧ (List.range' 0 lot.length)[i]? = some (lot[i], i).2 from ⟨List.getElem?_eq_getElem h, by rw [List.getElem?_range' h]; simp⟩)]
    show _ = some (PyData.tuple [.int ((i : Nat) : Int), .int lot[i]])
    rw [Int.zero_add]
  · rw [List.getElem?_eq_none (by simp [enumD, zipD, rngD_len]; omega), List.getElem?_eq_none (by simp; omega)]
theorem ev_places {n : Int} {ss : List (List Int)} {lot : List Int} {a b c e f g : Option PyData} (hl : lot.length ≤ 1000) (hn : lot.Nodup) : EvD K (tCB (rDictP K) (tCons (tLc (iEnumU K (tCons (tVar 1) tNil)) (gTup K 2 (gCons (gName 4) (gCons (gName 5) gNil))) tYes (tTup (tCons (tVar 5) (tCons (tVar 4) tNil))) [4, 5]) tNil)) [some (famD n ss), some (tI lot), a, b, c, e, f, g] (dI lot (plD lot)) := by
  have h := ev_lc (K := K) (ρ := [some (famD n ss), some (tI lot), a, b, c, e, f, g]) (wi := iEnumU K (tCons (tVar 1) tNil)) (g := gTup K 2 (gCons (gName 4) (gCons (gName 5) gNil))) (te := tTup (tCons (tVar 5) (tCons (tVar 4) tNil))) (vs := [4, 5]) (ws := [4, 5]) (lot.zip (List.range' 0 lot.length)) (fun (p : Int × Nat) => PyData.tuple [.int (p.2 : Int), .int p.1]) (fun p => .tuple [.int p.1, .int (p.2 : Int)]) (fun p => [some (famD n ss), some (tI lot), a, b, some (.int (p.2 : Int)), some (.int p.1), f, g]) (by rw [← enum_eq]; exact it_enumT (ev_var (i := 1) (d := tI lot) rfl)) (by simp; omega) (by simp) (fun p _ => tg_two) (fun p _ => ev_tup (ea_cons (ev_var rfl) (ea_cons (ev_var rfl) ea_nil)) (by simp))
  have e : (lot.zip (List.range' 0 lot.length)).map (fun (p : Int × Nat) => PyData.tuple [.int p.1, .int (p.2 : Int)]) = pairsI lot (plD lot) := by
    unfold pairsI plD
    rw [List.zip_map_right, List.map_map]
    rfl
  rw [e] at h
  exact ev_cb (ea_cons h ea_nil) (ca_dictI (plD_len lot) hn)
theorem ev_cutM {ρ : Rho} {lot s : List Int} (hs : s.length ≤ 1000) (h2 : ρ[2]? = some (some (dI lot (plD lot)))) (h6 : ρ[6]? = some (some (tI s))) (hl : ρ.length = 8) : EvD K (tCB (rTupleOf K) (tCons (tLc (iSeq K (tVar 6)) (gName 5) (tB (tDIn (tVar 5) (tVar 2))) (tDGet (tVar 2) (tVar 5)) [5]) tNil)) ρ (tI (cutM lot s)) := by
  obtain ⟨r0, r1, r2, r3, r4, r5, r6, r7, rfl⟩ : ∃ r0 r1 r2 r3 r4 r5 r6 r7, ρ = [r0, r1, r2, r3, r4, r5, r6, r7] := by
    match ρ, hl with
    | [r0, r1, r2, r3, r4, r5, r6, r7], _ => exact ⟨_, _, _, _, _, _, _, _, rfl⟩
  have e2 : r2 = some (dI lot (plD lot)) := by simpa using h2
  have e6 : r6 = some (tI s) := by simpa using h6
  subst e2 e6
  have h := ev_tupLcF (K := K) (ρ := [r0, r1, some (dI lot (plD lot)), r3, r4, r5, some (tI s), r7]) (wi := iSeq K (tVar 6)) (j := 5) (vs := [5]) (tt := tB (tDIn (tVar 5) (tVar 2))) (te := tDGet (tVar 2) (tVar 5)) s .int (fun x => decide (x ∈ lot)) (fun x => .int (lot.idxOf x : Int)) (it_seqT (ev_var rfl)) (by omega) (by simp)
    (fun x _ => et_to (et_din (k := x) (plD_len lot) (ev_var rfl) (ev_var rfl)) (by rw [lk_pl]; by_cases m : x ∈ lot <;> simp [m])) (fun x _ hx => ev_dget (k := x) (plD_len lot) (ev_var rfl) (ev_var rfl) (by rw [lk_pl, if_pos (by simpa using hx)]))
  rw [map_int] at h
  exact h
def rFW (n : Int) (ss : List (List Int)) (lot : List Int) (b : Addr) (th on : Option PyData) : Rho := [some (famD n ss), some (tI lot), some (dI lot (plD lot)), some (adrD b), none, none, th, on]
theorem acc_ne {lot : List Int} : ∀ (ss : List (List Int)) (f : List (List Int)), (∀ x ∈ f, x ≠ []) → ∀ x ∈ ss.foldl (stepM lot) f, x ≠ []
  | [], f, h => h
  | s :: ss, f, h => acc_ne ss _ (by
    unfold stepM
    split
    · rename_i hc
      intro x hx
      rcases List.mem_append.mp hx with z | z
      · exact h x z
      · rw [List.mem_singleton.mp z]; exact hc.1
    · exact h)
theorem acc_len {lot : List Int} : ∀ (ss : List (List Int)) (f : List (List Int)), (ss.foldl (stepM lot) f).length ≤ f.length + ss.length
  | [], f => by simp
  | s :: ss, f => by
    have := acc_len (lot := lot) ss (stepM lot f s)
    have h2 : (stepM lot f s).length ≤ f.length + 1 := by
      unfold stepM
      split
      · simp
      · omega
    rw [List.foldl_cons, List.length_cons]
    omega
theorem x_found_within {n : Int} {ss : List (List Int)} {lot : List Int} (hW : FamW n ss) (hl : LotOk n lot) (hn : lot.Nodup) (hl7 : lot.length ≤ 1000) : ExS K E (t_found_within K E) [some (famD n ss), some (tI lot), none, none, none, none, none, none] (.rt (withinD lot ss)) := by
  have hss := hW.2.2.2.1
  have take_succ : ∀ i (h : i < ss.length), accM lot (ss.take (i + 1)) = stepM lot (accM lot (ss.take i)) ss[i] := fun i h => by
    unfold accM
    rw [List.take_succ_eq_append_getElem h, List.foldl_append]
    rfl
  refine xs_boxedT (i := 2) (j := 3) (d := dI lot (plD lot)) (ds := (accM lot ss).map tI) (ev_places hl7 hn) (fun b => rFW n ss lot b ((ss.map tI)[ss.length - 1]?) ((ss.map fun s => tI (cutM lot s))[ss.length - 1]?)) (fun b => rfl) (fun b => ?_) (fun b => ?_)
  · have hne : ss.length ≠ 0 := fun e => hW.2.2.1 (List.length_eq_zero_iff.mp e)
    have l1 : (if ss.length = 0 then none else (ss.map tI)[ss.length - 1]?) = (ss.map tI)[ss.length - 1]? := if_neg hne
    have l2 : (if ss.length = 0 then none else (ss.map fun s => tI (cutM lot s))[ss.length - 1]?) = (ss.map fun s => tI (cutM lot s))[ss.length - 1]? := if_neg hne
    have l3 : (accM lot (ss.take ss.length)).map tI = (accM lot ss).map tI := by rw [List.take_length]
    rw [← l1, ← l2, ← l3]
    refine xb_for (ws := [6]) ss tI (fun i => rFW n ss lot b (if i = 0 then none else (ss.map tI)[i - 1]?) (if i = 0 then none else (ss.map fun s => tI (cutM lot s))[i - 1]?)) (fun i => rFW n ss lot b ((ss.map tI)[i]?) (if i = 0 then none else (ss.map fun s => tI (cutM lot s))[i - 1]?)) (fun i => (accM lot (ss.take i)).map tI) (it_seqT (ev_fam1 rfl)) rfl rfl (fun i h => ?_) (fun i h => ?_)
    · have e : (ss.map tI)[i]? = some (tI ss[i]) := by rw [List.getElem?_map, List.getElem?_eq_getElem h]; rfl
      show TgD K (gName 6) (tI ss[i]) _ (rFW n ss lot b ((ss.map tI)[i]?) _) _
      rw [e]
      exact tg_name
    · have e : (ss.map tI)[i]? = some (tI ss[i]) := by rw [List.getElem?_map, List.getElem?_eq_getElem h]; rfl
      have e' : (ss.map fun s => tI (cutM lot s))[i]? = some (tI (cutM lot ss[i])) := by rw [List.getElem?_map, List.getElem?_eq_getElem h]; rfl
      show ExB K b _ (rFW n ss lot b ((ss.map tI)[i]?) (if i = 0 then none else _)) _ (rFW n ss lot b (if i + 1 = 0 then none else (ss.map tI)[i + 1 - 1]?) (if i + 1 = 0 then none else (ss.map fun s => tI (cutM lot s))[i + 1 - 1]?)) _
      rw [if_neg (by omega : ¬ i + 1 = 0), if_neg (by omega : ¬ i + 1 = 0), Nat.add_sub_cancel, e, e']
      have hs1 : ss[i].length ≤ 1000 := (hW.2.2.2.2 _ (List.getElem_mem h)).1
      refine xb_seq (ρ1 := rFW n ss lot b (some (tI ss[i])) (some (tI (cutM lot ss[i])))) (ds1 := (accM lot (ss.take i)).map tI) (xb_pure (E := E0) (xs_asg (ev_cutM hs1 rfl rfl rfl))) ?_
      rw [take_succ i h]
      have hlen := acc_len (lot := lot) (ss.take i) []
      have htl : (ss.take i).length ≤ 1000 := by rw [List.length_take]; omega
      generalize hf : accM lot (ss.take i) = f
      have hfl : f.length ≤ 1000 := by rw [← hf]; unfold accM; simp at hlen; omega
      generalize hc : cutM lot ss[i] = c
      have t1 : EvT K (tTest (tOp (rNeD K) (tVar 7) (tTup tNil))) ((rFW n ss lot b (some (tI ss[i])) (some (tI c))).set 3 (some (.list (f.map tI)))) (!decide (c = [])) := by
        refine et_to (et_test (ev_op (ev_var (d := tI c) rfl) (ev_tup ea_nil (by simp)) (od_ne (sh_tI (n := 0)) (sh_nil (n := 0))))) ?_
        have : PyData.eqv (tI c) (tI []) = decide (c = []) := eqv_tI c []
        exact congrArg Bool.not this
      have t2 : EvT K (tTest (tOp (rNotInU K) (tVar 7) (tVar 3))) ((rFW n ss lot b (some (tI ss[i])) (some (tI c))).set 3 (some (.list (f.map tI)))) (!decide (c ∈ f)) := by
        refine et_to (et_test (ev_op (ev_var (d := tI c) rfl) (ev_var (d := lD f) rfl) (od_niL (sh_tI (n := 0)) (sh_lD (n := 0))))) ?_
        rw [any_tI]
      have hst : stepM lot f ss[i] = if c ≠ [] ∧ c ∉ f then f ++ [c] else f := by unfold stepM; rw [hc]
      refine xb_if (i := 3) (bb := (!decide (c = [])) && (!decide (c ∈ f))) rfl (et_and t1 (fun _ => t2)) (fun hb => ?_) (fun hb => ?_)
      · have hcc : c ≠ [] ∧ c ∉ f := by
          rw [Bool.and_eq_true] at hb
          simpa using hb
        rw [hst, if_pos hcc, List.map_append]
        exact xb_append rfl (ev_var rfl) (by rw [List.length_map]; omega)
      · have hcc : ¬ (c ≠ [] ∧ c ∉ f) := by
          intro z
          rw [decide_eq_false z.1, decide_eq_false z.2] at hb
          cases hb
        rw [hst, if_neg hcc]
        exact xb_pure (E := E0) xs_next
  · generalize (ss.map tI)[ss.length - 1]? = th
    generalize (ss.map fun s => tI (cutM lot s))[ss.length - 1]? = on
    show ExS K E _ [some (famD n ss), some (tI lot), some (dI lot (plD lot)), some (lD (accM lot ss)), none, none, th, on] _
    have hne := acc_ne (lot := lot) ss [] (by simp)
    have t : EvT K (tTest (tOp (rNeD K) (tVar 3) (tLst tNil))) [some (famD n ss), some (tI lot), some (dI lot (plD lot)), some (lD (accM lot ss)), none, none, th, on] (!decide (accM lot ss = [])) := by
      refine et_to (et_test (ev_op (ev_var (d := lD (accM lot ss)) rfl) (ev_lst ea_nil (by simp)) (od_ne (sh_lD (n := 0)) (sh_lD (n := 0) (fs := []))))) ?_
      exact congrArg Bool.not (eqv_lD (accM lot ss) [])
    refine xs_ret (ev_if t (fun hb => ?_) (fun hb => ?_))
    · have hz : ¬ accM lot ss = [] := by simpa using hb
      have e : withinD lot ss = .tuple [.int (lot.length : Int), .tuple ((isort HT.lexLt (accM lot ss)).map tI)] := by unfold withinD; rw [if_neg hz]; rfl
      rw [e]
      refine ev_tup (ea_cons (ev_to (ev_cb (ea_cons (ev_var (d := tI lot) rfl) ea_nil) ca_lenT) (by rw [List.length_map])) (ea_cons (ev_cb (ea_cons (ev_cb (ea_cons (ev_var rfl) ea_nil) (ca_sortLD hne)) ea_nil) ca_tupleL) ea_nil)) (by simp)
    · have hz : accM lot ss = [] := by simpa using hb
      have e : withinD lot ss = .none := by unfold withinD; rw [if_pos hz]
      rw [e]
      exact ev_non
end
end Lc

set_option Elab.async false
set_option linter.all false
set_option maxRecDepth 100000
set_option maxHeartbeats 4000000
namespace Lc
open PySem L2 PySem.Spec PyProof.Rows
/-! ### lots: promises -/
def ShrT (d : PyData) : Prop := ∀ l, d = .tuple l → l.length ≤ 10000
def R_check_lot (K : PySem.W.Frag) : List PyData → Out → Prop := fun ds o => ∃ n ss d, Sh 40 d ∧ ShrT d ∧ ds = [famD n ss, d] ∧ o = if isLot n d then .rt .none else .ex (He.ga K "InvalidLot")
def sp_check_lot (K : PySem.W.Frag) : Sp := spD K (R_check_lot K)
def R_famlot (K : PySem.W.Frag) (f : Int → List (List Int) → List Int → PyData) : List PyData → Out → Prop := fun ds o => ds.length = 2 ∧ R_fam K (fun n ss r o => ∃ d, Sh 40 d ∧ ShrT d ∧ r = [d] ∧ o = if isLot n d then .rt (f n ss (tupOf d)) else .ex (He.ga K "InvalidLot")) ds o
def sp_within (K : PySem.W.Frag) : Sp := spD K (R_famlot K fun _ ss lot => withinD lot ss)
def lotU (lot : List Int) (ss : List (List Int)) : Int := if accM lot ss = [] then 0 else leastM (lot.length : Int) (isort HT.lexLt (accM lot ss))
def R_found_lot_uneven : List PyData → Out → Prop := fun ds o => ∃ n ss lot, FamW n ss ∧ LotOk n lot ∧ ds = [famD n ss, tI lot] ∧ o = .rt (.int (lotU lot ss))
def sp_found_lot_uneven (K : PySem.W.Frag) : Sp := spD K R_found_lot_uneven
def sp_lot_uneven (K : PySem.W.Frag) : Sp := spD K (R_famlot K fun _ ss lot => .int (lotU lot ss))
def combM (many : Nat) : Nat → List (List Int)
  | 0 => [[]]
  | k + 1 => (combM many k).flatMap fun r => (((List.range many).map fun (i : Nat) => (i : Int)).filter fun x => decide (r = []) || decide (r.getLastD 0 < x)).map fun x => r ++ [x]
def R_some_numbers : List PyData → Out → Prop := fun ds o => ∃ many size : Nat, many ≤ 8 ∧ size ≤ 8 ∧ ds = [.int (many : Int), .int (size : Int)] ∧ o = .rt (lD (combM many size))
def sp_some_numbers (K : PySem.W.Frag) : Sp := spD K R_some_numbers
def t_check_lot (K : PySem.W.Frag) (E : XK) : TS := (tIfS (tNot (tB (tCall (sp_is_lot K) [] E0 (tCons (tOp (rIx K) (tVar 0) (tC (.int 0))) (tCons (tVar 1) tNil))))) (tRaise (He.ga K "InvalidLot") E) tNext)
def t_within (K : PySem.W.Frag) (E : XK) : TS := (tSeq (tDrop (tCall (sp_check_family K) [] E (tCons (tVar 0) tNil)))
  (tSeq (tDrop (tCall (sp_check_lot K) [] E (tCons (tVar 0) (tCons (tVar 1) tNil))))
  (tRet (tCall (sp_found_within K) [] E0 (tCons (tVar 0) (tCons (tVar 1) tNil))))))
def t_some_numbers (K : PySem.W.Frag) (E : XK) : TS := (tSeq (tAsg (tLst (tCons (tTup tNil) tNil)) (gName 2))
  (tSeq (tFor (iRng1 (tCons (tVar 1) tNil)) (gName 3) (tAsg (tLc2 (iSeq K (tVar 2)) (gName 4) tYes (iRng1 (tCons (tVar 0) tNil)) (gName 5) (tOr (tTest (tOp (rEqD K) (tVar 4) (tTup tNil))) (tTest (tOp (rLtU K) (tOp (rIx K) (tVar 4) (tUn (rU fun i => .int (-i)) (tC (.int 1)))) (tVar 5)))) (tOp (rAddU K) (tVar 4) (tTup (tCons (tVar 5) tNil))) [4, 5] [5]) (gName 2)))
  (tRet (tVar 2))))
def t_found_lot_uneven (K : PySem.W.Frag) (E : XK) : TS := (tSeq (tAsg (tCall (sp_found_within K) [] E0 (tCons (tVar 0) (tCons (tVar 1) tNil))) (gName 2))
  (tRet (tIf (tTest (tOp rIsU (tVar 2) (tC .non))) (tC (.int 0)) (tCall (sp_found_least K) [] E0 (tCons (tVar 2) tNil)))))
def t_lot_uneven (K : PySem.W.Frag) (E : XK) : TS := (tSeq (tDrop (tCall (sp_check_family K) [] E (tCons (tVar 0) tNil)))
  (tSeq (tDrop (tCall (sp_check_lot K) [] E (tCons (tVar 0) (tCons (tVar 1) tNil))))
  (tRet (tCall (sp_found_lot_uneven K) [] E0 (tCons (tVar 0) (tCons (tVar 1) tNil))))))
/-! ### plain -/
theorem asc_lt : ∀ {l : List Int}, ascI l = true → (∀ x ∈ l.tail, ∀ y ∈ l.head?, y < x) ∧ l.Nodup
  | [], _ => ⟨by simp, List.nodup_nil⟩
  | [a], _ => ⟨by simp, by simp⟩
  | a :: b :: r, h => by
    have h' : (decide (a < b) && ascI (b :: r)) = true := h
    rw [Bool.and_eq_true, decide_eq_true_eq] at h'
    obtain ⟨h1, h2⟩ := asc_lt (l := b :: r) h'.2
    have h3 : ∀ x ∈ b :: r, a < x := fun x hx => by
      rcases List.mem_cons.mp hx with e | e
      · omega
      · have := h1 x e b (by simp); omega
    exact ⟨fun x hx y hy => by simp at hy; subst hy; exact h3 x hx, List.nodup_cons.mpr ⟨fun hm => by have := h3 a hm; omega, h2⟩⟩
theorem LotOk.nd {n : Int} {s : List Int} (h : LotOk n s) : s.Nodup := (asc_lt h.2.2).2
theorem cutM_bd {lot s : List Int} : ∀ x ∈ cutM lot s, 0 ≤ x ∧ x < (lot.length : Int) := fun x hx => by
  obtain ⟨y, hy, rfl⟩ := List.mem_map.mp hx
  have hm : y ∈ lot := by simpa using (List.mem_filter.mp hy).2
  have := List.idxOf_lt_length_of_mem hm
  omega
theorem acc_mem {lot : List Int} : ∀ (ss f : List (List Int)) (x : List Int), x ∈ ss.foldl (stepM lot) f ↔ x ∈ f ∨ (x ≠ [] ∧ ∃ s ∈ ss, x = cutM lot s)
  | [], f, x => by simp
  | s :: ss, f, x => by
    rw [List.foldl_cons, acc_mem ss (stepM lot f s) x]
    unfold stepM
    split
    · rename_i hc
      simp only [List.mem_append, List.mem_cons, List.not_mem_nil, or_false]
      constructor
      · rintro ((h | h) | ⟨h1, t, h2, h3⟩)
        · exact .inl h
        · exact .inr ⟨by rw [h]; exact hc.1, s, .inl rfl, h⟩
        · exact .inr ⟨h1, t, .inr h2, h3⟩
      · rintro (h | ⟨h1, t, h2 | h2, h3⟩)
        · exact .inl (.inl h)
        · exact .inl (.inr (by rw [h3, h2]))
        · exact .inr ⟨h1, t, h2, h3⟩
    · rename_i hc
      constructor
      · rintro (h | ⟨h1, t, h2, h3⟩)
        · exact .inl h
        · exact .inr ⟨h1, t, List.mem_cons_of_mem _ h2, h3⟩
      · rintro (h | ⟨h1, t, h2, h3⟩)
        · exact .inl h
        · rcases List.mem_cons.mp h2 with e | e
          · left
            apply Classical.byContradiction
            intro hx
            exact hc ⟨by rw [← e, ← h3]; exact h1, by rw [← e, ← h3]; exact hx⟩
          · exact .inr ⟨h1, t, e, h3⟩
theorem accM_mem {lot : List Int} {ss : List (List Int)} {x : List Int} : x ∈ accM lot ss ↔ x ≠ [] ∧ ∃ s ∈ ss, x = cutM lot s := by
  unfold accM
  rw [acc_mem]
  simp
theorem isort_mem {α : Type} (lt : α → α → Bool) (l : List α) (x : α) : x ∈ isort lt l ↔ x ∈ l := (isort_perm (lt := lt) l).mem_iff
theorem isort_len {α : Type} (lt : α → α → Bool) (l : List α) : (isort lt l).length = l.length := (isort_perm (lt := lt) l).length_eq
theorem withW {n : Int} {ss : List (List Int)} {lot : List Int} (hW : FamW n ss) (hl : LotOk n lot) (h : accM lot ss ≠ []) : FamW (lot.length : Int) (isort HT.lexLt (accM lot ss)) := by
  have h7 := hl.len hW.2.1
  have hlen := acc_len (lot := lot) ss []
  have hss := hW.2.2.2.1
  refine ⟨by omega, by omega, fun e => ?_, ?_, fun s hs => ?_⟩
  · have := isort_len HT.lexLt (accM lot ss)
    rw [e] at this
    exact h (List.length_eq_zero_iff.mp this.symm)
  · rw [isort_len]; unfold accM; simp at hlen; omega
  · rw [isort_mem] at hs
    obtain ⟨_, t, ht, rfl⟩ := accM_mem.mp hs
    refine ⟨?_, cutM_bd⟩
    unfold cutM
    rw [List.length_map]
    exact Nat.le_trans (List.length_filter_le _ _) (hW.2.2.2.2 t ht).1
section
variable {K : PySem.W.Frag} {E : XK}
theorem pure_found_within {vs : List V} {H : Hp} {Q : VK} (hs : sp_found_within K vs H Q E) : t_found_within K E { nx := fun _ H' => Q .non H', rt := Q } (L2.start ["family", "lot", "places", "found", "k", "thing", "things", "one"] vs) H :=
  sp_body (R := R_found_within) (fun ds o h => by
    obtain ⟨n, ss, lot, hW, hl, rfl, rfl⟩ := h
    exact .inl (x_found_within hW hl hl.nd (by have := hl.len hW.2.1; omega))) hs
theorem x_check_lot {n : Int} {ss : List (List Int)} {d : PyData} (h1 : Sh 40 d) (h2 : ShrT d) : EvT K (tNot (tB (tCall (sp_is_lot K) [] E0 (tCons (tOp (rIx K) (tVar 0) (tC (.int 0))) (tCons (tVar 1) tNil))))) [some (famD n ss), some d] (!isLot n d) := et_not (et_B (ev_call (ea_cons (ev_fam0 rfl) (ea_cons (ev_var rfl) ea_nil)) ⟨n, d, h1, rfl, h2, rfl⟩))
theorem pure_check_lot {vs : List V} {H : Hp} {Q : VK} (hs : sp_check_lot K vs H Q E) : t_check_lot K E { nx := fun _ H' => Q .non H', rt := Q } (L2.start ["family", "value"] vs) H :=
  sp_body (R := R_check_lot K) (fun ds o h => by
    obtain ⟨n, ss, d, h1, h2, rfl, rfl⟩ := h
    cases hb : isLot n d with
    | true => exact .inr ⟨rfl, _, xs_if (b := false) (et_to (x_check_lot h1 h2) (by rw [hb]; rfl)) (fun z => by cases z) (fun _ => xs_next)⟩
    | false => exact .inl (xs_if (b := true) (et_to (x_check_lot h1 h2) (by rw [hb]; rfl)) (fun _ => xs_raiseF) (fun z => by cases z))) hs
theorem xs_lot {ρ : Rho} {i j : Nat} {n : Int} {ss : List (List Int)} {d : PyData} (hi : ρ[i]? = some (some (famD n ss))) (hj : ρ[j]? = some (some d)) (h1 : Sh 40 d) (h2 : ShrT d) (hb : isLot n d = true) : ExS K E (tDrop (tCall (sp_check_lot K) [] E (tCons (tVar i) (tCons (tVar j) tNil)))) ρ (.nx ρ) :=
  xs_drop (ev_call (ea_cons (ev_var hi) (ea_cons (ev_var hj) ea_nil)) ⟨n, ss, d, h1, h2, rfl, by rw [hb]; rfl⟩)
theorem xs_lotX {ρ : Rho} {i j : Nat} {n : Int} {ss : List (List Int)} {d : PyData} (hi : ρ[i]? = some (some (famD n ss))) (hj : ρ[j]? = some (some d)) (h1 : Sh 40 d) (h2 : ShrT d) (hb : isLot n d = false) : ExS K E (tDrop (tCall (sp_check_lot K) [] E (tCons (tVar i) (tCons (tVar j) tNil)))) ρ (.ex (He.ga K "InvalidLot")) :=
  xs_dropX (ex_call (ea_cons (ev_var hi) (ea_cons (ev_var hj) ea_nil)) ⟨n, ss, d, h1, h2, rfl, by rw [hb]; rfl⟩)
theorem x_famlot {f : Int → List (List Int) → List Int → PyData} {tc : TE} (hc : ∀ n ss lot, FamOk n ss → LotOk n lot → EvD K tc [some (famD n ss), some (tI lot)] (f n ss lot)) {ds : List PyData} {o : Out} (h : R_famlot K f ds o) :
    ExS K E (tSeq (tDrop (tCall (sp_check_family K) [] E (tCons (tVar 0) tNil))) (tSeq (tDrop (tCall (sp_check_lot K) [] E (tCons (tVar 0) (tCons (tVar 1) tNil)))) (tRet tc))) (startD 2 ds) o := by
  obtain ⟨hl, d, r, rfl, h⟩ := h
  rcases h with ⟨h1, h2, h3, rfl⟩ | ⟨n, ss, hF, rfl, d, h1, h2, rfl, rfl⟩
  · match r, hl with
    | [y], _ => exact xs_seqX (xs_checkX h1 h2 h3 rfl)
  · refine xs_seq (xs_check hF rfl) ?_
    cases hb : isLot n d with
    | false => exact xs_seqX (xs_lotX rfl rfl h1 h2 hb)
    | true =>
      obtain ⟨lot, rfl, hlo⟩ := isLot_inv hb
      rw [tupOf_one]
      exact xs_seq (xs_lot rfl rfl h1 h2 hb) (xs_ret (hc n ss lot hF hlo))
theorem pure_within {vs : List V} {H : Hp} {Q : VK} (hs : sp_within K vs H Q E) : t_within K E { nx := fun _ H' => Q .non H', rt := Q } (L2.start ["family", "lot"] vs) H :=
  sp_body (R := R_famlot K fun _ ss lot => withinD lot ss) (fun ds o h => .inl (x_famlot (fun n ss lot hF hl => ev_call (ea_cons (ev_var rfl) (ea_cons (ev_var rfl) ea_nil)) ⟨n, ss, lot, hF.w, hl, rfl, rfl⟩) h)) hs
theorem pure_lot_uneven {vs : List V} {H : Hp} {Q : VK} (hs : sp_lot_uneven K vs H Q E) : t_lot_uneven K E { nx := fun _ H' => Q .non H', rt := Q } (L2.start ["family", "lot"] vs) H :=
  sp_body (R := R_famlot K fun _ ss lot => .int (lotU lot ss)) (fun ds o h => .inl (x_famlot (fun n ss lot hF hl => ev_call (ea_cons (ev_var rfl) (ea_cons (ev_var rfl) ea_nil)) ⟨n, ss, lot, hF.w, hl, rfl, rfl⟩) h)) hs
theorem pure_found_lot_uneven {vs : List V} {H : Hp} {Q : VK} (hs : sp_found_lot_uneven K vs H Q E) : t_found_lot_uneven K E { nx := fun _ H' => Q .non H', rt := Q } (L2.start ["family", "lot", "found"] vs) H :=
  sp_body (R := R_found_lot_uneven) (fun ds o h => by
    obtain ⟨n, ss, lot, hW, hl, rfl, rfl⟩ := h
    refine .inl (xs_seq (xs_asg (d := withinD lot ss) (ev_call (ea_cons (ev_var rfl) (ea_cons (ev_var rfl) ea_nil)) ⟨n, ss, lot, hW, hl, rfl, rfl⟩)) ?_)
    show ExS K E _ [some (famD n ss), some (tI lot), some (withinD lot ss)] _
    unfold withinD lotU
    by_cases hz : accM lot ss = []
    · rw [if_pos hz, if_pos hz]
      exact xs_ret (ev_if (b := true) (et_to (et_test (ev_op (ev_var (d := .none) rfl) ev_non od_isN)) rfl) (fun _ => ev_int) (fun z => by cases z))
    · rw [if_neg hz, if_neg hz]
      exact xs_ret (ev_if (b := false) (et_to (et_test (ev_op (ev_var (d := famD (lot.length : Int) (isort HT.lexLt (accM lot ss))) rfl) ev_non od_isN)) rfl) (fun z => by cases z) (fun _ => ev_call (ea_cons (ev_var rfl) ea_nil) ⟨_, _, withW hW hl hz, rfl, rfl⟩))) hs
end
end Lc

set_option Elab.async false
set_option linter.all false
set_option maxRecDepth 100000
set_option maxHeartbeats 4000000
namespace Lc
open PySem L2 PySem.Spec PyProof.Rows
theorem comb_ok : ∀ many, many < 9 → ∀ size, size < 9 → (combM many size).length ≤ 100 ∧ ∀ r ∈ combM many size, r.length = size ∧ ascI r = true ∧ ∀ x ∈ r, 0 ≤ x ∧ x < (many : Int) := by decide +kernel
section
variable {K : PySem.W.Frag} {E : XK}
theorem at_last {r : List Int} (h : r ≠ []) : atI (r.map PyData.int) (-1) = some (.int (r.getLastD 0)) := by
  have hl : 0 < r.length := List.length_pos_iff.mpr h
  have e3 : ixN (r.map PyData.int).length (-1) = some (r.length - 1) := by
    unfold ixN
    rw [List.length_map]
    have h1 : ¬ ((0 : Int) ≤ -1) := by omega
    simp
    omega
  unfold atI
  rw [e3]
  show (r.map PyData.int)[r.length - 1]? = _
  rw [List.getElem?_map, ← List.getLast?_eq_getElem?, List.getLast?_eq_some_getLast h]
  show some (PyData.int (r.getLast h)) = _
  congr 2
  rw [List.getLastD_eq_getLast?, List.getLast?_eq_some_getLast h]
  rfl
def combF (r : List Int) (x : Int) : Bool := decide (r = []) || decide (r.getLastD 0 < x)
theorem ev_comb {many : Nat} {k : Nat} {sz ti ro on : Option PyData} (hm : many ≤ 8) (hk : k < 8) :
    EvD K (tLc2 (iSeq K (tVar 2)) (gName 4) tYes (iRng1 (tCons (tVar 0) tNil)) (gName 5) (tOr (tTest (tOp (rEqD K) (tVar 4) (tTup tNil))) (tTest (tOp (rLtU K) (tOp (rIx K) (tVar 4) (tUn (rU fun i => .int (-i)) (tC (.int 1)))) (tVar 5)))) (tOp (rAddU K) (tVar 4) (tTup (tCons (tVar 5) tNil))) [4, 5] [5])
      [some (.int (many : Int)), sz, some (lD (combM many k)), ti, ro, on] (lD (combM many (k + 1))) := by
  obtain ⟨hlen, hrow⟩ := comb_ok many (by omega) k (by omega)
  have e : lD (combM many (k + 1)) = .list ((combM many k).flatMap fun r => ((List.range many).filter fun (i : Nat) => combF r (i : Int)).map fun (i : Nat) => tI (r ++ [(i : Int)])) := by
    unfold lD
    congr 1
    show ((combM many k).flatMap fun r => (((List.range many).map fun (i : Nat) => (i : Int)).filter fun x => decide (r = []) || decide (r.getLastD 0 < x)).map fun x => r ++ [x]).map tI = _
    rw [List.map_flatMap]
    congr 1
    funext r
    rw [List.filter_map, List.map_map, List.map_map]
    rfl
  rw [e]
  have hit : ∀ r : List Int, ItD K (iRng1 (tCons (tVar 0) tNil)) [some (.int (many : Int)), sz, some (lD (combM many k)), ti, some (tI r), none] ((List.range many).map fun (i : Nat) => PyData.int (0 + (i : Int))) := fun r => by
    have := it_rng1 (K := K) (ρ := [some (.int (many : Int)), sz, some (lD (combM many k)), ti, some (tI r), none]) (te := tVar 0) (ev_var rfl) (by omega : -(2 ^ 62) ≤ (many : Int) ∧ (many : Int) < 2 ^ 62)
    rw [Int.toNat_natCast] at this
    exact this
  refine ev_lc2 (combM many k) tI (fun r => [some (.int (many : Int)), sz, some (lD (combM many k)), ti, some (tI r), none]) (fun _ => List.range many) (fun _ i => .int (0 + (i : Int))) (fun r i => [some (.int (many : Int)), sz, some (lD (combM many k)), ti, some (tI r), some (.int (0 + (i : Int)))]) (fun r i => combF r (i : Int)) (fun r i => tI (r ++ [(i : Int)])) (ws := [4]) (ws1 := [5])
    (it_seqL (ev_var rfl)) ?_ (by simp) (by simp) (fun r _ => tg_name) (fun r _ => et_yes) (fun r _ => hit r) (fun r _ x _ => tg_name) (fun r _ x _ => ?_) (fun r hr x hx _ => ?_)
  · have h1 : ((combM many k).flatMap fun _ => List.range many).length = (combM many k).length * many := by
      generalize combM many k = z
      induction z with
      | nil => simp
      | cons a z ih => rw [List.flatMap_cons, List.length_append, ih, List.length_cons, Nat.succ_mul, List.length_range]; omega
    rw [h1]
    have : (combM many k).length * many ≤ 100 * 8 := Nat.mul_le_mul hlen hm
    omega
  · have t1 : EvT K (tTest (tOp (rEqD K) (tVar 4) (tTup tNil))) [some (.int (many : Int)), sz, some (lD (combM many k)), ti, some (tI r), some (.int (0 + (x : Int)))] (decide (r = [])) := et_to (et_test (ev_op (ev_var (d := tI r) rfl) (ev_tup ea_nil (by simp)) (od_eq (sh_tI (n := 0)) (sh_nil (n := 0))))) (eqv_tI r [])
    refine et_or t1 (fun hb => ?_)
    have hne : r ≠ [] := by simpa using hb
    refine et_to (et_test (ev_op (ev_op (ev_var (d := tI r) rfl) (ev_un ev_int ud_neg) (od_ixT (at_last hne))) (ev_var rfl) od_lt)) (by rw [Int.zero_add])
  · have e2 : tI (r ++ [(x : Int)]) = .tuple (r.map .int ++ [.int (0 + (x : Int))]) := by unfold tI; rw [List.map_append, Int.zero_add]; rfl
    rw [e2]
    exact ev_op (ev_var (d := tI r) rfl) (ev_tup (ea_cons (ev_var rfl) ea_nil) (by simp)) (od_addT (by have := (hrow r hr).1; simp; omega))
theorem x_some_numbers {many size : Nat} (hm : many ≤ 8) (hs : size ≤ 8) : ExS K E (t_some_numbers K E) [some (.int (many : Int)), some (.int (size : Int)), none, none, none, none] (.rt (lD (combM many size))) := by
  refine xs_seq (xs_asg (d := lD (combM many 0)) (ev_lst (ea_cons (ev_tup ea_nil (by simp)) ea_nil) (by show (1 : Nat) ≤ 100000; decide))) ?_
  show ExS K E _ [some (.int (many : Int)), some (.int (size : Int)), some (lD (combM many 0)), none, none, none] _
  have hit := it_rng1 (K := K) (ρ := [some (.int (many : Int)), some (.int (size : Int)), some (lD (combM many 0)), none, none, none]) (te := tVar 1) (ev_var rfl) (by omega : -(2 ^ 62) ≤ (size : Int) ∧ (size : Int) < 2 ^ 62)
  rw [Int.toNat_natCast] at hit
  have hfor := xs_for (K := K) (E := E) (g := gName 3) (ts := (tAsg (tLc2 (iSeq K (tVar 2)) (gName 4) tYes (iRng1 (tCons (tVar 0) tNil)) (gName 5) (tOr (tTest (tOp (rEqD K) (tVar 4) (tTup tNil))) (tTest (tOp (rLtU K) (tOp (rIx K) (tVar 4) (tUn (rU fun i => .int (-i)) (tC (.int 1)))) (tVar 5)))) (tOp (rAddU K) (tVar 4) (tTup (tCons (tVar 5) tNil))) [4, 5] [5]) (gName 2))) (List.range size) (fun i => .int (0 + (i : Int)))
    (fun i => [some (.int (many : Int)), some (.int (size : Int)), some (lD (combM many i)), if i = 0 then none else some (.int (0 + ((i - 1 : Nat) : Int))), none, none]) (fun i => [some (.int (many : Int)), some (.int (size : Int)), some (lD (combM many i)), some (.int (0 + (i : Int))), none, none]) (ws := [3]) hit rfl
    (fun i hi => by
      rw [List.length_range] at hi
      rw [List.getElem_range]
      exact tg_name) (fun i hi => by
      rw [List.length_range] at hi
      exact xs_asg (ev_comb hm (by omega)))
  rw [List.length_range] at hfor
  exact xs_seq hfor (xs_ret (ev_var rfl))
theorem pure_some_numbers {vs : List V} {H : Hp} {Q : VK} (hs : sp_some_numbers K vs H Q E) : t_some_numbers K E { nx := fun _ H' => Q .non H', rt := Q } (L2.start ["many", "size", "rows", "time", "row", "one"] vs) H :=
  sp_body (R := R_some_numbers) (fun ds o h => by
    obtain ⟨many, size, hm, hs, rfl, rfl⟩ := h
    exact .inl (x_some_numbers hm hs)) hs
end
end Lc

set_option Elab.async false
set_option linter.all false
set_option maxRecDepth 100000
set_option maxHeartbeats 4000000
namespace Lc
open PySem L2 PySem.Spec PyProof.Rows
/-! ### the worst lot -/
def wStep (ss : List (List Int)) (b : Int × Option (List Int)) (lot : List Int) : Int × Option (List Int) := if b.1 < lotU lot ss then (lotU lot ss, some lot) else b
def lotsM (n : Nat) : List (List Int) := (List.range n).flatMap fun i => combM n (i + 1)
def worstM (n : Int) (ss : List (List Int)) : Int × Option (List Int) := (lotsM n.toNat).foldl (wStep ss) (-1, none)
def optD : Option (List Int) → PyData
  | none => .none
  | some l => tI l
def worstD (n : Int) (ss : List (List Int)) : PyData := .tuple [.int (worstM n ss).1, optD (worstM n ss).2]
def R_worst_lot (K : PySem.W.Frag) : List PyData → Out → Prop := fun ds o => ds.length = 1 ∧ R_fam K (fun n ss r o => r = [] ∧ o = .rt (worstD n ss)) ds o
def sp_worst_lot (K : PySem.W.Frag) : Sp := spD K (R_worst_lot K)
def R_is_always_even (K : PySem.W.Frag) : List PyData → Out → Prop := fun ds o => ds.length = 1 ∧ R_fam K (fun n ss r o => r = [] ∧ o = .rt (.bool (decide ((worstM n ss).1 ≤ 1)))) ds o
def sp_is_always_even (K : PySem.W.Frag) : Sp := spD K (R_is_always_even K)
def t_worst_lot (K : PySem.W.Frag) (E : XK) : TS := (tSeq (tDrop (tCall (sp_check_family K) [] E (tCons (tVar 0) tNil)))
  (tSeq (tAsg (tTup (tCons (tUn (rU fun i => .int (-i)) (tC (.int 1))) (tCons (tC .non) tNil))) (gTup K 2 (gCons (gName 1) (gCons (gName 2) gNil))))
  (tSeq (tFor (iRng2 (tCons (tC (.int 1)) (tCons (tOp (rAddU K) (tOp (rIx K) (tVar 0) (tC (.int 0))) (tC (.int 1))) tNil))) (gName 3) (tFor (iSeq K (tCall (sp_some_numbers K) [] E0 (tCons (tOp (rIx K) (tVar 0) (tC (.int 0))) (tCons (tVar 3) tNil)))) (gName 4) (tSeq (tAsg (tCall (sp_found_lot_uneven K) [] E0 (tCons (tVar 0) (tCons (tVar 4) tNil))) (gName 5))
  (tIfS (tTest (tOp rGtI (tVar 5) (tVar 1))) (tPar 1 2 (tCons (tVar 5) (tCons (tVar 4) tNil))) tNext))))
  (tRet (tTup (tCons (tVar 1) (tCons (tVar 2) tNil)))))))
def t_is_always_even (K : PySem.W.Frag) (E : XK) : TS := (tRet (tOp rLeI (tOp (rIx K) (tCall (sp_worst_lot K) [] E (tCons (tVar 0) tNil)) (tC (.int 0))) (tC (.int 1))))
section
variable {K : PySem.W.Frag} {E : XK} {ρ ρ1 ρ2 : Rho} {ts : TS}
theorem xs_weak (h : ExS K E ts ρ (.nx ρ1)) (hw : ∀ F σ, EnvD K F σ ρ1 → EnvD K F σ ρ2) : ExS K E ts ρ (.nx ρ2) := fun A σ H D l hE c => h A σ H D l hE fun σ' H' s hE' => c σ' H' s (hw _ _ hE')
theorem comb_lot {n : Int} {k : Nat} (h1 : 1 ≤ n) (h7 : n ≤ 7) (hk : k < 8) {r : List Int} (h : r ∈ combM n.toNat (k + 1)) : LotOk n r := by
  obtain ⟨_, h2⟩ := comb_ok n.toNat (by omega) (k + 1) (by omega)
  obtain ⟨a, b, c⟩ := h2 r h
  refine ⟨fun e => by rw [e] at a; simp at a, fun x hx => ?_, b⟩
  have := c x hx
  omega
abbrev rW (n : Int) (ss : List (List Int)) (b : Int × Option (List Int)) (sz lo on : Option PyData) : Rho := [some (famD n ss), some (.int b.1), some (optD b.2), sz, lo, on]
theorem worst_turn {n : Int} {ss : List (List Int)} (hF : FamOk n ss) {b : Int × Option (List Int)} {lot : List Int} (hl : LotOk n lot) {sz : Option PyData} : ExS K E (tSeq (tAsg (tCall (sp_found_lot_uneven K) [] E0 (tCons (tVar 0) (tCons (tVar 4) tNil))) (gName 5)) (tIfS (tTest (tOp rGtI (tVar 5) (tVar 1))) (tPar 1 2 (tCons (tVar 5) (tCons (tVar 4) tNil))) tNext)) (rW n ss b sz (some (tI lot)) none) (.nx (rW n ss (wStep ss b lot) sz none none)) := by
  refine xs_weak (ρ1 := rW n ss (wStep ss b lot) sz (some (tI lot)) (some (.int (lotU lot ss)))) ?_ (fun F σ h => (h.keep 4).keep 5)
  refine xs_seq (xs_asg (ev_call (ea_cons (ev_var rfl) (ea_cons (ev_var rfl) ea_nil)) ⟨n, ss, lot, hF.w, hl, rfl, rfl⟩)) ?_
  show ExS K E _ (rW n ss b sz (some (tI lot)) (some (.int (lotU lot ss)))) _
  refine xs_if (et_test (ev_op (ev_var rfl) (ev_var rfl) od_gt)) (fun hb => ?_) (fun hb => ?_)
  · have h : b.1 < lotU lot ss := by simpa using hb
    have e : wStep ss b lot = (lotU lot ss, some lot) := by unfold wStep; rw [if_pos h]
    rw [e]
    exact xs_par (ea_cons (ev_var rfl) (ea_cons (ev_var rfl) ea_nil))
  · have h : ¬ b.1 < lotU lot ss := by simpa using hb
    have e : wStep ss b lot = b := by unfold wStep; rw [if_neg h]
    rw [e]
    exact xs_next
theorem worst_size {n : Int} {ss : List (List Int)} (hF : FamOk n ss) {b : Int × Option (List Int)} {k : Nat} (hk : k < n.toNat) : ExS K E (tFor (iSeq K (tCall (sp_some_numbers K) [] E0 (tCons (tOp (rIx K) (tVar 0) (tC (.int 0))) (tCons (tVar 3) tNil)))) (gName 4) (tSeq (tAsg (tCall (sp_found_lot_uneven K) [] E0 (tCons (tVar 0) (tCons (tVar 4) tNil))) (gName 5)) (tIfS (tTest (tOp rGtI (tVar 5) (tVar 1))) (tPar 1 2 (tCons (tVar 5) (tCons (tVar 4) tNil))) tNext))) (rW n ss b (some (.int (1 + (k : Int)))) none none) (.nx (rW n ss ((combM n.toNat (k + 1)).foldl (wStep ss) b) none none none)) := by
  have h1 := hF.n1
  have h7 := hF.n7
  refine xs_weak (ρ1 := rW n ss ((combM n.toNat (k + 1)).foldl (wStep ss) b) (some (.int (1 + (k : Int)))) none none) ?_ (fun F σ h => h.keep 3)
  have hr : EvD K (tCall (sp_some_numbers K) [] E0 (tCons (tOp (rIx K) (tVar 0) (tC (.int 0))) (tCons (tVar 3) tNil))) (rW n ss b (some (.int (1 + (k : Int)))) none none) (lD (combM n.toNat (k + 1))) :=
    ev_call (ea_cons (ev_fam0 rfl) (ea_cons (ev_var rfl) ea_nil)) ⟨n.toNat, k + 1, by omega, by omega, by
      have e1 : ((n.toNat : Nat) : Int) = n := by omega
      have e2 : ((k + 1 : Nat) : Int) = 1 + (k : Int) := by omega
      rw [e1, e2], rfl⟩
  have hfor := xs_for (K := K) (E := E) (g := gName 4) (ws := [4]) (ts := (tSeq (tAsg (tCall (sp_found_lot_uneven K) [] E0 (tCons (tVar 0) (tCons (tVar 4) tNil))) (gName 5)) (tIfS (tTest (tOp rGtI (tVar 5) (tVar 1))) (tPar 1 2 (tCons (tVar 5) (tCons (tVar 4) tNil))) tNext))) (combM n.toNat (k + 1)) tI (fun i => rW n ss (((combM n.toNat (k + 1)).take i).foldl (wStep ss) b) (some (.int (1 + (k : Int)))) none none) (fun i => rW n ss (((combM n.toNat (k + 1)).take i).foldl (wStep ss) b) (some (.int (1 + (k : Int)))) (((combM n.toNat (k + 1)).map tI)[i]?) none) (it_seqL hr) rfl (fun i h => by
      have e : ((combM n.toNat (k + 1)).map tI)[i]? = some (tI (combM n.toNat (k + 1))[i]) := by rw [List.getElem?_map, List.getElem?_eq_getElem h]; rfl
      show TgD K (gName 4) _ _ (rW n ss _ _ (((combM n.toNat (k + 1)).map tI)[i]?) none) _
      rw [e]
      exact tg_name) (fun i h => by
      have e : ((combM n.toNat (k + 1)).map tI)[i]? = some (tI (combM n.toNat (k + 1))[i]) := by rw [List.getElem?_map, List.getElem?_eq_getElem h]; rfl
      show ExS K E _ (rW n ss _ _ (((combM n.toNat (k + 1)).map tI)[i]?) none) (.nx (rW n ss (((combM n.toNat (k + 1)).take (i + 1)).foldl (wStep ss) b) _ none none))
      rw [e, List.take_succ_eq_append_getElem h, List.foldl_append]
      exact worst_turn hF (comb_lot h1 h7 (by omega) (List.getElem_mem h)))
  rw [List.take_length] at hfor
  exact hfor
theorem x_worst_lot {n : Int} {ss : List (List Int)} (hF : FamOk n ss) : ExS K E (t_worst_lot K E) [some (famD n ss), none, none, none, none, none] (.rt (worstD n ss)) := by
  have h1 := hF.n1
  have h7 := hF.n7
  refine xs_seq (xs_check hF rfl) (xs_seq (xs_asgT (ev_tup (ea_cons (ev_un ev_int ud_neg) (ea_cons ev_non ea_nil)) (by simp)) tg_two) ?_)
  show ExS K E _ (rW n ss (-1, none) none none none) _
  have hit := it_rng2 (K := K) (ρ := rW n ss (-1, none) none none none) (ta := tC (.int 1)) (tb := tOp (rAddU K) (tOp (rIx K) (tVar 0) (tC (.int 0))) (tC (.int 1))) (m := 1) (n := n + 1) ev_int (ev_op (ev_fam0 rfl) ev_int od_add) (by omega) (by omega)
  have en : (n + 1 - 1).toNat = n.toNat := by omega
  rw [en] at hit
  have hfor := xs_for (K := K) (E := E) (g := gName 3) (ws := [3]) (ts := (tFor (iSeq K (tCall (sp_some_numbers K) [] E0 (tCons (tOp (rIx K) (tVar 0) (tC (.int 0))) (tCons (tVar 3) tNil)))) (gName 4) (tSeq (tAsg (tCall (sp_found_lot_uneven K) [] E0 (tCons (tVar 0) (tCons (tVar 4) tNil))) (gName 5)) (tIfS (tTest (tOp rGtI (tVar 5) (tVar 1))) (tPar 1 2 (tCons (tVar 5) (tCons (tVar 4) tNil))) tNext)))) (List.range n.toNat) (fun (i : Nat) => PyData.int (1 + (i : Int))) (fun i => rW n ss (((List.range i).flatMap fun j => combM n.toNat (j + 1)).foldl (wStep ss) (-1, none)) none none none) (fun i => rW n ss (((List.range i).flatMap fun j => combM n.toNat (j + 1)).foldl (wStep ss) (-1, none)) (some (.int (1 + (i : Int)))) none none) hit rfl (fun i h => by
      rw [List.getElem_range]
      exact tg_name) (fun i h => by
      rw [List.length_range] at h
      show ExS K E _ _ (.nx (rW n ss (((List.range (i + 1)).flatMap fun j => combM n.toNat (j + 1)).foldl (wStep ss) (-1, none)) none none none))
      rw [List.range_succ, List.flatMap_append, List.foldl_append, List.flatMap_singleton]
      exact worst_size hF h)
  rw [List.length_range] at hfor
  exact xs_seq hfor (xs_ret (ev_tup (ea_cons (ev_var rfl) (ea_cons (ev_var rfl) ea_nil)) (by simp)))
theorem pure_worst_lot {vs : List V} {H : Hp} {Q : VK} (hs : sp_worst_lot K vs H Q E) : t_worst_lot K E { nx := fun _ H' => Q .non H', rt := Q } (L2.start ["family", "best", "found", "size", "lot", "one"] vs) H :=
  sp_body (R := R_worst_lot K) (fun ds o h => by
    obtain ⟨hl, d, r, rfl, h⟩ := h
    have hr : r = [] := List.length_eq_zero_iff.mp (by simpa using hl)
    subst hr
    rcases h with ⟨h1, h2, h3, rfl⟩ | ⟨n, ss, hF, rfl, _, rfl⟩
    · exact .inl (xs_seqX (xs_checkX h1 h2 h3 rfl))
    · exact .inl (x_worst_lot hF)) hs
theorem ex_op {C : Addr} {r : R2} {ta tb : TE} (h : EvX K E ta ρ C) : EvX K E (tOp r ta tb) ρ C := fun A σ H l hE Q q => h A σ H l hE _ q
theorem pure_is_always_even {vs : List V} {H : Hp} {Q : VK} (hs : sp_is_always_even K vs H Q E) : t_is_always_even K E { nx := fun _ H' => Q .non H', rt := Q } (L2.start ["family"] vs) H :=
  sp_body (R := R_is_always_even K) (fun ds o h => by
    obtain ⟨hl, d, r, rfl, h⟩ := h
    have hr : r = [] := List.length_eq_zero_iff.mp (by simpa using hl)
    subst hr
    rcases h with ⟨h1, h2, h3, rfl⟩ | ⟨n, ss, hF, rfl, _, rfl⟩
    · exact .inl (xs_retX (ex_op (ex_op (ex_call (ea_cons (ev_var rfl) ea_nil) ⟨rfl, d, [], rfl, .inl ⟨h1, h2, h3, rfl⟩⟩))))
    · exact .inl (xs_ret (ev_op (ev_op (ev_call (ea_cons (ev_var rfl) ea_nil) ⟨rfl, famD n ss, [], rfl, .inr ⟨n, ss, hF, rfl, rfl, rfl⟩⟩) ev_int (od_ixT rfl)) ev_int od_le))) hs
end
end Lc

set_option Elab.async false
set_option linter.all false
set_option maxRecDepth 100000
set_option maxHeartbeats 4000000
namespace Lc
open PySem L2 PySem.Spec PyProof.Rows
/-! ### _law_lots -/
def powM : Nat → List (List Int)
  | 0 => [[]]
  | k + 1 => powM k ++ (powM k).map fun l => l ++ [(k : Int)]
def encL (l : List Int) : List PyData := [.int (l.length : Int), tI l]
def ltL (a b : List Int) : Bool := decide (a.length < b.length) || (decide (a.length = b.length) && HT.lexLt a b)
theorem ltL_enc (a b : List Int) : ltXs (encL a) (encL b) = ltL a b := by
  have h : ltXs (encL a) (encL b) = (match cmpI (a.length : Int) (b.length : Int) with
    | .eq => ltXs (a.map .int) (b.map .int)
    | o => o == .lt) := by
    unfold encL ltXs
    simp only [cmpXs, cmpX, tI]
    cases cmpI (a.length : Int) (b.length : Int) with
    | lt => rfl
    | gt => rfl
    | eq =>
      show ((match cmpXs (a.map PyData.int) (b.map PyData.int) with
        | .eq => Ordering.eq
        | o => o) == Ordering.lt) = (cmpXs (a.map .int) (b.map .int) == .lt)
      cases cmpXs (a.map PyData.int) (b.map PyData.int) <;> rfl
  rw [h, ltXs_ints]
  unfold ltL cmpI
  by_cases h1 : a.length < b.length
  · rw [if_pos (by omega), decide_eq_true h1]; rfl
  · by_cases h2 : b.length < a.length
    · rw [if_neg (by omega), if_pos (by omega), decide_eq_false h1, decide_eq_false (by omega)]; rfl
    · rw [if_neg (by omega), if_neg (by omega), decide_eq_false h1, decide_eq_true (by omega)]
      simp
theorem lots_eq : ∀ n, n < 8 → ((isort ltL (powM n)).filter fun l => decide (0 < l.length)) = lotsM n := by decide +kernel
theorem pow_small : ∀ n, n < 8 → (powM n).length ≤ 128 ∧ ∀ l ∈ powM n, l.length ≤ 7 := by decide +kernel
def R_law_lots : List PyData → Out → Prop := fun ds o => ∃ n : Nat, n ≤ 7 ∧ ds = [.int (n : Int)] ∧ o = .rt (lD (lotsM n))
def sp_law_lots (K : PySem.W.Frag) : Sp := spD K R_law_lots
def t_law_lots (K : PySem.W.Frag) (E : XK) : TS := (tSeq (tAsg (tLst (tCons (tTup tNil) tNil)) (gName 1))
  (tSeq (tFor (iRng1 (tCons (tVar 0) tNil)) (gName 2) (tAsg (tOp (rAddU K) (tVar 1) (tLc (iSeq K (tVar 1)) (gName 3) tYes (tOp (rAddU K) (tVar 3) (tTup (tCons (tVar 2) tNil))) [3])) (gName 1)))
  (tRet (tLc (iSeq K (tCB (rSortD K) (tCons (tLc (iSeq K (tVar 1)) (gName 3) tYes (tTup (tCons (tCB (rLenU K) (tCons (tVar 3) tNil)) (tCons (tVar 3) tNil))) [3]) tNil))) (gTup K 2 (gCons (gName 4) (gCons (gName 3) gNil))) (tTest (tOp rGtI (tVar 4) (tC (.int 0)))) (tVar 3) [4, 3]))))
section
variable {K : PySem.W.Frag} {E : XK}
theorem x_law_lots {n : Nat} (hn : n ≤ 7) : ExS K E (t_law_lots K E) [some (.int (n : Int)), none, none, none, none] (.rt (lD (lotsM n))) := by
  refine xs_seq (xs_asg (d := lD (powM 0)) (ev_lst (ea_cons (ev_tup ea_nil (by simp)) ea_nil) (by show (1 : Nat) ≤ 100000; decide))) ?_
  show ExS K E _ [some (.int (n : Int)), some (lD (powM 0)), none, none, none] _
  have hit := it_rng1 (K := K) (ρ := [some (.int (n : Int)), some (lD (powM 0)), none, none, none]) (te := tVar 0) (ev_var rfl) (by omega : -(2 ^ 62) ≤ (n : Int) ∧ (n : Int) < 2 ^ 62)
  rw [Int.toNat_natCast] at hit
  have hfor := xs_for (K := K) (E := E) (g := gName 2) (ws := [2]) (ts := (tAsg (tOp (rAddU K) (tVar 1) (tLc (iSeq K (tVar 1)) (gName 3) tYes (tOp (rAddU K) (tVar 3) (tTup (tCons (tVar 2) tNil))) [3])) (gName 1))) (List.range n) (fun i => .int (0 + (i : Int)))
    (fun i => [some (.int (n : Int)), some (lD (powM i)), if i = 0 then none else some (.int (0 + ((i - 1 : Nat) : Int))), none, none]) (fun i => [some (.int (n : Int)), some (lD (powM i)), some (.int (0 + (i : Int))), none, none]) hit rfl
    (fun i hi => by
      rw [List.length_range] at hi
      rw [List.getElem_range]
      exact tg_name) (fun i hi => by
      rw [List.length_range] at hi
      obtain ⟨hl, hr⟩ := pow_small i (by omega)
      have hc : EvD K (tLc (iSeq K (tVar 1)) (gName 3) tYes (tOp (rAddU K) (tVar 3) (tTup (tCons (tVar 2) tNil))) [3]) [some (.int (n : Int)), some (lD (powM i)), some (.int (0 + (i : Int))), none, none] (.list ((powM i).map fun l => tI (l ++ [(i : Int)]))) :=
        ev_lcN (powM i) tI (fun l => tI (l ++ [(i : Int)])) (it_seqL (ev_var rfl)) (by omega) (by simp) (fun l hm => by
          have e2 : tI (l ++ [(i : Int)]) = .tuple (l.map .int ++ [.int (0 + (i : Int))]) := by unfold tI; rw [List.map_append, Int.zero_add]; rfl
          rw [e2]
          exact ev_op (ev_var (d := tI l) rfl) (ev_tup (ea_cons (ev_var rfl) ea_nil) (by simp)) (od_addT (by have := hr l hm; simp; omega)))
      have hd : EvD K (tOp (rAddU K) (tVar 1) (tLc (iSeq K (tVar 1)) (gName 3) tYes (tOp (rAddU K) (tVar 3) (tTup (tCons (tVar 2) tNil))) [3])) [some (.int (n : Int)), some (lD (powM i)), some (.int (0 + (i : Int))), none, none] (lD (powM (i + 1))) := by
        have e : lD (powM (i + 1)) = .list ((powM i).map tI ++ (powM i).map fun l => tI (l ++ [(i : Int)])) := by
          unfold lD
          show PyData.list ((powM i ++ (powM i).map fun l => l ++ [(i : Int)]).map tI) = _
          rw [List.map_append, List.map_map]
          rfl
        rw [e]
        exact ev_op (ev_var (d := lD (powM i)) rfl) hc (od_addL (by simp; omega))
      exact xs_asg hd)
  rw [List.length_range] at hfor
  refine xs_seq hfor ?_
  generalize (if n = 0 then none else some (PyData.int (0 + ((n - 1 : Nat) : Int)))) = kk
  obtain ⟨hl, hr⟩ := pow_small n (by omega)
  have hp : EvD K (tLc (iSeq K (tVar 1)) (gName 3) tYes (tTup (tCons (tCB (rLenU K) (tCons (tVar 3) tNil)) (tCons (tVar 3) tNil))) [3]) [some (.int (n : Int)), some (lD (powM n)), kk, none, none] (.list (((powM n).map encL).map .tuple)) := by
    have := ev_lcN (K := K) (ρ := [some (.int (n : Int)), some (lD (powM n)), kk, none, none]) (wi := iSeq K (tVar 1)) (j := 3) (vs := [3]) (te := tTup (tCons (tCB (rLenU K) (tCons (tVar 3) tNil)) (tCons (tVar 3) tNil))) (powM n) tI (fun l => .tuple (encL l)) (it_seqL (ev_var rfl)) (by omega) (by simp) (fun l hm => ev_tup (ea_cons (ev_to (ev_cb (ea_cons (ev_var (d := tI l) rfl) ea_nil) ca_lenT) (by rw [List.length_map])) (ea_cons (ev_var rfl) ea_nil)) (by show (2 : Nat) ≤ 100000; decide))
    rw [List.map_map]
    exact this
  have hs : EvD K (tCB (rSortD K) (tCons (tLc (iSeq K (tVar 1)) (gName 3) tYes (tTup (tCons (tCB (rLenU K) (tCons (tVar 3) tNil)) (tCons (tVar 3) tNil))) [3]) tNil)) [some (.int (n : Int)), some (lD (powM n)), kk, none, none] (.list ((isort ltL (powM n)).map fun l => .tuple (encL l))) := by
    have h := ev_cb (ea_cons hp ea_nil) (ca_sortT (K := K) (ds := (powM n).map encL) (fun d hd => by
      obtain ⟨l, _, rfl⟩ := List.mem_map.mp hd
      refine ⟨?_, ?_⟩
      · simp [encL, frgs, frg, tI, frgs_ints]
      · simp [encL, tI, PyData.depthAll, PyData.depth, depth_ints]) (fun d hd e he => by
      obtain ⟨l, _, rfl⟩ := List.mem_map.mp hd
      obtain ⟨m, _, rfl⟩ := List.mem_map.mp he
      simp [encL, cmbAll, cmb, tI, cmb_ints]) (.inl fun d hd => by
      obtain ⟨l, _, rfl⟩ := List.mem_map.mp hd
      exact ⟨_, _, rfl⟩))
    rw [isort_map] at h
    have e : (fun (x y : List Int) => ltXs (encL x) (encL y)) = ltL := by funext x y; exact ltL_enc x y
    rw [e, List.map_map] at h
    exact h
  have hf := ev_lcF (K := K) (ρ := [some (.int (n : Int)), some (lD (powM n)), kk, none, none]) (wi := iSeq K (tCB (rSortD K) (tCons (tLc (iSeq K (tVar 1)) (gName 3) tYes (tTup (tCons (tCB (rLenU K) (tCons (tVar 3) tNil)) (tCons (tVar 3) tNil))) [3]) tNil))) (g := gTup K 2 (gCons (gName 4) (gCons (gName 3) gNil))) (tt := tTest (tOp rGtI (tVar 4) (tC (.int 0)))) (te := tVar 3) (vs := [4, 3]) (ws := [4, 3]) (isort ltL (powM n)) (fun l => .tuple (encL l)) (fun l => decide (0 < l.length)) tI (fun l => [some (.int (n : Int)), some (lD (powM n)), kk, some (tI l), some (.int (l.length : Int))]) (it_seqL hs) (by rw [isort_len]; omega) (by simp) (fun l _ => tg_two) (fun l _ => et_to (et_test (ev_op (ev_var rfl) ev_int od_gt)) (by
      have : ((0 : Int) < (l.length : Int)) ↔ (0 < l.length) := by omega
      simp only [this])) (fun l _ _ => ev_var rfl)
  rw [lots_eq n (by omega)] at hf
  exact xs_ret hf
theorem pure_law_lots {vs : List V} {H : Hp} {Q : VK} (hs : sp_law_lots K vs H Q E) : t_law_lots K E { nx := fun _ H' => Q .non H', rt := Q } (L2.start ["things", "found", "k", "lot", "size"] vs) H :=
  sp_body (R := R_law_lots) (fun ds o h => by
    obtain ⟨n, hn, rfl, rfl⟩ := h
    exact .inl (x_law_lots hn)) hs
end
end Lc

set_option Elab.async false
set_option linter.all false
set_option maxRecDepth 100000
set_option maxHeartbeats 4000000
namespace Lc
open PySem L2 PySem.Spec PyProof.Rows
/-! ### texts -/
def sgn (c : Nat) : Str := ⟨#[c]⟩
def signsD (x : Str) : List PyData := x.cps.toList.map fun c => .str (sgn c)
theorem signsD_len (x : Str) : (signsD x).length = x.cps.size := by simp [signsD]
section
variable {K : PySem.W.Frag} {A : List Addr} {ρ : Rho} {ta tb te : TE} {d e : PyData}
theorem itok_str {x : Str} {H1 : Hp} : ItOk K A (Its x) (signsD x) H1 where
  goes := fun i H hi _ => by show i < x.cps.size; rw [signsD_len] at hi; exact hi
  stops := fun H _ => by show x.cps.size ≤ (signsD x).length; rw [signsD_len]; exact Nat.le_refl _
  yields := fun i H v H' B hi _ l _ y => by
    obtain ⟨rfl, c, hc, rfl⟩ := y
    refine ⟨Same.refl _, .str (sgn c), ?_, .str _⟩
    unfold signsD
    rw [List.getElem?_map, Array.getElem?_toList, hc]
    rfl
theorem it_str {x : Str} (h : EvD K te ρ (.str x)) : ItD K (iStr te) ρ (signsD x) := fun A σ H l hE R q => h A σ H l hE _ fun v H1 s1 hv => by
  cases hv
  exact ⟨x, rfl, q _ H1 s1 itok_str⟩
def rJoin (K : PySem.W.Frag) : V → List V → Hp → VK → Prop := fun x xs H Q => ∃ a p, ∃ ys : List Str, x = .str a ∧ xs = [.ref p] ∧ (SqL K H p (ys.map V.str) ∨ SqT K H p (ys.map V.str)) ∧ (ys.map (·.length)).sum + ys.length * a.length ≤ 16777216 ∧ Q (.str (Txt.join a ys)) H
def tJoin (K : PySem.W.Frag) (to te : TE) : TE := tM1 (rJoin K) to te
theorem ev_join {a : Str} {ys : List Str} (h : EvD K ta ρ (.str a)) (k : EvD K tb ρ (.list (ys.map .str))) (hz : (ys.map (·.length)).sum + ys.length * a.length ≤ 16777216) : EvD K (tJoin K ta tb) ρ (.str (Str.join a ys)) := fun A σ H l hE Q q =>
  h A σ H l hE _ fun v H1 s1 hv => by
    cases hv
    refine ⟨⟨a, rfl⟩, k A σ H1 (l.same s1) (hE.same (cut_same s1)) _ fun w H2 s2 hw => ?_⟩
    obtain ⟨p, xs, rfl, hp, hx⟩ := hw.listI
    have e : xs = ys.map V.str := hx.strs
    subst e
    refine ⟨a, p, ys, rfl, rfl, .inl (SqL.of (same_cut _ _ hp)), hz, q _ H2 (s1.trans s2) ?_⟩
    have e : Txt.join a ys = Str.join a ys := StrLaws.glued_eq_join a ys
    rw [e]; exact .str _
def rSplit : V → List V → Hp → VK → Prop := fun x xs H Q => ∃ a b, x = .str a ∧ xs = [.str b] ∧ (b.length == 0) = false ∧ a.length + 2 ≤ sizeLine ∧ rNewStrs (Txt.split a b) H Q
def tSplit (to te : TE) : TE := tM1 rSplit to te
theorem strs_dq {F : Hp} : ∀ ys : List Str, DqAll K F (ys.map V.str) (ys.map PyData.str)
  | [] => .nil
  | y :: ys => .cons (.str y) (strs_dq ys)
theorem ev_split {a b : Str} (h : EvD K ta ρ (.str a)) (k : EvD K tb ρ (.str b)) (hb : (b.length == 0) = false) (hz : a.length + 2 ≤ sizeLine) : EvD K (tSplit ta tb) ρ (.list ((Txt.split a b).map .str)) := fun A σ H l hE Q q =>
  h A σ H l hE _ fun v H1 s1 hv => by
    cases hv
    refine ⟨⟨a, rfl⟩, k A σ H1 (l.same s1) (hE.same (cut_same s1)) _ fun w H2 s2 hw => ?_⟩
    cases hw
    exact ⟨a, b, rfl, rfl, hb, hz, fun p hp => q _ _ ((s1.trans s2).trans (same_new hp)) (.lst (cut_new (l.same (s1.trans s2)) hp) (strs_dq _))⟩
/-- f'{e}..' -/
def tFs (te : TE) (z : Str) : TE := fun σ H Q => tJs [tFmt te, tC (.str z)] Str.empty σ H fun out H1 => Q (.str out) H1
theorem ev_fs {i : Int} {z : Str} (h : EvD K te ρ (.int i)) (hi : i.natAbs.log2 < 1920) (hl : (Str.length (toString i)) + z.length ≤ 100000) : EvD K (tFs te z) ρ (.str ((toString i : Str) ++ z)) := fun A σ H l hE Q q =>
  h A σ H l hE _ fun v H1 s1 hv => by
    cases hv
    refine .inr ⟨i, rfl, hi, _, rfl, ?_, _, rfl, ?_, ?_⟩
    · rw [Str.empty_append]; exact Nat.le_trans (by omega : _ ≤ 100000) (by decide)
    · rw [Str.empty_append, Str.length_append]; exact Nat.le_trans hl (by decide)
    · rw [Str.empty_append]; exact q _ H1 s1 (.str _)
theorem ca_intS {a : Str} {n : Int} (h : PySem.intText? a = some n) (hz : a.length ≤ 640) : CaD K rIntU [.str a] (.int n) := CaD.inr fun A xs H l hx Q q => by
  cases hx with
  | cons h1 h2 => cases h1; cases h2; exact ⟨a, n, rfl, h, hz, q _ H (Same.refl H) (.int _)⟩
theorem ca_str {i : Int} (h : i.natAbs.log2 < 1920) : CaD K rStrU [.int i] (.str (toString i)) := fun A xs H l hx Q q => by
  cases hx with
  | cons h1 h2 => cases h1; cases h2; exact ⟨i, rfl, h, q _ H (Same.refl H) (.str _)⟩
/-- list('..') -/
def rListS : List V → Hp → VK → Prop := fun xs H Q => ∃ x : Str, xs = [.str x] ∧ x.length ≤ 100000 ∧ ∀ p, H p = none → Q (.ref p) (upd H p (.lst (x.cps.toList.map fun c => .str (sgn c))))
theorem ca_listS {x : Str} (h : x.length ≤ 100000) : CaD K rListS [.str x] (.list (signsD x)) := fun A xs H l hx Q q => by
  cases hx with
  | cons h1 h2 =>
    cases h1; cases h2
    refine ⟨x, rfl, h, fun p hp => q _ _ (same_new hp) (.lst (cut_new l hp) ?_)⟩
    have := strs_dq (K := K) (F := cut A (upd H p (.lst (x.cps.toList.map fun c => V.str (sgn c))))) (x.cps.toList.map sgn)
    rw [List.map_map, List.map_map] at this
    exact this
theorem ev_dnew : EvD K tDNewK ρ (.dict []) := fun A σ H l hE Q q => fun p hp => q _ _ (same_new hp) (Dq.dct (kvs := []) (ds := []) (cut_new l hp) .nil)
end
theorem cr_listS {X : Cx} (hc : X.calm = true) : CallR X (.type "list") rListS := by
  intro pins s σ H xs us Q I r h
  obtain ⟨x, rfl, hz, q⟩ := h
  cases r with
  | cons rx rr =>
    cases rr
    obtain ⟨t, rfl⟩ := rx
    have hz' : x.cps.size ≤ sizeLine := Nat.le_trans hz (by decide)
    refine call_list_str (I.ok.hd hc) x t (hn := hz') fun h' tk acc c' hk hS hacc => ?_
    have hnew : s.heap.get? s.heap.objs.size = none := by
      cases e : s.heap.get? s.heap.objs.size with
      | none => rfl
      | some o => exact absurd (Heap.lt_size e) (Nat.lt_irrefl _)
    have hn : H s.heap.objs.size = none := I.hok.gone hnew
    refine ⟨.ref s.heap.objs.size, _, I.laidN (o := .lst (x.cps.toList.map fun c => V.str (sgn c))) hk hnew hn ⟨by rw [List.length_map, Array.length_toList]; exact hz', acc.toList, c', ?_, by simpa using hS⟩, rfl, q _ hn⟩
    have : ∀ (l : List Nat) (vs : List Value), vs.length = l.length → (∀ (j : Nat) (v : Value), vs[j]? = some v → ∃ c u, l[j]? = some c ∧ v = Value.str ⟨#[c]⟩ u) → Vals (l.map fun c => V.str (sgn c)) vs := by
      intro l
      induction l with
      | nil =>
        intro vs hl _
        cases vs with
        | nil => exact .nil
        | cons _ _ => simp at hl
      | cons c l ih =>
        intro vs hl hv
        cases vs with
        | nil => simp at hl
        | cons v vs =>
          obtain ⟨c', u, e1, e2⟩ := hv 0 v rfl
          have : c = c' := by simpa using e1
          subst this e2
          exact .cons ⟨u, rfl⟩ (ih vs (by simpa using hl) fun j w hw => by
            obtain ⟨c2, u2, e3, e4⟩ := hv (j + 1) w (by simpa using hw)
            exact ⟨c2, u2, by simpa using e3, e4⟩)
    refine this _ _ (by rw [Array.length_toList, Array.length_toList]; exact hacc.1) fun j v hv => ?_
    obtain ⟨c, u, hc, rfl⟩ := hacc.2 j v (by simpa using hv)
    exact ⟨c, u, by rw [Array.getElem?_toList]; exact hc, rfl⟩
end Lc

set_option Elab.async false
set_option linter.all false
set_option maxRecDepth 100000
set_option maxHeartbeats 4000000
namespace Lc
open PySem PyProof.Rows
/-! ### texts of families, plain -/
abbrev cp (t : Str) : List Nat := t.cps.toList
theorem str_ext {a b : Str} (h : cp a = cp b) : a = b := Str.ext' (Array.toList_inj.mp h)
theorem cp_app (a b : Str) : cp (a ++ b) = cp a ++ cp b := by unfold cp; rw [Str.cps_append, Array.toList_append]
theorem cp_sgn (c : Nat) : cp (sgn c) = [c] := rfl
/-- parts with one sign between -/
def jl (c : Nat) : List (List Nat) → List Nat
  | [] => []
  | [x] => x
  | x :: y :: r => x ++ c :: jl c (y :: r)
theorem cp_join (c : Nat) : ∀ ps : List Str, cp (Str.join (sgn c) ps) = jl c (ps.map cp)
  | [] => rfl
  | [x] => rfl
  | x :: y :: r => by
    show cp (x ++ sgn c ++ Str.join (sgn c) (y :: r)) = _
    rw [cp_app, cp_app, cp_join c (y :: r), cp_sgn]
    simp [jl]
theorem cp_join0 : ∀ ps : List Str, cp (Str.join Str.empty ps) = (ps.map cp).flatten
  | [] => rfl
  | [x] => by simp [Str.join]
  | x :: y :: r => by
    show cp (x ++ Str.empty ++ Str.join Str.empty (y :: r)) = _
    rw [cp_app, Str.append_empty, cp_join0 (y :: r)]
    simp
/-- the first part ends at the first c -/
theorem cut_uniq {c : Nat} : ∀ {x y s t : List Nat}, c ∉ x → c ∉ y → x ++ c :: s = y ++ c :: t → x = y ∧ s = t
  | [], [], _, _, _, _, h => ⟨rfl, by simpa using h⟩
  | [], b :: y, _, _, _, hy, h => by
    have : c = b := by simpa using congrArg List.head? h
    exact (hy (by simp [this])).elim
  | a :: x, [], _, _, hx, _, h => by
    have : a = c := by simpa using congrArg List.head? h
    exact (hx (by simp [this])).elim
  | a :: x, b :: y, s, t, hx, hy, h => by
    simp only [List.cons_append, List.cons.injEq] at h
    obtain ⟨h1, h2⟩ := cut_uniq (fun m => hx (by simp [m])) (fun m => hy (by simp [m])) h.2
    exact ⟨by rw [h.1, h1], h2⟩
theorem jl_uniq {c : Nat} : ∀ {ps qs : List (List Nat)}, ps ≠ [] → qs ≠ [] → (∀ p ∈ ps, c ∉ p) → (∀ q ∈ qs, c ∉ q) → jl c ps = jl c qs → ps = qs
  | [], _, h, _, _, _, _ => (h rfl).elim
  | _, [], _, h, _, _, _ => (h rfl).elim
  | [x], [y], _, _, _, _, h => by simpa [jl] using h
  | [x], y :: z :: r, _, _, hp, _, h => by
    exfalso
    have h' : x = y ++ c :: jl c (z :: r) := h
    exact hp x (by simp) (by rw [h']; simp)
  | x :: z :: r, [y], _, _, _, hq, h => by
    exfalso
    have h' : x ++ c :: jl c (z :: r) = y := h
    exact hq y (by simp) (by rw [← h']; simp)
  | x :: x' :: r, y :: y' :: u, _, _, hp, hq, h => by
    have h' : x ++ c :: jl c (x' :: r) = y ++ c :: jl c (y' :: u) := h
    obtain ⟨h1, h2⟩ := cut_uniq (hp x (by simp)) (hq y (by simp)) h'
    rw [h1, jl_uniq (by simp) (by simp) (fun p m => hp p (by simp only [List.mem_cons] at m ⊢; exact .inr m)) (fun q m => hq q (by simp only [List.mem_cons] at m ⊢; exact .inr m)) h2]
theorem split_eq {t : Str} {c : Nat} {ps : List Str} (hne : ps ≠ []) (hf : ∀ p ∈ ps, c ∉ cp p) (ht : cp t ≠ []) (h : Str.join (sgn c) ps = t) : Txt.split t (sgn c) = ps := by
  have hj : Str.join (sgn c) (Txt.split t (sgn c)) = t := StrLaws.join_split t (sgn c)
  have hs : Txt.split t (sgn c) ≠ [] := fun e => by rw [e] at hj; rw [← hj] at ht; exact ht rfl
  have e : (Txt.split t (sgn c)).map cp = ps.map cp := jl_uniq (c := c) (fun e => hs (List.map_eq_nil_iff.mp e)) (fun e => hne (List.map_eq_nil_iff.mp e)) (fun p hp => by
      obtain ⟨q, hq, rfl⟩ := List.mem_map.mp hp
      exact StrLaws.split_free t c q hq) (fun p hp => by
      obtain ⟨q, hq, rfl⟩ := List.mem_map.mp hp
      exact hf q hq) (by rw [← cp_join, ← cp_join, hj, h])
  have inj : ∀ (a b : List Str), a.map cp = b.map cp → a = b := by
    intro a
    induction a with
    | nil => intro b h; exact (List.map_eq_nil_iff.mp h.symm).symm
    | cons x a ih =>
      intro b h
      cases b with
      | nil => simp at h
      | cons y b =>
        simp only [List.map_cons, List.cons.injEq] at h
        rw [str_ext h.1, ih b h.2]
  exact inj _ _ e
/-! digits -/
def dig (i : Int) : Str := Str.ofString (toString i)
theorem dig_sgn {i : Int} (h0 : 0 ≤ i) (h9 : i ≤ 9) : dig i = sgn (48 + i.toNat) := by
  have : ∀ k : Nat, k < 10 → dig (k : Int) = sgn (48 + k) := by decide +kernel
  have e : ((i.toNat : Nat) : Int) = i := by omega
  have := this i.toNat (by omega)
  rw [e] at this
  exact this
theorem int_sgn {c : Nat} (h0 : 48 ≤ c) (h9 : c ≤ 57) : PySem.intText? (sgn c) = some ((c : Int) - 48) := by
  have : ∀ k : Nat, k < 10 → PySem.intText? (sgn (48 + k)) = some (k : Int) := by decide +kernel
  have h := this (c - 48) (by omega)
  have e : 48 + (c - 48) = c := by omega
  rw [e] at h
  rw [h]
  congr 1
  omega
def lotT (s : List Int) : Str := Str.join "" (s.map dig)
def famT (n : Int) (ss : List (List Int)) : Str := Str.join " " ((dig n ++ ":") :: ss.map lotT)
theorem cp_lotT {s : List Int} (h : ∀ x ∈ s, 0 ≤ x ∧ x ≤ 9) : cp (lotT s) = s.map fun x => 48 + x.toNat := by
  unfold lotT
  have e0 : (Str.ofString "") = Str.empty := rfl
  rw [e0, cp_join0, List.map_map]
  induction s with
  | nil => rfl
  | cons a s ih =>
    rw [List.map_cons, List.flatten_cons, ih (fun x hx => h x (by simp [hx])), List.map_cons]
    show cp (dig a) ++ _ = _
    rw [dig_sgn (h a (by simp)).1 (h a (by simp)).2, cp_sgn]
    rfl
/-! reading -/
def okSg (c : Nat) : Bool := decide (c ∈ cp "01234567: ")
theorem okSg_iff (c : Nat) : okSg c = true ↔ (48 ≤ c ∧ c ≤ 55) ∨ c = 58 ∨ c = 32 := by
  have e : cp "01234567: " = [48, 49, 50, 51, 52, 53, 54, 55, 58, 32] := by decide +kernel
  unfold okSg
  rw [e, decide_eq_true_eq]
  simp only [List.mem_cons, List.not_mem_nil, or_false]
  omega
def wsT (t : Str) : List Str := Txt.split t " "
def w0T (t : Str) : Str := (wsT t).headD ""
def okT (t : Str) : Bool := (cp t).all okSg && (decide (L2.cutS t (some 1) (some 2) = ":") && (decide ((w0T t).length = 2) && ((!decide ((cp (w0T t)).headD 0 ∈ cp ": ")) && (wsT t).tail.all fun w => !decide (58 ∈ cp w))))
def foundT (t : Str) : PyData := .tuple [.int (((cp (w0T t)).headD 0 : Int) - 48), .tuple ((wsT t).tail.map fun w => .tuple ((cp w).map fun (c : Nat) => PyData.int ((c : Int) - 48)))]
def parseT (t : Str) : Option PyData := if okT t && isFam (foundT t) then some (foundT t) else none
def parseD : PyData → Option PyData
  | .str t => parseT t
  | _ => none
theorem ws_ne {t : Str} (h : cp t ≠ []) : wsT t ≠ [] := fun e => by
  have hj : Str.join " " (Txt.split t " ") = t := StrLaws.join_split t " "
  have e' : Txt.split t " " = [] := e
  rw [e'] at hj
  rw [← hj] at h
  exact h rfl
theorem ws_join (t : Str) : Str.join " " (wsT t) = t := StrLaws.join_split t " "
theorem ws_free (t : Str) : ∀ p ∈ wsT t, 32 ∉ cp p := StrLaws.split_free t 32
theorem cutS_12 {t : Str} (h : L2.cutS t (some 1) (some 2) = ":") : (cp t)[1]? = some 58 := by
  have h1 : cp (L2.cutS t (some 1) (some 2)) = [58] := by rw [h]; decide +kernel
  unfold L2.cutS at h1
  simp only [cp] at h1
  have e1 : HT.sIx t.length 0 (some 1) = min 1 t.length := by simp [HT.sIx]
  have e2 : HT.sIx t.length t.length (some 2) = min 2 t.length := by simp [HT.sIx]
  rw [e1, e2] at h1
  have hl : t.length = (cp t).length := by simp [cp, Str.length]
  rw [hl] at h1
  have h2 : ((cp t).drop (min 1 (cp t).length)).take (min 2 (cp t).length - min 1 (cp t).length) = [58] := h1
  clear h1 hl e1 e2 h
  revert h2
  generalize cp t = l
  intro h1
  match l with
  | [] => simp at h1
  | [a] => simp at h1
  | a :: b :: r =>
    simp at h1
    simp [h1]
theorem famT_len {n : Int} {ss : List (List Int)} (hF : FamOk n ss) : (famT n ss).length ≤ 200 := by
  unfold famT
  refine Nat.le_trans (StrLaws.join_length_le _ _) ?_
  have h7 := hF.n7
  have h1 := hF.n1
  have h8 := hF.s8
  have hl : ∀ s ∈ ss, (lotT s).length ≤ 7 := fun s hs => by
    have hb := (hF.lots s hs).2.1
    have e : (lotT s).length = (cp (lotT s)).length := by simp [cp, Str.length]
    rw [e, cp_lotT (fun x hx => by have := hb x hx; omega), List.length_map]
    exact (hF.lots s hs).len h7
  have hs : ∀ l : List (List Int), (∀ s ∈ l, (lotT s).length ≤ 7) → ((l.map lotT).map (·.length)).sum ≤ 7 * l.length := by
    intro l
    induction l with
    | nil => intro _; simp
    | cons s l ih =>
      intro h
      have h1 := h s (by simp)
      have h2 := ih (fun z hz => h z (by simp [hz]))
      simp only [List.map_cons, List.sum_cons, List.length_cons]
      omega
  have h2 := hs ss hl
  have h3 : (dig n ++ ":").length = 2 := by
    rw [Str.length_append, dig_sgn (by omega) (by omega)]
    rfl
  have h4 : (Str.ofString " ").length = 1 := rfl
  simp only [List.map_cons, List.sum_cons, List.length_cons, List.length_map, h3, h4]
  omega
/-- what is read of a text has that text -/
theorem parse_text {t : Str} {d : PyData} (h : parseT t = some d) : ∃ n ss, FamOk n ss ∧ d = famD n ss ∧ famT n ss = t := by
  unfold parseT at h
  by_cases hc : (okT t && isFam (foundT t)) = true
  · rw [if_pos hc] at h
    have hd := (Option.some.inj h).symm
    subst hd
    rw [Bool.and_eq_true] at hc
    obtain ⟨hok, hfam⟩ := hc
    obtain ⟨n, ss, e, hF⟩ := isFam_inv hfam
    refine ⟨n, ss, hF, e, ?_⟩
    unfold okT at hok
    simp only [Bool.and_eq_true, decide_eq_true_eq] at hok
    obtain ⟨_, hcut, hlen, _, _⟩ := hok
    have hne : cp t ≠ [] := fun e => by have := cutS_12 hcut; rw [e] at this; simp at this
    have h7 := hF.n7
    have h1 := hF.n1
    obtain ⟨w, ws, hws⟩ : ∃ w ws, wsT t = w :: ws := by
      cases hz : wsT t with
      | nil => exact (ws_ne hne hz).elim
      | cons w ws => exact ⟨w, ws, rfl⟩
    have hw0 : w0T t = w := by unfold w0T; rw [hws]; rfl
    have hfo : foundT t = .tuple [.int (((cp w).headD 0 : Int) - 48), .tuple (ws.map fun w => .tuple ((cp w).map fun (c : Nat) => PyData.int ((c : Int) - 48)))] := by
      unfold foundT; rw [hw0, hws]; rfl
    rw [hfo] at e
    unfold famD at e
    simp only [PyData.tuple.injEq, List.cons.injEq, PyData.int.injEq, and_true] at e
    obtain ⟨en, es⟩ := e
    have ht : cp t = jl 32 ((w :: ws).map cp) := by
      have := cp_join 32 (wsT t)
      rw [hws] at this
      rw [← this, ← hws]
      exact (congrArg cp (ws_join t)).symm
    rw [hw0] at hlen
    have hl2 : (cp w).length = 2 := by rw [← hlen]; simp [cp, Str.length]
    obtain ⟨c0, c1, hcw⟩ : ∃ c0 c1, cp w = [c0, c1] := by
      match hz : cp w, hl2 with
      | [a, b], _ => exact ⟨a, b, rfl⟩
    have hc1 : c1 = 58 := by
      have h2 := cutS_12 hcut
      rw [ht, List.map_cons, hcw] at h2
      cases ws with
      | nil => simpa [jl] using h2
      | cons x r => simpa [jl] using h2
    have hc0 : (c0 : Int) = n + 48 := by
      rw [hcw] at en
      have : ((c0 : Nat) : Int) - 48 = n := en
      omega
    have hw : dig n ++ ":" = w := str_ext (by
      rw [cp_app, dig_sgn (by omega) (by omega), hcw, hc1, cp_sgn]
      have : 48 + n.toNat = c0 := by omega
      rw [this]
      rfl)
    have hss : ∀ (l : List Str) (s : List (List Int)), (∀ x ∈ s, LotOk n x) → l.map (fun w => PyData.tuple ((cp w).map fun (c : Nat) => PyData.int ((c : Int) - 48))) = s.map tI → s.map lotT = l := by
      intro l
      induction l with
      | nil => intro s _ h; rw [List.map_nil] at h; rw [List.map_eq_nil_iff.mp h.symm]; rfl
      | cons x l ih =>
        intro s hs h
        cases s with
        | nil => simp at h
        | cons a s =>
          simp only [List.map_cons, List.cons.injEq] at h
          rw [List.map_cons, ih s (fun z hz => hs z (by simp [hz])) h.2]
          congr 1
          have ha : a = (cp x).map fun (c : Nat) => (c : Int) - 48 := by
            have := PyData.tuple.inj h.1
            have e2 : (cp x).map (fun (c : Nat) => PyData.int ((c : Int) - 48)) = ((cp x).map fun (c : Nat) => (c : Int) - 48).map .int := by rw [List.map_map]; rfl
            rw [e2] at this
            exact (ints_inj this).symm
          have hb := (hs a (by simp)).2.1
          apply str_ext
          rw [cp_lotT (fun z hz => by have := hb z hz; omega), ha, List.map_map]
          have : ∀ c ∈ cp x, ((fun z : Int => 48 + z.toNat) ∘ fun (c : Nat) => (c : Int) - 48) c = id c := fun c hc => by
            have := hb ((c : Int) - 48) (by rw [ha]; exact List.mem_map.mpr ⟨c, hc, rfl⟩)
            show 48 + ((c : Int) - 48).toNat = c
            omega
          rw [List.map_congr_left this, List.map_id]
    unfold famT
    rw [hw, hss ws ss hF.lots es, ← hws]
    exact ws_join t
  · rw [if_neg hc] at h; cases h
/-- the text is read -/
theorem text_parse {n : Int} {ss : List (List Int)} (hF : FamOk n ss) : parseT (famT n ss) = some (famD n ss) := by
  have h7 := hF.n7
  have h1 := hF.n1
  have hlb : ∀ s ∈ ss, ∀ x ∈ s, 0 ≤ x ∧ x ≤ 9 := fun s hs x hx => by have := (hF.lots s hs).2.1 x hx; omega
  have hw : cp (dig n ++ ":") = [48 + n.toNat, 58] := by
    rw [cp_app, dig_sgn (by omega) (by omega), cp_sgn]; rfl
  have hcp : cp (famT n ss) = jl 32 (cp (dig n ++ ":") :: (ss.map lotT).map cp) := cp_join 32 _
  have hhd : ∃ r, cp (famT n ss) = (48 + n.toNat) :: 58 :: r := by
    rw [hcp, hw]
    cases ss with
    | nil => exact ⟨[], rfl⟩
    | cons s r => exact ⟨_, rfl⟩
  obtain ⟨r, hr⟩ := hhd
  have hws : wsT (famT n ss) = (dig n ++ ":") :: ss.map lotT := split_eq (c := 32) (by simp) (fun p hp => by
      rcases List.mem_cons.mp hp with e | e
      · rw [e, hw]; simp; omega
      · obtain ⟨s, hs, rfl⟩ := List.mem_map.mp e
        rw [cp_lotT (hlb s hs)]
        intro hm
        obtain ⟨x, hx, e⟩ := List.mem_map.mp hm
        omega) (by rw [hr]; simp) rfl
  have hw0 : w0T (famT n ss) = dig n ++ ":" := by unfold w0T; rw [hws]; rfl
  have hfo : foundT (famT n ss) = famD n ss := by
    unfold foundT famD
    rw [hw0, hws, hw]
    simp only [List.headD_cons, List.tail_cons, List.map_map]
    have e1 : ((48 + n.toNat : Nat) : Int) - 48 = n := by omega
    rw [e1]
    congr 4
    apply List.map_congr_left
    intro s hs
    show PyData.tuple ((cp (lotT s)).map fun (c : Nat) => PyData.int ((c : Int) - 48)) = tI s
    rw [cp_lotT (hlb s hs), List.map_map]
    unfold tI
    congr 1
    apply List.map_congr_left
    intro x hx
    have := hlb s hs x hx
    show PyData.int (((48 + x.toNat : Nat) : Int) - 48) = .int x
    congr 1
    omega
  have hall : ∀ l : List (List Nat), (∀ p ∈ l, p.all okSg = true) → (jl 32 l).all okSg = true := by
    intro l
    induction l with
    | nil => intro _; rfl
    | cons x l ih =>
      intro h
      cases l with
      | nil => exact h x (by simp)
      | cons y r =>
        show (x ++ 32 :: jl 32 (y :: r)).all okSg = true
        rw [List.all_append, List.all_cons, h x (by simp), ih (fun p hp => h p (by simp only [List.mem_cons] at hp ⊢; exact .inr hp))]
        decide +kernel
  have hok : okT (famT n ss) = true := by
    unfold okT
    rw [hw0, hws, hw]
    simp only [Bool.and_eq_true, decide_eq_true_eq, List.headD_cons, List.tail_cons]
    refine ⟨?_, ?_, ?_, ?_, ?_⟩
    · rw [hcp, hw]
      refine hall _ fun p hp => ?_
      rcases List.mem_cons.mp hp with e | e
      · rw [e]
        simp only [List.all_cons, List.all_nil, Bool.and_true, Bool.and_eq_true]
        exact ⟨(okSg_iff _).mpr (.inl (by omega)), (okSg_iff _).mpr (.inr (.inl rfl))⟩
      · obtain ⟨q, hq, rfl⟩ := List.mem_map.mp e
        obtain ⟨s, hs, rfl⟩ := List.mem_map.mp hq
        rw [cp_lotT (hlb s hs), List.all_eq_true]
        intro c hc
        obtain ⟨x, hx, rfl⟩ := List.mem_map.mp hc
        have := (hF.lots s hs).2.1 x hx
        exact (okSg_iff _).mpr (.inl (by omega))
    · apply str_ext
      unfold L2.cutS
      have e1 : HT.sIx (famT n ss).length 0 (some 1) = min 1 (famT n ss).length := by simp [HT.sIx]
      have e2 : HT.sIx (famT n ss).length (famT n ss).length (some 2) = min 2 (famT n ss).length := by simp [HT.sIx]
      have hl : (famT n ss).length = (cp (famT n ss)).length := by simp [cp, Str.length]
      rw [e1, e2, hl]
      show ((cp (famT n ss)).drop _).take _ = _
      rw [hr]
      have e3 : cp ":" = [58] := by decide +kernel
      rw [e3]
      simp
    · rw [Str.length_append, dig_sgn (by omega) (by omega)]; rfl
    · have e4 : cp ": " = [58, 32] := by decide +kernel
      rw [e4]
      have : ¬ (48 + n.toNat ∈ [58, 32]) := by simp; omega
      simp [this]
    · rw [List.all_eq_true]
      intro w hw
      obtain ⟨s, hs, rfl⟩ := List.mem_map.mp hw
      rw [cp_lotT (hlb s hs)]
      have : ¬ (58 ∈ s.map fun x => 48 + x.toNat) := fun hm => by
        obtain ⟨x, hx, e⟩ := List.mem_map.mp hm
        have := (hF.lots s hs).2.1 x hx
        omega
      rw [decide_eq_false this]; rfl
  unfold parseT
  rw [hfo, hok, hF.isFam]
  rfl
end Lc

set_option Elab.async false
set_option linter.all false
set_option maxRecDepth 100000
set_option maxHeartbeats 4000000
namespace Lc
open PySem L2 PySem.Spec PyProof.Rows
def R_family_text : List PyData → Out → Prop := fun ds o => ∃ n ss, FamOk n ss ∧ ds = [famD n ss] ∧ o = .rt (.str (famT n ss))
def sp_family_text (K : PySem.W.Frag) : Sp := spD K R_family_text
def R_format_family (K : PySem.W.Frag) : List PyData → Out → Prop := fun ds o => ds.length = 1 ∧ R_fam K (fun n ss r o => r = [] ∧ o = .rt (.str (famT n ss))) ds o
def sp_format_family (K : PySem.W.Frag) : Sp := spD K (R_format_family K)
def TxtOk (d : PyData) : Prop := (tyName d).isSome = true ∧ ∀ t, d = .str t → t.length ≤ 1000 ∧ PyData.strOk t = true
def outOf (C : Addr) : Option PyData → Out
  | some f => .rt f
  | none => .ex C
def R_parse_family (K : PySem.W.Frag) : List PyData → Out → Prop := fun ds o => ∃ d, TxtOk d ∧ ds = [d] ∧ o = outOf (He.ga K "InvalidText") (parseD d)
def sp_parse_family (K : PySem.W.Frag) : Sp := spD K (R_parse_family K)
def t_family_text (K : PySem.W.Frag) (E : XK) : TS := (tRet (tJoin K (tC (.str " ")) (tOp (rAddU K) (tLst (tCons (tFs (tOp (rIx K) (tVar 0) (tC (.int 0))) ":") tNil)) (tLc (iSeq K (tOp (rIx K) (tVar 0) (tC (.int 1)))) (gName 2) tYes (tJoin K (tC (.str "")) (tLc (iSeq K (tVar 2)) (gName 1) tYes (tCB rStrU (tCons (tVar 1) tNil)) [1])) [2]))))
def t_format_family (K : PySem.W.Frag) (E : XK) : TS := (tSeq (tDrop (tCall (sp_check_family K) [] E (tCons (tVar 0) tNil)))
  (tRet (tCall (sp_family_text K) [] E0 (tCons (tVar 0) tNil))))
def t_parse_family (K : PySem.W.Frag) (E : XK) : TS := (tSeq (tIfS (tOr (tNot (tB (tIsi K "str" (tVar 0)))) (tOr (tNot (tB (tCB (rAll K) (tCons (tLc (iStr (tVar 0)) (gName 1) tYes (tOp (rInU K) (tVar 1) (tC (.str "01234567: "))) [1]) tNil)))) (tTest (tOp (rNeD K) (tSl (rSlU K) (tVar 0) (tPart (tC (.int 1))) (tPart (tC (.int 2)))) (tC (.str ":")))))) (tRaise (He.ga K "InvalidText") E) tNext)
  (tSeq (tAsg (tSplit (tVar 0) (tC (.str " "))) (gName 2))
  (tSeq (tIfS (tOr (tTest (tOp (rNeD K) (tCB (rLenU K) (tCons (tOp (rIx K) (tVar 2) (tC (.int 0))) tNil)) (tC (.int 2)))) (tOr (tTest (tOp (rInU K) (tOp (rIx K) (tOp (rIx K) (tVar 2) (tC (.int 0))) (tC (.int 0))) (tC (.str ": ")))) (tNot (tB (tCB (rAll K) (tCons (tLc (iSeq K (tSl (rSlU K) (tVar 2) (tPart (tC (.int 1))) tNoPart)) (gName 3) tYes (tOp (rNotInU K) (tC (.str ":")) (tVar 3)) [3]) tNil)))))) (tRaise (He.ga K "InvalidText") E) tNext)
  (tSeq (tAsg (tTup (tCons (tCB rIntU (tCons (tOp (rIx K) (tOp (rIx K) (tVar 2) (tC (.int 0))) (tC (.int 0))) tNil)) (tCons (tCB (rTupleOf K) (tCons (tLc (iSeq K (tSl (rSlU K) (tVar 2) (tPart (tC (.int 1))) tNoPart)) (gName 3) tYes (tCB (rTupleOf K) (tCons (tLc (iStr (tVar 3)) (gName 1) tYes (tCB rIntU (tCons (tVar 1) tNil)) [1]) tNil)) [3]) tNil)) tNil))) (gName 4))
  (tSeq (tIfS (tNot (tB (tCall (sp_is_family K) [] E0 (tCons (tVar 4) tNil)))) (tRaise (He.ga K "InvalidText") E) tNext)
  (tRet (tVar 4)))))))
section
variable {K : PySem.W.Frag} {E : XK}
theorem cutD_tl {a : PyData} {r : List PyData} : cutD (a :: r) (some 1) none = r := by
  have e1 : HT.sIx (a :: r).length 0 (some 1) = 1 := by simp [HT.sIx]
  have e2 : HT.sIx (a :: r).length (a :: r).length none = (a :: r).length := by simp [HT.sIx]
  unfold cutD
  rw [e1, e2]
  simp
theorem map_str {α : Type} (xs : List α) (f : α → Str) : xs.map (fun x => PyData.str (f x)) = (xs.map f).map .str := by rw [List.map_map]; rfl
theorem log_small {i : Int} (h0 : 0 ≤ i) (h9 : i ≤ 9) : i.natAbs.log2 < 1920 := Nat.lt_of_le_of_lt (Nat.log2_le_self _) (by omega)
theorem dig_len {i : Int} (h0 : 0 ≤ i) (h9 : i ≤ 9) : (dig i).length = 1 := by rw [dig_sgn h0 h9]; rfl
theorem sum_ones : ∀ l : List Int, (∀ x ∈ l, 0 ≤ x ∧ x ≤ 9) → ((l.map dig).map (·.length)).sum = l.length
  | [], _ => rfl
  | a :: r, h => by
    rw [List.map_cons, List.map_cons, List.sum_cons, sum_ones r (fun x hx => h x (by simp [hx])), dig_len (h a (by simp)).1 (h a (by simp)).2, List.length_cons]
    omega
/-- ''.join([str(k) for k in one]) -/
theorem ev_lotT {ρ : Rho} {i j : Nat} {s : List Int} {vs : List Nat} (hi : ρ[i]? = some (some (tI s))) (hj : j ∈ vs) (hjl : j < ρ.length) (hw : (wipeD ρ vs).length = ρ.length) (hs : s.length ≤ 1000) (hb : ∀ x ∈ s, 0 ≤ x ∧ x ≤ 9) : EvD K (tJoin K (tC (.str "")) (tLc (iSeq K (tVar i)) (gName j) tYes (tCB rStrU (tCons (tVar j) tNil)) vs)) ρ (.str (lotT s)) := by
  refine ev_join (ys := s.map dig) ev_str ?_ ?_
  · rw [← map_str]
    refine ev_lcN s .int (fun x => .str (dig x)) (it_seqT (ev_var hi)) (by omega) hj (fun x hx => ev_cb (ea_cons (ev_var (d := .int x) ?_) ea_nil) (ca_str (log_small (hb x hx).1 (hb x hx).2)))
    rw [List.getElem?_set_self (by rw [hw]; exact hjl)]
  · rw [sum_ones s hb, List.length_map]
    have : (Str.ofString "").length = 0 := rfl
    rw [this]; omega
theorem x_family_text {n : Int} {ss : List (List Int)} (hF : FamOk n ss) : ExS K E (t_family_text K E) [some (famD n ss), none, none] (.rt (.str (famT n ss))) := by
  have h7 := hF.n7
  have h1 := hF.n1
  have h8 := hF.s8
  have hlb : ∀ s ∈ ss, ∀ x ∈ s, 0 ≤ x ∧ x ≤ 9 := fun s hs x hx => by have := (hF.lots s hs).2.1 x hx; omega
  have hc : EvD K (tLc (iSeq K (tOp (rIx K) (tVar 0) (tC (.int 1)))) (gName 2) tYes (tJoin K (tC (.str "")) (tLc (iSeq K (tVar 2)) (gName 1) tYes (tCB rStrU (tCons (tVar 1) tNil)) [1])) [2]) [some (famD n ss), none, none] (.list (ss.map fun s => .str (lotT s))) :=
    ev_lcN ss tI (fun s => .str (lotT s)) (it_seqT (ev_fam1 rfl)) (by omega) (by simp) (fun s hs => ev_lotT rfl (by simp) (by show 1 < 3; decide) rfl (by have := (hF.lots s hs).len h7; omega) (hlb s hs))
  have hl := famT_len hF
  refine xs_ret (ev_join (ys := (dig n ++ ":") :: ss.map lotT) ev_str ?_ ?_)
  · have := ev_op (ev_lst (ea_cons (ev_fs (z := ":") (ev_fam0 (K := K) (ρ := [some (famD n ss), none, none]) (i := 0) rfl) (log_small (by omega) (by omega)) (by
      show (dig n).length + _ ≤ _
      rw [dig_len (by omega) (by omega)]; decide)) ea_nil) (by simp)) hc (od_addL (K := K) (by simp; omega))
    rw [map_str] at this
    exact this
  · have h4 : (Str.ofString " ").length = 1 := rfl
    have h3 : (dig n ++ ":").length = 2 := by
      rw [Str.length_append, dig_len (by omega) (by omega)]
      rfl
    have hs : ∀ l : List (List Int), (∀ s ∈ l, (lotT s).length ≤ 1000) → ((l.map lotT).map (·.length)).sum ≤ 1000 * l.length := by
      intro l
      induction l with
      | nil => intro _; simp
      | cons s l ih =>
        intro h
        have h1 := h s (by simp)
        have h2 := ih (fun z hz => h z (by simp [hz]))
        simp only [List.map_cons, List.sum_cons, List.length_cons]
        omega
    have h2 := hs ss (fun s hs => by
      have e : (lotT s).length = (cp (lotT s)).length := by simp [cp, Str.length]
      rw [e, cp_lotT (hlb s hs), List.length_map]
      have := (hF.lots s hs).len h7
      omega)
    simp only [List.map_cons, List.sum_cons, List.length_cons, List.length_map, h3, h4]
    omega
theorem pure_family_text {vs : List V} {H : Hp} {Q : VK} (hs : sp_family_text K vs H Q E) : t_family_text K E { nx := fun _ H' => Q .non H', rt := Q } (L2.start ["family", "thing", "one"] vs) H :=
  sp_body (fun ds o h => by
    obtain ⟨n, ss, hF, rfl, rfl⟩ := h
    exact .inl (x_family_text hF)) hs
theorem pure_format_family {vs : List V} {H : Hp} {Q : VK} (hs : sp_format_family K vs H Q E) : t_format_family K E { nx := fun _ H' => Q .non H', rt := Q } (L2.start ["family"] vs) H :=
  sp_body (fun ds o h => by
    obtain ⟨hl, d, r, rfl, h⟩ := h
    have hr : r = [] := List.length_eq_zero_iff.mp (by simpa using hl)
    subst hr
    rcases h with ⟨h1, h2, h3, rfl⟩ | ⟨n, ss, hF, rfl, _, rfl⟩
    · exact .inl (xs_seqX (xs_checkX h1 h2 h3 rfl))
    · exact .inl (xs_seq (xs_check hF rfl) (xs_ret (ev_call (ea_cons (ev_var rfl) ea_nil) ⟨n, ss, hF, rfl, rfl⟩)))) hs
/-! parse -/
theorem od_inS {c : Nat} {z : Str} : OpD K (rInU K) (.str (sgn c)) (.str z) (.bool (decide (c ∈ cp z))) := OpD.inr (OpD.inr fun A x y H l hx hy Q q => by
  cases hx; cases hy; exact ⟨c, z, rfl, rfl, q _ H (Same.refl H) (.bl _)⟩)
theorem od_niS {c : Nat} {z : Str} : OpD K (rNotInU K) (.str (sgn c)) (.str z) (.bool (!decide (c ∈ cp z))) := OpD.inr (OpD.inr fun A x y H l hx hy Q q => by
  cases hx; cases hy; exact ⟨c, z, rfl, rfl, q _ H (Same.refl H) (.bl _)⟩)
theorem sh_str {n : Nat} {t : Str} (h : PyData.strOk t = true) : Sh n (.str t) := ⟨by simp only [PyData.canLay0]; exact h, by simp [PyData.depth]⟩
theorem strOk_cut {t : Str} {i j : Option Int} (h : PyData.strOk t = true) : PyData.strOk (cutS t i j) = true := by
  unfold PyData.strOk at h ⊢
  rw [← Array.all_toList, List.all_eq_true] at h ⊢
  intro c hc
  unfold cutS at hc
  exact h c (List.mem_of_mem_drop (List.mem_of_mem_take (by simpa using hc)))
theorem x_parse_non {d : PyData} (h1 : (tyName d).isSome = true) (h2 : isStr d = false) : ExS K E (t_parse_family K E) [some d, none, none, none, none] (.ex (He.ga K "InvalidText")) := by
  refine xs_seqX (xs_if (b := true) (et_orT (et_to (et_not (et_B (ev_isStr (ev_var rfl) h1))) (by rw [h2]; rfl))) (fun _ => xs_raiseF) (fun z => by cases z))
theorem x_parse {t : Str} (hz : t.length ≤ 1000) (hok : PyData.strOk t = true) : ExS K E (t_parse_family K E) [some (.str t), none, none, none, none] (outOf (He.ga K "InvalidText") (parseT t)) := by
  have e0 : EvT K (tNot (tB (tIsi K "str" (tVar 0)))) [some (.str t), none, none, none, none] false := et_to (et_not (et_B (ev_isStr (ev_var rfl) rfl))) rfl
  have e1 : EvT K (tNot (tB (tCB (rAll K) (tCons (tLc (iStr (tVar 0)) (gName 1) tYes (tOp (rInU K) (tVar 1) (tC (.str "01234567: "))) [1]) tNil)))) [some (.str t), none, none, none, none] (!(cp t).all okSg) := by
    refine et_not (et_B (ev_all (cp t) (fun c => .str (sgn c)) okSg (it_str (ev_var rfl)) ?_ (by simp) (fun c _ => ev_op (ev_var rfl) ev_str od_inS)))
    have : (cp t).length = t.length := by simp [cp, Str.length]
    omega
  have e2 : EvT K (tTest (tOp (rNeD K) (tSl (rSlU K) (tVar 0) (tPart (tC (.int 1))) (tPart (tC (.int 2)))) (tC (.str ":")))) [some (.str t), none, none, none, none] (!decide (cutS t (some 1) (some 2) = ":")) := by
    refine et_to (et_test (ev_op (ev_slS (ev_var rfl) (eo_some ev_int) (eo_some ev_int) (by omega)) ev_str (od_ne (sh_str (n := 0) (strOk_cut hok)) (sh_str (n := 0) (by decide +kernel))))) ?_
    rw [eqv_str]
  by_cases h1 : (cp t).all okSg = true
  · by_cases h2 : cutS t (some 1) (some 2) = ":"
    · have hne : cp t ≠ [] := fun e => by have := cutS_12 h2; rw [e] at this; simp at this
      obtain ⟨w, ws, hws⟩ : ∃ w ws, wsT t = w :: ws := by
        cases hz : wsT t with
        | nil => exact (ws_ne hne hz).elim
        | cons w ws => exact ⟨w, ws, rfl⟩
      have hw0 : w0T t = w := by unfold w0T; rw [hws]; rfl
      have hjo := ws_join t
      have hmem : ∀ x ∈ w :: ws, (cp x).all okSg = true ∧ x.length ≤ 1000 := by
        have hcp : cp t = jl 32 ((wsT t).map cp) := by rw [← cp_join]; exact (congrArg cp hjo).symm
        have : ∀ (l : List (List Nat)), ∀ p ∈ l, (∀ c ∈ p, c ∈ jl 32 l) ∧ p.length ≤ (jl 32 l).length := by
          intro l
          induction l with
          | nil => intro p hp; cases hp
          | cons x l ih =>
            intro p hp
            cases l with
            | nil => rw [List.mem_singleton.mp hp]; exact ⟨fun c hc => hc, Nat.le_refl _⟩
            | cons y r =>
              show (∀ c ∈ p, c ∈ x ++ 32 :: jl 32 (y :: r)) ∧ p.length ≤ (x ++ 32 :: jl 32 (y :: r)).length
              rcases List.mem_cons.mp hp with e | e
              · rw [e]; exact ⟨fun c hc => by simp [hc], by simp⟩
              · obtain ⟨k1, k2⟩ := ih p e
                refine ⟨fun c hc => ?_, ?_⟩
                · have := k1 c hc
                  simp [this]
                · rw [List.length_append, List.length_cons]; omega
        intro x hx
        have hm := this ((wsT t).map cp) (cp x) (List.mem_map.mpr ⟨x, by rw [hws]; exact hx, rfl⟩)
        rw [← hcp] at hm
        rw [List.all_eq_true] at h1
        refine ⟨by rw [List.all_eq_true]; exact fun c hc => h1 c (hm.1 c hc), ?_⟩
        have e1 : (cp t).length = t.length := by simp [cp, Str.length]
        have e2 : (cp x).length = x.length := by simp [cp, Str.length]
        omega
      have hlen : (w :: ws).length ≤ 2000 := by
        have hcp : cp t = jl 32 ((wsT t).map cp) := by rw [← cp_join]; exact (congrArg cp hjo).symm
        have : ∀ (l : List (List Nat)), l.length ≤ (jl 32 l).length + 1 := by
          intro l
          induction l with
          | nil => simp
          | cons x l ih =>
            cases l with
            | nil => simp
            | cons y r =>
              show _ ≤ (x ++ 32 :: jl 32 (y :: r)).length + 1
              rw [List.length_append, List.length_cons (a := 32), List.length_cons (a := x)]
              omega
        have h := this ((wsT t).map cp)
        rw [← hcp, List.length_map, hws] at h
        have e1 : (cp t).length = t.length := by simp [cp, Str.length]
        omega
      refine xs_seq (xs_if (b := false) (et_orF e0 (et_orF (et_to e1 (by rw [h1]; rfl)) (et_to e2 (by rw [decide_eq_true h2]; rfl)))) (fun z => by cases z) (fun _ => xs_next)) ?_
      refine xs_seq (xs_asg (d := .list ((w :: ws).map .str)) (by
        rw [← hws]
        exact ev_split (ev_var rfl) ev_str (by decide +kernel) (Nat.le_trans (by omega : _ ≤ 100000) (by decide)))) ?_
      show ExS K E _ [some (.str t), none, some (.list ((w :: ws).map .str)), none, none] _
      have ew0 : ∀ (f : Option PyData) (wo : Option PyData), EvD K (tOp (rIx K) (tVar 2) (tC (.int 0))) [some (.str t), none, some (.list ((w :: ws).map .str)), wo, f] (.str w) := fun f wo => ev_op (ev_var rfl) ev_int (od_ixL (atI_of (by omega) rfl))
      have et : ∀ (f : Option PyData), EvD K (tSl (rSlU K) (tVar 2) (tPart (tC (.int 1))) tNoPart) [some (.str t), none, some (.list ((w :: ws).map .str)), none, f] (.list (ws.map .str)) := fun f => by
        have h := ev_slL (K := K) (ρ := [some (.str t), none, some (.list ((w :: ws).map .str)), none, f]) (ev_var (i := 2) (d := .list ((w :: ws).map .str)) rfl) (eo_some (ev_int (i := 1))) eo_none
        have e : cutD ((w :: ws).map PyData.str) (some 1) none = ws.map .str := cutD_tl
        rw [e] at h
        exact h
      have hwl := (hmem w (by simp)).2
      have f1 : EvT K (tTest (tOp (rNeD K) (tCB (rLenU K) (tCons (tOp (rIx K) (tVar 2) (tC (.int 0))) tNil)) (tC (.int 2)))) [some (.str t), none, some (.list ((w :: ws).map .str)), none, none] (!decide (w.length = 2)) := by
        refine et_to (et_test (ev_op (ev_cb (ea_cons (ew0 _ _) ea_nil) (ca_lenS (by omega))) ev_int (od_ne (sh_int (n := 0)) (sh_int (n := 0))))) ?_
        rw [eqv_int]
        have : ((w.length : Int) = 2) ↔ (w.length = 2) := by omega
        simp only [this]
      by_cases h3 : w.length = 2
      · have hl2 : (cp w).length = 2 := by rw [← h3]; simp [cp, Str.length]
        obtain ⟨c0, c1, hcw⟩ : ∃ c0 c1, cp w = [c0, c1] := by
          match hz : cp w, hl2 with
          | [a, b], _ => exact ⟨a, b, rfl⟩
        have ec0 : ∀ (f : Option PyData) (wo : Option PyData), EvD K (tOp (rIx K) (tOp (rIx K) (tVar 2) (tC (.int 0))) (tC (.int 0))) [some (.str t), none, some (.list ((w :: ws).map .str)), wo, f] (.str (sgn c0)) := fun f wo => ev_op (ew0 _ _) ev_int (od_ixS (by omega) (by show atI (cp w) 0 = _; rw [hcw]; rfl))
        have f2 : EvT K (tTest (tOp (rInU K) (tOp (rIx K) (tOp (rIx K) (tVar 2) (tC (.int 0))) (tC (.int 0))) (tC (.str ": ")))) [some (.str t), none, some (.list ((w :: ws).map .str)), none, none] (decide (c0 ∈ cp ": ")) := et_test (ev_op (ec0 _ _) ev_str od_inS)
        have f3 : EvT K (tNot (tB (tCB (rAll K) (tCons (tLc (iSeq K (tSl (rSlU K) (tVar 2) (tPart (tC (.int 1))) tNoPart)) (gName 3) tYes (tOp (rNotInU K) (tC (.str ":")) (tVar 3)) [3]) tNil)))) [some (.str t), none, some (.list ((w :: ws).map .str)), none, none] (!ws.all fun w => !decide (58 ∈ cp w)) :=
          et_not (et_B (ev_all ws .str (fun w => !decide (58 ∈ cp w)) (it_seqL (et none)) (by simp at hlen; omega) (by simp) (fun x _ => ev_op (ev_c (d := .str (sgn 58)) fun _ => .str _) (ev_var rfl) od_niS)))
        by_cases h4 : c0 ∈ cp ": "
        · have hno : parseT t = none := by
            unfold parseT okT
            rw [hw0, hcw, List.headD_cons, decide_eq_true h4]
            simp
          rw [hno]
          exact xs_seqX (xs_if (b := true) (et_orF (et_to f1 (by rw [decide_eq_true h3]; rfl)) (et_orT (et_to f2 (decide_eq_true h4)))) (fun _ => xs_raiseF) (fun z => by cases z))
        · by_cases h5 : (ws.all fun w => !decide (58 ∈ cp w)) = true
          · refine xs_seq (xs_if (b := false) (et_orF (et_to f1 (by rw [decide_eq_true h3]; rfl)) (et_orF (et_to f2 (decide_eq_false h4)) (et_to f3 (by rw [h5]; rfl)))) (fun z => by cases z) (fun _ => xs_next)) ?_
            have hokT : okT t = true := by
              unfold okT
              rw [h1, decide_eq_true h2, hw0, decide_eq_true h3, hcw, List.headD_cons, decide_eq_false h4, hws, List.tail_cons, h5]
              rfl
            have hc0 : 48 ≤ c0 ∧ c0 ≤ 55 := by
              have h6 : okSg c0 = true := List.all_eq_true.mp (hmem w (by simp)).1 c0 (by rw [hcw]; simp)
              have e4 : cp ": " = [58, 32] := by decide +kernel
              rw [e4] at h4
              rcases (okSg_iff c0).mp h6 with h | h | h
              · exact h
              · exact (h4 (by simp [h])).elim
              · exact (h4 (by simp [h])).elim
            have hd : ∀ x ∈ ws, ∀ c ∈ cp x, 48 ≤ c ∧ c ≤ 55 := fun x hx c hc => by
              have h6 : okSg c = true := List.all_eq_true.mp (hmem x (by simp [hx])).1 c hc
              rcases (okSg_iff c).mp h6 with h | h | h
              · exact h
              · have := List.all_eq_true.mp h5 x hx
                rw [← h] at this
                simp [hc] at this
              · exact (ws_free t x (by rw [hws]; simp [hx]) (h ▸ hc)).elim
            have hfo : foundT t = .tuple [.int ((c0 : Int) - 48), .tuple (ws.map fun w => .tuple ((cp w).map fun (c : Nat) => PyData.int ((c : Int) - 48)))] := by
              unfold foundT; rw [hw0, hws, hcw]; rfl
            refine xs_seq (xs_asg (d := foundT t) ?_) ?_
            · rw [hfo]
              refine ev_tup (ea_cons (ev_cb (ea_cons (ec0 _ _) ea_nil) (ca_intS (int_sgn hc0.1 (by omega)) (by show (1 : Nat) ≤ 640; decide))) (ea_cons (ev_tupLc ws .str (fun w => .tuple ((cp w).map fun (c : Nat) => PyData.int ((c : Int) - 48))) (it_seqL (et none)) (by simp at hlen; omega) (by simp) (fun x hx => ?_)) ea_nil)) (by simp)
              refine ev_tupLc (cp x) (fun c => .str (sgn c)) (fun (c : Nat) => PyData.int ((c : Int) - 48)) (it_str (ev_var rfl)) ?_ (by simp) (fun c hc => ev_cb (ea_cons (ev_var rfl) ea_nil) (ca_intS (int_sgn (hd x hx c hc).1 (by have := (hd x hx c hc).2; omega)) (by show (1 : Nat) ≤ 640; decide)))
              have := (hmem x (by simp [hx])).2
              have e2 : (cp x).length = x.length := by simp [cp, Str.length]
              omega
            · show ExS K E _ [some (.str t), none, some (.list ((w :: ws).map .str)), none, some (foundT t)] _
              have hsh : Sh 40 (foundT t) := by
                rw [hfo]
                refine Sh.mono (m := 3) (n := 40) (sh_tup fun d hd => ?_) (by omega)
                rcases List.mem_cons.mp hd with e | e
                · rw [e]; exact sh_int
                · rw [List.mem_singleton.mp e]
                  refine sh_tup fun d hd => ?_
                  obtain ⟨x, _, rfl⟩ := List.mem_map.mp hd
                  refine sh_tup fun d hd => ?_
                  obtain ⟨c, _, rfl⟩ := List.mem_map.mp hd
                  exact sh_int
              have hshort : Short (foundT t) := by
                rw [hfo]
                intro l hl
                have := PyData.tuple.inj hl
                subst this
                refine ⟨by simp, fun x hx m hm => ?_⟩
                rcases List.mem_cons.mp hx with e | e
                · rw [e] at hm; cases hm
                · rw [List.mem_singleton.mp e] at hm
                  have := PyData.tuple.inj hm
                  subst this
                  refine ⟨by rw [List.length_map]; simp at hlen; omega, fun y hy k hk => ?_⟩
                  obtain ⟨z, hz, rfl⟩ := List.mem_map.mp hy
                  have := PyData.tuple.inj hk
                  subst this
                  rw [List.length_map]
                  have := (hmem z (by simp [hz])).2
                  have e2 : (cp z).length = z.length := by simp [cp, Str.length]
                  omega
              have hif : EvT K (tNot (tB (tCall (sp_is_family K) [] E0 (tCons (tVar 4) tNil)))) [some (.str t), none, some (.list ((w :: ws).map .str)), none, some (foundT t)] (!isFam (foundT t)) := et_not (et_B (ev_call (ea_cons (ev_var rfl) ea_nil) ⟨foundT t, hsh, hshort, rfl, rfl⟩))
              by_cases h6 : isFam (foundT t) = true
              · have : parseT t = some (foundT t) := by unfold parseT; rw [hokT, h6]; rfl
                rw [this]
                exact xs_seq (xs_if (b := false) (et_to hif (by rw [h6]; rfl)) (fun z => by cases z) (fun _ => xs_next)) (xs_ret (ev_var rfl))
              · have h6' : isFam (foundT t) = false := by simpa using h6
                have : parseT t = none := by unfold parseT; rw [hokT, h6']; rfl
                rw [this]
                exact xs_seqX (xs_if (b := true) (et_to hif (by rw [h6']; rfl)) (fun _ => xs_raiseF) (fun z => by cases z))
          · have h5' : (ws.all fun w => !decide (58 ∈ cp w)) = false := by simpa using h5
            have hno : parseT t = none := by
              unfold parseT okT
              rw [hws, List.tail_cons, h5']
              simp
            rw [hno]
            exact xs_seqX (xs_if (b := true) (et_orF (et_to f1 (by rw [decide_eq_true h3]; rfl)) (et_orF (et_to f2 (decide_eq_false h4)) (et_to f3 (by rw [h5']; rfl)))) (fun _ => xs_raiseF) (fun z => by cases z))
      · have hno : parseT t = none := by
          unfold parseT okT
          rw [hw0, decide_eq_false h3]
          simp
        rw [hno]
        exact xs_seqX (xs_if (b := true) (et_orT (et_to f1 (by rw [decide_eq_false h3]; rfl))) (fun _ => xs_raiseF) (fun z => by cases z))
    · have hno : parseT t = none := by
        unfold parseT okT
        rw [decide_eq_false h2]
        simp
      rw [hno]
      exact xs_seqX (xs_if (b := true) (et_orF e0 (et_orF (et_to e1 (by rw [h1]; rfl)) (et_to e2 (by rw [decide_eq_false h2]; rfl)))) (fun _ => xs_raiseF) (fun z => by cases z))
  · have h1' : (cp t).all okSg = false := by simpa using h1
    have hno : parseT t = none := by
      unfold parseT okT
      rw [h1']
      simp
    rw [hno]
    exact xs_seqX (xs_if (b := true) (et_orF e0 (et_orT (et_to e1 (by rw [h1']; rfl)))) (fun _ => xs_raiseF) (fun z => by cases z))
theorem pure_parse_family {vs : List V} {H : Hp} {Q : VK} (hs : sp_parse_family K vs H Q E) : t_parse_family K E { nx := fun _ H' => Q .non H', rt := Q } (L2.start ["text", "sign", "words", "word", "found"] vs) H :=
  sp_body (fun ds o h => by
    obtain ⟨d, ⟨h1, h2⟩, rfl, rfl⟩ := h
    refine .inl ?_
    cases d with
    | str t => exact x_parse (h2 t rfl).1 (h2 t rfl).2
    | _ => exact x_parse_non h1 rfl) hs
end
end Lc

set_option Elab.async false
set_option linter.all false
set_option maxRecDepth 100000
set_option maxHeartbeats 4000000
namespace Lc
open PySem L2 PySem.Spec PyProof.Rows
/-! ### slots forgotten -/
inductive Fg : Rho → Rho → Prop
  | nil : Fg [] []
  | same {r : Option PyData} {ρ ρ' : Rho} : Fg ρ ρ' → Fg (r :: ρ) (r :: ρ')
  | drop {r : Option PyData} {ρ ρ' : Rho} : Fg ρ ρ' → Fg (r :: ρ) (none :: ρ')
theorem Fg.refl : ∀ ρ : Rho, Fg ρ ρ
  | [] => .nil
  | _ :: ρ => .same (Fg.refl ρ)
theorem Fg.env {K : PySem.W.Frag} {F : Hp} : ∀ {ρ ρ' : Rho} {σ : L2.St}, Fg ρ ρ' → EnvD K F σ ρ → EnvD K F σ ρ'
  | _, _, _, .nil, h => h
  | _, _, _, .same g, .cons h t => .cons h (g.env t)
  | _, _, _, .drop g, .cons (o := o) h t => .cons (by cases o <;> trivial) (g.env t)
/-! ### loops as folds that may return -/
def loopM {α β : Type} (f : β → α → β ⊕ PyData) : List α → β → β ⊕ PyData
  | [], b => .inl b
  | x :: xs, b => match f b x with
    | .inl b' => loopM f xs b'
    | .inr d => .inr d
def outL {β : Type} (st : β → Rho) : β ⊕ PyData → Out
  | .inl b => .nx (st b)
  | .inr d => .rt d
theorem loopM_append {α β : Type} {f : β → α → β ⊕ PyData} : ∀ (xs ys : List α) (b : β), loopM f (xs ++ ys) b = match loopM f xs b with
    | .inl b' => loopM f ys b'
    | .inr d => .inr d
  | [], ys, b => rfl
  | x :: xs, ys, b => by
    show (match f b x with
      | .inl b' => loopM f (xs ++ ys) b'
      | .inr d => .inr d) = _
    cases h : f b x with
    | inl b' => simp only [loopM, h]; exact loopM_append xs ys b'
    | inr d => simp only [loopM, h]
theorem loopM_fold {α β : Type} (f : β → α → β) : ∀ (xs : List α) (b : β), loopM (fun b x => .inl (f b x)) xs b = .inl (xs.foldl f b)
  | [], b => rfl
  | x :: xs, b => loopM_fold f xs (f b x)
def findM {α : Type} (f : α → Option PyData) : List α → Option PyData
  | [] => none
  | x :: xs => match f x with
    | some d => some d
    | none => findM f xs
theorem loopM_find {α : Type} (f : α → Option PyData) : ∀ (xs : List α), loopM (fun (_ : Unit) x => match f x with
    | some d => .inr d
    | none => .inl ()) xs () = match findM f xs with
    | some d => .inr d
    | none => .inl ()
  | [] => rfl
  | x :: xs => by
    unfold loopM findM
    cases h : f x with
    | some d => rfl
    | none => exact loopM_find f xs
section
variable {K : PySem.W.Frag} {E : XK} {ρ ρ1 ρ2 : Rho} {ts tz : TS} {te : TE} {d : PyData}
theorem xs_fg (h : ExS K E ts ρ (.nx ρ1)) (g : Fg ρ1 ρ2) : ExS K E ts ρ (.nx ρ2) := fun A σ H D l hE c => h A σ H D l hE fun σ' H' s hE' => c σ' H' s (g.env hE')
theorem xs_pre {o : Out} (g : Fg ρ ρ1) (h : ExS K E ts ρ1 o) : ExS K E ts ρ o := fun A σ H D l hE c => h A σ H D l (g.env hE) c
theorem xs_loop {α β : Type} {wi : TI} {g : TG} {ws : List Nat} (xs : List α) (enc : α → PyData) (st : β → Rho) (f : β → α → β ⊕ PyData) (I : Nat → β → Prop) (r2 : β → α → Rho) (b0 : β) (hi : ItD K wi ρ (xs.map enc)) (h0 : Fg ρ (st b0)) (hI : I 0 b0)
    (hg : ∀ x ∈ xs, ∀ b, TgD K g (enc x) (st b) (r2 b x) ws)
    (hb : ∀ i x b, x ∈ xs → i < xs.length → xs[i]? = some x → I i b → (∀ b', f b x = .inl b' → I (i + 1) b' ∧ ∃ ρ', ExS K E ts (r2 b x) (.nx ρ') ∧ Fg ρ' (st b')) ∧ ∀ d, f b x = .inr d → ExS K E ts (r2 b x) (.rt d)) :
    ExS K E (tFor wi g ts) ρ (outL st (loopM f xs b0)) := fun A σ H D l hE c => hi A σ H l hE _ fun J H1 s1 hJ => by
  refine ⟨fun i m σ' H' => m = xs.length - i ∧ i ≤ xs.length ∧ Same H1 H' ∧ ∃ b, loopM f (xs.take i) b0 = .inl b ∧ I i b ∧ EnvD K (cut A H') σ' (st b), ⟨xs.length, by simp, Nat.zero_le _, Same.refl _, b0, rfl, hI, h0.env (hE.same (cut_same s1))⟩, ?_⟩
  rintro i m σ' H' ⟨rfl, hle, hk, b, hb1, hb2, hE'⟩
  have lv : Live A H' := (l.same s1).same hk
  by_cases hlt : i < xs.length
  · have hm : xs[i] ∈ xs := List.getElem_mem hlt
    obtain ⟨q1, q2⟩ := hb i xs[i] b hm hlt (List.getElem?_eq_getElem hlt) hb2
    refine .inr ⟨hJ.goes i H' (by simpa using hlt) (Keep.of hk), fun σ2 H2 => Same H1 H2 ∧ ∃ b, loopM f (xs.take (i + 1)) b0 = .inl b ∧ I (i + 1) b ∧ EnvD K (cut A H2) σ2 (st b), fun σ2 H2 h2 => ⟨xs.length - (i + 1), by omega, rfl, hlt, h2.1, h2.2⟩, fun x H2 hy => ?_⟩
    obtain ⟨s2, d, hd, hx⟩ := hJ.yields i H' x H2 A (by simpa using hlt) (Keep.of hk) lv Off.refl hy
    have hdi : d = enc xs[i] := by
      rw [List.getElem?_map, List.getElem?_eq_getElem hlt] at hd
      exact (Option.some.inj hd).symm
    subst hdi
    refine hg xs[i] hm b A σ' H2 x (lv.same s2) (hE'.same (cut_same s2)) hx _ fun σ2 hE2 _ => ?_
    have tk : loopM f (xs.take (i + 1)) b0 = loopM f [xs[i]] b := by
      rw [List.take_succ_eq_append_getElem hlt, loopM_append, hb1]
    cases hf : f b xs[i] with
    | inl b' =>
      obtain ⟨hI', ρ', hx1, hfg⟩ := q1 b' hf
      exact hx1 A σ2 H2 _ (lv.same s2) hE2 fun σ3 H3 s3 hE3 => ⟨(hk.trans s2).trans s3, b', by rw [tk]; simp only [loopM, hf], hI', hfg.env hE3⟩
    | inr d =>
      have hx1 := q2 d hf
      have e : loopM f xs b0 = .inr d := by
        have : xs = xs.take (i + 1) ++ xs.drop (i + 1) := (List.take_append_drop _ _).symm
        rw [this, loopM_append, tk]
        simp only [loopM, hf]
      rw [e] at c
      exact hx1 A σ2 H2 _ (lv.same s2) hE2 fun v H3 s3 hv => c v H3 (s1.trans ((hk.trans s2).trans s3)) hv
  · have e : i = xs.length := by omega
    subst e
    rw [List.take_length] at hb1
    rw [hb1] at c
    exact .inl ⟨by have := hJ.stops H' (Keep.of hk); simpa using this, c σ' H' (s1.trans hk) hE'⟩
/-- a for that carries b -/
theorem xs_foldI {α β : Type} {wi : TI} {j : Nat} (xs : List α) (enc : α → PyData) (st : β → Rho) (f : β → α → β) (I : Nat → β → Prop) (b0 : β) (hi : ItD K wi ρ (xs.map enc)) (h0 : Fg ρ (st b0)) (hI : I 0 b0)
    (hb : ∀ i x b, x ∈ xs → i < xs.length → xs[i]? = some x → I i b → I (i + 1) (f b x) ∧ ∃ ρ', ExS K E ts ((st b).set j (some (enc x))) (.nx ρ') ∧ Fg ρ' (st (f b x))) :
    ExS K E (tFor wi (gName j) ts) ρ (.nx (st (xs.foldl f b0))) := by
  have := xs_loop (K := K) (E := E) (ρ := ρ) (ts := ts) (wi := wi) (g := gName j) (ws := [j]) xs enc st (fun b x => .inl (f b x)) I (fun b x => (st b).set j (some (enc x))) b0 hi h0 hI (fun x _ b => tg_name) (fun i x b hx hi' he' hb' => ⟨fun b' e => by cases e; exact hb i x b hx hi' he' hb', fun d e => by cases e⟩)
  rw [loopM_fold] at this
  exact this
theorem xs_fold {α β : Type} {wi : TI} {j : Nat} (xs : List α) (enc : α → PyData) (st : β → Rho) (f : β → α → β) (b0 : β) (hi : ItD K wi ρ (xs.map enc)) (h0 : Fg ρ (st b0))
    (hb : ∀ x b, x ∈ xs → ∃ ρ', ExS K E ts ((st b).set j (some (enc x))) (.nx ρ') ∧ Fg ρ' (st (f b x))) :
    ExS K E (tFor wi (gName j) ts) ρ (.nx (st (xs.foldl f b0))) :=
  xs_foldI xs enc st f (fun _ _ => True) b0 hi h0 trivial (fun i x b hx _ _ _ => ⟨trivial, hb x b hx⟩)
/-- a for that looks at each, and may return -/
theorem xs_find {α : Type} {wi : TI} {j : Nat} {o : Out} (xs : List α) (enc : α → PyData) (st : Rho) (f : α → Option PyData) (hi : ItD K wi ρ (xs.map enc)) (h0 : Fg ρ st)
    (hn : ∀ x ∈ xs, f x = none → ∃ ρ', ExS K E ts (st.set j (some (enc x))) (.nx ρ') ∧ Fg ρ' st) (hs : ∀ x ∈ xs, ∀ d, f x = some d → ExS K E ts (st.set j (some (enc x))) (.rt d))
    (ho : (findM f xs = none ∧ o = .nx st) ∨ ∃ d, findM f xs = some d ∧ o = .rt d) : ExS K E (tFor wi (gName j) ts) ρ o := by
  have := xs_loop (K := K) (E := E) (ρ := ρ) (ts := ts) (wi := wi) (g := gName j) (ws := [j]) (β := Unit) xs enc (fun _ => st) (fun _ x => match f x with
    | some d => .inr d
    | none => .inl ()) (fun _ _ => True) (fun b x => st.set j (some (enc x))) () hi h0 trivial (fun x _ b => tg_name) (fun i x b hx hi' he' hb' => by
      cases hf : f x with
      | none => exact ⟨fun _ _ => ⟨trivial, hn x hx hf⟩, fun d e => by cases e⟩
      | some d => exact ⟨fun _ e => (by cases e), fun d' e => by cases e; exact hs x hx d hf⟩)
  rw [loopM_find] at this
  rcases ho with ⟨e, rfl⟩ | ⟨d, e, rfl⟩ <;> rw [e] at this <;> exact this
/-- a for over range(k): the states st 0, st 1, .. -/
theorem xs_rng {wi : TI} {j k : Nat} {lo : Int} (st : Nat → Rho) (hi : ItD K wi ρ (rngD lo k)) (h0 : Fg ρ (st 0)) (hb : ∀ i, i < k → ∃ ρ', ExS K E ts ((st i).set j (some (.int (lo + (i : Int))))) (.nx ρ') ∧ Fg ρ' (st (i + 1))) :
    ExS K E (tFor wi (gName j) ts) ρ (.nx (st k)) := by
  have := xs_foldI (K := K) (E := E) (ρ := ρ) (ts := ts) (wi := wi) (j := j) (List.range k) (fun (i : Nat) => PyData.int (lo + (i : Int))) st (fun b _ => b + 1) (fun i b => b = i) 0 hi h0 rfl (fun i x b hx hi' he hb' => by
    have e : x = i := by
      rw [List.getElem?_range (by simpa using hi')] at he
      exact (Option.some.inj he).symm
    subst hb' e
    exact ⟨rfl, hb _ (by simpa using hi')⟩)
  have e : (List.range k).foldl (fun b _ => b + 1) 0 = k := by
    induction k with
    | zero => rfl
    | succ k ih =>
      rw [List.range_succ, List.foldl_append]
      have : ∀ (l : List Nat) (n : Nat), l.foldl (fun b _ => b + 1) n = n + l.length := by
        intro l
        induction l with
        | nil => simp
        | cons a l ih => intro n; rw [List.foldl_cons, ih]; simp; omega
      rw [this, this]
      simp
  rw [e] at this
  exact this
theorem xs_ifT {t : TT} {o : Out} (h : EvT K t ρ true) (h1 : ExS K E ts ρ o) : ExS K E (tIfS t ts tz) ρ o := xs_if h (fun _ => h1) (fun z => by cases z)
theorem xs_ifF {t : TT} {o : Out} (h : EvT K t ρ false) (h1 : ExS K E tz ρ o) : ExS K E (tIfS t ts tz) ρ o := xs_if h (fun z => by cases z) (fun _ => h1)
theorem findM_all {α : Type} {d : PyData} (p : α → Bool) : ∀ xs : List α, findM (fun x => if p x then none else some d) xs = if xs.all p then none else some d
  | [] => rfl
  | x :: xs => by
    unfold findM
    cases h : p x with
    | true => simp only [h, List.all_cons, Bool.true_and, if_true]; exact findM_all p xs
    | false => simp [h]
end
end Lc

set_option Elab.async false
set_option linter.all false
set_option maxRecDepth 100000
set_option maxHeartbeats 4000000
namespace Lc
open PySem L2 PySem.Spec PyProof.Rows
local macro_rules
  | `(tactic| decreasing_trivial) => `(tactic| repeat' (first
      | (with_reducible apply ev_var); rfl | with_reducible exact ev_int | with_reducible exact ev_non | with_reducible exact ev_bl | with_reducible exact ev_str | with_reducible exact ea_nil
      | with_reducible apply ea_cons | with_reducible apply ev_cb | with_reducible apply ev_op | with_reducible apply ev_un | with_reducible apply ev_tup | with_reducible apply ev_lst
      | with_reducible apply et_test | with_reducible apply et_B | with_reducible apply et_not
      | exact od_add | exact od_sub | exact od_lt | exact od_le | exact od_gt | exact od_ge | exact ca_abs | exact ud_neg | exact od_ixT rfl | exact ca_lenT | exact ca_lenL
      | (show List.length _ ≤ 100000; simp; done)))
local macro_rules
  | `(tactic| get_elem_tactic_trivial) => `(tactic| repeat' (first | exact Fg.nil | apply Fg.same | apply Fg.drop))
/-! ### fractions -/
abbrev Fr := Int × Int
def frD (p : Fr) : PyData := .tuple [.int p.1, .int p.2]
def gcdI (a b : Int) : Int := (Int.gcd a b : Int)
def fracM (t b : Int) : Fr := (t / gcdI t b, b / gcdI t b)
def plusM (p q : Fr) : Fr := fracM (p.1 * q.2 + q.1 * p.2) (p.2 * q.2)
def timesM (p q : Fr) : Fr := fracM (p.1 * q.1) (p.2 * q.2)
def negM (p : Fr) : Fr := (-p.1, p.2)
def lessM (p q : Fr) : Fr := plusM p (negM q)
def belowM (p q : Fr) : Bool := decide (p.1 * q.2 < q.1 * p.2)
def sumF (fs : List Fr) : Fr := fs.foldl plusM (0, 1)
/-- of at most n bits -/
def Bz (n : Nat) (x : Int) : Prop := x.natAbs < 2 ^ n
structure FrOk (n : Nat) (p : Fr) : Prop where
  pos : 0 < p.2
  top : Bz n p.1
  bot : Bz n p.2
theorem Bz.mono {m n : Nat} {x : Int} (h : Bz m x) (hn : m ≤ n) : Bz n x := Nat.lt_of_lt_of_le h (Nat.pow_le_pow_right (by decide) hn)
theorem Bz.mul {m n : Nat} {x y : Int} (h : Bz m x) (k : Bz n y) : Bz (m + n) (x * y) := by
  unfold Bz at *
  rw [Int.natAbs_mul, Nat.pow_add]
  exact Nat.mul_lt_mul_of_lt_of_le h (Nat.le_of_lt k) (by have := Nat.pow_pos (n := n) (show 0 < 2 by decide); omega)
theorem Bz.add {m : Nat} {x y : Int} (h : Bz m x) (k : Bz m y) : Bz (m + 1) (x + y) := by
  unfold Bz at *
  have := Int.natAbs_add_le x y
  rw [Nat.pow_succ]
  omega
theorem Bz.log {n : Nat} {x : Int} (h : Bz n x) (hn : 0 < n) : x.natAbs.log2 < n := by
  by_cases h0 : x.natAbs = 0
  · rw [h0]; simpa using hn
  · exact (Nat.log2_lt h0).mpr h
theorem Bz.of_le {n : Nat} {x y : Int} (h : Bz n y) (hx : x.natAbs ≤ y.natAbs) : Bz n x := Nat.lt_of_le_of_lt hx h
theorem Bz.neg {n : Nat} {x : Int} (h : Bz n x) : Bz n (-x) := by unfold Bz at *; omega
theorem Bz.abs {n : Nat} {x : Int} (h : Bz n x) : Bz n (x.natAbs : Int) := by unfold Bz at *; omega
theorem gcdI_pos {a b : Int} (h : 0 < b) : 0 < gcdI a b := by
  have : 0 < Int.gcd a b := Int.gcd_pos_of_ne_zero_right a (by omega)
  unfold gcdI; omega
theorem gcdI_dvd1 {a b : Int} : gcdI a b ∣ a := Int.gcd_dvd_left a b
theorem gcdI_dvd2 {a b : Int} : gcdI a b ∣ b := Int.gcd_dvd_right a b
theorem gcdI_le {a b : Int} (h : 0 < b) : gcdI a b ≤ b := Int.le_of_dvd h gcdI_dvd2
theorem div_small {a g : Int} (hd : g ∣ a) (hg : 0 < g) : (a / g).natAbs ≤ a.natAbs := by
  obtain ⟨c, rfl⟩ := hd
  rw [Int.mul_ediv_cancel_left _ (by omega), Int.natAbs_mul]
  exact Nat.le_mul_of_pos_left _ (by omega)
theorem frac_ok {n : Nat} {t b : Int} (hb : 0 < b) (h1 : Bz n t) (h2 : Bz n b) : FrOk n (fracM t b) where
  pos := by
    show 0 < b / gcdI t b
    have hg := gcdI_pos (a := t) hb
    obtain ⟨c, hc⟩ := gcdI_dvd2 (a := t) (b := b)
    have e : b / gcdI t b = c := by
      have := Int.mul_ediv_cancel_left c (show gcdI t b ≠ 0 by omega)
      rw [← hc] at this; exact this
    rw [e]
    have : 0 < gcdI t b * c := by omega
    exact Int.pos_of_mul_pos_right this (by omega) |> fun h => h
  top := h1.of_le (div_small gcdI_dvd1 (gcdI_pos hb))
  bot := h2.of_le (div_small gcdI_dvd2 (gcdI_pos hb))
theorem FrOk.mono {m n : Nat} {p : Fr} (h : FrOk m p) (hn : m ≤ n) : FrOk n p := ⟨h.pos, h.top.mono hn, h.bot.mono hn⟩
theorem FrOk.plus {m n : Nat} {p q : Fr} (h : FrOk m p) (k : FrOk n q) : FrOk (m + n + 1) (plusM p q) :=
  frac_ok (Int.mul_pos h.pos k.pos) ((h.top.mul k.bot).add (by rw [Nat.add_comm]; exact k.top.mul h.bot)) ((h.bot.mul k.bot).mono (by omega))
theorem FrOk.times {m n : Nat} {p q : Fr} (h : FrOk m p) (k : FrOk n q) : FrOk (m + n) (timesM p q) :=
  frac_ok (Int.mul_pos h.pos k.pos) (h.top.mul k.top) (h.bot.mul k.bot)
theorem FrOk.negative {m : Nat} {p : Fr} (h : FrOk m p) : FrOk m (negM p) := ⟨h.pos, h.top.neg, h.bot⟩
theorem frOk0 : FrOk 1 ((0, 1) : Fr) := ⟨by decide, by unfold Bz; decide, by unfold Bz; decide⟩
theorem sumF_ok {n : Nat} : ∀ (fs : List Fr) (m : Nat) (p : Fr), FrOk m p → (∀ f ∈ fs, FrOk n f) → FrOk (m + fs.length * (n + 1)) (fs.foldl plusM p)
  | [], m, p, h, _ => by simpa using h
  | f :: fs, m, p, h, hf => by
    rw [List.foldl_cons]
    have := sumF_ok fs (m + n + 1) (plusM p f) (h.plus (hf f (by simp))) (fun g hg => hf g (by simp [hg]))
    have e : m + n + 1 + fs.length * (n + 1) = m + (f :: fs).length * (n + 1) := by rw [List.length_cons, Nat.succ_mul]; omega
    rw [e] at this
    exact this
/-! promises -/
def R_divisor_of : List PyData → Out → Prop := fun ds o => ∃ a b : Int, ds = [.int a, .int b] ∧ o = .rt (.int (gcdI a b))
def sp_divisor_of (K : PySem.W.Frag) : Sp := spD K R_divisor_of
def R_fraction : List PyData → Out → Prop := fun ds o => ∃ t b : Int, 0 < b ∧ Bz 9000 b ∧ ds = [.int t, .int b] ∧ o = .rt (frD (fracM t b))
def sp_fraction (K : PySem.W.Frag) : Sp := spD K R_fraction
def R_fr2 (f : Fr → Fr → PyData) : List PyData → Out → Prop := fun ds o => ∃ m n p q, FrOk m p ∧ FrOk n q ∧ m + n ≤ 9000 ∧ ds = [frD p, frD q] ∧ o = .rt (f p q)
def sp_plus (K : PySem.W.Frag) : Sp := spD K (R_fr2 fun p q => frD (plusM p q))
def sp_by_factor (K : PySem.W.Frag) : Sp := spD K (R_fr2 fun p q => frD (timesM p q))
def sp_less (K : PySem.W.Frag) : Sp := spD K (R_fr2 fun p q => frD (lessM p q))
def sp_is_below (K : PySem.W.Frag) : Sp := spD K (R_fr2 fun p q => .bool (belowM p q))
def R_negative : List PyData → Out → Prop := fun ds o => ∃ p, ds = [frD p] ∧ o = .rt (frD (negM p))
def sp_negative (K : PySem.W.Frag) : Sp := spD K R_negative
def R_sum_of : List PyData → Out → Prop := fun ds o => ∃ n fs, (∀ f ∈ fs, FrOk n f) ∧ fs.length ≤ 1000 ∧ (fs.length + 1) * (n + 1) ≤ 8000 ∧ (ds = [.list (fs.map frD)] ∨ ds = [.tuple (fs.map frD)]) ∧ o = .rt (frD (sumF fs))
def sp_sum_of (K : PySem.W.Frag) : Sp := spD K R_sum_of
def t_divisor_of (K : PySem.W.Frag) (E : XK) : TS := (tSeq (tPar 0 1 (tCons (tCB rAbsI (tCons (tVar 0) tNil)) (tCons (tCB rAbsI (tCons (tVar 1) tNil)) tNil)))
  (tSeq (tWhile (tTest (tOp (rNeD K) (tVar 1) (tC (.int 0)))) (tPar 0 1 (tCons (tVar 1) (tCons (tOp rModU (tVar 0) (tVar 1)) tNil))))
  (tRet (tVar 0))))
def t_fraction (K : PySem.W.Frag) (E : XK) : TS := (tSeq (tAsg (tCall (sp_divisor_of K) [] E0 (tCons (tVar 0) (tCons (tVar 1) tNil))) (gName 2))
  (tSeq (tAsg (tIf (tTest (tOp rGtI (tVar 1) (tC (.int 0)))) (tVar 2) (tUn (rU fun i => .int (-i)) (tVar 2))) (gName 2))
  (tRet (tTup (tCons (tOp rDivU (tVar 0) (tVar 2)) (tCons (tOp rDivU (tVar 1) (tVar 2)) tNil))))))
def t_plus (K : PySem.W.Frag) (E : XK) : TS := (tRet (tCall (sp_fraction K) [] E0 (tCons (tOp (rAddU K) (tOp (rMulU K) (tOp (rIx K) (tVar 0) (tC (.int 0))) (tOp (rIx K) (tVar 1) (tC (.int 1)))) (tOp (rMulU K) (tOp (rIx K) (tVar 1) (tC (.int 0))) (tOp (rIx K) (tVar 0) (tC (.int 1))))) (tCons (tOp (rMulU K) (tOp (rIx K) (tVar 0) (tC (.int 1))) (tOp (rIx K) (tVar 1) (tC (.int 1)))) tNil))))
def t_by_factor (K : PySem.W.Frag) (E : XK) : TS := (tRet (tCall (sp_fraction K) [] E0 (tCons (tOp (rMulU K) (tOp (rIx K) (tVar 0) (tC (.int 0))) (tOp (rIx K) (tVar 1) (tC (.int 0)))) (tCons (tOp (rMulU K) (tOp (rIx K) (tVar 0) (tC (.int 1))) (tOp (rIx K) (tVar 1) (tC (.int 1)))) tNil))))
def t_negative (K : PySem.W.Frag) (E : XK) : TS := (tRet (tTup (tCons (tUn (rU fun i => .int (-i)) (tOp (rIx K) (tVar 0) (tC (.int 0)))) (tCons (tOp (rIx K) (tVar 0) (tC (.int 1))) tNil))))
def t_less (K : PySem.W.Frag) (E : XK) : TS := (tRet (tCall (sp_plus K) [] E0 (tCons (tVar 0) (tCons (tCall (sp_negative K) [] E0 (tCons (tVar 1) tNil)) tNil))))
def t_is_below (K : PySem.W.Frag) (E : XK) : TS := (tRet (tOp (rLtU K) (tOp (rMulU K) (tOp (rIx K) (tVar 0) (tC (.int 0))) (tOp (rIx K) (tVar 1) (tC (.int 1)))) (tOp (rMulU K) (tOp (rIx K) (tVar 1) (tC (.int 0))) (tOp (rIx K) (tVar 0) (tC (.int 1))))))
def t_sum_of (K : PySem.W.Frag) (E : XK) : TS := (tSeq (tAsg (tTup (tCons (tC (.int 0)) (tCons (tC (.int 1)) tNil))) (gName 1))
  (tSeq (tFor (iSeq K (tVar 0)) (gName 2) (tAsg (tCall (sp_plus K) [] E0 (tCons (tVar 1) (tCons (tVar 2) tNil))) (gName 1)))
  (tRet (tVar 1))))
section
variable {K : PySem.W.Frag} {E : XK} {ρ : Rho} {ta tb : TE}
/-! Euclid's way -/
def eucl (a b : Nat) : Nat → Nat × Nat
  | 0 => (a, b)
  | i + 1 => let p := eucl a b i; (p.2, p.1 % p.2)
theorem eucl_end : ∀ (b a : Nat), ∃ n, (∀ i, i < n → (eucl a b i).2 ≠ 0) ∧ eucl a b n = (Nat.gcd a b, 0) := by
  intro b
  induction b using Nat.strongRecOn with
  | ind b ih =>
    intro a
    by_cases h : b = 0
    · subst h
      exact ⟨0, fun i hi => by omega, by simp [eucl]⟩
    · obtain ⟨n, h1, h2⟩ := ih (a % b) (Nat.mod_lt _ (by omega)) b
      have sh : ∀ i, eucl a b (i + 1) = eucl b (a % b) i := by
        intro i
        induction i with
        | zero => rfl
        | succ i ih' =>
          show (let p := eucl a b (i + 1); (p.2, p.1 % p.2)) = _
          rw [ih']; rfl
      refine ⟨n + 1, fun i hi => ?_, ?_⟩
      · cases i with
        | zero => exact h
        | succ i => rw [sh]; exact h1 i (by omega)
      · rw [sh, h2, Nat.gcd_comm a b, Nat.gcd_rec b a, Nat.gcd_comm b (a % b)]
theorem x_divisor_of {a b : Int} : ExS K E (t_divisor_of K E) [some (.int a), some (.int b)] (.rt (.int (gcdI a b))) := by
  obtain ⟨n, h1, h2⟩ := eucl_end b.natAbs a.natAbs
  refine xs_seq (xs_par (by decreasing_trivial)) ?_
  have hne : ∀ p : Nat × Nat, EvT K (tTest (tOp (rNeD K) (tVar 1) (tC (.int 0)))) [some (.int (p.1 : Int)), some (.int (p.2 : Int))] (!decide (p.2 = 0)) := fun p => by
    refine et_to (et_test (ev_op (ev_var rfl) ev_int (od_ne (sh_int (n := 0)) (sh_int (n := 0))))) ?_
    rw [eqv_int]
    have : ((p.2 : Int) = 0) ↔ p.2 = 0 := by omega
    simp only [this]
  have hw := xs_while (K := K) (E := E) (ρ := [some (.int (a.natAbs : Int)), some (.int (b.natAbs : Int))]) (t := tTest (tOp (rNeD K) (tVar 1) (tC (.int 0)))) (ts := tPar 0 1 (tCons (tVar 1) (tCons (tOp rModU (tVar 0) (tVar 1)) tNil)))
    (fun i => [some (.int ((eucl a.natAbs b.natAbs i).1 : Int)), some (.int ((eucl a.natAbs b.natAbs i).2 : Int))]) n rfl (fun i hi => et_to (hne _) (by simp [h1 i hi])) (et_to (hne _) (by rw [h2]; rfl)) (fun i hi => by
      have := h1 i hi
      have e : ((eucl a.natAbs b.natAbs (i + 1)).2 : Int) = ((eucl a.natAbs b.natAbs i).1 : Int) % ((eucl a.natAbs b.natAbs i).2 : Int) := rfl
      rw [e]
      exact xs_par (ea_cons (ev_var rfl) (ea_cons (ev_op (ev_var rfl) (ev_var rfl) (od_mod (by omega))) ea_nil)))
  rw [h2] at hw
  refine xs_seq hw (xs_ret ?_)
  exact ev_var rfl
theorem pure_divisor_of {vs : List V} {H : Hp} {Q : VK} (hs : sp_divisor_of K vs H Q E) : t_divisor_of K E { nx := fun _ H' => Q .non H', rt := Q } (L2.start ["one", "other"] vs) H :=
  sp_body (R := R_divisor_of) (fun ds o h => by obtain ⟨a, b, rfl, rfl⟩ := h; exact .inl x_divisor_of) hs
theorem od_divB {i j : Int} (h : 0 < j) (h2 : Bz 9000 j) : OpD K rDivU (.int i) (.int j) (.int (i / j)) := od_divW h (h2.log (by decide))
theorem od_mulB {m n : Nat} {i j : Int} (h : Bz m i) (k : Bz n j) (hn : m + n ≤ 20000) : OpD K (rMulU K) (.int i) (.int j) (.int (i * j)) := od_mulW (by
  have h1 := (h.mono (show m ≤ m + 1 by omega)).log (by omega)
  have h2 := (k.mono (show n ≤ n + 1 by omega)).log (by omega)
  unfold CMulW; omega)
theorem pure_fraction {vs : List V} {H : Hp} {Q : VK} (hs : sp_fraction K vs H Q E) : t_fraction K E { nx := fun _ H' => Q .non H', rt := Q } (L2.start ["top", "bottom", "by"] vs) H :=
  sp_body (R := R_fraction) (fun ds o h => by
    obtain ⟨t, b, hb, hz, rfl, rfl⟩ := h
    have hg := gcdI_pos (a := t) hb
    have hgz : Bz 9000 (gcdI t b) := hz.of_le (by have := gcdI_le (a := t) hb; omega)
    refine .inl (xs_seq (xs_asg (ev_call (ea_cons (ev_var rfl) (ea_cons (ev_var rfl) ea_nil)) ⟨t, b, rfl, rfl⟩)) (xs_seq (xs_asg (ev_if (b := true) (d := .int (gcdI t b)) (et_to (et_test (ev_op (ev_var rfl) ev_int od_gt)) (by simpa using hb)) (fun _ => ev_var rfl) (fun z => by cases z))) (xs_ret ?_)))
    exact ev_tup (ea_cons (ev_op (ev_var rfl) (ev_var rfl) (od_divB hg hgz)) (ea_cons (ev_op (ev_var rfl) (ev_var rfl) (od_divB hg hgz)) ea_nil)) (by simp)) hs
theorem ev_fst {p : Fr} {i : Nat} (h : ρ[i]? = some (some (frD p))) : EvD K (tOp (rIx K) (tVar i) (tC (.int 0))) ρ (.int p.1) := ev_op (ev_var h) ev_int (od_ixT rfl)
theorem ev_snd {p : Fr} {i : Nat} (h : ρ[i]? = some (some (frD p))) : EvD K (tOp (rIx K) (tVar i) (tC (.int 1))) ρ (.int p.2) := ev_op (ev_var h) ev_int (od_ixT rfl)
theorem pure_plus {vs : List V} {H : Hp} {Q : VK} (hs : sp_plus K vs H Q E) : t_plus K E { nx := fun _ H' => Q .non H', rt := Q } (L2.start ["one", "other"] vs) H :=
  sp_body (fun ds o h => by
    obtain ⟨m, n, p, q, hp, hq, hz, rfl, rfl⟩ := h
    exact .inl (xs_ret (ev_call (ea_cons (ev_op (ev_op (ev_fst rfl) (ev_snd rfl) (od_mulB hp.top hq.bot (by omega))) (ev_op (ev_fst rfl) (ev_snd rfl) (od_mulB hq.top hp.bot (by omega))) od_add) (ea_cons (ev_op (ev_snd rfl) (ev_snd rfl) (od_mulB hp.bot hq.bot (by omega))) ea_nil)) ⟨_, _, Int.mul_pos hp.pos hq.pos, (hp.bot.mul hq.bot).mono hz, rfl, rfl⟩))) hs
theorem pure_by_factor {vs : List V} {H : Hp} {Q : VK} (hs : sp_by_factor K vs H Q E) : t_by_factor K E { nx := fun _ H' => Q .non H', rt := Q } (L2.start ["one", "other"] vs) H :=
  sp_body (fun ds o h => by
    obtain ⟨m, n, p, q, hp, hq, hz, rfl, rfl⟩ := h
    exact .inl (xs_ret (ev_call (ea_cons (ev_op (ev_fst rfl) (ev_fst rfl) (od_mulB hp.top hq.top (by omega))) (ea_cons (ev_op (ev_snd rfl) (ev_snd rfl) (od_mulB hp.bot hq.bot (by omega))) ea_nil)) ⟨_, _, Int.mul_pos hp.pos hq.pos, (hp.bot.mul hq.bot).mono hz, rfl, rfl⟩))) hs
theorem pure_negative {vs : List V} {H : Hp} {Q : VK} (hs : sp_negative K vs H Q E) : t_negative K E { nx := fun _ H' => Q .non H', rt := Q } (L2.start ["one"] vs) H :=
  sp_body (fun ds o h => by
    obtain ⟨p, rfl, rfl⟩ := h
    exact .inl (xs_ret (ev_tup (ea_cons (ev_un (ev_fst (p := p) rfl) ud_neg) (ea_cons (ev_snd (p := p) rfl) ea_nil)) (by simp)))) hs
theorem pure_less {vs : List V} {H : Hp} {Q : VK} (hs : sp_less K vs H Q E) : t_less K E { nx := fun _ H' => Q .non H', rt := Q } (L2.start ["one", "other"] vs) H :=
  sp_body (fun ds o h => by
    obtain ⟨m, n, p, q, hp, hq, hz, rfl, rfl⟩ := h
    exact .inl (xs_ret (ev_call (ea_cons (ev_var rfl) (ea_cons (ev_call (ea_cons (ev_var rfl) ea_nil) ⟨q, rfl, rfl⟩) ea_nil)) ⟨m, n, p, negM q, hp, hq.negative, hz, rfl, rfl⟩))) hs
theorem pure_is_below {vs : List V} {H : Hp} {Q : VK} (hs : sp_is_below K vs H Q E) : t_is_below K E { nx := fun _ H' => Q .non H', rt := Q } (L2.start ["one", "other"] vs) H :=
  sp_body (fun ds o h => by
    obtain ⟨m, n, p, q, hp, hq, hz, rfl, rfl⟩ := h
    exact .inl (xs_ret (ev_op (ev_op (ev_fst rfl) (ev_snd rfl) (od_mulB hp.top hq.bot (by omega))) (ev_op (ev_fst rfl) (ev_snd rfl) (od_mulB hq.top hp.bot (by omega))) od_lt))) hs
theorem pure_sum_of {vs : List V} {H : Hp} {Q : VK} (hs : sp_sum_of K vs H Q E) : t_sum_of K E { nx := fun _ H' => Q .non H', rt := Q } (L2.start ["some", "found", "one"] vs) H :=
  sp_body (fun ds o h => by
    obtain ⟨n, fs, hf, hl, hz, hd, rfl⟩ := h
    have key : ∀ dd : PyData, (∀ {ρ : Rho}, ρ[0]? = some (some dd) → ItD K (iSeq K (tVar 0)) ρ (fs.map frD)) → ExS K E (t_sum_of K E) [some dd, none, none] (.rt (frD (sumF fs))) := fun dd hi => by
      refine xs_seq (xs_asg (d := frD (0, 1)) (ev_tup (ea_cons ev_int (ea_cons ev_int ea_nil)) (by simp))) (xs_seq (xs_foldI (I := fun i b => FrOk (1 + i * (n + 1)) b) fs frD (fun b => [some dd, some (frD b), none]) plusM (0, 1) (hi rfl) (by get_elem_tactic_trivial) (by simpa using frOk0) (fun i x b hx hi' he hb => ?_)) (xs_ret (ev_var rfl)))
      have hx' := hf x hx
      refine ⟨?_, _, xs_asg (ev_call (ea_cons (ev_var rfl) (ea_cons (ev_var rfl) ea_nil)) ⟨_, _, b, x, hb, hx', ?_, rfl, rfl⟩), by get_elem_tactic_trivial⟩
      · have := hb.plus hx'
        have e : 1 + i * (n + 1) + n + 1 = 1 + (i + 1) * (n + 1) := by rw [Nat.succ_mul]; omega
        rw [e] at this; exact this
      · have h1 : i * (n + 1) ≤ fs.length * (n + 1) := Nat.mul_le_mul_right _ (by omega)
        have h2 : (fs.length + 1) * (n + 1) = fs.length * (n + 1) + (n + 1) := Nat.succ_mul _ _
        omega
    rcases hd with rfl | rfl
    · exact .inl (key _ (fun h => it_seqL (ev_var h)))
    · exact .inl (key _ (fun h => it_seqT (ev_var h)))) hs
end
end Lc

set_option Elab.async false
set_option linter.all false
set_option maxRecDepth 100000
set_option maxHeartbeats 4000000
namespace Lc
open PySem L2 PySem.Spec PyProof.Rows
local macro_rules
  | `(tactic| decreasing_trivial) => `(tactic| repeat' (first
      | (with_reducible apply ev_var); rfl | with_reducible exact ev_int | with_reducible exact ev_non | with_reducible exact ev_bl | with_reducible exact ev_str | with_reducible exact ea_nil
      | with_reducible apply ea_cons | with_reducible apply ev_cb | with_reducible apply ev_op | with_reducible apply ev_un | with_reducible apply ev_tup | with_reducible apply ev_lst
      | with_reducible apply et_test | with_reducible apply et_B | with_reducible apply et_not
      | exact od_add | exact od_sub | exact od_lt | exact od_le | exact od_gt | exact od_ge | exact ca_abs | exact ud_neg | exact od_ixT rfl | exact ca_lenT | exact ca_lenL
      | (show List.length _ ≤ 100000; simp; done)))
local macro_rules
  | `(tactic| get_elem_tactic_trivial) => `(tactic| repeat' (first | exact Fg.nil | apply Fg.same | apply Fg.drop))
/-! ### told fractions -/
def isI : PyData → Bool
  | .int _ => true
  | _ => false
def isFrac (d : PyData) : Bool := match d with
  | .tuple [.int a, .int b] => decide (0 < b) && decide (gcdI a b = 1)
  | _ => false
def frOf (d : PyData) : Fr := match d with
  | .tuple [.int a, .int b] => (a, b)
  | _ => (0, 1)
def in01 (p : Fr) : Bool := decide (0 ≤ p.1) && decide (p.1 ≤ p.2)
def isTold (n : Int) (d : PyData) : Bool := match d with
  | .tuple l => decide ((l.length : Int) = n) && l.all isFrac && l.all (fun x => in01 (frOf x))
  | _ => false
structure ToldOk (p : Fr) : Prop where
  pos : 0 < p.2
  low : gcdI p.1 p.2 = 1
  ge : 0 ≤ p.1
  le : p.1 ≤ p.2
theorem isFrac_inv {d : PyData} (h : isFrac d = true) : ∃ p : Fr, d = frD p ∧ 0 < p.2 ∧ gcdI p.1 p.2 = 1 := by
  unfold isFrac at h
  split at h
  · rename_i a b
    simp only [Bool.and_eq_true, decide_eq_true_eq] at h
    exact ⟨(a, b), rfl, h.1, h.2⟩
  · cases h
theorem frOf_frD (p : Fr) : frOf (frD p) = p := rfl
theorem isFrac_frD {p : Fr} (h : 0 < p.2) (k : gcdI p.1 p.2 = 1) : isFrac (frD p) = true := by
  show (decide (0 < p.2) && decide (gcdI p.1 p.2 = 1)) = true
  simp [h, k]
theorem all_frac : ∀ {l : List PyData}, l.all isFrac = true → l = (l.map frOf).map frD
  | [], _ => rfl
  | d :: l, h => by
    rw [List.all_cons, Bool.and_eq_true] at h
    obtain ⟨p, rfl, _⟩ := isFrac_inv h.1
    rw [List.map_cons, List.map_cons, ← all_frac h.2, frOf_frD]
theorem isTold_inv {n : Int} {d : PyData} (h : isTold n d = true) : ∃ fs : List Fr, d = .tuple (fs.map frD) ∧ (fs.length : Int) = n ∧ ∀ f ∈ fs, ToldOk f := by
  unfold isTold at h
  split at h
  · rename_i l
    simp only [Bool.and_eq_true, decide_eq_true_eq] at h
    obtain ⟨⟨h1, h2⟩, h3⟩ := h
    refine ⟨l.map frOf, by rw [← all_frac h2], by rw [List.length_map]; exact h1, fun f hf => ?_⟩
    obtain ⟨x, hx, rfl⟩ := List.mem_map.mp hf
    obtain ⟨p, rfl, k1, k2⟩ := isFrac_inv (List.all_eq_true.mp h2 x hx)
    have : in01 p = true := List.all_eq_true.mp h3 _ hx
    simp only [in01, Bool.and_eq_true, decide_eq_true_eq] at this
    exact ⟨k1, k2, this.1, this.2⟩
  · cases h
theorem isTold_of {n : Int} {fs : List Fr} (h1 : (fs.length : Int) = n) (h2 : ∀ f ∈ fs, ToldOk f) : isTold n (.tuple (fs.map frD)) = true := by
  show (decide (((fs.map frD).length : Int) = n) && (fs.map frD).all isFrac && (fs.map frD).all (fun x => in01 (frOf x))) = true
  simp only [Bool.and_eq_true, decide_eq_true_eq, List.length_map, List.all_eq_true, List.mem_map]
  refine ⟨⟨h1, ?_⟩, ?_⟩
  · rintro x ⟨f, hf, rfl⟩; exact isFrac_frD (h2 f hf).pos (h2 f hf).low
  · rintro x ⟨f, hf, rfl⟩
    show in01 f = true
    simp only [in01, Bool.and_eq_true, decide_eq_true_eq]
    exact ⟨(h2 f hf).ge, (h2 f hf).le⟩
def absF (p : Fr) : Fr := ((p.1.natAbs : Int), p.2)
def toldSum (fs : List Fr) (s : List Int) : Fr := sumF (s.map fun x => fs.getD x.toNat (0, 1))
def missOf (fs : List Fr) (row s : List Int) : Fr := absF (lessM (sumM row s, 1) (toldSum fs s))
def missM (fs : List Fr) (ss : List (List Int)) (row : List Int) : Fr := ss.foldl (fun best s => if belowM best (missOf fs row s) then missOf fs row s else best) (0, 1)
def bestStep (fs : List Fr) (ss : List (List Int)) (b : Option (Fr × List Int)) (row : List Int) : Option (Fr × List Int) := match b with
  | none => some (missM fs ss row, row)
  | some p => if belowM (missM fs ss row) p.1 then some (missM fs ss row, row) else some p
def bestF (n : Int) (fs : List Fr) (ss : List (List Int)) : Option (Fr × List Int) := (rowsM [0, 1] n.toNat).foldl (bestStep fs ss) none
/-! promises -/
def R_is_fraction : List PyData → Out → Prop := fun ds o => ∃ d, Sh 40 d ∧ ShrT d ∧ ds = [d] ∧ o = .rt (.bool (isFrac d))
def sp_is_fraction (K : PySem.W.Frag) : Sp := spD K R_is_fraction
def R_check_told (K : PySem.W.Frag) : List PyData → Out → Prop := fun ds o => ds.length = 2 ∧ R_fam K (fun n ss r o => ∃ d, Sh 40 d ∧ Short d ∧ r = [d] ∧ o = if isTold n d then .rt .none else .ex (He.ga K "InvalidTold")) ds o
def sp_check_told (K : PySem.W.Frag) : Sp := spD K (R_check_told K)
structure RoundIn (n : Int) (ss : List (List Int)) (fs : List Fr) (row : List Int) : Prop where
  fam : FamOk n ss
  fl : (fs.length : Int) = n
  fo : ∀ f ∈ fs, FrOk 600 f
  rl : (row.length : Int) = n
  ro : ∀ x ∈ row, x = 0 ∨ x = 1
def R_found_miss : List PyData → Out → Prop := fun ds o => ∃ n ss fs row, RoundIn n ss fs row ∧ ds = [famD n ss, .tuple (fs.map frD), tI row] ∧ o = .rt (frD (missM fs ss row))
def sp_found_miss (K : PySem.W.Frag) : Sp := spD K R_found_miss
def isRow (n : Int) (d : PyData) : Bool := match d with
  | .tuple l => decide ((l.length : Int) = n) && l.all (fun x => btw x 0 1)
  | _ => false
/-- a def of a family and told fractions -/
def R_told (K : PySem.W.Frag) (R : Int → List (List Int) → List Fr → List PyData → Out → Prop) : List PyData → Out → Prop := R_fam K (fun n ss r o => ∃ d q, r = d :: q ∧ Sh 40 d ∧ Short d ∧ ((isTold n d = false ∧ o = .ex (He.ga K "InvalidTold")) ∨ ∃ fs, d = .tuple (fs.map frD) ∧ (fs.length : Int) = n ∧ (∀ f ∈ fs, ToldOk f) ∧ (∀ f ∈ fs, FrOk 600 f) ∧ R n ss fs q o))
def R_miss (K : PySem.W.Frag) : List PyData → Out → Prop := fun ds o => ds.length = 3 ∧ R_told K (fun n ss fs q o => ∃ d, q = [d] ∧ Sh 40 d ∧ ShrT d ∧ o = if isRow n d then .rt (frD (missM fs ss (tupOf d))) else .ex (He.ga K "InvalidRounding")) ds o
def sp_miss (K : PySem.W.Frag) : Sp := spD K (R_miss K)
def bestD : Option (Fr × List Int) → PyData
  | none => .tuple [.none, .none]
  | some p => .tuple [frD p.1, tI p.2]
def R_best (K : PySem.W.Frag) (f : Option (Fr × List Int) → PyData) : List PyData → Out → Prop := fun ds o => ds.length = 2 ∧ R_told K (fun n ss fs q o => q = [] ∧ o = .rt (f (bestF n fs ss))) ds o
def sp_found_best (K : PySem.W.Frag) : Sp := spD K (R_best K bestD)
def bestD0 : Option (Fr × List Int) → PyData
  | none => .none
  | some p => frD p.1
def bestD1 : Option (Fr × List Int) → PyData
  | none => .none
  | some p => tI p.2
def sp_least_miss (K : PySem.W.Frag) : Sp := spD K (R_best K bestD0)
def sp_rounded (K : PySem.W.Frag) : Sp := spD K (R_best K bestD1)
def t_is_fraction (K : PySem.W.Frag) (E : XK) : TS := (tSeq (tIfS (tOr (tNot (tB (tIsi K "tuple" (tVar 0)))) (tTest (tOp (rNeD K) (tCB (rLenU K) (tCons (tVar 0) tNil)) (tC (.int 2))))) (tRet (tC (.bl false))) tNext)
  (tSeq (tIfS (tNot (tB (tCB (rAll K) (tCons (tLc (iSeq K (tVar 0)) (gName 1) tYes (tAndV (tIsi K "int" (tVar 1)) (tNotV (tIsi K "bool" (tVar 1)))) [1]) tNil)))) (tRet (tC (.bl false))) tNext)
  (tRet (tAndV (tOp rGtI (tOp (rIx K) (tVar 0) (tC (.int 1))) (tC (.int 0))) (tOp (rEqD K) (tCall (sp_divisor_of K) [] E0 (tCons (tOp (rIx K) (tVar 0) (tC (.int 0))) (tCons (tOp (rIx K) (tVar 0) (tC (.int 1))) tNil))) (tC (.int 1)))))))
def t_check_told (K : PySem.W.Frag) (E : XK) : TS := (tSeq (tDrop (tCall (sp_check_family K) [] E (tCons (tVar 0) tNil)))
  (tSeq (tIfS (tOr (tNot (tB (tIsi K "tuple" (tVar 1)))) (tOr (tTest (tOp (rNeD K) (tCB (rLenU K) (tCons (tVar 1) tNil)) (tOp (rIx K) (tVar 0) (tC (.int 0))))) (tNot (tB (tCB (rAll K) (tCons (tLc (iSeq K (tVar 1)) (gName 2) tYes (tCall (sp_is_fraction K) [] E0 (tCons (tVar 2) tNil)) [2]) tNil)))))) (tRaise (He.ga K "InvalidTold") E) tNext)
  (tIfS (tNot (tB (tCB (rAll K) (tCons (tLc (iSeq K (tVar 1)) (gName 2) tYes (tChain rLeI rLeI (tC (.int 0)) (tOp (rIx K) (tVar 2) (tC (.int 0))) (tOp (rIx K) (tVar 2) (tC (.int 1)))) [2]) tNil)))) (tRaise (He.ga K "InvalidTold") E) tNext)))
def t_found_miss (K : PySem.W.Frag) (E : XK) : TS := (tSeq (tAsg (tTup (tCons (tC (.int 0)) (tCons (tC (.int 1)) tNil))) (gName 3))
  (tSeq (tFor (iSeq K (tOp (rIx K) (tVar 0) (tC (.int 1)))) (gName 4) (tSeq (tAsg (tCall (sp_less K) [] E0 (tCons (tTup (tCons (tCB (rSum K) (tCons (tLc (iSeq K (tVar 4)) (gName 7) tYes (tOp (rIx K) (tVar 2) (tVar 7)) [7]) tNil)) (tCons (tC (.int 1)) tNil))) (tCons (tCall (sp_sum_of K) [] E0 (tCons (tLc (iSeq K (tVar 4)) (gName 7) tYes (tOp (rIx K) (tVar 1) (tVar 7)) [7]) tNil)) tNil))) (gTup K 2 (gCons (gName 5) (gCons (gName 6) gNil))))
  (tSeq (tAsg (tTup (tCons (tCB rAbsI (tCons (tVar 5) tNil)) (tCons (tVar 6) tNil))) (gName 8))
  (tAsg (tIf (tB (tCall (sp_is_below K) [] E0 (tCons (tVar 3) (tCons (tVar 8) tNil)))) (tVar 8) (tVar 3)) (gName 3)))))
  (tRet (tVar 3))))
def t_miss (K : PySem.W.Frag) (E : XK) : TS := (tSeq (tDrop (tCall (sp_check_told K) [] E (tCons (tVar 0) (tCons (tVar 1) tNil))))
  (tSeq (tIfS (tOr (tNot (tB (tIsi K "tuple" (tVar 2)))) (tTest (tOp (rNeD K) (tCB (rLenU K) (tCons (tVar 2) tNil)) (tOp (rIx K) (tVar 0) (tC (.int 0)))))) (tRaise (He.ga K "InvalidRounding") E) tNext)
  (tSeq (tIfS (tNot (tB (tCB (rAll K) (tCons (tLc (iSeq K (tVar 2)) (gName 3) tYes (tCall (sp_is_between K) [] E0 (tCons (tVar 3) (tCons (tC (.int 0)) (tCons (tC (.int 1)) tNil)))) [3]) tNil)))) (tRaise (He.ga K "InvalidRounding") E) tNext)
  (tRet (tCall (sp_found_miss K) [] E0 (tCons (tVar 0) (tCons (tVar 1) (tCons (tVar 2) tNil))))))))
def t_found_best (K : PySem.W.Frag) (E : XK) : TS := (tSeq (tDrop (tCall (sp_check_told K) [] E (tCons (tVar 0) (tCons (tVar 1) tNil))))
  (tSeq (tAsg (tLst (tCons (tTup tNil) tNil)) (gName 2))
  (tSeq (tFor (iRng1 (tCons (tOp (rIx K) (tVar 0) (tC (.int 0))) tNil)) (gName 3) (tAsg (tLc2 (iSeq K (tVar 2)) (gName 4) tYes (iSeq K (tTup (tCons (tC (.int 0)) (tCons (tC (.int 1)) tNil)))) (gName 5) tYes (tOp (rAddU K) (tVar 4) (tTup (tCons (tVar 5) tNil))) [4, 5] [5]) (gName 2)))
  (tSeq (tAsg (tTup (tCons (tC .non) (tCons (tC .non) tNil))) (gTup K 2 (gCons (gName 6) (gCons (gName 7) gNil))))
  (tSeq (tFor (iSeq K (tVar 2)) (gName 4) (tSeq (tAsg (tCall (sp_found_miss K) [] E0 (tCons (tVar 0) (tCons (tVar 1) (tCons (tVar 4) tNil)))) (gName 5))
  (tIfS (tOr (tTest (tOp rIsU (tVar 6) (tC .non))) (tB (tCall (sp_is_below K) [] E0 (tCons (tVar 5) (tCons (tVar 6) tNil))))) (tPar 6 7 (tCons (tVar 5) (tCons (tVar 4) tNil))) tNext)))
  (tRet (tTup (tCons (tVar 6) (tCons (tVar 7) tNil)))))))))
def t_least_miss (K : PySem.W.Frag) (E : XK) : TS := (tRet (tOp (rIx K) (tCall (sp_found_best K) [] E (tCons (tVar 0) (tCons (tVar 1) tNil))) (tC (.int 0))))
def t_rounded (K : PySem.W.Frag) (E : XK) : TS := (tRet (tOp (rIx K) (tCall (sp_found_best K) [] E (tCons (tVar 0) (tCons (tVar 1) tNil))) (tC (.int 1))))
section
variable {K : PySem.W.Frag} {E : XK} {ρ : Rho} {ta tb : TE} {ts tz : TS} {d : PyData}
theorem ev_isI (h : EvD K ta ρ d) (hd : (tyName d).isSome = true) : EvD K (tAndV (tIsi K "int" ta) (tNotV (tIsi K "bool" ta))) ρ (.bool (isI d)) := by
  have h1 := ev_isInt h hd
  have h2 := ev_isBool h hd
  cases d with
  | int i => exact ev_andT h1 (ev_not h2)
  | bool b => exact ev_andT h1 (ev_not h2)
  | _ => exact ev_andF h1
theorem sub_sh {n : Nat} {l : List PyData} (h : Sh n (.tuple l)) : ∀ x ∈ l, Sh n x := fun x hx => by
  obtain ⟨i, hi⟩ := List.mem_iff_getElem?.mp hx
  obtain ⟨h1, h2⟩ := canLay_at (by simpa [PyData.canLay0] using h.1) i x hi
  have := h.2
  simp only [PyData.depth] at this
  exact ⟨h1, by omega⟩
theorem x_is_fraction (hd : Sh 40 d) (hz : ShrT d) : ExS K E (t_is_fraction K E) [some d, none] (.rt (.bool (isFrac d))) := by
  have h1 := ev_isTuple (K := K) (ρ := [some d, none]) (ta := tVar 0) (ev_var rfl) (sh_ty hd)
  cases d with
  | tuple l =>
    have h2 : EvT K (tTest (tOp (rNeD K) (tCB (rLenU K) (tCons (tVar 0) tNil)) (tC (.int 2)))) [some (.tuple l), none] (!decide (l.length = 2)) := by
      refine et_to (et_test (ev_op (ev_cb (ea_cons (ev_var rfl) ea_nil) ca_lenT) ev_int (od_ne (sh_int (n := 0)) (sh_int (n := 0))))) ?_
      rw [eqv_int]
      have : ((l.length : Int) = 2) ↔ l.length = 2 := by omega
      simp only [this]
    have h3 := ev_all (K := K) (ρ := [some (.tuple l), none]) (j := 1) (vs := [1]) (te := tAndV (tIsi K "int" (tVar 1)) (tNotV (tIsi K "bool" (tVar 1)))) l (fun x => x) isI (it_id (it_seqT (ev_var (i := 0) rfl))) (by have := hz l rfl; omega) (by simp) (fun x hx => ev_isI (ev_var rfl) (sh_ty (sub_sh hd x hx)))
    by_cases hl : l.length = 2
    · obtain ⟨a, b, rfl⟩ : ∃ a b, l = [a, b] := by
        match l, hl with
        | [a, b], _ => exact ⟨a, b, rfl⟩
      refine xs_seq (xs_ifF (et_orF (et_not (et_B h1)) h2) xs_next) ?_
      cases ha : isI a && isI b with
      | false =>
        have e : isFrac (.tuple [a, b]) = false := by
          cases a <;> cases b <;> first | rfl | simp [isI] at ha
        rw [e]
        refine xs_seqR (xs_ifT (et_to (et_not (et_B h3)) ?_) (xs_ret ev_bl))
        simp [ha]
      | true =>
        obtain ⟨i, j, rfl, rfl⟩ : ∃ i j, a = .int i ∧ b = .int j := by
          cases a <;> cases b <;> simp [isI] at ha
          exact ⟨_, _, rfl, rfl⟩
        refine xs_seq (xs_ifF (et_to (et_not (et_B h3)) (by simp [isI])) xs_next) (xs_ret (ev_to (ev_and (b := decide (0 < j)) (c := decide (gcdI i j = 1)) (ev_op (ev_op (ev_var rfl) ev_int (od_ixT rfl)) ev_int od_gt) (fun _ => ev_to (ev_op (ev_call (ea_cons (ev_op (ev_var rfl) ev_int (od_ixT rfl)) (ea_cons (ev_op (ev_var rfl) ev_int (od_ixT rfl)) ea_nil)) ⟨i, j, rfl, rfl⟩) ev_int (od_eq (sh_int (n := 0)) (sh_int (n := 0)))) (by rw [eqv_int]))) rfl))
    · have e : isFrac (.tuple l) = false := by
        match l, hl with
        | [], _ => rfl
        | [a], _ => cases a <;> rfl
        | a :: b :: c :: r, _ => cases a <;> cases b <;> rfl
      rw [e]
      exact xs_seqR (xs_ifT (et_to (et_orF (et_not (et_B h1)) h2) (by simp [hl])) (xs_ret ev_bl))
  | _ => exact xs_seqR (xs_ifT (et_orT (et_not (et_B h1))) (xs_ret ev_bl))
theorem pure_is_fraction {vs : List V} {H : Hp} {Q : VK} (hs : sp_is_fraction K vs H Q E) : t_is_fraction K E { nx := fun _ H' => Q .non H', rt := Q } (L2.start ["value", "one"] vs) H :=
  sp_body (fun ds o h => by obtain ⟨d, h1, h2, rfl, rfl⟩ := h; exact .inl (x_is_fraction h1 h2)) hs
theorem short_sub {l : List PyData} (h : Short (.tuple l)) : ∀ x ∈ l, ShrT x := fun x hx m hm => ((h l rfl).2 x hx m hm).1
theorem x_check_told {n : Int} {ss : List (List Int)} (hF : FamOk n ss) (hd : Sh 40 d) (hz : Short d) : (isTold n d = true → ∃ ρ', ExS K E (t_check_told K E) [some (famD n ss), some d, none] (.nx ρ')) ∧ (isTold n d = false → ExS K E (t_check_told K E) [some (famD n ss), some d, none] (.ex (He.ga K "InvalidTold"))) := by
  have h1 := ev_isTuple (K := K) (ρ := [some (famD n ss), some d, none]) (ta := tVar 1) (ev_var rfl) (sh_ty hd)
  cases d with
  | tuple l =>
    have h2 : EvT K (tTest (tOp (rNeD K) (tCB (rLenU K) (tCons (tVar 1) tNil)) (tOp (rIx K) (tVar 0) (tC (.int 0))))) [some (famD n ss), some (.tuple l), none] (!decide ((l.length : Int) = n)) := by
      refine et_to (et_test (ev_op (ev_cb (ea_cons (ev_var rfl) ea_nil) ca_lenT) (ev_fam0 rfl) (od_ne (sh_int (n := 0)) (sh_int (n := 0))))) ?_
      rw [eqv_int]
    have h3 := ev_all (K := K) (ρ := [some (famD n ss), some (.tuple l), none]) (j := 2) (vs := [2]) (te := tCall (sp_is_fraction K) [] E0 (tCons (tVar 2) tNil)) l (fun x => x) isFrac (it_id (it_seqT (ev_var (i := 1) rfl))) (by have := (hz l rfl).1; omega) (by simp) (fun x hx => ev_call (ea_cons (ev_var rfl) ea_nil) ⟨x, sub_sh hd x hx, short_sub hz x hx, rfl, rfl⟩)
    by_cases hl : (l.length : Int) = n
    · cases ha : l.all isFrac with
      | false =>
        have e : isTold n (.tuple l) = false := by simp only [isTold, ha]; simp
        rw [e]
        refine ⟨fun z => (by cases z), fun _ => xs_seq (xs_check hF rfl) (xs_seqX (xs_ifT (et_to (et_orF (et_not (et_B h1)) (et_orF (et_to h2 (by simp [hl])) (et_not (et_B h3)))) (by rw [ha]; rfl)) xs_raiseF))⟩
      | true =>
        have el := all_frac ha
        have hpass : ExS K E (tIfS (tOr (tNot (tB (tIsi K "tuple" (tVar 1)))) (tOr (tTest (tOp (rNeD K) (tCB (rLenU K) (tCons (tVar 1) tNil)) (tOp (rIx K) (tVar 0) (tC (.int 0))))) (tNot (tB (tCB (rAll K) (tCons (tLc (iSeq K (tVar 1)) (gName 2) tYes (tCall (sp_is_fraction K) [] E0 (tCons (tVar 2) tNil)) [2]) tNil)))))) (tRaise (He.ga K "InvalidTold") E) tNext) [some (famD n ss), some (.tuple l), none] (.nx [some (famD n ss), some (.tuple l), none]) :=
          xs_ifF (et_to (et_orF (et_not (et_B h1)) (et_orF (et_to h2 (by simp [hl])) (et_not (et_B h3)))) (by rw [ha]; rfl)) xs_next
        have h4 := ev_all (K := K) (ρ := [some (famD n ss), some (.tuple l), none]) (j := 2) (vs := [2]) (te := (tChain rLeI rLeI (tC (.int 0)) (tOp (rIx K) (tVar 2) (tC (.int 0))) (tOp (rIx K) (tVar 2) (tC (.int 1))))) l (fun x => x) (fun x => in01 (frOf x)) (it_id (it_seqT (ev_var (i := 1) rfl))) (by have := (hz l rfl).1; omega) (by simp) (fun x hx => by
          obtain ⟨p, rfl, _⟩ := isFrac_inv (List.all_eq_true.mp ha x hx)
          exact ev_chain ev_int (ev_fst (p := p) rfl) od_le (fun _ => ev_snd (p := p) rfl) (fun _ => od_le))
        have e : isTold n (.tuple l) = l.all (fun x => in01 (frOf x)) := by simp only [isTold, ha, hl]; simp
        rw [e]
        cases hb : l.all (fun x => in01 (frOf x)) with
        | true => exact ⟨fun _ => ⟨_, xs_seq (xs_check hF rfl) (xs_seq hpass (xs_ifF (et_to (et_not (et_B h4)) (by rw [hb]; rfl)) xs_next))⟩, fun z => by cases z⟩
        | false => exact ⟨fun z => (by cases z), fun _ => xs_seq (xs_check hF rfl) (xs_seq hpass (xs_ifT (et_to (et_not (et_B h4)) (by rw [hb]; rfl)) xs_raiseF))⟩
    · have e : isTold n (.tuple l) = false := by simp only [isTold]; simp [hl]
      rw [e]
      exact ⟨fun z => (by cases z), fun _ => xs_seq (xs_check hF rfl) (xs_seqX (xs_ifT (et_orF (et_not (et_B h1)) (et_orT (et_to h2 (by simp [hl])))) xs_raiseF))⟩
  | _ => exact ⟨fun z => (by cases z), fun _ => xs_seq (xs_check hF rfl) (xs_seqX (xs_ifT (et_orT (et_not (et_B h1))) xs_raiseF))⟩
theorem pure_check_told {vs : List V} {H : Hp} {Q : VK} (hs : sp_check_told K vs H Q E) : t_check_told K E { nx := fun _ H' => Q .non H', rt := Q } (L2.start ["family", "told", "one"] vs) H :=
  sp_body (R := R_check_told K) (fun ds o h => by
    obtain ⟨hl, d, r, rfl, h⟩ := h
    rcases h with ⟨h1, h2, h3, rfl⟩ | ⟨n, ss, hF, rfl, d', h1, h2, rfl, rfl⟩
    · match r, hl with
      | [y], _ => exact .inl (xs_seqX (xs_checkX h1 h2 h3 rfl))
    · obtain ⟨q1, q2⟩ := x_check_told (K := K) (E := E) hF h1 h2
      cases hb : isTold n d' with
      | true => exact .inr ⟨rfl, q1 hb⟩
      | false => exact .inl (q2 hb)) hs
/-- check_told(family, told) in a body -/
theorem xs_told {n : Int} {ss : List (List Int)} {fs : List Fr} {i j : Nat} (hF : FamOk n ss) (hl : (fs.length : Int) = n) (hf : ∀ f ∈ fs, ToldOk f) (hd : Sh 40 (.tuple (fs.map frD))) (hz : Short (.tuple (fs.map frD))) (hi : ρ[i]? = some (some (famD n ss))) (hj : ρ[j]? = some (some (.tuple (fs.map frD)))) :
    ExS K E (tDrop (tCall (sp_check_told K) [] E (tCons (tVar i) (tCons (tVar j) tNil)))) ρ (.nx ρ) :=
  xs_drop (ev_call (ea_cons (ev_var hi) (ea_cons (ev_var hj) ea_nil)) ⟨rfl, _, _, rfl, .inr ⟨n, ss, hF, rfl, _, hd, hz, rfl, by rw [isTold_of hl hf]; rfl⟩⟩)
theorem xs_toldX {R : Int → List (List Int) → List Fr → List PyData → Out → Prop} {r : List PyData} {d0 d1 : PyData} {i j : Nat} {o : Out} (hi : ρ[i]? = some (some d0)) (hj : ρ[j]? = some (some d1)) (h : R_told K R (d0 :: d1 :: r) o) :
    ExS K E (tSeq (tDrop (tCall (sp_check_told K) [] E (tCons (tVar i) (tCons (tVar j) tNil)))) tz) ρ o ∨ ∃ n ss fs, FamOk n ss ∧ d0 = famD n ss ∧ d1 = .tuple (fs.map frD) ∧ (fs.length : Int) = n ∧ (∀ f ∈ fs, ToldOk f) ∧ (∀ f ∈ fs, FrOk 600 f) ∧ Sh 40 d1 ∧ Short d1 ∧ R n ss fs r o := by
  obtain ⟨d, r', e, h⟩ := h
  cases e
  rcases h with ⟨h1, h2, h3, rfl⟩ | ⟨n, ss, hF, rfl, d', q, e, h1, h2, h⟩
  · exact .inl (xs_seqX (xs_dropX (ex_call (ea_cons (ev_var hi) (ea_cons (ev_var hj) ea_nil)) ⟨rfl, _, _, rfl, .inl ⟨h1, h2, h3, rfl⟩⟩)))
  · cases e
    rcases h with ⟨h3, rfl⟩ | ⟨fs, rfl, hl, hf, hb, hR⟩
    · exact .inl (xs_seqX (xs_dropX (ex_call (ea_cons (ev_var hi) (ea_cons (ev_var hj) ea_nil)) ⟨rfl, _, _, rfl, .inr ⟨n, ss, hF, rfl, d1, h1, h2, rfl, by rw [h3]; rfl⟩⟩)))
    · exact .inr ⟨n, ss, fs, hF, rfl, rfl, hl, hf, hb, h1, h2, hR⟩
end
end Lc

set_option Elab.async false
set_option linter.all false
set_option maxRecDepth 100000
set_option maxHeartbeats 4000000
namespace Lc
open PySem L2 PySem.Spec PyProof.Rows
local macro_rules
  | `(tactic| decreasing_trivial) => `(tactic| repeat' (first
      | (with_reducible apply ev_var); rfl | with_reducible exact ev_int | with_reducible exact ev_non | with_reducible exact ev_bl | with_reducible exact ev_str | with_reducible exact ea_nil
      | with_reducible apply ea_cons | with_reducible apply ev_cb | with_reducible apply ev_op | with_reducible apply ev_un | with_reducible apply ev_tup | with_reducible apply ev_lst
      | with_reducible apply et_test | with_reducible apply et_B | with_reducible apply et_not
      | exact od_add | exact od_sub | exact od_lt | exact od_le | exact od_gt | exact od_ge | exact ca_abs | exact ud_neg | exact od_ixT rfl | exact ca_lenT | exact ca_lenL
      | (show List.length _ ≤ 100000; simp; done)))
local macro_rules
  | `(tactic| get_elem_tactic_trivial) => `(tactic| repeat' (first | exact Fg.nil | apply Fg.same | apply Fg.drop))
section
variable {K : PySem.W.Frag} {E : XK} {ρ : Rho} {ta tb : TE} {ts tz : TS} {d : PyData}
theorem at_fr {fs : List Fr} {x : Int} (h0 : 0 ≤ x) (h1 : x < (fs.length : Int)) : atI (fs.map frD) x = some (frD (fs.getD x.toNat (0, 1))) := atI_of h0 (by
  have : x.toNat < fs.length := by omega
  simp [this])
theorem sum01 {row : List Int} (h : ∀ x ∈ row, x = 0 ∨ x = 1) : ∀ s : List Int, 0 ≤ sumM row s ∧ sumM row s ≤ s.length
  | [] => by simp [sumM]
  | a :: s => by
    have ih := sum01 h s
    have e : sumM row (a :: s) = row.getD a.toNat 0 + sumM row s := by simp [sumM]
    have hg : row.getD a.toNat 0 = 0 ∨ row.getD a.toNat 0 = 1 := by
      by_cases hl : a.toNat < row.length
      · rw [List.getD_eq_getElem?_getD, List.getElem?_eq_getElem hl]; exact h _ (List.getElem_mem hl)
      · left; simp [List.getD, List.getElem?_eq_none (by omega : row.length ≤ a.toNat)]
    rw [e, List.length_cons]
    omega
theorem getD_ok {fs : List Fr} (h : ∀ f ∈ fs, FrOk 600 f) (k : Nat) : FrOk 600 (fs.getD k (0, 1)) := by
  by_cases hl : k < fs.length
  · rw [List.getD_eq_getElem?_getD, List.getElem?_eq_getElem hl]; exact h _ (List.getElem_mem hl)
  · rw [List.getD, List.getElem?_eq_none (by omega)]; exact frOk0.mono (by omega)
theorem RoundIn.told {n : Int} {ss : List (List Int)} {fs : List Fr} {row : List Int} (h : RoundIn n ss fs row) {s : List Int} (hs : s ∈ ss) : FrOk 4208 (toldSum fs s) := by
  have hl := (h.fam.lots s hs).len h.fam.n7
  have := sumF_ok (n := 600) (s.map fun x => fs.getD x.toNat (0, 1)) 1 (0, 1) frOk0 (fun f hf => by obtain ⟨x, _, rfl⟩ := List.mem_map.mp hf; exact getD_ok h.fo _)
  refine FrOk.mono this ?_
  rw [List.length_map]
  have : s.length * (600 + 1) ≤ 7 * (600 + 1) := Nat.mul_le_mul_right _ hl
  omega
theorem RoundIn.sum {n : Int} {ss : List (List Int)} {fs : List Fr} {row : List Int} (h : RoundIn n ss fs row) {s : List Int} (hs : s ∈ ss) : FrOk 3 (sumM row s, 1) := by
  have hl := (h.fam.lots s hs).len h.fam.n7
  obtain ⟨h1, h2⟩ := sum01 h.ro s
  refine ⟨by show (0 : Int) < 1; decide, ?_, by show Bz 3 1; unfold Bz; decide⟩
  show Bz 3 (sumM row s)
  unfold Bz
  omega
theorem RoundIn.miss {n : Int} {ss : List (List Int)} {fs : List Fr} {row : List Int} (h : RoundIn n ss fs row) {s : List Int} (hs : s ∈ ss) : FrOk 4212 (missOf fs row s) := by
  have := (h.sum hs).plus (h.told hs).negative
  exact ⟨this.pos, this.top.abs, this.bot⟩
theorem miss_fold {n : Int} {ss : List (List Int)} {fs : List Fr} {row : List Int} (h : RoundIn n ss fs row) : FrOk 4212 (missM fs ss row) := by
  have : ∀ (l : List (List Int)) (b : Fr), (∀ s ∈ l, s ∈ ss) → FrOk 4212 b → FrOk 4212 (l.foldl (fun best s => if belowM best (missOf fs row s) then missOf fs row s else best) b) := by
    intro l
    induction l with
    | nil => exact fun b _ hb => hb
    | cons s l ih =>
      intro b hl hb
      rw [List.foldl_cons]
      refine ih _ (fun t ht => hl t (by simp [ht])) ?_
      split
      · exact h.miss (hl s (by simp))
      · exact hb
  exact this ss _ (fun _ h => h) (frOk0.mono (by omega))
theorem x_found_miss {n : Int} {ss : List (List Int)} {fs : List Fr} {row : List Int} (h : RoundIn n ss fs row) : ExS K E (t_found_miss K E) [some (famD n ss), some (.tuple (fs.map frD)), some (tI row), none, none, none, none, none, none] (.rt (frD (missM fs ss row))) := by
  refine xs_seq (xs_asg (d := frD (0, 1)) (ev_tup (ea_cons ev_int (ea_cons ev_int ea_nil)) (by simp))) (xs_seq (xs_foldI (I := fun _ b => FrOk 4212 b) ss tI (fun b => [some (famD n ss), some (.tuple (fs.map frD)), some (tI row), some (frD b), none, none, none, none, none]) (fun best s => if belowM best (missOf fs row s) then missOf fs row s else best) (0, 1) (it_seqT (ev_fam1 rfl)) (by get_elem_tactic_trivial) (frOk0.mono (by omega)) (fun i s b hs _ _ hb => ?_)) (xs_ret (ev_var rfl)))
  have hl := (h.fam.lots s hs).len h.fam.n7
  have hbd : ∀ x ∈ s, 0 ≤ x ∧ x < n := (h.fam.lots s hs).2.1
  have hm := h.miss hs
  refine ⟨by split <;> assumption, ?_⟩
  have e1 : EvD K (tCB (rSum K) (tCons (tLc (iSeq K (tVar 4)) (gName 7) tYes (tOp (rIx K) (tVar 2) (tVar 7)) [7]) tNil)) [some (famD n ss), some (.tuple (fs.map frD)), some (tI row), some (frD b), some (tI s), none, none, none, none] (.int (sumM row s)) :=
    ev_sumLc s .int (fun x => row.getD x.toNat 0) (it_seqT (ev_var rfl)) (by omega) (by simp) (fun x hx => ev_op (ev_var rfl) (ev_var rfl) (od_ixT (at_tI (hbd x hx).1 (by have := (hbd x hx).2; have := h.rl; omega))))
  have e2 : EvD K (tLc (iSeq K (tVar 4)) (gName 7) tYes (tOp (rIx K) (tVar 1) (tVar 7)) [7]) [some (famD n ss), some (.tuple (fs.map frD)), some (tI row), some (frD b), some (tI s), none, none, none, none] (.list ((s.map fun x => fs.getD x.toNat (0, 1)).map frD)) := by
    rw [List.map_map]
    exact ev_lcN s .int (fun x => frD (fs.getD x.toNat (0, 1))) (it_seqT (ev_var rfl)) (by omega) (by simp) (fun x hx => ev_op (ev_var rfl) (ev_var rfl) (od_ixT (at_fr (hbd x hx).1 (by have := (hbd x hx).2; have := h.fl; omega))))
  have e3 := ev_call (K := K) (E := E0) (ea_cons e2 ea_nil) (R := R_sum_of) ⟨600, s.map fun x => fs.getD x.toNat (0, 1), fun f hf => by obtain ⟨x, _, rfl⟩ := List.mem_map.mp hf; exact getD_ok h.fo _, by rw [List.length_map]; omega, by
      rw [List.length_map]
      have : (s.length + 1) * (600 + 1) ≤ 8 * (600 + 1) := Nat.mul_le_mul_right _ (by omega)
      omega, .inl rfl, rfl⟩
  refine ⟨_, xs_seq (ρ1 := [some (famD n ss), some (.tuple (fs.map frD)), some (tI row), some (frD b), some (tI s), some (.int (lessM (sumM row s, 1) (toldSum fs s)).1), some (.int (lessM (sumM row s, 1) (toldSum fs s)).2), none, none]) (xs_asgT (ev_call (ea_cons (ev_tup (ea_cons e1 (ea_cons ev_int ea_nil)) (by simp)) (ea_cons e3 ea_nil)) ⟨3, 4208, (sumM row s, 1), toldSum fs s, h.sum hs, h.told hs, by omega, rfl, rfl⟩) tg_two)
    (xs_seq (xs_asg (d := frD (missOf fs row s)) (ev_tup (ea_cons (ev_cb (ea_cons (ev_var rfl) ea_nil) ca_abs) (ea_cons (ev_var rfl) ea_nil)) (by simp)))
    (xs_asg (d := frD (if belowM b (missOf fs row s) then missOf fs row s else b)) (ev_if (b := belowM b (missOf fs row s)) (et_B (ev_call (ea_cons (ev_var rfl) (ea_cons (ev_var rfl) ea_nil)) ⟨4212, 4212, b, missOf fs row s, hb, hm, by omega, rfl, rfl⟩)) (fun z => by rw [if_pos z]; exact ev_var rfl) (fun z => by rw [if_neg (by rw [z]; decide)]; exact ev_var rfl)))), by get_elem_tactic_trivial⟩
theorem pure_found_miss {vs : List V} {H : Hp} {Q : VK} (hs : sp_found_miss K vs H Q E) : t_found_miss K E { nx := fun _ H' => Q .non H', rt := Q } (L2.start ["family", "told", "rounding", "best", "things", "top", "bottom", "thing", "one"] vs) H :=
  sp_body (fun ds o h => by obtain ⟨n, ss, fs, row, h, rfl, rfl⟩ := h; exact .inl (x_found_miss h)) hs
theorem all_01 {l : List PyData} (h : l.all (fun x => btw x 0 1) = true) : ∃ row : List Int, l = row.map .int ∧ ∀ x ∈ row, x = 0 ∨ x = 1 := by
  obtain ⟨h1, h2⟩ := all_btw h
  exact ⟨_, h1, fun x hx => by have := h2 x hx; omega⟩
theorem pure_miss {vs : List V} {H : Hp} {Q : VK} (hs : sp_miss K vs H Q E) : t_miss K E { nx := fun _ H' => Q .non H', rt := Q } (L2.start ["family", "told", "rounding", "one"] vs) H :=
  sp_body (R := R_miss K) (fun ds o h => by
    obtain ⟨hl, h⟩ := h
    match ds, hl with
    | [d0, d1, d2], _ =>
    rcases xs_toldX (E := E) (ρ := [some d0, some d1, some d2, none]) (i := 0) (j := 1) rfl rfl h with h | ⟨n, ss, fs, hF, rfl, rfl, hl, hf, hb, hd, hz, d, e, h1, h2, rfl⟩
    · exact .inl h
    · cases e
      refine .inl (xs_seq (xs_told hF hl hf hd hz rfl rfl) ?_)
      have h1' := ev_isTuple (K := K) (ρ := [some (famD n ss), some (.tuple (fs.map frD)), some d2, none]) (ta := tVar 2) (ev_var rfl) (sh_ty h1)
      cases d2 with
      | tuple l =>
        have h2' : EvT K (tTest (tOp (rNeD K) (tCB (rLenU K) (tCons (tVar 2) tNil)) (tOp (rIx K) (tVar 0) (tC (.int 0))))) [some (famD n ss), some (.tuple (fs.map frD)), some (.tuple l), none] (!decide ((l.length : Int) = n)) := by
          refine et_to (et_test (ev_op (ev_cb (ea_cons (ev_var rfl) ea_nil) ca_lenT) (ev_fam0 rfl) (od_ne (sh_int (n := 0)) (sh_int (n := 0))))) ?_
          rw [eqv_int]
        by_cases hln : (l.length : Int) = n
        · refine xs_seq (xs_ifF (et_to (et_orF (et_not (et_B h1')) h2') (by simp [hln])) xs_next) ?_
          have h3 := ev_all (K := K) (ρ := [some (famD n ss), some (.tuple (fs.map frD)), some (.tuple l), none]) (j := 3) (vs := [3]) (te := tCall (sp_is_between K) [] E0 (tCons (tVar 3) (tCons (tC (.int 0)) (tCons (tC (.int 1)) tNil)))) l (fun x => x) (fun x => btw x 0 1) (it_id (it_seqT (ev_var (i := 2) rfl))) (by have := h2 l rfl; omega) (by simp) (fun x hx => ev_call (ea_cons (ev_var rfl) (ea_cons ev_int (ea_cons ev_int ea_nil))) ⟨x, 0, 1, sh_ty (sub_sh h1 x hx), rfl, rfl⟩)
          have e : isRow n (.tuple l) = l.all (fun x => btw x 0 1) := by simp only [isRow, hln]; simp
          rw [e]
          cases ha : l.all (fun x => btw x 0 1) with
          | false => exact xs_seqX (xs_ifT (et_to (et_not (et_B h3)) (by rw [ha]; rfl)) xs_raiseF)
          | true =>
            obtain ⟨row, rfl, hr⟩ := all_01 ha
            rw [if_pos rfl]
            have et : tupOf (.tuple (row.map .int)) = row := tupOf_one row
            rw [et]
            exact xs_seq (xs_ifF (et_to (et_not (et_B h3)) (by rw [ha]; rfl)) xs_next) (xs_ret (ev_call (ea_cons (ev_var rfl) (ea_cons (ev_var rfl) (ea_cons (ev_var rfl) ea_nil))) ⟨n, ss, fs, row, ⟨hF, hl, hb, by rw [List.length_map] at hln; exact hln, hr⟩, rfl, rfl⟩))
        · have e : isRow n (.tuple l) = false := by simp only [isRow]; simp [hln]
          rw [e]
          exact xs_seqX (xs_ifT (et_to (et_orF (et_not (et_B h1')) h2') (by simp [hln])) xs_raiseF)
      | _ => exact xs_seqX (xs_ifT (et_orT (et_not (et_B h1'))) xs_raiseF)) hs
def bestO : Option (Fr × List Int) → PyData := bestD0
theorem row_in {n : Int} {ss : List (List Int)} {fs : List Fr} (hF : FamOk n ss) (hl : (fs.length : Int) = n) (hb : ∀ f ∈ fs, FrOk 600 f) {row : List Int} (hr : row ∈ rowsM [0, 1] n.toNat) : RoundIn n ss fs row := by
  obtain ⟨h1, h2⟩ := (rowsM_mem [0, 1] n.toNat row).mp hr
  have := hF.n1
  exact ⟨hF, hl, hb, by omega, fun x hx => by have := h2 x hx; simpa using this⟩
theorem x_found_best {n : Int} {ss : List (List Int)} {fs : List Fr} (hF : FamOk n ss) (hl : (fs.length : Int) = n) (hf : ∀ f ∈ fs, ToldOk f) (hb : ∀ f ∈ fs, FrOk 600 f) (hd : Sh 40 (.tuple (fs.map frD))) (hz : Short (.tuple (fs.map frD))) :
    ExS K E (t_found_best K E) [some (famD n ss), some (.tuple (fs.map frD)), none, none, none, none, none, none] (.rt (bestD (bestF n fs ss))) := by
  have h1 := hF.n1
  have h7 := hF.n7
  refine xs_seq (xs_told hF hl hf hd hz rfl rfl) (xs_seq (xs_asg (d := lD (rowsM [0, 1] 0)) (ev_lst (ea_cons (ev_tup ea_nil (by simp)) ea_nil) (by decide))) ?_)
  refine xs_seq (xs_rng (k := n.toNat) (fun i => [some (famD n ss), some (.tuple (fs.map frD)), some (lD (rowsM [0, 1] i)), none, none, none, none, none]) (it_rng1 (ev_fam0 rfl) (by omega)) (by get_elem_tactic_trivial) (fun i hi => ⟨_, xs_asg (ev_rows [0, 1] i (by omega) (by simp) (by decide) rfl rfl (by simp) (by simp) (fun r => ev_tup (ea_cons ev_int (ea_cons ev_int ea_nil)) (by simp))), by get_elem_tactic_trivial⟩)) ?_
  refine xs_seq (xs_asgT (ev_tup (ea_cons ev_non (ea_cons ev_non ea_nil)) (by simp)) tg_two) ?_
  refine xs_seq (xs_foldI (I := fun _ b => ∀ p, b = some p → FrOk 4212 p.1) (rowsM [0, 1] n.toNat) tI (fun b => [some (famD n ss), some (.tuple (fs.map frD)), some (lD (rowsM [0, 1] n.toNat)), none, none, none, some (bestD0 b), some (bestD1 b)]) (bestStep fs ss) none (it_seqL (ev_var rfl)) (by get_elem_tactic_trivial) (fun p e => by cases e) (fun i row b hr _ _ hI => ?_)) (xs_ret ?_)
  · have hm := miss_fold (row_in hF hl hb hr)
    have hc := ev_call (K := K) (E := E0) (ρ := [some (famD n ss), some (.tuple (fs.map frD)), some (lD (rowsM [0, 1] n.toNat)), none, some (tI row), none, some (bestD0 b), some (bestD1 b)]) (R := R_found_miss) (t := tCons (tVar 0) (tCons (tVar 1) (tCons (tVar 4) tNil))) (ea_cons (ev_var rfl) (ea_cons (ev_var rfl) (ea_cons (ev_var rfl) ea_nil))) ⟨n, ss, fs, row, row_in hF hl hb hr, rfl, rfl⟩
    cases b with
    | none =>
      refine ⟨fun p e => by cases e; exact hm, _, xs_seq (xs_asg hc) (xs_ifT (et_orT (et_to (et_test (ev_op (ev_var rfl) ev_non od_isN)) rfl)) (xs_par (ea_cons (ev_var rfl) (ea_cons (ev_var rfl) ea_nil)))), by get_elem_tactic_trivial⟩
    | some p =>
      have hp := hI p rfl
      have ht : EvT K (tOr (tTest (tOp rIsU (tVar 6) (tC .non))) (tB (tCall (sp_is_below K) [] E0 (tCons (tVar 5) (tCons (tVar 6) tNil))))) [some (famD n ss), some (.tuple (fs.map frD)), some (lD (rowsM [0, 1] n.toNat)), none, some (tI row), some (frD (missM fs ss row)), some (frD p.1), some (tI p.2)] (belowM (missM fs ss row) p.1) :=
        et_orF (et_to (et_test (ev_op (ev_var rfl) ev_non od_isN)) rfl) (et_B (ev_call (ea_cons (ev_var rfl) (ea_cons (ev_var rfl) ea_nil)) ⟨4212, 4212, missM fs ss row, p.1, hm, hp, by omega, rfl, rfl⟩))
      cases hbl : belowM (missM fs ss row) p.1 with
      | true =>
        have e : bestStep fs ss (some p) row = some (missM fs ss row, row) := by simp only [bestStep, hbl, if_true]
        rw [e]
        exact ⟨fun p e => by cases e; exact hm, _, xs_seq (xs_asg hc) (xs_ifT (et_to ht hbl) (xs_par (ea_cons (ev_var rfl) (ea_cons (ev_var rfl) ea_nil)))), by get_elem_tactic_trivial⟩
      | false =>
        have e : bestStep fs ss (some p) row = some p := by simp only [bestStep, hbl]; rfl
        rw [e]
        exact ⟨hI, _, xs_seq (xs_asg hc) (xs_ifF (et_to ht hbl) xs_next), by get_elem_tactic_trivial⟩
  · have e : bestD (bestF n fs ss) = .tuple [bestD0 (bestF n fs ss), bestD1 (bestF n fs ss)] := by cases bestF n fs ss <;> rfl
    rw [e]
    exact ev_tup (ea_cons (ev_var rfl) (ea_cons (ev_var rfl) ea_nil)) (by simp)
theorem pure_found_best {vs : List V} {H : Hp} {Q : VK} (hs : sp_found_best K vs H Q E) : t_found_best K E { nx := fun _ H' => Q .non H', rt := Q } (L2.start ["family", "told", "rows", "thing", "row", "one", "best", "found"] vs) H :=
  sp_body (R := R_best K bestD) (fun ds o h => by
    obtain ⟨hl, h⟩ := h
    match ds, hl with
    | [d0, d1], _ =>
    rcases xs_toldX (E := E) (ρ := [some d0, some d1, none, none, none, none, none, none]) (i := 0) (j := 1) rfl rfl h with h | ⟨n, ss, fs, hF, rfl, rfl, hl, hf, hb, hd, hz, _, rfl⟩
    · exact .inl h
    · exact .inl (x_found_best hF hl hf hb hd hz)) hs
theorem R_best_map {f : Option (Fr × List Int) → PyData} {ds : List PyData} {o : Out} (h : R_best K f ds o) : (∃ C, o = .ex C ∧ R_best K bestD ds (.ex C)) ∨ ∃ b, o = .rt (f b) ∧ R_best K bestD ds (.rt (bestD b)) := by
  obtain ⟨hl, d, r, rfl, h⟩ := h
  rcases h with ⟨h1, h2, h3, rfl⟩ | ⟨n, ss, hF, rfl, d', q, rfl, h1, h2, h⟩
  · exact .inl ⟨_, rfl, hl, _, _, rfl, .inl ⟨h1, h2, h3, rfl⟩⟩
  · rcases h with ⟨h3, rfl⟩ | ⟨fs, rfl, hfl, hf, hb, rfl, rfl⟩
    · exact .inl ⟨_, rfl, hl, _, _, rfl, .inr ⟨n, ss, hF, rfl, d', q, rfl, h1, h2, .inl ⟨h3, rfl⟩⟩⟩
    · exact .inr ⟨_, rfl, hl, _, _, rfl, .inr ⟨n, ss, hF, rfl, _, _, rfl, h1, h2, .inr ⟨fs, rfl, hfl, hf, hb, rfl, rfl⟩⟩⟩
theorem pure_least_miss {vs : List V} {H : Hp} {Q : VK} (hs : sp_least_miss K vs H Q E) : t_least_miss K E { nx := fun _ H' => Q .non H', rt := Q } (L2.start ["family", "told"] vs) H :=
  sp_body (R := R_best K bestD0) (fun ds o h => by
    match ds, h.1 with
    | [d0, d1], _ =>
    rcases R_best_map h with ⟨C, rfl, k⟩ | ⟨b, rfl, k⟩
    · exact .inl (xs_retX (ex_op (ex_call (ea_cons (ev_var rfl) (ea_cons (ev_var rfl) ea_nil)) k)))
    · refine .inl (xs_ret (ev_op (ev_call (ea_cons (ev_var rfl) (ea_cons (ev_var rfl) ea_nil)) k) ev_int ?_))
      cases b <;> exact od_ixT rfl) hs
theorem pure_rounded {vs : List V} {H : Hp} {Q : VK} (hs : sp_rounded K vs H Q E) : t_rounded K E { nx := fun _ H' => Q .non H', rt := Q } (L2.start ["family", "told"] vs) H :=
  sp_body (R := R_best K bestD1) (fun ds o h => by
    match ds, h.1 with
    | [d0, d1], _ =>
    rcases R_best_map h with ⟨C, rfl, k⟩ | ⟨b, rfl, k⟩
    · exact .inl (xs_retX (ex_op (ex_call (ea_cons (ev_var rfl) (ea_cons (ev_var rfl) ea_nil)) k)))
    · refine .inl (xs_ret (ev_op (ev_call (ea_cons (ev_var rfl) (ea_cons (ev_var rfl) ea_nil)) k) ev_int ?_))
      cases b <;> exact od_ixT rfl) hs
end
end Lc

set_option Elab.async false
set_option linter.all false
set_option maxRecDepth 100000
set_option maxHeartbeats 4000000
namespace Lc
/-! ### equitable colours from splits (plain) -/
def sm (f : Int → Int) (r : List Int) : Int := (r.map f).sum
def sr (q : Nat) (h : Nat → Int) : Int := ((List.range q).map h).sum
theorem sm_cons (f : Int → Int) (a : Int) (r : List Int) : sm f (a :: r) = f a + sm f r := by simp [sm]
theorem sm_add (f g : Int → Int) : ∀ r : List Int, sm (fun x => f x + g x) r = sm f r + sm g r
  | [] => rfl
  | a :: r => by rw [sm_cons, sm_cons, sm_cons, sm_add f g r]; omega
theorem sm_sub (f g : Int → Int) : ∀ r : List Int, sm (fun x => f x - g x) r = sm f r - sm g r
  | [] => rfl
  | a :: r => by rw [sm_cons, sm_cons, sm_cons, sm_sub f g r]; omega
theorem sm_congr {f g : Int → Int} : ∀ {r : List Int}, (∀ x ∈ r, f x = g x) → sm f r = sm g r
  | [], _ => rfl
  | a :: r, h => by rw [sm_cons, sm_cons, h a (by simp), sm_congr (fun x hx => h x (by simp [hx]))]
theorem sr_succ (q : Nat) (h : Nat → Int) : sr (q + 1) h = sr q h + h q := by simp [sr, List.range_succ]
theorem sr_congr {g h : Nat → Int} : ∀ {q : Nat}, (∀ c, c < q → g c = h c) → sr q g = sr q h
  | 0, _ => rfl
  | q + 1, k => by rw [sr_succ, sr_succ, k q (by omega), sr_congr (q := q) (fun c hc => k c (by omega))]
theorem sr_add (g h : Nat → Int) : ∀ q : Nat, sr q (fun c => g c + h c) = sr q g + sr q h
  | 0 => rfl
  | q + 1 => by rw [sr_succ, sr_succ, sr_succ, sr_add g h q]; omega
theorem sr_le {g h : Nat → Int} : ∀ {q : Nat}, (∀ c, c < q → g c ≤ h c) → sr q g ≤ sr q h
  | 0, _ => Int.le_refl _
  | q + 1, k => by
    rw [sr_succ, sr_succ]
    have := k q (by omega)
    have := sr_le (q := q) (fun c hc => k c (by omega))
    omega
theorem sr_const (x : Int) : ∀ q : Nat, sr q (fun _ => x) = q * x
  | 0 => by simp [sr]
  | q + 1 => by rw [sr_succ, sr_const x q]; grind
theorem sr_one {a : Nat} (y : Int) : ∀ {q : Nat}, a < q → sr q (fun c => if c = a then y else 0) = y
  | 0, h => by omega
  | q + 1, h => by
    rw [sr_succ]
    by_cases e : a = q
    · subst e
      rw [if_pos rfl, sr_congr (h := fun _ => 0) (fun c hc => if_neg (by omega)), sr_const]; simp
    · rw [if_neg (by omega), sr_one y (by omega)]; omega
theorem sr_split {q a b : Nat} (h : Nat → Int) (ha : a < q) (hb : b < q) (hab : a ≠ b) : sr q h = h a + h b + sr q (fun c => if c = a ∨ c = b then 0 else h c) := by
  have e : sr q h = sr q (fun c => (if c = a then h a else 0) + ((if c = b then h b else 0) + (if c = a ∨ c = b then 0 else h c))) := sr_congr fun c hc => by
    by_cases h1 : c = a
    · subst h1; simp [hab]
    · by_cases h2 : c = b
      · subst h2; simp [h1]
      · simp [h1, h2]
  rw [e, sr_add, sr_add, sr_one _ ha, sr_one _ hb]; omega
theorem sum_lt {α : Type} {f g : α → Int} : ∀ {R : List α}, (∀ r ∈ R, f r ≤ g r) → (∃ r ∈ R, f r < g r) → (R.map f).sum < (R.map g).sum
  | [], _, h => by obtain ⟨r, hr, _⟩ := h; simp at hr
  | a :: R, h, hx => by
    have h1 := h a (by simp)
    have h2 : (R.map f).sum ≤ (R.map g).sum := by
      clear hx h1
      induction R with
      | nil => simp
      | cons b R ih =>
        have := h b (by simp)
        have := ih (fun r hr => h r (by rcases List.mem_cons.mp hr with z | z <;> simp [z]))
        simp only [List.map_cons, List.sum_cons]; omega
    simp only [List.map_cons, List.sum_cons]
    obtain ⟨r, hr, hlt⟩ := hx
    rcases List.mem_cons.mp hr with z | z
    · subst z; omega
    · have := sum_lt (R := R) (fun r hr => h r (by simp [hr])) ⟨r, z, hlt⟩
      omega
/-- each lot can be split evenly for the rows R -/
def Her (R : List (List Int)) : Prop := ∀ L : Int → Bool, ∃ c : Int → Int, (∀ x, L x = true → c x = 1 ∨ c x = -1) ∧ (∀ x, L x = false → c x = 0) ∧ ∀ r ∈ R, -1 ≤ sm c r ∧ sm c r ≤ 1
def phi (R : List (List Int)) (q : Nat) (M : Int → Nat → Int) : Int := (R.map fun r => sr q fun c => sm (M · c) r * sm (M · c) r).sum
theorem phi_nonneg (R : List (List Int)) (q : Nat) (M : Int → Nat → Int) : 0 ≤ phi R q M := by
  unfold phi
  induction R with
  | nil => simp
  | cons r R ih =>
    simp only [List.map_cons, List.sum_cons]
    have : 0 ≤ sr q fun c => sm (M · c) r * sm (M · c) r := by
      have := sr_le (q := q) (g := fun _ => 0) (h := fun c => sm (M · c) r * sm (M · c) r) (fun c _ => by
        rcases Int.le_total 0 (sm (M · c) r) with h | h
        · exact Int.mul_nonneg h h
        · exact Int.mul_nonneg_of_nonpos_of_nonpos h h)
      rw [sr_const] at this; simpa using this
    omega
theorem two_sq {x y u v : Int} (h : x + y = u + v) (h1 : u - v ≤ 1) (h2 : -1 ≤ u - v) : u * u + v * v ≤ x * x + y * y ∧ (y + 2 ≤ x → u * u + v * v < x * x + y * y) := by
  -- 2 (x² + y²) = (x + y)² + (x - y)²
  have e1 : 2 * (x * x + y * y) = (x + y) * (x + y) + (x - y) * (x - y) := by grind
  have e2 : 2 * (u * u + v * v) = (x + y) * (x + y) + (u - v) * (u - v) := by rw [h]; grind
  have hu : (u - v) * (u - v) ≤ 1 := by
    have : u - v = -1 ∨ u - v = 0 ∨ u - v = 1 := by omega
    rcases this with e | e | e <;> rw [e] <;> decide
  have hpar : (u - v) % 2 = (x - y) % 2 := by omega
  have hx : (u - v) * (u - v) ≤ (x - y) * (x - y) := by
    by_cases h0 : x - y = 0
    · have : u - v = 0 := by omega
      rw [this, h0]; decide
    · have : 1 ≤ (x - y) * (x - y) := by
        rcases Int.lt_or_gt_of_ne h0 with k | k
        · have h1 : (1 : Int) ≤ y - x := by omega
          have := Int.mul_le_mul h1 h1 (by decide) (by omega)
          have e : (x - y) * (x - y) = (y - x) * (y - x) := by grind
          omega
        · have := Int.mul_le_mul_of_nonneg_right (a := 1) (b := x - y) (c := x - y) (by omega) (by omega)
          omega
      omega
  refine ⟨by omega, fun hlt => ?_⟩
  have : 4 ≤ (x - y) * (x - y) := by
    have h2 : 2 ≤ x - y := by omega
    have := Int.mul_le_mul h2 h2 (by decide) (by omega)
    omega
  omega
theorem equit (R : List (List Int)) (hR : Her R) (q : Nat) (p : Int → Int) : ∀ (N : Nat) (M : Int → Nat → Int), phi R q M ≤ N → (∀ x c, 0 ≤ M x c) → (∀ x, sr q (M x) = p x) →
    ∃ M : Int → Nat → Int, (∀ x c, 0 ≤ M x c) ∧ (∀ x, sr q (M x) = p x) ∧ ∀ r ∈ R, ∀ a b, a < q → b < q → sm (M · a) r ≤ sm (M · b) r + 1
  | N, M, hN, h0, hp => by
    by_cases hbal : ∀ r ∈ R, ∀ a b, a < q → b < q → sm (M · a) r ≤ sm (M · b) r + 1
    · exact ⟨M, h0, hp, hbal⟩
    · obtain ⟨r0, hr0, a, b, ha, hb, hlt⟩ : ∃ r ∈ R, ∃ a b, a < q ∧ b < q ∧ sm (M · b) r + 2 ≤ sm (M · a) r := by
        apply Classical.byContradiction
        intro hn
        apply hbal
        intro r hr a b ha hb
        apply Classical.byContradiction
        intro hc
        exact hn ⟨r, hr, a, b, ha, hb, by omega⟩
      have hab : a ≠ b := fun e => by subst e; omega
      obtain ⟨c, hc1, hc0, hcR⟩ := hR (fun x => decide ((M x a + M x b) % 2 = 1))
      have hcv : ∀ x, (M x a + M x b + c x) % 2 = 0 ∧ -1 ≤ c x ∧ c x ≤ 1 ∧ (M x a + M x b = 0 → c x = 0) := fun x => by
        by_cases ho : (M x a + M x b) % 2 = 1
        · rcases hc1 x (by simpa using ho) with e | e <;> rw [e] <;> exact ⟨by omega, by omega, by omega, fun z => by omega⟩
        · have := hc0 x (by simpa using ho)
          rw [this]; exact ⟨by omega, by omega, by omega, fun _ => rfl⟩
      let M' : Int → Nat → Int := fun x d => if d = a then (M x a + M x b + c x) / 2 else if d = b then (M x a + M x b - c x) / 2 else M x d
      have eA : ∀ x, M' x a = (M x a + M x b + c x) / 2 := fun x => if_pos rfl
      have eB : ∀ x, M' x b = (M x a + M x b - c x) / 2 := fun x => by
        show (if b = a then _ else _) = _
        rw [if_neg (fun e => hab e.symm), if_pos rfl]
      have eO : ∀ x d, d ≠ a → d ≠ b → M' x d = M x d := fun x d h1 h2 => by
        show (if d = a then _ else if d = b then _ else _) = _
        rw [if_neg h1, if_neg h2]
      have hsum : ∀ x, M' x a + M' x b = M x a + M x b := fun x => by have := hcv x; rw [eA, eB]; omega
      have hdif : ∀ x, M' x a - M' x b = c x := fun x => by have := hcv x; rw [eA, eB]; omega
      have rowS : ∀ r, sm (M' · a) r + sm (M' · b) r = sm (M · a) r + sm (M · b) r := fun r => by
        rw [← sm_add, ← sm_add]; exact sm_congr fun x _ => hsum x
      have rowD : ∀ r, sm (M' · a) r - sm (M' · b) r = sm c r := fun r => by
        rw [← sm_sub]; exact sm_congr fun x _ => hdif x
      have rowO : ∀ r d, d ≠ a → d ≠ b → sm (M' · d) r = sm (M · d) r := fun r d h1 h2 => sm_congr fun x _ => eO x d h1 h2
      have key : ∀ r ∈ R, (sr q fun d => sm (M' · d) r * sm (M' · d) r) ≤ (sr q fun d => sm (M · d) r * sm (M · d) r) ∧ (sm (M · b) r + 2 ≤ sm (M · a) r → (sr q fun d => sm (M' · d) r * sm (M' · d) r) < (sr q fun d => sm (M · d) r * sm (M · d) r)) := fun r hr => by
        rw [sr_split (fun d => sm (M' · d) r * sm (M' · d) r) ha hb hab, sr_split (fun d => sm (M · d) r * sm (M · d) r) ha hb hab]
        have e : sr q (fun d => if d = a ∨ d = b then 0 else sm (M' · d) r * sm (M' · d) r) = sr q (fun d => if d = a ∨ d = b then 0 else sm (M · d) r * sm (M · d) r) := sr_congr fun d _ => by
          by_cases h : d = a ∨ d = b
          · rw [if_pos h, if_pos h]
          · rw [if_neg h, if_neg h, rowO r d (fun z => h (.inl z)) (fun z => h (.inr z))]
        rw [e]
        have h1 := rowD r
        have h2 := hcR r hr
        obtain ⟨k1, k2⟩ := two_sq (x := sm (M · a) r) (y := sm (M · b) r) (u := sm (M' · a) r) (v := sm (M' · b) r) (rowS r).symm (by omega) (by omega)
        exact ⟨by omega, fun z => by have := k2 z; omega⟩
      have hphi : phi R q M' < phi R q M := sum_lt (fun r hr => (key r hr).1) ⟨r0, hr0, (key r0 hr0).2 hlt⟩
      have hge := phi_nonneg R q M'
      cases N with
      | zero => omega
      | succ N =>
        exact equit R hR q p N M' (by omega) (fun x d => by
          have := hcv x
          have h1 := h0 x a
          have h2 := h0 x b
          by_cases e1 : d = a
          · subst e1; rw [eA]; omega
          · by_cases e2 : d = b
            · subst e2; rw [eB]; omega
            · rw [eO x d e1 e2]; exact h0 x d) (fun x => by
          rw [sr_split (M' x) ha hb hab, ← hp x, sr_split (M x) ha hb hab, hsum x, sr_congr (h := fun d => if d = a ∨ d = b then 0 else M x d) (fun d _ => by
            by_cases h : d = a ∨ d = b
            · rw [if_pos h, if_pos h]
            · rw [if_neg h, if_neg h, eO x d (fun z => h (.inl z)) (fun z => h (.inr z))])])
/-- fractions p / q are rounded evenly -/
theorem round_even (R : List (List Int)) (hR : Her R) (q : Nat) (hq : 0 < q) (p : Int → Int) (hp : ∀ x, 0 ≤ p x ∧ p x ≤ q) : ∃ x : Int → Int, (∀ j, x j = 0 ∨ x j = 1) ∧ ∀ r ∈ R, q * sm x r < sm p r + q ∧ sm p r < q * sm x r + q := by
  have hR' : Her (R ++ (R.flatten.map fun j => [j])) := fun L => by
    obtain ⟨c, h1, h2, h3⟩ := hR L
    refine ⟨c, h1, h2, fun r hr => ?_⟩
    rcases List.mem_append.mp hr with z | z
    · exact h3 r z
    · obtain ⟨j, _, rfl⟩ := List.mem_map.mp z
      have : sm c [j] = c j := by simp [sm]
      rw [this]
      cases hL : L j with
      | true => rcases h1 j hL with e | e <;> rw [e] <;> decide
      | false => rw [h2 j hL]; decide
  let M0 : Int → Nat → Int := fun x c => if c = 0 then p x else 0
  obtain ⟨M, h0, hs, hb⟩ := equit _ hR' q p (phi (R ++ (R.flatten.map fun j => [j])) q M0).toNat M0 (by have := phi_nonneg (R ++ (R.flatten.map fun j => [j])) q M0; omega) (fun x c => by
    show 0 ≤ if c = 0 then p x else 0
    split
    · exact (hp x).1
    · exact Int.le_refl _) (fun x => sr_one (p x) hq)
  have swap : ∀ r, sr q (fun c => sm (M · c) r) = sm p r := by
    intro r
    induction r with
    | nil =>
      have : sr q (fun c => sm (M · c) []) = sr q (fun _ => 0) := rfl
      rw [this, sr_const]; simp [sm]
    | cons j r ih =>
      have : sr q (fun c => sm (M · c) (j :: r)) = sr q (fun c => M j c + sm (M · c) r) := sr_congr fun c _ => sm_cons _ _ _
      rw [this, sr_add, hs, ih, sm_cons]
  have near : ∀ r ∈ R ++ (R.flatten.map fun j => [j]), q * sm (M · 0) r < sm p r + q ∧ sm p r < q * sm (M · 0) r + q := fun r hr => by
    have hq0 : sr q (fun c => sm (M · c) r - sm (M · 0) r) = sm p r - q * sm (M · 0) r := by
      have e : sr q (fun c => (sm (M · c) r - sm (M · 0) r) + sm (M · 0) r) = sr q (fun c => sm (M · c) r) := sr_congr fun c _ => by omega
      rw [sr_add, sr_const, swap] at e
      omega
    -- the first term is 0
    obtain ⟨m, rfl⟩ : ∃ m, q = m + 1 := ⟨q - 1, by omega⟩
    have shift : ∀ (k : Nat) (h : Nat → Int), sr (k + 1) h = h 0 + sr k (fun c => h (c + 1)) := by
      intro k h
      induction k with
      | zero => simp [sr]
      | succ k ih => rw [sr_succ, ih, sr_succ]; omega
    rw [shift] at hq0
    have u : sr m (fun c => sm (M · (c + 1)) r - sm (M · 0) r) ≤ m * 1 := by
      rw [← sr_const]
      exact sr_le fun c hc => by have := hb r hr (c + 1) 0 (by omega) (by omega); omega
    have l : m * (-1) ≤ sr m (fun c => sm (M · (c + 1)) r - sm (M · 0) r) := by
      rw [← sr_const]
      exact sr_le fun c hc => by have := hb r hr 0 (c + 1) (by omega) (by omega); omega
    have em : ((m + 1 : Nat) : Int) = m + 1 := by omega
    rw [em] at hq0 ⊢
    constructor <;> omega
  refine ⟨fun j => if j ∈ R.flatten then M j 0 else 0, fun j => ?_, fun r hr => ?_⟩
  · by_cases hj : j ∈ R.flatten
    · simp only [if_pos hj]
      have := near [j] (List.mem_append_right _ (List.mem_map.mpr ⟨j, hj, rfl⟩))
      have e1 : sm (M · 0) [j] = M j 0 := by simp [sm]
      have e2 : sm p [j] = p j := by simp [sm]
      rw [e1, e2] at this
      have hpj := hp j
      have h2 : (q : Int) * M j 0 < q * 2 := by omega
      have h3 : M j 0 < 2 := Int.lt_of_mul_lt_mul_left h2 (by omega)
      have := h0 j 0
      omega
    · exact .inl (if_neg hj)
  · have e : sm (fun j => if j ∈ R.flatten then M j 0 else 0) r = sm (M · 0) r := sm_congr fun j hj => if_pos (List.mem_flatten.mpr ⟨r, hr, hj⟩)
    rw [e]
    exact near r (List.mem_append_left _ hr)
end Lc

set_option Elab.async false
set_option linter.all false
set_option maxRecDepth 100000
set_option maxHeartbeats 4000000
namespace Lc
open PySem L2 PySem.Spec PyProof.Rows
/-! ### fractions as rationals -/
def vF (p : Fr) : Rat := (p.1 : Rat) / (p.2 : Rat)
theorem rpos {b : Int} (h : 0 < b) : (0 : Rat) < (b : Rat) := by
  have := (Rat.intCast_lt_intCast (a := 0) (b := b)).mpr h
  simpa using this
theorem rne {b : Int} (h : 0 < b) : (b : Rat) ≠ 0 := fun e => by have := rpos h; rw [e] at this; exact absurd this (by decide)
theorem vF_frac {t b : Int} (hb : 0 < b) : vF (fracM t b) = (t : Rat) / (b : Rat) := by
  have hg := gcdI_pos (a := t) hb
  obtain ⟨c, hc⟩ := gcdI_dvd1 (a := t) (b := b)
  obtain ⟨d, hd⟩ := gcdI_dvd2 (a := t) (b := b)
  have e1 : t / gcdI t b = c := by
    have := Int.mul_ediv_cancel_left c (show gcdI t b ≠ 0 by omega)
    rw [← hc] at this; exact this
  have e2 : b / gcdI t b = d := by
    have := Int.mul_ediv_cancel_left d (show gcdI t b ≠ 0 by omega)
    rw [← hd] at this; exact this
  have hgr := rne hg
  have hdr : (d : Rat) ≠ 0 := fun e => by
    have h2 : (b : Rat) = 0 := by rw [hd, Rat.intCast_mul, e]; grind
    exact rne hb h2
  unfold vF fracM
  show ((t / gcdI t b : Int) : Rat) / ((b / gcdI t b : Int) : Rat) = _
  rw [e1, e2]
  have h3 : (t : Rat) = (gcdI t b : Rat) * c := by rw [← Rat.intCast_mul, ← hc]
  have h4 : (b : Rat) = (gcdI t b : Rat) * d := by rw [← Rat.intCast_mul, ← hd]
  rw [h3, h4]
  generalize (gcdI t b : Rat) = g at *
  grind
def Fp (p : Fr) : Prop := 0 < p.2
theorem FrOk.fp {n : Nat} {p : Fr} (h : FrOk n p) : Fp p := h.pos
theorem fp01 : Fp (0, 1) := (by decide : (0 : Int) < 1)
theorem fp_frac {t b : Int} (hb : 0 < b) : Fp (fracM t b) := (frac_ok (n := t.natAbs + b.natAbs) hb (Nat.lt_of_lt_of_le Nat.lt_two_pow_self (Nat.pow_le_pow_right (by decide) (by omega))) (Nat.lt_of_lt_of_le Nat.lt_two_pow_self (Nat.pow_le_pow_right (by decide) (by omega)))).pos
theorem fp_plus {p q : Fr} (hp : Fp p) (hq : Fp q) : Fp (plusM p q) := fp_frac (Int.mul_pos hp hq)
theorem fp_neg {p : Fr} (hp : Fp p) : Fp (negM p) := hp
theorem fp_less {p q : Fr} (hp : Fp p) (hq : Fp q) : Fp (lessM p q) := fp_plus hp (fp_neg hq)
theorem fp_abs {p : Fr} (hp : Fp p) : Fp (absF p) := hp
theorem fp_times {p q : Fr} (hp : Fp p) (hq : Fp q) : Fp (timesM p q) := fp_frac (Int.mul_pos hp hq)
theorem vF_plus {p q : Fr} (hp : Fp p) (hq : Fp q) : vF (plusM p q) = vF p + vF q := by
  unfold plusM
  rw [vF_frac (Int.mul_pos hp hq)]
  have h1 := rne hp
  have h2 := rne hq
  unfold vF
  rw [Rat.intCast_add, Rat.intCast_mul, Rat.intCast_mul, Rat.intCast_mul]
  grind
theorem vF_times {p q : Fr} (hp : Fp p) (hq : Fp q) : vF (timesM p q) = vF p * vF q := by
  unfold timesM
  rw [vF_frac (Int.mul_pos hp hq)]
  have h1 := rne hp
  have h2 := rne hq
  unfold vF
  rw [Rat.intCast_mul, Rat.intCast_mul]
  grind
theorem vF_neg (p : Fr) : vF (negM p) = -vF p := by
  unfold vF negM
  show ((-p.1 : Int) : Rat) / _ = _
  rw [Rat.intCast_neg]
  grind
theorem vF_less {p q : Fr} (hp : Fp p) (hq : Fp q) : vF (lessM p q) = vF p - vF q := by
  unfold lessM
  rw [vF_plus hp (fp_neg hq), vF_neg]
  grind
theorem vF_lt {p q : Fr} (hp : Fp p) (hq : Fp q) : (vF p < vF q) ↔ p.1 * q.2 < q.1 * p.2 := by
  unfold vF
  have h1 := rpos hp
  have h2 := rpos hq
  rw [Rat.div_lt_iff h1]
  have e : (q.1 : Rat) / q.2 * p.2 = ((q.1 : Rat) * p.2) / q.2 := by grind
  rw [e, Rat.lt_div_iff h2, ← Rat.intCast_mul, ← Rat.intCast_mul, Rat.intCast_lt_intCast]
theorem below_iff {p q : Fr} (hp : Fp p) (hq : Fp q) : belowM p q = true ↔ vF p < vF q := by
  rw [vF_lt hp hq]; simp [belowM]
theorem below_no {p q : Fr} (hp : Fp p) (hq : Fp q) : belowM p q = false ↔ vF q ≤ vF p := by
  have := below_iff hp hq
  cases h : belowM p q with
  | true => rw [h] at this; simp; have := this.mp rfl; grind
  | false =>
    rw [h] at this
    simp only [Bool.false_eq_true, false_iff] at this
    simp
    grind
theorem vF_int (i : Int) : vF (i, 1) = (i : Rat) := by unfold vF; show (i : Rat) / ((1 : Int) : Rat) = _; grind
theorem vF_zero : vF (0, 1) = 0 := by rw [vF_int]; rfl
theorem vF_one : vF (1, 1) = 1 := by rw [vF_int]; rfl
theorem vF_nonneg {p : Fr} (hp : Fp p) (h : 0 ≤ p.1) : 0 ≤ vF p := by
  have := (below_no (p := p) (q := (0, 1)) hp fp01).mp (by simp [belowM]; omega)
  rw [vF_zero] at this; exact this
theorem vF_nonpos {p : Fr} (hp : Fp p) (h : p.1 ≤ 0) : vF p ≤ 0 := by
  have := (below_no (p := (0, 1)) (q := p) fp01 hp).mp (by simp [belowM]; omega)
  rw [vF_zero] at this; exact this
theorem vF_abs {p : Fr} (hp : Fp p) : vF p ≤ vF (absF p) ∧ -vF p ≤ vF (absF p) ∧ (vF (absF p) = vF p ∨ vF (absF p) = -vF p) := by
  have e : absF p = p ∨ absF p = negM p := by
    rcases Int.le_total 0 p.1 with h | h
    · left; unfold absF; rw [Int.natAbs_of_nonneg h]
    · right; unfold absF negM; have : (p.1.natAbs : Int) = -p.1 := by omega
      rw [this]
  rcases Int.le_total 0 p.1 with h | h
  · have hv := vF_nonneg hp h
    have : absF p = p := by unfold absF; rw [Int.natAbs_of_nonneg h]
    rw [this]; grind
  · have hv := vF_nonpos hp h
    have : absF p = negM p := by unfold absF negM; have : (p.1.natAbs : Int) = -p.1 := by omega
                                 rw [this]
    rw [this, vF_neg]; grind
theorem fp_fold : ∀ (fs : List Fr) (p : Fr), Fp p → (∀ f ∈ fs, Fp f) → Fp (fs.foldl plusM p)
  | [], p, hp, _ => hp
  | f :: fs, p, hp, h => fp_fold fs _ (fp_plus hp (h f (by simp))) (fun g hg => h g (by simp [hg]))
theorem vF_fold : ∀ (fs : List Fr) (p : Fr), Fp p → (∀ f ∈ fs, Fp f) → vF (fs.foldl plusM p) = vF p + (fs.map vF).sum
  | [], p, hp, _ => by simp; grind
  | f :: fs, p, hp, h => by
    rw [List.foldl_cons, vF_fold fs _ (fp_plus hp (h f (by simp))) (fun g hg => h g (by simp [hg])), vF_plus hp (h f (by simp)), List.map_cons, List.sum_cons]
    grind
theorem fp_sum {fs : List Fr} (h : ∀ f ∈ fs, Fp f) : Fp (sumF fs) := fp_fold fs _ fp01 h
theorem vF_sum {fs : List Fr} (h : ∀ f ∈ fs, Fp f) : vF (sumF fs) = (fs.map vF).sum := by
  unfold sumF
  rw [vF_fold fs _ fp01 h, vF_zero]; grind
/-! lowest terms -/
def Low (p : Fr) : Prop := 0 < p.2 ∧ gcdI p.1 p.2 = 1
theorem low_frac {t b : Int} (hb : 0 < b) : Low (fracM t b) := by
  refine ⟨fp_frac hb, ?_⟩
  show gcdI (t / gcdI t b) (b / gcdI t b) = 1
  unfold gcdI
  have : 0 < Int.gcd t b := Int.gcd_pos_of_ne_zero_right t (by omega)
  rw [Int.gcd_ediv_gcd_ediv_gcd this]; rfl
theorem low_plus {p q : Fr} (hp : Fp p) (hq : Fp q) : Low (plusM p q) := low_frac (Int.mul_pos hp hq)
theorem low_less {p q : Fr} (hp : Fp p) (hq : Fp q) : Low (lessM p q) := low_plus hp (fp_neg hq)
theorem low_times {p q : Fr} (hp : Fp p) (hq : Fp q) : Low (timesM p q) := low_frac (Int.mul_pos hp hq)
theorem low_abs {p : Fr} (h : Low p) : Low (absF p) := ⟨h.1, by
  have := h.2
  unfold absF gcdI at *
  show ((Int.gcd (p.1.natAbs : Int) p.2 : Nat) : Int) = 1
  rw [← this]
  congr 1⟩
theorem low_int (i : Int) : Low (i, 1) := ⟨by show (0 : Int) < 1; decide, by unfold gcdI; show ((Int.gcd i 1 : Nat) : Int) = 1; rw [Int.gcd_one]; rfl⟩
theorem cop_dvd {a b c : Int} (h : a ∣ b * c) (hg : gcdI b a = 1) : a ∣ c := by
  have h1 := Int.natAbs_dvd_natAbs.mpr h
  rw [Int.natAbs_mul] at h1
  refine Int.natAbs_dvd_natAbs.mp (Nat.Coprime.dvd_of_dvd_mul_left ?_ h1)
  unfold gcdI at hg
  have : Int.gcd b a = 1 := by omega
  rw [Int.gcd_comm] at this
  exact this
theorem low_inj {p q : Fr} (hp : Low p) (hq : Low q) (h : vF p = vF q) : p = q := by
  have e : p.1 * q.2 = q.1 * p.2 := by
    have a := (vF_lt hp.1 hq.1)
    have b := (vF_lt hq.1 hp.1)
    have h1 : ¬ p.1 * q.2 < q.1 * p.2 := fun z => by have := a.mpr z; grind
    have h2 : ¬ q.1 * p.2 < p.1 * q.2 := fun z => by have := b.mpr z; grind
    omega
  have d1 : p.2 ∣ q.2 := by
    have : p.2 ∣ p.1 * q.2 := ⟨q.1, by rw [e, Int.mul_comm]⟩
    exact cop_dvd this hp.2
  have d2 : q.2 ∣ p.2 := by
    have : q.2 ∣ q.1 * p.2 := ⟨p.1, by rw [← e, Int.mul_comm]⟩
    exact cop_dvd this hq.2
  have e2 : p.2 = q.2 := Int.le_antisymm (Int.le_of_dvd hq.1 d1) (Int.le_of_dvd hp.1 d2)
  have e1 : p.1 = q.1 := by
    rw [e2] at e
    exact Int.eq_of_mul_eq_mul_right (by have := hq.1; omega) e
  exact Prod.ext e1 e2
/-! the miss -/
theorem fp_told {fs : List Fr} (h : ∀ f ∈ fs, Fp f) (s : List Int) : Fp (toldSum fs s) := fp_sum fun f hf => by
  obtain ⟨x, _, rfl⟩ := List.mem_map.mp hf
  by_cases hl : x.toNat < fs.length
  · rw [List.getD_eq_getElem?_getD, List.getElem?_eq_getElem hl]; exact h _ (List.getElem_mem hl)
  · rw [List.getD, List.getElem?_eq_none (by omega)]; show (0 : Int) < 1; decide
theorem fp_miss {fs : List Fr} (h : ∀ f ∈ fs, Fp f) (row s : List Int) : Fp (missOf fs row s) := fp_abs (fp_less (by show (0 : Int) < 1; decide) (fp_told h s))
theorem fp_missM {fs : List Fr} (h : ∀ f ∈ fs, Fp f) (row : List Int) (ss : List (List Int)) : Fp (missM fs ss row) := by
  have : ∀ (l : List (List Int)) (b : Fr), Fp b → Fp (l.foldl (fun best s => if belowM best (missOf fs row s) then missOf fs row s else best) b) := by
    intro l
    induction l with
    | nil => exact fun b hb => hb
    | cons s l ih =>
      intro b hb
      rw [List.foldl_cons]
      refine ih _ ?_
      split
      · exact fp_miss h row s
      · exact hb
  exact this ss _ fp01
/-- the greatest of some -/
theorem max_fold {g : List Int → Fr} (hg : ∀ s, Fp (g s)) (x : Rat) : ∀ (l : List (List Int)) (b : Fr), Fp b → ((vF (l.foldl (fun best s => if belowM best (g s) then g s else best) b) ≤ x) ↔ (vF b ≤ x ∧ ∀ s ∈ l, vF (g s) ≤ x))
  | [], b, hb => by simp
  | s :: l, b, hb => by
    rw [List.foldl_cons]
    cases h : belowM b (g s) with
    | true =>
      have h1 := (below_iff hb (hg s)).mp h
      simp only [if_true]
      rw [max_fold hg x l _ (hg s)]
      constructor
      · rintro ⟨a, c⟩
        exact ⟨by grind, fun t ht => by rcases List.mem_cons.mp ht with z | z; · rw [z]; exact a
                                        · exact c t z⟩
      · rintro ⟨a, c⟩
        exact ⟨c s (by simp), fun t ht => c t (by simp [ht])⟩
    | false =>
      have h1 := (below_no hb (hg s)).mp h
      simp only [Bool.false_eq_true, if_false]
      rw [max_fold hg x l _ hb]
      constructor
      · rintro ⟨a, c⟩
        exact ⟨a, fun t ht => by rcases List.mem_cons.mp ht with z | z; · rw [z]; grind
                                 · exact c t z⟩
      · rintro ⟨a, c⟩
        exact ⟨a, fun t ht => c t (by simp [ht])⟩
theorem max_lt {g : List Int → Fr} (hg : ∀ s, Fp (g s)) (x : Rat) : ∀ (l : List (List Int)) (b : Fr), Fp b → ((vF (l.foldl (fun best s => if belowM best (g s) then g s else best) b) < x) ↔ (vF b < x ∧ ∀ s ∈ l, vF (g s) < x))
  | [], b, hb => by simp
  | s :: l, b, hb => by
    rw [List.foldl_cons]
    cases h : belowM b (g s) with
    | true =>
      have h1 := (below_iff hb (hg s)).mp h
      simp only [if_true]
      rw [max_lt hg x l _ (hg s)]
      constructor
      · rintro ⟨a, c⟩
        exact ⟨by grind, fun t ht => by rcases List.mem_cons.mp ht with z | z; · rw [z]; exact a
                                        · exact c t z⟩
      · rintro ⟨a, c⟩
        exact ⟨c s (by simp), fun t ht => c t (by simp [ht])⟩
    | false =>
      have h1 := (below_no hb (hg s)).mp h
      simp only [Bool.false_eq_true, if_false]
      rw [max_lt hg x l _ hb]
      constructor
      · rintro ⟨a, c⟩
        exact ⟨a, fun t ht => by rcases List.mem_cons.mp ht with z | z; · rw [z]; grind
                                 · exact c t z⟩
      · rintro ⟨a, c⟩
        exact ⟨a, fun t ht => c t (by simp [ht])⟩
end Lc

set_option Elab.async false
set_option linter.all false
set_option maxRecDepth 100000
set_option maxHeartbeats 4000000
namespace Lc
open PySem L2 PySem.Spec PyProof.Rows
/-! ### lots, plain -/
def sgS (c : Int → Int) (lot s : List Int) : Int := sm c (s.filter fun x => decide (x ∈ lot))
theorem maxM_le_iff {k : Int} (hk : 0 ≤ k) : ∀ {l : List Int}, (maxM l ≤ k ↔ ∀ x ∈ l, x ≤ k)
  | [] => by simp [maxM]; exact hk
  | a :: l => by
    have ih := maxM_le_iff hk (l := l)
    have e : maxM (a :: l) = max a (maxM l) := rfl
    rw [e]
    constructor
    · intro h x hx
      rcases List.mem_cons.mp hx with z | z
      · omega
      · exact ih.mp (by omega) x z
    · intro h
      have h1 := h a (by simp)
      have h2 := ih.mpr (fun x hx => h x (by simp [hx]))
      omega
theorem unev_le {ss : List (List Int)} {c : List Int} {k : Int} (hk : 0 ≤ k) : unevM ss c ≤ k ↔ ∀ s ∈ ss, ((sumM c s).natAbs : Int) ≤ k := by
  unfold unevM sumsM
  rw [maxM_le_iff hk]
  constructor
  · intro h s hs; exact h _ (List.mem_map.mpr ⟨_, List.mem_map.mpr ⟨s, hs, rfl⟩, rfl⟩)
  · intro h x hx
    obtain ⟨y, hy, rfl⟩ := List.mem_map.mp hx
    obtain ⟨s, hs, rfl⟩ := List.mem_map.mp hy
    exact h s hs
theorem least_le {n : Int} {ss : List (List Int)} {k : Int} (hk : 0 ≤ k) : leastM n ss ≤ k ↔ ∃ c ∈ colsM n.toNat, ∀ s ∈ ss, ((sumM c s).natAbs : Int) ≤ k := by
  unfold leastM
  have hne : (colsM n.toNat).map (unevM ss) ≠ [] := fun e => colsM_ne n.toNat (by simpa using e)
  constructor
  · intro h
    obtain ⟨c, hc, e⟩ := List.mem_map.mp (minM_mem hne)
    exact ⟨c, hc, (unev_le hk).mp (by omega)⟩
  · rintro ⟨c, hc, h⟩
    have := minM_le (List.mem_map.mpr ⟨c, hc, rfl⟩ : unevM ss c ∈ (colsM n.toNat).map (unevM ss))
    have := (unev_le hk).mpr h
    omega
theorem cut_sum {lot : List Int} (c : List Int) (s : List Int) : sumM c (cutM lot s) = sm (fun x => c.getD (lot.idxOf x) 0) (s.filter fun x => decide (x ∈ lot)) := by
  unfold sumM cutM sm
  rw [List.map_map]
  congr 1
theorem cut_ne {lot s : List Int} (h : cutM lot s = []) : (s.filter fun x => decide (x ∈ lot)) = [] := by
  unfold cutM at h
  simpa using h
theorem lotU_le {lot : List Int} {ss : List (List Int)} {k : Int} (hn : lot.Nodup) (hk : 0 ≤ k) : lotU lot ss ≤ k ↔ ∃ c : Int → Int, (∀ x ∈ lot, c x = -1 ∨ c x = 1) ∧ ∀ s ∈ ss, ((sgS c lot s).natAbs : Int) ≤ k := by
  have back : ∀ (c : Int → Int) (x : Int), x ∈ lot → (lot.map c).getD (lot.idxOf x) 0 = c x := fun c x hx => by
    have hlt := List.idxOf_lt_length_of_mem hx
    rw [List.getD_eq_getElem?_getD, List.getElem?_map, List.getElem?_eq_getElem hlt, List.getElem_idxOf hlt]
    rfl
  unfold lotU
  by_cases he : accM lot ss = []
  · rw [if_pos he]
    refine ⟨fun _ => ⟨fun _ => 1, fun _ _ => .inr rfl, fun s hs => ?_⟩, fun _ => hk⟩
    have : cutM lot s = [] := by
      apply Classical.byContradiction
      intro hc
      have : cutM lot s ∈ accM lot ss := accM_mem.mpr ⟨hc, s, hs, rfl⟩
      rw [he] at this; simp at this
    unfold sgS
    rw [cut_ne this]
    exact hk
  · rw [if_neg he, least_le hk, Int.toNat_natCast]
    constructor
    · rintro ⟨c, hc, h⟩
      obtain ⟨h1, h2⟩ := (rowsM_mem [-1, 1] lot.length c).mp hc
      refine ⟨fun x => c.getD (lot.idxOf x) 0, fun x hx => ?_, fun s hs => ?_⟩
      · have hlt := List.idxOf_lt_length_of_mem hx
        show c.getD (lot.idxOf x) 0 = -1 ∨ c.getD (lot.idxOf x) 0 = 1
        rw [List.getD_eq_getElem?_getD, List.getElem?_eq_getElem (by omega)]
        have := h2 _ (List.getElem_mem (by omega : lot.idxOf x < c.length))
        simpa using this
      · by_cases hz : cutM lot s = []
        · unfold sgS
          rw [cut_ne hz]
          exact hk
        · have := h (cutM lot s) ((isort_mem _ _ _).mpr (accM_mem.mpr ⟨hz, s, hs, rfl⟩))
          rw [cut_sum] at this
          exact this
    · rintro ⟨c, hc, h⟩
      refine ⟨lot.map c, (rowsM_mem [-1, 1] lot.length _).mpr ⟨by simp, fun x hx => ?_⟩, fun t ht => ?_⟩
      · obtain ⟨y, hy, rfl⟩ := List.mem_map.mp hx
        have := hc y hy
        simpa using this
      · obtain ⟨_, s, hs, rfl⟩ := accM_mem.mp ((isort_mem _ _ _).mp ht)
        rw [cut_sum]
        have e : sm (fun x => (lot.map c).getD (lot.idxOf x) 0) (s.filter fun x => decide (x ∈ lot)) = sgS c lot s := sm_congr fun x hx => back c x (by simpa using (List.mem_filter.mp hx).2)
        rw [e]
        exact h s hs
/-! all lots -/
theorem asc_snoc : ∀ {r : List Int} {x : Int}, ascI (r ++ [x]) = true ↔ ascI r = true ∧ (r = [] ∨ r.getLastD 0 < x)
  | [], x => by simp [ascI]
  | [a], x => by simp [ascI]
  | a :: b :: r, x => by
    have ih := asc_snoc (r := b :: r) (x := x)
    show (decide (a < b) && ascI (b :: (r ++ [x]))) = true ↔ (decide (a < b) && ascI (b :: r)) = true ∧ _
    have e : ascI (b :: (r ++ [x])) = ascI ((b :: r) ++ [x]) := rfl
    rw [e, Bool.and_eq_true, Bool.and_eq_true, ih]
    simp
    grind
theorem combM_mem (many : Nat) : ∀ (k : Nat) (r : List Int), r ∈ combM many k ↔ r.length = k ∧ ascI r = true ∧ ∀ x ∈ r, 0 ≤ x ∧ x < (many : Int)
  | 0, r => by
    show r ∈ [[]] ↔ _
    constructor
    · intro h; rw [List.mem_singleton.mp h]; simp [ascI]
    · rintro ⟨h, _⟩; rw [List.length_eq_zero_iff.mp h]; simp
  | k + 1, r => by
    show r ∈ (combM many k).flatMap _ ↔ _
    rw [List.mem_flatMap]
    constructor
    · rintro ⟨r', h1, h2⟩
      obtain ⟨x, hx, rfl⟩ := List.mem_map.mp h2
      obtain ⟨hx1, hx2⟩ := List.mem_filter.mp hx
      obtain ⟨i, hi, rfl⟩ := List.mem_map.mp hx1
      have hi' := List.mem_range.mp hi
      obtain ⟨a, b, c⟩ := (combM_mem many k r').mp h1
      refine ⟨by simp [a], asc_snoc.mpr ⟨b, ?_⟩, fun y hy => ?_⟩
      · simpa using hx2
      · rcases List.mem_append.mp hy with z | z
        · exact c y z
        · rw [List.mem_singleton.mp z]; omega
    · rintro ⟨a, b, c⟩
      have hne : r ≠ [] := fun e => by subst e; simp at a
      have er : r = r.dropLast ++ [r.getLast hne] := (List.dropLast_concat_getLast hne).symm
      rw [er] at b
      obtain ⟨b1, b2⟩ := asc_snoc.mp b
      refine ⟨r.dropLast, (combM_mem many k _).mpr ⟨by rw [List.length_dropLast]; omega, b1, fun x hx => c x (List.dropLast_subset r hx)⟩, ?_⟩
      refine List.mem_map.mpr ⟨r.getLast hne, List.mem_filter.mpr ⟨?_, ?_⟩, er.symm⟩
      · have := c _ (List.getLast_mem hne)
        exact List.mem_map.mpr ⟨(r.getLast hne).toNat, List.mem_range.mpr (by omega), by omega⟩
      · simpa using b2
theorem lots_mem {n : Int} (h0 : 0 ≤ n) (h7 : n ≤ 7) {lot : List Int} : lot ∈ lotsM n.toNat ↔ LotOk n lot := by
  unfold lotsM
  rw [List.mem_flatMap]
  constructor
  · rintro ⟨i, hi, h⟩
    obtain ⟨a, b, c⟩ := (combM_mem _ _ _).mp h
    exact ⟨fun e => by subst e; simp at a, fun x hx => by have := c x hx; omega, b⟩
  · intro h
    have hl : lot.length ≤ n.toNat := by
      obtain ⟨h1, h2, h3⟩ := h
      have aux : ∀ (l : List Int) (a : Int), ascI l = true → (∀ x ∈ l, a ≤ x ∧ x < n) → (l.length : Int) ≤ max 0 (n - a) := by
        intro l
        induction l with
        | nil => intro a _ _; simp; omega
        | cons x l ih =>
          intro a hs hb
          have hx := hb x (by simp)
          have hs' : ascI l = true := by
            cases l with
            | nil => rfl
            | cons y l => have : (decide (x < y) && ascI (y :: l)) = true := hs
                          rw [Bool.and_eq_true] at this; exact this.2
          have := ih (x + 1) hs' (fun y hy => by
            obtain ⟨k1, k2⟩ := asc_lt hs
            have := k1 y hy x (by simp)
            have := (hb y (by simp [hy])).2
            omega)
          simp only [List.length_cons]
          omega
      have := aux lot 0 h3 h2
      omega
    have hpos : 0 < lot.length := List.length_pos_iff.mpr h.1
    refine ⟨lot.length - 1, List.mem_range.mpr (by omega), (combM_mem _ _ _).mpr ⟨by omega, h.2.2, fun x hx => by have := h.2.1 x hx; omega⟩⟩
/-! the worst lot -/
theorem worst_fold (ss : List (List Int)) : ∀ (l : List (List Int)) (b : Int × Option (List Int)), let r := l.foldl (wStep ss) b
    b.1 ≤ r.1 ∧ (∀ lot ∈ l, lotU lot ss ≤ r.1) ∧ (r = b ∨ ∃ lot ∈ l, r = (lotU lot ss, some lot))
  | [], b => by simp
  | x :: l, b => by
    have ih := worst_fold ss l (wStep ss b x)
    simp only [List.foldl_cons] at ih ⊢
    generalize l.foldl (wStep ss) (wStep ss b x) = r at ih
    obtain ⟨h1, h2, h3⟩ := ih
    have hs : b.1 ≤ (wStep ss b x).1 ∧ lotU x ss ≤ (wStep ss b x).1 ∧ (wStep ss b x = b ∨ wStep ss b x = (lotU x ss, some x)) := by
      unfold wStep
      split
      · rename_i h; exact ⟨by omega, Int.le_refl _, .inr rfl⟩
      · rename_i h; exact ⟨Int.le_refl _, by omega, .inl rfl⟩
    refine ⟨by omega, fun lot hl => ?_, ?_⟩
    · rcases List.mem_cons.mp hl with z | z
      · rw [z]; omega
      · exact h2 lot z
    · rcases h3 with e | ⟨lot, hl, e⟩
      · rcases hs.2.2 with k | k
        · left; rw [e, k]
        · right; exact ⟨x, by simp, by rw [e, k]⟩
      · right; exact ⟨lot, by simp [hl], e⟩
theorem minM_nonneg {l : List Int} (h : ∀ x ∈ l, 0 ≤ x) : 0 ≤ minM l := by
  by_cases e : l = []
  · subst e; decide
  · exact h _ (minM_mem e)
theorem lotU_nonneg {lot : List Int} {ss : List (List Int)} : 0 ≤ lotU lot ss := by
  unfold lotU
  split
  · exact Int.le_refl _
  · unfold leastM
    refine minM_nonneg fun x hx => ?_
    obtain ⟨c, _, rfl⟩ := List.mem_map.mp hx
    exact maxM_nonneg _
theorem worst_some {n : Int} {ss : List (List Int)} (hF : FamOk n ss) : ∃ lot, LotOk n lot ∧ worstM n ss = (lotU lot ss, some lot) ∧ ∀ lot', LotOk n lot' → lotU lot' ss ≤ (worstM n ss).1 := by
  have h1 := hF.n1
  have h7 := hF.n7
  obtain ⟨a, b, c⟩ := worst_fold ss (lotsM n.toNat) (-1, none)
  have hall : ∀ lot', LotOk n lot' → lotU lot' ss ≤ (worstM n ss).1 := fun lot' h => b lot' ((lots_mem (by omega) h7).mpr h)
  rcases c with e | ⟨lot, hl, e⟩
  · have h0 := hall [0] ⟨by simp, fun x hx => by simp at hx; omega, rfl⟩
    have e1 : (worstM n ss).1 = -1 := congrArg Prod.fst e
    have := lotU_nonneg (lot := [0]) (ss := ss)
    omega
  · exact ⟨lot, (lots_mem (by omega) h7).mp hl, e, hall⟩
/-- even within all lots -/
theorem even_her {n : Int} {ss : List (List Int)} (hF : FamOk n ss) (h : (worstM n ss).1 ≤ 1) : Her ss := fun L => by
  obtain ⟨_, _, _, hall⟩ := worst_some hF
  have hn := hF.n1
  let lot : List Int := ((List.range n.toNat).map fun (i : Nat) => (i : Int)).filter L
  have hsort : ∀ (l : List Nat) , l.Pairwise (· < ·) → ascI ((l.map fun (i : Nat) => (i : Int)).filter L) = true := by
    have pw : ∀ l : List Int, l.Pairwise (· < ·) → ascI l = true := by
      intro l
      induction l with
      | nil => intro _; rfl
      | cons a l ih =>
        intro hp
        cases l with
        | nil => rfl
        | cons b l =>
          have h2 := List.pairwise_cons.mp hp
          show (decide (a < b) && ascI (b :: l)) = true
          rw [ih h2.2, decide_eq_true (h2.1 b (by simp))]; rfl
    intro l hp
    refine pw _ (List.Pairwise.filter _ (List.pairwise_map.mpr (hp.imp fun h => by omega)))
  have hmem : ∀ x, x ∈ lot ↔ (0 ≤ x ∧ x < n) ∧ L x = true := fun x => by
    show x ∈ List.filter L _ ↔ _
    rw [List.mem_filter]
    constructor
    · rintro ⟨a, b⟩
      obtain ⟨i, hi, rfl⟩ := List.mem_map.mp a
      have := List.mem_range.mp hi
      exact ⟨⟨by omega, by omega⟩, b⟩
    · rintro ⟨⟨a, b⟩, c⟩
      exact ⟨List.mem_map.mpr ⟨x.toNat, List.mem_range.mpr (by omega), by omega⟩, c⟩
  have base : ∃ c : Int → Int, (∀ x ∈ lot, c x = -1 ∨ c x = 1) ∧ ∀ s ∈ ss, ((sgS c lot s).natAbs : Int) ≤ 1 := by
    by_cases he : lot = []
    · refine ⟨fun _ => 1, fun x hx => by rw [he] at hx; simp at hx, fun s _ => ?_⟩
      have : (s.filter fun x => decide (x ∈ lot)) = [] := by rw [he]; simp
      unfold sgS; rw [this]; decide
    · have hl : LotOk n lot := ⟨he, fun x hx => ((hmem x).mp hx).1, hsort _ (List.pairwise_lt_range)⟩
      exact (lotU_le hl.nd (by decide)).mp (by have := hall lot hl; omega)
  obtain ⟨c, hc, hs⟩ := base
  refine ⟨fun x => if L x = true then (if x ∈ lot then c x else 1) else 0, fun x hx => ?_, fun x hx => ?_, fun s hsm => ?_⟩
  · simp only [hx, if_true]
    by_cases hm : x ∈ lot
    · rw [if_pos hm]; rcases hc x hm with e | e <;> simp [e]
    · rw [if_neg hm]; simp
  · simp [hx]
  · have hbd := (hF.lots s hsm).2.1
    have e : ∀ t : List Int, (∀ x ∈ t, 0 ≤ x ∧ x < n) → sm (fun x => if L x = true then (if x ∈ lot then c x else 1) else 0) t = sgS c lot t := by
      intro t
      induction t with
      | nil => intro _; rfl
      | cons x t ih =>
        intro hb
        have iht := ih (fun y hy => hb y (by simp [hy]))
        unfold sgS at iht ⊢
        rw [sm_cons, iht]
        have hx := hmem x
        have hbx := hb x (by simp)
        by_cases hL : L x = true
        · have hm : x ∈ lot := hx.mpr ⟨hbx, hL⟩
          rw [if_pos hL, if_pos hm, List.filter_cons_of_pos (by simpa using hm), sm_cons]
        · have hm : x ∉ lot := fun z => hL (hx.mp z).2
          rw [if_neg hL, List.filter_cons_of_neg (by simpa using hm)]; omega
    rw [e s hbd]
    have := hs s hsm
    omega
end Lc

set_option Elab.async false
set_option linter.all false
set_option maxRecDepth 100000
set_option maxHeartbeats 4000000
namespace Lc
open PySem L2 PySem.Spec PyProof.Rows
/-! ### draws, told by what follows -/
section
variable {K : PySem.W.Frag} {tn : Addr} {ns : List Int} {ρ ρ1 : Rho} {ta tb te : TE} {t u : TT} {d e f : PyData} {n m k : Nat} {ts tz tw : TS} {Pn Pn' Pm : Rho → Prop} {Pr Pr' : PyData → Prop} {E : XK} {Q : PyData → Prop}
theorem cw_p (h : EvD K te ρ d) (q : Q d) : EvW K tn ns te ρ 0 Q := EvW.mono (ew_pure h) (Nat.le_refl _) (fun _ e => e ▸ q)
theorem cw_op {r : R2} (h : EvW K tn ns ta ρ n (fun d => EvW K tn ns tb ρ m (fun e => ∃ f, OpD K r d e f ∧ Q f))) : EvW K tn ns (tOp r ta tb) ρ (n + m) Q := fun c A σ H hc l hm ht hE R q =>
  h c A σ H (by omega) l hm ht hE _ fun d x H1 rd k1 t1 hx => rd (c + n) A σ H1 (by omega) (live_keep l k1 t1) hm t1 (hE.same (keep_cut hm k1)) _ fun e y H2 re k2 t2 hy => by
    obtain ⟨f, ho, rf⟩ := re
    refine ho A x y H2 (live_keep (live_keep l k1 t1) k2 t2) (dp_same (keep_cut hm k2) hx) hy R fun v H3 s3 hv => ?_
    exact q f v H3 rf ((k1.trans k2).trans (Keep.of s3)) ((t2.mono (by omega)).same s3) hv
/-- a plain left side, a plain right side -/
theorem cw_opR {r : R2} (ha : EvD K ta ρ d) (h : EvW K tn ns tb ρ m (fun e => ∃ f, OpD K r d e f ∧ Q f)) : EvW K tn ns (tOp r ta tb) ρ m Q := by
  have := cw_op (tn := tn) (ns := ns) (Q := Q) (r := r) (m := m) (tb := tb) (cw_p ha h)
  rw [Nat.zero_add] at this; exact this
theorem cw_opL {r : R2} (h : EvW K tn ns ta ρ n (fun d => ∃ f, OpD K r d e f ∧ Q f)) (hb : EvD K tb ρ e) : EvW K tn ns (tOp r ta tb) ρ n Q :=
  cw_op (m := 0) (EvW.mono h (Nat.le_refl _) (fun d q => cw_p hb q))
theorem cw_nil {Q : List PyData → Prop} (q : Q []) : EaW K tn ns tNil ρ 0 Q := fun c A σ H hc l hm ht hE R z => z [] [] H q Keep.refl ht .nil
theorem cw_cons {tr : TA} {Q : List PyData → Prop} (h : EvW K tn ns ta ρ n (fun d => EaW K tn ns tr ρ m (fun ds => Q (d :: ds)))) : EaW K tn ns (tCons ta tr) ρ (n + m) Q := fun c A σ H hc l hm ht hE R q =>
  h c A σ H (by omega) l hm ht hE _ fun d x H1 rd k1 t1 hx => rd (c + n) A σ H1 (by omega) (live_keep l k1 t1) hm t1 (hE.same (keep_cut hm k1)) _ fun ds xs H2 re k2 t2 hxs =>
    q (d :: ds) _ H2 re (k1.trans k2) (t2.mono (by omega)) (.cons (dp_same (keep_cut hm k2) hx) hxs)
theorem cw_consP {tr : TA} {Q : List PyData → Prop} (h : EvD K ta ρ d) (hr : EaW K tn ns tr ρ m (fun ds => Q (d :: ds))) : EaW K tn ns (tCons ta tr) ρ m Q := by
  have := cw_cons (tn := tn) (ns := ns) (Q := Q) (m := m) (cw_p h hr)
  rw [Nat.zero_add] at this; exact this
theorem cw_one {Q : List PyData → Prop} (h : EvW K tn ns ta ρ n (fun d => Q [d])) : EaW K tn ns (tCons ta tNil) ρ n Q := cw_cons (m := 0) (EvW.mono h (Nat.le_refl _) (fun d q => cw_nil q))
theorem cw_cb {r : List V → Hp → VK → Prop} {tr : TA} (h : EaW K tn ns tr ρ n (fun ds => ∃ f, CaD K r ds f ∧ Q f)) : EvW K tn ns (tCB r tr) ρ n Q := ew_cb h fun ds h => h
theorem cw_tup {tr : TA} (h : EaW K tn ns tr ρ n (fun ds => ds.length ≤ 100000 ∧ Q (.tuple ds))) : EvW K tn ns (tTup tr) ρ n Q := ew_tup h fun ds h => h
theorem cw_lst {tr : TA} (h : EaW K tn ns tr ρ n (fun ds => ds.length ≤ 100000 ∧ Q (.list ds))) : EvW K tn ns (tLst tr) ρ n Q := ew_lst h fun ds h => h
theorem cw_call {Rp : List PyData → Out → Prop} {tr : TA} (h : EaW K tn ns tr ρ n (fun ds => ∃ d, Rp ds (.rt d) ∧ Q d)) : EvW K tn ns (tCall (spD K Rp) [] E tr) ρ n Q := ew_callP h fun ds h => h
theorem cw_draw {lim : Int} {tl : TE} {i j : Nat} {E' : XK} (hi : ρ[i]? = some (some (scrD ns))) (hj : ρ[j]? = some (some (adrD tn))) (hk : EvD K tl ρ (.int lim)) (h0 : 0 < lim) (h1 : lim < 1073741824) (q : ∀ r : Int, 0 ≤ r → r < lim → Q (.int r)) :
    EvW K tn ns (tCall (sp_law_draw K) [] E' (tCons (tVar i) (tCons (tVar j) (tCons tl tNil)))) ρ 1 Q :=
  EvW.mono (ew_draw hi hj hk h0 h1) (Nat.le_refl _) (by rintro d ⟨r, rfl, a, b⟩; exact q r a b)
/-- a def that draws, of script, town and one more -/
theorem cw_town {P : List PyData → Prop} {Rt : List PyData → PyData → Prop} {tl : TE} {i j : Nat} {E' : XK} (hi : ρ[i]? = some (some (scrD ns))) (hj : ρ[j]? = some (some (adrD tn))) (hk : EvD K tl ρ d) (hp : P [d]) (q : ∀ e, Rt [d] e → Q e) :
    EvW K tn ns (tCall (spT K m P Rt) [] E' (tCons (tVar i) (tCons (tVar j) (tCons tl tNil)))) ρ m Q := ew_town hi hj hk hp q
theorem cw_town0 {P : List PyData → Prop} {Rt : List PyData → PyData → Prop} {i j : Nat} {E' : XK} (hi : ρ[i]? = some (some (scrD ns))) (hj : ρ[j]? = some (some (adrD tn))) (hp : P []) (q : ∀ e, Rt [] e → Q e) :
    EvW K tn ns (tCall (spT K m P Rt) [] E' (tCons (tVar i) (tCons (tVar j) tNil))) ρ m Q := by
  have ha : EaW K tn ns (tCons (tVar i) (tCons (tVar j) tNil)) ρ 0 (· = [scrD ns, adrD tn]) := cw_consP (ev_var hi) (cw_consP (ev_var hj) (cw_nil rfl))
  have := ew_callT (m := m) (P := P) (Rt := Rt) (E := E') (R := Q) ha (fun ds e => ⟨[], e, hp, q⟩)
  rw [Nat.zero_add] at this
  exact this
theorem cw_pick {tl : TE} {i j : Nat} {xs : List PyData} {E' : XK} (hi : ρ[i]? = some (some (scrD ns))) (hj : ρ[j]? = some (some (adrD tn))) (hk : EvD K tl ρ (.list xs)) (hne : xs ≠ []) (hl : xs.length ≤ 100000) (q : ∀ d ∈ xs, Q d) :
    EvW K tn ns (tCall (sp_law_pick K) [] E' (tCons (tVar i) (tCons (tVar j) (tCons tl tNil)))) ρ 1 Q := ew_pick hi hj hk hne hl q
/-- a pick of what is drawn -/
theorem cw_pickW {tl : TE} {i j : Nat} {E' : XK} (hi : ρ[i]? = some (some (scrD ns))) (hj : ρ[j]? = some (some (adrD tn))) (hk : EvW K tn ns tl ρ n (fun d => ∃ xs, d = .list xs ∧ xs ≠ [] ∧ xs.length ≤ 100000 ∧ ∀ d ∈ xs, Q d)) :
    EvW K tn ns (tCall (sp_law_pick K) [] E' (tCons (tVar i) (tCons (tVar j) (tCons tl tNil)))) ρ (n + 1) Q := by
  have ha : EaW K tn ns (tCons (tVar i) (tCons (tVar j) (tCons tl tNil))) ρ n (fun ds => ∃ xs, ds = [scrD ns, adrD tn, .list xs] ∧ xs ≠ [] ∧ xs.length ≤ 100000 ∧ ∀ d ∈ xs, Q d) := cw_consP (ev_var hi) (cw_consP (ev_var hj) (cw_one (EvW.mono hk (Nat.le_refl _) (by rintro d ⟨xs, rfl, h⟩; exact ⟨xs, rfl, h⟩))))
  exact ew_callT (m := 1) (P := P_law_pick) (Rt := R_law_pick) (E := E') (R := Q) ha (by
    rintro ds ⟨xs, rfl, h1, h2, h3⟩
    exact ⟨[.list xs], rfl, ⟨xs, rfl, h1, h2⟩, by rintro d ⟨ys, e, hd⟩; cases e; exact h3 d hd⟩)
theorem cw_test {P : Bool → Prop} (h : EvW K tn ns te ρ n (fun d => ∃ b, d = .bool b ∧ P b)) : EtW K tn ns (tTest te) ρ n P := et_testW h fun d h => h
theorem cw_B {P : Bool → Prop} (h : EvW K tn ns te ρ n (fun d => ∃ b, d = .bool b ∧ P b)) : EtW K tn ns (tB te) ρ n P := et_BW h fun d h => h
theorem cw_if (h : EtW K tn ns t ρ n (fun b => (b = true → EvW K tn ns ta ρ m Q) ∧ (b = false → EvW K tn ns tb ρ m Q))) : EvW K tn ns (tIf t ta tb) ρ (n + m) Q := ew_if h (fun p => p.1 rfl) (fun p => p.2 rfl)
theorem cw_tupRg2 (h : EvW K tn ns ta ρ n (fun d => EvW K tn ns tb ρ m (fun e => ∃ a b : Int, d = .int a ∧ e = .int b ∧ 0 ≤ a ∧ a ≤ 16777216 ∧ 0 ≤ b ∧ b ≤ 16777216 ∧ Q (.tuple (rngD a (b - a).toNat))))) : EvW K tn ns (tTupRg (tRg2 ta tb)) ρ (n + m) Q := fun c A σ H hc l hm ht hE R q =>
  h c A σ H (by omega) l hm ht hE _ fun d x H1 rd k1 t1 hx => rd (c + n) A σ H1 (by omega) (live_keep l k1 t1) hm t1 (hE.same (keep_cut hm k1)) _ fun e y H2 re k2 t2 hy => by
    obtain ⟨a, b, rfl, rfl, h1, h2, h3, h4, hq⟩ := re
    cases hx
    cases hy
    refine ⟨a, b, rfl, rfl, RgOk.of_le h1 h4 h2 h3, fun p hp => q _ _ _ hq ((k1.trans k2).trans (Keep.of (same_new hp))) ((t2.mono (by omega)).same (same_new hp)) ?_⟩
    exact .tup (.inl (cut_new (live_keep (live_keep l k1 t1) k2 t2) hp)) (rgV_dq a b)
/-! statements -/
theorem cx_asg {i : Nat} (h : EvW K tn ns te ρ n (fun d => ExW K tn ns tz (ρ.set i (some d)) m Pn Pr)) : ExW K tn ns (tSeq (tAsg te (gName i)) tz) ρ (n + m) Pn Pr := xw_seq (xw_asg h) (by rintro ρ' ⟨d, h, rfl⟩; exact h)
theorem cx_asgR {i : Nat} (R : PyData → Prop) (h : EvW K tn ns te ρ n R) (h2 : ∀ d, R d → ExW K tn ns tz (ρ.set i (some d)) m Pn Pr) : ExW K tn ns (tSeq (tAsg te (gName i)) tz) ρ (n + m) Pn Pr := xw_seq (xw_asg h) (by rintro ρ' ⟨d, h, rfl⟩; exact h2 d h)
theorem cx_asg1 {i : Nat} (h : EvW K tn ns te ρ n (fun d => Pn (ρ.set i (some d)))) : ExW K tn ns (tAsg te (gName i)) ρ n Pn Pr := ExW.mono (xw_asg (Pr := Pr) h) (Nat.le_refl _) (by rintro ρ' ⟨d, h, rfl⟩; exact h) (fun _ h => h)
theorem cx_par {i j : Nat} {tr : TA} (h : EaW K tn ns tr ρ n (fun ds => ∃ d e, ds = [d, e] ∧ ExW K tn ns tz ((ρ.set i (some d)).set j (some e)) m Pn Pr)) : ExW K tn ns (tSeq (tPar i j tr) tz) ρ (n + m) Pn Pr :=
  xw_seq (xw_par h (by rintro ds ⟨d, e, rfl, _⟩; rfl)) (by rintro ρ' ⟨d, e, ⟨d', e', h, q⟩, rfl⟩; cases h; exact q)
theorem cx_asgT {g : TG} {ws : List Nat} (h : EvW K tn ns te ρ n (fun d => ∃ r2, TgD K g d ρ r2 ws ∧ ExW K tn ns tz r2 m Pn Pr)) : ExW K tn ns (tSeq (tAsg te g) tz) ρ (n + m) Pn Pr := fun c A σ H D hc l hm ht hE q1 q2 =>
  h c A σ H (by omega) l hm ht hE _ fun d v H' r k t hv => by
    obtain ⟨r2, hg, hx⟩ := r
    refine hg A σ H' v (live_keep l k t) (hE.same (keep_cut hm k)) hv _ fun σ' hE' _ => ?_
    exact hx (c + n) A σ' H' D (by omega) (live_keep l k t) hm t hE' (fun ρ2 σ2 H2 p2 k2 t2 hE2 => q1 ρ2 σ2 H2 p2 (k.trans k2) (t2.mono (by omega)) hE2) (fun d v H2 p2 k2 t2 hv => q2 d v H2 p2 (k.trans k2) (t2.mono (by omega)) hv)
theorem cx_if (h : EtW K tn ns t ρ n (fun b => (b = true → ExW K tn ns ts ρ m Pn Pr) ∧ (b = false → ExW K tn ns tz ρ m Pn Pr))) : ExW K tn ns (tIfS t ts tz) ρ (n + m) Pn Pr := xw_if h (fun p => p.1 rfl) (fun p => p.2 rfl)
/-- if t: return e -/
theorem cx_ifR {b : Bool} {te' : TE} (h : EvT K t ρ b) (h1 : b = true → EvW K tn ns te' ρ m Pr) (h2 : b = false → ExW K tn ns tz ρ m Pn Pr) : ExW K tn ns (tSeq (tIfS t (tRet te') tNext) tz) ρ m Pn Pr := by
  cases b with
  | false => exact xw_no (E := E0) h (h2 rfl)
  | true =>
    have h3 : ExW K tn ns (tIfS t (tRet te') tNext) ρ m (fun _ => False) Pr := xw_ifP h (fun _ => xw_ret (h1 rfl)) (fun z => by cases z)
    exact xw_seq (m := 0) h3 (fun _ z => z.elim)
/-- a branch that returns, then the rest -/
theorem cx_ifB {b : Bool} (h : EvT K t ρ b) (h1 : b = true → ExW K tn ns ts ρ m (fun _ => False) Pr) (h2 : b = false → ExW K tn ns tz ρ m Pn Pr) : ExW K tn ns (tSeq (tIfS t ts tNext) tz) ρ m Pn Pr := by
  cases b with
  | false => exact xw_seqP (E := E0) (xs_if h (fun z => by cases z) (fun _ => xs_next)) (h2 rfl)
  | true =>
    have h3 : ExW K tn ns (tIfS t ts tNext) ρ m (fun _ => False) Pr := xw_ifP h (fun _ => h1 rfl) (fun z => by cases z)
    exact xw_seq (m := 0) h3 (fun _ z => z.elim)
/-- a comprehension without a test -/
inductive All2 {α : Type} (R : α → PyData → Prop) : List α → List PyData → Prop
  | nil : All2 R [] []
  | cons {x : α} {xs : List α} {d : PyData} {ds : List PyData} : R x d → All2 R xs ds → All2 R (x :: xs) (d :: ds)
theorem all2_of {α : Type} {R : α → PyData → Prop} : ∀ {xs : List α} {ds : List PyData}, LcR (fun x o => match o with | some d => true = true ∧ R x d | none => false = true) xs ds → All2 R xs ds
  | [], ds, e => by cases e; exact .nil
  | x :: xs, ds, .inl ⟨e, ds', h1, h2, h3⟩ => by subst h2; exact .cons h1.2 (all2_of h3)
  | x :: xs, ds, .inr ⟨h1, h2⟩ => by cases h1
theorem All2.length {α : Type} {R : α → PyData → Prop} : ∀ {xs : List α} {ds : List PyData}, All2 R xs ds → ds.length = xs.length
  | _, _, .nil => rfl
  | _, _, .cons _ t => by simp [t.length]
theorem All2.all {α : Type} {R : α → PyData → Prop} {P : PyData → Prop} (h : ∀ x d, R x d → P d) : ∀ {xs : List α} {ds : List PyData}, All2 R xs ds → ∀ d ∈ ds, P d
  | _, _, .nil => fun d hd => by simp at hd
  | _, _, .cons a t => fun d hd => by
    rcases List.mem_cons.mp hd with z | z
    · rw [z]; exact h _ _ a
    · exact t.all h d z
theorem cw_lcN {α : Type} {wi : TI} {j : Nat} {vs : List Nat} (xs : List α) (enc : α → PyData) (Ro : α → PyData → Prop) (hi : ItD K wi ρ (xs.map enc)) (hz : xs.length ≤ 50000) (hw : j ∈ vs)
    (he : ∀ x ∈ xs, EvW K tn ns te ((wipeD ρ vs).set j (some (enc x))) n (Ro x)) (q : ∀ ds, All2 Ro xs ds → Q (.list ds)) : EvW K tn ns (tLc wi (gName j) tYes te vs) ρ (xs.length * (0 + n)) Q :=
  EvW.mono (ew_lc (ws := [j]) (n1 := 0) (n2 := n) xs enc (fun _ b => b = true) Ro (fun x => (wipeD ρ vs).set j (some (enc x))) hi hz (fun i h => by rw [List.mem_singleton.mp h]; exact hw) (fun x _ => tg_name) (fun x _ => et_pure et_yes) he) (Nat.le_refl _) (by
    rintro d ⟨ds, rfl, h⟩
    exact q ds (all2_of h))
end
end Lc

set_option Elab.async false
set_option linter.all false
set_option maxRecDepth 100000
set_option maxHeartbeats 4000000
namespace Lc
open PySem L2 PySem.Spec PyProof.Rows
local macro_rules
  | `(tactic| decreasing_trivial) => `(tactic| repeat' (first
      | (with_reducible apply ev_var); rfl | with_reducible exact ev_int | with_reducible exact ev_non | with_reducible exact ev_bl | with_reducible exact ev_str | with_reducible exact ea_nil
      | with_reducible apply ea_cons | with_reducible apply ev_cb | with_reducible apply ev_op | with_reducible apply ev_un | with_reducible apply ev_tup | with_reducible apply ev_lst
      | with_reducible apply et_test | with_reducible apply et_B | with_reducible apply et_not
      | exact od_add | exact od_sub | exact od_lt | exact od_le | exact od_gt | exact od_ge | exact ca_abs | exact ud_neg | exact od_ixT rfl | exact ca_lenT | exact ca_lenL
      | (show List.length _ ≤ 100000; simp; done)))
local macro_rules
  | `(tactic| get_elem_tactic_trivial) => `(tactic| repeat' (first | exact Fg.nil | apply Fg.same | apply Fg.drop))
/-! ### the law's fractions -/
def sp_law_ratio (K : PySem.W.Frag) : Sp := spD K R_fraction
def sp_law_plus (K : PySem.W.Frag) : Sp := spD K (R_fr2 fun p q => frD (plusM p q))
def sp_law_times (K : PySem.W.Frag) : Sp := spD K (R_fr2 fun p q => frD (timesM p q))
def sp_law_below (K : PySem.W.Frag) : Sp := spD K (R_fr2 fun p q => .bool (belowM p q))
def roundsOf (fs : List Fr) (row s : List Int) : Bool := !(decide (sumM row s < (toldSum fs s).1 / (toldSum fs s).2) || decide (0 - (0 - (toldSum fs s).1) / (toldSum fs s).2 < sumM row s))
def R_law_rounds : List PyData → Out → Prop := fun ds o => ∃ n ss fs row, RoundIn n ss fs row ∧ ds = [famD n ss, .tuple (fs.map frD), tI row] ∧ o = .rt (.bool (ss.all (roundsOf fs row)))
def sp_law_rounds (K : PySem.W.Frag) : Sp := spD K R_law_rounds
def t_law_ratio (K : PySem.W.Frag) (E : XK) : TS := (tSeq (tPar 2 3 (tCons (tCB rAbsI (tCons (tVar 0) tNil)) (tCons (tCB rAbsI (tCons (tVar 1) tNil)) tNil)))
  (tSeq (tWhile (tTest (tOp (rNeD K) (tVar 3) (tC (.int 0)))) (tPar 2 3 (tCons (tVar 3) (tCons (tOp rModU (tVar 2) (tVar 3)) tNil))))
  (tSeq (tAsg (tIf (tTest (tOp rGtI (tVar 1) (tC (.int 0)))) (tVar 2) (tOp rSubU (tC (.int 0)) (tVar 2))) (gName 2))
  (tRet (tTup (tCons (tOp rDivU (tVar 0) (tVar 2)) (tCons (tOp rDivU (tVar 1) (tVar 2)) tNil)))))))
def t_law_plus (K : PySem.W.Frag) (E : XK) : TS := (tRet (tCall (sp_law_ratio K) [] E0 (tCons (tOp (rAddU K) (tOp (rMulU K) (tOp (rIx K) (tVar 0) (tC (.int 0))) (tOp (rIx K) (tVar 1) (tC (.int 1)))) (tOp (rMulU K) (tOp (rIx K) (tVar 1) (tC (.int 0))) (tOp (rIx K) (tVar 0) (tC (.int 1))))) (tCons (tOp (rMulU K) (tOp (rIx K) (tVar 0) (tC (.int 1))) (tOp (rIx K) (tVar 1) (tC (.int 1)))) tNil))))
def t_law_below (K : PySem.W.Frag) (E : XK) : TS := (tRet (tOp (rLtU K) (tOp (rMulU K) (tOp (rIx K) (tVar 0) (tC (.int 0))) (tOp (rIx K) (tVar 1) (tC (.int 1)))) (tOp (rMulU K) (tOp (rIx K) (tVar 1) (tC (.int 0))) (tOp (rIx K) (tVar 0) (tC (.int 1))))))
def t_law_rounds (K : PySem.W.Frag) (E : XK) : TS := (tSeq (tFor (iSeq K (tOp (rIx K) (tVar 0) (tC (.int 1)))) (gName 3) (tSeq (tAsg (tTup (tCons (tC (.int 0)) (tCons (tC (.int 1)) tNil))) (gName 4))
  (tSeq (tFor (iSeq K (tVar 3)) (gName 5) (tAsg (tCall (sp_law_plus K) [] E0 (tCons (tVar 4) (tCons (tOp (rIx K) (tVar 1) (tVar 5)) tNil))) (gName 4)))
  (tSeq (tAsg (tCB (rSum K) (tCons (tLc (iSeq K (tVar 3)) (gName 5) tYes (tOp (rIx K) (tVar 2) (tVar 5)) [5]) tNil)) (gName 6))
  (tIfS (tOr (tTest (tOp (rLtU K) (tVar 6) (tOp rDivU (tOp (rIx K) (tVar 4) (tC (.int 0))) (tOp (rIx K) (tVar 4) (tC (.int 1)))))) (tTest (tOp rGtI (tVar 6) (tOp rSubU (tC (.int 0)) (tOp rDivU (tOp rSubU (tC (.int 0)) (tOp (rIx K) (tVar 4) (tC (.int 0)))) (tOp (rIx K) (tVar 4) (tC (.int 1)))))))) (tRet (tC (.bl false))) tNext)))))
  (tRet (tC (.bl true))))

def t_law_times (K : PySem.W.Frag) (E : XK) : TS := (tRet (tCall (sp_law_ratio K) [] E0 (tCons (tOp (rMulU K) (tOp (rIx K) (tVar 0) (tC (.int 0))) (tOp (rIx K) (tVar 1) (tC (.int 0)))) (tCons (tOp (rMulU K) (tOp (rIx K) (tVar 0) (tC (.int 1))) (tOp (rIx K) (tVar 1) (tC (.int 1)))) tNil))))

section
variable {K : PySem.W.Frag} {E : XK} {ρ : Rho} {ta tb : TE} {ts tz : TS} {d : PyData}
theorem x_law_ratio {t b : Int} (hb : 0 < b) (hz : Bz 9000 b) : ExS K E (t_law_ratio K E) [some (.int t), some (.int b), none, none] (.rt (frD (fracM t b))) := by
  obtain ⟨n, h1, h2⟩ := eucl_end b.natAbs t.natAbs
  refine xs_seq (xs_par (by decreasing_trivial)) ?_
  have hne : ∀ p : Nat × Nat, EvT K (tTest (tOp (rNeD K) (tVar 3) (tC (.int 0)))) [some (.int t), some (.int b), some (.int (p.1 : Int)), some (.int (p.2 : Int))] (!decide (p.2 = 0)) := fun p => by
    refine et_to (et_test (ev_op (ev_var rfl) ev_int (od_ne (sh_int (n := 0)) (sh_int (n := 0))))) ?_
    rw [eqv_int]
    have : ((p.2 : Int) = 0) ↔ p.2 = 0 := by omega
    simp only [this]
  have hw := xs_while (K := K) (E := E) (ρ := [some (.int t), some (.int b), some (.int (t.natAbs : Int)), some (.int (b.natAbs : Int))]) (t := tTest (tOp (rNeD K) (tVar 3) (tC (.int 0)))) (ts := tPar 2 3 (tCons (tVar 3) (tCons (tOp rModU (tVar 2) (tVar 3)) tNil)))
    (fun i => [some (.int t), some (.int b), some (.int ((eucl t.natAbs b.natAbs i).1 : Int)), some (.int ((eucl t.natAbs b.natAbs i).2 : Int))]) n rfl (fun i hi => et_to (hne _) (by simp [h1 i hi])) (et_to (hne _) (by rw [h2]; rfl)) (fun i hi => by
      have := h1 i hi
      have e : ((eucl t.natAbs b.natAbs (i + 1)).2 : Int) = ((eucl t.natAbs b.natAbs i).1 : Int) % ((eucl t.natAbs b.natAbs i).2 : Int) := rfl
      rw [e]
      exact xs_par (ea_cons (ev_var rfl) (ea_cons (ev_op (ev_var rfl) (ev_var rfl) (od_mod (by omega))) ea_nil)))
  rw [h2] at hw
  have hg := gcdI_pos (a := t) hb
  have hgz : Bz 9000 (gcdI t b) := hz.of_le (by have := gcdI_le (a := t) hb; omega)
  refine xs_seq hw (xs_seq (xs_asg (ev_if (b := true) (d := .int (gcdI t b)) (et_to (et_test (ev_op (ev_var rfl) ev_int od_gt)) (by simpa using hb)) (fun _ => ev_var rfl) (fun z => by cases z))) (xs_ret ?_))
  exact ev_tup (ea_cons (ev_op (ev_var rfl) (ev_var rfl) (od_divB hg hgz)) (ea_cons (ev_op (ev_var rfl) (ev_var rfl) (od_divB hg hgz)) ea_nil)) (by simp)
theorem pure_law_ratio {vs : List V} {H : Hp} {Q : VK} (hs : sp_law_ratio K vs H Q E) : t_law_ratio K E { nx := fun _ H' => Q .non H', rt := Q } (L2.start ["top", "bottom", "one", "two"] vs) H :=
  sp_body (R := R_fraction) (fun ds o h => by obtain ⟨t, b, hb, hz, rfl, rfl⟩ := h; exact .inl (x_law_ratio hb hz)) hs
theorem pure_law_plus {vs : List V} {H : Hp} {Q : VK} (hs : sp_law_plus K vs H Q E) : t_law_plus K E { nx := fun _ H' => Q .non H', rt := Q } (L2.start ["one", "two"] vs) H :=
  sp_body (fun ds o h => by
    obtain ⟨m, n, p, q, hp, hq, hz, rfl, rfl⟩ := h
    exact .inl (xs_ret (ev_call (ea_cons (ev_op (ev_op (ev_fst rfl) (ev_snd rfl) (od_mulB hp.top hq.bot (by omega))) (ev_op (ev_fst rfl) (ev_snd rfl) (od_mulB hq.top hp.bot (by omega))) od_add) (ea_cons (ev_op (ev_snd rfl) (ev_snd rfl) (od_mulB hp.bot hq.bot (by omega))) ea_nil)) ⟨_, _, Int.mul_pos hp.pos hq.pos, (hp.bot.mul hq.bot).mono hz, rfl, rfl⟩))) hs
theorem pure_law_times {vs : List V} {H : Hp} {Q : VK} (hs : sp_law_times K vs H Q E) : t_law_times K E { nx := fun _ H' => Q .non H', rt := Q } (L2.start ["one", "two"] vs) H :=
  sp_body (fun ds o h => by
    obtain ⟨m, n, p, q, hp, hq, hz, rfl, rfl⟩ := h
    exact .inl (xs_ret (ev_call (ea_cons (ev_op (ev_fst rfl) (ev_fst rfl) (od_mulB hp.top hq.top (by omega))) (ea_cons (ev_op (ev_snd rfl) (ev_snd rfl) (od_mulB hp.bot hq.bot (by omega))) ea_nil)) ⟨_, _, Int.mul_pos hp.pos hq.pos, (hp.bot.mul hq.bot).mono hz, rfl, rfl⟩))) hs
theorem pure_law_below {vs : List V} {H : Hp} {Q : VK} (hs : sp_law_below K vs H Q E) : t_law_below K E { nx := fun _ H' => Q .non H', rt := Q } (L2.start ["one", "two"] vs) H :=
  sp_body (fun ds o h => by
    obtain ⟨m, n, p, q, hp, hq, hz, rfl, rfl⟩ := h
    exact .inl (xs_ret (ev_op (ev_op (ev_fst rfl) (ev_snd rfl) (od_mulB hp.top hq.bot (by omega))) (ev_op (ev_fst rfl) (ev_snd rfl) (od_mulB hq.top hp.bot (by omega))) od_lt))) hs
/-- for k in one: total = _law_plus(total, told[k]) -/
theorem x_tsum {n : Int} {ss : List (List Int)} {fs : List Fr} {row s : List Int} (h : RoundIn n ss fs row) (hs : s ∈ ss) {x6 : Option PyData} :
    ExS K E (tFor (iSeq K (tVar 3)) (gName 5) (tAsg (tCall (sp_law_plus K) [] E0 (tCons (tVar 4) (tCons (tOp (rIx K) (tVar 1) (tVar 5)) tNil))) (gName 4))) [some (famD n ss), some (.tuple (fs.map frD)), some (tI row), some (tI s), some (frD (0, 1)), none, x6] (.nx [some (famD n ss), some (.tuple (fs.map frD)), some (tI row), some (tI s), some (frD (toldSum fs s)), none, x6]) := by
  have hl := (h.fam.lots s hs).len h.fam.n7
  have hbd : ∀ x ∈ s, 0 ≤ x ∧ x < n := (h.fam.lots s hs).2.1
  have hfor := xs_foldI (K := K) (E := E) (ρ := [some (famD n ss), some (.tuple (fs.map frD)), some (tI row), some (tI s), some (frD (0, 1)), none, x6]) (wi := iSeq K (tVar 3)) (j := 5) (ts := tAsg (tCall (sp_law_plus K) [] E0 (tCons (tVar 4) (tCons (tOp (rIx K) (tVar 1) (tVar 5)) tNil))) (gName 4)) (I := fun i b => FrOk (1 + i * 601) b) s .int (fun b => [some (famD n ss), some (.tuple (fs.map frD)), some (tI row), some (tI s), some (frD b), none, x6]) (fun b x => plusM b (fs.getD x.toNat (0, 1))) (0, 1) (it_seqT (ev_var rfl)) (by get_elem_tactic_trivial) (by simpa using frOk0) (fun i x b hx hi he hb => by
      have hx' := getD_ok h.fo x.toNat
      refine ⟨?_, _, xs_asg (ev_call (ea_cons (ev_var rfl) (ea_cons (ev_op (ev_var rfl) (ev_var rfl) (od_ixT (at_fr (hbd x hx).1 (by have := (hbd x hx).2; have := h.fl; omega)))) ea_nil)) ⟨_, _, b, _, hb, hx', by omega, rfl, rfl⟩), by get_elem_tactic_trivial⟩
      have := hb.plus hx'
      have e : 1 + i * 601 + 600 + 1 = 1 + (i + 1) * 601 := by omega
      rw [e] at this; exact this)
  have e : s.foldl (fun b x => plusM b (fs.getD x.toNat (0, 1))) (0, 1) = toldSum fs s := by unfold toldSum sumF; rw [List.foldl_map]
  rw [e] at hfor
  exact hfor
theorem x_rounds_one {n : Int} {ss : List (List Int)} {fs : List Fr} {row s : List Int} (h : RoundIn n ss fs row) (hs : s ∈ ss) : ∃ ρ', ExS K E (tSeq (tAsg (tTup (tCons (tC (.int 0)) (tCons (tC (.int 1)) tNil))) (gName 4))
  (tSeq (tFor (iSeq K (tVar 3)) (gName 5) (tAsg (tCall (sp_law_plus K) [] E0 (tCons (tVar 4) (tCons (tOp (rIx K) (tVar 1) (tVar 5)) tNil))) (gName 4)))
  (tSeq (tAsg (tCB (rSum K) (tCons (tLc (iSeq K (tVar 3)) (gName 5) tYes (tOp (rIx K) (tVar 2) (tVar 5)) [5]) tNil)) (gName 6))
  (tIfS (tOr (tTest (tOp (rLtU K) (tVar 6) (tOp rDivU (tOp (rIx K) (tVar 4) (tC (.int 0))) (tOp (rIx K) (tVar 4) (tC (.int 1)))))) (tTest (tOp rGtI (tVar 6) (tOp rSubU (tC (.int 0)) (tOp rDivU (tOp rSubU (tC (.int 0)) (tOp (rIx K) (tVar 4) (tC (.int 0)))) (tOp (rIx K) (tVar 4) (tC (.int 1)))))))) (tRet (tC (.bl false))) tNext)))) [some (famD n ss), some (.tuple (fs.map frD)), some (tI row), some (tI s), none, none, none] (if roundsOf fs row s then .nx ρ' else .rt (.bool false)) ∧ Fg ρ' [some (famD n ss), some (.tuple (fs.map frD)), some (tI row), none, none, none, none] := by
  have hl := (h.fam.lots s hs).len h.fam.n7
  have hbd : ∀ x ∈ s, 0 ≤ x ∧ x < n := (h.fam.lots s hs).2.1
  have ht := h.told hs
  have e1 : EvD K (tCB (rSum K) (tCons (tLc (iSeq K (tVar 3)) (gName 5) tYes (tOp (rIx K) (tVar 2) (tVar 5)) [5]) tNil)) [some (famD n ss), some (.tuple (fs.map frD)), some (tI row), some (tI s), some (frD (toldSum fs s)), none, none] (.int (sumM row s)) :=
    ev_sumLc s .int (fun x => row.getD x.toNat 0) (it_seqT (ev_var rfl)) (by omega) (by simp) (fun x hx => ev_op (ev_var rfl) (ev_var rfl) (od_ixT (at_tI (hbd x hx).1 (by have := (hbd x hx).2; have := h.rl; omega))))
  refine ⟨[some (famD n ss), some (.tuple (fs.map frD)), some (tI row), some (tI s), some (frD (toldSum fs s)), none, some (.int (sumM row s))], xs_seq (xs_asg (d := frD (0, 1)) (ev_tup (ea_cons ev_int (ea_cons ev_int ea_nil)) (by simp))) (xs_seq (x_tsum h hs) (xs_seq (xs_asg e1) ?_)), by get_elem_tactic_trivial⟩
  have hb9 : Bz 9000 (toldSum fs s).2 := ht.bot.mono (by omega)
  have htest := et_or (K := K) (ρ := [some (famD n ss), some (.tuple (fs.map frD)), some (tI row), some (tI s), some (frD (toldSum fs s)), none, some (.int (sumM row s))]) (et_test (ev_op (ev_var (i := 6) rfl) (ev_op (ev_fst (i := 4) rfl) (ev_snd (i := 4) rfl) (od_divB ht.pos hb9)) od_lt)) (fun _ => et_test (ev_op (ev_var (i := 6) rfl) (ev_op (ev_int (i := 0)) (ev_op (ev_op (ev_int (i := 0)) (ev_fst (i := 4) rfl) od_sub) (ev_snd (i := 4) rfl) (od_divB ht.pos hb9)) od_sub) od_gt))
  cases hr : roundsOf fs row s with
  | true => exact xs_ifF (et_to htest (by rw [roundsOf, Bool.not_eq_true'] at hr; exact hr)) xs_next
  | false => exact xs_ifT (et_to htest (by rw [roundsOf, Bool.not_eq_false'] at hr; exact hr)) (xs_ret ev_bl)
/-- a for that leaves at the first that fails -/
theorem xs_all {α : Type} {wi : TI} {j : Nat} {o : Out} (xs : List α) (enc : α → PyData) (st : Rho) (p : α → Bool) (hi : ItD K wi ρ (xs.map enc)) (h0 : Fg ρ st)
    (hb : ∀ x ∈ xs, ∃ ρ', ExS K E ts (st.set j (some (enc x))) (if p x then .nx ρ' else .rt d) ∧ Fg ρ' st) (hz : xs.all p = true → ExS K E tz st o) (ho : xs.all p = false → o = .rt d) : ExS K E (tSeq (tFor wi (gName j) ts) tz) ρ o := by
  have hf := findM_all (d := d) p xs
  have hfind : ∀ o : Out, ((findM (fun x => if p x then none else some d) xs = none ∧ o = Out.nx st) ∨ ∃ d', findM (fun x => if p x then none else some d) xs = some d' ∧ o = Out.rt d') → ExS K E (tFor wi (gName j) ts) ρ o := fun o ho => xs_find xs enc st (fun x => if p x then none else some d) hi h0 (fun x hx hn => by
      obtain ⟨ρ', h1, h2⟩ := hb x hx
      have hr : p x = true := by cases hr : p x with
        | true => rfl
        | false => simp [hr] at hn
      rw [hr] at h1
      exact ⟨ρ', h1, h2⟩) (fun x hx d' hd => by
      obtain ⟨ρ', h1, h2⟩ := hb x hx
      have hr : p x = false := by cases hr : p x with
        | false => rfl
        | true => simp [hr] at hd
      rw [hr] at h1 hd
      have : d' = d := by simpa using hd.symm
      rw [this]
      exact h1) ho
  cases ha : xs.all p with
  | true =>
    rw [ha] at hf
    exact xs_seq (hfind _ (.inl ⟨hf, rfl⟩)) (hz ha)
  | false =>
    rw [ha] at hf
    rw [ho ha]
    exact xs_seqR (hfind _ (.inr ⟨_, hf, rfl⟩))
theorem pure_law_rounds {vs : List V} {H : Hp} {Q : VK} (hs : sp_law_rounds K vs H Q E) : t_law_rounds K E { nx := fun _ H' => Q .non H', rt := Q } (L2.start ["family", "told", "row", "one", "total", "k", "here"] vs) H :=
  sp_body (fun ds o h => by
    obtain ⟨n, ss, fs, row, h, rfl, rfl⟩ := h
    exact .inl (xs_all ss tI [some (famD n ss), some (.tuple (fs.map frD)), some (tI row), none, none, none, none] (roundsOf fs row) (it_seqT (ev_fam1 rfl)) (Fg.refl _) (fun s hs => x_rounds_one h hs) (fun ha => by rw [ha]; exact xs_ret ev_bl) (fun ha => by rw [ha]))) hs
end
end Lc

set_option Elab.async false
set_option linter.all false
set_option maxRecDepth 100000
set_option maxHeartbeats 4000000
namespace Lc
open PySem L2 PySem.Spec PyProof.Rows
local macro_rules
  | `(tactic| decreasing_trivial) => `(tactic| repeat' (first
      | (with_reducible apply ev_var); rfl | with_reducible exact ev_int | with_reducible exact ev_non | with_reducible exact ev_bl | with_reducible exact ev_str | with_reducible exact ea_nil
      | with_reducible apply ea_cons | with_reducible apply ev_cb | with_reducible apply ev_op | with_reducible apply ev_un | with_reducible apply ev_tup | with_reducible apply ev_lst
      | with_reducible apply et_test | with_reducible apply et_B | with_reducible apply et_not
      | exact od_add | exact od_sub | exact od_lt | exact od_le | exact od_gt | exact od_ge | exact ca_abs | exact ud_neg | exact od_ixT rfl | exact ca_lenT | exact ca_lenL
      | (show List.length _ ≤ 100000; simp; done)))
local macro_rules
  | `(tactic| get_elem_tactic_trivial) => `(tactic| repeat' (first | exact Fg.nil | apply Fg.same | apply Fg.drop))
/-! ### stretches -/
def itv (lo : Int) (k : Nat) : List Int := (List.range k).map fun (i : Nat) => lo + (i : Int)
theorem rngD_itv (lo : Int) (k : Nat) : rngD lo k = (itv lo k).map .int := by unfold rngD itv; rw [List.map_map]; rfl
theorem itv_mem {lo : Int} {k : Nat} {x : Int} : x ∈ itv lo k ↔ lo ≤ x ∧ x < lo + k := by
  unfold itv
  rw [List.mem_map]
  constructor
  · rintro ⟨i, hi, rfl⟩
    have := List.mem_range.mp hi
    omega
  · rintro ⟨h1, h2⟩
    exact ⟨(x - lo).toNat, List.mem_range.mpr (by omega), by omega⟩
theorem itv_lot {n lo : Int} {k : Nat} (h0 : 0 ≤ lo) (h1 : lo + k ≤ n) (hk : 1 ≤ k) : LotOk n (itv lo k) := by
  refine ⟨fun e => ?_, fun x hx => ?_, ascI_of ?_⟩
  · have := itv_mem.mpr (⟨Int.le_refl lo, by omega⟩ : lo ≤ lo ∧ lo < lo + k)
    rw [e] at this; simp at this
  · have := itv_mem.mp hx; omega
  · unfold itv
    exact List.pairwise_map.mpr ((List.pairwise_lt_range).imp fun h => by omega)
def addM (fs : List (List Int)) (f : List Int) : List (List Int) := if f ∈ fs then fs else fs ++ [f]
theorem addM_len (fs : List (List Int)) (f : List Int) : (addM fs f).length ≤ fs.length + 1 ∧ 1 ≤ (addM fs f).length := by
  unfold addM
  split
  · rename_i h; exact ⟨by omega, List.length_pos_of_mem h⟩
  · simp
theorem GoodF.add {n : Int} {fs : List (List Int)} {f : List Int} (h : GoodF n fs) (hf : LotOk n f) : GoodF n (addM fs f) := by
  unfold addM
  split
  · exact h
  · rename_i hm
    refine ⟨fun g hg' => ?_, ?_⟩
    · rcases List.mem_append.mp hg' with z | z
      · exact h.1 g z
      · rw [List.mem_singleton.mp z]; exact hf
    · rw [List.nodup_append]
      refine ⟨h.2, by simp, fun x hx y hy => ?_⟩
      rw [List.mem_singleton.mp hy]
      exact fun z => hm (z ▸ hx)
theorem GoodF.fam {n : Int} {fs : List (List Int)} (h : GoodF n fs) (h1 : 1 ≤ n) (h7 : n ≤ 7) (hl : 1 ≤ fs.length) (h8 : fs.length ≤ 8) : FamOk n (isort HT.lexLt fs) := by
  have hperm := isort_perm (lt := HT.lexLt) fs
  exact ⟨h1, h7, by rw [hperm.length_eq]; exact hl, by rw [hperm.length_eq]; exact h8, fun s hs => h.1 s (hperm.mem_iff.mp hs), sorted_asc (isort_sorted swo_lex fs) (hperm.nodup_iff.mpr h.2)⟩
def P_law_stretches : List PyData → Prop := fun ds => ds = []
def R_law_stretches : List PyData → PyData → Prop := fun ds d => ∃ n ss, FamOk n ss ∧ n ≤ 6 ∧ d = famD n ss
def sp_law_stretches (K : PySem.W.Frag) : Sp := spT K 30 P_law_stretches R_law_stretches
def t_law_stretches (K : PySem.W.Frag) (E : XK) : TS := (tSeq (tPar 2 3 (tCons (tOp (rAddU K) (tC (.int 2)) (tCall (sp_law_draw K) [] E0 (tCons (tVar 0) (tCons (tVar 1) (tCons (tC (.int 5)) tNil))))) (tCons (tLst tNil) tNil)))
  (tSeq (tFor (iRng1 (tCons (tOp (rAddU K) (tC (.int 1)) (tCall (sp_law_draw K) [] E0 (tCons (tVar 0) (tCons (tVar 1) (tCons (tC (.int 8)) tNil))))) tNil)) (gName 4) (tSeq (tAsg (tCall (sp_law_draw K) [] E0 (tCons (tVar 0) (tCons (tVar 1) (tCons (tVar 2) tNil)))) (gName 5))
  (tSeq (tAsg (tTupRg (tRg2 (tVar 5) (tOp (rAddU K) (tOp (rAddU K) (tVar 5) (tC (.int 1))) (tCall (sp_law_draw K) [] E0 (tCons (tVar 0) (tCons (tVar 1) (tCons (tOp rSubU (tVar 2) (tVar 5)) tNil))))))) (gName 6))
  (tAsg (tOp (rAddU K) (tVar 3) (tIf (tTest (tOp (rNotInU K) (tVar 6) (tVar 3))) (tLst (tCons (tVar 6) tNil)) (tLst tNil))) (gName 3)))))
  (tRet (tTup (tCons (tVar 2) (tCons (tCB (rTupleOf K) (tCons (tCB (rSortD K) (tCons (tVar 3) tNil)) tNil)) tNil))))))

section
variable {K : PySem.W.Frag} {E : XK} {tn : Addr} {ns : List Int} {ρ : Rho}
theorem xs_addNew {i j : Nat} {fs : List (List Int)} {f : List Int} (hi : ρ[i]? = some (some (lD fs))) (hj : ρ[j]? = some (some (tI f))) (hz : fs.length ≤ 1000) : ExS K E (tAsg (tOp (rAddU K) (tVar i) (tIf (tTest (tOp (rNotInU K) (tVar j) (tVar i))) (tLst (tCons (tVar j) tNil)) (tLst tNil))) (gName i)) ρ (.nx (ρ.set i (some (lD (addM fs f))))) := by
  have ht : EvT K (tTest (tOp (rNotInU K) (tVar j) (tVar i))) ρ (!decide (f ∈ fs)) := by
    refine et_to (et_test (ev_op (ev_var hj) (ev_var hi) (od_niL (sh_tI (n := 1)) (sh_lD (n := 1))))) ?_
    rw [any_tI]
  have hif : EvD K (tIf (tTest (tOp (rNotInU K) (tVar j) (tVar i))) (tLst (tCons (tVar j) tNil)) (tLst tNil)) ρ (lD (if f ∈ fs then [] else [f])) :=
    ev_if ht (fun e => by
      have : f ∉ fs := by simpa using e
      rw [if_neg this]
      exact ev_lst (ea_cons (ev_var hj) ea_nil) (by simp)) (fun e => by
      have : f ∈ fs := by simpa using e
      rw [if_pos this]
      exact ev_lst ea_nil (by simp))
  have h := xs_asg (i := i) (E := E) (ev_op (ev_var (d := lD fs) hi) hif (od_addL (by split <;> simp <;> omega)))
  have e : lD (addM fs f) = .list (fs.map tI ++ (if f ∈ fs then [] else [f]).map tI) := by
    unfold lD addM
    split <;> simp
  rw [e]
  exact h
theorem x_law_stretches : ExW K tn ns (t_law_stretches K E) [some (scrD ns), some (adrD tn), none, none, none, none, none] 30 (fun _ => False) (R_law_stretches []) := by
  refine ExW.mono (m := 30) (n := 1 + (1 + 8 * 2 + 0)) (cx_par (n := 1) (m := 1 + 8 * 2 + 0) (cw_cons (n := 1) (m := 0) (cw_opR (ev_int (i := 2)) (cw_draw rfl rfl ev_int (by decide) (by decide) (fun r h0 h1 => ⟨_, od_add, cw_one (cw_p (ev_lst ea_nil (by simp)) ⟨_, _, rfl, ?_⟩)⟩))))) (by omega) (fun _ h => h) (fun _ h => h)
  have hm2 : 2 ≤ 2 + r := by omega
  have hm6 : 2 + r ≤ 6 := by omega
  generalize 2 + r = many at hm2 hm6
  show ExW K tn ns _ [some (scrD ns), some (adrD tn), some (.int many), some (lD []), none, none, none] _ _ _
  refine xw_seq (n := 1 + 8 * 2) (m := 0) (Pn := fun ρ' => ∃ fs a b c, GoodF many fs ∧ 1 ≤ fs.length ∧ fs.length ≤ 8 ∧ ρ' = [some (scrD ns), some (adrD tn), some (.int many), some (lD fs), a, b, c]) (xw_forR (n := 1) (B := 8) (m := 2) (R := fun d => ∃ k : Nat, d = .int (k : Int) ∧ 1 ≤ k ∧ k ≤ 8) (cw_opR (ev_int (i := 1)) (cw_draw rfl rfl ev_int (by decide) (by decide) (fun r h0 h1 => ⟨_, od_add, (1 + r).toNat, by rw [Int.toNat_of_nonneg (by omega)], by omega, by omega⟩))) (by rintro d ⟨k, rfl, _, h⟩; exact ⟨k, rfl, h⟩) (by omega)
    (fun i ρ' => ∃ fs a b c, GoodF many fs ∧ (1 ≤ i → 1 ≤ fs.length) ∧ fs.length ≤ i ∧ ρ' = [some (scrD ns), some (adrD tn), some (.int many), some (lD fs), a, b, c]) ⟨[], none, none, none, ⟨fun f hf => by simp at hf, List.nodup_nil⟩, fun h => by omega, Nat.le_refl _, rfl⟩ (fun i ρ' hi hI => ?_) (fun k ρ' hR hI => ?_)) (fun ρ3 hρ3 => ?_)
  · obtain ⟨fs, a, b, c, hg, hne, hlen, rfl⟩ := hI
    refine cx_asg (n := 1) (m := 1) (cw_draw rfl rfl (ev_var rfl) (by omega) (by omega) (fun low h0 h1 => ?_))
    refine cx_asg (n := 1) (m := 0) (cw_tupRg2 (n := 0) (m := 1) (cw_p (ev_var rfl) (cw_opR (ev_op (ev_var rfl) ev_int od_add) (cw_draw rfl rfl (ev_op (ev_var rfl) (ev_var rfl) od_sub) (by omega) (by omega) (fun r k0 k1 => ⟨_, od_add, _, _, rfl, rfl, by omega, by omega, by omega, by omega, ?_⟩)))))
    have e : (low + 1 + r - low).toNat = 1 + r.toNat := by omega
    rw [e, rngD_itv]
    have hlot : LotOk many (itv low (1 + r.toNat)) := itv_lot h0 (by omega) (by omega)
    obtain ⟨a1, a2⟩ := addM_len fs (itv low (1 + r.toNat))
    exact ExW.mono (xw_pure (E := E) (xs_addNew (fs := fs) (f := itv low (1 + r.toNat)) rfl rfl (by omega))) (Nat.le_refl _) (by rintro ρ' rfl; exact ⟨_, _, _, _, hg.add hlot, fun _ => a2, by omega, rfl⟩) (fun _ h => h)
  · obtain ⟨fs, a, b, c, hg, hne, hlen, rfl⟩ := hI
    obtain ⟨k', hk, h1', h8'⟩ := hR
    have : k = k' := by have := PyData.int.inj hk; omega
    subst this
    exact ⟨fs, a, b, c, hg, hne h1', by omega, rfl⟩
  · obtain ⟨fs, a, b, c, hg, h1', h8', rfl⟩ := hρ3
    have hs : EvD K (tCB (rTupleOf K) (tCons (tCB (rSortD K) (tCons (tVar 3) tNil)) tNil)) [some (scrD ns), some (adrD tn), some (.int many), some (lD fs), a, b, c] (tD (isort HT.lexLt fs)) :=
      ev_cb (ea_cons (ev_cb (ea_cons (ev_var (d := lD fs) rfl) ea_nil) (ca_sortLD fun f hf => (hg.1 f hf).1)) ea_nil) ca_tupleL
    exact xw_pureR (E := E) (d := famD many (isort HT.lexLt fs)) (xs_ret (ev_tup (ea_cons (ev_var rfl) (ea_cons hs ea_nil)) (by simp))) ⟨many, _, hg.fam (by omega) (by omega) h1' h8', hm6, rfl⟩
theorem pure_law_stretches {vs : List V} {H : Hp} {Q : VK} (hs : sp_law_stretches K vs H Q E) : t_law_stretches K E { nx := fun _ H' => Q .non H', rt := Q } (L2.start ["script", "town", "many", "found", "turn", "low", "one"] vs) H :=
  sp_bodyT (fun tn ns ds hds => by
    have : ds = [] := hds
    subst this
    exact x_law_stretches) hs
end
end Lc

set_option Elab.async false
set_option linter.all false
set_option maxRecDepth 100000
namespace Lc
open PySem L2
/-! plain facts of k40 -/
theorem eq_of_le_iff {x y : Int} (hx : 0 ≤ x) (hy : 0 ≤ y) (h : ∀ k, 0 ≤ k → (x ≤ k ↔ y ≤ k)) : x = y := by
  have h1 := (h x hx).mp (Int.le_refl _)
  have h2 := (h y hy).mpr (Int.le_refl _)
  omega
def oneM (lot : List Int) (ss : List (List Int)) (row : List Int) : Int := maxM (ss.map fun s => ((sumM row (cutM lot s)).natAbs : Int))
def llStep (lot : List Int) (ss : List (List Int)) (b : Option Int) (row : List Int) : Option Int := match b with
  | none => some (oneM lot ss row)
  | some m => some (if oneM lot ss row < m then oneM lot ss row else m)
theorem ll_fold (lot : List Int) (ss : List (List Int)) : ∀ (rows : List (List Int)) (m : Int), ∃ r, rows.foldl (llStep lot ss) (some m) = some r ∧ ∀ k, r ≤ k ↔ m ≤ k ∨ ∃ row ∈ rows, oneM lot ss row ≤ k
  | [], m => ⟨m, rfl, fun k => by simp⟩
  | x :: rows, m => by
    obtain ⟨r, hr, h⟩ := ll_fold lot ss rows (if oneM lot ss x < m then oneM lot ss x else m)
    refine ⟨r, hr, fun k => ?_⟩
    rw [h k]
    simp only [List.mem_cons, exists_eq_or_imp]
    split <;> constructor <;> intro z <;> rcases z with z | z
    · exact .inr (.inl z)
    · exact .inr (.inr z)
    · left; omega
    · rcases z with z | z
      · exact .inl z
      · exact .inr z
    · exact .inl z
    · exact .inr (.inr z)
    · exact .inl z
    · rcases z with z | z
      · left; omega
      · exact .inr z
theorem ll_some {lot : List Int} {ss : List (List Int)} {rows : List (List Int)} (hne : rows ≠ []) : ∃ r, rows.foldl (llStep lot ss) none = some r ∧ ∀ k, r ≤ k ↔ ∃ row ∈ rows, oneM lot ss row ≤ k := by
  cases rows with
  | nil => exact (hne rfl).elim
  | cons x rows =>
    obtain ⟨r, hr, h⟩ := ll_fold lot ss rows (oneM lot ss x)
    exact ⟨r, hr, fun k => by rw [h k]; simp only [List.mem_cons, exists_eq_or_imp]⟩
theorem ll_lotU {lot : List Int} {ss : List (List Int)} : (rowsM [-1, 1] lot.length).foldl (llStep lot ss) none = some (lotU lot ss) := by
  have hne : rowsM [-1, 1] lot.length ≠ [] := colsM_ne lot.length
  obtain ⟨r, hr, h⟩ := ll_some (lot := lot) (ss := ss) hne
  rw [hr]
  congr 1
  have h0 : 0 ≤ r := by
    obtain ⟨row, _, h1⟩ := (h r).mp (Int.le_refl _)
    have : 0 ≤ oneM lot ss row := maxM_nonneg _
    omega
  refine eq_of_le_iff h0 lotU_nonneg fun k hk => ?_
  rw [h k]
  unfold lotU
  by_cases he : accM lot ss = []
  · rw [if_pos he]
    refine ⟨fun _ => hk, fun _ => ?_⟩
    cases hrw : rowsM [-1, 1] lot.length with
    | nil => exact (hne hrw).elim
    | cons x xs =>
      refine ⟨x, by simp, (maxM_le_iff hk).mpr fun y hy => ?_⟩
      obtain ⟨s, hs, rfl⟩ := List.mem_map.mp hy
      have : cutM lot s = [] := by
        apply Classical.byContradiction
        intro hc
        have : cutM lot s ∈ accM lot ss := accM_mem.mpr ⟨hc, s, hs, rfl⟩
        rw [he] at this; simp at this
      rw [this]
      exact hk
  · rw [if_neg he, least_le hk, Int.toNat_natCast]
    constructor
    · rintro ⟨row, hrow, h1⟩
      refine ⟨row, hrow, fun t ht => ?_⟩
      obtain ⟨_, s, hs, rfl⟩ := accM_mem.mp ((isort_mem _ _ _).mp ht)
      exact (maxM_le_iff hk).mp h1 _ (List.mem_map.mpr ⟨s, hs, rfl⟩)
    · rintro ⟨row, hrow, h1⟩
      refine ⟨row, hrow, (maxM_le_iff hk).mpr fun y hy => ?_⟩
      obtain ⟨s, hs, rfl⟩ := List.mem_map.mp hy
      by_cases hz : cutM lot s = []
      · rw [hz]; exact hk
      · exact h1 _ ((isort_mem _ _ _).mpr (accM_mem.mpr ⟨hz, s, hs, rfl⟩))
/-! the first of the worst lots -/
theorem worst_first (ss : List (List Int)) : ∀ (l : List (List Int)) (b : Int × Option (List Int)), let r := l.foldl (wStep ss) b
    (r = b ∧ ∀ x ∈ l, lotU x ss ≤ b.1) ∨ ∃ (j : Nat) (lot : List Int), l[j]? = some lot ∧ r = (lotU lot ss, some lot) ∧ b.1 < lotU lot ss ∧ (∀ i x, i < j → l[i]? = some x → lotU x ss < lotU lot ss) ∧ ∀ x ∈ l, lotU x ss ≤ lotU lot ss
  | [], b => .inl ⟨rfl, fun x hx => by simp at hx⟩
  | x :: l, b => by
    have ih := worst_first ss l (wStep ss b x)
    simp only [List.foldl_cons] at ih ⊢
    generalize l.foldl (wStep ss) (wStep ss b x) = r at ih
    by_cases hx : b.1 < lotU x ss
    · have e : wStep ss b x = (lotU x ss, some x) := by unfold wStep; rw [if_pos hx]
      rw [e] at ih
      rcases ih with ⟨h1, h2⟩ | ⟨j, lot, h1, h2, h3, h4, h5⟩
      · refine .inr ⟨0, x, rfl, h1, hx, fun i _ hi => by omega, fun y hy => ?_⟩
        rcases List.mem_cons.mp hy with z | z
        · rw [z]; omega
        · exact h2 y z
      · refine .inr ⟨j + 1, lot, by simpa using h1, h2, by simp at h3; omega, fun i y hi hy => ?_, fun y hy => ?_⟩
        · cases i with
          | zero => simp at hy; subst hy; simpa using h3
          | succ i => exact h4 i y (by omega) (by simpa using hy)
        · rcases List.mem_cons.mp hy with z | z
          · rw [z]; simp at h3; omega
          · exact h5 y z
    · have e : wStep ss b x = b := by unfold wStep; rw [if_neg hx]
      rw [e] at ih
      rcases ih with ⟨h1, h2⟩ | ⟨j, lot, h1, h2, h3, h4, h5⟩
      · refine .inl ⟨h1, fun y hy => ?_⟩
        rcases List.mem_cons.mp hy with z | z
        · rw [z]; omega
        · exact h2 y z
      · refine .inr ⟨j + 1, lot, by simpa using h1, h2, h3, fun i y hi hy => ?_, fun y hy => ?_⟩
        · cases i with
          | zero => simp at hy; subst hy; omega
          | succ i => exact h4 i y (by omega) (by simpa using hy)
        · rcases List.mem_cons.mp hy with z | z
          · rw [z]; omega
          · exact h5 y z
theorem worst_at {n : Int} {ss : List (List Int)} (hF : FamOk n ss) : ∃ (j : Nat) (lot : List Int), (lotsM n.toNat)[j]? = some lot ∧ worstM n ss = (lotU lot ss, some lot) ∧ (∀ i x, i < j → (lotsM n.toNat)[i]? = some x → lotU x ss < lotU lot ss) ∧ ∀ x ∈ lotsM n.toNat, lotU x ss ≤ lotU lot ss := by
  rcases worst_first ss (lotsM n.toNat) (-1, none) with ⟨h1, h2⟩ | ⟨j, lot, h1, h2, _, h4, h5⟩
  · obtain ⟨lot, _, e, _⟩ := worst_some hF
    have e1 : worstM n ss = (-1, none) := h1
    rw [e] at e1
    exact absurd (congrArg Prod.snd e1) (by simp)
  · exact ⟨j, lot, h1, h2, h4, h5⟩
/-! the whole lot -/
def allL (n : Int) : List Int := (List.range n.toNat).map fun (i : Nat) => (i : Int)
theorem allL_ok : ∀ k : Nat, 1 ≤ k → k < 8 → LotOk (k : Int) (allL (k : Int)) := by
  intro k h1 h8
  have : ∀ k : Nat, k < 8 → 1 ≤ k → allL (k : Int) ≠ [] ∧ (∀ x ∈ allL (k : Int), 0 ≤ x ∧ x ≤ (k : Int) - 1) ∧ ascI (allL (k : Int)) = true := by decide +kernel
  obtain ⟨a, b, c⟩ := this k h8 h1
  exact ⟨a, fun x hx => by have := b x hx; omega, c⟩
theorem allL_lot {n : Int} (h1 : 1 ≤ n) (h7 : n ≤ 7) : LotOk n (allL n) := by
  have := allL_ok n.toNat (by omega) (by omega)
  rwa [Int.toNat_of_nonneg (by omega)] at this
theorem mem_allL {n x : Int} (h0 : 0 ≤ x) (h : x < n) : x ∈ allL n := List.mem_map.mpr ⟨x.toNat, List.mem_range.mpr (by omega), by omega⟩
theorem lotU_all {n : Int} {ss : List (List Int)} (hF : FamOk n ss) : lotU (allL n) ss = leastM n ss := by
  have h1 := hF.n1
  have h7 := hF.n7
  have hl0 : 0 ≤ leastM n ss := by
    unfold leastM
    refine minM_nonneg fun x hx => ?_
    obtain ⟨c, _, rfl⟩ := List.mem_map.mp hx
    exact maxM_nonneg _
  refine eq_of_le_iff lotU_nonneg hl0 fun k hk => ?_
  rw [lotU_le (allL_lot h1 h7).nd hk, least_le hk]
  have hsg : ∀ (c : Int → Int) (s : List Int), s ∈ ss → sgS c (allL n) s = sm c s := fun c s hs => by
    unfold sgS
    congr 1
    rw [List.filter_eq_self]
    intro x hx
    have := (hF.lots s hs).2.1 x hx
    exact decide_eq_true (mem_allL (by omega) (by omega))
  constructor
  · rintro ⟨c, hc, h⟩
    refine ⟨(allL n).map c, (rowsM_mem [-1, 1] n.toNat _).mpr ⟨by simp [allL], fun x hx => ?_⟩, fun s hs => ?_⟩
    · obtain ⟨y, hy, rfl⟩ := List.mem_map.mp hx
      have := hc y hy
      simpa using this
    · have := h s hs
      rw [hsg c s hs] at this
      have e : sumM ((allL n).map c) s = sm c s := by
        unfold sumM sm
        congr 1
        apply List.map_congr_left
        intro x hx
        have hb := (hF.lots s hs).2.1 x hx
        have : x.toNat < n.toNat := by omega
        unfold allL
        rw [List.getD_eq_getElem?_getD, List.getElem?_map, List.getElem?_map, List.getElem?_range this]
        show c ((x.toNat : Nat) : Int) = c x
        rw [Int.toNat_of_nonneg (by omega)]
      rw [e]; exact this
  · rintro ⟨c, hc, h⟩
    obtain ⟨hcl, hcm⟩ := (rowsM_mem [-1, 1] n.toNat c).mp hc
    refine ⟨fun x => c.getD x.toNat 0, fun x hx => ?_, fun s hs => ?_⟩
    · obtain ⟨i, hi, rfl⟩ := List.mem_map.mp hx
      have hi' := List.mem_range.mp hi
      show c.getD ((i : Int)).toNat 0 = -1 ∨ c.getD ((i : Int)).toNat 0 = 1
      rw [Int.toNat_natCast, List.getD_eq_getElem?_getD, List.getElem?_eq_getElem (by omega)]
      have := hcm _ (List.getElem_mem (by omega : i < c.length))
      simpa using this
    · rw [hsg _ s hs]
      exact h s hs
/-! a family within a lot is one -/
theorem asc_pw : ∀ {l : List Int}, ascI l = true ↔ l.Pairwise (· < ·)
  | [] => by simp [ascI]
  | [a] => by simp [ascI]
  | a :: b :: l => by
    have ih := asc_pw (l := b :: l)
    show (decide (a < b) && ascI (b :: l)) = true ↔ _
    rw [Bool.and_eq_true, ih, List.pairwise_cons (a := a), decide_eq_true_eq]
    constructor
    · rintro ⟨h1, h2⟩
      refine ⟨fun x hx => ?_, h2⟩
      rcases List.mem_cons.mp hx with z | z
      · rw [z]; exact h1
      · have := (List.pairwise_cons.mp h2).1 x z
        omega
    · rintro ⟨h1, h2⟩
      exact ⟨h1 b (by simp), h2⟩
theorem idx_mono {l : List Int} (h : l.Pairwise (· < ·)) {x y : Int} (hx : x ∈ l) (hy : y ∈ l) (hlt : x < y) : l.idxOf x < l.idxOf y := by
  have h1 := List.idxOf_lt_length_of_mem hx
  have h2 := List.idxOf_lt_length_of_mem hy
  have e1 := List.getElem_idxOf h1
  have e2 := List.getElem_idxOf h2
  apply Classical.byContradiction
  intro hn
  rcases Nat.lt_or_eq_of_le (Nat.not_lt.mp hn) with z | z
  · have := List.pairwise_iff_getElem.mp h _ _ h2 h1 z
    rw [e1, e2] at this
    omega
  · have : l[l.idxOf x] = l[l.idxOf y] := by congr 1; exact z.symm
    rw [e1, e2] at this
    omega
theorem cut_lot {n : Int} {lot s : List Int} (hl : LotOk n lot) (hs : LotOk n s) (hne : cutM lot s ≠ []) : LotOk (lot.length : Int) (cutM lot s) := by
  refine ⟨hne, fun x hx => by have := cutM_bd x hx; omega, asc_pw.mpr ?_⟩
  unfold cutM
  rw [List.pairwise_map]
  have hp : (s.filter fun x => decide (x ∈ lot)).Pairwise (· < ·) := List.Pairwise.filter _ (asc_pw.mp hs.2.2)
  refine List.Pairwise.imp_of_mem (fun {a b} ha hb hab => ?_) hp
  have h1 := of_decide_eq_true (List.mem_filter.mp ha).2
  have h2 := of_decide_eq_true (List.mem_filter.mp hb).2
  have := idx_mono (asc_pw.mp hl.2.2) h1 h2 hab
  omega
theorem acc_good {n : Int} {lot : List Int} (hl : LotOk n lot) : ∀ (ss f : List (List Int)), (∀ s ∈ ss, LotOk n s) → GoodF (lot.length : Int) f → GoodF (lot.length : Int) (ss.foldl (stepM lot) f)
  | [], f, _, h => h
  | s :: ss, f, hs, h => by
    rw [List.foldl_cons]
    refine acc_good hl ss _ (fun t ht => hs t (by simp [ht])) ?_
    unfold stepM
    split
    · rename_i hc
      have := h.add (cut_lot hl (hs s (by simp)) hc.1)
      unfold addM at this
      rwa [if_neg hc.2] at this
    · exact h
theorem within_fam {n : Int} {ss : List (List Int)} {lot : List Int} (hF : FamOk n ss) (hl : LotOk n lot) (hne : accM lot ss ≠ []) : FamOk (lot.length : Int) (isort HT.lexLt (accM lot ss)) := by
  have hg : GoodF (lot.length : Int) (accM lot ss) := acc_good hl ss [] hF.lots ⟨fun f hf => by simp at hf, List.nodup_nil⟩
  have h1 : 1 ≤ lot.length := List.length_pos_iff.mpr hl.1
  have h7 := hl.len hF.n7
  have h8 := acc_len (lot := lot) ss []
  have := hF.s8
  exact hg.fam (by omega) (by omega) (List.length_pos_iff.mpr hne) (by unfold accM; simp at h8; omega)
/-! lots of a family within a lot -/
def backL (lot lot2 : List Int) : List Int := lot2.map fun i => lot.getD i.toNat 0
theorem back_mem {n : Int} {lot lot2 : List Int} (hl : LotOk n lot) (h2 : LotOk (lot.length : Int) lot2) {x : Int} : x ∈ backL lot lot2 ↔ x ∈ lot ∧ (lot.idxOf x : Int) ∈ lot2 := by
  unfold backL
  rw [List.mem_map]
  constructor
  · rintro ⟨i, hi, rfl⟩
    have hb := h2.2.1 i hi
    have hlt : i.toNat < lot.length := by omega
    rw [List.getD_eq_getElem?_getD, List.getElem?_eq_getElem hlt]
    refine ⟨List.getElem_mem hlt, ?_⟩
    show (lot.idxOf lot[i.toNat] : Int) ∈ lot2
    rw [hl.nd.idxOf_getElem _ hlt]
    rwa [Int.toNat_of_nonneg (by omega)]
  · rintro ⟨hx, hi⟩
    have hlt := List.idxOf_lt_length_of_mem hx
    refine ⟨_, hi, ?_⟩
    rw [Int.toNat_natCast, List.getD_eq_getElem?_getD, List.getElem?_eq_getElem hlt]
    exact List.getElem_idxOf hlt
theorem back_lot {n : Int} {lot lot2 : List Int} (hl : LotOk n lot) (h2 : LotOk (lot.length : Int) lot2) : LotOk n (backL lot lot2) := by
  refine ⟨fun e => h2.1 (by unfold backL at e; simpa using e), fun x hx => hl.2.1 x ((back_mem hl h2).mp hx).1, asc_pw.mpr ?_⟩
  unfold backL
  rw [List.pairwise_map]
  refine List.Pairwise.imp_of_mem (fun {a b} ha hb hab => ?_) (asc_pw.mp h2.2.2)
  have h3 := h2.2.1 a ha
  have h4 := h2.2.1 b hb
  rw [List.getD_eq_getElem?_getD, List.getD_eq_getElem?_getD, List.getElem?_eq_getElem (by omega), List.getElem?_eq_getElem (by omega)]
  exact List.pairwise_iff_getElem.mp (asc_pw.mp hl.2.2) _ _ _ _ (by omega)
theorem within_lotU {n : Int} {ss : List (List Int)} {lot lot2 : List Int} (hl : LotOk n lot) (h2 : LotOk (lot.length : Int) lot2) : lotU lot2 (isort HT.lexLt (accM lot ss)) ≤ lotU (backL lot lot2) ss := by
  have hb := back_lot hl h2
  obtain ⟨c, hc, h⟩ := (lotU_le (ss := ss) hb.nd lotU_nonneg).mp (Int.le_refl _)
  refine (lotU_le h2.nd lotU_nonneg).mpr ⟨fun i => c (lot.getD i.toNat 0), fun i hi => hc _ (List.mem_map.mpr ⟨i, hi, rfl⟩), fun t ht => ?_⟩
  obtain ⟨_, s, hs, rfl⟩ := accM_mem.mp ((isort_mem _ _ _).mp ht)
  have e : sgS (fun i => c (lot.getD i.toNat 0)) lot2 (cutM lot s) = sgS c (backL lot lot2) s := by
    unfold sgS cutM sm
    rw [List.filter_map, List.map_map, List.filter_filter]
    have ef : (s.filter fun a => ((fun x => decide (x ∈ lot2)) ∘ fun x => (lot.idxOf x : Int)) a && decide (a ∈ lot)) = s.filter fun x => decide (x ∈ backL lot lot2) := by
      apply List.filter_congr
      intro x _
      rw [Bool.eq_iff_iff]
      simp only [Function.comp, Bool.and_eq_true, decide_eq_true_eq]
      rw [back_mem hl h2]
      exact And.comm
    rw [ef]
    congr 1
    apply List.map_congr_left
    intro x hx
    have hx' := ((back_mem hl h2).mp (of_decide_eq_true (List.mem_filter.mp hx).2)).1
    have hlt := List.idxOf_lt_length_of_mem hx'
    show c (lot.getD ((lot.idxOf x : Int)).toNat 0) = c x
    rw [Int.toNat_natCast, List.getD_eq_getElem?_getD, List.getElem?_eq_getElem hlt]
    show c lot[lot.idxOf x] = c x
    rw [List.getElem_idxOf hlt]
  rw [e]
  exact h s hs
end Lc

set_option Elab.async false
set_option linter.all false
set_option maxRecDepth 100000
set_option maxHeartbeats 4000000
namespace Lc
open PySem L2 PySem.Spec PyProof.Rows
/-! ### a call of one of several defs, by a value -/
def FnRef (P : Program) (w : World) (K : PySem.W.Frag) (mg : Str → Option Value) (base : Heap) (k : Nat) (f : Addr) (sp : Sp) : Prop :=
  ∃ j fd ps, j ≤ k ∧ FnOk P w K mg base (L2.CX P w) j f fd ps sp ∧ PySem.W.keepIn K (.ref f) = true ∧ Binds K fd ps []
def CandsOk (P : Program) (w : World) (K : PySem.W.Frag) (mg : Str → Option Value) (base : Heap) (k : Nat) (cs : List (Addr × Sp)) : Prop := ∀ p ∈ cs, FnRef P w K mg base k p.1 p.2
section
variable {P : Program} {w : World} {K : PySem.W.Frag} {mg : Str → Option Value} {base : Heap} {k : Nat}
theorem cands_nil : CandsOk P w K mg base k [] := fun p h => by simp at h
theorem cands_cons {j : Nat} {x : Str} {ps : List Str} {sp : Sp} {cs : List (Addr × Sp)} (F : FnAt P w K mg base j x ps sp) (h : mg x = some (.ref (He.ga K x))) (hj : j ≤ k) (hr : CandsOk P w K mg base k cs) : CandsOk P w K mg base k ((He.ga K x, sp) :: cs) := fun p hp => by
  rcases List.mem_cons.mp hp with z | z
  · subst z
    obtain ⟨f, fd, F1, g, kp, b⟩ := F
    rw [h] at g
    cases g
    exact ⟨j, fd, ps, hj, F1, kp, b⟩
  · exact hr p z
end
def tCallX (cs : List (Addr × Sp)) (E : XK) (tf : TE) (t : TA) : TE := fun σ H Q => tf σ H fun v H1 => ∃ p ∈ cs, v = .ref p.1 ∧ t σ H1 fun vs H2 => p.2 (vs ++ []) H2 Q E
theorem pe_callSub {X : Cx} {k : Nat} {cs : List (Addr × Sp)} {E : XK} {p pos : Pos} {v sl e : Expr} {es : List Expr} {tf : TE} {t : TA} (C : CandsOk X.prog X.w X.K X.mg X.base k cs) (hr : Room k X.A) (hx : Passes (L2.CX X.prog X.w) X E) (hf : PE X (.Subscript v sl p) tf)
    (ha : PA X (e :: es) t) (he : starEach (e :: es) X.env = (false, eval e X.env) :: starEach es X.env := by rfl) (hpl : (backTo pos (starEach es X.env)).any (·.1) = false := by rfl) :
    PE X (.Call (.Subscript v sl p) (e :: es) [] pos) (tCallX cs E tf t) := by
  refine ⟨fun pins s σ H Q I h => ?_⟩
  show wpAny _ _ (eval (.Subscript v sl p) X.env >>= _) _ _ _
  refine wpAny_bind (thn (hf.run pins s σ H _ I h) fun u s1 ⟨v1, H1, I1, r1, q1⟩ => ?_)
  obtain ⟨c, hc, ev, q⟩ := q1
  subst ev
  cases r1
  obtain ⟨j, fd, ps, hj, F1, kp, b⟩ := C c hc
  refine PySem.W.callWith_K (h₀ := X.base) I1.ok.mod.kin kp (thn (ha.run pos pins s1 σ H1 _ I1 q) fun us s2 ⟨vs, H2, I2, r, q2⟩ => ⟨I2.kIn, ?_⟩) he hpl
  exact run_fn F1 (hr.mono hj) b .nil hx I2 r q2
section
variable {K : PySem.W.Frag} {E : XK} {ρ : Rho} {tf : TE} {t : TA}
theorem ev_orC {cs : List (Addr × Sp)} {a : Addr} {R : List PyData → Out → Prop} {ds : List PyData} {o : Out} (hf : EvD K tf ρ (adrD a)) (hc : (a, spD K R) ∈ cs) (ha : EvA K t ρ ds) (h : R ds o) : ∀ A σ H, Live A H → EnvD K (cut A H) σ ρ → ∀ Q : VK, ResC K A E Q H o → tCallX cs E tf t σ H Q := fun A σ H l hE Q q =>
  hf A σ H l hE _ fun v H1 s1 hv => by
    have ev := hv.adrI
    subst ev
    refine ⟨(a, spD K R), hc, rfl, ha A σ H1 (l.same s1) (hE.same (cut_same s1)) _ fun vs H2 s2 hvs => ?_⟩
    rw [List.append_nil]
    refine ⟨A, ds, o, (l.same s1).same s2, hvs, h, ?_⟩
    cases o with
    | nx r => exact q
    | rt d => exact fun v H3 s3 h3 => q v H3 ((s1.trans s2).trans s3) h3
    | ex C => exact fun H3 s3 => q H3 ((s1.trans s2).trans s3)
theorem xs_retC {cs : List (Addr × Sp)} {a : Addr} {R : List PyData → Out → Prop} {ds : List PyData} {o : Out} (hf : EvD K tf ρ (adrD a)) (hc : (a, spD K R) ∈ cs) (ha : EvA K t ρ ds) (h : R ds o) (ho : ∀ r, o ≠ .nx r) : ExS K E (tRet (tCallX cs E tf t)) ρ o := fun A σ H D l hE c =>
  ev_orC hf hc ha h A σ H l hE _ (by
    cases o with
    | nx r => exact (ho r rfl).elim
    | rt d => exact c
    | ex C => exact c)
end
end Lc

set_option Elab.async false
set_option linter.all false
set_option maxRecDepth 100000
set_option maxHeartbeats 4000000
/-! dict(zip(xs, ys)) of two tuples. -/
namespace Lc
open PySem
section
variable {prog : Program} {w : World} {A : Around} {E : Value → Shared → Prop} {s : Shared} {z TI TO T i1 i2 : Addr} {fp1 fp2 : List Addr} {n1 n2 i : Nat} {P1 P2 : Nat → Value → Prop} {St1 St2 : Nat → Heap → Prop} {f : Bool} {oT : Obj}
theorem held_item {Q : Value → Shared → Prop} (S : ZipSep2 z TI TO i1 i2 fp1 fp2) (D1 : Draws prog w A i1 fp1 n1 P1 St1) (D2 : Draws prog w A i2 fp2 n2 P2 St2)
    (hz : IsZipHeld s.heap z TI TO T f) (hT : s.heap.get? T = some oT) (hTI : IsPair s.heap TI (.ref i1) (.ref i2)) (st1 : St1 i s.heap) (st2 : St2 i s.heap) (l1 : i < n1) (l2 : i < n2)
    (hQ : ∀ x y h' tk, P1 i x → P2 i y → IsZipHeld h' z TI TO T true → St1 (i + 1) h' → St2 (i + 1) h' → IsPair h' s.heap.objs.size x y → (∀ c o, c ≠ z → c ≠ i1 → c ≠ i2 → s.heap.get? c = some o → h'.get? c = some o) → Q (.ref s.heap.objs.size) { s with heap := h', toks := tk }) :
    wpAny (model prog w) A (Builtin.«zip.__next__» ⟨[.ref z], []⟩) (fun fin s' => ∃ v, fin = .done (.ret v) ∧ Q v s') E s := by
  obtain ⟨hp, g, d, tk0, os⟩ := s
  show wpAny _ _ (field (.ref z) 2 >>= _) _ _ _
  refine wpAny_bind (wpAny_field hz rfl (x := .bool false) rfl ?_)
  show wpAny _ _ (field (.ref z) 3 >>= _) _ _ _
  refine wpAny_bind (wpAny_field hz rfl (x := .ref TI) rfl ?_)
  refine wpAny_bind (wpAny_seqItems hTI rfl ?_)
  show wpAny _ _ (Builtin.SmallTypes.ownedTupleIsFree (.ref z) >>= _) _ _ _
  refine wpAny_bind (wpAny_tupleHeld_zip hz hT fun h₁ hz₁ hs₁ => ?_)
  replace hs₁ : Heap.SameBut z hp h₁ := hs₁
  simp only [Bool.false_eq_true, if_false]
  refine wpAny_bind ?_
  rw [← Array.forIn_toList]
  simp only [List.forIn_cons, List.forIn_nil]
  refine wpAny_bind (wpAny_bind (wpAny_holding ?_))
  show wpAny _ _ (Builtin.SmallTypes.nextOf (.ref i1) >>= _) _ _ _
  refine wpAny_bind (D1.item i ⟨h₁, g, d, tk0, os⟩ _ _ l1 (D1.over st1 hs₁ S.zf1) fun x h₂ tk1 px sn1 hs₂ => wpAny_pure ?_)
  replace hs₂ : Heap.SameBut i1 h₁ h₂ := hs₂
  refine wpAny_pure ?_
  refine wpAny_bind (wpAny_bind (wpAny_holding ?_))
  show wpAny _ _ (Builtin.SmallTypes.nextOf (.ref i2) >>= _) _ _ _
  refine wpAny_bind (D2.item i ⟨h₂, g, d, tk1, os⟩ _ _ l2 (D2.over (D2.over st2 hs₁ S.zf2) hs₂ S.sep1_2) fun y h₃ tk2 py sn2 hs₃ => wpAny_pure ?_)
  replace hs₃ : Heap.SameBut i2 h₂ h₃ := hs₃
  refine wpAny_pure (wpAny_pure ?_)
  show wpAny _ _ (newTuple [x, y] >>= _) _ _ _
  refine wpAny_bind (wpAny_newTuple ?_)
  have hsz : h₃.objs.size = hp.objs.size := by rw [hs₃.1, hs₂.1, hs₁.1]
  have hz₃ : IsZipHeld h₃ z TI TO T true := hs₃.extBut _ _ S.zi2 (hs₂.extBut _ _ S.zi1 hz₁)
  have hp3 : ∀ b o, h₃.get? b = some o → (h₃.push { cls := .type "tuple", data := .seq #[x, y] }).get? b = some o := fun b o e => Heap.get?_push_of_some _ e
  refine wpAny_pure ⟨_, rfl, ?_⟩
  show Q (.ref h₃.objs.size) _
  have hpr : IsPair (h₃.push { cls := .type "tuple", data := .seq #[x, y] }) h₃.objs.size x y := Heap.get?_push_size _ rfl
  rw [hsz] at hpr ⊢
  exact hQ x y _ tk2 px py (hp3 _ _ hz₃) (D1.frame _ _ _ (D1.over sn1 hs₃ S.sep2_1) fun b _ o e => hp3 b o e) (D2.frame _ _ _ sn2 fun b _ o e => hp3 b o e) hpr fun c o c1 c2 c3 e => hp3 _ _ (hs₃.extBut _ _ c3 (hs₂.extBut _ _ c2 (hs₁.extBut _ _ c1 e)))
theorem held_end {Q : Fin → Shared → Prop} (S : ZipSep2 z TI TO i1 i2 fp1 fp2) (D1 : Draws prog w A i1 fp1 n1 P1 St1) (D2 : Draws prog w A i2 fp2 n2 P2 St2)
    (hz : IsZipHeld s.heap z TI TO T f) (hT : s.heap.get? T = some oT) (hTI : IsPair s.heap TI (.ref i1) (.ref i2)) (st1 : St1 i s.heap) (st2 : St2 i s.heap) (l1 : i ≤ n1) (l2 : i ≤ n2) (le : i = n1 ∨ i = n2)
    (hE : ∀ h' tk e, (∀ c o, c ≠ z → c ≠ i1 → c ≠ i2 → s.heap.get? c = some o → h'.get? c = some o) → (∃ o, h'.get? e = some o ∧ o.cls = .type "StopIteration") → E (.ref e) { s with heap := h', toks := tk }) :
    wpAny (model prog w) A (Builtin.«zip.__next__» ⟨[.ref z], []⟩) Q E s := by
  obtain ⟨hp, g, d, tk0, os⟩ := s
  show wpAny _ _ (field (.ref z) 2 >>= _) _ _ _
  refine wpAny_bind (wpAny_field hz rfl (x := .bool false) rfl ?_)
  show wpAny _ _ (field (.ref z) 3 >>= _) _ _ _
  refine wpAny_bind (wpAny_field hz rfl (x := .ref TI) rfl ?_)
  refine wpAny_bind (wpAny_seqItems hTI rfl ?_)
  show wpAny _ _ (Builtin.SmallTypes.ownedTupleIsFree (.ref z) >>= _) _ _ _
  refine wpAny_bind (wpAny_tupleHeld_zip hz hT fun h₁ hz₁ hs₁ => ?_)
  replace hs₁ : Heap.SameBut z hp h₁ := hs₁
  simp only [Bool.false_eq_true, if_false]
  refine wpAny_bind ?_
  rw [← Array.forIn_toList]
  simp only [List.forIn_cons, List.forIn_nil]
  refine wpAny_bind (wpAny_bind (wpAny_holding ?_))
  show wpAny _ _ (Builtin.SmallTypes.nextOf (.ref i1) >>= _) _ _ _
  by_cases hlt : i < n1
  · have e2 : i = n2 := by omega
    refine wpAny_bind (D1.item i ⟨h₁, g, d, tk0, os⟩ _ _ hlt (D1.over st1 hs₁ S.zf1) fun x h₂ tk1 px sn1 hs₂ => wpAny_pure ?_)
    replace hs₂ : Heap.SameBut i1 h₁ h₂ := hs₂
    refine wpAny_pure ?_
    refine wpAny_bind (wpAny_bind (wpAny_holding ?_))
    show wpAny _ _ (Builtin.SmallTypes.nextOf (.ref i2) >>= _) _ _ _
    subst e2
    refine wpAny_bind (D2.done ⟨h₂, g, d, tk1, os⟩ _ _ (D2.over (D2.over st2 hs₁ S.zf2) hs₂ S.sep1_2) fun h₃ e hs₃ he => ?_)
    exact hE h₃ tk1 e (fun c o c1 c2 c3 x => hs₃ _ _ c3 (hs₂.extBut _ _ c2 (hs₁.extBut _ _ c1 x))) he
  · have e1 : i = n1 := by omega
    subst e1
    refine wpAny_bind (D1.done ⟨h₁, g, d, tk0, os⟩ _ _ (D1.over st1 hs₁ S.zf1) fun h₂ e hs₂ he => ?_)
    exact hE h₂ tk0 e (fun c o c1 c2 _ x => hs₂ _ _ c2 (hs₁.extBut _ _ c1 x)) he
theorem next_held_item {Q : Option Value → Shared → Prop} (S : ZipSep2 z TI TO i1 i2 fp1 fp2) (D1 : Draws prog w A.in1 i1 fp1 n1 P1 St1) (D2 : Draws prog w A.in1 i2 fp2 n2 P2 St2)
    (hz : IsZipHeld s.heap z TI TO T f) (hT : s.heap.get? T = some oT) (hTI : IsPair s.heap TI (.ref i1) (.ref i2)) (st1 : St1 i s.heap) (st2 : St2 i s.heap) (l1 : i < n1) (l2 : i < n2)
    (hQ : ∀ x y h' tk, P1 i x → P2 i y → IsZipHeld h' z TI TO T true → St1 (i + 1) h' → St2 (i + 1) h' → IsPair h' s.heap.objs.size x y → (∀ c o, c ≠ z → c ≠ i1 → c ≠ i2 → s.heap.get? c = some o → h'.get? c = some o) → Q (some (.ref s.heap.objs.size)) { s with heap := h', toks := tk }) :
    wpAny (model prog w) A (pyNext (.ref z)) Q E s := by
  have hTy : s.TypeIs (.ref z) "zip" := ⟨_, hz, rfl⟩
  unfold pyNext
  exact wpAny_bind (wpAny_attempt (wpAny_callSpecial?_slot (name := Str.ofString "__next__") hTy F.slot_zip_next
    (wpAny_call_entry F.slot_zip_next hTy F.entry_zip_next
      (held_item S D1 D2 hz hT hTI st1 st2 l1 l2 fun x y h' tk a1 a2 a3 a4 a5 a6 a7 => wpAny_pure (hQ x y h' tk a1 a2 a3 a4 a5 a6 a7)) (F.args_zip_next_1 _))))
theorem next_held_end {Q : Option Value → Shared → Prop} (S : ZipSep2 z TI TO i1 i2 fp1 fp2) (D1 : Draws prog w A.in1 i1 fp1 n1 P1 St1) (D2 : Draws prog w A.in1 i2 fp2 n2 P2 St2)
    (hz : IsZipHeld s.heap z TI TO T f) (hT : s.heap.get? T = some oT) (hTI : IsPair s.heap TI (.ref i1) (.ref i2)) (st1 : St1 i s.heap) (st2 : St2 i s.heap) (l1 : i ≤ n1) (l2 : i ≤ n2) (le : i = n1 ∨ i = n2)
    (hQ : ∀ h' tk, (∀ c o, c ≠ z → c ≠ i1 → c ≠ i2 → s.heap.get? c = some o → h'.get? c = some o) → Q none { s with heap := h', toks := tk }) : wpAny (model prog w) A (pyNext (.ref z)) Q E s := by
  have hTy : s.TypeIs (.ref z) "zip" := ⟨_, hz, rfl⟩
  unfold pyNext
  refine wpAny_bind (wpAny_attempt (wpAny_callSpecial?_slot (name := Str.ofString "__next__") hTy F.slot_zip_next
    (wpAny_call_entry F.slot_zip_next hTy F.entry_zip_next (held_end S D1 D2 hz hT hTI st1 st2 l1 l2 le fun h' tk e hk he => ?_) (F.args_zip_next_1 _))))
  obtain ⟨o, ho, hc⟩ := he
  refine wpAny_bind (wpAny_isInstance (T := "StopIteration") (b := true) ⟨o, ho, hc⟩ isSubtype_stop ?_)
  exact wpAny_pure (hQ _ _ hk)
end
theorem sep_of {z TI TO i1 i2 l1 l2 : Addr} (D : ZipApart z TI TO i1 i2 l1 l2) (h12 : i1 ≠ l2) (h21 : i2 ≠ l1) : ZipSep2 z TI TO i1 i2 [i1, l1] [i2, l2] where
  TIz := D.TIz
  TOz := D.TOz
  TITO := D.TITO
  TIi1 := D.TIi1
  mem1 := by simp
  zf1 := by simp only [List.mem_cons, List.not_mem_nil, or_false, not_or]; exact ⟨D.i1z.symm, D.l1z.symm⟩
  Tf1 := by simp only [List.mem_cons, List.not_mem_nil, or_false, not_or]; exact ⟨D.TOi1, D.l1TO.symm⟩
  TIi2 := D.TIi2
  mem2 := by simp
  zf2 := by simp only [List.mem_cons, List.not_mem_nil, or_false, not_or]; exact ⟨D.i2z.symm, D.l2z.symm⟩
  Tf2 := by simp only [List.mem_cons, List.not_mem_nil, or_false, not_or]; exact ⟨D.TOi2, D.l2TO.symm⟩
  sep1_2 := by simp only [List.mem_cons, List.not_mem_nil, or_false, not_or]; exact ⟨D.i12, h12⟩
  sep2_1 := by simp only [List.mem_cons, List.not_mem_nil, or_false, not_or]; exact ⟨D.i12.symm, h21⟩
theorem pairs_zipT {prog : Program} {w : World} (z TI TO i1 i2 l1 l2 : Addr) (S : ZipSep2 z TI TO i1 i2 [i1, l1] [i2, l2]) (h1 : l1 ≠ i1) (h2 : l2 ≠ i2) (xs ys : Array Value) :
    PairArg prog w "zip" z [z, TI, TO, i1, i2, l1, l2] [z, TO, i1, i2] (min xs.size ys.size) (fun i k v => xs[i]? = some k ∧ ys[i]? = some v)
      (fun h => IsZip h z TI TO .none ∧ IsPair h TI (.ref i1) (.ref i2) ∧ (∃ a b, IsPair h TO a b) ∧ (h.IsTupleIter i1 l1 0 ∧ h.IsTuple l1 xs) ∧ h.IsTupleIter i2 l2 0 ∧ h.IsTuple l2 ys) where
  type := fun s ok => ⟨_, ok.1, rfl⟩
  notDict := by decide
  keep := fun h h' ok hk => by
    obtain ⟨hz, hTI, ⟨a, b, hTO⟩, ⟨u1, v1⟩, u2, v2⟩ := ok
    exact ⟨hk _ _ hz, hk _ _ hTI, ⟨a, b, hk _ _ hTO⟩, ⟨u1.at fun o e => hk _ o e, v1.at fun o e => hk _ o e⟩, u2.at fun o e => hk _ o e, v2.at fun o e => hk _ o e⟩
  there := fun h ok b hb => by
    obtain ⟨hz, hTI, ⟨a, c, hTO⟩, ⟨⟨o1, u1, _⟩, ⟨o3, v1, _⟩⟩, ⟨o2, u2, _⟩, ⟨o4, v2, _⟩⟩ := ok
    simp only [List.mem_cons, List.not_mem_nil, or_false] at hb
    rcases hb with rfl | rfl | rfl | rfl | rfl | rfl | rfl
    · exact ⟨_, hz⟩
    · exact ⟨_, hTI⟩
    · exact ⟨_, hTO⟩
    · exact ⟨_, u1⟩
    · exact ⟨_, u2⟩
    · exact ⟨_, v1⟩
    · exact ⟨_, v2⟩
  sub := fun b hb => by simp at hb ⊢; rcases hb with rfl | rfl | rfl | rfl <;> simp
  noKeys := fun A s Q E hA ok h => getAttrOr_miss_zip ok.1 rfl rfl rfl zip_no_keys (by decide +kernel) hA h
  iter := fun A s d Q E hA ok hd hdf h => by
    obtain ⟨hz, hTI, ⟨a, b, hTO⟩, st1, st2⟩ := ok
    simp only [List.mem_cons, List.not_mem_nil, or_false, not_or] at hdf
    obtain ⟨dz, dTI, dTO, di1, di2, dl1, dl2⟩ := hdf
    have D1 : Draws prog w A.in1 i1 [i1, l1] xs.size (fun i v => xs[i]? = some v) (fun i h => h.IsTupleIter i1 l1 i ∧ h.IsTuple l1 xs) := Draws.tuple (A := A.in1) hA i1 l1 h1 xs
    have D2 : Draws prog w A.in1 i2 [i2, l2] ys.size (fun i v => ys[i]? = some v) (fun i h => h.IsTupleIter i2 l2 i ∧ h.IsTuple l2 ys) := Draws.tuple (A := A.in1) hA i2 l2 h2 ys
    refine wpAny_pyIter_zip hz (h z [z, TO, i1, i2] (fun i h => IsPair h TI (.ref i1) (.ref i2) ∧ (h.IsTupleIter i1 l1 i ∧ h.IsTuple l1 xs) ∧ (h.IsTupleIter i2 l2 i ∧ h.IsTuple l2 ys) ∧
      ((IsZip h z TI TO .none ∧ ∃ a b, IsPair h TO a b) ∨ ∃ T f oT, IsZipHeld h z TI TO T f ∧ h.get? T = some oT ∧ T ≠ z ∧ T ≠ i1 ∧ T ≠ i2 ∧ T ≠ d)) s.heap s.toks ?_
      ⟨hTI, st1, st2, .inl ⟨hz, a, b, hTO⟩⟩ (fun _ _ e => e) fun b hb => .inl hb)
    exact {
      off := fun hm => by
        simp only [List.mem_cons, List.not_mem_nil, or_false] at hm
        rcases hm with e | e | e | e
        · exact dz e
        · exact dTO e
        · exact di1 e
        · exact di2 e
      frame := fun i h₁ h₂ st hk => by
        obtain ⟨hTI, ⟨u1, v1⟩, ⟨u2, v2⟩, hz⟩ := st
        refine ⟨hk _ _ (Ne.symm dTI) hTI, ⟨u1.at fun o e => hk _ o (Ne.symm di1) e, v1.at fun o e => hk _ o (Ne.symm dl1) e⟩, ⟨u2.at fun o e => hk _ o (Ne.symm di2) e, v2.at fun o e => hk _ o (Ne.symm dl2) e⟩, ?_⟩
        rcases hz with ⟨hz, a, b, hTO⟩ | ⟨T, f, oT, hz, hT, r1, r2, r3, r4⟩
        · exact .inl ⟨hk _ _ (Ne.symm dz) hz, a, b, hk _ _ (Ne.symm dTO) hTO⟩
        · exact .inr ⟨T, f, oT, hk _ _ (Ne.symm dz) hz, hk _ _ r4 hT, r1, r2, r3, r4⟩
      item := fun i s₁ Q₁ E₁ hi st hds hQ => by
        obtain ⟨hTI, st1, st2, hz⟩ := st
        have hix : i < xs.size := Nat.lt_of_lt_of_le hi (Nat.min_le_left ..)
        have hiy : i < ys.size := Nat.lt_of_lt_of_le hi (Nat.min_le_right ..)
        have lt : ∀ {c o}, s₁.heap.get? c = some o → s₁.heap.objs.size ≠ c := fun e => Nat.ne_of_gt (Heap.lt_size e)
        have n1 : s₁.heap.objs.size ≠ i1 := let ⟨_, e⟩ := D1.live _ _ st1; lt e
        have n2 : s₁.heap.objs.size ≠ i2 := let ⟨_, e⟩ := D2.live _ _ st2; lt e
        rcases hz with ⟨hz, a, b, hTO⟩ | ⟨T, f, oT, hz, hT, r1, r2, r3, r4⟩
        · refine wpAny_pyNext_zipD2_item S D1 D2 hz hTI hTO st1 st2 hix hiy fun x y h' tk p1 p2 b1 b2 d1 d2 b5 b6 hk => ?_
          exact hQ s₁.heap.objs.size x y h' tk ⟨p1, p2⟩ (.inl ⟨_, b5, rfl, _, rfl⟩)
            ⟨hk _ _ S.TIz S.TITO S.TIi1 S.TIi2 hTI, d1, d2, .inr ⟨s₁.heap.objs.size, false, _, b1, b5, lt hz, n1, n2, Nat.ne_of_gt hds⟩⟩
            fun c o hc e => hk c o (fun x => hc (by simp [x])) (fun x => hc (by simp [x])) (fun x => hc (by simp [x])) (fun x => hc (by simp [x])) e
        · refine next_held_item S D1 D2 hz hT hTI st1 st2 hix hiy fun x y h' tk p1 p2 b1 d1 d2 b5 hk => ?_
          exact hQ s₁.heap.objs.size x y h' tk ⟨p1, p2⟩ (.inl ⟨_, b5, rfl, _, rfl⟩)
            ⟨hk _ _ S.TIz S.TIi1 S.TIi2 hTI, d1, d2, .inr ⟨T, true, oT, b1, hk _ _ r1 r2 r3 hT, r1, r2, r3, r4⟩⟩
            fun c o hc e => hk c o (fun x => hc (by simp [x])) (fun x => hc (by simp [x])) (fun x => hc (by simp [x])) e
      done := fun s₁ Q₁ E₁ st hQ => by
        obtain ⟨hTI, st1, st2, hz⟩ := st
        rcases hz with ⟨hz, a, b, hTO⟩ | ⟨T, f, oT, hz, hT, r1, r2, r3, r4⟩
        · exact wpAny_pyNext_zipD2_end S D1 D2 hz hTI hTO st1 st2 (by omega) (by omega) (by omega) fun h' tk hk => hQ h' tk fun c o hc e => hk c o (fun x => hc (by simp [x])) (fun x => hc (by simp [x])) (fun x => hc (by simp [x])) (fun x => hc (by simp [x])) e
        · exact next_held_end S D1 D2 hz hT hTI st1 st2 (by omega) (by omega) (by omega) fun h' tk hk => hQ h' tk fun c o hc e => hk c o (fun x => hc (by simp [x])) (fun x => hc (by simp [x])) (fun x => hc (by simp [x])) e }
open L2 PySem.Spec PyProof.Rows
theorem keys_rel {P : Program} {w : World} : ∀ {ks : List Key} {ys : List V} {us ws : List Value}, Vals (ks.map kV) us → Vals ys ws → ks.length = ys.length → ∃ prs : List (Key × Value), KV (ks.zip ys) prs ∧ prs.length = ks.length ∧ ∀ (i : Nat) (k v : Value), us[i]? = some k → ws[i]? = some v → ∃ q, prs[i]? = some (q, v) ∧ (mixKind P w).is q k = true
  | [], [], _, _, h1, h2, _ => by
    rw [List.map_nil] at h1
    cases h1
    exact ⟨[], .nil, rfl, fun i k v h _ => by simp at h⟩
  | [], _ :: _, _, _, _, _, h => by simp at h
  | _ :: _, [], _, _, _, _, h => by simp at h
  | k :: ks, y :: ys, us, ws, h1, h2, hl => by
    rw [List.map_cons] at h1
    cases h1 with
    | cons r1 t1 =>
      cases h2 with
      | cons r2 t2 =>
        rename_i u us w' ws
        obtain ⟨prs, r, l, f⟩ := keys_rel (P := P) (w := w) t1 t2 (by simpa using hl)
        refine ⟨(k, w') :: prs, .cons ⟨rfl, r2⟩ r, by simp [l], fun i q v h h' => ?_⟩
        cases i with
        | zero =>
          simp only [List.getElem?_cons_zero, Option.some.injEq] at h h'
          subst h h'
          exact ⟨k, rfl, kV_is (P := P) (w := w) r1⟩
        | succ i =>
          simp only [List.getElem?_cons_succ] at h h' ⊢
          exact f i q v h h'
def tDictZip (K : PySem.W.Frag) (ta : TA) : TE := fun σ H Q => ta σ H fun vs H1 => ∃ (a b : Addr) (ks : List Key) (ys : List V), vs = [.ref a, .ref b] ∧ SqT K H1 a (ks.map kV) ∧ SqT K H1 b ys ∧ ks.length = ys.length ∧ ∀ p, H1 p = none → Q (.ref p) (upd H1 p (.dK (mergeK [] (ks.zip ys))))
theorem pe_dictZip {X : Cx} {e e2 : Expr} {ta : TA} {p p2 q pos : Pos} (hg : Gl X "dict") (hm : X.mg "dict" = none) (hg2 : Gl X "zip") (hm2 : X.mg "zip" = none) (ha : PA X [e, e2] ta) (hc : X.calm = true := by rfl)
    (hs : starEach [e, e2] X.env = (false, eval e X.env) :: starEach [e2] X.env := by rfl) (hpl : (backTo q (starEach [e2] X.env)).any (·.1) = false := by rfl) : PE X (.Call (.Name "dict" p) [.Call (.Name "zip" p2) [e, e2] [] q] [] pos) (tDictZip X.K ta) := by
  refine ⟨fun pins s σ H Q I h => ?_⟩
  refine Call_ (ld_blt I hg hm PyProof.Rows.boot_dict ?_)
  refine PyProof.Rows.callWith_type1 (PyProof.Rows.args_cons ?_ rfl) rfl rfl
  refine Call_ (ld_blt I hg2 hm2 PyProof.Rows.boot_zip (PyProof.Rows.callWith_type1 (thn (ha.run q pins s σ H _ I h) fun us s1 ⟨vs, H1, I1, r1, q1⟩ => ?_) hs hpl))
  obtain ⟨a, b, ks, ys, rfl, hqx, hqy, hl, q1⟩ := q1
  cases r1 with
  | cons r rr =>
    cases rr with
    | cons r' rr =>
      cases rr
      cases r
      cases r'
      obtain ⟨its, rv, p1, hz1⟩ := I1.tuple hqx
      obtain ⟨its2, rv2, p2, _⟩ := I1.tuple hqy
      obtain ⟨o1, ho1, _⟩ := id p1
      obtain ⟨o2, ho2, _⟩ := id p2
      have la := Heap.lt_size ho1
      have lb := Heap.lt_size ho2
      refine RZ.call_zipT (show s1.heap.IsTuple a its.toArray from p1) (show s1.heap.IsTuple b its2.toArray from p2) fun h' hz hTI hTO h1 h2 hsz hk => PyProof.Rows.args_nil ?_
      have I2 : L2.Inv X pins σ H1 { s1 with heap := h' } := I1.kept (t' := s1.toks) hk
      obtain ⟨prs, kv, hpl2, hrel⟩ := keys_rel (P := X.prog) (w := X.w) rv rv2 hl
      have n1 : its.length = ks.length := by rw [← rv.length, List.length_map]
      have n2 : its2.length = ks.length := by rw [← rv2.length, hl]
      have hle : ks.length ≤ sizeLine := by rw [List.length_map] at hz1; exact hz1
      have S := sep_of (PySem.W.ktu_apart s1.heap.objs.size a b la lb) (Nat.ne_of_gt lb) (Nat.ne_of_gt (Nat.lt_succ_of_lt la))
      refine PySem.call_dict_pairs (s := { s1 with heap := h' }) (knd := mixKind X.prog X.w) (kvs := prs) (pairs_zipT _ _ _ _ _ a b S (Nat.ne_of_lt la) (Nat.ne_of_lt (Nat.lt_succ_of_lt lb)) its.toArray its2.toArray) (I2.ok.hd hc) ⟨hz, hTI, ⟨_, _, hTO⟩, ⟨h1, Heap.IsTuple.at p1 fun o e => hk _ o e⟩, h2, Heap.IsTuple.at p2 fun o e => hk _ o e⟩ ⟨?_, fun i k v hh => ?_⟩ ?_ fun h2' tk hd' hk' => ?_
      · rw [hpl2, List.size_toArray, List.size_toArray, n1, n2, Nat.min_self]
      · exact hrel i k v (by simpa using hh.1) (by simpa using hh.2)
      · rw [List.size_toArray, List.size_toArray, n1, n2, Nat.min_self]; exact hle
      · have hsz' : h'.objs.size = s1.heap.objs.size + 5 := hsz
        have hlen : (mergeK [] (ks.zip ys)).length ≤ sizeLine := by
          refine Nat.le_trans (length_mergeK _ []) ?_
          rw [List.length_nil, Nat.zero_add, List.length_zip, ← hl, Nat.min_self]
          exact hle
        have hm : (h'.objs.size == sysModules) = false := beq_eq_false_iff_ne.mpr (Nat.ne_of_gt I2.big)
        have big : ∀ c o, s1.heap.get? c = some o → c ∉ [s1.heap.objs.size + 4, s1.heap.objs.size + 3, s1.heap.objs.size, s1.heap.objs.size + 1] := fun c o e hc' => by
          have := Heap.lt_size e
          simp only [List.mem_cons, List.not_mem_nil, or_false] at hc'
          rcases hc' with z | z | z | z
          · rw [z] at this; exact absurd this (Nat.not_lt.mpr (Nat.le_add_right _ _))
          · rw [z] at this; exact absurd this (Nat.not_lt.mpr (Nat.le_add_right _ _))
          · rw [z] at this; exact absurd this (Nat.lt_irrefl _)
          · rw [z] at this; exact absurd this (Nat.not_lt.mpr (Nat.le_add_right _ _))
        have I3 : L2.Inv X pins σ H1 { s1 with heap := h2', toks := tk } := I1.kept (t' := tk) fun c o e => hk' c o (big c o e) (hk c o e)
        refine ⟨.ref h'.objs.size, upd H1 h'.objs.size (.dK (mergeK [] (ks.zip ys))), ?_, rfl, q1 _ (I2.hok.fresh (Nat.le_refl _))⟩
        exact I1.laid (t' := tk) (fun c o e => hk' c o (big c o e) (hk c o e)) (by rw [hsz']; omega) (show ObjOk X.prog X.w _ _ _ (.dK (mergeK [] (ks.zip ys))) from ⟨hlen, hm, merged [] prs, KV.merge kv .nil, hd'⟩)
section
variable {K : PySem.W.Frag} {ρ : Rho} {ta tb : TE}
theorem keysI : ∀ {ks : List Int} {H : Hp} {vs : List V}, DqAll K H vs (ks.map .int) → vs = (ks.map (Sum.inl : Int → Key)).map kV
  | [], _, _, h => by cases h; rfl
  | k :: ks, _, _, h => by
    rw [List.map_cons] at h
    cases h with
    | cons h1 h2 =>
      cases h1
      rw [keysI h2]
      rfl
theorem ev_dictZip {ks : List Int} {ds : List PyData} (h1 : EvD K ta ρ (tI ks)) (h2 : EvD K tb ρ (.tuple ds)) (hl : ks.length = ds.length) (hn : ks.Nodup) : EvD K (tDictZip K (tCons ta (tCons tb tNil))) ρ (dI ks ds) := fun A σ H l hE Q q =>
  h1 A σ H l hE _ fun v H1 s1 hv => h2 A σ H1 (l.same s1) (hE.same (cut_same s1)) _ fun w H2 s2 hw => by
    obtain ⟨a, xs, rfl, ha, hxs⟩ := (dp_same (cut_same s2) hv).tupI
    obtain ⟨b, ys, rfl, hb, hys⟩ := hw.tupI
    have ex := keysI hxs
    subst ex
    have hl2 := hys.length
    refine ⟨a, b, ks.map Sum.inl, ys, rfl, sqt_cut ha, sqt_cut hb, by rw [List.length_map]; omega, fun p hnew => ?_⟩
    have hfst : ((ks.map (Sum.inl : Int → Key)).zip ys).map (·.1) = ks.map Sum.inl := List.map_fst_zip (by rw [List.length_map]; omega)
    have hsnd : ((ks.map (Sum.inl : Int → Key)).zip ys).map (·.2) = ys := List.map_snd_zip (by rw [List.length_map]; omega)
    have e : mergeK [] ((ks.map (Sum.inl : Int → Key)).zip ys) = (ks.map Sum.inl).zip ys := by
      unfold mergeK
      rw [merge_nodup _ [] ?_]
      · rfl
      · rw [List.nil_append, hfst]
        have : (ks.map (Sum.inl : Int → Key)).Nodup := by
          rw [List.Nodup, List.pairwise_map]
          exact List.Pairwise.imp (fun h z => h (Sum.inl.inj z)) hn
        exact this
    rw [e]
    refine q _ _ ((s1.trans s2).trans (same_new hnew)) ?_
    have := Dq.dct (K := K) (H := cut A (upd H2 p (.dK ((ks.map (Sum.inl : Int → Key)).zip ys)))) (a := p) (kvs := (ks.map Sum.inl).zip ys) (ds := ds) (cut_new ((l.same s1).same s2) hnew) (by rw [hsnd]; exact dpall_same (cut_same (same_new hnew)) hys)
    rw [hfst] at this
    exact this
end
end Lc

set_option Elab.async false
set_option linter.all false
set_option maxRecDepth 100000
set_option maxHeartbeats 4000000
namespace Lc
open PySem L2 PySem.Spec PyProof.Rows
/-! ### calls that are refused -/
def BadC (K : PySem.W.Frag) (Rc : List PyData → Out → Prop) (d : PyData) : Prop := ∃ how args C k, d = .tuple [how, args, .str (errWords.getD k "")] ∧ k < 15 ∧ Rc [how, args] (.ex C) ∧ ErrIs K C k
section
variable {K : PySem.W.Frag} {E : XK} {ρ ρ1 : Rho} {ta tb tl : TE} {Rc : List PyData → Out → Prop} {j : Nat} {xs ds es : List PyData} {ts tz : TS}
theorem ev_raisesV {te : TE} {k : Nat} (hk : k < 15) (h : EvD K te ρ (.str (errWords.getD k ""))) : EvD K (tCall (sp_law_raises K) [] E0 (tCons te tNil)) ρ (raisedD k) := ev_call (ea_cons h ea_nil) ⟨k, hk, rfl, rfl⟩
theorem ev_refused (h : ∀ d ∈ xs, BadC K Rc d) (hl : EvD K tl ρ (.list xs)) (hz : xs.length ≤ 100000) (hj : j < ρ.length) :
    EvD K (tLc (iSeq K tl) (gName j) (tTest (tOp (rNeD K) (tCall (spD K (R_outcome K Rc)) [] E0 (tCons (tOp (rIx K) (tVar j) (tC (.int 0))) (tCons (tOp (rIx K) (tVar j) (tC (.int 1))) tNil))) (tCall (sp_law_raises K) [] E0 (tCons (tOp (rIx K) (tVar j) (tC (.int 2))) tNil)))) (tVar j) [j]) ρ (.list []) := by
  have hv : ∀ d, ((wipeD ρ [j]).set j (some d))[j]? = some (some d) := fun d => by
    rw [List.getElem?_set_self]
    show j < (ρ.set j none).length
    rw [List.length_set]; exact hj
  have := ev_lcNF (K := K) (ρ := ρ) (wi := iSeq K tl) (j := j) (vs := [j]) (tt := (tTest (tOp (rNeD K) (tCall (spD K (R_outcome K Rc)) [] E0 (tCons (tOp (rIx K) (tVar j) (tC (.int 0))) (tCons (tOp (rIx K) (tVar j) (tC (.int 1))) tNil))) (tCall (sp_law_raises K) [] E0 (tCons (tOp (rIx K) (tVar j) (tC (.int 2))) tNil))))) (te := tVar j) xs (fun x => x) (fun _ => false) (fun x => x) (it_id (it_seqL hl)) hz (by simp) (fun d hd => by
    obtain ⟨how, args, C, k, rfl, hk, hR, hE⟩ := h d hd
    exact ne_false (ev_outX (ev_op (ev_var (hv _)) ev_int (od_ixT rfl)) (ev_op (ev_var (hv _)) ev_int (od_ixT rfl)) hR hE) (ev_raisesV hk (ev_op (ev_var (hv _)) ev_int (od_ixT rfl))) (sh_raised (n := 0)) (by omega)) (fun _ _ z => by cases z)
  have e : xs.filter (fun _ => false) = [] := by rw [List.filter_eq_nil_iff]; simp
  rw [e] at this
  exact this
/-! ### a fresh list, appended to -/
def EvF (K : PySem.W.Frag) (te : TE) (ρ : Rho) (ds : List PyData) : Prop :=
  ∀ A σ H, Live A H → EnvD K (cut A H) σ ρ → ∀ Q : VK, (∀ p H' xs, Same H H' → H p = none → H' p = some (.lst xs) → DqAll K (cut (p :: A) H') xs ds → Q (.ref p) H') → te σ H Q
theorem cut_off {A : List Addr} {H : Hp} {p : Addr} {o : HO} (hp : H p = none) : Same (cut A H) (cut (p :: A) (upd H p o)) := fun a o' e => by
  obtain ⟨h1, h2⟩ := cut_some e
  have hap : a ≠ p := fun z => by rw [z, hp] at h2; cases h2
  rw [cut_out (by
    intro hm
    rcases List.mem_cons.mp hm with z | z
    · exact hap z
    · exact h1 z), upd_ne hap]
  exact h2
theorem cut_more {A : List Addr} {H : Hp} {p : Addr} : Same (cut (p :: A) H) (cut A H) := fun a o e => by
  obtain ⟨h1, h2⟩ := cut_some e
  rw [cut_out (fun z => h1 (List.mem_cons_of_mem _ z))]; exact h2
theorem ef_addL (ha : EvD K ta ρ (.list ds)) (hb : EvD K tb ρ (.list es)) (hz : ds.length + es.length ≤ 100000) : EvF K (tOp (rAddU K) ta tb) ρ (ds ++ es) := fun A σ H l hE Q q =>
  ha A σ H l hE _ fun x H1 s1 hx => hb A σ H1 (l.same s1) (hE.same (cut_same s1)) _ fun y H2 s2 hy => by
    have hx' := dp_same (cut_same s2) hx
    obtain ⟨a, us, rfl, a1, a2⟩ := hx'.listI
    obtain ⟨b, ws, rfl, b1, b2⟩ := hy.listI
    refine .inr (.inr (.inl ⟨a, b, us, ws, rfl, rfl, same_cut _ _ a1, same_cut _ _ b1, ?_, fun p hp => ?_⟩))
    · have h1 := a2.length
      have h2 := b2.length
      have : (100000 : Nat) ≤ sizeLine := by decide
      omega
    · have hn : H p = none := by
        cases e : H p with
        | none => rfl
        | some o => rw [(s1.trans s2) _ _ e] at hp; cases hp
      exact q p _ _ ((s1.trans s2).trans (same_new hp)) hn upd_same (dpall_same (cut_off hp) (a2.append b2))
theorem ef_nil : EvF K (tLst tNil) ρ [] := fun A σ H l hE Q q => ⟨by decide, fun p hp => q p _ _ (same_new hp) hp upd_same .nil⟩
theorem EvF.ev (h : EvF K ta ρ ds) : EvD K ta ρ (.list ds) := fun A σ H l hE Q q => h A σ H l hE Q fun p H' xs s hn hp hd => q _ H' s (.lst (by
  rw [cut_out ((l.fresh hn))]; exact hp) (dpall_same cut_more hd))
/-- calls = (a fresh list); a part that appends; the rest sees the list as data -/
theorem xs_boxA {o : Out} (he : EvF K ta ρ ds) (rr : Addr → Rho) (hr : ∀ b, (rr b)[j]? = some (some (adrD b))) (hb : ∀ b, ExB K b ts (ρ.set j (some (adrD b))) ds (rr b) es) (hz : ∀ b, ExS K E tz ((rr b).set j (some (.list es))) o) :
    ExS K E (tSeq (tAsg ta (gName j)) (tSeq ts tz)) ρ o := fun A σ H D l hE c =>
  he A σ H l hE _ fun p H1 xs s1 hn hp hd => by
    have hpA : p ∉ A := l.fresh hn
    have l2 : Live (p :: A) H1 := fun a ha e => by
      rcases List.mem_cons.mp ha with z | z
      · rw [z, hp] at e; cases e
      · exact (l.same s1) a z e
    have sc : Same (cut A H) (cut (p :: A) H1) := fun a o' e => by
      obtain ⟨h1, h2⟩ := cut_some e
      have hap : a ≠ p := fun z => by rw [z, hn] at h2; cases h2
      rw [cut_out (by
        intro hm
        rcases List.mem_cons.mp hm with z | z
        · exact hap z
        · exact h1 z)]
      exact s1 _ _ h2
    refine hb p (p :: A) _ H1 _ l2 List.mem_cons_self ⟨xs, hp, hd⟩ ((hE.same sc).set (.adr p) j) fun σ2 H' k hB' hE' => ?_
    have vw := box_view hE' (hr p) hB'
    have ef : (p :: A).filter (fun a => decide (a ≠ p)) = A := by
      rw [List.filter_cons_of_neg (by simp), List.filter_eq_self]
      intro a ha
      simp
      intro z
      exact hpA (z ▸ ha)
    rw [ef] at vw
    have lA : Live A H' := fun a ha e => box_live l2 k hB' a (List.mem_cons_of_mem _ ha) e
    have sH : Same H H' := fun a o' e => k a o' (by
      intro hm
      rw [List.mem_singleton.mp hm, hn] at e; cases e) (s1 _ _ e)
    refine hz p A σ2 H' D lA vw ?_
    cases o with
    | nx r => exact fun σ3 H2 s2 h2 => c σ3 H2 (sH.trans s2) h2
    | rt d => exact fun v H2 s2 h2 => c v H2 (sH.trans s2) h2
    | ex C => exact fun H2 s2 => c H2 (sH.trans s2)
/-- a for that appends one for each -/
theorem xb_forApp {i k : Nat} {wi : TI} {te : TE} {b : Addr} (st : Rho) (xs : List PyData) (f : PyData → PyData) (hi : ItD K wi st xs) (hb : st[i]? = some (some (adrD b))) (hik : i ≠ k) (hs : st[k]? = some none) (he : ∀ x ∈ xs, EvD K te (st.set k (some x)) (f x)) (hz : ds.length + xs.length ≤ 100000) :
    ExB K b (tFor wi (gName k) (tDrop (tBM K "list" rAppend (tVar i) (tCons te tNil)))) st ds (if xs = [] then st else st.set k xs.getLast?) (ds ++ xs.map f) := by
  have hst : ∀ o : Option PyData, (st.set k o).set k none = st := fun o => by
    rw [List.set_set]
    obtain ⟨h1, h2⟩ := List.getElem?_eq_some_iff.mp hs
    rw [← h2, List.set_getElem_self]
  have := xb_for (K := K) (b := b) (ρ := st) (ds := ds) (ts := (tDrop (tBM K "list" rAppend (tVar i) (tCons te tNil)))) (wi := wi) (g := gName k) (ws := [k]) xs (fun x => x) (fun n => if n = 0 then st else st.set k (xs[n - 1]?)) (fun n => st.set k (xs[n]?)) (fun n => ds ++ (xs.take n).map f) (it_id hi) rfl (by simp) (fun n hn => by
      show TgD K (gName k) xs[n] (if n = 0 then st else st.set k (xs[n - 1]?)) (st.set k (xs[n]?)) [k]
      have e : (st.set k (xs[n]?)) = (if n = 0 then st else st.set k (xs[n - 1]?)).set k (some xs[n]) := by
        rw [List.getElem?_eq_getElem hn]
        split
        · rfl
        · rw [List.set_set]
      rw [e]
      exact tg_name) (fun n hn => by
      show ExB K b _ (st.set k (xs[n]?)) (ds ++ (xs.take n).map f) (if n + 1 = 0 then st else st.set k (xs[n + 1 - 1]?)) (ds ++ (xs.take (n + 1)).map f)
      rw [if_neg (by omega), Nat.add_sub_cancel, List.take_succ_eq_append_getElem hn, List.map_append, ← List.append_assoc, List.getElem?_eq_getElem hn]
      exact xb_append (by rw [List.getElem?_set_ne (Ne.symm hik)]; exact hb) (he _ (List.getElem_mem hn)) (by rw [List.length_append, List.length_map, List.length_take]; omega))
  rw [List.take_length] at this
  by_cases hx : xs = []
  · rw [if_pos hx]
    simp [hx] at this ⊢
    exact this
  · rw [if_neg hx]
    have hl : ¬ xs.length = 0 := fun e => hx (List.length_eq_zero_iff.mp e)
    have e2 : xs.getLast? = xs[xs.length - 1]? := List.getLast?_eq_getElem?
    rw [e2]
    simpa [hl] using this
end
end Lc

set_option Elab.async false
set_option linter.all false
set_option maxRecDepth 100000
set_option maxHeartbeats 4000000
namespace Lc
open PySem L2 PySem.Spec PyProof.Rows
local macro_rules
  | `(tactic| decreasing_trivial) => `(tactic| repeat' (first
      | (with_reducible apply ev_var); rfl | with_reducible exact ev_int | with_reducible exact ev_non | with_reducible exact ev_bl | with_reducible exact ev_str | with_reducible exact ea_nil
      | with_reducible apply ea_cons | with_reducible apply ev_cb | with_reducible apply ev_op | with_reducible apply ev_un | with_reducible apply ev_tup | with_reducible apply ev_lst
      | with_reducible apply et_test | with_reducible apply et_B | with_reducible apply et_not
      | exact od_add | exact od_sub | exact od_lt | exact od_le | exact od_gt | exact od_ge | exact ca_abs | exact ud_neg | exact od_ixT rfl | exact ca_lenT | exact ca_lenL
      | (show List.length _ ≤ 100000; simp; done)))
local macro_rules
  | `(tactic| get_elem_tactic_trivial) => `(tactic| repeat' (first | exact Fg.nil | apply Fg.same | apply Fg.drop))
def R_law_call (K : PySem.W.Frag) : List PyData → Out → Prop := fun ds o => ∃ how a b, ds = [how, .tuple [a, b]] ∧ (∀ r, o ≠ .nx r) ∧ R_famlot K (fun _ ss lot => .int (lotU lot ss)) [a, b] o
def sp_law_call (K : PySem.W.Frag) : Sp := spD K (R_law_call K)
def sp_law_outcome (K : PySem.W.Frag) : Sp := spD K (R_outcome K (R_law_call K))
def R_law_least : List PyData → Out → Prop := fun ds o => ∃ n ss lot, FamOk n ss ∧ LotOk n lot ∧ ds = [famD n ss, tI lot] ∧ o = .rt (.int (lotU lot ss))
def sp_law_least (K : PySem.W.Frag) : Sp := spD K R_law_least
def t_law_least (K : PySem.W.Frag) (E : XK) : TS := (tSeq (tAsg (tLc (iSeq K (tOp (rIx K) (tVar 0) (tC (.int 1)))) (gName 4) tYes (tLc (iSeq K (tVar 4)) (gName 3) (tTest (tOp (rInU K) (tVar 3) (tVar 1))) (tVar 3) [3]) [4]) (gName 2))
  (tSeq (tAsg (tC .non) (gName 5))
  (tSeq (tFor (iSeq K (tCall (sp_law_all K) [] E0 (tCons (tCB (rLenU K) (tCons (tVar 1) tNil)) (tCons (tTup (tCons (tUn (rU fun i => .int (-i)) (tC (.int 1))) (tCons (tC (.int 1)) tNil))) tNil)))) (gName 6) (tSeq (tAsg (tDictZip K (tCons (tVar 1) (tCons (tVar 6) tNil))) (gName 7))
  (tSeq (tAsg (tCB (rMaxU K) (tCons (tLc (iSeq K (tVar 2)) (gName 8) tYes (tCB rAbsI (tCons (tCB (rSum K) (tCons (tLc (iSeq K (tVar 8)) (gName 3) tYes (tDGet (tVar 7) (tVar 3)) [3]) tNil)) tNil)) [8]) tNil)) (gName 4))
  (tAsg (tIf (tOr (tTest (tOp rIsU (tVar 5) (tC .non))) (tTest (tOp (rLtU K) (tVar 4) (tVar 5)))) (tVar 4) (tVar 5)) (gName 5)))))
  (tRet (tVar 5)))))
def t_law_call (K : PySem.W.Frag) (E : XK) : TS := (tRet (tCall (sp_lot_uneven K) [] E (tCons (tOp (rIx K) (tVar 1) (tC (.int 0))) (tCons (tOp (rIx K) (tVar 1) (tC (.int 1))) tNil))))
def t_law_outcome (K : PySem.W.Frag) (E : XK) : TS := (tSeq (tAsg (tC .non) (gName 2))
  (tSeq (tAsg (tC .non) (gName 3))
  (tSeq (tTryK K (.ref (He.ga K "ColourError")) 4 2 3 (sp_law_call K) (tCons (tVar 0) (tCons (tVar 1) tNil)))
  (tSeq (tIfS (tTest (tOp rIsU (tVar 2) (tC .non))) (tRet (tTup (tCons (tC (.str "returned")) (tCons (tVar 3) tNil)))) tNext)
  (tRet (tTup (tCons (tC (.str "raised")) (tCons (tCall (sp_law_name K) [] E0 (tCons (tVar 2) tNil)) tNil))))))))
section
variable {K : PySem.W.Frag} {E : XK} {ρ : Rho}
theorem pure_law_outcome {vs : List V} {H : Hp} {Q : VK} (hs : sp_law_outcome K vs H Q E) : t_law_outcome K E { nx := fun _ H' => Q .non H', rt := Q } (L2.start ["how", "arguments", "caught", "result", "error"] vs) H := pure_outcome hs
theorem pure_law_call {vs : List V} {H : Hp} {Q : VK} (hs : sp_law_call K vs H Q E) : t_law_call K E { nx := fun _ H' => Q .non H', rt := Q } (L2.start ["how", "arguments"] vs) H :=
  sp_body (fun ds o h => by
    obtain ⟨how, a, b, rfl, hn, h⟩ := h
    exact .inl <| xs_retCall (ea_cons (ev_op (ev_var rfl) ev_int (od_ixT rfl)) (ea_cons (ev_op (ev_var rfl) ev_int (od_ixT rfl)) ea_nil)) h hn) hs
theorem shrT_tI {l : List Int} (h : l.length ≤ 10000) : ShrT (tI l) := fun m e => by cases e; rw [List.length_map]; exact h
theorem ev_worst {ρ : Rho} {n : Int} {ss : List (List Int)} {i : Nat} (hF : FamOk n ss) (hi : ρ[i]? = some (some (famD n ss))) : EvD K (tCall (sp_worst_lot K) [] E0 (tCons (tVar i) tNil)) ρ (worstD n ss) :=
  ev_call (ea_cons (ev_var hi) ea_nil) ⟨rfl, famD n ss, [], rfl, .inr ⟨n, ss, hF, rfl, rfl, rfl⟩⟩
theorem ev_lotU {ρ : Rho} {n : Int} {ss : List (List Int)} {lot : List Int} {i j : Nat} (hF : FamOk n ss) (hl : LotOk n lot) (hi : ρ[i]? = some (some (famD n ss))) (hj : ρ[j]? = some (some (tI lot))) : EvD K (tCall (sp_lot_uneven K) [] E0 (tCons (tVar i) (tCons (tVar j) tNil))) ρ (.int (lotU lot ss)) := by
  have := hl.len hF.n7
  exact ev_call (ea_cons (ev_var hi) (ea_cons (ev_var hj) ea_nil)) ⟨rfl, _, _, rfl, .inr ⟨n, ss, hF, rfl, tI lot, (sh_tI (n := 0)).mono (by omega), shrT_tI (by omega), rfl, by rw [isLot_tI.mpr hl, tupOf_one]; rfl⟩⟩
theorem ev_leastU {ρ : Rho} {n : Int} {ss : List (List Int)} {i : Nat} (hF : FamOk n ss) (hi : ρ[i]? = some (some (famD n ss))) : EvD K (tCall (sp_least_uneven K) [] E0 (tCons (tVar i) tNil)) ρ (.int (leastM n ss)) :=
  ev_call (ea_cons (ev_var hi) ea_nil) ⟨rfl, _, [], rfl, .inr ⟨n, ss, hF, rfl, rfl, rfl⟩⟩
theorem lotU_le7 {n : Int} {ss : List (List Int)} {lot : List Int} (hF : FamOk n ss) (hl : LotOk n lot) : lotU lot ss ≤ 7 := by
  refine (lotU_le hl.nd (by decide)).mpr ⟨fun _ => 1, fun _ _ => .inr rfl, fun s hs => ?_⟩
  have hl7 := (hF.lots s hs).len hF.n7
  have e : ∀ t : List Int, ((sm (fun _ => 1) t).natAbs : Int) = t.length := by
    intro t
    have : sm (fun _ => 1) t = (t.length : Int) := by
      induction t with
      | nil => rfl
      | cons a t ih => rw [sm_cons, ih, List.length_cons]; omega
    rw [this]; omega
  unfold sgS
  rw [e]
  have := List.length_filter_le (fun x => decide (x ∈ lot)) s
  omega
variable {tn : Addr} {ns : List Int} {n m : Nat} {Q : PyData → Prop} in
theorem cw_townW {P : List PyData → Prop} {Rt : List PyData → PyData → Prop} {tl : TE} {i j : Nat} {E' : XK} (hi : ρ[i]? = some (some (scrD ns))) (hj : ρ[j]? = some (some (adrD tn))) (hk : EvW K tn ns tl ρ n (fun d => P [d] ∧ ∀ e, Rt [d] e → Q e)) :
    EvW K tn ns (tCall (spT K m P Rt) [] E' (tCons (tVar i) (tCons (tVar j) (tCons tl tNil)))) ρ (n + m) Q :=
  ew_callT (m := m) (P := P) (Rt := Rt) (E := E') (R := Q) (Rs := fun ds => ∃ d, ds = [scrD ns, adrD tn, d] ∧ P [d] ∧ ∀ e, Rt [d] e → Q e) (cw_consP (ev_var hi) (cw_consP (ev_var hj) (cw_one (EvW.mono hk (Nat.le_refl _) (fun d h => ⟨d, rfl, h⟩))))) (by
    rintro ds ⟨d, rfl, h1, h2⟩
    exact ⟨[d], rfl, h1, h2⟩)
theorem ev_inI {ρ : Rho} {ta tb : TE} {x : Int} {l : List Int} (h1 : EvD K ta ρ (.int x)) (h2 : EvD K tb ρ (tI l)) : EvT K (tTest (tOp (rInU K) ta tb)) ρ (decide (x ∈ l)) := by
  refine et_to (et_test (ev_op h1 h2 (od_inT (sh_int (n := 0)) (sh_tI (n := 0))))) ?_
  rw [any_ints]
theorem lk_row {x : Int} : ∀ {lot row : List Int}, lot.length = row.length → x ∈ lot → lkI lot (row.map .int) x = some (.int (row.getD (lot.idxOf x) 0))
  | [], _, _, h => by simp at h
  | k :: lot, [], h, _ => by simp at h
  | k :: lot, r :: row, hl, hx => by
    by_cases e : k = x
    · subst e
      simp [lkI]
    · have hx' : x ∈ lot := by
        rcases List.mem_cons.mp hx with z | z
        · exact (e z.symm).elim
        · exact z
      have ih := lk_row (lot := lot) (row := row) (by simpa using hl) hx'
      simp only [List.map_cons, lkI, if_neg e, ih, List.idxOf_cons, beq_eq_false_iff_ne.mpr e, cond_false, List.getD_cons_succ]
theorem x_law_least {n : Int} {ss : List (List Int)} {lot : List Int} (hF : FamOk n ss) (hl : LotOk n lot) : ExS K E (t_law_least K E) [some (famD n ss), some (tI lot), none, none, none, none, none, none, none] (.rt (.int (lotU lot ss))) := by
  have h7 := hl.len hF.n7
  have h8 := hF.s8
  have hs7 : ∀ s ∈ ss, s.length ≤ 7 := fun s hs => (hF.lots s hs).len hF.n7
  let ft : List Int → List Int := fun s => s.filter fun x => decide (x ∈ lot)
  have hsome : EvD K (tLc (iSeq K (tOp (rIx K) (tVar 0) (tC (.int 1)))) (gName 4) tYes (tLc (iSeq K (tVar 4)) (gName 3) (tTest (tOp (rInU K) (tVar 3) (tVar 1))) (tVar 3) [3]) [4]) [some (famD n ss), some (tI lot), none, none, none, none, none, none, none] (.list (ss.map fun s => .list ((ft s).map .int))) :=
    ev_lcN ss tI (fun s => .list ((ft s).map .int)) (it_seqT (ev_fam1 rfl)) (by omega) (by simp) (fun s hs => by
      have := hs7 s hs
      exact ev_lcNF s .int (fun x => decide (x ∈ lot)) .int (it_seqT (ev_var rfl)) (by omega) (by simp) (fun x _ => ev_inI (ev_var rfl) (ev_var rfl)) (fun x _ _ => ev_var rfl))
  refine xs_seq (xs_asg hsome) ?_
  refine xs_seq (xs_asg ev_non) ?_
  have hrw : ∀ row ∈ rowsM [-1, 1] lot.length, lot.length = row.length := fun row hr => ((rowsM_mem _ _ _).mp hr).1.symm
  have hloop := xs_fold (K := K) (E := E) (ρ := [some (famD n ss), some (tI lot), some (.list (ss.map fun s => .list ((ft s).map .int))), none, none, some .none, none, none, none]) (wi := iSeq K (tCall (sp_law_all K) [] E0 (tCons (tCB (rLenU K) (tCons (tVar 1) tNil)) (tCons (tTup (tCons (tUn (rU fun i => .int (-i)) (tC (.int 1))) (tCons (tC (.int 1)) tNil))) tNil)))) (j := 6)
    (ts := (tSeq (tAsg (tDictZip K (tCons (tVar 1) (tCons (tVar 6) tNil))) (gName 7)) (tSeq (tAsg (tCB (rMaxU K) (tCons (tLc (iSeq K (tVar 2)) (gName 8) tYes (tCB rAbsI (tCons (tCB (rSum K) (tCons (tLc (iSeq K (tVar 8)) (gName 3) tYes (tDGet (tVar 7) (tVar 3)) [3]) tNil)) tNil)) [8]) tNil)) (gName 4)) (tAsg (tIf (tOr (tTest (tOp rIsU (tVar 5) (tC .non))) (tTest (tOp (rLtU K) (tVar 4) (tVar 5)))) (tVar 4) (tVar 5)) (gName 5)))))
    (rowsM [-1, 1] lot.length) tI (fun b => [some (famD n ss), some (tI lot), some (.list (ss.map fun s => .list ((ft s).map .int))), none, none, some (match b with | none => .none | some m => .int m), none, none, none]) (llStep lot ss) none (it_seqL (ev_call (ea_cons (ev_cb (ea_cons (ev_var rfl) ea_nil) ca_lenT) (ea_cons (ev_tup (ea_cons (ev_un ev_int ud_neg) (ea_cons ev_int ea_nil)) (by simp)) ea_nil)) ⟨lot.length, -1, 1, by omega, by rw [List.length_map]; rfl, rfl⟩)) (by get_elem_tactic_trivial) (fun row b hr => by
      have hlr := hrw row hr
      have hd : ∀ {a c d e f : Option PyData}, EvD K (tDictZip K (tCons (tVar 1) (tCons (tVar 6) tNil))) [some (famD n ss), some (tI lot), a, c, d, e, some (tI row), f, none] (dI lot (row.map .int)) := fun {a c d e f} => ev_dictZip (ev_var rfl) (ev_var rfl) (by rw [List.length_map]; exact hlr) hl.nd
      have hone : ∀ {b : PyData}, EvD K (tCB (rMaxU K) (tCons (tLc (iSeq K (tVar 2)) (gName 8) tYes (tCB rAbsI (tCons (tCB (rSum K) (tCons (tLc (iSeq K (tVar 8)) (gName 3) tYes (tDGet (tVar 7) (tVar 3)) [3]) tNil)) tNil)) [8]) tNil)) [some (famD n ss), some (tI lot), some (.list (ss.map fun s => .list ((ft s).map .int))), none, none, some b, some (tI row), some (dI lot (row.map .int)), none] (.int (oneM lot ss row)) := fun {b} => by
        have hne : ss ≠ [] := fun e => by have := hF.s1; rw [e] at this; simp at this
        refine ev_cb (ea_cons (ev_lcI ss (fun s => .list ((ft s).map .int)) (fun s => ((sumM row (cutM lot s)).natAbs : Int)) (it_seqL (ev_var rfl)) (by omega) (by simp) (fun s hs => ?_)) ea_nil) (ca_max (maxM_mem (by simpa using hne) (fun x hx => by obtain ⟨s, _, rfl⟩ := List.mem_map.mp hx; omega)) (fun x hx => maxM_le hx))
        have hf7 : (ft s).length ≤ 7 := Nat.le_trans (List.length_filter_le _ _) (hs7 s hs)
        have e : sumM row (cutM lot s) = ((ft s).map fun x => row.getD (lot.idxOf x) 0).sum := cut_sum row s
        rw [e]
        refine ev_cb (ea_cons (ev_sumLc (ft s) .int (fun x => row.getD (lot.idxOf x) 0) (it_seqL (ev_var rfl)) (by omega) (by simp) (fun x hx => ?_)) ea_nil) ca_abs
        exact ev_dget (by rw [List.length_map]; exact hlr) (ev_var rfl) (ev_var rfl) (lk_row hlr (of_decide_eq_true (List.mem_filter.mp hx).2))
      cases b with
      | none =>
        exact ⟨_, xs_seq (xs_asg hd) (xs_seq (xs_asg hone) (xs_asg (ev_if (b := true) (et_orT (et_to (et_test (ev_op (ev_var rfl) ev_non od_isN)) rfl)) (fun _ => ev_var rfl) (fun z => by cases z)))), by get_elem_tactic_trivial⟩
      | some m =>
        have ht : EvT K (tOr (tTest (tOp rIsU (tVar 5) (tC .non))) (tTest (tOp (rLtU K) (tVar 4) (tVar 5)))) [some (famD n ss), some (tI lot), some (.list (ss.map fun s => .list ((ft s).map .int))), none, some (.int (oneM lot ss row)), some (.int m), some (tI row), some (dI lot (row.map .int)), none] (decide (oneM lot ss row < m)) :=
          et_orF (et_to (et_test (ev_op (ev_var rfl) ev_non od_isN)) rfl) (et_test (ev_op (ev_var rfl) (ev_var rfl) od_lt))
        refine ⟨_, xs_seq (xs_asg hd) (xs_seq (xs_asg hone) (xs_asg (d := .int (if oneM lot ss row < m then oneM lot ss row else m)) (ev_if ht (fun z => by rw [if_pos (of_decide_eq_true z)]; exact ev_var rfl) (fun z => by rw [if_neg (of_decide_eq_false z)]; exact ev_var rfl)))), by get_elem_tactic_trivial⟩)
  rw [ll_lotU] at hloop
  exact xs_seq hloop (xs_ret (ev_var rfl))
theorem pure_law_least {vs : List V} {H : Hp} {Q : VK} (hs : sp_law_least K vs H Q E) : t_law_least K E { nx := fun _ H' => Q .non H', rt := Q } (L2.start ["family", "lot", "some", "k", "one", "best", "row", "table", "part"] vs) H :=
  sp_body (fun ds o h => by
    obtain ⟨n, ss, lot, hF, hl, rfl, rfl⟩ := h
    exact .inl <| x_law_least hF hl) hs
end
end Lc

set_option Elab.async false
set_option linter.all false
set_option maxRecDepth 100000
set_option maxHeartbeats 4000000
namespace Lc
open PySem L2 PySem.Spec PyProof.Rows
local macro_rules
  | `(tactic| decreasing_trivial) => `(tactic| repeat' (first
      | (with_reducible apply ev_var); rfl | with_reducible exact ev_int | with_reducible exact ev_non | with_reducible exact ev_bl | with_reducible exact ev_str | with_reducible exact ea_nil
      | with_reducible apply ea_cons | with_reducible apply ev_cb | with_reducible apply ev_op | with_reducible apply ev_un | with_reducible apply ev_tup | with_reducible apply ev_lst
      | with_reducible apply et_test | with_reducible apply et_B | with_reducible apply et_not
      | exact od_add | exact od_sub | exact od_lt | exact od_le | exact od_gt | exact od_ge | exact ca_abs | exact ud_neg | exact od_ixT rfl | exact ca_lenT | exact ca_lenL
      | (show List.length _ ≤ 100000; simp; done)))
local macro_rules
  | `(tactic| get_elem_tactic_trivial) => `(tactic| repeat' (first | exact Fg.nil | apply Fg.same | apply Fg.drop))
def t_law40 (K : PySem.W.Frag) (E : XK) : TS := (tSeq (tAsg (tCall (sp_law_town K) [] E0 (tCons (tVar 0) tNil)) (gName 1))
  (tSeq (tAsg (tCall (sp_law_family K) [] E0 (tCons (tVar 0) (tCons (tVar 1) (tCons (tCall (sp_law_pick K) [] E0 (tCons (tVar 0) (tCons (tVar 1) (tCons (tLst (tCons (tC (.int 3)) (tCons (tC (.int 4)) (tCons (tC (.int 5)) (tCons (tC (.int 6)) tNil))))) tNil)))) tNil)))) (gName 2))
  (tSeq (tAsg (tCall (sp_law_lots K) [] E0 (tCons (tOp (rIx K) (tVar 2) (tC (.int 0))) tNil)) (gName 3))
  (tSeq (tAsg (tLc (iSeq K (tVar 3)) (gName 5) tYes (tCall (sp_law_least K) [] E0 (tCons (tVar 2) (tCons (tVar 5) tNil))) [5]) (gName 4))
  (tSeq (tFor (iRng1 (tCons (tC (.int 4)) tNil)) (gName 6) (tSeq (tAsg (tCall (sp_law_draw K) [] E0 (tCons (tVar 0) (tCons (tVar 1) (tCons (tCB (rLenU K) (tCons (tVar 3) tNil)) tNil)))) (gName 7))
  (tIfS (tTest (tOp (rNeD K) (tCall (sp_lot_uneven K) [] E0 (tCons (tVar 2) (tCons (tOp (rIx K) (tVar 3) (tVar 7)) tNil))) (tOp (rIx K) (tVar 4) (tVar 7)))) (tRet (tC (.bl false))) tNext)))
  (tSeq (tAsg (tCB (rMaxU K) (tCons (tVar 4) tNil)) (gName 8))
  (tSeq (tIfS (tTest (tOp (rNeD K) (tCall (sp_worst_lot K) [] E0 (tCons (tVar 2) tNil)) (tTup (tCons (tVar 8) (tCons (tOp (rIx K) (tVar 3) (tIdxL K (tVar 4) (tVar 8))) tNil))))) (tRet (tC (.bl false))) tNext)
  (tSeq (tIfS (tOr (tTest (tOp (rNeD K) (tCall (sp_is_always_even K) [] E0 (tCons (tVar 2) tNil)) (tOp rLeI (tVar 8) (tC (.int 1))))) (tTest (tOp rGtI (tCall (sp_least_uneven K) [] E0 (tCons (tVar 2) tNil)) (tVar 8)))) (tRet (tC (.bl false))) tNext)
  (tSeq (tAsg (tCall (sp_law_pick K) [] E0 (tCons (tVar 0) (tCons (tVar 1) (tCons (tVar 3) tNil)))) (gName 5))
  (tSeq (tAsg (tCall (sp_within K) [] E0 (tCons (tVar 2) (tCons (tVar 5) tNil))) (gName 9))
  (tSeq (tIfS (tTest (tOp rNotU (tVar 9) (tC .non))) (tIfS (tOr (tTest (tOp rGtI (tOp (rIx K) (tCall (sp_worst_lot K) [] E0 (tCons (tVar 9) tNil)) (tC (.int 0))) (tVar 8))) (tTest (tOp (rNeD K) (tCall (sp_least_uneven K) [] E0 (tCons (tVar 9) tNil)) (tCall (sp_lot_uneven K) [] E0 (tCons (tVar 2) (tCons (tVar 5) tNil)))))) (tRet (tC (.bl false))) tNext) tNext)
  (tSeq (tIfS (tTest (tOp (rNeD K) (tCall (sp_lot_uneven K) [] E0 (tCons (tVar 2) (tCons (tTupRg (tRg1 (tOp (rIx K) (tVar 2) (tC (.int 0))))) tNil))) (tCall (sp_least_uneven K) [] E0 (tCons (tVar 2) tNil)))) (tRet (tC (.bl false))) tNext)
  (tSeq (tAsg (tLst (tCons (tC .non) (tCons (tTup tNil) (tCons (tTup (tCons (tOp (rIx K) (tVar 2) (tC (.int 0))) tNil)) (tCons (tTup (tCons (tUn (rU fun i => .int (-i)) (tC (.int 1))) tNil)) (tCons (tLst (tCons (tC (.int 0)) tNil)) (tCons (tTup (tCons (tC (.bl true)) tNil)) (tCons (tTup (tCons (tC (.int 0)) (tCons (tC (.int 0)) tNil))) (tCons (tTup (tCons (tC (.str "0")) tNil)) tNil))))))))) (gName 10))
  (tRet (tOp (rEqD K) (tLc (iSeq K (tVar 10)) (gName 11) (tTest (tOp (rNeD K) (tCall (sp_law_outcome K) [] E0 (tCons (tC (.int 0)) (tCons (tTup (tCons (tVar 2) (tCons (tVar 11) tNil))) tNil))) (tCall (sp_law_raises K) [] E0 (tCons (tC (.str "lot")) tNil)))) (tVar 11) [11]) (tLst tNil))))))))))))))))
section
variable {K : PySem.W.Frag} {E : XK} {tn : Addr} {ns : List Int}
theorem ev_lotUT {ρ : Rho} {n : Int} {ss : List (List Int)} {lot : List Int} {i : Nat} {te : TE} (hF : FamOk n ss) (hl : LotOk n lot) (hi : ρ[i]? = some (some (famD n ss))) (hj : EvD K te ρ (tI lot)) : EvD K (tCall (sp_lot_uneven K) [] E0 (tCons (tVar i) (tCons te tNil))) ρ (.int (lotU lot ss)) := by
  have := hl.len hF.n7
  exact ev_call (ea_cons (ev_var hi) (ea_cons hj ea_nil)) ⟨rfl, _, _, rfl, .inr ⟨n, ss, hF, rfl, tI lot, (sh_tI (n := 0)).mono (by omega), shrT_tI (by omega), rfl, by rw [isLot_tI.mpr hl, tupOf_one]; rfl⟩⟩
theorem ev_within {ρ : Rho} {n : Int} {ss : List (List Int)} {lot : List Int} {i : Nat} {te : TE} (hF : FamOk n ss) (hl : LotOk n lot) (hi : ρ[i]? = some (some (famD n ss))) (hj : EvD K te ρ (tI lot)) : EvD K (tCall (sp_within K) [] E0 (tCons (tVar i) (tCons te tNil))) ρ (withinD lot ss) := by
  have := hl.len hF.n7
  exact ev_call (ea_cons (ev_var hi) (ea_cons hj ea_nil)) ⟨rfl, _, _, rfl, .inr ⟨n, ss, hF, rfl, tI lot, (sh_tI (n := 0)).mono (by omega), shrT_tI (by omega), rfl, by rw [isLot_tI.mpr hl, tupOf_one]; rfl⟩⟩
theorem ev_even {ρ : Rho} {n : Int} {ss : List (List Int)} {i : Nat} (hF : FamOk n ss) (hi : ρ[i]? = some (some (famD n ss))) : EvD K (tCall (sp_is_always_even K) [] E0 (tCons (tVar i) tNil)) ρ (.bool (decide ((worstM n ss).1 ≤ 1))) :=
  ev_call (ea_cons (ev_var hi) ea_nil) ⟨rfl, _, [], rfl, .inr ⟨n, ss, hF, rfl, rfl, rfl⟩⟩
def bads40 (n : Int) : List PyData := [.none, .tuple [], .tuple [.int n], .tuple [.int (-1)], .list [.int 0], .tuple [.bool true], .tuple [.int 0, .int 0], .tuple [.str "0"]]
theorem bads40_ok {n : Int} (h1 : 1 ≤ n) : ∀ d ∈ bads40 n, Sh 40 d ∧ ShrT d ∧ isLot n d = false := fun d hd => by
  have hS : ∀ l : List PyData, l.length ≤ 10000 → ShrT (.tuple l) := fun l hl m e => by cases e; exact hl
  simp only [bads40, List.mem_cons, List.not_mem_nil, or_false] at hd
  rcases hd with rfl | rfl | rfl | rfl | rfl | rfl | rfl | rfl
  · exact ⟨(sh_none (n := 0)).mono (by omega), fun m e => (by cases e), rfl⟩
  · exact ⟨(sh_tup (n := 0) fun x hx => by simp at hx).mono (by omega), hS _ (by simp), rfl⟩
  · refine ⟨(sh_tI (f := [n]) (n := 0)).mono (by omega), hS _ (by simp), ?_⟩
    unfold isLot
    simp [btw_int]
    intro h2; omega
  · refine ⟨(sh_tI (f := [-1]) (n := 0)).mono (by omega), hS _ (by simp), ?_⟩
    unfold isLot
    simp [btw_int]
  · exact ⟨(sh_lst (n := 1) fun x hx => by simp at hx; subst hx; exact sh_int).mono (by omega), fun m e => (by cases e), rfl⟩
  · exact ⟨(sh_tup (n := 1) fun x hx => by simp at hx; subst hx; exact sh_bool).mono (by omega), hS _ (by simp), rfl⟩
  · refine ⟨(sh_tI (f := [0, 0]) (n := 0)).mono (by omega), hS _ (by simp), ?_⟩
    unfold isLot
    simp [ascI, intOf]
  · exact ⟨(sh_tup (n := 1) fun x hx => by simp at hx; subst hx; exact sh_str (by decide +kernel)).mono (by omega), hS _ (by simp), rfl⟩
abbrev r40 (tn : Addr) (ns : List Int) (n : Int) (ss : List (List Int)) (si : PyData) (lo tu k wo sm ba bd : Option PyData) : Rho := [some (scrD ns), some (adrD tn), some (famD n ss), some (lD (lotsM n.toNat)), some si, lo, tu, k, wo, sm, ba, bd]
theorem pure_law40 {vs : List V} {H : Hp} {Q : VK} (hs : spLawE K vs H Q E) : t_law40 K E { nx := fun _ H' => Q .non H', rt := Q } (L2.start ["script", "town", "family", "lots_now", "sizes", "lot", "turn", "k", "worst_one", "small", "bads", "bad"] vs) H := by
  obtain ⟨hE, hs⟩ := hs
  refine law_start (m := 10) (M0 := 1000) rfl (by decide) (fun tn ns hns => ?_) hs
  show ExW K tn ns _ [some (scrD ns), some (adrD tn), none, none, none, none, none, none, none, none, none, none] _ _ _
  refine ExW.mono (n := (1 + 100) + (4 * (1 + 0) + (1 + 0))) (cx_asgR (n := 1 + 100) (m := 4 * (1 + 0) + (1 + 0)) (fun d => ∃ n ss, FamOk n ss ∧ n ≤ 6 ∧ d = famD n ss) (cw_townW (n := 1) (m := 100) rfl rfl (cw_pick rfl rfl (ev_lst (ea_cons ev_int (ea_cons ev_int (ea_cons ev_int (ea_cons ev_int ea_nil)))) (by simp)) (by simp) (by simp) (fun d hd => ?_))) ?_) (by omega) (fun _ h => h) (fun _ h => h)
  · have : ∃ m : Int, d = .int m ∧ 1 ≤ m ∧ m ≤ 6 := by
      simp only [List.mem_cons, List.not_mem_nil, or_false] at hd
      rcases hd with rfl | rfl | rfl | rfl <;> exact ⟨_, rfl, by decide, by decide⟩
    obtain ⟨m, rfl, hm1, hm6⟩ := this
    exact ⟨⟨m, rfl, hm1, by omega⟩, by rintro e ⟨m', n, ss, hm', hF, hn, rfl⟩; cases hm'; exact ⟨n, ss, hF, by omega, rfl⟩⟩
  rintro d ⟨n, ss, hF, hn6, rfl⟩
  have h1 := hF.n1
  have h7 := hF.n7
  have hlots : (lotsM n.toNat).length ≤ 127 ∧ lotsM n.toNat ≠ [] := by
    have : ∀ k, k < 8 → (lotsM k).length ≤ 127 ∧ (1 ≤ k → lotsM k ≠ []) := by decide +kernel
    have := this n.toNat (by omega)
    exact ⟨this.1, this.2 (by omega)⟩
  have hlok : ∀ lot ∈ lotsM n.toNat, LotOk n lot := fun lot h => (lots_mem (by omega) h7).mp h
  refine xw_seqP (E := E0) (xs_asg (d := lD (lotsM n.toNat)) (ev_call (ea_cons (ev_fam0 rfl) ea_nil) ⟨n.toNat, by omega, by rw [Int.toNat_of_nonneg (by omega)], rfl⟩)) ?_
  refine xw_seqP (E := E0) (xs_asg (ev_lcI (lotsM n.toNat) tI (fun lot => lotU lot ss) (it_seqL (ev_var rfl)) (by omega) (by simp) (fun lot hl => ev_call (ea_cons (ev_var rfl) (ea_cons (ev_var rfl) ea_nil)) ⟨n, ss, lot, hF, hlok lot hl, rfl, rfl⟩))) ?_
  -- four lots
  refine xw_seq (n := 4 * (1 + 0)) (m := 1 + 0) (Pn := fun ρ' => ∃ tu k, ρ' = r40 tn ns n ss (.list (((lotsM n.toNat).map fun lot => lotU lot ss).map .int)) none tu k none none none none) (ExW.mono (xw_for (ws := [6]) (List.range 4) (fun (i : Nat) => PyData.int (0 + (i : Int))) (fun _ ρ' => ∃ tu k, ρ' = r40 tn ns n ss (.list (((lotsM n.toNat).map fun lot => lotU lot ss).map .int)) none tu k none none none none) (fun i ρ' => ρ'.set 6 (some (.int (0 + (i : Int))))) (it_rng1 (n := 4) ev_int (by decide)) ⟨none, none, rfl⟩ (fun i hi ρ' _ => tg_name) (n := 1 + 0) ?_) (by simp) (fun _ h => h) (fun _ h => h)) ?_
  · rintro i hi ρ' ⟨tu, k, rfl⟩
    refine cx_asgR (n := 1) (m := 0) (fun d => ∃ (j : Nat) (lot : List Int), (lotsM n.toNat)[j]? = some lot ∧ d = .int (j : Int)) (cw_draw rfl rfl (ev_cb (ea_cons (ev_var rfl) ea_nil) ca_lenL) (by rw [List.length_map]; have := List.length_pos_iff.mpr hlots.2; omega) (by rw [List.length_map]; omega) (fun r k0 k1 => ?_)) ?_
    · rw [List.length_map] at k1
      exact ⟨r.toNat, _, List.getElem?_eq_getElem (by omega), by rw [Int.toNat_of_nonneg k0]⟩
    · rintro d ⟨j, lot, hj, rfl⟩
      have hlot := hlok lot (List.mem_of_getElem? hj)
      refine ExW.mono (xw_ifP (b := false) (ne_false (d := .int (lotU lot ss)) (n := 1) (ev_lotUT hF hlot rfl (ev_op (ev_var rfl) (ev_var rfl) (od_ixL (atI_nat (by rw [List.getElem?_map, hj]; rfl))))) (ev_op (ev_var rfl) (ev_var rfl) (od_ixL (atI_nat (by rw [List.getElem?_map, List.getElem?_map, hj]; rfl)))) sh_int (by omega)) (fun z => by cases z) (fun _ => xw_next)) (Nat.le_refl _) (fun ρ' e => ?_) (fun _ h => h)
      subst e
      exact ⟨_, _, rfl⟩
  rintro ρ' ⟨tu, k, rfl⟩
  obtain ⟨j, wl, hj, hw, hfirst, hmax⟩ := worst_at hF
  have hwl := hlok wl (List.mem_of_getElem? hj)
  refine xw_seqP (E := E0) (xs_asg (d := .int (lotU wl ss)) (ev_cb (ea_cons (ev_var rfl) ea_nil) (ca_max (List.mem_map.mpr ⟨wl, List.mem_of_getElem? hj, rfl⟩) (fun x hx => by obtain ⟨l, hl, rfl⟩ := List.mem_map.mp hx; exact hmax l hl)))) ?_
  refine cx_ifR (b := false) (ne_false (d := worstD n ss) (n := 2) (ev_worst hF rfl) (ev_to (ev_tup (ea_cons (ev_var rfl) (ea_cons (ev_op (ev_var rfl) (ev_idxL (j := j) (z := .int (lotU wl ss)) (n := 1) (m := 0) (ev_var rfl) (ev_var rfl) (sh_lst fun x hx => by obtain ⟨y, _, rfl⟩ := List.mem_map.mp hx; exact sh_int) sh_int (by rw [List.getElem?_map, List.getElem?_map, hj]; rfl) (by rw [eqv_int]; simp) (fun i z' hi hz => ?_)) (od_ixL (atI_nat (d := tI wl) (by rw [List.getElem?_map, hj]; rfl)))) ea_nil)) (by simp)) (by unfold worstD; rw [hw]; rfl)) ?_ (by omega)) (fun z => by cases z) (fun _ => ?_)
  · rw [List.getElem?_map, List.getElem?_map] at hz
    cases hx : (lotsM n.toNat)[i]? with
    | none => rw [hx] at hz; cases hz
    | some x =>
      rw [hx] at hz
      have := hfirst i x hi hx
      cases hz
      rw [eqv_int]
      exact decide_eq_false (by show ¬ lotU x ss = lotU wl ss; omega)
  · unfold worstD
    rw [hw]
    exact sh_tup fun x hx => by
      simp only [List.mem_cons, List.not_mem_nil, or_false] at hx
      rcases hx with rfl | rfl
      · exact sh_int
      · exact (sh_tI (n := 0)).mono (by omega)
  have hle : leastM n ss ≤ lotU wl ss := by
    rw [← lotU_all hF]
    exact hmax _ ((lots_mem (by omega) h7).mpr (allL_lot h1 h7))
  refine cx_ifR (b := false) (et_orF (ne_false (d := .bool (decide (lotU wl ss ≤ 1))) (n := 1) (ev_to (ev_even hF rfl) (by rw [hw])) (ev_op (ev_var rfl) ev_int od_le) sh_bool (by omega)) (et_to (et_test (ev_op (ev_leastU hF rfl) (ev_var rfl) od_gt)) (decide_eq_false (by omega)))) (fun z => by cases z) (fun _ => ?_)
  refine cx_asgR (n := 1) (m := 0) (fun d => ∃ lot, LotOk n lot ∧ d = tI lot) (cw_pick (xs := (lotsM n.toNat).map tI) rfl rfl (ev_var rfl) (by simpa using hlots.2) (by rw [List.length_map]; omega) (fun d hd => ?_)) ?_
  · obtain ⟨lot, hl, rfl⟩ := List.mem_map.mp hd
    exact ⟨lot, hlok lot hl, rfl⟩
  rintro d ⟨lot, hlot, rfl⟩
  refine xw_seqP (E := E0) (xs_asg (ev_within hF hlot rfl (ev_var rfl))) ?_
  have rest : ExW K tn ns (tSeq (tIfS (tTest (tOp (rNeD K) (tCall (sp_lot_uneven K) [] E0 (tCons (tVar 2) (tCons (tTupRg (tRg1 (tOp (rIx K) (tVar 2) (tC (.int 0))))) tNil))) (tCall (sp_least_uneven K) [] E0 (tCons (tVar 2) tNil)))) (tRet (tC (.bl false))) tNext)
      (tSeq (tAsg (tLst (tCons (tC .non) (tCons (tTup tNil) (tCons (tTup (tCons (tOp (rIx K) (tVar 2) (tC (.int 0))) tNil)) (tCons (tTup (tCons (tUn (rU fun i => .int (-i)) (tC (.int 1))) tNil)) (tCons (tLst (tCons (tC (.int 0)) tNil)) (tCons (tTup (tCons (tC (.bl true)) tNil)) (tCons (tTup (tCons (tC (.int 0)) (tCons (tC (.int 0)) tNil))) (tCons (tTup (tCons (tC (.str "0")) tNil)) tNil))))))))) (gName 10))
      (tRet (tOp (rEqD K) (tLc (iSeq K (tVar 10)) (gName 11) (tTest (tOp (rNeD K) (tCall (sp_law_outcome K) [] E0 (tCons (tC (.int 0)) (tCons (tTup (tCons (tVar 2) (tCons (tVar 11) tNil))) tNil))) (tCall (sp_law_raises K) [] E0 (tCons (tC (.str "lot")) tNil)))) (tVar 11) [11]) (tLst tNil)))))
      (r40 tn ns n ss (.list (((lotsM n.toNat).map fun lot => lotU lot ss).map .int)) (some (tI lot)) tu k (some (.int (lotU wl ss))) (some (withinD lot ss)) none none) 0 (fun _ => False) (· = .bool true) := by
    have hall : tI (allL n) = .tuple (rngD 0 n.toNat) := by
      unfold tI allL rngD
      rw [List.map_map]
      congr 1
      apply List.map_congr_left
      intro i _
      show PyData.int (i : Int) = .int (0 + (i : Int))
      rw [Int.zero_add]
    refine cx_ifR (b := false) (ne_false (d := .int (leastM n ss)) (n := 1) (ev_to (ev_lotUT hF (allL_lot h1 h7) rfl (ev_to (ev_tupRg1 (ev_fam0 rfl) (by omega) (by omega)) hall.symm)) (by rw [lotU_all hF])) (ev_leastU hF rfl) sh_int (by omega)) (fun z => by cases z) (fun _ => ?_)
    refine xw_seqP (E := E0) (xs_asg (d := .list (bads40 n)) (ev_lst (ea_cons ev_non (ea_cons (ev_tup ea_nil (by simp)) (ea_cons (ev_tup (ea_cons (ev_fam0 rfl) ea_nil) (by simp)) (ea_cons (ev_tup (ea_cons (ev_un ev_int ud_neg) ea_nil) (by simp)) (ea_cons (ev_lst (ea_cons ev_int ea_nil) (by simp)) (ea_cons (ev_tup (ea_cons ev_bl ea_nil) (by simp)) (ea_cons (ev_tup (ea_cons ev_int (ea_cons ev_int ea_nil)) (by simp)) (ea_cons (ev_tup (ea_cons ev_str ea_nil) (by simp)) ea_nil)))))))) (by show (8 : Nat) ≤ 100000; decide))) ?_
    refine xw_pureR (E := E) (xs_ret (d := .bool true) ?_) rfl
    have hx := ev_lcNF (K := K) (ρ := r40 tn ns n ss (.list (((lotsM n.toNat).map fun lot => lotU lot ss).map .int)) (some (tI lot)) tu k (some (.int (lotU wl ss))) (some (withinD lot ss)) (some (.list (bads40 n))) none) (wi := iSeq K (tVar 10)) (j := 11) (vs := [11]) (tt := (tTest (tOp (rNeD K) (tCall (sp_law_outcome K) [] E0 (tCons (tC (.int 0)) (tCons (tTup (tCons (tVar 2) (tCons (tVar 11) tNil))) tNil))) (tCall (sp_law_raises K) [] E0 (tCons (tC (.str "lot")) tNil))))) (te := tVar 11) (bads40 n) (fun x => x) (fun _ => false) (fun x => x) (it_id (it_seqL (ev_var rfl))) (by show (8 : Nat) ≤ 100000; decide) (by simp) (fun d hd => by
      obtain ⟨b1, b2, b3⟩ := bads40_ok h1 d hd
      exact ne_false (ev_outX ev_int (ev_tup (ea_cons (ev_var rfl) (ea_cons (ev_var rfl) ea_nil)) (by show (2 : Nat) ≤ 100000; decide)) ⟨_, _, _, rfl, ⟨fun r e => (by cases e), rfl, _, _, rfl, .inr ⟨n, ss, hF, rfl, d, b1, b2, rfl, by rw [b3]; rfl⟩⟩⟩ (hE 3 (by decide))) (ev_raises 3 (by decide) rfl) (sh_raised (n := 0)) (by omega)) (fun _ _ z => by cases z)
    have e : (bads40 n).filter (fun _ => false) = [] := by rw [List.filter_eq_nil_iff]; simp
    rw [e] at hx
    exact ev_to (ev_op hx (ev_lst ea_nil (by simp)) (od_eq (sh_nilL (n := 0)) (sh_nilL (n := 0)))) rfl
  by_cases hac : accM lot ss = []
  · have hwd : withinD lot ss = .none := by unfold withinD; rw [if_pos hac]
    rw [hwd] at rest ⊢
    refine cx_ifB (b := false) (et_to (et_test (ev_op (ev_var rfl) ev_non od_notN)) rfl) (fun z => by cases z) (fun _ => rest)
  · have hwd : withinD lot ss = famD (lot.length : Int) (isort HT.lexLt (accM lot ss)) := by unfold withinD; rw [if_neg hac]
    have hF2 := within_fam hF hlot hac
    obtain ⟨lot2, hl2, hw2, _⟩ := worst_some hF2
    have hb2 := back_lot hlot hl2
    have hle2 : lotU lot2 (isort HT.lexLt (accM lot ss)) ≤ lotU wl ss := Int.le_trans (within_lotU hlot hl2) (hmax _ ((lots_mem (by omega) h7).mpr hb2))
    have hlu : lotU lot ss = leastM (lot.length : Int) (isort HT.lexLt (accM lot ss)) := by unfold lotU; rw [if_neg hac]
    rw [hwd] at rest ⊢
    refine xw_seqP (E := E0) (xs_ifT (et_to (et_test (ev_op (ev_var rfl) ev_non od_notN)) rfl) (xs_ifF (et_orF (et_to (et_test (ev_op (ev_op (ev_worst hF2 rfl) ev_int (od_ixT rfl)) (ev_var rfl) od_gt)) (decide_eq_false (by rw [hw2]; show ¬ _ < lotU lot2 _; omega))) (ne_false (d := .int (leastM (lot.length : Int) (isort HT.lexLt (accM lot ss)))) (n := 1) (ev_leastU hF2 rfl) (ev_to (ev_lotU hF hlot rfl rfl) (by rw [hlu])) sh_int (by omega))) xs_next)) rest
end
end Lc

set_option Elab.async false
set_option linter.all false
set_option maxRecDepth 100000
set_option maxHeartbeats 4000000
namespace Lc
open PySem L2 PySem.Spec PyProof.Rows
/-! ### the head's look with the errors -/
def obsX (n : Nat) (fa : List He.Fa) (fn : List He.DefD) (g : Addr → Option Obj) : Bool × He.AlD := (errsB (He.frG g (He.asD g n)), He.obsD fa fn (He.frG g (He.asD g n)))
def hookX (n : Nat) (fa : List He.Fa) (fn : List He.DefD) : PySem.W.Hook where
  α := Bool × He.AlD
  obs := fun s => obsX n fa fn s.heap.get?
  val := fun _ => (true, He.valD fn)
  says := fun _ h => ∃ K : PySem.W.Frag, K.In h ∧ errsB K = true ∧ He.SaysD fa fn K
  of := fun _ _ e => ⟨_, He.frG_in, congrArg Prod.fst e, congrArg Prod.snd e⟩
  keeps := fun _ _ _ ⟨K, hK, b, c⟩ k => ⟨K, PySem.W.Frag.In.keeps hK k, b, c⟩
theorem obsX_eq {n : Nat} {fa : List He.Fa} {fn : List He.DefD} {g : Addr → Option Obj} {s : Shared} (h : ∀ a, g a = s.heap.get? a) : obsX n fa fn g = (hookX n fa fn).obs s := by
  have e : g = s.heap.get? := funext h
  rw [e] <;> rfl
end Lc

set_option maxHeartbeats 0
namespace Lc
open PySem L2 PySem.Spec PyProof.Rows
def top (i : Nat) : Stmt := PySem.Challenge.pw_lotcolours_k40_whole_lots.main.body.getD i (.Pass ⟨0, 0, 0, 0⟩)
abbrev s_law_draw : Stmt := top 40
theorem sc_law_draw : FnScope ["script", "town", "limit", "at", "left", "number"] ["script", "town", "limit"] (defScope s_law_draw) := ⟨rfl, rfl, rfl, by decide +kernel, rfl, by decide +kernel, by decide +kernel⟩
theorem d_law_draw {P : Program} {w : World} {K : PySem.W.Frag} {mg : Str → Option Value} {base : Heap} (T : Bl mg)  (f : Addr) (cdv : Value) (A : Around) (outer : List Env) (s : Shared) (H : Hp) (E : XK) (hr : Room 0 (A.deeper (envOfC "_law_draw" (defScope s_law_draw) s.heap.objs.size f cdv))) :
  PSs (cxOf (L2.CX P w) P w K mg base ["script", "town", "limit", "at", "left", "number"] "_law_draw" (defScope s_law_draw) f cdv A outer s H E).nox (defBody s_law_draw) (t_law_draw K E) :=
  (pss_cons (ps_asg (pe_op op_addU (pe_ix ix_seq (pv 1) pe_int (fun _ _ => rfl)) pe_int) (pg_sub (pv 1) pe_int set_list))
  (pss_cons (ps_if (pt_cmpR (op_eqD hr.units) (pv 0) (pe_lst pa_nil) (nomark _)) (pss_one (ps_ret (pe_op op_mod (pe_op op_divU (pe_op op_mulU (pe_op op_mulU (pe_ix ix_seq (pv 1) pe_int (fun _ _ => rfl)) (pe_ix ix_seq (pv 1) pe_int (fun _ _ => rfl))) pe_int) pe_int) (pv 2)))) pss_nil)
  (pss_cons (ps_set (i := 3) sc_law_draw.nd rfl (by first | exact Or.inl rfl | exact Or.inr rfl) (pe_op op_mod (pe_ix ix_seq (pv 1) pe_int (fun _ _ => rfl)) (pe_callB cr_lenU (by rfl) T.b_len (by decide +kernel) (pa_cons (pv 0) pa_nil))))
  (pss_cons (ps_set (i := 4) sc_law_draw.nd rfl (by first | exact Or.inl rfl | exact Or.inr rfl) (pe_ix ix_seq (pv 1) (pe_op op_addU pe_int (pv 3)) (fun _ _ => rfl)))
  (pss_cons (ps_if (PW.pt (pw_and (pt_cmpR op_ge (pe_ix ix_seq (pv 0) (pv 3) (fun _ _ => rfl)) (pe_op op_pow pe_int pe_int) (nomark _)) (pw_and1 (pt_cmpR op_gt (pv 4) pe_int (nomark _))))) (pss_cons (ps_asg (pe_op op_divU (pv 4) (pv 2)) (pg_sub (pv 1) (pe_op op_addU pe_int (pv 3)) set_list))
  (pss_one (ps_ret (pe_op op_mod (pv 4) (pv 2))))) pss_nil)
  (pss_cons (ps_set (i := 5) sc_law_draw.nd rfl (by first | exact Or.inl rfl | exact Or.inr rfl) (pe_op op_mod (pe_op op_addU (pe_ix ix_seq (pv 0) (pv 3) (fun _ _ => rfl)) (pe_op op_mulU pe_int (pe_ix ix_seq (pv 1) pe_int (fun _ _ => rfl)))) pe_int))
  (pss_cons (ps_set (i := 5) sc_law_draw.nd rfl (by first | exact Or.inl rfl | exact Or.inr rfl) (pe_op op_mod (pe_op op_pow (pv 5) pe_int) pe_int))
  (pss_one (ps_ret (pe_op op_mod (pe_op op_divU (pe_op op_mod (pe_op op_addU (pe_op op_mulU (pe_op op_divU (pv 5) pe_int) pe_int) (pv 5)) pe_int) pe_int) (pv 2)))))))))))
theorem o_law_draw {P : Program} {w : World} {K : PySem.W.Frag} {mg : Str → Option Value} {base : Heap} {f : Addr} {fd : FuncData} (T : Bl mg)  (F : FunD K "_law_draw" "_law_draw" (defArgs s_law_draw) (defBody s_law_draw) (defScope s_law_draw) [] [] f fd) : FnOk P w K mg base (L2.CX P w) 1 f fd ["script", "town", "limit"] (sp_law_draw K) :=
  F.ok sc_law_draw (fun vs H Q E h => spT_len (E := E) (k := 1) (fun ds h => by obtain ⟨_, rfl, _⟩ := h; rfl) h) (fun cdv A outer s H vs Q E hr h => ⟨t_law_draw K E, PSs.nox (d_law_draw T  f cdv A outer s H E hr), pure_law_draw h⟩)
theorem ok_law_draw {P : Program} {w : World} {K : PySem.W.Frag} {mg : Str → Option Value} {base : Heap} {f : Addr} {fd : FuncData} (T : Bl mg)  (F : FunD K "_law_draw" "_law_draw" (defArgs s_law_draw) (defBody s_law_draw) (defScope s_law_draw) [] [] f fd) (g : mg "_law_draw" = some (.ref f)) : FnAt P w K mg base 1 "_law_draw" ["script", "town", "limit"] (sp_law_draw K) :=
  ⟨f, fd, o_law_draw T  F, g, F.kp, F.bindsN fun _ _ _ _ _ _ us hl => match us, hl with | [_, _, _], _ => rfl⟩
abbrev s_law_family : Stmt := top 45
theorem sc_law_family : FnScope ["script", "town", "most", "things", "found", "often", "is_paired", "turn", "k", "one"] ["script", "town", "most"] (defScope s_law_family) := ⟨rfl, rfl, rfl, by decide +kernel, rfl, by decide +kernel, by decide +kernel⟩
theorem d_law_family {P : Program} {w : World} {K : PySem.W.Frag} {mg : Str → Option Value} {base : Heap} (T : Bl mg) (c_law_draw : FnAt P w K mg base 1 "_law_draw" ["script", "town", "limit"] (sp_law_draw K)) (f : Addr) (cdv : Value) (A : Around) (outer : List Env) (s : Shared) (H : Hp) (E : XK) (hr : Room 1 (A.deeper (envOfC "_law_family" (defScope s_law_family) s.heap.objs.size f cdv))) :
  PSs (cxOf (L2.CX P w) P w K mg base ["script", "town", "most", "things", "found", "often", "is_paired", "turn", "k", "one"] "_law_family" (defScope s_law_family) f cdv A outer s H E).nox (defBody s_law_family) (t_law_family K E) :=
  (pss_cons (ps_par (by rfl) sc_law_family.nd rfl rfl (by decide) rfl rfl (pa_cons (pe_op op_addU pe_int (pe_callF c_law_draw (hr.mono (by decide)) (by rfl) passL (pa_cons (pv 0) (pa_cons (pv 1) (pa_cons (pv 2) pa_nil))))) (pa_cons (pe_lst pa_nil) pa_nil)) (by rfl))
  (pss_cons (ps_asg (pe_tup (pa_cons (pe_op op_addU pe_int (pe_callF c_law_draw (hr.mono (by decide)) (by rfl) passL (pa_cons (pv 0) (pa_cons (pv 1) (pa_cons pe_int pa_nil))))) (pa_cons (pe_and (pe_cmpR op_gt (pv 3) pe_int (nomark _)) (pe_one (pe_cmpR (op_eqD hr.units) (pe_callF c_law_draw (hr.mono (by decide)) (by rfl) passL (pa_cons (pv 0) (pa_cons (pv 1) (pa_cons pe_int pa_nil)))) pe_int (nomark _)))) pa_nil))) (pg_tup rfl (pgs_cons (pg_name (i := 5) sc_law_family.nd rfl (by first | exact Or.inl rfl | exact Or.inr rfl)) (pgs_cons (pg_name (i := 6) sc_law_family.nd rfl (by first | exact Or.inl rfl | exact Or.inr rfl)) pgs_nil))))
  (pss_cons (ps_for PassesOwn.never rfl (pi_range1 (by rfl) T.b_range (pa_cons (pe_op op_addU pe_int (pe_callF c_law_draw (hr.mono (by decide)) (by rfl) passL (pa_cons (pv 0) (pa_cons (pv 1) (pa_cons pe_int pa_nil))))) pa_nil)) (pg_name (i := 7) sc_law_family.nd rfl (by first | exact Or.inl rfl | exact Or.inr rfl)) (pss_cons (ps_if (pt_val (pv 6)) (pss_cons (ps_set (i := 8) sc_law_family.nd rfl (by first | exact Or.inl rfl | exact Or.inr rfl) (pe_callF c_law_draw (hr.mono (by decide)) (by rfl) passL (pa_cons (pv 0) (pa_cons (pv 1) (pa_cons (pv 3) pa_nil)))))
  (pss_one (ps_set (i := 9) sc_law_family.nd rfl (by first | exact Or.inl rfl | exact Or.inr rfl) (pe_callB (cr_sortD (units70 hr)) (by rfl) T.b_sorted (by decide +kernel) (pa_cons (pe_lst (pa_cons (pv 8) (pa_cons (pe_op op_mod (pe_op op_addU (pe_op op_addU (pv 8) pe_int) (pe_callF c_law_draw (hr.mono (by decide)) (by rfl) passL (pa_cons (pv 0) (pa_cons (pv 1) (pa_cons pe_int pa_nil))))) (pv 3)) pa_nil))) pa_nil))))) (pss_one (ps_setLc (i := 9) (own := [("k", 8)]) (by rfl) sc_law_family.nd rfl rfl (sw_true rfl rfl rfl (by decide +kernel)) (pi_range1 (by rfl) T.b_range (pa_cons (pv 3) pa_nil)) (blkOk_by (own := [("k", 8)]) (by kernel_rfl)) (fun _ _ _ _ _ => (pg_name (i := 8) sc_law_family.nd rfl (by first | exact Or.inl rfl | exact Or.inr rfl))) (fun _ _ _ _ _ => (pts_one (pt_cmpR (op_ltU hr.units0) (pe_callF c_law_draw (hr.mono (by decide)) (by rfl) passL (pa_cons (pv 0) (pa_cons (pv 1) (pa_cons pe_int pa_nil)))) (pv 5) (nomark _)))) (fun _ _ _ _ _ => (pv 8)))))
  (pss_cons (ps_set (i := 9) sc_law_family.nd rfl (by first | exact Or.inl rfl | exact Or.inr rfl) (pe_callTy cr_tupleOf (by rfl) T.b_tuple (by decide +kernel) (pa_cons (pe_ifExp (pt_cmpR (op_neD hr.units) (pv 9) (pe_lst pa_nil) (nomark _)) (pv 9) (pe_lst (pa_cons (pe_callF c_law_draw (hr.mono (by decide)) (by rfl) passL (pa_cons (pv 0) (pa_cons (pv 1) (pa_cons (pv 3) pa_nil)))) pa_nil))) pa_nil)))
  (pss_one (ps_set (i := 4) sc_law_family.nd rfl (by first | exact Or.inl rfl | exact Or.inr rfl) (pe_op op_addU (pv 4) (pe_ifExp (pt_cmpR (op_notInU (units65 hr)) (pv 9) (pv 4) (by rfl)) (pe_lst (pa_cons (pv 9) pa_nil)) (pe_lst pa_nil))))))))
  (pss_one (ps_ret (pe_tup (pa_cons (pv 3) (pa_cons (pe_callTy cr_tupleOf (by rfl) T.b_tuple (by decide +kernel) (pa_cons (pe_callB (cr_sortD (units70 hr)) (by rfl) T.b_sorted (by decide +kernel) (pa_cons (pv 4) pa_nil)) pa_nil)) pa_nil))))))))
theorem o_law_family {P : Program} {w : World} {K : PySem.W.Frag} {mg : Str → Option Value} {base : Heap} {f : Addr} {fd : FuncData} (T : Bl mg) (c_law_draw : FnAt P w K mg base 1 "_law_draw" ["script", "town", "limit"] (sp_law_draw K)) (F : FunD K "_law_family" "_law_family" (defArgs s_law_family) (defBody s_law_family) (defScope s_law_family) [] [] f fd) : FnOk P w K mg base (L2.CX P w) 2 f fd ["script", "town", "most"] (sp_law_family K) :=
  F.ok sc_law_family (fun vs H Q E h => spT_len (E := E) (k := 1) (fun ds h => by obtain ⟨_, rfl, _⟩ := h; rfl) h) (fun cdv A outer s H vs Q E hr h => ⟨t_law_family K E, PSs.nox (d_law_family T c_law_draw f cdv A outer s H E hr), pure_law_family h⟩)
theorem ok_law_family {P : Program} {w : World} {K : PySem.W.Frag} {mg : Str → Option Value} {base : Heap} {f : Addr} {fd : FuncData} (T : Bl mg) (c_law_draw : FnAt P w K mg base 1 "_law_draw" ["script", "town", "limit"] (sp_law_draw K)) (F : FunD K "_law_family" "_law_family" (defArgs s_law_family) (defBody s_law_family) (defScope s_law_family) [] [] f fd) (g : mg "_law_family" = some (.ref f)) : FnAt P w K mg base 2 "_law_family" ["script", "town", "most"] (sp_law_family K) :=
  ⟨f, fd, o_law_family T c_law_draw F, g, F.kp, F.bindsN fun _ _ _ _ _ _ us hl => match us, hl with | [_, _, _], _ => rfl⟩
abbrev s_law_all : Stmt := top 46
theorem sc_law_all : FnScope ["things", "choices", "rows", "turn", "longer", "row", "one"] ["things", "choices"] (defScope s_law_all) := ⟨rfl, rfl, rfl, by decide +kernel, rfl, by decide +kernel, by decide +kernel⟩
theorem d_law_all {P : Program} {w : World} {K : PySem.W.Frag} {mg : Str → Option Value} {base : Heap} (T : Bl mg)  (f : Addr) (cdv : Value) (A : Around) (outer : List Env) (s : Shared) (H : Hp) (E : XK) (hr : Room 0 (A.deeper (envOfC "_law_all" (defScope s_law_all) s.heap.objs.size f cdv))) :
  PSs (cxOf (L2.CX P w) P w K mg base ["things", "choices", "rows", "turn", "longer", "row", "one"] "_law_all" (defScope s_law_all) f cdv A outer s H E).nox (defBody s_law_all) (t_law_all K E) :=
  (pss_cons (ps_set (i := 2) sc_law_all.nd rfl (by first | exact Or.inl rfl | exact Or.inr rfl) (pe_lst (pa_cons (pe_tup pa_nil) pa_nil)))
  (pss_cons (ps_for PassesOwn.never rfl (pi_range1 (by rfl) T.b_range (pa_cons (pv 0) pa_nil)) (pg_name (i := 3) sc_law_all.nd rfl (by first | exact Or.inl rfl | exact Or.inr rfl)) (pss_cons (ps_set (i := 4) sc_law_all.nd rfl (by first | exact Or.inl rfl | exact Or.inr rfl) (pe_lst pa_nil))
  (pss_cons (ps_for PassesOwn.never rfl (pi_seq (pv 2)) (pg_name (i := 5) sc_law_all.nd rfl (by first | exact Or.inl rfl | exact Or.inr rfl)) (pss_one (ps_set (i := 4) sc_law_all.nd rfl (by first | exact Or.inl rfl | exact Or.inr rfl) (pe_op op_addU (pv 4) (pe_lc (own := [("one", 6)]) (by rfl) sc_law_all.nd (pi_seq (pv 1)) (blkOk_by (own := [("one", 6)]) (by kernel_rfl)) (fun _ _ _ _ _ => (pg_name (i := 6) sc_law_all.nd rfl (by first | exact Or.inl rfl | exact Or.inr rfl))) (fun _ _ _ _ _ => pts_nil) (fun _ _ _ _ _ => (pe_op op_addU (pv 5) (pe_tup (pa_cons (pv 6) pa_nil)))))))))
  (pss_one (ps_set (i := 2) sc_law_all.nd rfl (by first | exact Or.inl rfl | exact Or.inr rfl) (pv 4))))))
  (pss_one (ps_ret (pv 2)))))
theorem o_law_all {P : Program} {w : World} {K : PySem.W.Frag} {mg : Str → Option Value} {base : Heap} {f : Addr} {fd : FuncData} (T : Bl mg)  (F : FunD K "_law_all" "_law_all" (defArgs s_law_all) (defBody s_law_all) (defScope s_law_all) [] [] f fd) : FnOk P w K mg base (L2.CX P w) 1 f fd ["things", "choices"] (sp_law_all K) :=
  F.ok sc_law_all (fun vs H Q E h => spD_len (k := 2) (fun ds o h => by first | exact h.1 | (obtain ⟨_, rfl, _⟩ := h; rfl) | (obtain ⟨_, _, rfl, _⟩ := h; rfl) | (obtain ⟨_, _, _, rfl, _⟩ := h; rfl) | (obtain ⟨_, _, _, _, rfl, _⟩ := h; rfl) | (obtain ⟨_, _, _, _, _, rfl, _⟩ := h; rfl) | (obtain ⟨_, _, _, _, _, _, rfl, _⟩ := h; rfl) | (obtain ⟨_, _, _, _, _, _, _, rfl, _⟩ := h; rfl)) h) (fun cdv A outer s H vs Q E hr h => ⟨t_law_all K E, PSs.nox (d_law_all T  f cdv A outer s H E hr), pure_law_all h⟩)
theorem ok_law_all {P : Program} {w : World} {K : PySem.W.Frag} {mg : Str → Option Value} {base : Heap} {f : Addr} {fd : FuncData} (T : Bl mg)  (F : FunD K "_law_all" "_law_all" (defArgs s_law_all) (defBody s_law_all) (defScope s_law_all) [] [] f fd) (g : mg "_law_all" = some (.ref f)) : FnAt P w K mg base 1 "_law_all" ["things", "choices"] (sp_law_all K) :=
  ⟨f, fd, o_law_all T  F, g, F.kp, F.bindsN fun _ _ _ _ _ _ us hl => match us, hl with | [_, _], _ => rfl⟩
abbrev s_law_least : Stmt := top 49
theorem sc_law_least : FnScope ["family", "lot", "some", "k", "one", "best", "row", "table", "part"] ["family", "lot"] (defScope s_law_least) := ⟨rfl, rfl, rfl, by decide +kernel, rfl, by decide +kernel, by decide +kernel⟩
theorem d_law_least {P : Program} {w : World} {K : PySem.W.Frag} {mg : Str → Option Value} {base : Heap} (T : Bl mg) (c_law_all : FnAt P w K mg base 1 "_law_all" ["things", "choices"] (sp_law_all K)) (f : Addr) (cdv : Value) (A : Around) (outer : List Env) (s : Shared) (H : Hp) (E : XK) (hr : Room 1 (A.deeper (envOfC "_law_least" (defScope s_law_least) s.heap.objs.size f cdv))) :
  PSs (cxOf (L2.CX P w) P w K mg base ["family", "lot", "some", "k", "one", "best", "row", "table", "part"] "_law_least" (defScope s_law_least) f cdv A outer s H E).nox (defBody s_law_least) (t_law_least K E) :=
  (pss_cons (ps_setLc (i := 2) (own := [("one", 4)]) (by rfl) sc_law_least.nd rfl rfl (sw_true rfl rfl rfl (by decide +kernel)) (pi_seq (pe_ix ix_seq (pv 0) pe_int (fun _ _ => rfl))) (blkOk_by (own := [("one", 4)]) (by kernel_rfl)) (fun _ _ _ _ _ => (pg_name (i := 4) sc_law_least.nd rfl (by first | exact Or.inl rfl | exact Or.inr rfl))) (fun _ _ _ _ _ => pts_nil) (fun _ _ _ _ _ => (pe_lc (own := [("k", 3)]) (by rfl) sc_law_least.nd (pi_seq (pv 4)) (blkOk_by (own := [("k", 3)]) (by kernel_rfl)) (fun _ _ _ _ _ => (pg_name (i := 3) sc_law_least.nd rfl (by first | exact Or.inl rfl | exact Or.inr rfl))) (fun _ _ _ _ _ => (pts_one (pt_cmpR (op_inU (units65 hr)) (pv 3) (pv 1) (by rfl)))) (fun _ _ _ _ _ => (pv 3)))))
  (pss_cons (ps_set (i := 5) sc_law_least.nd rfl (by first | exact Or.inl rfl | exact Or.inr rfl) pe_non)
  (pss_cons (ps_for PassesOwn.never rfl (pi_seq (pe_callF c_law_all (hr.mono (by decide)) (by rfl) passL (pa_cons (pe_callB cr_lenU (by rfl) T.b_len (by decide +kernel) (pa_cons (pv 1) pa_nil)) (pa_cons (pe_tup (pa_cons (pe_un un_neg pe_int) (pa_cons pe_int pa_nil))) pa_nil)))) (pg_name (i := 6) sc_law_least.nd rfl (by first | exact Or.inl rfl | exact Or.inr rfl)) (pss_cons (ps_set (i := 7) sc_law_least.nd rfl (by first | exact Or.inl rfl | exact Or.inr rfl) (pe_dictZip (by rfl) T.b_dict (by rfl) T.b_zip (pa_cons (pv 1) (pa_cons (pv 6) pa_nil))))
  (pss_cons (ps_set (i := 4) sc_law_least.nd rfl (by first | exact Or.inl rfl | exact Or.inr rfl) (pe_callB (cr_maxU rfl) (by rfl) T.b_max (by decide +kernel) (pa_cons (pe_lc (own := [("part", 8)]) (by rfl) sc_law_least.nd (pi_seq (pv 2)) (blkOk_by (own := [("part", 8)]) (by kernel_rfl)) (fun _ _ _ _ _ => (pg_name (i := 8) sc_law_least.nd rfl (by first | exact Or.inl rfl | exact Or.inr rfl))) (fun _ _ _ _ _ => pts_nil) (fun _ _ _ _ _ => (pe_callB cr_absI (by rfl) T.b_abs (by decide +kernel) (pa_cons (pe_callB (cr_sum rfl) (by rfl) T.b_sum (by decide +kernel) (pa_cons (pe_lc (own := [("k", 3)]) (by rfl) sc_law_least.nd (pi_seq (pv 8)) (blkOk_by (own := [("k", 3)]) (by kernel_rfl)) (fun _ _ _ _ _ => (pg_name (i := 3) sc_law_least.nd rfl (by first | exact Or.inl rfl | exact Or.inr rfl))) (fun _ _ _ _ _ => pts_nil) (fun _ _ _ _ _ => (pe_dget (units1 hr) (pv 7) (pv 3) (fun _ _ => rfl)))) pa_nil)) pa_nil)))) pa_nil)))
  (pss_one (ps_set (i := 5) sc_law_least.nd rfl (by first | exact Or.inl rfl | exact Or.inr rfl) (pe_ifExp (PW.pt (pw_or (pt_cmpR op_isU (pv 5) pe_non (nomark _)) (pw_or1 (pt_cmpR (op_ltU hr.units0) (pv 4) (pv 5) (nomark _))))) (pv 4) (pv 5)))))))
  (pss_one (ps_ret (pv 5))))))
theorem o_law_least {P : Program} {w : World} {K : PySem.W.Frag} {mg : Str → Option Value} {base : Heap} {f : Addr} {fd : FuncData} (T : Bl mg) (c_law_all : FnAt P w K mg base 1 "_law_all" ["things", "choices"] (sp_law_all K)) (F : FunD K "_law_least" "_law_least" (defArgs s_law_least) (defBody s_law_least) (defScope s_law_least) [] [] f fd) : FnOk P w K mg base (L2.CX P w) 2 f fd ["family", "lot"] (sp_law_least K) :=
  F.ok sc_law_least (fun vs H Q E h => spD_len (k := 2) (fun ds o h => by first | exact h.1 | (obtain ⟨_, rfl, _⟩ := h; rfl) | (obtain ⟨_, _, rfl, _⟩ := h; rfl) | (obtain ⟨_, _, _, rfl, _⟩ := h; rfl) | (obtain ⟨_, _, _, _, rfl, _⟩ := h; rfl) | (obtain ⟨_, _, _, _, _, rfl, _⟩ := h; rfl) | (obtain ⟨_, _, _, _, _, _, rfl, _⟩ := h; rfl) | (obtain ⟨_, _, _, _, _, _, _, rfl, _⟩ := h; rfl)) h) (fun cdv A outer s H vs Q E hr h => ⟨t_law_least K E, PSs.nox (d_law_least T c_law_all f cdv A outer s H E hr), pure_law_least h⟩)
theorem ok_law_least {P : Program} {w : World} {K : PySem.W.Frag} {mg : Str → Option Value} {base : Heap} {f : Addr} {fd : FuncData} (T : Bl mg) (c_law_all : FnAt P w K mg base 1 "_law_all" ["things", "choices"] (sp_law_all K)) (F : FunD K "_law_least" "_law_least" (defArgs s_law_least) (defBody s_law_least) (defScope s_law_least) [] [] f fd) (g : mg "_law_least" = some (.ref f)) : FnAt P w K mg base 2 "_law_least" ["family", "lot"] (sp_law_least K) :=
  ⟨f, fd, o_law_least T c_law_all F, g, F.kp, F.bindsN fun _ _ _ _ _ _ us hl => match us, hl with | [_, _], _ => rfl⟩
abbrev s_law_lots : Stmt := top 47
theorem sc_law_lots : FnScope ["things", "found", "k", "lot", "size"] ["things"] (defScope s_law_lots) := ⟨rfl, rfl, rfl, by decide +kernel, rfl, by decide +kernel, by decide +kernel⟩
theorem d_law_lots {P : Program} {w : World} {K : PySem.W.Frag} {mg : Str → Option Value} {base : Heap} (T : Bl mg)  (f : Addr) (cdv : Value) (A : Around) (outer : List Env) (s : Shared) (H : Hp) (E : XK) (hr : Room 0 (A.deeper (envOfC "_law_lots" (defScope s_law_lots) s.heap.objs.size f cdv))) :
  PSs (cxOf (L2.CX P w) P w K mg base ["things", "found", "k", "lot", "size"] "_law_lots" (defScope s_law_lots) f cdv A outer s H E).nox (defBody s_law_lots) (t_law_lots K E) :=
  (pss_cons (ps_set (i := 1) sc_law_lots.nd rfl (by first | exact Or.inl rfl | exact Or.inr rfl) (pe_lst (pa_cons (pe_tup pa_nil) pa_nil)))
  (pss_cons (ps_for PassesOwn.never rfl (pi_range1 (by rfl) T.b_range (pa_cons (pv 0) pa_nil)) (pg_name (i := 2) sc_law_lots.nd rfl (by first | exact Or.inl rfl | exact Or.inr rfl)) (pss_one (ps_set (i := 1) sc_law_lots.nd rfl (by first | exact Or.inl rfl | exact Or.inr rfl) (pe_op op_addU (pv 1) (pe_lc (own := [("lot", 3)]) (by rfl) sc_law_lots.nd (pi_seq (pv 1)) (blkOk_by (own := [("lot", 3)]) (by kernel_rfl)) (fun _ _ _ _ _ => (pg_name (i := 3) sc_law_lots.nd rfl (by first | exact Or.inl rfl | exact Or.inr rfl))) (fun _ _ _ _ _ => pts_nil) (fun _ _ _ _ _ => (pe_op op_addU (pv 3) (pe_tup (pa_cons (pv 2) pa_nil)))))))))
  (pss_one (ps_ret (pe_lc (own := [("size", 4), ("lot", 3)]) (by rfl) sc_law_lots.nd (pi_seq (pe_callB (cr_sortD (units70 hr)) (by rfl) T.b_sorted (by decide +kernel) (pa_cons (pe_lc (own := [("lot", 3)]) (by rfl) sc_law_lots.nd (pi_seq (pv 1)) (blkOk_by (own := [("lot", 3)]) (by kernel_rfl)) (fun _ _ _ _ _ => (pg_name (i := 3) sc_law_lots.nd rfl (by first | exact Or.inl rfl | exact Or.inr rfl))) (fun _ _ _ _ _ => pts_nil) (fun _ _ _ _ _ => (pe_tup (pa_cons (pe_callB cr_lenU (by rfl) T.b_len (by decide +kernel) (pa_cons (pv 3) pa_nil)) (pa_cons (pv 3) pa_nil))))) pa_nil))) (blkOk_by (own := [("size", 4), ("lot", 3)]) (by kernel_rfl)) (fun _ _ _ _ _ => (pg_tup rfl (pgs_cons (pg_name (i := 4) sc_law_lots.nd rfl (by first | exact Or.inl rfl | exact Or.inr rfl)) (pgs_cons (pg_name (i := 3) sc_law_lots.nd rfl (by first | exact Or.inl rfl | exact Or.inr rfl)) pgs_nil)))) (fun _ _ _ _ _ => (pts_one (pt_cmpR op_gt (pv 4) pe_int (nomark _)))) (fun _ _ _ _ _ => (pv 3)))))))
theorem o_law_lots {P : Program} {w : World} {K : PySem.W.Frag} {mg : Str → Option Value} {base : Heap} {f : Addr} {fd : FuncData} (T : Bl mg)  (F : FunD K "_law_lots" "_law_lots" (defArgs s_law_lots) (defBody s_law_lots) (defScope s_law_lots) [] [] f fd) : FnOk P w K mg base (L2.CX P w) 1 f fd ["things"] (sp_law_lots K) :=
  F.ok sc_law_lots (fun vs H Q E h => spD_len (k := 1) (fun ds o h => by first | exact h.1 | (obtain ⟨_, rfl, _⟩ := h; rfl) | (obtain ⟨_, _, rfl, _⟩ := h; rfl) | (obtain ⟨_, _, _, rfl, _⟩ := h; rfl) | (obtain ⟨_, _, _, _, rfl, _⟩ := h; rfl) | (obtain ⟨_, _, _, _, _, rfl, _⟩ := h; rfl) | (obtain ⟨_, _, _, _, _, _, rfl, _⟩ := h; rfl) | (obtain ⟨_, _, _, _, _, _, _, rfl, _⟩ := h; rfl)) h) (fun cdv A outer s H vs Q E hr h => ⟨t_law_lots K E, PSs.nox (d_law_lots T  f cdv A outer s H E hr), pure_law_lots h⟩)
theorem ok_law_lots {P : Program} {w : World} {K : PySem.W.Frag} {mg : Str → Option Value} {base : Heap} {f : Addr} {fd : FuncData} (T : Bl mg)  (F : FunD K "_law_lots" "_law_lots" (defArgs s_law_lots) (defBody s_law_lots) (defScope s_law_lots) [] [] f fd) (g : mg "_law_lots" = some (.ref f)) : FnAt P w K mg base 1 "_law_lots" ["things"] (sp_law_lots K) :=
  ⟨f, fd, o_law_lots T  F, g, F.kp, F.bindsN fun _ _ _ _ _ _ us hl => match us, hl with | [_], _ => rfl⟩
abbrev s_is_between : Stmt := top 18
theorem sc_is_between : FnScope ["value", "low", "high"] ["value", "low", "high"] (defScope s_is_between) := ⟨rfl, rfl, rfl, by decide +kernel, rfl, by decide +kernel, by decide +kernel⟩
theorem d_is_between {P : Program} {w : World} {K : PySem.W.Frag} {mg : Str → Option Value} {base : Heap} (T : Bl mg)  (f : Addr) (cdv : Value) (A : Around) (outer : List Env) (s : Shared) (H : Hp) (E : XK) (hr : Room 0 (A.deeper (envOfC "is_between" (defScope s_is_between) s.heap.objs.size f cdv))) :
  PSs (cxOf (L2.CX P w) P w K mg base ["value", "low", "high"] "is_between" (defScope s_is_between) f cdv A outer s H E).nox (defBody s_is_between) (t_is_between K E) :=
  (pss_one (ps_ret (pe_and (pe_callB call_isi (by rfl) T.b_isinstance boot_isinstance (pa_cons (pv 0) (pa_cons (pe_bltn (by rfl) T.b_int (by decide +kernel) rfl) pa_nil))) (pe_and (pe_not (pe_callB call_isi (by rfl) T.b_isinstance boot_isinstance (pa_cons (pv 0) (pa_cons (pe_bltn (by rfl) T.b_bool (by decide +kernel) rfl) pa_nil)))) (pe_one (pe_chain op_le op_le (pv 1) (pv 0) (pv 2)))))))
theorem o_is_between {P : Program} {w : World} {K : PySem.W.Frag} {mg : Str → Option Value} {base : Heap} {f : Addr} {fd : FuncData} (T : Bl mg)  (F : FunD K "is_between" "is_between" (defArgs s_is_between) (defBody s_is_between) (defScope s_is_between) [] [] f fd) : FnOk P w K mg base (L2.CX P w) 1 f fd ["value", "low", "high"] (sp_is_between K) :=
  F.ok sc_is_between (fun vs H Q E h => spD_len (k := 3) (fun ds o h => by first | exact h.1 | (obtain ⟨_, rfl, _⟩ := h; rfl) | (obtain ⟨_, _, rfl, _⟩ := h; rfl) | (obtain ⟨_, _, _, rfl, _⟩ := h; rfl) | (obtain ⟨_, _, _, _, rfl, _⟩ := h; rfl) | (obtain ⟨_, _, _, _, _, rfl, _⟩ := h; rfl) | (obtain ⟨_, _, _, _, _, _, rfl, _⟩ := h; rfl) | (obtain ⟨_, _, _, _, _, _, _, rfl, _⟩ := h; rfl)) h) (fun cdv A outer s H vs Q E hr h => ⟨t_is_between K E, PSs.nox (d_is_between T  f cdv A outer s H E hr), pure_is_between h⟩)
theorem ok_is_between {P : Program} {w : World} {K : PySem.W.Frag} {mg : Str → Option Value} {base : Heap} {f : Addr} {fd : FuncData} (T : Bl mg)  (F : FunD K "is_between" "is_between" (defArgs s_is_between) (defBody s_is_between) (defScope s_is_between) [] [] f fd) (g : mg "is_between" = some (.ref f)) : FnAt P w K mg base 1 "is_between" ["value", "low", "high"] (sp_is_between K) :=
  ⟨f, fd, o_is_between T  F, g, F.kp, F.bindsN fun _ _ _ _ _ _ us hl => match us, hl with | [_, _, _], _ => rfl⟩
abbrev s_is_lot : Stmt := top 20
theorem sc_is_lot : FnScope ["things", "value", "one", "k"] ["things", "value"] (defScope s_is_lot) := ⟨rfl, rfl, rfl, by decide +kernel, rfl, by decide +kernel, by decide +kernel⟩
theorem d_is_lot {P : Program} {w : World} {K : PySem.W.Frag} {mg : Str → Option Value} {base : Heap} (T : Bl mg) (c_is_between : FnAt P w K mg base 1 "is_between" ["value", "low", "high"] (sp_is_between K)) (f : Addr) (cdv : Value) (A : Around) (outer : List Env) (s : Shared) (H : Hp) (E : XK) (hr : Room 1 (A.deeper (envOfC "is_lot" (defScope s_is_lot) s.heap.objs.size f cdv))) :
  PSs (cxOf (L2.CX P w) P w K mg base ["things", "value", "one", "k"] "is_lot" (defScope s_is_lot) f cdv A outer s H E).nox (defBody s_is_lot) (t_is_lot K E) :=
  (pss_cons (ps_if (PW.pt (pw_or (pt_not (pt_val (pe_callB call_isi (by rfl) T.b_isinstance boot_isinstance (pa_cons (pv 1) (pa_cons (pe_bltn (by rfl) T.b_tuple (by decide +kernel) rfl) pa_nil))))) (pw_or (pt_cmpR (op_eqD hr.units) (pv 1) (pe_tup pa_nil) (nomark _)) (pw_or1 (pt_not (pt_val (pe_callB (cr_all rfl) (by rfl) T.b_all (by decide +kernel) (pa_cons (pe_lc (own := [("one", 2)]) (by rfl) sc_is_lot.nd (pi_seq (pv 1)) (blkOk_by (own := [("one", 2)]) (by kernel_rfl)) (fun _ _ _ _ _ => (pg_name (i := 2) sc_is_lot.nd rfl (by first | exact Or.inl rfl | exact Or.inr rfl))) (fun _ _ _ _ _ => pts_nil) (fun _ _ _ _ _ => (pe_callF c_is_between (hr.mono (by decide)) (by rfl) passL (pa_cons (pv 2) (pa_cons pe_int (pa_cons (pe_op op_sub (pv 0) pe_int) pa_nil)))))) pa_nil)))))))) (pss_one (ps_ret pe_bl)) pss_nil)
  (pss_one (ps_ret (pe_callB (cr_all rfl) (by rfl) T.b_all (by decide +kernel) (pa_cons (pe_lc (own := [("k", 3)]) (by rfl) sc_is_lot.nd (pi_range1 (by rfl) T.b_range (pa_cons (pe_op op_sub (pe_callB cr_lenU (by rfl) T.b_len (by decide +kernel) (pa_cons (pv 1) pa_nil)) pe_int) pa_nil)) (blkOk_by (own := [("k", 3)]) (by kernel_rfl)) (fun _ _ _ _ _ => (pg_name (i := 3) sc_is_lot.nd rfl (by first | exact Or.inl rfl | exact Or.inr rfl))) (fun _ _ _ _ _ => pts_nil) (fun _ _ _ _ _ => (pe_cmpR (op_ltU hr.units0) (pe_ix ix_seq (pv 1) (pv 3) (fun _ _ => rfl)) (pe_ix ix_seq (pv 1) (pe_op op_addU (pv 3) pe_int) (fun _ _ => rfl)) (nomark _)))) pa_nil)))))
theorem o_is_lot {P : Program} {w : World} {K : PySem.W.Frag} {mg : Str → Option Value} {base : Heap} {f : Addr} {fd : FuncData} (T : Bl mg) (c_is_between : FnAt P w K mg base 1 "is_between" ["value", "low", "high"] (sp_is_between K)) (F : FunD K "is_lot" "is_lot" (defArgs s_is_lot) (defBody s_is_lot) (defScope s_is_lot) [] [] f fd) : FnOk P w K mg base (L2.CX P w) 2 f fd ["things", "value"] (sp_is_lot K) :=
  F.ok sc_is_lot (fun vs H Q E h => spD_len (k := 2) (fun ds o h => by first | exact h.1 | (obtain ⟨_, rfl, _⟩ := h; rfl) | (obtain ⟨_, _, rfl, _⟩ := h; rfl) | (obtain ⟨_, _, _, rfl, _⟩ := h; rfl) | (obtain ⟨_, _, _, _, rfl, _⟩ := h; rfl) | (obtain ⟨_, _, _, _, _, rfl, _⟩ := h; rfl) | (obtain ⟨_, _, _, _, _, _, rfl, _⟩ := h; rfl) | (obtain ⟨_, _, _, _, _, _, _, rfl, _⟩ := h; rfl)) h) (fun cdv A outer s H vs Q E hr h => ⟨t_is_lot K E, PSs.nox (d_is_lot T c_is_between f cdv A outer s H E hr), pure_is_lot h⟩)
theorem ok_is_lot {P : Program} {w : World} {K : PySem.W.Frag} {mg : Str → Option Value} {base : Heap} {f : Addr} {fd : FuncData} (T : Bl mg) (c_is_between : FnAt P w K mg base 1 "is_between" ["value", "low", "high"] (sp_is_between K)) (F : FunD K "is_lot" "is_lot" (defArgs s_is_lot) (defBody s_is_lot) (defScope s_is_lot) [] [] f fd) (g : mg "is_lot" = some (.ref f)) : FnAt P w K mg base 2 "is_lot" ["things", "value"] (sp_is_lot K) :=
  ⟨f, fd, o_is_lot T c_is_between F, g, F.kp, F.bindsN fun _ _ _ _ _ _ us hl => match us, hl with | [_, _], _ => rfl⟩
abbrev s_is_family : Stmt := top 21
theorem sc_is_family : FnScope ["value", "things", "sets", "one", "k"] ["value"] (defScope s_is_family) := ⟨rfl, rfl, rfl, by decide +kernel, rfl, by decide +kernel, by decide +kernel⟩
theorem d_is_family {P : Program} {w : World} {K : PySem.W.Frag} {mg : Str → Option Value} {base : Heap} (T : Bl mg) (c_is_between : FnAt P w K mg base 1 "is_between" ["value", "low", "high"] (sp_is_between K)) (c_is_lot : FnAt P w K mg base 2 "is_lot" ["things", "value"] (sp_is_lot K)) (f : Addr) (cdv : Value) (A : Around) (outer : List Env) (s : Shared) (H : Hp) (E : XK) (hr : Room 2 (A.deeper (envOfC "is_family" (defScope s_is_family) s.heap.objs.size f cdv))) :
  PSs (cxOf (L2.CX P w) P w K mg base ["value", "things", "sets", "one", "k"] "is_family" (defScope s_is_family) f cdv A outer s H E).nox (defBody s_is_family) (t_is_family K E) :=
  (pss_cons (ps_if (PW.pt (pw_or (pt_not (pt_val (pe_callB call_isi (by rfl) T.b_isinstance boot_isinstance (pa_cons (pv 0) (pa_cons (pe_bltn (by rfl) T.b_tuple (by decide +kernel) rfl) pa_nil))))) (pw_or (pt_cmpR (op_neD hr.units) (pe_callB cr_lenU (by rfl) T.b_len (by decide +kernel) (pa_cons (pv 0) pa_nil)) pe_int (nomark _)) (pw_or1 (pt_not (pt_val (pe_callF c_is_between (hr.mono (by decide)) (by rfl) passL (pa_cons (pe_ix ix_seq (pv 0) pe_int (fun _ _ => rfl)) (pa_cons pe_int (pa_cons pe_int pa_nil)))))))))) (pss_one (ps_ret pe_bl)) pss_nil)
  (pss_cons (ps_asg (pv 0) (pg_tup rfl (pgs_cons (pg_name (i := 1) sc_is_family.nd rfl (by first | exact Or.inl rfl | exact Or.inr rfl)) (pgs_cons (pg_name (i := 2) sc_is_family.nd rfl (by first | exact Or.inl rfl | exact Or.inr rfl)) pgs_nil))))
  (pss_cons (ps_if (PW.pt (pw_or (pt_not (pt_val (pe_callB call_isi (by rfl) T.b_isinstance boot_isinstance (pa_cons (pv 2) (pa_cons (pe_bltn (by rfl) T.b_tuple (by decide +kernel) rfl) pa_nil))))) (pw_or (pt_not (pt_chain op_le op_le pe_int (pe_callB cr_lenU (by rfl) T.b_len (by decide +kernel) (pa_cons (pv 2) pa_nil)) pe_int)) (pw_or1 (pt_not (pt_val (pe_callB (cr_all rfl) (by rfl) T.b_all (by decide +kernel) (pa_cons (pe_lc (own := [("one", 3)]) (by rfl) sc_is_family.nd (pi_seq (pv 2)) (blkOk_by (own := [("one", 3)]) (by kernel_rfl)) (fun _ _ _ _ _ => (pg_name (i := 3) sc_is_family.nd rfl (by first | exact Or.inl rfl | exact Or.inr rfl))) (fun _ _ _ _ _ => pts_nil) (fun _ _ _ _ _ => (pe_callF c_is_lot (hr.mono (by decide)) (by rfl) passL (pa_cons (pv 1) (pa_cons (pv 3) pa_nil))))) pa_nil)))))))) (pss_one (ps_ret pe_bl)) pss_nil)
  (pss_one (ps_ret (pe_callB (cr_all rfl) (by rfl) T.b_all (by decide +kernel) (pa_cons (pe_lc (own := [("k", 4)]) (by rfl) sc_is_family.nd (pi_range1 (by rfl) T.b_range (pa_cons (pe_op op_sub (pe_callB cr_lenU (by rfl) T.b_len (by decide +kernel) (pa_cons (pv 2) pa_nil)) pe_int) pa_nil)) (blkOk_by (own := [("k", 4)]) (by kernel_rfl)) (fun _ _ _ _ _ => (pg_name (i := 4) sc_is_family.nd rfl (by first | exact Or.inl rfl | exact Or.inr rfl))) (fun _ _ _ _ _ => pts_nil) (fun _ _ _ _ _ => (pe_cmpR (op_ltU hr.units0) (pe_ix ix_seq (pv 2) (pv 4) (fun _ _ => rfl)) (pe_ix ix_seq (pv 2) (pe_op op_addU (pv 4) pe_int) (fun _ _ => rfl)) (nomark _)))) pa_nil)))))))
theorem o_is_family {P : Program} {w : World} {K : PySem.W.Frag} {mg : Str → Option Value} {base : Heap} {f : Addr} {fd : FuncData} (T : Bl mg) (c_is_between : FnAt P w K mg base 1 "is_between" ["value", "low", "high"] (sp_is_between K)) (c_is_lot : FnAt P w K mg base 2 "is_lot" ["things", "value"] (sp_is_lot K)) (F : FunD K "is_family" "is_family" (defArgs s_is_family) (defBody s_is_family) (defScope s_is_family) [] [] f fd) : FnOk P w K mg base (L2.CX P w) 3 f fd ["value"] (sp_is_family K) :=
  F.ok sc_is_family (fun vs H Q E h => spD_len (k := 1) (fun ds o h => by first | exact h.1 | (obtain ⟨_, rfl, _⟩ := h; rfl) | (obtain ⟨_, _, rfl, _⟩ := h; rfl) | (obtain ⟨_, _, _, rfl, _⟩ := h; rfl) | (obtain ⟨_, _, _, _, rfl, _⟩ := h; rfl) | (obtain ⟨_, _, _, _, _, rfl, _⟩ := h; rfl) | (obtain ⟨_, _, _, _, _, _, rfl, _⟩ := h; rfl) | (obtain ⟨_, _, _, _, _, _, _, rfl, _⟩ := h; rfl)) h) (fun cdv A outer s H vs Q E hr h => ⟨t_is_family K E, PSs.nox (d_is_family T c_is_between c_is_lot f cdv A outer s H E hr), pure_is_family h⟩)
theorem ok_is_family {P : Program} {w : World} {K : PySem.W.Frag} {mg : Str → Option Value} {base : Heap} {f : Addr} {fd : FuncData} (T : Bl mg) (c_is_between : FnAt P w K mg base 1 "is_between" ["value", "low", "high"] (sp_is_between K)) (c_is_lot : FnAt P w K mg base 2 "is_lot" ["things", "value"] (sp_is_lot K)) (F : FunD K "is_family" "is_family" (defArgs s_is_family) (defBody s_is_family) (defScope s_is_family) [] [] f fd) (g : mg "is_family" = some (.ref f)) : FnAt P w K mg base 3 "is_family" ["value"] (sp_is_family K) :=
  ⟨f, fd, o_is_family T c_is_between c_is_lot F, g, F.kp, F.bindsN fun _ _ _ _ _ _ us hl => match us, hl with | [_], _ => rfl⟩
abbrev s_check_family : Stmt := top 22
theorem sc_check_family : FnScope ["value"] ["value"] (defScope s_check_family) := ⟨rfl, rfl, rfl, by decide +kernel, rfl, by decide +kernel, by decide +kernel⟩
theorem d_check_family {P : Program} {w : World} {K : PySem.W.Frag} {mg : Str → Option Value} {base : Heap} (T : Bl mg) (c_is_family : FnAt P w K mg base 3 "is_family" ["value"] (sp_is_family K)) (x_InvalidFamily : ExcAt K mg "InvalidFamily") (f : Addr) (cdv : Value) (A : Around) (outer : List Env) (s : Shared) (H : Hp) (E : XK) (hr : Room 3 (A.deeper (envOfC "check_family" (defScope s_check_family) s.heap.objs.size f cdv))) :
  PSs (cxOf (L2.CX P w) P w K mg base ["value"] "check_family" (defScope s_check_family) f cdv A outer s H E) (defBody s_check_family) (t_check_family K E) :=
  (pss_one (ps_if (pt_not (pt_val (pe_callF c_is_family (hr.mono (by decide)) (by rfl) passL (pa_cons (pv 0) pa_nil)))) (pss_one (ps_raiseF x_InvalidFamily)) pss_nil))
theorem o_check_family {P : Program} {w : World} {K : PySem.W.Frag} {mg : Str → Option Value} {base : Heap} {f : Addr} {fd : FuncData} (T : Bl mg) (c_is_family : FnAt P w K mg base 3 "is_family" ["value"] (sp_is_family K)) (x_InvalidFamily : ExcAt K mg "InvalidFamily") (F : FunD K "check_family" "check_family" (defArgs s_check_family) (defBody s_check_family) (defScope s_check_family) [] [] f fd) : FnOk P w K mg base (L2.CX P w) 4 f fd ["value"] (sp_check_family K) :=
  F.ok sc_check_family (fun vs H Q E h => spD_len (k := 1) (fun ds o h => by first | exact h.1 | (obtain ⟨_, rfl, _⟩ := h; rfl) | (obtain ⟨_, _, rfl, _⟩ := h; rfl) | (obtain ⟨_, _, _, rfl, _⟩ := h; rfl) | (obtain ⟨_, _, _, _, rfl, _⟩ := h; rfl) | (obtain ⟨_, _, _, _, _, rfl, _⟩ := h; rfl) | (obtain ⟨_, _, _, _, _, _, rfl, _⟩ := h; rfl) | (obtain ⟨_, _, _, _, _, _, _, rfl, _⟩ := h; rfl)) h) (fun cdv A outer s H vs Q E hr h => ⟨t_check_family K E, (d_check_family T c_is_family x_InvalidFamily f cdv A outer s H E hr), pure_check_family h⟩)
theorem ok_check_family {P : Program} {w : World} {K : PySem.W.Frag} {mg : Str → Option Value} {base : Heap} {f : Addr} {fd : FuncData} (T : Bl mg) (c_is_family : FnAt P w K mg base 3 "is_family" ["value"] (sp_is_family K)) (x_InvalidFamily : ExcAt K mg "InvalidFamily") (F : FunD K "check_family" "check_family" (defArgs s_check_family) (defBody s_check_family) (defScope s_check_family) [] [] f fd) (g : mg "check_family" = some (.ref f)) : FnAt P w K mg base 4 "check_family" ["value"] (sp_check_family K) :=
  ⟨f, fd, o_check_family T c_is_family x_InvalidFamily F, g, F.kp, F.bindsN fun _ _ _ _ _ _ us hl => match us, hl with | [_], _ => rfl⟩
abbrev s_check_lot : Stmt := top 23
theorem sc_check_lot : FnScope ["family", "value"] ["family", "value"] (defScope s_check_lot) := ⟨rfl, rfl, rfl, by decide +kernel, rfl, by decide +kernel, by decide +kernel⟩
theorem d_check_lot {P : Program} {w : World} {K : PySem.W.Frag} {mg : Str → Option Value} {base : Heap} (T : Bl mg) (c_is_lot : FnAt P w K mg base 2 "is_lot" ["things", "value"] (sp_is_lot K)) (x_InvalidLot : ExcAt K mg "InvalidLot") (f : Addr) (cdv : Value) (A : Around) (outer : List Env) (s : Shared) (H : Hp) (E : XK) (hr : Room 2 (A.deeper (envOfC "check_lot" (defScope s_check_lot) s.heap.objs.size f cdv))) :
  PSs (cxOf (L2.CX P w) P w K mg base ["family", "value"] "check_lot" (defScope s_check_lot) f cdv A outer s H E) (defBody s_check_lot) (t_check_lot K E) :=
  (pss_one (ps_if (pt_not (pt_val (pe_callF c_is_lot (hr.mono (by decide)) (by rfl) passL (pa_cons (pe_ix ix_seq (pv 0) pe_int (fun _ _ => rfl)) (pa_cons (pv 1) pa_nil))))) (pss_one (ps_raiseF x_InvalidLot)) pss_nil))
theorem o_check_lot {P : Program} {w : World} {K : PySem.W.Frag} {mg : Str → Option Value} {base : Heap} {f : Addr} {fd : FuncData} (T : Bl mg) (c_is_lot : FnAt P w K mg base 2 "is_lot" ["things", "value"] (sp_is_lot K)) (x_InvalidLot : ExcAt K mg "InvalidLot") (F : FunD K "check_lot" "check_lot" (defArgs s_check_lot) (defBody s_check_lot) (defScope s_check_lot) [] [] f fd) : FnOk P w K mg base (L2.CX P w) 3 f fd ["family", "value"] (sp_check_lot K) :=
  F.ok sc_check_lot (fun vs H Q E h => spD_len (k := 2) (fun ds o h => by first | exact h.1 | (obtain ⟨_, rfl, _⟩ := h; rfl) | (obtain ⟨_, _, rfl, _⟩ := h; rfl) | (obtain ⟨_, _, _, rfl, _⟩ := h; rfl) | (obtain ⟨_, _, _, _, rfl, _⟩ := h; rfl) | (obtain ⟨_, _, _, _, _, rfl, _⟩ := h; rfl) | (obtain ⟨_, _, _, _, _, _, rfl, _⟩ := h; rfl) | (obtain ⟨_, _, _, _, _, _, _, rfl, _⟩ := h; rfl)) h) (fun cdv A outer s H vs Q E hr h => ⟨t_check_lot K E, (d_check_lot T c_is_lot x_InvalidLot f cdv A outer s H E hr), pure_check_lot h⟩)
theorem ok_check_lot {P : Program} {w : World} {K : PySem.W.Frag} {mg : Str → Option Value} {base : Heap} {f : Addr} {fd : FuncData} (T : Bl mg) (c_is_lot : FnAt P w K mg base 2 "is_lot" ["things", "value"] (sp_is_lot K)) (x_InvalidLot : ExcAt K mg "InvalidLot") (F : FunD K "check_lot" "check_lot" (defArgs s_check_lot) (defBody s_check_lot) (defScope s_check_lot) [] [] f fd) (g : mg "check_lot" = some (.ref f)) : FnAt P w K mg base 3 "check_lot" ["family", "value"] (sp_check_lot K) :=
  ⟨f, fd, o_check_lot T c_is_lot x_InvalidLot F, g, F.kp, F.bindsN fun _ _ _ _ _ _ us hl => match us, hl with | [_, _], _ => rfl⟩
abbrev s_all_colours : Stmt := top 29
theorem sc_all_colours : FnScope ["things", "rows", "thing", "row", "one"] ["things"] (defScope s_all_colours) := ⟨rfl, rfl, rfl, by decide +kernel, rfl, by decide +kernel, by decide +kernel⟩
theorem d_all_colours {P : Program} {w : World} {K : PySem.W.Frag} {mg : Str → Option Value} {base : Heap} (T : Bl mg)  (f : Addr) (cdv : Value) (A : Around) (outer : List Env) (s : Shared) (H : Hp) (E : XK) (hr : Room 0 (A.deeper (envOfC "all_colours" (defScope s_all_colours) s.heap.objs.size f cdv))) :
  PSs (cxOf (L2.CX P w) P w K mg base ["things", "rows", "thing", "row", "one"] "all_colours" (defScope s_all_colours) f cdv A outer s H E).nox (defBody s_all_colours) (t_all_colours K E) :=
  (pss_cons (ps_set (i := 1) sc_all_colours.nd rfl (by first | exact Or.inl rfl | exact Or.inr rfl) (pe_lst (pa_cons (pe_tup pa_nil) pa_nil)))
  (pss_cons (ps_for PassesOwn.never rfl (pi_range1 (by rfl) T.b_range (pa_cons (pv 0) pa_nil)) (pg_name (i := 2) sc_all_colours.nd rfl (by first | exact Or.inl rfl | exact Or.inr rfl)) (pss_one (ps_setLc2 (i := 1) (own := [("row", 3), ("one", 4)]) (vs1 := [4]) (by rfl) sc_all_colours.nd rfl rfl (sw_true rfl rfl rfl (by decide +kernel)) (pi_seq (pv 1)) (blkOk_by (own := [("row", 3), ("one", 4)]) (by kernel_rfl)) (by decide) (fun _ _ _ _ _ => (pg_name (i := 3) sc_all_colours.nd rfl (by first | exact Or.inl rfl | exact Or.inr rfl))) (fun _ _ _ _ _ => pts_nil) (fun _ _ _ _ _ => (pi_seq (pe_tup (pa_cons (pe_un un_neg pe_int) (pa_cons pe_int pa_nil))))) (fun _ _ _ _ _ => (pg_name (i := 4) sc_all_colours.nd rfl (by first | exact Or.inl rfl | exact Or.inr rfl))) (fun _ _ _ _ _ => pts_nil) (fun _ _ _ _ _ => (pe_op op_addU (pv 3) (pe_tup (pa_cons (pv 4) pa_nil)))))))
  (pss_one (ps_ret (pv 1)))))
theorem o_all_colours {P : Program} {w : World} {K : PySem.W.Frag} {mg : Str → Option Value} {base : Heap} {f : Addr} {fd : FuncData} (T : Bl mg)  (F : FunD K "all_colours" "all_colours" (defArgs s_all_colours) (defBody s_all_colours) (defScope s_all_colours) [] [] f fd) : FnOk P w K mg base (L2.CX P w) 1 f fd ["things"] (sp_all_colours K) :=
  F.ok sc_all_colours (fun vs H Q E h => spD_len (k := 1) (fun ds o h => by first | exact h.1 | (obtain ⟨_, rfl, _⟩ := h; rfl) | (obtain ⟨_, _, rfl, _⟩ := h; rfl) | (obtain ⟨_, _, _, rfl, _⟩ := h; rfl) | (obtain ⟨_, _, _, _, rfl, _⟩ := h; rfl) | (obtain ⟨_, _, _, _, _, rfl, _⟩ := h; rfl) | (obtain ⟨_, _, _, _, _, _, rfl, _⟩ := h; rfl) | (obtain ⟨_, _, _, _, _, _, _, rfl, _⟩ := h; rfl)) h) (fun cdv A outer s H vs Q E hr h => ⟨t_all_colours K E, PSs.nox (d_all_colours T  f cdv A outer s H E hr), pure_all_colours h⟩)
theorem ok_all_colours {P : Program} {w : World} {K : PySem.W.Frag} {mg : Str → Option Value} {base : Heap} {f : Addr} {fd : FuncData} (T : Bl mg)  (F : FunD K "all_colours" "all_colours" (defArgs s_all_colours) (defBody s_all_colours) (defScope s_all_colours) [] [] f fd) (g : mg "all_colours" = some (.ref f)) : FnAt P w K mg base 1 "all_colours" ["things"] (sp_all_colours K) :=
  ⟨f, fd, o_all_colours T  F, g, F.kp, F.bindsN fun _ _ _ _ _ _ us hl => match us, hl with | [_], _ => rfl⟩
abbrev s_found_sums : Stmt := top 27
theorem sc_found_sums : FnScope ["family", "colours", "thing", "one"] ["family", "colours"] (defScope s_found_sums) := ⟨rfl, rfl, rfl, by decide +kernel, rfl, by decide +kernel, by decide +kernel⟩
theorem d_found_sums {P : Program} {w : World} {K : PySem.W.Frag} {mg : Str → Option Value} {base : Heap} (T : Bl mg)  (f : Addr) (cdv : Value) (A : Around) (outer : List Env) (s : Shared) (H : Hp) (E : XK) (hr : Room 0 (A.deeper (envOfC "found_sums" (defScope s_found_sums) s.heap.objs.size f cdv))) :
  PSs (cxOf (L2.CX P w) P w K mg base ["family", "colours", "thing", "one"] "found_sums" (defScope s_found_sums) f cdv A outer s H E).nox (defBody s_found_sums) (t_found_sums K E) :=
  (pss_one (ps_ret (pe_callTy cr_tupleOf (by rfl) T.b_tuple (by decide +kernel) (pa_cons (pe_lc (own := [("one", 3)]) (by rfl) sc_found_sums.nd (pi_seq (pe_ix ix_seq (pv 0) pe_int (fun _ _ => rfl))) (blkOk_by (own := [("one", 3)]) (by kernel_rfl)) (fun _ _ _ _ _ => (pg_name (i := 3) sc_found_sums.nd rfl (by first | exact Or.inl rfl | exact Or.inr rfl))) (fun _ _ _ _ _ => pts_nil) (fun _ _ _ _ _ => (pe_callB (cr_sum rfl) (by rfl) T.b_sum (by decide +kernel) (pa_cons (pe_lc (own := [("thing", 2)]) (by rfl) sc_found_sums.nd (pi_seq (pv 3)) (blkOk_by (own := [("thing", 2)]) (by kernel_rfl)) (fun _ _ _ _ _ => (pg_name (i := 2) sc_found_sums.nd rfl (by first | exact Or.inl rfl | exact Or.inr rfl))) (fun _ _ _ _ _ => pts_nil) (fun _ _ _ _ _ => (pe_ix ix_seq (pv 1) (pv 2) (fun _ _ => rfl)))) pa_nil)))) pa_nil))))
theorem o_found_sums {P : Program} {w : World} {K : PySem.W.Frag} {mg : Str → Option Value} {base : Heap} {f : Addr} {fd : FuncData} (T : Bl mg)  (F : FunD K "found_sums" "found_sums" (defArgs s_found_sums) (defBody s_found_sums) (defScope s_found_sums) [] [] f fd) : FnOk P w K mg base (L2.CX P w) 1 f fd ["family", "colours"] (sp_found_sums K) :=
  F.ok sc_found_sums (fun vs H Q E h => spD_len (k := 2) (fun ds o h => by first | exact h.1 | (obtain ⟨_, rfl, _⟩ := h; rfl) | (obtain ⟨_, _, rfl, _⟩ := h; rfl) | (obtain ⟨_, _, _, rfl, _⟩ := h; rfl) | (obtain ⟨_, _, _, _, rfl, _⟩ := h; rfl) | (obtain ⟨_, _, _, _, _, rfl, _⟩ := h; rfl) | (obtain ⟨_, _, _, _, _, _, rfl, _⟩ := h; rfl) | (obtain ⟨_, _, _, _, _, _, _, rfl, _⟩ := h; rfl)) h) (fun cdv A outer s H vs Q E hr h => ⟨t_found_sums K E, PSs.nox (d_found_sums T  f cdv A outer s H E hr), pure_found_sums h⟩)
theorem ok_found_sums {P : Program} {w : World} {K : PySem.W.Frag} {mg : Str → Option Value} {base : Heap} {f : Addr} {fd : FuncData} (T : Bl mg)  (F : FunD K "found_sums" "found_sums" (defArgs s_found_sums) (defBody s_found_sums) (defScope s_found_sums) [] [] f fd) (g : mg "found_sums" = some (.ref f)) : FnAt P w K mg base 1 "found_sums" ["family", "colours"] (sp_found_sums K) :=
  ⟨f, fd, o_found_sums T  F, g, F.kp, F.bindsN fun _ _ _ _ _ _ us hl => match us, hl with | [_, _], _ => rfl⟩
abbrev s_found_uneven : Stmt := top 28
theorem sc_found_uneven : FnScope ["family", "colours", "one"] ["family", "colours"] (defScope s_found_uneven) := ⟨rfl, rfl, rfl, by decide +kernel, rfl, by decide +kernel, by decide +kernel⟩
theorem d_found_uneven {P : Program} {w : World} {K : PySem.W.Frag} {mg : Str → Option Value} {base : Heap} (T : Bl mg) (c_found_sums : FnAt P w K mg base 1 "found_sums" ["family", "colours"] (sp_found_sums K)) (f : Addr) (cdv : Value) (A : Around) (outer : List Env) (s : Shared) (H : Hp) (E : XK) (hr : Room 1 (A.deeper (envOfC "found_uneven" (defScope s_found_uneven) s.heap.objs.size f cdv))) :
  PSs (cxOf (L2.CX P w) P w K mg base ["family", "colours", "one"] "found_uneven" (defScope s_found_uneven) f cdv A outer s H E).nox (defBody s_found_uneven) (t_found_uneven K E) :=
  (pss_one (ps_ret (pe_callB (cr_maxU rfl) (by rfl) T.b_max (by decide +kernel) (pa_cons (pe_lc (own := [("one", 2)]) (by rfl) sc_found_uneven.nd (pi_seq (pe_callF c_found_sums (hr.mono (by decide)) (by rfl) passL (pa_cons (pv 0) (pa_cons (pv 1) pa_nil)))) (blkOk_by (own := [("one", 2)]) (by kernel_rfl)) (fun _ _ _ _ _ => (pg_name (i := 2) sc_found_uneven.nd rfl (by first | exact Or.inl rfl | exact Or.inr rfl))) (fun _ _ _ _ _ => pts_nil) (fun _ _ _ _ _ => (pe_callB cr_absI (by rfl) T.b_abs (by decide +kernel) (pa_cons (pv 2) pa_nil)))) pa_nil))))
theorem o_found_uneven {P : Program} {w : World} {K : PySem.W.Frag} {mg : Str → Option Value} {base : Heap} {f : Addr} {fd : FuncData} (T : Bl mg) (c_found_sums : FnAt P w K mg base 1 "found_sums" ["family", "colours"] (sp_found_sums K)) (F : FunD K "found_uneven" "found_uneven" (defArgs s_found_uneven) (defBody s_found_uneven) (defScope s_found_uneven) [] [] f fd) : FnOk P w K mg base (L2.CX P w) 2 f fd ["family", "colours"] (sp_found_uneven K) :=
  F.ok sc_found_uneven (fun vs H Q E h => spD_len (k := 2) (fun ds o h => by first | exact h.1 | (obtain ⟨_, rfl, _⟩ := h; rfl) | (obtain ⟨_, _, rfl, _⟩ := h; rfl) | (obtain ⟨_, _, _, rfl, _⟩ := h; rfl) | (obtain ⟨_, _, _, _, rfl, _⟩ := h; rfl) | (obtain ⟨_, _, _, _, _, rfl, _⟩ := h; rfl) | (obtain ⟨_, _, _, _, _, _, rfl, _⟩ := h; rfl) | (obtain ⟨_, _, _, _, _, _, _, rfl, _⟩ := h; rfl)) h) (fun cdv A outer s H vs Q E hr h => ⟨t_found_uneven K E, PSs.nox (d_found_uneven T c_found_sums f cdv A outer s H E hr), pure_found_uneven h⟩)
theorem ok_found_uneven {P : Program} {w : World} {K : PySem.W.Frag} {mg : Str → Option Value} {base : Heap} {f : Addr} {fd : FuncData} (T : Bl mg) (c_found_sums : FnAt P w K mg base 1 "found_sums" ["family", "colours"] (sp_found_sums K)) (F : FunD K "found_uneven" "found_uneven" (defArgs s_found_uneven) (defBody s_found_uneven) (defScope s_found_uneven) [] [] f fd) (g : mg "found_uneven" = some (.ref f)) : FnAt P w K mg base 2 "found_uneven" ["family", "colours"] (sp_found_uneven K) :=
  ⟨f, fd, o_found_uneven T c_found_sums F, g, F.kp, F.bindsN fun _ _ _ _ _ _ us hl => match us, hl with | [_, _], _ => rfl⟩
abbrev s_found_least : Stmt := top 30
theorem sc_found_least : FnScope ["family", "colours"] ["family"] (defScope s_found_least) := ⟨rfl, rfl, rfl, by decide +kernel, rfl, by decide +kernel, by decide +kernel⟩
theorem d_found_least {P : Program} {w : World} {K : PySem.W.Frag} {mg : Str → Option Value} {base : Heap} (T : Bl mg) (c_all_colours : FnAt P w K mg base 1 "all_colours" ["things"] (sp_all_colours K)) (c_found_uneven : FnAt P w K mg base 2 "found_uneven" ["family", "colours"] (sp_found_uneven K)) (f : Addr) (cdv : Value) (A : Around) (outer : List Env) (s : Shared) (H : Hp) (E : XK) (hr : Room 2 (A.deeper (envOfC "found_least" (defScope s_found_least) s.heap.objs.size f cdv))) :
  PSs (cxOf (L2.CX P w) P w K mg base ["family", "colours"] "found_least" (defScope s_found_least) f cdv A outer s H E).nox (defBody s_found_least) (t_found_least K E) :=
  (pss_one (ps_ret (pe_callB (cr_minU rfl) (by rfl) T.b_min (by decide +kernel) (pa_cons (pe_lc (own := [("colours", 1)]) (by rfl) sc_found_least.nd (pi_seq (pe_callF c_all_colours (hr.mono (by decide)) (by rfl) passL (pa_cons (pe_ix ix_seq (pv 0) pe_int (fun _ _ => rfl)) pa_nil))) (blkOk_by (own := [("colours", 1)]) (by kernel_rfl)) (fun _ _ _ _ _ => (pg_name (i := 1) sc_found_least.nd rfl (by first | exact Or.inl rfl | exact Or.inr rfl))) (fun _ _ _ _ _ => pts_nil) (fun _ _ _ _ _ => (pe_callF c_found_uneven (hr.mono (by decide)) (by rfl) passL (pa_cons (pv 0) (pa_cons (pv 1) pa_nil))))) pa_nil))))
theorem o_found_least {P : Program} {w : World} {K : PySem.W.Frag} {mg : Str → Option Value} {base : Heap} {f : Addr} {fd : FuncData} (T : Bl mg) (c_all_colours : FnAt P w K mg base 1 "all_colours" ["things"] (sp_all_colours K)) (c_found_uneven : FnAt P w K mg base 2 "found_uneven" ["family", "colours"] (sp_found_uneven K)) (F : FunD K "found_least" "found_least" (defArgs s_found_least) (defBody s_found_least) (defScope s_found_least) [] [] f fd) : FnOk P w K mg base (L2.CX P w) 3 f fd ["family"] (sp_found_least K) :=
  F.ok sc_found_least (fun vs H Q E h => spD_len (k := 1) (fun ds o h => by first | exact h.1 | (obtain ⟨_, rfl, _⟩ := h; rfl) | (obtain ⟨_, _, rfl, _⟩ := h; rfl) | (obtain ⟨_, _, _, rfl, _⟩ := h; rfl) | (obtain ⟨_, _, _, _, rfl, _⟩ := h; rfl) | (obtain ⟨_, _, _, _, _, rfl, _⟩ := h; rfl) | (obtain ⟨_, _, _, _, _, _, rfl, _⟩ := h; rfl) | (obtain ⟨_, _, _, _, _, _, _, rfl, _⟩ := h; rfl)) h) (fun cdv A outer s H vs Q E hr h => ⟨t_found_least K E, PSs.nox (d_found_least T c_all_colours c_found_uneven f cdv A outer s H E hr), pure_found_least h⟩)
theorem ok_found_least {P : Program} {w : World} {K : PySem.W.Frag} {mg : Str → Option Value} {base : Heap} {f : Addr} {fd : FuncData} (T : Bl mg) (c_all_colours : FnAt P w K mg base 1 "all_colours" ["things"] (sp_all_colours K)) (c_found_uneven : FnAt P w K mg base 2 "found_uneven" ["family", "colours"] (sp_found_uneven K)) (F : FunD K "found_least" "found_least" (defArgs s_found_least) (defBody s_found_least) (defScope s_found_least) [] [] f fd) (g : mg "found_least" = some (.ref f)) : FnAt P w K mg base 3 "found_least" ["family"] (sp_found_least K) :=
  ⟨f, fd, o_found_least T c_all_colours c_found_uneven F, g, F.kp, F.bindsN fun _ _ _ _ _ _ us hl => match us, hl with | [_], _ => rfl⟩
abbrev s_found_within : Stmt := top 24
theorem sc_found_within : FnScope ["family", "lot", "places", "found", "k", "thing", "things", "one"] ["family", "lot"] (defScope s_found_within) := ⟨rfl, rfl, rfl, by decide +kernel, rfl, by decide +kernel, by decide +kernel⟩
theorem d_found_within {P : Program} {w : World} {K : PySem.W.Frag} {mg : Str → Option Value} {base : Heap} (T : Bl mg)  (f : Addr) (cdv : Value) (A : Around) (outer : List Env) (s : Shared) (H : Hp) (E : XK) (hr : Room 0 (A.deeper (envOfC "found_within" (defScope s_found_within) s.heap.objs.size f cdv))) :
  PSs (cxOf (L2.CX P w) P w K mg base ["family", "lot", "places", "found", "k", "thing", "things", "one"] "found_within" (defScope s_found_within) f cdv A outer s H E).nox (defBody s_found_within) (t_found_within K E) :=
  (pss_cons (ps_asg (pe_tup (pa_cons (pe_callTy (cr_dictP rfl) (by rfl) T.b_dict (by decide +kernel) (pa_cons (pe_lc (own := [("k", 4), ("thing", 5)]) (by rfl) sc_found_within.nd (pi_enumU (by rfl) T.b_enumerate (pa_cons (pv 1) pa_nil)) (blkOk_by (own := [("k", 4), ("thing", 5)]) (by kernel_rfl)) (fun _ _ _ _ _ => (pg_tup rfl (pgs_cons (pg_name (i := 4) sc_found_within.nd rfl (by first | exact Or.inl rfl | exact Or.inr rfl)) (pgs_cons (pg_name (i := 5) sc_found_within.nd rfl (by first | exact Or.inl rfl | exact Or.inr rfl)) pgs_nil)))) (fun _ _ _ _ _ => pts_nil) (fun _ _ _ _ _ => (pe_tup (pa_cons (pv 5) (pa_cons (pv 4) pa_nil))))) pa_nil)) (pa_cons (pe_lst pa_nil) pa_nil))) (pg_tup rfl (pgs_cons (pg_name (i := 2) sc_found_within.nd rfl (by first | exact Or.inl rfl | exact Or.inr rfl)) (pgs_cons (pg_name (i := 3) sc_found_within.nd rfl (by first | exact Or.inl rfl | exact Or.inr rfl)) pgs_nil))))
  (pss_cons (ps_for PassesOwn.never rfl (pi_seq (pe_ix ix_seq (pv 0) pe_int (fun _ _ => rfl))) (pg_name (i := 6) sc_found_within.nd rfl (by first | exact Or.inl rfl | exact Or.inr rfl)) (pss_cons (ps_set (i := 7) sc_found_within.nd rfl (by first | exact Or.inl rfl | exact Or.inr rfl) (pe_callTy cr_tupleOf (by rfl) T.b_tuple (by decide +kernel) (pa_cons (pe_lc (own := [("thing", 5)]) (by rfl) sc_found_within.nd (pi_seq (pv 6)) (blkOk_by (own := [("thing", 5)]) (by kernel_rfl)) (fun _ _ _ _ _ => (pg_name (i := 5) sc_found_within.nd rfl (by first | exact Or.inl rfl | exact Or.inr rfl))) (fun _ _ _ _ _ => (pts_one (pt_cmp (pc_din (units1 hr) (pv 5) (pv 2))))) (fun _ _ _ _ _ => (pe_dget (units1 hr) (pv 2) (pv 5) (fun _ _ => rfl)))) pa_nil)))
  (pss_one (ps_if (PW.pt (pw_and (pt_cmpR (op_neD hr.units) (pv 7) (pe_tup pa_nil) (nomark _)) (pw_and1 (pt_cmpR (op_notInU (units65 hr)) (pv 7) (pv 3) (by rfl))))) (pss_one (ps_expr (pe_bm PySem.F.plainAttrs_list PySem.F.slot_list_append PySem.F.type_list_append mt_append (pv 3) (pa_cons (pv 7) pa_nil)))) pss_nil))))
  (pss_one (ps_ret (pe_ifExp (pt_cmpR (op_neD hr.units) (pv 3) (pe_lst pa_nil) (nomark _)) (pe_tup (pa_cons (pe_callB cr_lenU (by rfl) T.b_len (by decide +kernel) (pa_cons (pv 1) pa_nil)) (pa_cons (pe_callTy cr_tupleOf (by rfl) T.b_tuple (by decide +kernel) (pa_cons (pe_callB (cr_sortD (units70 hr)) (by rfl) T.b_sorted (by decide +kernel) (pa_cons (pv 3) pa_nil)) pa_nil)) pa_nil))) pe_non)))))
theorem o_found_within {P : Program} {w : World} {K : PySem.W.Frag} {mg : Str → Option Value} {base : Heap} {f : Addr} {fd : FuncData} (T : Bl mg)  (F : FunD K "found_within" "found_within" (defArgs s_found_within) (defBody s_found_within) (defScope s_found_within) [] [] f fd) : FnOk P w K mg base (L2.CX P w) 1 f fd ["family", "lot"] (sp_found_within K) :=
  F.ok sc_found_within (fun vs H Q E h => spD_len (k := 2) (fun ds o h => by first | exact h.1 | (obtain ⟨_, rfl, _⟩ := h; rfl) | (obtain ⟨_, _, rfl, _⟩ := h; rfl) | (obtain ⟨_, _, _, rfl, _⟩ := h; rfl) | (obtain ⟨_, _, _, _, rfl, _⟩ := h; rfl) | (obtain ⟨_, _, _, _, _, rfl, _⟩ := h; rfl) | (obtain ⟨_, _, _, _, _, _, rfl, _⟩ := h; rfl) | (obtain ⟨_, _, _, _, _, _, _, rfl, _⟩ := h; rfl)) h) (fun cdv A outer s H vs Q E hr h => ⟨t_found_within K E, PSs.nox (d_found_within T  f cdv A outer s H E hr), pure_found_within h⟩)
theorem ok_found_within {P : Program} {w : World} {K : PySem.W.Frag} {mg : Str → Option Value} {base : Heap} {f : Addr} {fd : FuncData} (T : Bl mg)  (F : FunD K "found_within" "found_within" (defArgs s_found_within) (defBody s_found_within) (defScope s_found_within) [] [] f fd) (g : mg "found_within" = some (.ref f)) : FnAt P w K mg base 1 "found_within" ["family", "lot"] (sp_found_within K) :=
  ⟨f, fd, o_found_within T  F, g, F.kp, F.bindsN fun _ _ _ _ _ _ us hl => match us, hl with | [_, _], _ => rfl⟩
abbrev s_found_lot_uneven : Stmt := top 34
theorem sc_found_lot_uneven : FnScope ["family", "lot", "found"] ["family", "lot"] (defScope s_found_lot_uneven) := ⟨rfl, rfl, rfl, by decide +kernel, rfl, by decide +kernel, by decide +kernel⟩
theorem d_found_lot_uneven {P : Program} {w : World} {K : PySem.W.Frag} {mg : Str → Option Value} {base : Heap} (T : Bl mg) (c_found_least : FnAt P w K mg base 3 "found_least" ["family"] (sp_found_least K)) (c_found_within : FnAt P w K mg base 1 "found_within" ["family", "lot"] (sp_found_within K)) (f : Addr) (cdv : Value) (A : Around) (outer : List Env) (s : Shared) (H : Hp) (E : XK) (hr : Room 3 (A.deeper (envOfC "found_lot_uneven" (defScope s_found_lot_uneven) s.heap.objs.size f cdv))) :
  PSs (cxOf (L2.CX P w) P w K mg base ["family", "lot", "found"] "found_lot_uneven" (defScope s_found_lot_uneven) f cdv A outer s H E).nox (defBody s_found_lot_uneven) (t_found_lot_uneven K E) :=
  (pss_cons (ps_set (i := 2) sc_found_lot_uneven.nd rfl (by first | exact Or.inl rfl | exact Or.inr rfl) (pe_callF c_found_within (hr.mono (by decide)) (by rfl) passL (pa_cons (pv 0) (pa_cons (pv 1) pa_nil))))
  (pss_one (ps_ret (pe_ifExp (pt_cmpR op_isU (pv 2) pe_non (nomark _)) pe_int (pe_callF c_found_least (hr.mono (by decide)) (by rfl) passL (pa_cons (pv 2) pa_nil))))))
theorem o_found_lot_uneven {P : Program} {w : World} {K : PySem.W.Frag} {mg : Str → Option Value} {base : Heap} {f : Addr} {fd : FuncData} (T : Bl mg) (c_found_least : FnAt P w K mg base 3 "found_least" ["family"] (sp_found_least K)) (c_found_within : FnAt P w K mg base 1 "found_within" ["family", "lot"] (sp_found_within K)) (F : FunD K "found_lot_uneven" "found_lot_uneven" (defArgs s_found_lot_uneven) (defBody s_found_lot_uneven) (defScope s_found_lot_uneven) [] [] f fd) : FnOk P w K mg base (L2.CX P w) 4 f fd ["family", "lot"] (sp_found_lot_uneven K) :=
  F.ok sc_found_lot_uneven (fun vs H Q E h => spD_len (k := 2) (fun ds o h => by first | exact h.1 | (obtain ⟨_, rfl, _⟩ := h; rfl) | (obtain ⟨_, _, rfl, _⟩ := h; rfl) | (obtain ⟨_, _, _, rfl, _⟩ := h; rfl) | (obtain ⟨_, _, _, _, rfl, _⟩ := h; rfl) | (obtain ⟨_, _, _, _, _, rfl, _⟩ := h; rfl) | (obtain ⟨_, _, _, _, _, _, rfl, _⟩ := h; rfl) | (obtain ⟨_, _, _, _, _, _, _, rfl, _⟩ := h; rfl)) h) (fun cdv A outer s H vs Q E hr h => ⟨t_found_lot_uneven K E, PSs.nox (d_found_lot_uneven T c_found_least c_found_within f cdv A outer s H E hr), pure_found_lot_uneven h⟩)
theorem ok_found_lot_uneven {P : Program} {w : World} {K : PySem.W.Frag} {mg : Str → Option Value} {base : Heap} {f : Addr} {fd : FuncData} (T : Bl mg) (c_found_least : FnAt P w K mg base 3 "found_least" ["family"] (sp_found_least K)) (c_found_within : FnAt P w K mg base 1 "found_within" ["family", "lot"] (sp_found_within K)) (F : FunD K "found_lot_uneven" "found_lot_uneven" (defArgs s_found_lot_uneven) (defBody s_found_lot_uneven) (defScope s_found_lot_uneven) [] [] f fd) (g : mg "found_lot_uneven" = some (.ref f)) : FnAt P w K mg base 4 "found_lot_uneven" ["family", "lot"] (sp_found_lot_uneven K) :=
  ⟨f, fd, o_found_lot_uneven T c_found_least c_found_within F, g, F.kp, F.bindsN fun _ _ _ _ _ _ us hl => match us, hl with | [_, _], _ => rfl⟩
abbrev s_lot_uneven : Stmt := top 35
theorem sc_lot_uneven : FnScope ["family", "lot"] ["family", "lot"] (defScope s_lot_uneven) := ⟨rfl, rfl, rfl, by decide +kernel, rfl, by decide +kernel, by decide +kernel⟩
theorem d_lot_uneven {P : Program} {w : World} {K : PySem.W.Frag} {mg : Str → Option Value} {base : Heap} (T : Bl mg) (c_check_family : FnAt P w K mg base 4 "check_family" ["value"] (sp_check_family K)) (c_check_lot : FnAt P w K mg base 3 "check_lot" ["family", "value"] (sp_check_lot K)) (c_found_lot_uneven : FnAt P w K mg base 4 "found_lot_uneven" ["family", "lot"] (sp_found_lot_uneven K)) (f : Addr) (cdv : Value) (A : Around) (outer : List Env) (s : Shared) (H : Hp) (E : XK) (hr : Room 4 (A.deeper (envOfC "lot_uneven" (defScope s_lot_uneven) s.heap.objs.size f cdv))) :
  PSs (cxOf (L2.CX P w) P w K mg base ["family", "lot"] "lot_uneven" (defScope s_lot_uneven) f cdv A outer s H E) (defBody s_lot_uneven) (t_lot_uneven K E) :=
  (pss_cons (ps_expr (pe_callF c_check_family (hr.mono (by decide)) (by rfl) (passes_call (takes_of rfl rfl rfl rfl) (fun _ _ _ _ h => h)) (pa_cons (pv 0) pa_nil)))
  (pss_cons (ps_expr (pe_callF c_check_lot (hr.mono (by decide)) (by rfl) (passes_call (takes_of rfl rfl rfl rfl) (fun _ _ _ _ h => h)) (pa_cons (pv 0) (pa_cons (pv 1) pa_nil))))
  (pss_one (ps_ret (pe_callF c_found_lot_uneven (hr.mono (by decide)) (by rfl) passL (pa_cons (pv 0) (pa_cons (pv 1) pa_nil)))))))
theorem o_lot_uneven {P : Program} {w : World} {K : PySem.W.Frag} {mg : Str → Option Value} {base : Heap} {f : Addr} {fd : FuncData} (T : Bl mg) (c_check_family : FnAt P w K mg base 4 "check_family" ["value"] (sp_check_family K)) (c_check_lot : FnAt P w K mg base 3 "check_lot" ["family", "value"] (sp_check_lot K)) (c_found_lot_uneven : FnAt P w K mg base 4 "found_lot_uneven" ["family", "lot"] (sp_found_lot_uneven K)) (F : FunD K "lot_uneven" "lot_uneven" (defArgs s_lot_uneven) (defBody s_lot_uneven) (defScope s_lot_uneven) [] [] f fd) : FnOk P w K mg base (L2.CX P w) 5 f fd ["family", "lot"] (sp_lot_uneven K) :=
  F.ok sc_lot_uneven (fun vs H Q E h => spD_len (k := 2) (fun ds o h => by first | exact h.1 | (obtain ⟨_, rfl, _⟩ := h; rfl) | (obtain ⟨_, _, rfl, _⟩ := h; rfl) | (obtain ⟨_, _, _, rfl, _⟩ := h; rfl) | (obtain ⟨_, _, _, _, rfl, _⟩ := h; rfl) | (obtain ⟨_, _, _, _, _, rfl, _⟩ := h; rfl) | (obtain ⟨_, _, _, _, _, _, rfl, _⟩ := h; rfl) | (obtain ⟨_, _, _, _, _, _, _, rfl, _⟩ := h; rfl)) h) (fun cdv A outer s H vs Q E hr h => ⟨t_lot_uneven K E, (d_lot_uneven T c_check_family c_check_lot c_found_lot_uneven f cdv A outer s H E hr), pure_lot_uneven h⟩)
theorem ok_lot_uneven {P : Program} {w : World} {K : PySem.W.Frag} {mg : Str → Option Value} {base : Heap} {f : Addr} {fd : FuncData} (T : Bl mg) (c_check_family : FnAt P w K mg base 4 "check_family" ["value"] (sp_check_family K)) (c_check_lot : FnAt P w K mg base 3 "check_lot" ["family", "value"] (sp_check_lot K)) (c_found_lot_uneven : FnAt P w K mg base 4 "found_lot_uneven" ["family", "lot"] (sp_found_lot_uneven K)) (F : FunD K "lot_uneven" "lot_uneven" (defArgs s_lot_uneven) (defBody s_lot_uneven) (defScope s_lot_uneven) [] [] f fd) (g : mg "lot_uneven" = some (.ref f)) : FnAt P w K mg base 5 "lot_uneven" ["family", "lot"] (sp_lot_uneven K) :=
  ⟨f, fd, o_lot_uneven T c_check_family c_check_lot c_found_lot_uneven F, g, F.kp, F.bindsN fun _ _ _ _ _ _ us hl => match us, hl with | [_, _], _ => rfl⟩
abbrev s_law_call : Stmt := top 48
theorem sc_law_call : FnScope ["how", "arguments"] ["how", "arguments"] (defScope s_law_call) := ⟨rfl, rfl, rfl, by decide +kernel, rfl, by decide +kernel, by decide +kernel⟩
theorem d_law_call {P : Program} {w : World} {K : PySem.W.Frag} {mg : Str → Option Value} {base : Heap} (T : Bl mg) (c_lot_uneven : FnAt P w K mg base 5 "lot_uneven" ["family", "lot"] (sp_lot_uneven K)) (f : Addr) (cdv : Value) (A : Around) (outer : List Env) (s : Shared) (H : Hp) (E : XK) (hr : Room 5 (A.deeper (envOfC "_law_call" (defScope s_law_call) s.heap.objs.size f cdv))) :
  PSs (cxOf (L2.CX P w) P w K mg base ["how", "arguments"] "_law_call" (defScope s_law_call) f cdv A outer s H E) (defBody s_law_call) (t_law_call K E) :=
  (pss_one (ps_ret (pe_callF c_lot_uneven (hr.mono (by decide)) (by rfl) (passes_call (takes_of rfl rfl rfl rfl) (fun _ _ _ _ h => h)) (pa_cons (pe_ix ix_seq (pv 1) pe_int (fun _ _ => rfl)) (pa_cons (pe_ix ix_seq (pv 1) pe_int (fun _ _ => rfl)) pa_nil)))))
theorem o_law_call {P : Program} {w : World} {K : PySem.W.Frag} {mg : Str → Option Value} {base : Heap} {f : Addr} {fd : FuncData} (T : Bl mg) (c_lot_uneven : FnAt P w K mg base 5 "lot_uneven" ["family", "lot"] (sp_lot_uneven K)) (F : FunD K "_law_call" "_law_call" (defArgs s_law_call) (defBody s_law_call) (defScope s_law_call) [] [] f fd) : FnOk P w K mg base (L2.CX P w) 6 f fd ["how", "arguments"] (sp_law_call K) :=
  F.ok sc_law_call (fun vs H Q E h => spD_len (k := 2) (fun ds o h => by first | exact h.1 | (obtain ⟨_, rfl, _⟩ := h; rfl) | (obtain ⟨_, _, rfl, _⟩ := h; rfl) | (obtain ⟨_, _, _, rfl, _⟩ := h; rfl) | (obtain ⟨_, _, _, _, rfl, _⟩ := h; rfl) | (obtain ⟨_, _, _, _, _, rfl, _⟩ := h; rfl) | (obtain ⟨_, _, _, _, _, _, rfl, _⟩ := h; rfl) | (obtain ⟨_, _, _, _, _, _, _, rfl, _⟩ := h; rfl)) h) (fun cdv A outer s H vs Q E hr h => ⟨t_law_call K E, (d_law_call T c_lot_uneven f cdv A outer s H E hr), pure_law_call h⟩)
theorem ok_law_call {P : Program} {w : World} {K : PySem.W.Frag} {mg : Str → Option Value} {base : Heap} {f : Addr} {fd : FuncData} (T : Bl mg) (c_lot_uneven : FnAt P w K mg base 5 "lot_uneven" ["family", "lot"] (sp_lot_uneven K)) (F : FunD K "_law_call" "_law_call" (defArgs s_law_call) (defBody s_law_call) (defScope s_law_call) [] [] f fd) (g : mg "_law_call" = some (.ref f)) : FnAt P w K mg base 6 "_law_call" ["how", "arguments"] (sp_law_call K) :=
  ⟨f, fd, o_law_call T c_lot_uneven F, g, F.kp, F.bindsN fun _ _ _ _ _ _ us hl => match us, hl with | [_, _], _ => rfl⟩
abbrev s_law_name : Stmt := top 43
theorem sc_law_name : FnScope ["caught", "found"] ["caught"] (defScope s_law_name) := ⟨rfl, rfl, rfl, by decide +kernel, rfl, by decide +kernel, by decide +kernel⟩
theorem d_law_name {P : Program} {w : World} {K : PySem.W.Frag} {mg : Str → Option Value} {base : Heap} (T : Bl mg) (x_InvalidBottom : ExcAt K mg "InvalidBottom") (x_InvalidColours : ExcAt K mg "InvalidColours") (x_InvalidFamily : ExcAt K mg "InvalidFamily") (x_InvalidLot : ExcAt K mg "InvalidLot") (x_InvalidMixture : ExcAt K mg "InvalidMixture") (x_InvalidNames : ExcAt K mg "InvalidNames") (x_InvalidNumber : ExcAt K mg "InvalidNumber") (x_InvalidRounding : ExcAt K mg "InvalidRounding") (x_InvalidSet : ExcAt K mg "InvalidSet") (x_InvalidSums : ExcAt K mg "InvalidSums") (x_InvalidText : ExcAt K mg "InvalidText") (x_InvalidTold : ExcAt K mg "InvalidTold") (x_LastOne : ExcAt K mg "LastOne") (x_NothingToUndo : ExcAt K mg "NothingToUndo") (x_TooMany : ExcAt K mg "TooMany") (f : Addr) (cdv : Value) (A : Around) (outer : List Env) (s : Shared) (H : Hp) (E : XK) (hr : Room 0 (A.deeper (envOfC "_law_name" (defScope s_law_name) s.heap.objs.size f cdv))) :
  PSs (cxOf (L2.CX P w) P w K mg base ["caught", "found"] "_law_name" (defScope s_law_name) f cdv A outer s H E).nox (defBody s_law_name) (t_law_name K E) :=
  (pss_cons (ps_if (pt_not (pt_val (pe_callB call_isX (by rfl) T.b_isinstance boot_isinstance (pa_cons (pv 0) (pa_cons (pe_bltn (by rfl) T.b_ValueError (by decide +kernel) rfl) pa_nil))))) (pss_one (ps_ret (pe_un un_neg pe_int))) pss_nil)
  (pss_cons (ps_set (i := 1) sc_law_name.nd rfl (by first | exact Or.inl rfl | exact Or.inr rfl) (pe_lst (pa_cons (pe_callB call_isX (by rfl) T.b_isinstance boot_isinstance (pa_cons (pv 0) (pa_cons (pe_glob (by rfl) x_InvalidFamily.g rfl) pa_nil))) (pa_cons (pe_callB call_isX (by rfl) T.b_isinstance boot_isinstance (pa_cons (pv 0) (pa_cons (pe_glob (by rfl) x_InvalidColours.g rfl) pa_nil))) pa_nil))))
  (pss_cons (ps_set (i := 1) sc_law_name.nd rfl (by first | exact Or.inl rfl | exact Or.inr rfl) (pe_op op_addU (pv 1) (pe_lst (pa_cons (pe_callB call_isX (by rfl) T.b_isinstance boot_isinstance (pa_cons (pv 0) (pa_cons (pe_glob (by rfl) x_InvalidNumber.g rfl) pa_nil))) (pa_cons (pe_callB call_isX (by rfl) T.b_isinstance boot_isinstance (pa_cons (pv 0) (pa_cons (pe_glob (by rfl) x_InvalidLot.g rfl) pa_nil))) pa_nil)))))
  (pss_cons (ps_set (i := 1) sc_law_name.nd rfl (by first | exact Or.inl rfl | exact Or.inr rfl) (pe_op op_addU (pv 1) (pe_lst (pa_cons (pe_callB call_isX (by rfl) T.b_isinstance boot_isinstance (pa_cons (pv 0) (pa_cons (pe_glob (by rfl) x_InvalidTold.g rfl) pa_nil))) (pa_cons (pe_callB call_isX (by rfl) T.b_isinstance boot_isinstance (pa_cons (pv 0) (pa_cons (pe_glob (by rfl) x_InvalidRounding.g rfl) pa_nil))) pa_nil)))))
  (pss_cons (ps_set (i := 1) sc_law_name.nd rfl (by first | exact Or.inl rfl | exact Or.inr rfl) (pe_op op_addU (pv 1) (pe_lst (pa_cons (pe_callB call_isX (by rfl) T.b_isinstance boot_isinstance (pa_cons (pv 0) (pa_cons (pe_glob (by rfl) x_InvalidSet.g rfl) pa_nil))) (pa_cons (pe_callB call_isX (by rfl) T.b_isinstance boot_isinstance (pa_cons (pv 0) (pa_cons (pe_glob (by rfl) x_InvalidNames.g rfl) pa_nil))) pa_nil)))))
  (pss_cons (ps_set (i := 1) sc_law_name.nd rfl (by first | exact Or.inl rfl | exact Or.inr rfl) (pe_op op_addU (pv 1) (pe_lst (pa_cons (pe_callB call_isX (by rfl) T.b_isinstance boot_isinstance (pa_cons (pv 0) (pa_cons (pe_glob (by rfl) x_InvalidMixture.g rfl) pa_nil))) (pa_cons (pe_callB call_isX (by rfl) T.b_isinstance boot_isinstance (pa_cons (pv 0) (pa_cons (pe_glob (by rfl) x_InvalidSums.g rfl) pa_nil))) pa_nil)))))
  (pss_cons (ps_set (i := 1) sc_law_name.nd rfl (by first | exact Or.inl rfl | exact Or.inr rfl) (pe_op op_addU (pv 1) (pe_lst (pa_cons (pe_callB call_isX (by rfl) T.b_isinstance boot_isinstance (pa_cons (pv 0) (pa_cons (pe_glob (by rfl) x_InvalidBottom.g rfl) pa_nil))) (pa_cons (pe_callB call_isX (by rfl) T.b_isinstance boot_isinstance (pa_cons (pv 0) (pa_cons (pe_glob (by rfl) x_InvalidText.g rfl) pa_nil))) pa_nil)))))
  (pss_cons (ps_set (i := 1) sc_law_name.nd rfl (by first | exact Or.inl rfl | exact Or.inr rfl) (pe_op op_addU (pv 1) (pe_lst (pa_cons (pe_callB call_isX (by rfl) T.b_isinstance boot_isinstance (pa_cons (pv 0) (pa_cons (pe_glob (by rfl) x_LastOne.g rfl) pa_nil))) (pa_cons (pe_callB call_isX (by rfl) T.b_isinstance boot_isinstance (pa_cons (pv 0) (pa_cons (pe_glob (by rfl) x_TooMany.g rfl) pa_nil))) pa_nil)))))
  (pss_cons (ps_set (i := 1) sc_law_name.nd rfl (by first | exact Or.inl rfl | exact Or.inr rfl) (pe_op op_addU (pv 1) (pe_lst (pa_cons (pe_callB call_isX (by rfl) T.b_isinstance boot_isinstance (pa_cons (pv 0) (pa_cons (pe_glob (by rfl) x_NothingToUndo.g rfl) pa_nil))) pa_nil))))
  (pss_one (ps_ret (pe_ifExp (pt_cmpR (op_eqD hr.units) (pe_bm PySem.F.plainAttrs_list PySem.F.slot_list_count PySem.F.type_list_count (mt_countL (units65 hr)) (pv 1) (pa_cons pe_bl pa_nil)) pe_int (nomark _)) (pe_bm PySem.F.plainAttrs_list PySem.F.slot_list_index PySem.F.type_list_index (mt_indexD (units65 hr)) (pv 1) (pa_cons pe_bl pa_nil)) (pe_un un_neg pe_int)))))))))))))
theorem o_law_name {P : Program} {w : World} {K : PySem.W.Frag} {mg : Str → Option Value} {base : Heap} {f : Addr} {fd : FuncData} (T : Bl mg) (x_InvalidBottom : ExcAt K mg "InvalidBottom") (x_InvalidColours : ExcAt K mg "InvalidColours") (x_InvalidFamily : ExcAt K mg "InvalidFamily") (x_InvalidLot : ExcAt K mg "InvalidLot") (x_InvalidMixture : ExcAt K mg "InvalidMixture") (x_InvalidNames : ExcAt K mg "InvalidNames") (x_InvalidNumber : ExcAt K mg "InvalidNumber") (x_InvalidRounding : ExcAt K mg "InvalidRounding") (x_InvalidSet : ExcAt K mg "InvalidSet") (x_InvalidSums : ExcAt K mg "InvalidSums") (x_InvalidText : ExcAt K mg "InvalidText") (x_InvalidTold : ExcAt K mg "InvalidTold") (x_LastOne : ExcAt K mg "LastOne") (x_NothingToUndo : ExcAt K mg "NothingToUndo") (x_TooMany : ExcAt K mg "TooMany") (F : FunD K "_law_name" "_law_name" (defArgs s_law_name) (defBody s_law_name) (defScope s_law_name) [] [] f fd) : FnOk P w K mg base (L2.CX P w) 1 f fd ["caught"] (sp_law_name K) :=
  F.ok sc_law_name (fun vs H Q E h => spD_len (k := 1) (fun ds o h => by first | exact h.1 | (obtain ⟨_, rfl, _⟩ := h; rfl) | (obtain ⟨_, _, rfl, _⟩ := h; rfl) | (obtain ⟨_, _, _, rfl, _⟩ := h; rfl) | (obtain ⟨_, _, _, _, rfl, _⟩ := h; rfl) | (obtain ⟨_, _, _, _, _, rfl, _⟩ := h; rfl) | (obtain ⟨_, _, _, _, _, _, rfl, _⟩ := h; rfl) | (obtain ⟨_, _, _, _, _, _, _, rfl, _⟩ := h; rfl)) h) (fun cdv A outer s H vs Q E hr h => ⟨t_law_name K E, PSs.nox (d_law_name T x_InvalidBottom x_InvalidColours x_InvalidFamily x_InvalidLot x_InvalidMixture x_InvalidNames x_InvalidNumber x_InvalidRounding x_InvalidSet x_InvalidSums x_InvalidText x_InvalidTold x_LastOne x_NothingToUndo x_TooMany f cdv A outer s H E hr), pure_law_name h⟩)
theorem ok_law_name {P : Program} {w : World} {K : PySem.W.Frag} {mg : Str → Option Value} {base : Heap} {f : Addr} {fd : FuncData} (T : Bl mg) (x_InvalidBottom : ExcAt K mg "InvalidBottom") (x_InvalidColours : ExcAt K mg "InvalidColours") (x_InvalidFamily : ExcAt K mg "InvalidFamily") (x_InvalidLot : ExcAt K mg "InvalidLot") (x_InvalidMixture : ExcAt K mg "InvalidMixture") (x_InvalidNames : ExcAt K mg "InvalidNames") (x_InvalidNumber : ExcAt K mg "InvalidNumber") (x_InvalidRounding : ExcAt K mg "InvalidRounding") (x_InvalidSet : ExcAt K mg "InvalidSet") (x_InvalidSums : ExcAt K mg "InvalidSums") (x_InvalidText : ExcAt K mg "InvalidText") (x_InvalidTold : ExcAt K mg "InvalidTold") (x_LastOne : ExcAt K mg "LastOne") (x_NothingToUndo : ExcAt K mg "NothingToUndo") (x_TooMany : ExcAt K mg "TooMany") (F : FunD K "_law_name" "_law_name" (defArgs s_law_name) (defBody s_law_name) (defScope s_law_name) [] [] f fd) (g : mg "_law_name" = some (.ref f)) : FnAt P w K mg base 1 "_law_name" ["caught"] (sp_law_name K) :=
  ⟨f, fd, o_law_name T x_InvalidBottom x_InvalidColours x_InvalidFamily x_InvalidLot x_InvalidMixture x_InvalidNames x_InvalidNumber x_InvalidRounding x_InvalidSet x_InvalidSums x_InvalidText x_InvalidTold x_LastOne x_NothingToUndo x_TooMany F, g, F.kp, F.bindsN fun _ _ _ _ _ _ us hl => match us, hl with | [_], _ => rfl⟩
abbrev s_law_outcome : Stmt := top 42
theorem sc_law_outcome : FnScope ["how", "arguments", "caught", "result", "error"] ["how", "arguments"] (defScope s_law_outcome) := ⟨rfl, rfl, rfl, by decide +kernel, rfl, by decide +kernel, by decide +kernel⟩
theorem d_law_outcome {P : Program} {w : World} {K : PySem.W.Frag} {mg : Str → Option Value} {base : Heap} (T : Bl mg) (c_law_call : FnAt P w K mg base 6 "_law_call" ["how", "arguments"] (sp_law_call K)) (c_law_name : FnAt P w K mg base 1 "_law_name" ["caught"] (sp_law_name K)) (x_ColourError : ExcAt K mg "ColourError") (f : Addr) (cdv : Value) (A : Around) (outer : List Env) (s : Shared) (H : Hp) (E : XK) (hr : Room 6 (A.deeper (envOfC "_law_outcome" (defScope s_law_outcome) s.heap.objs.size f cdv))) :
  PSs (cxOf (L2.CX P w) P w K mg base ["how", "arguments", "caught", "result", "error"] "_law_outcome" (defScope s_law_outcome) f cdv A outer s H E).nox (defBody s_law_outcome) (t_law_outcome K E) :=
  (pss_cons (ps_set (i := 2) sc_law_outcome.nd rfl (by first | exact Or.inl rfl | exact Or.inr rfl) pe_non)
  (pss_cons (ps_set (i := 3) sc_law_outcome.nd rfl (by first | exact Or.inl rfl | exact Or.inr rfl) pe_non)
  (pss_cons (ps_tryKeep (i := 4) (j := 2) (Wout := fun _ _ _ _ => False) (tb := fun W => tAsg (tCallS (sp_law_call K) (WE W) (tCons (tVar 0) (tCons (tVar 1) tNil))) (gName 3)) rfl rfl sc_law_outcome.nd rfl rfl (by decide) rfl rfl rfl ⟨by rfl, by decide, .inl x_ColourError.g⟩ takes0 (fun a pn => pss_one (ps_set (i := 2) sc_law_outcome.nd rfl (by first | exact Or.inl rfl | exact Or.inr rfl) (pv 4))) (fun W pn xe tk _ => pss_one (ps_set (i := 3) sc_law_outcome.nd rfl (by first | exact Or.inl rfl | exact Or.inr rfl) (pe_callFS c_law_call (hr.mono (by decide)) (by rfl) tk (pa_cons (pv 0) (pa_cons (pv 1) pa_nil))))))
  (pss_cons (ps_if (pt_cmpR op_isU (pv 2) pe_non (nomark _)) (pss_one (ps_ret (pe_tup (pa_cons pe_str (pa_cons (pv 3) pa_nil))))) pss_nil)
  (pss_one (ps_ret (pe_tup (pa_cons pe_str (pa_cons (pe_callF c_law_name (hr.mono (by decide)) (by rfl) passL (pa_cons (pv 2) pa_nil)) pa_nil)))))))))
theorem o_law_outcome {P : Program} {w : World} {K : PySem.W.Frag} {mg : Str → Option Value} {base : Heap} {f : Addr} {fd : FuncData} (T : Bl mg) (c_law_call : FnAt P w K mg base 6 "_law_call" ["how", "arguments"] (sp_law_call K)) (c_law_name : FnAt P w K mg base 1 "_law_name" ["caught"] (sp_law_name K)) (x_ColourError : ExcAt K mg "ColourError") (F : FunD K "_law_outcome" "_law_outcome" (defArgs s_law_outcome) (defBody s_law_outcome) (defScope s_law_outcome) [] [] f fd) : FnOk P w K mg base (L2.CX P w) 7 f fd ["how", "arguments"] (sp_law_outcome K) :=
  F.ok sc_law_outcome (fun vs H Q E h => spD_len (k := 2) (fun ds o h => by first | exact h.1 | (obtain ⟨_, rfl, _⟩ := h; rfl) | (obtain ⟨_, _, rfl, _⟩ := h; rfl) | (obtain ⟨_, _, _, rfl, _⟩ := h; rfl) | (obtain ⟨_, _, _, _, rfl, _⟩ := h; rfl) | (obtain ⟨_, _, _, _, _, rfl, _⟩ := h; rfl) | (obtain ⟨_, _, _, _, _, _, rfl, _⟩ := h; rfl) | (obtain ⟨_, _, _, _, _, _, _, rfl, _⟩ := h; rfl)) h) (fun cdv A outer s H vs Q E hr h => ⟨t_law_outcome K E, PSs.nox (d_law_outcome T c_law_call c_law_name x_ColourError f cdv A outer s H E hr), pure_law_outcome h⟩)
theorem ok_law_outcome {P : Program} {w : World} {K : PySem.W.Frag} {mg : Str → Option Value} {base : Heap} {f : Addr} {fd : FuncData} (T : Bl mg) (c_law_call : FnAt P w K mg base 6 "_law_call" ["how", "arguments"] (sp_law_call K)) (c_law_name : FnAt P w K mg base 1 "_law_name" ["caught"] (sp_law_name K)) (x_ColourError : ExcAt K mg "ColourError") (F : FunD K "_law_outcome" "_law_outcome" (defArgs s_law_outcome) (defBody s_law_outcome) (defScope s_law_outcome) [] [] f fd) (g : mg "_law_outcome" = some (.ref f)) : FnAt P w K mg base 7 "_law_outcome" ["how", "arguments"] (sp_law_outcome K) :=
  ⟨f, fd, o_law_outcome T c_law_call c_law_name x_ColourError F, g, F.kp, F.bindsN fun _ _ _ _ _ _ us hl => match us, hl with | [_, _], _ => rfl⟩
abbrev s_law_pick : Stmt := top 41
theorem sc_law_pick : FnScope ["script", "town", "choices"] ["script", "town", "choices"] (defScope s_law_pick) := ⟨rfl, rfl, rfl, by decide +kernel, rfl, by decide +kernel, by decide +kernel⟩
theorem d_law_pick {P : Program} {w : World} {K : PySem.W.Frag} {mg : Str → Option Value} {base : Heap} (T : Bl mg) (c_law_draw : FnAt P w K mg base 1 "_law_draw" ["script", "town", "limit"] (sp_law_draw K)) (f : Addr) (cdv : Value) (A : Around) (outer : List Env) (s : Shared) (H : Hp) (E : XK) (hr : Room 1 (A.deeper (envOfC "_law_pick" (defScope s_law_pick) s.heap.objs.size f cdv))) :
  PSs (cxOf (L2.CX P w) P w K mg base ["script", "town", "choices"] "_law_pick" (defScope s_law_pick) f cdv A outer s H E).nox (defBody s_law_pick) (t_law_pick K E) :=
  (pss_one (ps_ret (pe_ix ix_seq (pv 2) (pe_callF c_law_draw (hr.mono (by decide)) (by rfl) passL (pa_cons (pv 0) (pa_cons (pv 1) (pa_cons (pe_callB cr_lenU (by rfl) T.b_len (by decide +kernel) (pa_cons (pv 2) pa_nil)) pa_nil)))) (fun _ _ => rfl))))
theorem o_law_pick {P : Program} {w : World} {K : PySem.W.Frag} {mg : Str → Option Value} {base : Heap} {f : Addr} {fd : FuncData} (T : Bl mg) (c_law_draw : FnAt P w K mg base 1 "_law_draw" ["script", "town", "limit"] (sp_law_draw K)) (F : FunD K "_law_pick" "_law_pick" (defArgs s_law_pick) (defBody s_law_pick) (defScope s_law_pick) [] [] f fd) : FnOk P w K mg base (L2.CX P w) 2 f fd ["script", "town", "choices"] (sp_law_pick K) :=
  F.ok sc_law_pick (fun vs H Q E h => spT_len (E := E) (k := 1) (fun ds h => by obtain ⟨_, rfl, _⟩ := h; rfl) h) (fun cdv A outer s H vs Q E hr h => ⟨t_law_pick K E, PSs.nox (d_law_pick T c_law_draw f cdv A outer s H E hr), pure_law_pick h⟩)
theorem ok_law_pick {P : Program} {w : World} {K : PySem.W.Frag} {mg : Str → Option Value} {base : Heap} {f : Addr} {fd : FuncData} (T : Bl mg) (c_law_draw : FnAt P w K mg base 1 "_law_draw" ["script", "town", "limit"] (sp_law_draw K)) (F : FunD K "_law_pick" "_law_pick" (defArgs s_law_pick) (defBody s_law_pick) (defScope s_law_pick) [] [] f fd) (g : mg "_law_pick" = some (.ref f)) : FnAt P w K mg base 2 "_law_pick" ["script", "town", "choices"] (sp_law_pick K) :=
  ⟨f, fd, o_law_pick T c_law_draw F, g, F.kp, F.bindsN fun _ _ _ _ _ _ us hl => match us, hl with | [_, _, _], _ => rfl⟩
abbrev s_law_raises : Stmt := top 44
theorem sc_law_raises : FnScope ["name", "some"] ["name"] (defScope s_law_raises) := ⟨rfl, rfl, rfl, by decide +kernel, rfl, by decide +kernel, by decide +kernel⟩
theorem d_law_raises {P : Program} {w : World} {K : PySem.W.Frag} {mg : Str → Option Value} {base : Heap} (T : Bl mg)  (f : Addr) (cdv : Value) (A : Around) (outer : List Env) (s : Shared) (H : Hp) (E : XK) (hr : Room 0 (A.deeper (envOfC "_law_raises" (defScope s_law_raises) s.heap.objs.size f cdv))) :
  PSs (cxOf (L2.CX P w) P w K mg base ["name", "some"] "_law_raises" (defScope s_law_raises) f cdv A outer s H E).nox (defBody s_law_raises) (t_law_raises K E) :=
  (pss_cons (ps_set (i := 1) sc_law_raises.nd rfl (by first | exact Or.inl rfl | exact Or.inr rfl) (pe_lst (pa_cons pe_str (pa_cons pe_str (pa_cons pe_str (pa_cons pe_str (pa_cons pe_str (pa_cons pe_str (pa_cons pe_str (pa_cons pe_str pa_nil))))))))))
  (pss_cons (ps_set (i := 1) sc_law_raises.nd rfl (by first | exact Or.inl rfl | exact Or.inr rfl) (pe_op op_addU (pv 1) (pe_lst (pa_cons pe_str (pa_cons pe_str (pa_cons pe_str (pa_cons pe_str (pa_cons pe_str (pa_cons pe_str (pa_cons pe_str pa_nil))))))))))
  (pss_one (ps_ret (pe_tup (pa_cons pe_str (pa_cons (pe_bm PySem.F.plainAttrs_list PySem.F.slot_list_index PySem.F.type_list_index (mt_indexD (units65 hr)) (pv 1) (pa_cons (pv 0) pa_nil)) pa_nil)))))))
theorem o_law_raises {P : Program} {w : World} {K : PySem.W.Frag} {mg : Str → Option Value} {base : Heap} {f : Addr} {fd : FuncData} (T : Bl mg)  (F : FunD K "_law_raises" "_law_raises" (defArgs s_law_raises) (defBody s_law_raises) (defScope s_law_raises) [] [] f fd) : FnOk P w K mg base (L2.CX P w) 1 f fd ["name"] (sp_law_raises K) :=
  F.ok sc_law_raises (fun vs H Q E h => spD_len (k := 1) (fun ds o h => by first | exact h.1 | (obtain ⟨_, rfl, _⟩ := h; rfl) | (obtain ⟨_, _, rfl, _⟩ := h; rfl) | (obtain ⟨_, _, _, rfl, _⟩ := h; rfl) | (obtain ⟨_, _, _, _, rfl, _⟩ := h; rfl) | (obtain ⟨_, _, _, _, _, rfl, _⟩ := h; rfl) | (obtain ⟨_, _, _, _, _, _, rfl, _⟩ := h; rfl) | (obtain ⟨_, _, _, _, _, _, _, rfl, _⟩ := h; rfl)) h) (fun cdv A outer s H vs Q E hr h => ⟨t_law_raises K E, PSs.nox (d_law_raises T  f cdv A outer s H E hr), pure_law_raises h⟩)
theorem ok_law_raises {P : Program} {w : World} {K : PySem.W.Frag} {mg : Str → Option Value} {base : Heap} {f : Addr} {fd : FuncData} (T : Bl mg)  (F : FunD K "_law_raises" "_law_raises" (defArgs s_law_raises) (defBody s_law_raises) (defScope s_law_raises) [] [] f fd) (g : mg "_law_raises" = some (.ref f)) : FnAt P w K mg base 1 "_law_raises" ["name"] (sp_law_raises K) :=
  ⟨f, fd, o_law_raises T  F, g, F.kp, F.bindsN fun _ _ _ _ _ _ us hl => match us, hl with | [_], _ => rfl⟩
abbrev s_law_town : Stmt := top 39
theorem sc_law_town : FnScope ["script"] ["script"] (defScope s_law_town) := ⟨rfl, rfl, rfl, by decide +kernel, rfl, by decide +kernel, by decide +kernel⟩
theorem d_law_town {P : Program} {w : World} {K : PySem.W.Frag} {mg : Str → Option Value} {base : Heap} (T : Bl mg)  (f : Addr) (cdv : Value) (A : Around) (outer : List Env) (s : Shared) (H : Hp) (E : XK) (hr : Room 0 (A.deeper (envOfC "_law_town" (defScope s_law_town) s.heap.objs.size f cdv))) :
  PSs (cxOf (L2.CX P w) P w K mg base ["script"] "_law_town" (defScope s_law_town) f cdv A outer s H E).nox (defBody s_law_town) (t_law_town K E) :=
  (pss_one (ps_ret (pe_op op_addU (pe_lst (pa_cons pe_int pa_nil)) (pe_callTy (cr_listU rfl) (by rfl) T.b_list (by decide +kernel) (pa_cons (pv 0) pa_nil)))))
theorem o_law_town {P : Program} {w : World} {K : PySem.W.Frag} {mg : Str → Option Value} {base : Heap} {f : Addr} {fd : FuncData} (T : Bl mg)  (F : FunD K "_law_town" "_law_town" (defArgs s_law_town) (defBody s_law_town) (defScope s_law_town) [] [] f fd) : FnOk P w K mg base (L2.CX P w) 1 f fd ["script"] (sp_law_town K) :=
  F.ok sc_law_town (fun vs H Q E h => by obtain ⟨A, ns, _, _, hd, _⟩ := h; simpa using hd.length) (fun cdv A outer s H vs Q E hr h => ⟨t_law_town K E, PSs.nox (d_law_town T  f cdv A outer s H E hr), pure_law_town h⟩)
theorem ok_law_town {P : Program} {w : World} {K : PySem.W.Frag} {mg : Str → Option Value} {base : Heap} {f : Addr} {fd : FuncData} (T : Bl mg)  (F : FunD K "_law_town" "_law_town" (defArgs s_law_town) (defBody s_law_town) (defScope s_law_town) [] [] f fd) (g : mg "_law_town" = some (.ref f)) : FnAt P w K mg base 1 "_law_town" ["script"] (sp_law_town K) :=
  ⟨f, fd, o_law_town T  F, g, F.kp, F.bindsN fun _ _ _ _ _ _ us hl => match us, hl with | [_], _ => rfl⟩
abbrev s_some_numbers : Stmt := top 33
theorem sc_some_numbers : FnScope ["many", "size", "rows", "time", "row", "one"] ["many", "size"] (defScope s_some_numbers) := ⟨rfl, rfl, rfl, by decide +kernel, rfl, by decide +kernel, by decide +kernel⟩
theorem d_some_numbers {P : Program} {w : World} {K : PySem.W.Frag} {mg : Str → Option Value} {base : Heap} (T : Bl mg)  (f : Addr) (cdv : Value) (A : Around) (outer : List Env) (s : Shared) (H : Hp) (E : XK) (hr : Room 0 (A.deeper (envOfC "some_numbers" (defScope s_some_numbers) s.heap.objs.size f cdv))) :
  PSs (cxOf (L2.CX P w) P w K mg base ["many", "size", "rows", "time", "row", "one"] "some_numbers" (defScope s_some_numbers) f cdv A outer s H E).nox (defBody s_some_numbers) (t_some_numbers K E) :=
  (pss_cons (ps_set (i := 2) sc_some_numbers.nd rfl (by first | exact Or.inl rfl | exact Or.inr rfl) (pe_lst (pa_cons (pe_tup pa_nil) pa_nil)))
  (pss_cons (ps_for PassesOwn.never rfl (pi_range1 (by rfl) T.b_range (pa_cons (pv 1) pa_nil)) (pg_name (i := 3) sc_some_numbers.nd rfl (by first | exact Or.inl rfl | exact Or.inr rfl)) (pss_one (ps_setLc2 (i := 2) (own := [("row", 4), ("one", 5)]) (vs1 := [5]) (by rfl) sc_some_numbers.nd rfl rfl (sw_true rfl rfl rfl (by decide +kernel)) (pi_seq (pv 2)) (blkOk_by (own := [("row", 4), ("one", 5)]) (by kernel_rfl)) (by decide) (fun _ _ _ _ _ => (pg_name (i := 4) sc_some_numbers.nd rfl (by first | exact Or.inl rfl | exact Or.inr rfl))) (fun _ _ _ _ _ => pts_nil) (fun _ _ _ _ _ => (pi_range1 (by rfl) T.b_range (pa_cons (pv 0) pa_nil))) (fun _ _ _ _ _ => (pg_name (i := 5) sc_some_numbers.nd rfl (by first | exact Or.inl rfl | exact Or.inr rfl))) (fun _ _ _ _ _ => (pts_one (PW.pt (pw_or (pt_cmpR (op_eqD hr.units) (pv 4) (pe_tup pa_nil) (nomark _)) (pw_or1 (pt_cmpR (op_ltU hr.units0) (pe_ix ix_seq (pv 4) (pe_un un_neg pe_int) (fun _ _ => rfl)) (pv 5) (nomark _))))))) (fun _ _ _ _ _ => (pe_op op_addU (pv 4) (pe_tup (pa_cons (pv 5) pa_nil)))))))
  (pss_one (ps_ret (pv 2)))))
theorem o_some_numbers {P : Program} {w : World} {K : PySem.W.Frag} {mg : Str → Option Value} {base : Heap} {f : Addr} {fd : FuncData} (T : Bl mg)  (F : FunD K "some_numbers" "some_numbers" (defArgs s_some_numbers) (defBody s_some_numbers) (defScope s_some_numbers) [] [] f fd) : FnOk P w K mg base (L2.CX P w) 1 f fd ["many", "size"] (sp_some_numbers K) :=
  F.ok sc_some_numbers (fun vs H Q E h => spD_len (k := 2) (fun ds o h => by first | exact h.1 | (obtain ⟨_, rfl, _⟩ := h; rfl) | (obtain ⟨_, _, rfl, _⟩ := h; rfl) | (obtain ⟨_, _, _, rfl, _⟩ := h; rfl) | (obtain ⟨_, _, _, _, rfl, _⟩ := h; rfl) | (obtain ⟨_, _, _, _, _, rfl, _⟩ := h; rfl) | (obtain ⟨_, _, _, _, _, _, rfl, _⟩ := h; rfl) | (obtain ⟨_, _, _, _, _, _, _, rfl, _⟩ := h; rfl)) h) (fun cdv A outer s H vs Q E hr h => ⟨t_some_numbers K E, PSs.nox (d_some_numbers T  f cdv A outer s H E hr), pure_some_numbers h⟩)
theorem ok_some_numbers {P : Program} {w : World} {K : PySem.W.Frag} {mg : Str → Option Value} {base : Heap} {f : Addr} {fd : FuncData} (T : Bl mg)  (F : FunD K "some_numbers" "some_numbers" (defArgs s_some_numbers) (defBody s_some_numbers) (defScope s_some_numbers) [] [] f fd) (g : mg "some_numbers" = some (.ref f)) : FnAt P w K mg base 1 "some_numbers" ["many", "size"] (sp_some_numbers K) :=
  ⟨f, fd, o_some_numbers T  F, g, F.kp, F.bindsN fun _ _ _ _ _ _ us hl => match us, hl with | [_, _], _ => rfl⟩
abbrev s_worst_lot : Stmt := top 36
theorem sc_worst_lot : FnScope ["family", "best", "found", "size", "lot", "one"] ["family"] (defScope s_worst_lot) := ⟨rfl, rfl, rfl, by decide +kernel, rfl, by decide +kernel, by decide +kernel⟩
theorem d_worst_lot {P : Program} {w : World} {K : PySem.W.Frag} {mg : Str → Option Value} {base : Heap} (T : Bl mg) (c_check_family : FnAt P w K mg base 4 "check_family" ["value"] (sp_check_family K)) (c_found_lot_uneven : FnAt P w K mg base 4 "found_lot_uneven" ["family", "lot"] (sp_found_lot_uneven K)) (c_some_numbers : FnAt P w K mg base 1 "some_numbers" ["many", "size"] (sp_some_numbers K)) (f : Addr) (cdv : Value) (A : Around) (outer : List Env) (s : Shared) (H : Hp) (E : XK) (hr : Room 4 (A.deeper (envOfC "worst_lot" (defScope s_worst_lot) s.heap.objs.size f cdv))) :
  PSs (cxOf (L2.CX P w) P w K mg base ["family", "best", "found", "size", "lot", "one"] "worst_lot" (defScope s_worst_lot) f cdv A outer s H E) (defBody s_worst_lot) (t_worst_lot K E) :=
  (pss_cons (ps_expr (pe_callF c_check_family (hr.mono (by decide)) (by rfl) (passes_call (takes_of rfl rfl rfl rfl) (fun _ _ _ _ h => h)) (pa_cons (pv 0) pa_nil)))
  (pss_cons (ps_asg (pe_tup (pa_cons (pe_un un_neg pe_int) (pa_cons pe_non pa_nil))) (pg_tup rfl (pgs_cons (pg_name (i := 1) sc_worst_lot.nd rfl (by first | exact Or.inl rfl | exact Or.inr rfl)) (pgs_cons (pg_name (i := 2) sc_worst_lot.nd rfl (by first | exact Or.inl rfl | exact Or.inr rfl)) pgs_nil))))
  (pss_cons (ps_for (passes_of rfl) rfl (pi_range2 (by rfl) T.b_range (pa_cons pe_int (pa_cons (pe_op op_addU (pe_ix ix_seq (pv 0) pe_int (fun _ _ => rfl)) pe_int) pa_nil))) (pg_name (i := 3) sc_worst_lot.nd rfl (by first | exact Or.inl rfl | exact Or.inr rfl)) (pss_one (ps_for (passes_of rfl) rfl (pi_seq (pe_callF c_some_numbers (hr.mono (by decide)) (by rfl) passL (pa_cons (pe_ix ix_seq (pv 0) pe_int (fun _ _ => rfl)) (pa_cons (pv 3) pa_nil)))) (pg_name (i := 4) sc_worst_lot.nd rfl (by first | exact Or.inl rfl | exact Or.inr rfl)) (pss_cons (ps_set (i := 5) sc_worst_lot.nd rfl (by first | exact Or.inl rfl | exact Or.inr rfl) (pe_callF c_found_lot_uneven (hr.mono (by decide)) (by rfl) passL (pa_cons (pv 0) (pa_cons (pv 4) pa_nil))))
  (pss_one (ps_if (pt_cmpR op_gt (pv 5) (pv 1) (nomark _)) (pss_one (ps_par (by rfl) sc_worst_lot.nd rfl rfl (by decide) rfl rfl (pa_cons (pv 5) (pa_cons (pv 4) pa_nil)) (by rfl))) pss_nil))))))
  (pss_one (ps_ret (pe_tup (pa_cons (pv 1) (pa_cons (pv 2) pa_nil))))))))
theorem o_worst_lot {P : Program} {w : World} {K : PySem.W.Frag} {mg : Str → Option Value} {base : Heap} {f : Addr} {fd : FuncData} (T : Bl mg) (c_check_family : FnAt P w K mg base 4 "check_family" ["value"] (sp_check_family K)) (c_found_lot_uneven : FnAt P w K mg base 4 "found_lot_uneven" ["family", "lot"] (sp_found_lot_uneven K)) (c_some_numbers : FnAt P w K mg base 1 "some_numbers" ["many", "size"] (sp_some_numbers K)) (F : FunD K "worst_lot" "worst_lot" (defArgs s_worst_lot) (defBody s_worst_lot) (defScope s_worst_lot) [] [] f fd) : FnOk P w K mg base (L2.CX P w) 5 f fd ["family"] (sp_worst_lot K) :=
  F.ok sc_worst_lot (fun vs H Q E h => spD_len (k := 1) (fun ds o h => by first | exact h.1 | (obtain ⟨_, rfl, _⟩ := h; rfl) | (obtain ⟨_, _, rfl, _⟩ := h; rfl) | (obtain ⟨_, _, _, rfl, _⟩ := h; rfl) | (obtain ⟨_, _, _, _, rfl, _⟩ := h; rfl) | (obtain ⟨_, _, _, _, _, rfl, _⟩ := h; rfl) | (obtain ⟨_, _, _, _, _, _, rfl, _⟩ := h; rfl) | (obtain ⟨_, _, _, _, _, _, _, rfl, _⟩ := h; rfl)) h) (fun cdv A outer s H vs Q E hr h => ⟨t_worst_lot K E, (d_worst_lot T c_check_family c_found_lot_uneven c_some_numbers f cdv A outer s H E hr), pure_worst_lot h⟩)
theorem ok_worst_lot {P : Program} {w : World} {K : PySem.W.Frag} {mg : Str → Option Value} {base : Heap} {f : Addr} {fd : FuncData} (T : Bl mg) (c_check_family : FnAt P w K mg base 4 "check_family" ["value"] (sp_check_family K)) (c_found_lot_uneven : FnAt P w K mg base 4 "found_lot_uneven" ["family", "lot"] (sp_found_lot_uneven K)) (c_some_numbers : FnAt P w K mg base 1 "some_numbers" ["many", "size"] (sp_some_numbers K)) (F : FunD K "worst_lot" "worst_lot" (defArgs s_worst_lot) (defBody s_worst_lot) (defScope s_worst_lot) [] [] f fd) (g : mg "worst_lot" = some (.ref f)) : FnAt P w K mg base 5 "worst_lot" ["family"] (sp_worst_lot K) :=
  ⟨f, fd, o_worst_lot T c_check_family c_found_lot_uneven c_some_numbers F, g, F.kp, F.bindsN fun _ _ _ _ _ _ us hl => match us, hl with | [_], _ => rfl⟩
abbrev s_is_always_even : Stmt := top 37
theorem sc_is_always_even : FnScope ["family"] ["family"] (defScope s_is_always_even) := ⟨rfl, rfl, rfl, by decide +kernel, rfl, by decide +kernel, by decide +kernel⟩
theorem d_is_always_even {P : Program} {w : World} {K : PySem.W.Frag} {mg : Str → Option Value} {base : Heap} (T : Bl mg) (c_worst_lot : FnAt P w K mg base 5 "worst_lot" ["family"] (sp_worst_lot K)) (f : Addr) (cdv : Value) (A : Around) (outer : List Env) (s : Shared) (H : Hp) (E : XK) (hr : Room 5 (A.deeper (envOfC "is_always_even" (defScope s_is_always_even) s.heap.objs.size f cdv))) :
  PSs (cxOf (L2.CX P w) P w K mg base ["family"] "is_always_even" (defScope s_is_always_even) f cdv A outer s H E) (defBody s_is_always_even) (t_is_always_even K E) :=
  (pss_one (ps_ret (pe_cmpR op_le (pe_ix ix_seq (pe_callF c_worst_lot (hr.mono (by decide)) (by rfl) (passes_call (takes_of rfl rfl rfl rfl) (fun _ _ _ _ h => h)) (pa_cons (pv 0) pa_nil)) pe_int (fun _ _ => rfl)) pe_int (nomark _))))
theorem o_is_always_even {P : Program} {w : World} {K : PySem.W.Frag} {mg : Str → Option Value} {base : Heap} {f : Addr} {fd : FuncData} (T : Bl mg) (c_worst_lot : FnAt P w K mg base 5 "worst_lot" ["family"] (sp_worst_lot K)) (F : FunD K "is_always_even" "is_always_even" (defArgs s_is_always_even) (defBody s_is_always_even) (defScope s_is_always_even) [] [] f fd) : FnOk P w K mg base (L2.CX P w) 6 f fd ["family"] (sp_is_always_even K) :=
  F.ok sc_is_always_even (fun vs H Q E h => spD_len (k := 1) (fun ds o h => by first | exact h.1 | (obtain ⟨_, rfl, _⟩ := h; rfl) | (obtain ⟨_, _, rfl, _⟩ := h; rfl) | (obtain ⟨_, _, _, rfl, _⟩ := h; rfl) | (obtain ⟨_, _, _, _, rfl, _⟩ := h; rfl) | (obtain ⟨_, _, _, _, _, rfl, _⟩ := h; rfl) | (obtain ⟨_, _, _, _, _, _, rfl, _⟩ := h; rfl) | (obtain ⟨_, _, _, _, _, _, _, rfl, _⟩ := h; rfl)) h) (fun cdv A outer s H vs Q E hr h => ⟨t_is_always_even K E, (d_is_always_even T c_worst_lot f cdv A outer s H E hr), pure_is_always_even h⟩)
theorem ok_is_always_even {P : Program} {w : World} {K : PySem.W.Frag} {mg : Str → Option Value} {base : Heap} {f : Addr} {fd : FuncData} (T : Bl mg) (c_worst_lot : FnAt P w K mg base 5 "worst_lot" ["family"] (sp_worst_lot K)) (F : FunD K "is_always_even" "is_always_even" (defArgs s_is_always_even) (defBody s_is_always_even) (defScope s_is_always_even) [] [] f fd) (g : mg "is_always_even" = some (.ref f)) : FnAt P w K mg base 6 "is_always_even" ["family"] (sp_is_always_even K) :=
  ⟨f, fd, o_is_always_even T c_worst_lot F, g, F.kp, F.bindsN fun _ _ _ _ _ _ us hl => match us, hl with | [_], _ => rfl⟩
abbrev s_least_uneven : Stmt := top 31
theorem sc_least_uneven : FnScope ["family"] ["family"] (defScope s_least_uneven) := ⟨rfl, rfl, rfl, by decide +kernel, rfl, by decide +kernel, by decide +kernel⟩
theorem d_least_uneven {P : Program} {w : World} {K : PySem.W.Frag} {mg : Str → Option Value} {base : Heap} (T : Bl mg) (c_check_family : FnAt P w K mg base 4 "check_family" ["value"] (sp_check_family K)) (c_found_least : FnAt P w K mg base 3 "found_least" ["family"] (sp_found_least K)) (f : Addr) (cdv : Value) (A : Around) (outer : List Env) (s : Shared) (H : Hp) (E : XK) (hr : Room 4 (A.deeper (envOfC "least_uneven" (defScope s_least_uneven) s.heap.objs.size f cdv))) :
  PSs (cxOf (L2.CX P w) P w K mg base ["family"] "least_uneven" (defScope s_least_uneven) f cdv A outer s H E) (defBody s_least_uneven) (t_least_uneven K E) :=
  (pss_cons (ps_expr (pe_callF c_check_family (hr.mono (by decide)) (by rfl) (passes_call (takes_of rfl rfl rfl rfl) (fun _ _ _ _ h => h)) (pa_cons (pv 0) pa_nil)))
  (pss_one (ps_ret (pe_callF c_found_least (hr.mono (by decide)) (by rfl) passL (pa_cons (pv 0) pa_nil)))))
theorem o_least_uneven {P : Program} {w : World} {K : PySem.W.Frag} {mg : Str → Option Value} {base : Heap} {f : Addr} {fd : FuncData} (T : Bl mg) (c_check_family : FnAt P w K mg base 4 "check_family" ["value"] (sp_check_family K)) (c_found_least : FnAt P w K mg base 3 "found_least" ["family"] (sp_found_least K)) (F : FunD K "least_uneven" "least_uneven" (defArgs s_least_uneven) (defBody s_least_uneven) (defScope s_least_uneven) [] [] f fd) : FnOk P w K mg base (L2.CX P w) 5 f fd ["family"] (sp_least_uneven K) :=
  F.ok sc_least_uneven (fun vs H Q E h => spD_len (k := 1) (fun ds o h => by first | exact h.1 | (obtain ⟨_, rfl, _⟩ := h; rfl) | (obtain ⟨_, _, rfl, _⟩ := h; rfl) | (obtain ⟨_, _, _, rfl, _⟩ := h; rfl) | (obtain ⟨_, _, _, _, rfl, _⟩ := h; rfl) | (obtain ⟨_, _, _, _, _, rfl, _⟩ := h; rfl) | (obtain ⟨_, _, _, _, _, _, rfl, _⟩ := h; rfl) | (obtain ⟨_, _, _, _, _, _, _, rfl, _⟩ := h; rfl)) h) (fun cdv A outer s H vs Q E hr h => ⟨t_least_uneven K E, (d_least_uneven T c_check_family c_found_least f cdv A outer s H E hr), pure_least_uneven h⟩)
theorem ok_least_uneven {P : Program} {w : World} {K : PySem.W.Frag} {mg : Str → Option Value} {base : Heap} {f : Addr} {fd : FuncData} (T : Bl mg) (c_check_family : FnAt P w K mg base 4 "check_family" ["value"] (sp_check_family K)) (c_found_least : FnAt P w K mg base 3 "found_least" ["family"] (sp_found_least K)) (F : FunD K "least_uneven" "least_uneven" (defArgs s_least_uneven) (defBody s_least_uneven) (defScope s_least_uneven) [] [] f fd) (g : mg "least_uneven" = some (.ref f)) : FnAt P w K mg base 5 "least_uneven" ["family"] (sp_least_uneven K) :=
  ⟨f, fd, o_least_uneven T c_check_family c_found_least F, g, F.kp, F.bindsN fun _ _ _ _ _ _ us hl => match us, hl with | [_], _ => rfl⟩
abbrev s_within : Stmt := top 25
theorem sc_within : FnScope ["family", "lot"] ["family", "lot"] (defScope s_within) := ⟨rfl, rfl, rfl, by decide +kernel, rfl, by decide +kernel, by decide +kernel⟩
theorem d_within {P : Program} {w : World} {K : PySem.W.Frag} {mg : Str → Option Value} {base : Heap} (T : Bl mg) (c_check_family : FnAt P w K mg base 4 "check_family" ["value"] (sp_check_family K)) (c_check_lot : FnAt P w K mg base 3 "check_lot" ["family", "value"] (sp_check_lot K)) (c_found_within : FnAt P w K mg base 1 "found_within" ["family", "lot"] (sp_found_within K)) (f : Addr) (cdv : Value) (A : Around) (outer : List Env) (s : Shared) (H : Hp) (E : XK) (hr : Room 4 (A.deeper (envOfC "within" (defScope s_within) s.heap.objs.size f cdv))) :
  PSs (cxOf (L2.CX P w) P w K mg base ["family", "lot"] "within" (defScope s_within) f cdv A outer s H E) (defBody s_within) (t_within K E) :=
  (pss_cons (ps_expr (pe_callF c_check_family (hr.mono (by decide)) (by rfl) (passes_call (takes_of rfl rfl rfl rfl) (fun _ _ _ _ h => h)) (pa_cons (pv 0) pa_nil)))
  (pss_cons (ps_expr (pe_callF c_check_lot (hr.mono (by decide)) (by rfl) (passes_call (takes_of rfl rfl rfl rfl) (fun _ _ _ _ h => h)) (pa_cons (pv 0) (pa_cons (pv 1) pa_nil))))
  (pss_one (ps_ret (pe_callF c_found_within (hr.mono (by decide)) (by rfl) passL (pa_cons (pv 0) (pa_cons (pv 1) pa_nil)))))))
theorem o_within {P : Program} {w : World} {K : PySem.W.Frag} {mg : Str → Option Value} {base : Heap} {f : Addr} {fd : FuncData} (T : Bl mg) (c_check_family : FnAt P w K mg base 4 "check_family" ["value"] (sp_check_family K)) (c_check_lot : FnAt P w K mg base 3 "check_lot" ["family", "value"] (sp_check_lot K)) (c_found_within : FnAt P w K mg base 1 "found_within" ["family", "lot"] (sp_found_within K)) (F : FunD K "within" "within" (defArgs s_within) (defBody s_within) (defScope s_within) [] [] f fd) : FnOk P w K mg base (L2.CX P w) 5 f fd ["family", "lot"] (sp_within K) :=
  F.ok sc_within (fun vs H Q E h => spD_len (k := 2) (fun ds o h => by first | exact h.1 | (obtain ⟨_, rfl, _⟩ := h; rfl) | (obtain ⟨_, _, rfl, _⟩ := h; rfl) | (obtain ⟨_, _, _, rfl, _⟩ := h; rfl) | (obtain ⟨_, _, _, _, rfl, _⟩ := h; rfl) | (obtain ⟨_, _, _, _, _, rfl, _⟩ := h; rfl) | (obtain ⟨_, _, _, _, _, _, rfl, _⟩ := h; rfl) | (obtain ⟨_, _, _, _, _, _, _, rfl, _⟩ := h; rfl)) h) (fun cdv A outer s H vs Q E hr h => ⟨t_within K E, (d_within T c_check_family c_check_lot c_found_within f cdv A outer s H E hr), pure_within h⟩)
theorem ok_within {P : Program} {w : World} {K : PySem.W.Frag} {mg : Str → Option Value} {base : Heap} {f : Addr} {fd : FuncData} (T : Bl mg) (c_check_family : FnAt P w K mg base 4 "check_family" ["value"] (sp_check_family K)) (c_check_lot : FnAt P w K mg base 3 "check_lot" ["family", "value"] (sp_check_lot K)) (c_found_within : FnAt P w K mg base 1 "found_within" ["family", "lot"] (sp_found_within K)) (F : FunD K "within" "within" (defArgs s_within) (defBody s_within) (defScope s_within) [] [] f fd) (g : mg "within" = some (.ref f)) : FnAt P w K mg base 5 "within" ["family", "lot"] (sp_within K) :=
  ⟨f, fd, o_within T c_check_family c_check_lot c_found_within F, g, F.kp, F.bindsN fun _ _ _ _ _ _ us hl => match us, hl with | [_, _], _ => rfl⟩
abbrev s_law : Stmt := top 50
theorem sc_law : FnScope ["script", "town", "family", "lots_now", "sizes", "lot", "turn", "k", "worst_one", "small", "bads", "bad"] ["script"] (defScope s_law) := ⟨rfl, rfl, rfl, by decide +kernel, rfl, by decide +kernel, by decide +kernel⟩
theorem d_law {P : Program} {w : World} {K : PySem.W.Frag} {mg : Str → Option Value} {base : Heap} (T : Bl mg) (c_law_draw : FnAt P w K mg base 1 "_law_draw" ["script", "town", "limit"] (sp_law_draw K)) (c_law_family : FnAt P w K mg base 2 "_law_family" ["script", "town", "most"] (sp_law_family K)) (c_law_least : FnAt P w K mg base 2 "_law_least" ["family", "lot"] (sp_law_least K)) (c_law_lots : FnAt P w K mg base 1 "_law_lots" ["things"] (sp_law_lots K)) (c_law_outcome : FnAt P w K mg base 7 "_law_outcome" ["how", "arguments"] (sp_law_outcome K)) (c_law_pick : FnAt P w K mg base 2 "_law_pick" ["script", "town", "choices"] (sp_law_pick K)) (c_law_raises : FnAt P w K mg base 1 "_law_raises" ["name"] (sp_law_raises K)) (c_law_town : FnAt P w K mg base 1 "_law_town" ["script"] (sp_law_town K)) (c_is_always_even : FnAt P w K mg base 6 "is_always_even" ["family"] (sp_is_always_even K)) (c_least_uneven : FnAt P w K mg base 5 "least_uneven" ["family"] (sp_least_uneven K)) (c_lot_uneven : FnAt P w K mg base 5 "lot_uneven" ["family", "lot"] (sp_lot_uneven K)) (c_within : FnAt P w K mg base 5 "within" ["family", "lot"] (sp_within K)) (c_worst_lot : FnAt P w K mg base 5 "worst_lot" ["family"] (sp_worst_lot K)) (f : Addr) (cdv : Value) (A : Around) (outer : List Env) (s : Shared) (H : Hp) (E : XK) (hr : Room 7 (A.deeper (envOfC "law" (defScope s_law) s.heap.objs.size f cdv))) :
  PSs (cxOf (L2.CX P w) P w K mg base ["script", "town", "family", "lots_now", "sizes", "lot", "turn", "k", "worst_one", "small", "bads", "bad"] "law" (defScope s_law) f cdv A outer s H E).nox (defBody s_law) (t_law40 K E) :=
  (pss_cons (ps_set (i := 1) sc_law.nd rfl (by first | exact Or.inl rfl | exact Or.inr rfl) (pe_callF c_law_town (hr.mono (by decide)) (by rfl) passL (pa_cons (pv 0) pa_nil)))
  (pss_cons (ps_set (i := 2) sc_law.nd rfl (by first | exact Or.inl rfl | exact Or.inr rfl) (pe_callF c_law_family (hr.mono (by decide)) (by rfl) passL (pa_cons (pv 0) (pa_cons (pv 1) (pa_cons (pe_callF c_law_pick (hr.mono (by decide)) (by rfl) passL (pa_cons (pv 0) (pa_cons (pv 1) (pa_cons (pe_lst (pa_cons pe_int (pa_cons pe_int (pa_cons pe_int (pa_cons pe_int pa_nil))))) pa_nil)))) pa_nil)))))
  (pss_cons (ps_set (i := 3) sc_law.nd rfl (by first | exact Or.inl rfl | exact Or.inr rfl) (pe_callF c_law_lots (hr.mono (by decide)) (by rfl) passL (pa_cons (pe_ix ix_seq (pv 2) pe_int (fun _ _ => rfl)) pa_nil)))
  (pss_cons (ps_setLc (i := 4) (own := [("lot", 5)]) (by rfl) sc_law.nd rfl rfl (sw_true rfl rfl rfl (by decide +kernel)) (pi_seq (pv 3)) (blkOk_by (own := [("lot", 5)]) (by kernel_rfl)) (fun _ _ _ _ _ => (pg_name (i := 5) sc_law.nd rfl (by first | exact Or.inl rfl | exact Or.inr rfl))) (fun _ _ _ _ _ => pts_nil) (fun _ _ _ _ _ => (pe_callF c_law_least (hr.mono (by decide)) (by rfl) passL (pa_cons (pv 2) (pa_cons (pv 5) pa_nil)))))
  (pss_cons (ps_for PassesOwn.never rfl (pi_range1 (by rfl) T.b_range (pa_cons pe_int pa_nil)) (pg_name (i := 6) sc_law.nd rfl (by first | exact Or.inl rfl | exact Or.inr rfl)) (pss_cons (ps_set (i := 7) sc_law.nd rfl (by first | exact Or.inl rfl | exact Or.inr rfl) (pe_callF c_law_draw (hr.mono (by decide)) (by rfl) passL (pa_cons (pv 0) (pa_cons (pv 1) (pa_cons (pe_callB cr_lenU (by rfl) T.b_len (by decide +kernel) (pa_cons (pv 3) pa_nil)) pa_nil)))))
  (pss_one (ps_if (pt_cmpR (op_neD hr.units) (pe_callF c_lot_uneven (hr.mono (by decide)) (by rfl) passL (pa_cons (pv 2) (pa_cons (pe_ix ix_seq (pv 3) (pv 7) (fun _ _ => rfl)) pa_nil))) (pe_ix ix_seq (pv 4) (pv 7) (fun _ _ => rfl)) (nomark _)) (pss_one (ps_ret pe_bl)) pss_nil))))
  (pss_cons (ps_set (i := 8) sc_law.nd rfl (by first | exact Or.inl rfl | exact Or.inr rfl) (pe_callB (cr_maxU rfl) (by rfl) T.b_max (by decide +kernel) (pa_cons (pv 4) pa_nil)))
  (pss_cons (ps_if (pt_cmpR (op_neD hr.units) (pe_callF c_worst_lot (hr.mono (by decide)) (by rfl) passL (pa_cons (pv 2) pa_nil)) (pe_tup (pa_cons (pv 8) (pa_cons (pe_ix ix_seq (pv 3) (pe_bm PySem.F.plainAttrs_list PySem.F.slot_list_index PySem.F.type_list_index (mt_indexD (units65 hr)) (pv 4) (pa_cons (pv 8) pa_nil)) (fun _ _ => rfl)) pa_nil))) (nomark _)) (pss_one (ps_ret pe_bl)) pss_nil)
  (pss_cons (ps_if (PW.pt (pw_or (pt_cmpR (op_neD hr.units) (pe_callF c_is_always_even (hr.mono (by decide)) (by rfl) passL (pa_cons (pv 2) pa_nil)) (pe_cmpR op_le (pv 8) pe_int (nomark _)) (nomark _)) (pw_or1 (pt_cmpR op_gt (pe_callF c_least_uneven (hr.mono (by decide)) (by rfl) passL (pa_cons (pv 2) pa_nil)) (pv 8) (nomark _))))) (pss_one (ps_ret pe_bl)) pss_nil)
  (pss_cons (ps_set (i := 5) sc_law.nd rfl (by first | exact Or.inl rfl | exact Or.inr rfl) (pe_callF c_law_pick (hr.mono (by decide)) (by rfl) passL (pa_cons (pv 0) (pa_cons (pv 1) (pa_cons (pv 3) pa_nil)))))
  (pss_cons (ps_set (i := 9) sc_law.nd rfl (by first | exact Or.inl rfl | exact Or.inr rfl) (pe_callF c_within (hr.mono (by decide)) (by rfl) passL (pa_cons (pv 2) (pa_cons (pv 5) pa_nil))))
  (pss_cons (ps_if (pt_cmpR op_notU (pv 9) pe_non (nomark _)) (pss_one (ps_if (PW.pt (pw_or (pt_cmpR op_gt (pe_ix ix_seq (pe_callF c_worst_lot (hr.mono (by decide)) (by rfl) passL (pa_cons (pv 9) pa_nil)) pe_int (fun _ _ => rfl)) (pv 8) (nomark _)) (pw_or1 (pt_cmpR (op_neD hr.units) (pe_callF c_least_uneven (hr.mono (by decide)) (by rfl) passL (pa_cons (pv 9) pa_nil)) (pe_callF c_lot_uneven (hr.mono (by decide)) (by rfl) passL (pa_cons (pv 2) (pa_cons (pv 5) pa_nil))) (nomark _))))) (pss_one (ps_ret pe_bl)) pss_nil)) pss_nil)
  (pss_cons (ps_if (pt_cmpR (op_neD hr.units) (pe_callF c_lot_uneven (hr.mono (by decide)) (by rfl) passL (pa_cons (pv 2) (pa_cons (pe_tupRg rfl (by rfl) T.b_tuple (prg_1 (by rfl) T.b_range (pe_ix ix_seq (pv 2) pe_int (fun _ _ => rfl)))) pa_nil))) (pe_callF c_least_uneven (hr.mono (by decide)) (by rfl) passL (pa_cons (pv 2) pa_nil)) (nomark _)) (pss_one (ps_ret pe_bl)) pss_nil)
  (pss_cons (ps_set (i := 10) sc_law.nd rfl (by first | exact Or.inl rfl | exact Or.inr rfl) (pe_lst (pa_cons pe_non (pa_cons (pe_tup pa_nil) (pa_cons (pe_tup (pa_cons (pe_ix ix_seq (pv 2) pe_int (fun _ _ => rfl)) pa_nil)) (pa_cons (pe_tup (pa_cons (pe_un un_neg pe_int) pa_nil)) (pa_cons (pe_lst (pa_cons pe_int pa_nil)) (pa_cons (pe_tup (pa_cons pe_bl pa_nil)) (pa_cons (pe_tup (pa_cons pe_int (pa_cons pe_int pa_nil))) (pa_cons (pe_tup (pa_cons pe_str pa_nil)) pa_nil))))))))))
  (pss_one (ps_ret (pe_cmpR (op_eqD hr.units) (pe_lc (own := [("bad", 11)]) (by rfl) sc_law.nd (pi_seq (pv 10)) (blkOk_by (own := [("bad", 11)]) (by kernel_rfl)) (fun _ _ _ _ _ => (pg_name (i := 11) sc_law.nd rfl (by first | exact Or.inl rfl | exact Or.inr rfl))) (fun _ _ _ _ _ => (pts_one (pt_cmpR (op_neD hr.units) (pe_callF c_law_outcome (hr.mono (by decide)) (by rfl) passL (pa_cons pe_int (pa_cons (pe_tup (pa_cons (pv 2) (pa_cons (pv 11) pa_nil))) pa_nil))) (pe_callF c_law_raises (hr.mono (by decide)) (by rfl) passL (pa_cons pe_str pa_nil)) (nomark _)))) (fun _ _ _ _ _ => (pv 11))) (pe_lst pa_nil) (nomark _)))))))))))))))))
theorem o_law {P : Program} {w : World} {K : PySem.W.Frag} {mg : Str → Option Value} {base : Heap} {f : Addr} {fd : FuncData} (T : Bl mg) (c_law_draw : FnAt P w K mg base 1 "_law_draw" ["script", "town", "limit"] (sp_law_draw K)) (c_law_family : FnAt P w K mg base 2 "_law_family" ["script", "town", "most"] (sp_law_family K)) (c_law_least : FnAt P w K mg base 2 "_law_least" ["family", "lot"] (sp_law_least K)) (c_law_lots : FnAt P w K mg base 1 "_law_lots" ["things"] (sp_law_lots K)) (c_law_outcome : FnAt P w K mg base 7 "_law_outcome" ["how", "arguments"] (sp_law_outcome K)) (c_law_pick : FnAt P w K mg base 2 "_law_pick" ["script", "town", "choices"] (sp_law_pick K)) (c_law_raises : FnAt P w K mg base 1 "_law_raises" ["name"] (sp_law_raises K)) (c_law_town : FnAt P w K mg base 1 "_law_town" ["script"] (sp_law_town K)) (c_is_always_even : FnAt P w K mg base 6 "is_always_even" ["family"] (sp_is_always_even K)) (c_least_uneven : FnAt P w K mg base 5 "least_uneven" ["family"] (sp_least_uneven K)) (c_lot_uneven : FnAt P w K mg base 5 "lot_uneven" ["family", "lot"] (sp_lot_uneven K)) (c_within : FnAt P w K mg base 5 "within" ["family", "lot"] (sp_within K)) (c_worst_lot : FnAt P w K mg base 5 "worst_lot" ["family"] (sp_worst_lot K)) (F : FunD K "law" "law" (defArgs s_law) (defBody s_law) (defScope s_law) [] [] f fd) : FnOk P w K mg base L2.CX0 8 f fd ["script"] (spLawE K) :=
  F.ok sc_law (fun vs H Q E h => by obtain ⟨_, a, ns, rfl, _⟩ := h; rfl) (fun cdv A outer s H vs Q E hr h => ⟨t_law40 K E, PSs.nox (d_law T c_law_draw c_law_family c_law_least c_law_lots c_law_outcome c_law_pick c_law_raises c_law_town c_is_always_even c_least_uneven c_lot_uneven c_within c_worst_lot f cdv A outer s H E hr), pure_law40 h⟩)
def dd_law_draw : He.DefD := ⟨("_law_draw", none), "_law_draw", "_law_draw", defArgs s_law_draw, defBody s_law_draw, defScope s_law_draw, [], []⟩
def dd_law_family : He.DefD := ⟨("_law_family", none), "_law_family", "_law_family", defArgs s_law_family, defBody s_law_family, defScope s_law_family, [], []⟩
def dd_law_all : He.DefD := ⟨("_law_all", none), "_law_all", "_law_all", defArgs s_law_all, defBody s_law_all, defScope s_law_all, [], []⟩
def dd_law_least : He.DefD := ⟨("_law_least", none), "_law_least", "_law_least", defArgs s_law_least, defBody s_law_least, defScope s_law_least, [], []⟩
def dd_law_lots : He.DefD := ⟨("_law_lots", none), "_law_lots", "_law_lots", defArgs s_law_lots, defBody s_law_lots, defScope s_law_lots, [], []⟩
def dd_is_between : He.DefD := ⟨("is_between", none), "is_between", "is_between", defArgs s_is_between, defBody s_is_between, defScope s_is_between, [], []⟩
def dd_is_lot : He.DefD := ⟨("is_lot", none), "is_lot", "is_lot", defArgs s_is_lot, defBody s_is_lot, defScope s_is_lot, [], []⟩
def dd_is_family : He.DefD := ⟨("is_family", none), "is_family", "is_family", defArgs s_is_family, defBody s_is_family, defScope s_is_family, [], []⟩
def dd_check_family : He.DefD := ⟨("check_family", none), "check_family", "check_family", defArgs s_check_family, defBody s_check_family, defScope s_check_family, [], []⟩
def dd_check_lot : He.DefD := ⟨("check_lot", none), "check_lot", "check_lot", defArgs s_check_lot, defBody s_check_lot, defScope s_check_lot, [], []⟩
def dd_all_colours : He.DefD := ⟨("all_colours", none), "all_colours", "all_colours", defArgs s_all_colours, defBody s_all_colours, defScope s_all_colours, [], []⟩
def dd_found_sums : He.DefD := ⟨("found_sums", none), "found_sums", "found_sums", defArgs s_found_sums, defBody s_found_sums, defScope s_found_sums, [], []⟩
def dd_found_uneven : He.DefD := ⟨("found_uneven", none), "found_uneven", "found_uneven", defArgs s_found_uneven, defBody s_found_uneven, defScope s_found_uneven, [], []⟩
def dd_found_least : He.DefD := ⟨("found_least", none), "found_least", "found_least", defArgs s_found_least, defBody s_found_least, defScope s_found_least, [], []⟩
def dd_found_within : He.DefD := ⟨("found_within", none), "found_within", "found_within", defArgs s_found_within, defBody s_found_within, defScope s_found_within, [], []⟩
def dd_found_lot_uneven : He.DefD := ⟨("found_lot_uneven", none), "found_lot_uneven", "found_lot_uneven", defArgs s_found_lot_uneven, defBody s_found_lot_uneven, defScope s_found_lot_uneven, [], []⟩
def dd_lot_uneven : He.DefD := ⟨("lot_uneven", none), "lot_uneven", "lot_uneven", defArgs s_lot_uneven, defBody s_lot_uneven, defScope s_lot_uneven, [], []⟩
def dd_law_call : He.DefD := ⟨("_law_call", none), "_law_call", "_law_call", defArgs s_law_call, defBody s_law_call, defScope s_law_call, [], []⟩
def dd_law_name : He.DefD := ⟨("_law_name", none), "_law_name", "_law_name", defArgs s_law_name, defBody s_law_name, defScope s_law_name, [], []⟩
def dd_law_outcome : He.DefD := ⟨("_law_outcome", none), "_law_outcome", "_law_outcome", defArgs s_law_outcome, defBody s_law_outcome, defScope s_law_outcome, [], []⟩
def dd_law_pick : He.DefD := ⟨("_law_pick", none), "_law_pick", "_law_pick", defArgs s_law_pick, defBody s_law_pick, defScope s_law_pick, [], []⟩
def dd_law_raises : He.DefD := ⟨("_law_raises", none), "_law_raises", "_law_raises", defArgs s_law_raises, defBody s_law_raises, defScope s_law_raises, [], []⟩
def dd_law_town : He.DefD := ⟨("_law_town", none), "_law_town", "_law_town", defArgs s_law_town, defBody s_law_town, defScope s_law_town, [], []⟩
def dd_some_numbers : He.DefD := ⟨("some_numbers", none), "some_numbers", "some_numbers", defArgs s_some_numbers, defBody s_some_numbers, defScope s_some_numbers, [], []⟩
def dd_worst_lot : He.DefD := ⟨("worst_lot", none), "worst_lot", "worst_lot", defArgs s_worst_lot, defBody s_worst_lot, defScope s_worst_lot, [], []⟩
def dd_is_always_even : He.DefD := ⟨("is_always_even", none), "is_always_even", "is_always_even", defArgs s_is_always_even, defBody s_is_always_even, defScope s_is_always_even, [], []⟩
def dd_least_uneven : He.DefD := ⟨("least_uneven", none), "least_uneven", "least_uneven", defArgs s_least_uneven, defBody s_least_uneven, defScope s_least_uneven, [], []⟩
def dd_within : He.DefD := ⟨("within", none), "within", "within", defArgs s_within, defBody s_within, defScope s_within, [], []⟩
def dd_law : He.DefD := ⟨("law", none), "law", "law", defArgs s_law, defBody s_law, defScope s_law, [], []⟩
def fn : List He.DefD := [dd_law_draw, dd_law_family, dd_law_all, dd_law_least, dd_law_lots, dd_is_between, dd_is_lot, dd_is_family, dd_check_family, dd_check_lot, dd_all_colours, dd_found_sums, dd_found_uneven, dd_found_least, dd_found_within, dd_found_lot_uneven, dd_lot_uneven, dd_law_call, dd_law_name, dd_law_outcome, dd_law_pick, dd_law_raises, dd_law_town, dd_some_numbers, dd_worst_lot, dd_is_always_even, dd_least_uneven, dd_within, dd_law]
def fa : List He.Fa := [.glo "_law_draw", .glo "_law_family", .glo "_law_all", .glo "_law_least", .glo "_law_lots", .glo "is_between", .glo "is_lot", .glo "is_family", .glo "check_family", .glo "check_lot", .glo "all_colours", .glo "found_sums", .glo "found_uneven", .glo "found_least", .glo "found_within", .glo "found_lot_uneven", .glo "lot_uneven", .glo "_law_call", .glo "_law_name", .glo "_law_outcome", .glo "_law_pick", .glo "_law_raises", .glo "_law_town", .glo "some_numbers", .glo "worst_lot", .glo "is_always_even", .glo "least_uneven", .glo "within", .glo "law", .free "len", .free "isinstance", .free "int", .free "bool", .free "tuple", .free "list", .free "dict", .free "str", .free "set", .free "all", .free "any", .free "range", .free "sum", .free "max", .free "min", .free "abs", .free "sorted", .free "enumerate", .free "zip", .free "ValueError", .glo "ColourError", .glo "InvalidBottom", .glo "InvalidColours", .glo "InvalidFamily", .glo "InvalidLot", .glo "InvalidMixture", .glo "InvalidNames", .glo "InvalidNumber", .glo "InvalidRounding", .glo "InvalidSet", .glo "InvalidSums", .glo "InvalidText", .glo "InvalidTold", .glo "LastOne", .glo "NothingToUndo", .glo "TooMany", .exc "ColourError", .exc "InvalidBottom", .exc "InvalidColours", .exc "InvalidFamily", .exc "InvalidLot", .exc "InvalidMixture", .exc "InvalidNames", .exc "InvalidNumber", .exc "InvalidRounding", .exc "InvalidSet", .exc "InvalidSums", .exc "InvalidText", .exc "InvalidTold", .exc "LastOne", .exc "NothingToUndo", .exc "TooMany"]
abbrev R : PySem.W.OpenRow := PySem.W.OpenLaw.row PySem.Challenge.rw_lotcolours_k40_whole_lots
abbrev hk : PySem.W.Hook := hookX 5 fa fn
def ob (s : PySem.W.SharedT) : Bool × He.AlD := obsX 5 fa fn (HandSHeadRun.getT s)
theorem ob_eq (s : PySem.W.SharedT) : ob s = hk.obs s.abs := obsX_eq (HandSHeadRun.getT_eq s)
theorem run (w : World) : HandSHeadRun.RunEq R (PySem.W.view R.prog [50]) hk ob 20000 [(PySem.Str.ofString "ColourError"), (PySem.Str.ofString "InvalidFamily"), (PySem.Str.ofString "InvalidColours"), (PySem.Str.ofString "InvalidNumber"), (PySem.Str.ofString "InvalidLot"), (PySem.Str.ofString "InvalidTold"), (PySem.Str.ofString "InvalidRounding"), (PySem.Str.ofString "InvalidSet"), (PySem.Str.ofString "InvalidNames"), (PySem.Str.ofString "InvalidMixture"), (PySem.Str.ofString "InvalidSums"), (PySem.Str.ofString "InvalidBottom"), (PySem.Str.ofString "InvalidText"), (PySem.Str.ofString "LastOne"), (PySem.Str.ofString "TooMany"), (PySem.Str.ofString "NothingToUndo"), (PySem.Str.ofString "is_between"), (PySem.Str.ofString "is_lot"), (PySem.Str.ofString "is_family"), (PySem.Str.ofString "check_family"), (PySem.Str.ofString "check_lot"), (PySem.Str.ofString "found_within"), (PySem.Str.ofString "within"), (PySem.Str.ofString "found_sums"), (PySem.Str.ofString "found_uneven"), (PySem.Str.ofString "all_colours"), (PySem.Str.ofString "found_least"), (PySem.Str.ofString "least_uneven"), (PySem.Str.ofString "some_numbers"), (PySem.Str.ofString "found_lot_uneven"), (PySem.Str.ofString "lot_uneven"), (PySem.Str.ofString "worst_lot"), (PySem.Str.ofString "is_always_even"), (PySem.Str.ofString "_law_town"), (PySem.Str.ofString "_law_draw"), (PySem.Str.ofString "_law_pick"), (PySem.Str.ofString "_law_outcome"), (PySem.Str.ofString "_law_name"), (PySem.Str.ofString "_law_raises"), (PySem.Str.ofString "_law_family"), (PySem.Str.ofString "_law_all"), (PySem.Str.ofString "_law_lots"), (PySem.Str.ofString "_law_call"), (PySem.Str.ofString "_law_least")] w := by
  intro os
  kernel_rfl
theorem facts {P : Program} {w : World} {K : PySem.W.Frag} {h : Heap} {mg : Str → Option Value} {f : Addr} (X : K.In h) (G : h.Ns mainGlobals mg) (hfa : mg ("law" : Str) = some (.ref f)) (c : He.SaysD fa fn K) :
    ∃ fd : FuncData, (∀ (s : Shared) (v : Value), BindsTo s fd ⟨[v], []⟩ [("script", v)]) ∧ ∀ base : Heap, K.In base → base.Ns mainGlobals mg → FnOk P w K mg base L2.CX0 8 f fd ["script"] (spLawE K) := by
  have T : Bl mg := ⟨He.free_ok X G (c.fact 29 (f := .free "len") rfl), He.free_ok X G (c.fact 30 (f := .free "isinstance") rfl), He.free_ok X G (c.fact 31 (f := .free "int") rfl), He.free_ok X G (c.fact 32 (f := .free "bool") rfl), He.free_ok X G (c.fact 33 (f := .free "tuple") rfl), He.free_ok X G (c.fact 34 (f := .free "list") rfl), He.free_ok X G (c.fact 35 (f := .free "dict") rfl), He.free_ok X G (c.fact 36 (f := .free "str") rfl), He.free_ok X G (c.fact 37 (f := .free "set") rfl), He.free_ok X G (c.fact 38 (f := .free "all") rfl), He.free_ok X G (c.fact 39 (f := .free "any") rfl), He.free_ok X G (c.fact 40 (f := .free "range") rfl), He.free_ok X G (c.fact 41 (f := .free "sum") rfl), He.free_ok X G (c.fact 42 (f := .free "max") rfl), He.free_ok X G (c.fact 43 (f := .free "min") rfl), He.free_ok X G (c.fact 44 (f := .free "abs") rfl), He.free_ok X G (c.fact 45 (f := .free "sorted") rfl), He.free_ok X G (c.fact 46 (f := .free "enumerate") rfl), He.free_ok X G (c.fact 47 (f := .free "zip") rfl), He.free_ok X G (c.fact 48 (f := .free "ValueError") rfl)⟩
  have x_ColourError : ExcAt K mg "ColourError" := ⟨He.glo_ok X G (c.fact 49 (f := .glo "ColourError") rfl), (He.exc_ok (c.fact 65 (f := .exc "ColourError") rfl)).1, (He.exc_ok (c.fact 65 (f := .exc "ColourError") rfl)).2.1, (He.exc_ok (c.fact 65 (f := .exc "ColourError") rfl)).2.2.1, (He.exc_ok (c.fact 65 (f := .exc "ColourError") rfl)).2.2.2⟩
  have x_InvalidBottom : ExcAt K mg "InvalidBottom" := ⟨He.glo_ok X G (c.fact 50 (f := .glo "InvalidBottom") rfl), (He.exc_ok (c.fact 66 (f := .exc "InvalidBottom") rfl)).1, (He.exc_ok (c.fact 66 (f := .exc "InvalidBottom") rfl)).2.1, (He.exc_ok (c.fact 66 (f := .exc "InvalidBottom") rfl)).2.2.1, (He.exc_ok (c.fact 66 (f := .exc "InvalidBottom") rfl)).2.2.2⟩
  have x_InvalidColours : ExcAt K mg "InvalidColours" := ⟨He.glo_ok X G (c.fact 51 (f := .glo "InvalidColours") rfl), (He.exc_ok (c.fact 67 (f := .exc "InvalidColours") rfl)).1, (He.exc_ok (c.fact 67 (f := .exc "InvalidColours") rfl)).2.1, (He.exc_ok (c.fact 67 (f := .exc "InvalidColours") rfl)).2.2.1, (He.exc_ok (c.fact 67 (f := .exc "InvalidColours") rfl)).2.2.2⟩
  have x_InvalidFamily : ExcAt K mg "InvalidFamily" := ⟨He.glo_ok X G (c.fact 52 (f := .glo "InvalidFamily") rfl), (He.exc_ok (c.fact 68 (f := .exc "InvalidFamily") rfl)).1, (He.exc_ok (c.fact 68 (f := .exc "InvalidFamily") rfl)).2.1, (He.exc_ok (c.fact 68 (f := .exc "InvalidFamily") rfl)).2.2.1, (He.exc_ok (c.fact 68 (f := .exc "InvalidFamily") rfl)).2.2.2⟩
  have x_InvalidLot : ExcAt K mg "InvalidLot" := ⟨He.glo_ok X G (c.fact 53 (f := .glo "InvalidLot") rfl), (He.exc_ok (c.fact 69 (f := .exc "InvalidLot") rfl)).1, (He.exc_ok (c.fact 69 (f := .exc "InvalidLot") rfl)).2.1, (He.exc_ok (c.fact 69 (f := .exc "InvalidLot") rfl)).2.2.1, (He.exc_ok (c.fact 69 (f := .exc "InvalidLot") rfl)).2.2.2⟩
  have x_InvalidMixture : ExcAt K mg "InvalidMixture" := ⟨He.glo_ok X G (c.fact 54 (f := .glo "InvalidMixture") rfl), (He.exc_ok (c.fact 70 (f := .exc "InvalidMixture") rfl)).1, (He.exc_ok (c.fact 70 (f := .exc "InvalidMixture") rfl)).2.1, (He.exc_ok (c.fact 70 (f := .exc "InvalidMixture") rfl)).2.2.1, (He.exc_ok (c.fact 70 (f := .exc "InvalidMixture") rfl)).2.2.2⟩
  have x_InvalidNames : ExcAt K mg "InvalidNames" := ⟨He.glo_ok X G (c.fact 55 (f := .glo "InvalidNames") rfl), (He.exc_ok (c.fact 71 (f := .exc "InvalidNames") rfl)).1, (He.exc_ok (c.fact 71 (f := .exc "InvalidNames") rfl)).2.1, (He.exc_ok (c.fact 71 (f := .exc "InvalidNames") rfl)).2.2.1, (He.exc_ok (c.fact 71 (f := .exc "InvalidNames") rfl)).2.2.2⟩
  have x_InvalidNumber : ExcAt K mg "InvalidNumber" := ⟨He.glo_ok X G (c.fact 56 (f := .glo "InvalidNumber") rfl), (He.exc_ok (c.fact 72 (f := .exc "InvalidNumber") rfl)).1, (He.exc_ok (c.fact 72 (f := .exc "InvalidNumber") rfl)).2.1, (He.exc_ok (c.fact 72 (f := .exc "InvalidNumber") rfl)).2.2.1, (He.exc_ok (c.fact 72 (f := .exc "InvalidNumber") rfl)).2.2.2⟩
  have x_InvalidRounding : ExcAt K mg "InvalidRounding" := ⟨He.glo_ok X G (c.fact 57 (f := .glo "InvalidRounding") rfl), (He.exc_ok (c.fact 73 (f := .exc "InvalidRounding") rfl)).1, (He.exc_ok (c.fact 73 (f := .exc "InvalidRounding") rfl)).2.1, (He.exc_ok (c.fact 73 (f := .exc "InvalidRounding") rfl)).2.2.1, (He.exc_ok (c.fact 73 (f := .exc "InvalidRounding") rfl)).2.2.2⟩
  have x_InvalidSet : ExcAt K mg "InvalidSet" := ⟨He.glo_ok X G (c.fact 58 (f := .glo "InvalidSet") rfl), (He.exc_ok (c.fact 74 (f := .exc "InvalidSet") rfl)).1, (He.exc_ok (c.fact 74 (f := .exc "InvalidSet") rfl)).2.1, (He.exc_ok (c.fact 74 (f := .exc "InvalidSet") rfl)).2.2.1, (He.exc_ok (c.fact 74 (f := .exc "InvalidSet") rfl)).2.2.2⟩
  have x_InvalidSums : ExcAt K mg "InvalidSums" := ⟨He.glo_ok X G (c.fact 59 (f := .glo "InvalidSums") rfl), (He.exc_ok (c.fact 75 (f := .exc "InvalidSums") rfl)).1, (He.exc_ok (c.fact 75 (f := .exc "InvalidSums") rfl)).2.1, (He.exc_ok (c.fact 75 (f := .exc "InvalidSums") rfl)).2.2.1, (He.exc_ok (c.fact 75 (f := .exc "InvalidSums") rfl)).2.2.2⟩
  have x_InvalidText : ExcAt K mg "InvalidText" := ⟨He.glo_ok X G (c.fact 60 (f := .glo "InvalidText") rfl), (He.exc_ok (c.fact 76 (f := .exc "InvalidText") rfl)).1, (He.exc_ok (c.fact 76 (f := .exc "InvalidText") rfl)).2.1, (He.exc_ok (c.fact 76 (f := .exc "InvalidText") rfl)).2.2.1, (He.exc_ok (c.fact 76 (f := .exc "InvalidText") rfl)).2.2.2⟩
  have x_InvalidTold : ExcAt K mg "InvalidTold" := ⟨He.glo_ok X G (c.fact 61 (f := .glo "InvalidTold") rfl), (He.exc_ok (c.fact 77 (f := .exc "InvalidTold") rfl)).1, (He.exc_ok (c.fact 77 (f := .exc "InvalidTold") rfl)).2.1, (He.exc_ok (c.fact 77 (f := .exc "InvalidTold") rfl)).2.2.1, (He.exc_ok (c.fact 77 (f := .exc "InvalidTold") rfl)).2.2.2⟩
  have x_LastOne : ExcAt K mg "LastOne" := ⟨He.glo_ok X G (c.fact 62 (f := .glo "LastOne") rfl), (He.exc_ok (c.fact 78 (f := .exc "LastOne") rfl)).1, (He.exc_ok (c.fact 78 (f := .exc "LastOne") rfl)).2.1, (He.exc_ok (c.fact 78 (f := .exc "LastOne") rfl)).2.2.1, (He.exc_ok (c.fact 78 (f := .exc "LastOne") rfl)).2.2.2⟩
  have x_NothingToUndo : ExcAt K mg "NothingToUndo" := ⟨He.glo_ok X G (c.fact 63 (f := .glo "NothingToUndo") rfl), (He.exc_ok (c.fact 79 (f := .exc "NothingToUndo") rfl)).1, (He.exc_ok (c.fact 79 (f := .exc "NothingToUndo") rfl)).2.1, (He.exc_ok (c.fact 79 (f := .exc "NothingToUndo") rfl)).2.2.1, (He.exc_ok (c.fact 79 (f := .exc "NothingToUndo") rfl)).2.2.2⟩
  have x_TooMany : ExcAt K mg "TooMany" := ⟨He.glo_ok X G (c.fact 64 (f := .glo "TooMany") rfl), (He.exc_ok (c.fact 80 (f := .exc "TooMany") rfl)).1, (He.exc_ok (c.fact 80 (f := .exc "TooMany") rfl)).2.1, (He.exc_ok (c.fact 80 (f := .exc "TooMany") rfl)).2.2.1, (He.exc_ok (c.fact 80 (f := .exc "TooMany") rfl)).2.2.2⟩
  obtain ⟨fd_law_draw, F_law_draw⟩ := c.def_ 0 (d := dd_law_draw) rfl
  obtain ⟨fd_law_family, F_law_family⟩ := c.def_ 1 (d := dd_law_family) rfl
  obtain ⟨fd_law_all, F_law_all⟩ := c.def_ 2 (d := dd_law_all) rfl
  obtain ⟨fd_law_least, F_law_least⟩ := c.def_ 3 (d := dd_law_least) rfl
  obtain ⟨fd_law_lots, F_law_lots⟩ := c.def_ 4 (d := dd_law_lots) rfl
  obtain ⟨fd_is_between, F_is_between⟩ := c.def_ 5 (d := dd_is_between) rfl
  obtain ⟨fd_is_lot, F_is_lot⟩ := c.def_ 6 (d := dd_is_lot) rfl
  obtain ⟨fd_is_family, F_is_family⟩ := c.def_ 7 (d := dd_is_family) rfl
  obtain ⟨fd_check_family, F_check_family⟩ := c.def_ 8 (d := dd_check_family) rfl
  obtain ⟨fd_check_lot, F_check_lot⟩ := c.def_ 9 (d := dd_check_lot) rfl
  obtain ⟨fd_all_colours, F_all_colours⟩ := c.def_ 10 (d := dd_all_colours) rfl
  obtain ⟨fd_found_sums, F_found_sums⟩ := c.def_ 11 (d := dd_found_sums) rfl
  obtain ⟨fd_found_uneven, F_found_uneven⟩ := c.def_ 12 (d := dd_found_uneven) rfl
  obtain ⟨fd_found_least, F_found_least⟩ := c.def_ 13 (d := dd_found_least) rfl
  obtain ⟨fd_found_within, F_found_within⟩ := c.def_ 14 (d := dd_found_within) rfl
  obtain ⟨fd_found_lot_uneven, F_found_lot_uneven⟩ := c.def_ 15 (d := dd_found_lot_uneven) rfl
  obtain ⟨fd_lot_uneven, F_lot_uneven⟩ := c.def_ 16 (d := dd_lot_uneven) rfl
  obtain ⟨fd_law_call, F_law_call⟩ := c.def_ 17 (d := dd_law_call) rfl
  obtain ⟨fd_law_name, F_law_name⟩ := c.def_ 18 (d := dd_law_name) rfl
  obtain ⟨fd_law_outcome, F_law_outcome⟩ := c.def_ 19 (d := dd_law_outcome) rfl
  obtain ⟨fd_law_pick, F_law_pick⟩ := c.def_ 20 (d := dd_law_pick) rfl
  obtain ⟨fd_law_raises, F_law_raises⟩ := c.def_ 21 (d := dd_law_raises) rfl
  obtain ⟨fd_law_town, F_law_town⟩ := c.def_ 22 (d := dd_law_town) rfl
  obtain ⟨fd_some_numbers, F_some_numbers⟩ := c.def_ 23 (d := dd_some_numbers) rfl
  obtain ⟨fd_worst_lot, F_worst_lot⟩ := c.def_ 24 (d := dd_worst_lot) rfl
  obtain ⟨fd_is_always_even, F_is_always_even⟩ := c.def_ 25 (d := dd_is_always_even) rfl
  obtain ⟨fd_least_uneven, F_least_uneven⟩ := c.def_ 26 (d := dd_least_uneven) rfl
  obtain ⟨fd_within, F_within⟩ := c.def_ 27 (d := dd_within) rfl
  obtain ⟨fd_law, F_law⟩ := c.def_ 28 (d := dd_law) rfl
  have e := hfa.symm.trans (He.glo_ok X G (c.fact 28 (f := .glo "law") rfl))
  cases e
  have b := FunD.bindsA (ps := ["script"]) F_law fun _ _ _ _ _ _ us hl => match us, hl with | [_], _ => rfl
  refine ⟨fd_law, fun s v => b s [v] rfl, fun base _ _ => ?_⟩
  have c_law_draw : FnAt P w K mg base 1 "_law_draw" ["script", "town", "limit"] (sp_law_draw K) := ok_law_draw T  F_law_draw (He.glo_ok X G (c.fact 0 (f := .glo "_law_draw") rfl))
  have c_law_family : FnAt P w K mg base 2 "_law_family" ["script", "town", "most"] (sp_law_family K) := ok_law_family T c_law_draw F_law_family (He.glo_ok X G (c.fact 1 (f := .glo "_law_family") rfl))
  have c_law_all : FnAt P w K mg base 1 "_law_all" ["things", "choices"] (sp_law_all K) := ok_law_all T  F_law_all (He.glo_ok X G (c.fact 2 (f := .glo "_law_all") rfl))
  have c_law_least : FnAt P w K mg base 2 "_law_least" ["family", "lot"] (sp_law_least K) := ok_law_least T c_law_all F_law_least (He.glo_ok X G (c.fact 3 (f := .glo "_law_least") rfl))
  have c_law_lots : FnAt P w K mg base 1 "_law_lots" ["things"] (sp_law_lots K) := ok_law_lots T  F_law_lots (He.glo_ok X G (c.fact 4 (f := .glo "_law_lots") rfl))
  have c_is_between : FnAt P w K mg base 1 "is_between" ["value", "low", "high"] (sp_is_between K) := ok_is_between T  F_is_between (He.glo_ok X G (c.fact 5 (f := .glo "is_between") rfl))
  have c_is_lot : FnAt P w K mg base 2 "is_lot" ["things", "value"] (sp_is_lot K) := ok_is_lot T c_is_between F_is_lot (He.glo_ok X G (c.fact 6 (f := .glo "is_lot") rfl))
  have c_is_family : FnAt P w K mg base 3 "is_family" ["value"] (sp_is_family K) := ok_is_family T c_is_between c_is_lot F_is_family (He.glo_ok X G (c.fact 7 (f := .glo "is_family") rfl))
  have c_check_family : FnAt P w K mg base 4 "check_family" ["value"] (sp_check_family K) := ok_check_family T c_is_family x_InvalidFamily F_check_family (He.glo_ok X G (c.fact 8 (f := .glo "check_family") rfl))
  have c_check_lot : FnAt P w K mg base 3 "check_lot" ["family", "value"] (sp_check_lot K) := ok_check_lot T c_is_lot x_InvalidLot F_check_lot (He.glo_ok X G (c.fact 9 (f := .glo "check_lot") rfl))
  have c_all_colours : FnAt P w K mg base 1 "all_colours" ["things"] (sp_all_colours K) := ok_all_colours T  F_all_colours (He.glo_ok X G (c.fact 10 (f := .glo "all_colours") rfl))
  have c_found_sums : FnAt P w K mg base 1 "found_sums" ["family", "colours"] (sp_found_sums K) := ok_found_sums T  F_found_sums (He.glo_ok X G (c.fact 11 (f := .glo "found_sums") rfl))
  have c_found_uneven : FnAt P w K mg base 2 "found_uneven" ["family", "colours"] (sp_found_uneven K) := ok_found_uneven T c_found_sums F_found_uneven (He.glo_ok X G (c.fact 12 (f := .glo "found_uneven") rfl))
  have c_found_least : FnAt P w K mg base 3 "found_least" ["family"] (sp_found_least K) := ok_found_least T c_all_colours c_found_uneven F_found_least (He.glo_ok X G (c.fact 13 (f := .glo "found_least") rfl))
  have c_found_within : FnAt P w K mg base 1 "found_within" ["family", "lot"] (sp_found_within K) := ok_found_within T  F_found_within (He.glo_ok X G (c.fact 14 (f := .glo "found_within") rfl))
  have c_found_lot_uneven : FnAt P w K mg base 4 "found_lot_uneven" ["family", "lot"] (sp_found_lot_uneven K) := ok_found_lot_uneven T c_found_least c_found_within F_found_lot_uneven (He.glo_ok X G (c.fact 15 (f := .glo "found_lot_uneven") rfl))
  have c_lot_uneven : FnAt P w K mg base 5 "lot_uneven" ["family", "lot"] (sp_lot_uneven K) := ok_lot_uneven T c_check_family c_check_lot c_found_lot_uneven F_lot_uneven (He.glo_ok X G (c.fact 16 (f := .glo "lot_uneven") rfl))
  have c_law_call : FnAt P w K mg base 6 "_law_call" ["how", "arguments"] (sp_law_call K) := ok_law_call T c_lot_uneven F_law_call (He.glo_ok X G (c.fact 17 (f := .glo "_law_call") rfl))
  have c_law_name : FnAt P w K mg base 1 "_law_name" ["caught"] (sp_law_name K) := ok_law_name T x_InvalidBottom x_InvalidColours x_InvalidFamily x_InvalidLot x_InvalidMixture x_InvalidNames x_InvalidNumber x_InvalidRounding x_InvalidSet x_InvalidSums x_InvalidText x_InvalidTold x_LastOne x_NothingToUndo x_TooMany F_law_name (He.glo_ok X G (c.fact 18 (f := .glo "_law_name") rfl))
  have c_law_outcome : FnAt P w K mg base 7 "_law_outcome" ["how", "arguments"] (sp_law_outcome K) := ok_law_outcome T c_law_call c_law_name x_ColourError F_law_outcome (He.glo_ok X G (c.fact 19 (f := .glo "_law_outcome") rfl))
  have c_law_pick : FnAt P w K mg base 2 "_law_pick" ["script", "town", "choices"] (sp_law_pick K) := ok_law_pick T c_law_draw F_law_pick (He.glo_ok X G (c.fact 20 (f := .glo "_law_pick") rfl))
  have c_law_raises : FnAt P w K mg base 1 "_law_raises" ["name"] (sp_law_raises K) := ok_law_raises T  F_law_raises (He.glo_ok X G (c.fact 21 (f := .glo "_law_raises") rfl))
  have c_law_town : FnAt P w K mg base 1 "_law_town" ["script"] (sp_law_town K) := ok_law_town T  F_law_town (He.glo_ok X G (c.fact 22 (f := .glo "_law_town") rfl))
  have c_some_numbers : FnAt P w K mg base 1 "some_numbers" ["many", "size"] (sp_some_numbers K) := ok_some_numbers T  F_some_numbers (He.glo_ok X G (c.fact 23 (f := .glo "some_numbers") rfl))
  have c_worst_lot : FnAt P w K mg base 5 "worst_lot" ["family"] (sp_worst_lot K) := ok_worst_lot T c_check_family c_found_lot_uneven c_some_numbers F_worst_lot (He.glo_ok X G (c.fact 24 (f := .glo "worst_lot") rfl))
  have c_is_always_even : FnAt P w K mg base 6 "is_always_even" ["family"] (sp_is_always_even K) := ok_is_always_even T c_worst_lot F_is_always_even (He.glo_ok X G (c.fact 25 (f := .glo "is_always_even") rfl))
  have c_least_uneven : FnAt P w K mg base 5 "least_uneven" ["family"] (sp_least_uneven K) := ok_least_uneven T c_check_family c_found_least F_least_uneven (He.glo_ok X G (c.fact 26 (f := .glo "least_uneven") rfl))
  have c_within : FnAt P w K mg base 5 "within" ["family", "lot"] (sp_within K) := ok_within T c_check_family c_check_lot c_found_within F_within (He.glo_ok X G (c.fact 27 (f := .glo "within") rfl))
  exact o_law T c_law_draw c_law_family c_law_least c_law_lots c_law_outcome c_law_pick c_law_raises c_law_town c_is_always_even c_least_uneven c_lot_uneven c_within c_worst_lot F_law
end Lc
open PySem PySem.W PySem.Calls PyProof.Rows
theorem PySem.Challenge.cw_lotcolours_k40_whole_lots_holds : PySem.Challenge.rw_lotcolours_k40_whole_lots.Holds := by
  w_on; o_law
  refine HandSHeadRun.head_any (r := OpenLaw.row PySem.Challenge.rw_lotcolours_k40_whole_lots) (q := view (OpenLaw.row PySem.Challenge.rw_lotcolours_k40_whole_lots).prog [50]) (H := Lc.hk) (ob := Lc.ob) (M := 20000) (loose := [(PySem.Str.ofString "ColourError"), (PySem.Str.ofString "InvalidFamily"), (PySem.Str.ofString "InvalidColours"), (PySem.Str.ofString "InvalidNumber"), (PySem.Str.ofString "InvalidLot"), (PySem.Str.ofString "InvalidTold"), (PySem.Str.ofString "InvalidRounding"), (PySem.Str.ofString "InvalidSet"), (PySem.Str.ofString "InvalidNames"), (PySem.Str.ofString "InvalidMixture"), (PySem.Str.ofString "InvalidSums"), (PySem.Str.ofString "InvalidBottom"), (PySem.Str.ofString "InvalidText"), (PySem.Str.ofString "LastOne"), (PySem.Str.ofString "TooMany"), (PySem.Str.ofString "NothingToUndo"), (PySem.Str.ofString "is_between"), (PySem.Str.ofString "is_lot"), (PySem.Str.ofString "is_family"), (PySem.Str.ofString "check_family"), (PySem.Str.ofString "check_lot"), (PySem.Str.ofString "found_within"), (PySem.Str.ofString "within"), (PySem.Str.ofString "found_sums"), (PySem.Str.ofString "found_uneven"), (PySem.Str.ofString "all_colours"), (PySem.Str.ofString "found_least"), (PySem.Str.ofString "least_uneven"), (PySem.Str.ofString "some_numbers"), (PySem.Str.ofString "found_lot_uneven"), (PySem.Str.ofString "lot_uneven"), (PySem.Str.ofString "worst_lot"), (PySem.Str.ofString "is_always_even"), (PySem.Str.ofString "_law_town"), (PySem.Str.ofString "_law_draw"), (PySem.Str.ofString "_law_pick"), (PySem.Str.ofString "_law_outcome"), (PySem.Str.ofString "_law_name"), (PySem.Str.ofString "_law_raises"), (PySem.Str.ofString "_law_family"), (PySem.Str.ofString "_law_all"), (PySem.Str.ofString "_law_lots"), (PySem.Str.ofString "_law_call"), (PySem.Str.ofString "_law_least")]) (d := HandSHeadRun.topDef (OpenLaw.row PySem.Challenge.rw_lotcolours_k40_whole_lots).prog 50) (kwd := []) Lc.ob_eq
    (by kernel_rfl) (fun s => by kernel_rfl) Lc.run (by kernel_rfl) (by kernel_rfl) (by kernel_rfl) (by rfl) (by first | assumption | decide +kernel) (by decide +kernel) ⟨rfl, rfl, rfl, rfl, rfl, by decide +kernel⟩ ?hw ?hc
  case hw => w_witness2
  case hc =>
    refine L2.walk_ofE (l := PySem.Challenge.rw_lotcolours_k40_whole_lots) (n := 63) (k := 8) (x := "script") (CX := L2.CX0) rfl (by decide) (by kernel_rfl) ⟨rfl, by decide, by decide⟩ ?F (fun _ _ _ _ z => z)
    intro w mg fa h Y G hmg0
    obtain ⟨K, KX, ce, c⟩ := Y
    have hmg : mg ("law" : PySem.Str) = some (.ref fa) := by
      have e : (HandSHeadRun.topDef (OpenLaw.row PySem.Challenge.rw_lotcolours_k40_whole_lots).prog 50).name = ("law" : PySem.Str) := by kernel_rfl
      rw [← e]
      exact hmg0
    obtain ⟨fd, hb, hF⟩ := Lc.facts (P := (PySem.Challenge.rw_lotcolours_k40_whole_lots).prog) (w := w) KX G hmg c
    exact ⟨K, fd, Lc.spLawE K, KX, hb, fun H a ns hl _ hS => ⟨Lc.errsB_ok ce, ⟨a, ns, rfl, hS, hl, fun _ => rfl⟩⟩, hF⟩
