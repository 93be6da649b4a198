import PyProof.Rows.All
import Wide.All
import OpenK.AllK
import Wide.FinOn
import HandS.ForMost
import HandS.Exc
import HandS.TryOnly
import HandS.TryMany
import HandS.ExcOwn
import HandS.CallSlots
import HandS.WordsExc
import KE.DataEq
import KE.DataCmp
import PyProof.ReprRoads
import HandS.TupAny
import HandS.Wide
import HandS.Walk
import HandS.ExcValue
import HandS.ExcIs
import KE.KExcInit
import HandS.ExcField
import PyProof.Rows.TupDisplay
import HandS.Ends
import HandS.EndBits
import PySem.Challenge.RW_heardwide_k00_errors
set_option Elab.async false
set_option linter.all false
set_option maxRecDepth 100000
/-! BCore: Python over a store of cells: tuples are trees, lists, dicts and instances are places; readings of the hand layer from plain functions. -/
namespace B
open PySem L2

/-- the written part: the module's own names are values by their names -/
structure Gb where
  K : PySem.W.Frag
  mg : Str → Option Value
/-- a value of ours; glb x: what the module's name x holds (a class, a def) -/
inductive D where
  | non | bl (b : Bool) | int (i : Int) | str (x : Str) | ty (n : String) | glb (x : Str) | loc (n : Nat) | tup (xs : List D)

inductive Cell where
  | lst (xs : List D)
  | rol (xs : List D)
  | lkK (kvs : List (Key × D))
  | lkT (kvs : List (List Key × D))
  | dK (kvs : List (Key × D))
  | dT (kvs : List (List Key × D))
  | ins (C : Addr) (fs : List (Str × D))
  | exc (c : Str) (fs : Option (List (Str × D)))
abbrev Store := List Cell
abbrev Env := List (Option D)

section
variable (K : Gb) (H : Hp) (ρ : List Addr)
mutual
def RV : D → V → Prop
  | .non, v => v = .non
  | .bl b, v => v = .bl b
  | .int i, v => v = .int i
  | .str x, v => v = .str x
  | .ty n, v => v = .ty n
  | .glb x, v => ∃ u, K.mg x = some u ∧ RelV v u
  | .loc n, v => ∃ a, ρ[n]? = some a ∧ v = .ref a
  | .tup xs, v => ∃ a vs, v = .ref a ∧ H a = some (.tup vs) ∧ RVs xs vs
def RVs : List D → List V → Prop
  | [], vs => vs = []
  | d :: ds, vs => ∃ v r, vs = v :: r ∧ RV d v ∧ RVs ds r
end
def RKs {κ : Type} : List (κ × D) → List (κ × V) → Prop
  | [], ws => ws = []
  | (k, d) :: r, ws => ∃ v s, ws = (k, v) :: s ∧ RV K H ρ d v ∧ RKs r s
/-- an exception object as a value: its class, its own dict -/
def ExV (c : Value) (dd : Option Addr) (a : Addr) : HO := .ext fun h => ∃ (oe : Obj) (vs : Array Value), h.get? a = some oe ∧ Zc c dd oe ∧ oe.data = .fields vs ∧ vs[1]? = some .none ∧ vs[2]? = some .none ∧ 4 < vs.size
def RX : Option (List (Str × D)) → Option Addr → Prop
  | none, dd => dd = none
  | some fs, dd => ∃ d ws, dd = some d ∧ H d = some (.xd ws) ∧ RKs K H ρ fs ws
def RC : Cell → Addr → Prop
  | .lst xs, a => ∃ vs, H a = some (.lst vs) ∧ RVs K H ρ xs vs
  | .rol xs, a => ∃ vs, Rd H a (.lst vs) ∧ RVs K H ρ xs vs
  | .lkK kvs, a => ∃ o ws, H a = some (.frz o (.dK ws)) ∧ RKs K H ρ kvs ws
  | .lkT kvs, a => ∃ o ws, H a = some (.frz o (.dT ws)) ∧ RKs K H ρ kvs ws
  | .dK kvs, a => ∃ ws, H a = some (.dK ws) ∧ RKs K H ρ kvs ws
  | .dT kvs, a => ∃ ws, H a = some (.dT ws) ∧ RKs K H ρ kvs ws
  | .ins C fs, a => ∃ dx ws, H a = some (.ins C dx ws) ∧ RKs K H ρ fs ws
  | .exc c fs, a => ∃ C dd, K.mg c = some (.ref C) ∧ H a = some (ExV (.ref C) dd a) ∧ RX K H ρ fs dd
structure RS (S : Store) : Prop where
  len : ρ.length = S.length
  nd : ρ.Nodup
  at_ : ∀ (n : Nat) c, S[n]? = some c → ∃ a, ρ[n]? = some a ∧ RC K H ρ c a
def REnv (e : Env) (σ : St) : Prop := e.length = σ.length ∧ ∀ (i : Nat) d, e[i]? = some (some d) → ∃ v, σ[i]? = some (some v) ∧ RV K H ρ d v
end
/-- how heaps may go on: tuples stay, what is locked stays; what is not tracked stays, what is newly tracked was fresh -/
structure Evo (K : Gb) (ρ ρ' : List Addr) (H H' : Hp) : Prop where
  tup : ∀ a xs, H a = some (.tup xs) → H' a = some (.tup xs)
  frz : ∀ b o u, H b = some (.frz o u) → H' b = some (.frz o u)
  new : ∀ a ∈ ρ', a ∈ ρ ∨ H a = none
  keep : ∀ a o, H a = some o → a ∉ ρ → H' a = some o
theorem Evo.refl {K : Gb} {ρ : List Addr} {H : Hp} : Evo K ρ ρ H H := ⟨fun _ _ h => h, fun _ _ _ h => h, fun _ h => .inl h, fun _ _ h _ => h⟩
theorem Evo.trans {K : Gb} {ρ ρ1 ρ2 : List Addr} {H H1 H2 : Hp} (a : Evo K ρ ρ1 H H1) (b : Evo K ρ1 ρ2 H1 H2) : Evo K ρ ρ2 H H2 := by
  have out : ∀ x o, H x = some o → x ∉ ρ → x ∉ ρ1 := fun x o hx hn hm => by
    rcases a.new x hm with z | z
    · exact hn z
    · rw [hx] at z; cases z
  refine ⟨fun _ _ h => b.tup _ _ (a.tup _ _ h), fun _ _ _ h => b.frz _ _ _ (a.frz _ _ _ h), fun x hx => ?_, fun x o hx hn => b.keep x o (a.keep x o hx hn) (out x o hx hn)⟩
  rcases b.new x hx with z | z
  · exact a.new x z
  · by_cases hm : x ∈ ρ
    · exact .inl hm
    · cases q : H x with
      | none => exact .inr rfl
      | some o => rw [a.keep x o q hm] at z; cases z

theorem pre_get {α : Type} {l l' : List α} (p : l <+: l') {n : Nat} {a : α} (h : l[n]? = some a) : l'[n]? = some a := by
  obtain ⟨t, rfl⟩ := p
  obtain ⟨hn, _⟩ := List.getElem?_eq_some_iff.mp h
  rw [List.getElem?_append_left hn]
  exact h

section
variable {K : Gb} {H H' : Hp} {ρ ρ' : List Addr}
mutual
theorem RV.mono (p : ρ <+: ρ') (ev : Evo K ρ ρ' H H') : ∀ {d : D} {v : V}, RV K H ρ d v → RV K H' ρ' d v
  | .non, _, h => by simpa only [RV] using h
  | .bl _, _, h => by simpa only [RV] using h
  | .int _, _, h => by simpa only [RV] using h
  | .str _, _, h => by simpa only [RV] using h
  | .ty _, _, h => by simpa only [RV] using h
  | .glb _, _, h => by simpa only [RV] using h
  | .loc _, _, h => by
    simp only [RV] at h ⊢
    obtain ⟨a, e, q⟩ := h
    exact ⟨a, pre_get p e, q⟩
  | .tup xs, _, h => by
    simp only [RV] at h ⊢
    obtain ⟨a, vs, e, t, r⟩ := h
    exact ⟨a, vs, e, ev.tup _ _ t, RVs.mono p ev r⟩
theorem RVs.mono (p : ρ <+: ρ') (ev : Evo K ρ ρ' H H') : ∀ {ds : List D} {vs : List V}, RVs K H ρ ds vs → RVs K H' ρ' ds vs
  | [], _, h => by simpa only [RVs] using h
  | d :: ds, _, h => by
    simp only [RVs] at h ⊢
    obtain ⟨v, r, e, h1, h2⟩ := h
    exact ⟨v, r, e, RV.mono p ev h1, RVs.mono p ev h2⟩
end
theorem RKs.mono {κ : Type} (p : ρ <+: ρ') (ev : Evo K ρ ρ' H H') : ∀ {ks : List (κ × D)} {ws : List (κ × V)}, RKs K H ρ ks ws → RKs K H' ρ' ks ws
  | [], _, h => h
  | (_, _) :: _, _, h => by
    obtain ⟨v, s, e, h1, h2⟩ := h
    exact ⟨v, s, e, h1.mono p ev, RKs.mono p ev h2⟩
theorem REnv.mono {e : Env} {σ : St} (p : ρ <+: ρ') (ev : Evo K ρ ρ' H H') (h : REnv K H ρ e σ) : REnv K H' ρ' e σ :=
  ⟨h.1, fun i d q => let ⟨v, a, b⟩ := h.2 i d q; ⟨v, a, b.mono p ev⟩⟩
theorem RC.keep {c : Cell} {a : Addr} (p : ρ <+: ρ') (ev : Evo K ρ ρ' H H') (hx : ∀ d fs, H d = some (.xd fs) → H' d = some (.xd fs)) (e : H' a = H a) (h : RC K H ρ c a) : RC K H' ρ' c a := by
  cases c with
  | lst xs => obtain ⟨vs, q, r⟩ := h; exact ⟨vs, e.trans q, r.mono p ev⟩
  | rol xs =>
    obtain ⟨vs, q, r⟩ := h
    refine ⟨vs, ?_, r.mono p ev⟩
    rcases q with q | ⟨o, q⟩
    · exact .inl (e.trans q)
    · exact .inr ⟨o, e.trans q⟩
  | lkK kvs => obtain ⟨o, vs, q, r⟩ := h; exact ⟨o, vs, e.trans q, r.mono p ev⟩
  | lkT kvs => obtain ⟨o, vs, q, r⟩ := h; exact ⟨o, vs, e.trans q, r.mono p ev⟩
  | dK kvs => obtain ⟨vs, q, r⟩ := h; exact ⟨vs, e.trans q, r.mono p ev⟩
  | dT kvs => obtain ⟨vs, q, r⟩ := h; exact ⟨vs, e.trans q, r.mono p ev⟩
  | ins C fs => obtain ⟨dx, vs, q, r⟩ := h; exact ⟨dx, vs, e.trans q, r.mono p ev⟩
  | exc c fs =>
    obtain ⟨C, dd, m, q, r⟩ := h
    refine ⟨C, dd, m, e.trans q, ?_⟩
    cases fs with
    | none => exact r
    | some fs =>
      obtain ⟨d, ws, e1, e2, e3⟩ := r
      exact ⟨d, ws, e1, hx _ _ e2, e3.mono p ev⟩
theorem RC.there {c : Cell} {a : Addr} (h : RC K H ρ c a) : ∃ o, H a = some o ∧ (∀ xs, o ≠ .tup xs) ∧ (∀ fs, o ≠ .xd fs) := by
  cases c with
  | lst xs => obtain ⟨vs, q, r⟩ := h; exact ⟨_, q, fun _ z => by (cases z), fun _ z => by (cases z)⟩
  | rol xs =>
    obtain ⟨vs, q, r⟩ := h
    rcases q with q | ⟨o, q⟩
    · exact ⟨_, q, fun _ z => by (cases z), fun _ z => by (cases z)⟩
    · exact ⟨_, q, fun _ z => by (cases z), fun _ z => by (cases z)⟩
  | lkK kvs => obtain ⟨o, vs, q, r⟩ := h; exact ⟨_, q, fun _ z => by (cases z), fun _ z => by (cases z)⟩
  | lkT kvs => obtain ⟨o, vs, q, r⟩ := h; exact ⟨_, q, fun _ z => by (cases z), fun _ z => by (cases z)⟩
  | dK kvs => obtain ⟨vs, q, r⟩ := h; exact ⟨_, q, fun _ z => by (cases z), fun _ z => by (cases z)⟩
  | dT kvs => obtain ⟨vs, q, r⟩ := h; exact ⟨_, q, fun _ z => by (cases z), fun _ z => by (cases z)⟩
  | ins C fs => obtain ⟨dx, vs, q, r⟩ := h; exact ⟨_, q, fun _ z => by (cases z), fun _ z => by (cases z)⟩
  | exc c fs => obtain ⟨C, dd, m, q, r⟩ := h; exact ⟨_, q, fun _ z => by (cases z), fun _ z => by (cases z)⟩
end

/-! ### steps of the heap -/
section
variable {K : Gb} {H : Hp} {ρ : List Addr} {S : Store} {p : Addr} {o : HO}
theorem Evo.fresh {ρ' : List Addr} (hp : H p = none) (hr : ∀ a ∈ ρ', a ∈ ρ ∨ a = p := by first | (intro a h; exact .inl h) | (intro a h; simpa using h)) : Evo K ρ ρ' H (upd H p o) := by
  refine ⟨fun a xs h => by rw [upd_ne (ne_of_none h hp)]; exact h, fun b ob u h => by rw [upd_ne (ne_of_none h hp)]; exact h, fun a ha => ?_, fun a ob h _ => by rw [upd_ne (ne_of_none h hp)]; exact h⟩
  rcases hr a ha with z | z
  · exact .inl z
  · subst z; exact .inr hp
theorem xd_fresh (hp : H p = none) : ∀ d fs, H d = some (.xd fs) → upd H p o d = some (.xd fs) := fun d fs h => by rw [upd_ne (ne_of_none h hp)]; exact h
/-- what may be written over: no tuple, no exception's dict, not locked -/
def Wr : HO → Prop
  | .lst _ => True | .dK _ => True | .dT _ => True | .ins _ _ _ => True | _ => False
theorem Evo.write {u : HO} {n : Nat} (hn : ρ[n]? = some p) (hp : H p = some u) (hw : Wr u) : Evo K ρ ρ H (upd H p o) :=
  ⟨fun a xs h => by rw [upd_ne (ne_of h hp (fun z => by subst z; exact hw))]; exact h, fun b ob v h => by rw [upd_ne (ne_of h hp (fun z => by subst z; exact hw))]; exact h, fun _ h => .inl h,
    fun a ob h ha => by rw [upd_ne (fun z => ha (by subst z; exact List.mem_of_getElem? hn))]; exact h⟩
theorem xd_write {u : HO} (hp : H p = some u) (hw : Wr u) : ∀ d fs, H d = some (.xd fs) → upd H p o d = some (.xd fs) := fun d fs h => by
  rw [upd_ne (ne_of h hp (fun z => by subst z; exact hw))]; exact h
theorem RS.ne_fresh (rs : RS K H ρ S) (hp : H p = none) : p ∉ ρ := fun hm => by
  obtain ⟨n, hn⟩ := List.mem_iff_getElem?.mp hm
  have hlt : n < S.length := by rw [← rs.len]; exact (List.getElem?_eq_some_iff.mp hn).1
  obtain ⟨a, ha, rc⟩ := rs.at_ n S[n] (List.getElem?_eq_getElem hlt)
  rw [hn] at ha; cases ha
  obtain ⟨o, e, _⟩ := rc.there
  rw [hp] at e; cases e
/-- an untracked place is taken -/
theorem RS.fresh (rs : RS K H ρ S) (hp : H p = none) : RS K (upd H p o) ρ S :=
  ⟨rs.len, rs.nd, fun n c hc => let ⟨a, ha, rc⟩ := rs.at_ n c hc
    ⟨a, ha, rc.keep (List.prefix_refl _) (Evo.fresh hp) (xd_fresh hp) (upd_ne fun z => rs.ne_fresh hp (z ▸ List.mem_of_getElem? ha))⟩⟩
theorem pre_one {l : List Addr} : l <+: l ++ [p] := List.prefix_append _ _
/-- a new cell -/
theorem RS.push {c : Cell} (rs : RS K H ρ S) (hp : H p = none) (hc : RC K (upd H p o) (ρ ++ [p]) c p) : RS K (upd H p o) (ρ ++ [p]) (S ++ [c]) := by
  refine ⟨by simp [rs.len], ?_, fun n c' hc' => ?_⟩
  · exact List.nodup_append.mpr ⟨rs.nd, by simp, fun a ha b hb => by
      have : b = p := by simpa using hb
      subst this
      exact fun z => rs.ne_fresh hp (z ▸ ha)⟩
  · by_cases hn : n < S.length
    · rw [List.getElem?_append_left hn] at hc'
      obtain ⟨a, ha, rc⟩ := rs.at_ n c' hc'
      exact ⟨a, pre_get pre_one ha, rc.keep pre_one (Evo.fresh hp) (xd_fresh hp) (upd_ne fun z => rs.ne_fresh hp (z ▸ List.mem_of_getElem? ha))⟩
    · have e : n = S.length := by
        have := (List.getElem?_eq_some_iff.mp hc').1
        simp at this; omega
      subst e
      have e2 : c' = c := by simpa using hc'.symm
      subst e2
      exact ⟨p, by rw [← rs.len]; simp, hc⟩
/-- a cell is written -/
theorem RS.write {c : Cell} {n : Nat} {u : HO} (rs : RS K H ρ S) (hn : ρ[n]? = some p) (hp : H p = some u) (hw : Wr u) (hc : RC K (upd H p o) ρ c p) : RS K (upd H p o) ρ (S.set n c) := by
  refine ⟨by simp [rs.len], rs.nd, fun m c' hc' => ?_⟩
  by_cases hm : m = n
  · subst hm
    have hlt : m < S.length := by
      have := (List.getElem?_eq_some_iff.mp hc').1
      simpa using this
    rw [List.getElem?_set_self hlt] at hc'
    cases hc'
    exact ⟨p, hn, hc⟩
  · rw [List.getElem?_set_ne (Ne.symm hm)] at hc'
    obtain ⟨a, ha, rc⟩ := rs.at_ m c' hc'
    refine ⟨a, ha, rc.keep (List.prefix_refl _) (Evo.write hn hp hw) (xd_write hp hw) (upd_ne fun z => ?_)⟩
    subst z
    obtain ⟨h1, e1⟩ := List.getElem?_eq_some_iff.mp ha
    obtain ⟨h2, e2⟩ := List.getElem?_eq_some_iff.mp hn
    exact hm ((List.getElem_inj rs.nd).mp (e1.trans e2.symm))
end

/-! ### outcomes -/
inductive Ou (α : Type) where
  | ok (a : α) (S : Store)
  | er (c : Str) (fs : Option (List (Str × D))) (S : Store)
  | no
def Ou.bind {α β : Type} (m : Ou α) (k : α → Store → Ou β) : Ou β :=
  match m with
  | .ok a S => k a S
  | .er c fs S => .er c fs S
  | .no => .no
inductive Os where
  | nx (e : Env) (S : Store)
  | rt (d : D) (S : Store)
  | bk (e : Env) (S : Store)
  | ct (e : Env) (S : Store)
  | er (c : Str) (fs : Option (List (Str × D))) (e : Env) (S : Store)
  | no
def Ou.toS {α : Type} (m : Ou α) (e : Env) (k : α → Store → Os) : Os :=
  match m with
  | .ok a S => k a S
  | .er c fs S => .er c fs e S
  | .no => .no
def Os.then (m : Os) (k : Env → Store → Os) : Os :=
  match m with
  | .nx e S => k e S
  | o => o
abbrev SE := Env → Store → Ou D
abbrev SA := Env → Store → Ou (List D)
abbrev ST := Env → Store → Ou Bool
abbrev SS := Env → Store → Os

section
variable (K : Gb)
def Ou.sat {α : Type} (E : XK) (ρ : List Addr) (H : Hp) (R : List Addr → Hp → Store → α → Prop) : Ou α → Prop
  | .ok a S' => ∀ ρ' H', ρ <+: ρ' → Evo K ρ ρ' H H' → RS K H' ρ' S' → R ρ' H' S' a
  | .er c fs S' => ∀ ρ' H' dd, ρ <+: ρ' → Evo K ρ ρ' H H' → RS K H' ρ' S' → RX K H' ρ' fs dd → ∀ C, K.mg c = some (.ref C) → E (.ref C) dd H'
  | .no => False
def Os.sat (W : WX) (ρ : List Addr) (H : Hp) (F : Ends) : Os → Prop
  | .nx e S' => ∀ ρ' H' σ', ρ <+: ρ' → Evo K ρ ρ' H H' → RS K H' ρ' S' → REnv K H' ρ' e σ' → F.nx σ' H'
  | .rt d S' => ∀ ρ' H' v, ρ <+: ρ' → Evo K ρ ρ' H H' → RS K H' ρ' S' → RV K H' ρ' d v → F.rt v H'
  | .bk e S' => ∀ ρ' H' σ', ρ <+: ρ' → Evo K ρ ρ' H H' → RS K H' ρ' S' → REnv K H' ρ' e σ' → F.bk σ' H'
  | .ct e S' => ∀ ρ' H' σ', ρ <+: ρ' → Evo K ρ ρ' H H' → RS K H' ρ' S' → REnv K H' ρ' e σ' → F.ct σ' H'
  | .er c fs e S' => ∀ ρ' H' σ' dd, ρ <+: ρ' → Evo K ρ ρ' H H' → RS K H' ρ' S' → REnv K H' ρ' e σ' → RX K H' ρ' fs dd → ∀ C, K.mg c = some (.ref C) → W (.ref C) dd σ' H'
  | .no => False
end
section
variable {K : Gb} {α β : Type} {E : XK} {ρ ρ1 : List Addr} {H H1 : Hp}
theorem Ou.sat.left {R : List Addr → Hp → Store → α → Prop} {m : Ou α} (h : m.sat K E ρ H R) (p : ρ <+: ρ1) (ev : Evo K ρ ρ1 H H1) : m.sat K E ρ1 H1 R := by
  cases m with
  | ok a S => exact fun ρ' H' q e => h ρ' H' (p.trans q) (ev.trans e)
  | er c fs S => exact fun ρ' H' dd q e => h ρ' H' dd (p.trans q) (ev.trans e)
  | no => exact h
theorem Ou.sat.imp {R R' : List Addr → Hp → Store → α → Prop} {m : Ou α} (h : m.sat K E ρ H R)
    (k : ∀ ρ' H' S' a, ρ <+: ρ' → Evo K ρ ρ' H H' → RS K H' ρ' S' → R ρ' H' S' a → R' ρ' H' S' a) : m.sat K E ρ H R' := by
  cases m with
  | ok a S => exact fun ρ' H' q e rs => k ρ' H' S a q e rs (h ρ' H' q e rs)
  | er c fs S => exact h
  | no => exact h
theorem Ou.sat.bind {R : List Addr → Hp → Store → β → Prop} {m : Ou α} {k : α → Store → Ou β} (h : (m.bind k).sat K E ρ H R) :
    m.sat K E ρ H fun ρ' H' S' a => (k a S').sat K E ρ' H' R := by
  cases m with
  | ok a S => exact fun ρ' H' q e rs => Ou.sat.left h q e
  | er c fs S => exact h
  | no => exact h
theorem Os.sat.left {W : WX} {F : Ends} {m : Os} (h : m.sat K W ρ H F) (p : ρ <+: ρ1) (ev : Evo K ρ ρ1 H H1) : m.sat K W ρ1 H1 F := by
  cases m with
  | nx e S => exact fun ρ' H' σ' q e => h ρ' H' σ' (p.trans q) (ev.trans e)
  | rt d S => exact fun ρ' H' σ' q e => h ρ' H' σ' (p.trans q) (ev.trans e)
  | bk e S => exact fun ρ' H' σ' q e => h ρ' H' σ' (p.trans q) (ev.trans e)
  | ct e S => exact fun ρ' H' σ' q e => h ρ' H' σ' (p.trans q) (ev.trans e)
  | er c fs e S => exact fun ρ' H' σ' dd q e => h ρ' H' σ' dd (p.trans q) (ev.trans e)
  | no => exact h
/-- an expression's outcome within a statement -/
theorem Ou.sat.toS {W : WX} {F : Ends} {m : Ou α} {e : Env} {σ : St} {k : α → Store → Os} (re : REnv K H ρ e σ) (h : (m.toS e k).sat K W ρ H F) :
    m.sat K (fun c dd H' => W c dd σ H') ρ H fun ρ' H' S' a => (k a S').sat K W ρ' H' F := by
  cases m with
  | ok a S => exact fun ρ' H' q e rs => Os.sat.left h q e
  | er c fs S => exact fun ρ' H' dd q ev rs rx => h ρ' H' σ dd q ev rs (re.mono q ev) rx
  | no => exact h
end

/-! ### readings by functions -/
/-- where one stands: the written part -/
abbrev _root_.L2.Cx.gb (X : Cx) : Gb := ⟨X.K, X.mg⟩
def rdE (K : Gb) (W : WX) (f : SE) : TE := fun σ H Q => ∃ ρ e S, RS K H ρ S ∧ REnv K H ρ e σ ∧ (f e S).sat K (fun c dd H' => W c dd σ H') ρ H fun ρ' H' _ d => ∀ v, RV K H' ρ' d v → Q v H'
def rdA (K : Gb) (W : WX) (f : SA) : TA := fun σ H Q => ∃ ρ e S, RS K H ρ S ∧ REnv K H ρ e σ ∧ (f e S).sat K (fun c dd H' => W c dd σ H') ρ H fun ρ' H' _ d => ∀ v, RVs K H' ρ' d v → Q v H'
def rdT (K : Gb) (W : WX) (f : ST) : TT := fun σ H Q => ∃ ρ e S, RS K H ρ S ∧ REnv K H ρ e σ ∧ (f e S).sat K (fun c dd H' => W c dd σ H') ρ H fun ρ' H' _ d => Q d H'
def rdS (K : Gb) (W : WX) (f : SS) : TS := fun F σ H => ∃ ρ e S, RS K H ρ S ∧ REnv K H ρ e σ ∧ (f e S).sat K W ρ H F
def DE (X : Cx) (W : WX) (e : Expr) (f : SE) : Prop := PE X e (rdE X.gb W f)
def DA (X : Cx) (W : WX) (es : List Expr) (f : SA) : Prop := PA X es (rdA X.gb W f)
def DT (X : Cx) (W : WX) (e : Expr) (f : ST) : Prop := PT X e (rdT X.gb W f)
def DS (X : Cx) (W : WX) (st : Stmt) (f : SS) : Prop := PS X st (rdS X.gb W f)
def DSs (X : Cx) (W : WX) (st : List Stmt) (f : SS) : Prop := PSs X st (rdS X.gb W f)
theorem _root_.L2.PE.imp {X : Cx} {e : Expr} {t t' : TE} (h : PE X e t) (k : ∀ σ H Q, t' σ H Q → t σ H Q) : PE X e t' := ⟨fun pins s σ H Q I q => h.run pins s σ H Q I (k _ _ _ q)⟩
theorem _root_.L2.PA.imp {X : Cx} {e : List Expr} {t t' : TA} (h : PA X e t) (k : ∀ σ H Q, t' σ H Q → t σ H Q) : PA X e t' := ⟨fun pos pins s σ H Q I q => h.run pos pins s σ H Q I (k _ _ _ q)⟩
theorem _root_.L2.PT.imp {X : Cx} {e : Expr} {t t' : TT} (h : PT X e t) (k : ∀ σ H Q, t' σ H Q → t σ H Q) : PT X e t' := ⟨fun pins s σ H Q I q => h.run pins s σ H Q I (k _ _ _ q)⟩
theorem _root_.L2.PS.imp {X : Cx} {e : Stmt} {t t' : TS} (h : PS X e t) (k : ∀ σ H Q, t' σ H Q → t σ H Q) : PS X e t' := ⟨fun pins s σ H Q I q => h.run pins s σ H Q I (k _ _ _ q)⟩
theorem _root_.L2.PSs.imp {X : Cx} {e : List Stmt} {t t' : TS} (h : PSs X e t) (k : ∀ σ H Q, t' σ H Q → t σ H Q) : PSs X e t' := ⟨fun pins s σ H Q I q => h.run pins s σ H Q I (k _ _ _ q)⟩

section
variable {X : Cx} {W : WX} {a b c e : Expr} {es : List Expr} {fa fb fc : SE} {pos : Pos}
/-! #### names, constants -/
def eV (i : Nat) : SE := fun e S => match e[i]? with
  | some (some d) => .ok d S
  | _ => .no
def eC (d : D) : SE := fun _ S => .ok d S
theorem de_var {i : Nat} {x : Str} (hN : X.N[i]? = some x) (hv : Vis X.env.scope x) (hd : (x == ("__debug__" : Str)) = false := by decide) (hcd : (x == ("__classdict__" : Str)) = false := by decide) : DE X W (.Name x pos) (eV i) :=
  (pe_var hN hv hd hcd).imp fun σ H Q ⟨ρ, e, S, rs, re, h⟩ => by
    unfold eV at h
    split at h
    · rename_i d hd
      obtain ⟨v, hv, rv⟩ := re.2 i d hd
      exact ⟨v, hv, h ρ H (List.prefix_refl _) Evo.refl rs v rv⟩
    · exact h.elim
theorem de_C {v : V} {d : D} (h : PE X e (tC v)) (r : ∀ H ρ, RV X.gb H ρ d v) : DE X W e (eC d) :=
  h.imp fun σ H Q ⟨ρ, e, S, rs, re, h⟩ => h ρ H (List.prefix_refl _) Evo.refl rs v (r H ρ)
theorem de_int {i j} : DE X W (.Constant (.int i) j pos) (eC (.int i)) := de_C pe_int fun _ _ => rfl
theorem de_bl {i j} : DE X W (.Constant (.bool i) j pos) (eC (.bl i)) := de_C pe_bl fun _ _ => rfl
theorem de_non {j} : DE X W (.Constant .none j pos) (eC .non) := de_C pe_non fun _ _ => rfl
theorem de_str {x j} : DE X W (.Constant (.str x) j pos) (eC (.str x)) := de_C pe_str fun _ _ => rfl
theorem de_glob {x : Str} {d : D} {v : V} {u : Value} (hg : Gl X x) (hm : X.mg x = some u) (r : RelV v u) (q : ∀ H ρ, RV X.gb H ρ d v) (hd : (x == ("__debug__" : Str)) = false := by decide) : DE X W (.Name x pos) (eC d) := de_C (pe_glob hg hm r hd) q
theorem de_bltn {x : Str} {d : D} {v : V} {u : Value} (hg : Gl X x) (hm : X.mg x = none) (hv : bootBuiltins x = some u) (r : RelV v u) (q : ∀ H ρ, RV X.gb H ρ d v) (hn : x ≠ "__name__" := by decide) (hd : (x == ("__debug__" : Str)) = false := by decide) : DE X W (.Name x pos) (eC d) := de_C (pe_bltn hg hm hv r hn hd) q

/-! #### two in a row, operators -/
abbrev Q1 (K : Gb) (Q : VK) : List Addr → Hp → Store → D → Prop := fun ρ' H' _ d => ∀ w, RV K H' ρ' d w → Q w H'
def Op2 (K : Gb) (r : R2) (g : D → D → Store → Ou D) : Prop := ∀ (E : XK) (ρ : List Addr) (S : Store) (H : Hp) (x y : D) (v u : V) (Q : VK), RS K H ρ S → RV K H ρ x v → RV K H ρ y u → (g x y S).sat K E ρ H (Q1 K Q) → r v u H Q
def Op1 (K : Gb) (r : V → Hp → VK → Prop) (g : D → Store → Ou D) : Prop := ∀ (E : XK) (ρ : List Addr) (S : Store) (H : Hp) (x : D) (v : V) (Q : VK), RS K H ρ S → RV K H ρ x v → (g x S).sat K E ρ H (Q1 K Q) → r v H Q
def OpN (K : Gb) (r : List V → Hp → VK → Prop) (g : List D → Store → Ou D) : Prop := ∀ (E : XK) (ρ : List Addr) (S : Store) (H : Hp) (x : List D) (v : List V) (Q : VK), RS K H ρ S → RVs K H ρ x v → (g x S).sat K E ρ H (Q1 K Q) → r v H Q
def e2 (g : D → D → Store → Ou D) (fa fb : SE) : SE := fun e S => (fa e S).bind fun x S1 => (fb e S1).bind fun y S2 => g x y S2
def e1 (g : D → Store → Ou D) (fa : SE) : SE := fun e S => (fa e S).bind fun x S1 => g x S1
theorem rd_one {K : Gb} {σ : St} {H : Hp} {ρ : List Addr} {e : Env} {S : Store} {β : Type} {k : D → Store → Ou β} {R : List Addr → Hp → Store → β → Prop} {T : V → Hp → Prop} (rs : RS K H ρ S) (re : REnv K H ρ e σ)
    (h : ((fa e S).bind k).sat K (fun c dd H' => W c dd σ H') ρ H R)
    (q : ∀ ρ1 H1 S1 d v, ρ <+: ρ1 → Evo K ρ ρ1 H H1 → RS K H1 ρ1 S1 → REnv K H1 ρ1 e σ → RV K H1 ρ1 d v → (k d S1).sat K (fun c dd H' => W c dd σ H') ρ1 H1 R → T v H1) : rdE K W fa σ H T :=
  ⟨ρ, e, S, rs, re, h.bind.imp fun ρ1 H1 S1 d p ev rs1 h1 v rv => q ρ1 H1 S1 d v p ev rs1 (re.mono p ev) rv h1⟩
theorem rd_args {K : Gb} {σ : St} {H : Hp} {ρ : List Addr} {e : Env} {S : Store} {β : Type} {k : List D → Store → Ou β} {R : List Addr → Hp → Store → β → Prop} {T : List V → Hp → Prop} {fa : SA} (rs : RS K H ρ S) (re : REnv K H ρ e σ)
    (h : ((fa e S).bind k).sat K (fun c dd H' => W c dd σ H') ρ H R)
    (q : ∀ ρ1 H1 S1 d v, ρ <+: ρ1 → Evo K ρ ρ1 H H1 → RS K H1 ρ1 S1 → REnv K H1 ρ1 e σ → RVs K H1 ρ1 d v → (k d S1).sat K (fun c dd H' => W c dd σ H') ρ1 H1 R → T v H1) : rdA K W fa σ H T :=
  ⟨ρ, e, S, rs, re, h.bind.imp fun ρ1 H1 S1 d p ev rs1 h1 v rv => q ρ1 H1 S1 d v p ev rs1 (re.mono p ev) rv h1⟩
theorem rd_test {K : Gb} {σ : St} {H : Hp} {ρ : List Addr} {e : Env} {S : Store} {β : Type} {k : Bool → Store → Ou β} {R : List Addr → Hp → Store → β → Prop} {T : Bool → Hp → Prop} {fa : ST} (rs : RS K H ρ S) (re : REnv K H ρ e σ)
    (h : ((fa e S).bind k).sat K (fun c dd H' => W c dd σ H') ρ H R)
    (q : ∀ ρ1 H1 S1 d, ρ <+: ρ1 → Evo K ρ ρ1 H H1 → RS K H1 ρ1 S1 → REnv K H1 ρ1 e σ → (k d S1).sat K (fun c dd H' => W c dd σ H') ρ1 H1 R → T d H1) : rdT K W fa σ H T :=
  ⟨ρ, e, S, rs, re, h.bind.imp fun ρ1 H1 S1 d p ev rs1 h1 => q ρ1 H1 S1 d p ev rs1 (re.mono p ev) h1⟩
theorem rd_two {r : R2} {g : D → D → Store → Ou D} (hg : Op2 X.gb r g) : ∀ σ H Q, rdE X.gb W (e2 g fa fb) σ H Q → tOp r (rdE X.gb W fa) (rdE X.gb W fb) σ H Q := fun σ H Q ⟨ρ, e, S, rs, re, h⟩ =>
  rd_one rs re h fun ρ1 H1 S1 x v p1 ev1 rs1 re1 rv h1 => rd_one rs1 re1 h1 fun ρ2 H2 S2 y u p2 ev2 rs2 re2 ru h2 =>
    hg _ ρ2 S2 H2 x y v u Q rs2 (rv.mono p2 ev2) ru h2
theorem de_op {op : Operator} {r : R2} {g : D → D → Store → Ou D} (ho : OpR X (binaryOp op) r) (hg : Op2 X.gb r g) (ha : DE X W a fa) (hb : DE X W b fb) : DE X W (.BinOp a op b pos) (e2 g fa fb) :=
  (pe_op ho ha hb).imp (rd_two hg)
theorem de_cmp {op : CmpOp} {r : R2} {g : D → D → Store → Ou D} (ho : OpR X (compareOp op) r) (hg : Op2 X.gb r g) (ha : DE X W a fa) (hb : DE X W b fb) (hm : behindInMarks op b = false) : DE X W (.Compare a [op] [b] pos) (e2 g fa fb) :=
  (pe_cmpR ho ha hb hm).imp (rd_two hg)
theorem de_ix {r : R2} {g : D → D → Store → Ou D} (ho : IxR X r) (hg : Op2 X.gb r g) (ha : DE X W a fa) (hb : DE X W b fb) (hs : PlainIx b) : DE X W (.Subscript a b pos) (e2 g fa fb) :=
  (pe_ix ho ha hb hs).imp (rd_two hg)
theorem de_un {op : UnaryOp} {r : V → Hp → VK → Prop} {g : D → Store → Ou D} (ho : UnR X (unaryOp op) r) (hg : Op1 X.gb r g) (ha : DE X W a fa) : DE X W (.UnaryOp op a pos) (e1 g fa) :=
  (pe_un ho ha).imp fun σ H Q ⟨ρ, e, S, rs, re, h⟩ => rd_one rs re h fun ρ1 H1 S1 x v p1 ev1 rs1 re1 rv h1 => hg _ ρ1 S1 H1 x v Q rs1 rv h1

/-! #### argument lists, displays -/
def aNil : SA := fun _ S => .ok [] S
def aCons (fa : SE) (fr : SA) : SA := fun e S => (fa e S).bind fun x S1 => (fr e S1).bind fun xs S2 => .ok (x :: xs) S2
theorem da_nil : DA X W [] aNil := pa_nil.imp fun σ H Q ⟨ρ, e, S, rs, re, h⟩ => h ρ H (List.prefix_refl _) Evo.refl rs [] (by simp only [RVs])
theorem da_cons {fr : SA} (ha : DE X W e fa) (hr : DA X W es fr) (hs : starEach (e :: es) X.env = (false, eval e X.env) :: starEach es X.env := by rfl) : DA X W (e :: es) (aCons fa fr) :=
  (pa_cons ha hr hs).imp fun σ H Q ⟨ρ, e, S, rs, re, h⟩ => rd_one rs re h fun ρ1 H1 S1 x v p1 ev1 rs1 re1 rv h1 => rd_args rs1 re1 h1 fun ρ2 H2 S2 xs vs p2 ev2 rs2 re2 rvs h2 =>
    h2 ρ2 H2 (List.prefix_refl _) Evo.refl rs2 (v :: vs) (by simp only [RVs]; exact ⟨v, vs, rfl, rv.mono p2 ev2, rvs⟩)
theorem RVs.length {K : Gb} {H : Hp} {ρ : List Addr} : ∀ {ds : List D} {vs : List V}, RVs K H ρ ds vs → ds.length = vs.length
  | [], _, h => by simp only [RVs] at h; subst h; rfl
  | _ :: _, _, h => by
    simp only [RVs] at h
    obtain ⟨v, r, rfl, _, h2⟩ := h
    simp [RVs.length h2]
/-- a tuple; a list: a new cell -/
def mkTup (xs : List D) (S : Store) : Ou D := if xs.length ≤ 4096 then .ok (.tup xs) S else .no
def mkLst (xs : List D) (S : Store) : Ou D := if xs.length ≤ 4096 then .ok (.loc S.length) (S ++ [.lst xs]) else .no
def eN (g : List D → Store → Ou D) (fa : SA) : SE := fun e S => (fa e S).bind g
theorem small4 {n : Nat} (h : n ≤ 4096) : n ≤ sizeLine := Nat.le_trans h (by decide)
theorem on_tup {K : Gb} : OpN K (fun xs H Q => xs.length ≤ sizeLine ∧ ∀ p, H p = none → Q (.ref p) (upd H p (.tup xs))) mkTup := fun E ρ S H x v Q rs rv h => by
  unfold mkTup at h
  split at h
  · rename_i hl
    refine ⟨by rw [← rv.length]; exact small4 hl, fun p hp => h ρ _ (List.prefix_refl _) (Evo.fresh hp) (rs.fresh hp) _ ?_⟩
    simp only [RV]
    exact ⟨p, v, rfl, upd_same, rv.mono (List.prefix_refl _) (Evo.fresh hp)⟩
  · exact h.elim
theorem lst_new {K : Gb} {E : XK} {ρ : List Addr} {S : Store} {H : Hp} {xs : List D} {vs : List V} {Q : VK} (rs : RS K H ρ S) (rv : RVs K H ρ xs vs)
    (h : (Ou.ok (D.loc S.length) (S ++ [.lst xs]) : Ou D).sat K E ρ H (Q1 K Q)) {p : Addr} (hp : H p = none) : Q (.ref p) (upd H p (.lst vs)) := by
  refine h (ρ ++ [p]) _ pre_one (Evo.fresh hp) (rs.push hp ⟨vs, upd_same, rv.mono pre_one (Evo.fresh hp)⟩) _ ?_
  simp only [RV]
  exact ⟨p, by rw [← rs.len]; simp, rfl⟩
theorem on_lst {K : Gb} : OpN K (fun xs H Q => xs.length ≤ sizeLine ∧ ∀ p, H p = none → Q (.ref p) (upd H p (.lst xs))) mkLst := fun E ρ S H x v Q rs rv h => by
  unfold mkLst at h
  split at h
  · rename_i hl
    exact ⟨by rw [← rv.length]; exact small4 hl, fun p hp => lst_new rs rv h hp⟩
  · exact h.elim
theorem rd_N {r : List V → Hp → VK → Prop} {g : List D → Store → Ou D} (hg : OpN X.gb r g) {fr : SA} : ∀ σ H Q, rdE X.gb W (eN g fr) σ H Q → rdA X.gb W fr σ H fun vs H1 => r vs H1 Q := fun σ H Q ⟨ρ, e, S, rs, re, h⟩ =>
  rd_args rs re h fun ρ1 H1 S1 x v p1 ev1 rs1 re1 rv h1 => hg _ ρ1 S1 H1 x v Q rs1 rv h1
theorem de_tup {fr : SA} {x1} (ha : DA X W es fr) : DE X W (.Tuple es x1 pos) (eN mkTup fr) := (pe_tup ha).imp (rd_N on_tup)
theorem de_lst {fr : SA} (ha : DA X W es fr) : DE X W (.List es pos) (eN mkLst fr) := (pe_lst ha).imp (rd_N on_lst)
/-- a built-in by its name -/
theorem de_callB {id : String} {x : Str} {p : Pos} {r : List V → Hp → VK → Prop} {g : List D → Store → Ou D} {fr : SA} (hc : CallR X (.builtin id) r) (hg : OpN X.gb r g) (gl : Gl X x) (hm : X.mg x = none) (hv : bootBuiltins x = some (.builtin id)) (ha : DA X W (e :: es) fr) (hn : x ≠ "__name__" := by decide) (hdb : (x == ("__debug__" : Str)) = false := by decide)
    (he : starEach (e :: es) X.env = (false, eval e X.env) :: starEach es X.env := by rfl) (hpl : (backTo pos (starEach es X.env)).any (·.1) = false := by rfl) : DE X W (.Call (.Name x p) (e :: es) [] pos) (eN g fr) :=
  (pe_callB hc gl hm hv ha hn hdb he hpl).imp (rd_N hg)
theorem de_callTy {T : String} {x : Str} {p : Pos} {r : List V → Hp → VK → Prop} {g : List D → Store → Ou D} {fr : SA} (hc : CallR X (.type T) r) (hg : OpN X.gb r g) (gl : Gl X x) (hm : X.mg x = none) (hv : bootBuiltins x = some (.type T)) (ha : DA X W (e :: es) fr) (hn : x ≠ "__name__" := by decide) (hdb : (x == ("__debug__" : Str)) = false := by decide)
    (he : starEach (e :: es) X.env = (false, eval e X.env) :: starEach es X.env := by rfl) (hpl : (backTo pos (starEach es X.env)).any (·.1) = false := by rfl) : DE X W (.Call (.Name x p) (e :: es) [] pos) (eN g fr) :=
  (pe_callTy hc gl hm hv ha hn hdb he hpl).imp (rd_N hg)
end
end B

set_option Elab.async false
set_option linter.all false
set_option maxRecDepth 100000
set_option maxHeartbeats 1000000
/-! BFun: statements; defs as functions over stores; calls. -/
namespace B
open PySem PySem.Spec L2
open PyProof.Rows hiding St

/-! ### tests -/
section
variable {X : Cx} {W : WX} {a b c e : Expr} {es : List Expr} {fa fb fc : SE} {ga gb gc : ST} {pos : Pos}
/-- a value's truth -/
def truS (d : D) (S : Store) : Ou Bool :=
  match d with
  | .non => .ok false S
  | .bl b => .ok b S
  | .int i => .ok (i != 0) S
  | .str x => if x.length ≤ 4096 then .ok (x.length != 0) S else .no
  | .tup xs => .ok (!xs.isEmpty) S
  | .loc n => match S[n]? with
    | some (.lst xs) => .ok (!xs.isEmpty) S
    | some (.rol xs) => .ok (!xs.isEmpty) S
    | some (.dK kvs) => .ok (!kvs.isEmpty) S
    | _ => .no
  | _ => .no
def tB (fa : SE) : ST := fun e S => (fa e S).bind fun d S1 => match d with
  | .bl b => .ok b S1
  | _ => .no
def tTru (fa : SE) : ST := fun e S => (fa e S).bind truS
/-- an expression that gives a bool, as a test -/
theorem dt_val (h : DE X W e fa) (he : ∀ whole, isTrue e X.env whole = (do let v ← whole; standAt e.pos; holding [v] (truthy v)) := by intro _; rfl) : DT X W e (tB fa) :=
  (pt_val h he).imp fun σ H Q ⟨ρ, e, S, rs, re, h⟩ => rd_one rs re h fun ρ1 H1 S1 d v p ev rs1 re1 rv h1 => by
    cases d with
    | bl b => simp only [RV] at rv; exact ⟨b, rv, h1 ρ1 H1 (List.prefix_refl _) Evo.refl rs1⟩
    | _ => exact h1.elim
theorem dt_cmp {op : CmpOp} {r : R2} {g : D → D → Store → Ou D} (ho : OpR X (compareOp op) r) (hg : Op2 X.gb r g) (ha : DE X W a fa) (hb : DE X W b fb) (hm : behindInMarks op b = false) : DT X W (.Compare a [op] [b] pos) (tB (e2 g fa fb)) :=
  (pt_cmpR ho ha hb hm).imp fun σ H Q ⟨ρ, e, S, rs, re, h⟩ => rd_two (W := W) hg σ H _ (rd_one rs re h fun ρ1 H1 S1 d v p ev rs1 re1 rv h1 => by
    cases d with
    | bl b => simp only [RV] at rv; exact ⟨b, rv, h1 ρ1 H1 (List.prefix_refl _) Evo.refl rs1⟩
    | _ => exact h1.elim)
theorem RVs.empty {K : Gb} {H : Hp} {ρ : List Addr} {ds : List D} {vs : List V} (h : RVs K H ρ ds vs) : ds.isEmpty = vs.isEmpty := by
  cases ds with
  | nil => simp only [RVs] at h; subst h; rfl
  | cons d ds => simp only [RVs] at h; obtain ⟨v, r, rfl, _⟩ := h; rfl
theorem RKs.empty {K : Gb} {H : Hp} {ρ : List Addr} {κ : Type} {ds : List (κ × D)} {vs : List (κ × V)} (h : RKs K H ρ ds vs) : ds.isEmpty = vs.isEmpty := by
  cases ds with
  | nil => simp only [RKs] at h; subst h; rfl
  | cons d ds => obtain ⟨v, r, rfl, _⟩ := h; rfl
theorem nat_ne0 {n : Nat} : (((n : Nat) : Int) != 0) = (n != 0) := by
  cases n <;> rfl
theorem dt_tru (h : DE X W e fa) (he : ∀ whole, isTrue e X.env whole = (do let v ← whole; standAt e.pos; holding [v] (truthy v)) := by intro _; rfl) : DT X W e (tTru fa) :=
  (pt_truth h he).imp fun σ H Q ⟨ρ, e, S, rs, re, h⟩ => rd_one rs re h fun ρ1 H1 S1 d v p ev rs1 re1 rv h1 => by
    have fin : ∀ b, (Ou.ok b S1 : Ou Bool).sat X.gb (fun c dd H' => W c dd σ H') ρ1 H1 (fun ρ' H' x d => Q d H') → Q b H1 := fun b q => q ρ1 H1 (List.prefix_refl _) Evo.refl rs1
    cases d with
    | non => simp only [RV] at rv; subst rv; exact ⟨false, rfl, fin _ h1⟩
    | bl b => simp only [RV] at rv; subst rv; exact ⟨b, rfl, fin _ h1⟩
    | int i => simp only [RV] at rv; subst rv; exact ⟨_, rfl, fin _ h1⟩
    | str x =>
      simp only [RV] at rv
      subst rv
      unfold truS at h1
      dsimp only at h1
      split at h1
      · rename_i hl
        exact ⟨_, ⟨small4 hl, nat_ne0.symm⟩, fin _ h1⟩
      · exact h1.elim
    | tup xs =>
      simp only [RV] at rv
      obtain ⟨a, vs, rfl, ht, hr⟩ := rv
      refine ⟨!xs.isEmpty, .inr (.inl ⟨vs, SqT.of ht, by rw [hr.empty]⟩), fin _ h1⟩
    | loc n =>
      simp only [RV] at rv
      obtain ⟨a, hn, rfl⟩ := rv
      unfold truS at h1
      dsimp only at h1
      have at_ := rs1.at_ n
      split at h1
      · rename_i xs hc
        obtain ⟨a', ha', vs, q, r⟩ := at_ _ hc
        rw [hn] at ha'; cases ha'
        exact ⟨!xs.isEmpty, .inl ⟨vs, SqL.of q, by rw [r.empty]⟩, fin _ h1⟩
      · rename_i xs hc
        obtain ⟨a', ha', vs, q, r⟩ := at_ _ hc
        rw [hn] at ha'; cases ha'
        exact ⟨!xs.isEmpty, .inl ⟨vs, .inl q, by rw [r.empty]⟩, fin _ h1⟩
      · rename_i xs hc
        obtain ⟨a', ha', vs, q, r⟩ := at_ _ hc
        rw [hn] at ha'; cases ha'
        exact ⟨!xs.isEmpty, .inr (.inr ⟨vs, q, by rw [r.empty]⟩), fin _ h1⟩
      · exact h1.elim
    | _ => exact h1.elim
/-- and, or, not -/
def tAnd (ga gb : ST) : ST := fun e S => (ga e S).bind fun b S1 => if b = true then gb e S1 else .ok false S1
def tOr (ga gb : ST) : ST := fun e S => (ga e S).bind fun b S1 => if b = true then .ok true S1 else gb e S1
def tNot (ga : ST) : ST := fun e S => (ga e S).bind fun b S1 => .ok (!b) S1
def DW (X : Cx) (W : WX) (e : Expr) (f : ST) : Prop := PW X e (rdT X.gb W f)
theorem DW.dt (h : DW X W e ga) : DT X W e ga := PW.pt h
theorem _root_.L2.PW.imp {X : Cx} {e : Expr} {t t' : TT} (h : PW X e t) (k : ∀ σ H Q, t' σ H Q → t σ H Q) : PW X e t' := ⟨fun wh pins s σ H Q I q => h.run wh pins s σ H Q I (k _ _ _ q)⟩
theorem rd_and : ∀ σ H Q, rdT X.gb W (tAnd ga gb) σ H Q → L2.tAnd (rdT X.gb W ga) (rdT X.gb W gb) σ H Q := fun σ H Q ⟨ρ, e, S, rs, re, h⟩ => rd_test rs re h fun ρ1 H1 S1 d p ev rs1 re1 h1 => by
  cases d with
  | true => exact ⟨ρ1, e, S1, rs1, re1, h1⟩
  | false => exact h1 ρ1 H1 (List.prefix_refl _) Evo.refl rs1
theorem rd_or : ∀ σ H Q, rdT X.gb W (tOr ga gb) σ H Q → L2.tOr (rdT X.gb W ga) (rdT X.gb W gb) σ H Q := fun σ H Q ⟨ρ, e, S, rs, re, h⟩ => rd_test rs re h fun ρ1 H1 S1 d p ev rs1 re1 h1 => by
  cases d with
  | false => exact ⟨ρ1, e, S1, rs1, re1, h1⟩
  | true => exact h1 ρ1 H1 (List.prefix_refl _) Evo.refl rs1
theorem dw_and1 (ha : DT X W a ga) : DW X W (.BoolOp .And [a] pos) ga := pw_and1 ha
theorem dw_or1 (ha : DT X W a ga) : DW X W (.BoolOp .Or [a] pos) ga := pw_or1 ha
theorem dw_and (ha : DT X W a ga) (hb : DW X W (.BoolOp .And (b :: es) pos) gb) : DW X W (.BoolOp .And (a :: b :: es) pos) (tAnd ga gb) := (pw_and ha hb).imp rd_and
theorem dw_or (ha : DT X W a ga) (hb : DW X W (.BoolOp .Or (b :: es) pos) gb) : DW X W (.BoolOp .Or (a :: b :: es) pos) (tOr ga gb) := (pw_or ha hb).imp rd_or
theorem dt_not (ha : DT X W a ga) : DT X W (.UnaryOp .Not a pos) (tNot ga) :=
  (pt_not ha).imp fun σ H Q ⟨ρ, e, S, rs, re, h⟩ => rd_test rs re h fun ρ1 H1 S1 d p ev rs1 re1 h1 => h1 ρ1 H1 (List.prefix_refl _) Evo.refl rs1
/-- .. as values, of bools -/
def eAnd (fa fb : SE) : SE := fun e S => (tB fa e S).bind fun b S1 => if b = true then fb e S1 else .ok (.bl false) S1
def eOr (fa fb : SE) : SE := fun e S => (tB fa e S).bind fun b S1 => if b = true then .ok (.bl true) S1 else fb e S1
def eNot (fa : SE) : SE := fun e S => (tB fa e S).bind fun b S1 => .ok (.bl (!b)) S1
theorem sat_tB {K : Gb} {σ : St} {H : Hp} {ρ : List Addr} {e : Env} {S : Store} {β : Type} {k : Bool → Store → Ou β} {R : List Addr → Hp → Store → β → Prop} {T : V → Hp → Prop} (rs : RS K H ρ S) (re : REnv K H ρ e σ)
    (h : ((tB fa e S).bind k).sat K (fun c dd H' => W c dd σ H') ρ H R)
    (q : ∀ ρ1 H1 S1 b, ρ <+: ρ1 → Evo K ρ ρ1 H H1 → RS K H1 ρ1 S1 → REnv K H1 ρ1 e σ → (k b S1).sat K (fun c dd H' => W c dd σ H') ρ1 H1 R → T (.bl b) H1) : rdE K W fa σ H T := by
  have h' : ((fa e S).bind fun d S1 => (match d with | .bl b => k b S1 | _ => .no)).sat K (fun c dd H' => W c dd σ H') ρ H R := by
    unfold tB at h
    cases q : fa e S with
    | ok d S1 =>
      rw [q] at h
      cases d <;> exact h
    | er c fs S1 => rw [q] at h; exact h
    | no => rw [q] at h; exact h
  refine rd_one rs re h' fun ρ1 H1 S1 d v p ev rs1 re1 rv h1 => ?_
  cases d with
  | bl b => simp only [RV] at rv; subst rv; exact q ρ1 H1 S1 b p ev rs1 re1 h1
  | _ => exact h1.elim
theorem de_one {op} (h : DE X W a fa) : DE X W (.BoolOp op [a] pos) fa := pe_one h
theorem de_and (ha : DE X W a fa) (hb : DE X W (.BoolOp .And (b :: es) pos) fb) : DE X W (.BoolOp .And (a :: b :: es) pos) (eAnd fa fb) :=
  (pe_and ha hb).imp fun σ H Q ⟨ρ, e, S, rs, re, h⟩ => sat_tB rs re h fun ρ1 H1 S1 b p ev rs1 re1 h1 => ⟨b, rfl, by
    cases b with
    | true => exact ⟨ρ1, e, S1, rs1, re1, h1⟩
    | false => exact h1 ρ1 H1 (List.prefix_refl _) Evo.refl rs1 _ rfl⟩
theorem de_or (ha : DE X W a fa) (hb : DE X W (.BoolOp .Or (b :: es) pos) fb) : DE X W (.BoolOp .Or (a :: b :: es) pos) (eOr fa fb) :=
  (pe_or ha hb).imp fun σ H Q ⟨ρ, e, S, rs, re, h⟩ => sat_tB rs re h fun ρ1 H1 S1 b p ev rs1 re1 h1 => ⟨b, rfl, by
    cases b with
    | false => exact ⟨ρ1, e, S1, rs1, re1, h1⟩
    | true => exact h1 ρ1 H1 (List.prefix_refl _) Evo.refl rs1 _ rfl⟩
theorem de_not (ha : DE X W a fa) : DE X W (.UnaryOp .Not a pos) (eNot fa) :=
  (pe_not ha).imp fun σ H Q ⟨ρ, e, S, rs, re, h⟩ => sat_tB rs re h fun ρ1 H1 S1 b p ev rs1 re1 h1 => ⟨b, rfl, h1 ρ1 H1 (List.prefix_refl _) Evo.refl rs1 _ rfl⟩
/-- a if t else b -/
def eIf (gc : ST) (fa fb : SE) : SE := fun e S => (gc e S).bind fun b S1 => if b = true then fa e S1 else fb e S1
theorem de_if (hc : DT X W c gc) (ha : DE X W a fa) (hb : DE X W b fb) : DE X W (.IfExp c a b pos) (eIf gc fa fb) :=
  (pe_ifExp hc ha hb).imp fun σ H Q ⟨ρ, e, S, rs, re, h⟩ => rd_test rs re h fun ρ1 H1 S1 d p ev rs1 re1 h1 => by
    cases d with
    | true => exact ⟨ρ1, e, S1, rs1, re1, h1⟩
    | false => exact ⟨ρ1, e, S1, rs1, re1, h1⟩
end

/-! ### statements -/
section
variable {X : Cx} {W : WX} {a b c e : Expr} {es : List Expr} {fa fb fc : SE} {ga gb gc : ST} {pos : Pos} {st : Stmt} {sts stt : List Stmt} {f g : SS}
def sNil : SS := fun e S => .nx e S
def sSeq (f g : SS) : SS := fun e S => (f e S).then g
theorem ss_nil : DSs X W [] sNil := pss_nil.imp fun F σ H ⟨ρ, e, S, rs, re, h⟩ => h ρ H σ (List.prefix_refl _) Evo.refl rs re
theorem Os.sat.then {K : Gb} {ρ : List Addr} {H : Hp} {F : Ends} {m : Os} {k : Env → Store → Os} (h : (m.then k).sat K W ρ H F) :
    m.sat K W ρ H { F with nx := fun σ' H' => ∃ ρ' e' S', RS K H' ρ' S' ∧ REnv K H' ρ' e' σ' ∧ (k e' S').sat K W ρ' H' F } := by
  cases m with
  | nx e S => exact fun ρ' H' σ' p ev rs re => ⟨ρ', e, S, rs, re, Os.sat.left h p ev⟩
  | rt d S => exact h
  | bk e S => exact h
  | ct e S => exact h
  | er c fs e S => exact h
  | no => exact h
theorem ss_cons (h1 : DS X W st f) (h2 : DSs X W sts g) : DSs X W (st :: sts) (sSeq f g) :=
  (pss_cons h1 h2).imp fun F σ H ⟨ρ, e, S, rs, re, h⟩ => ⟨ρ, e, S, rs, re, Os.sat.then h⟩
theorem ss_one (h1 : DS X W st f) : DSs X W [st] f := pss_one h1
def sPass : SS := fun e S => .nx e S
def sBreak : SS := fun e S => .bk e S
def sCont : SS := fun e S => .ct e S
theorem ds_pass : DS X W (.Pass pos) sPass := ps_pass.imp fun F σ H ⟨ρ, e, S, rs, re, h⟩ => h ρ H σ (List.prefix_refl _) Evo.refl rs re
theorem ds_break : DS X W (.Break pos) sBreak := ps_break.imp fun F σ H ⟨ρ, e, S, rs, re, h⟩ => h ρ H σ (List.prefix_refl _) Evo.refl rs re
theorem ds_cont : DS X W (.Continue pos) sCont := ps_continue.imp fun F σ H ⟨ρ, e, S, rs, re, h⟩ => h ρ H σ (List.prefix_refl _) Evo.refl rs re
/-- an expression in a statement -/
theorem rd_st {K : Gb} {σ : St} {H : Hp} {ρ : List Addr} {e : Env} {S : Store} {k : D → Store → Os} {F : Ends} {T : V → Hp → Prop} (rs : RS K H ρ S) (re : REnv K H ρ e σ) (h : ((fa e S).toS e k).sat K W ρ H F)
    (q : ∀ ρ1 H1 S1 d v, ρ <+: ρ1 → Evo K ρ ρ1 H H1 → RS K H1 ρ1 S1 → REnv K H1 ρ1 e σ → RV K H1 ρ1 d v → (k d S1).sat K W ρ1 H1 F → T v H1) : rdE K W fa σ H T :=
  ⟨ρ, e, S, rs, re, (Ou.sat.toS re h).imp fun ρ1 H1 S1 d p ev rs1 h1 v rv => q ρ1 H1 S1 d v p ev rs1 (re.mono p ev) rv h1⟩
theorem rd_stA {K : Gb} {σ : St} {H : Hp} {ρ : List Addr} {e : Env} {S : Store} {k : List D → Store → Os} {F : Ends} {T : List V → Hp → Prop} {fa : SA} (rs : RS K H ρ S) (re : REnv K H ρ e σ) (h : ((fa e S).toS e k).sat K W ρ H F)
    (q : ∀ ρ1 H1 S1 d v, ρ <+: ρ1 → Evo K ρ ρ1 H H1 → RS K H1 ρ1 S1 → REnv K H1 ρ1 e σ → RVs K H1 ρ1 d v → (k d S1).sat K W ρ1 H1 F → T v H1) : rdA K W fa σ H T :=
  ⟨ρ, e, S, rs, re, (Ou.sat.toS re h).imp fun ρ1 H1 S1 d p ev rs1 h1 v rv => q ρ1 H1 S1 d v p ev rs1 (re.mono p ev) rv h1⟩
theorem rd_stT {K : Gb} {σ : St} {H : Hp} {ρ : List Addr} {e : Env} {S : Store} {k : Bool → Store → Os} {F : Ends} {T : Bool → Hp → Prop} (rs : RS K H ρ S) (re : REnv K H ρ e σ) (h : ((ga e S).toS e k).sat K W ρ H F)
    (q : ∀ ρ1 H1 S1 d, ρ <+: ρ1 → Evo K ρ ρ1 H H1 → RS K H1 ρ1 S1 → REnv K H1 ρ1 e σ → (k d S1).sat K W ρ1 H1 F → T d H1) : rdT K W ga σ H T :=
  ⟨ρ, e, S, rs, re, (Ou.sat.toS re h).imp fun ρ1 H1 S1 d p ev rs1 h1 => q ρ1 H1 S1 d p ev rs1 (re.mono p ev) h1⟩
def sExpr (fa : SE) : SS := fun e S => (fa e S).toS e fun _ S1 => .nx e S1
def sRet (fa : SE) : SS := fun e S => (fa e S).toS e fun d S1 => .rt d S1
def sRetN : SS := fun _ S => .rt .non S
theorem ds_expr (he : DE X W e fa) (hs : swapsWith e none pos.line X.env = pure false := by rfl) : DS X W (.Expr e pos) (sExpr fa) :=
  (ps_expr he hs).imp fun F σ H ⟨ρ, e, S, rs, re, h⟩ => rd_st rs re h fun ρ1 H1 S1 d v p ev rs1 re1 rv h1 => h1 ρ1 H1 σ (List.prefix_refl _) Evo.refl rs1 re1
theorem ds_ret (he : DE X W e fa) : DS X W (.Return (some e) pos) (sRet fa) :=
  (ps_ret he).imp fun F σ H ⟨ρ, e, S, rs, re, h⟩ => rd_st rs re h fun ρ1 H1 S1 d v p ev rs1 re1 rv h1 => h1 ρ1 H1 v (List.prefix_refl _) Evo.refl rs1 rv
theorem ds_retN : DS X W (.Return none pos) sRetN := ps_retN.imp fun F σ H ⟨ρ, e, S, rs, re, h⟩ => h ρ H .non (List.prefix_refl _) Evo.refl rs rfl
def sIf (gc : ST) (f g : SS) : SS := fun e S => (gc e S).toS e fun b S1 => if b = true then f e S1 else g e S1
theorem ds_if (hc : DT X W c gc) (ha : DSs X W sts f) (hb : DSs X W stt g) : DS X W (.If c sts stt pos) (sIf gc f g) :=
  (ps_if hc ha hb).imp fun F σ H ⟨ρ, e, S, rs, re, h⟩ => rd_stT rs re h fun ρ1 H1 S1 d p ev rs1 re1 h1 => by
    cases d with
    | true => exact ⟨ρ1, e, S1, rs1, re1, h1⟩
    | false => exact ⟨ρ1, e, S1, rs1, re1, h1⟩

/-! #### targets -/
/-- a target: the value goes into the names (or a place) -/
abbrev SG := D → Env → Store → Os
abbrev Rl := L2.St → L2.St → Prop
/-- P: what is told of the slots ahead and behind -/
def rdG (K : Gb) (W : WX) (P : Rl) (g : SG) : TG := fun v σ H Q => ∃ ρ e S d, RS K H ρ S ∧ REnv K H ρ e σ ∧ RV K H ρ d v ∧ (g d e S).sat K W ρ H { nx := fun σ' H' => P σ σ' → Q σ' H', rt := fun _ _ => False }
def rdGs (K : Gb) (W : WX) (P : Rl) (g : List D → Env → Store → Os) : TGs := fun vs σ H Q => ∃ ρ e S ds, RS K H ρ S ∧ REnv K H ρ e σ ∧ RVs K H ρ ds vs ∧ (g ds e S).sat K W ρ H { nx := fun σ' H' => P σ σ' → Q σ' H', rt := fun _ _ => False }
def DGp (X : Cx) (W : WX) (P : Rl) (t : Expr) (g : SG) : Prop := PG X t (rdG X.gb W P g)
def DGps (X : Cx) (W : WX) (P : Rl) (t : List Expr) (g : List D → Env → Store → Os) : Prop := PGs X t (rdGs X.gb W P g)
def P1 : Rl := fun _ _ => True
abbrev DG (X : Cx) (W : WX) (t : Expr) (g : SG) : Prop := DGp X W P1 t g
abbrev DGs (X : Cx) (W : WX) (t : List Expr) (g : List D → Env → Store → Os) : Prop := DGps X W P1 t g
structure Pre (P : Rl) : Prop where
  refl : ∀ σ, P σ σ
  trans : ∀ a b c, P a b → P b c → P a c
theorem pre1 : Pre P1 := ⟨fun _ => trivial, fun _ _ _ _ _ => trivial⟩
theorem _root_.L2.PG.imp {X : Cx} {e : Expr} {t t' : TG} (h : PG X e t) (k : ∀ v σ H Q, t' v σ H Q → t v σ H Q) : PG X e t' := ⟨fun pins s σ H v u Q I r q => h.run pins s σ H v u Q I r (k _ _ _ _ q)⟩
theorem _root_.L2.PGs.imp {X : Cx} {e : List Expr} {t t' : TGs} (h : PGs X e t) (k : ∀ v σ H Q, t' v σ H Q → t v σ H Q) : PGs X e t' := ⟨fun pins s σ H v u Q I r q => h.run pins s σ H v u Q I r (k _ _ _ _ q)⟩
def gV (i : Nat) : SG := fun d e S => if i < e.length then .nx (e.set i (some d)) S else .no
theorem REnv.set {K : Gb} {H : Hp} {ρ : List Addr} {e : Env} {σ : St} {i : Nat} {d : D} {v : V} (re : REnv K H ρ e σ) (rv : RV K H ρ d v) : REnv K H ρ (e.set i (some d)) (σ.set i (some v)) := by
  refine ⟨by simp [re.1], fun j d' h => ?_⟩
  by_cases hj : i = j
  · subst hj
    by_cases hl : i < e.length
    · rw [List.getElem?_set_self hl] at h
      cases h
      exact ⟨v, by rw [List.getElem?_set_self (by rw [← re.1]; exact hl)], rv⟩
    · rw [List.getElem?_eq_none (by simpa using hl)] at h
      cases h
  · rw [List.getElem?_set_ne hj] at h ⊢
    exact re.2 j d' h
theorem dgp_name {P : Rl} {i : Nat} {x : Str} (hP : ∀ σ v, P σ (σ.set i (some v))) (hN : X.N.Nodup) (hi : X.N[i]? = some x) (hx : Loc X.env.scope x) (hf : X.fn x = true ∨ X.env.scope.names.lookup x = some .local := by first | exact .inl rfl | exact .inr rfl | assumption) : DGp X W P (.Name x pos) (gV i) :=
  (pg_name hN hi hx hf).imp fun v σ H Q ⟨ρ, e, S, d, rs, re, rv, h⟩ => by
    unfold gV at h
    split at h
    · exact h ρ H _ (List.prefix_refl _) Evo.refl rs (re.set rv) (hP σ v)
    · exact h.elim
theorem dg_name {i : Nat} {x : Str} (hN : X.N.Nodup) (hi : X.N[i]? = some x) (hx : Loc X.env.scope x) (hf : X.fn x = true ∨ X.env.scope.names.lookup x = some .local := by first | exact .inl rfl | exact .inr rfl | assumption) : DG X W (.Name x pos) (gV i) :=
  dgp_name (fun _ _ => trivial) hN hi hx hf
def gsNil : List D → Env → Store → Os := fun ds e S => match ds with
  | [] => .nx e S
  | _ => .no
def gsCons (g : SG) (gs : List D → Env → Store → Os) : List D → Env → Store → Os := fun ds e S => match ds with
  | d :: r => (g d e S).then (gs r)
  | _ => .no
theorem dgs_nil {P : Rl} (hP : Pre P) : DGps X W P [] gsNil := pgs_nil.imp fun v σ H Q ⟨ρ, e, S, ds, rs, re, rv, h⟩ => by
  cases ds with
  | nil => simp only [RVs] at rv; exact ⟨rv, h ρ H σ (List.prefix_refl _) Evo.refl rs re (hP.refl σ)⟩
  | cons d r => exact h.elim
/-- the targets must come to nx alone -/
theorem dgs_cons {P : Rl} {t : Expr} {ts : List Expr} {g : SG} {gs : List D → Env → Store → Os} (hP : Pre P) (h1 : DGp X W P t g) (h2 : DGps X W P ts gs) (only : ∀ d e S, (∃ e' S', g d e S = .nx e' S') ∨ g d e S = .no)
    (hs : (assignEach (t :: ts) X.env).map (·.2) = assign t X.env :: (assignEach ts X.env).map (·.2) := by rfl) : DGps X W P (t :: ts) (gsCons g gs) :=
  (pgs_cons h1 h2 hs).imp fun v σ H Q ⟨ρ, e, S, ds, rs, re, rv, h⟩ => by
    cases ds with
    | nil => exact h.elim
    | cons d r =>
      simp only [RVs] at rv
      obtain ⟨w, vr, rfl, rw', rr⟩ := rv
      refine ⟨w, vr, rfl, ρ, e, S, d, rs, re, rw', ?_⟩
      have h' : ((g d e S).then (gs r)).sat X.gb W ρ H { nx := fun σ' H' => P σ σ' → Q σ' H', rt := fun _ _ => False } := h
      rcases only d e S with ⟨e', S', q⟩ | q
      · rw [q] at h' ⊢
        refine fun ρ' H' σ' p ev rs' re' hp1 => ⟨ρ', e', S', r, rs', re', rr.mono p ev, ?_⟩
        have h3 := Os.sat.left (show (gs r e' S').sat X.gb W ρ H { nx := fun σ' H' => P σ σ' → Q σ' H', rt := fun _ _ => False } from h') p ev
        cases qq : gs r e' S' with
        | nx e2 S2 => rw [qq] at h3; exact fun ρ2 H2 σ2 p2 ev2 rs2 re2 hp2 => h3 ρ2 H2 σ2 p2 ev2 rs2 re2 (hP.trans _ _ _ hp1 hp2)
        | rt d S2 => rw [qq] at h3; exact h3
        | bk e2 S2 => rw [qq] at h3; exact h3
        | ct e2 S2 => rw [qq] at h3; exact h3
        | er c fs e2 S2 => rw [qq] at h3; exact h3
        | no => rw [qq] at h3; exact h3
      · rw [q] at h' ⊢
        exact h'
/-- unpacking a tuple (a tree) -/
def gT (n : Nat) (gs : List D → Env → Store → Os) : SG := fun d e S => match d with
  | .tup xs => if xs.length = n then gs xs e S else .no
  | _ => .no
theorem dg_tup {P : Rl} {ts : List Expr} {k : Nat} {gs : List D → Env → Store → Os} {n : Nat} (hc : X.calm = true) (h : DGps X W P ts gs) (hn : (assignEach ts X.env).length = n := by rfl) (hst : (assignEach ts X.env).findIdx? (·.1) = none := by rfl) :
    DGp X W P (.Tuple ts k pos) (gT n gs) :=
  (pg_tup hc h hn hst).imp fun v σ H Q ⟨ρ, e, S, d, rs, re, rv, h⟩ => by
    cases d with
    | tup xs =>
      simp only [RV] at rv
      obtain ⟨a, vs, rfl, ht, hr⟩ := rv
      unfold gT at h
      dsimp only at h
      split at h
      · rename_i hl
        exact ⟨a, vs, rfl, SqT.of ht, by rw [← hr.length]; exact hl, ρ, e, S, xs, rs, re, hr, h⟩
      · exact h.elim
    | _ => exact h.elim
def sAsg (fa : SE) (g : SG) : SS := fun e S => (fa e S).toS e fun d S1 => g d e S1
theorem Os.sat.nxOnly {K : Gb} {ρ : List Addr} {H : Hp} {F F' : Ends} {m : Os} (h : m.sat K W ρ H F) (only : (∃ e' S', m = .nx e' S') ∨ m = .no) (he : ∀ σ H, F.nx σ H → F'.nx σ H) : m.sat K W ρ H F' := by
  rcases only with ⟨e', S', q⟩ | q
  · rw [q] at h ⊢
    exact fun ρ' H' σ' p ev rs re => he _ _ (h ρ' H' σ' p ev rs re)
  · rw [q] at h ⊢
    exact h
theorem ds_asg {tg : Expr} {g : SG} (he : DE X W e fa) (hg : DG X W tg g) (only : ∀ d e S, (∃ e' S', g d e S = .nx e' S') ∨ g d e S = .no) (hs : swapsWithSole [tg] e pos.line X.env = pure false := by rfl) (hw : swappedStores [tg] e X.env = pure none := by rfl)
    (h1 : (assignEach [tg] X.env).map (·.2) = [assign tg X.env] := by rfl) : DS X W (.Assign [tg] e pos) (sAsg fa g) :=
  (ps_asg he hg hs hw h1).imp fun F σ H ⟨ρ, e, S, rs, re, h⟩ => rd_st rs re h fun ρ1 H1 S1 d v p ev rs1 re1 rv h1 => ⟨ρ1, e, S1, d, rs1, re1, rv, Os.sat.nxOnly h1 (only d e S1) fun _ _ q _ => q⟩
theorem only_gV {i : Nat} : ∀ d e S, (∃ e' S', gV i d e S = .nx e' S') ∨ gV i d e S = .no := fun d e S => by
  unfold gV
  split
  · exact .inl ⟨_, _, rfl⟩
  · exact .inr rfl
theorem only_gsNil : ∀ d e S, (∃ e' S', gsNil d e S = .nx e' S') ∨ gsNil d e S = .no := fun d e S => by
  unfold gsNil
  split
  · exact .inl ⟨_, _, rfl⟩
  · exact .inr rfl
theorem only_gsCons {g : SG} {gs : List D → Env → Store → Os} (h1 : ∀ d e S, (∃ e' S', g d e S = .nx e' S') ∨ g d e S = .no) (h2 : ∀ d e S, (∃ e' S', gs d e S = .nx e' S') ∨ gs d e S = .no) :
    ∀ d e S, (∃ e' S', gsCons g gs d e S = .nx e' S') ∨ gsCons g gs d e S = .no := fun d e S => by
  unfold gsCons
  split
  · rename_i d r
    rcases h1 d e S with ⟨e', S', q⟩ | q
    · rw [q]; exact h2 r e' S'
    · rw [q]; exact .inr rfl
  · exact .inr rfl
theorem only_gT {n : Nat} {gs : List D → Env → Store → Os} (h2 : ∀ d e S, (∃ e' S', gs d e S = .nx e' S') ∨ gs d e S = .no) : ∀ d e S, (∃ e' S', gT n gs d e S = .nx e' S') ∨ gT n gs d e S = .no := fun d e S => by
  unfold gT
  split
  · split
    · exact h2 _ e S
    · exact .inr rfl
  · exact .inr rfl
def sSet (i : Nat) (fa : SE) : SS := sAsg fa (gV i)
theorem ds_set {i : Nat} {x : Str} {pos' : Pos} (hN : X.N.Nodup) (hi : X.N[i]? = some x) (hx : Loc X.env.scope x) (he : DE X W e fa) (hs : swapsWith e (some (.Name x pos')) pos.line X.env = pure false := by rfl) (hf : X.fn x = true ∨ X.env.scope.names.lookup x = some .local := by first | exact .inl rfl | exact .inr rfl | assumption) :
    DS X W (.Assign [.Name x pos'] e pos) (sSet i fa) :=
  (ps_set hN hi hx he hs hf).imp fun F σ H ⟨ρ, e, S, rs, re, h⟩ => rd_st rs re h fun ρ1 H1 S1 d v p ev rs1 re1 rv h1 => by
    unfold gV at h1
    split at h1
    · exact h1 ρ1 H1 _ (List.prefix_refl _) Evo.refl rs1 (re1.set rv)
    · exact h1.elim
/-- a, b = x, y -/
def sPar (i j : Nat) (fa : SA) : SS := fun e S => (fa e S).toS e fun ds S1 => match ds with
  | [x, y] => if i < e.length ∧ j < e.length then .nx ((e.set i (some x)).set j (some y)) S1 else .no
  | _ => .no
theorem ds_par {i j : Nat} {x y : Str} {a b : Expr} {fa : SA} {px py pt : Pos} {kt k2 pt2} (hc : X.calm = true) (hN : X.N.Nodup) (hi : X.N[i]? = some x) (hj : X.N[j]? = some y) (hij : i ≠ j)
    (hx : X.env.scope.names.lookup x = some .local) (hy : X.env.scope.names.lookup y = some .local) (ha : DA X W [a, b] fa)
    (hw : swappedStores [.Tuple [.Name x px, .Name y py] kt pt] (.Tuple [a, b] k2 pt2) X.env = pure (some [x, y]))
    (hs : swapsWithSole [.Tuple [.Name x px, .Name y py] kt pt] (.Tuple [a, b] k2 pt2) pos.line X.env = pure false := by rfl) :
    DS X W (.Assign [.Tuple [.Name x px, .Name y py] kt pt] (.Tuple [a, b] k2 pt2) pos) (sPar i j fa) :=
  (ps_par hc hN hi hj hij hx hy ha hw hs).imp fun F σ H ⟨ρ, e, S, rs, re, h⟩ => rd_stA rs re h fun ρ1 H1 S1 ds vs p ev rs1 re1 rv h1 => by
    split at h1
    · rename_i x y
      simp only [RVs] at rv
      obtain ⟨v, r, rfl, r1, w, r', rfl, r2, rfl⟩ := rv
      split at h1
      · exact ⟨v, w, rfl, h1 ρ1 H1 _ (List.prefix_refl _) Evo.refl rs1 ((re1.set r1).set r2)⟩
      · exact h1.elim
    · exact h1.elim
/-- o[i] = e -/
def sSub (gs : D → D → D → Store → Ou Unit) (fv fo fi : SE) : SS := fun e S => (fv e S).toS e fun v S1 => (fo e S1).toS e fun o S2 => (fi e S2).toS e fun i S3 => (gs o i v S3).toS e fun _ S4 => .nx e S4
def SetS (K : Gb) (r : TSet) (g : D → D → D → Store → Ou Unit) : Prop := ∀ (E : XK) (ρ : List Addr) (S : Store) (H : Hp) (o i v : D) (ov iv vv : V) (Q : Hp → Prop), RS K H ρ S → RV K H ρ o ov → RV K H ρ i iv → RV K H ρ v vv →
  (g o i v S).sat K E ρ H (fun _ H' _ _ => Q H') → r ov iv vv H Q
theorem ds_sub {o i : Expr} {fo fi fv : SE} {tpos : Pos} {t : TSet} {gs : D → D → D → Store → Ou Unit} (ho : DE X W o fo) (hi : DE X W i fi) (he : DE X W e fv) (hset : PSet X t) (hg : SetS X.gb t gs)
    (ha : ∀ v, assign (.Subscript o i tpos) X.env v = (do
      let ov ← holding [v] (eval o X.env)
      let iv ← holding [v, ov] (eval i X.env)
      standAt tpos
      holding [v, ov, iv] (setItem ov iv v)
      release [v, ov, iv] []) := by intro _; rfl)
    (hs : swapsWithSole [.Subscript o i tpos] e pos.line X.env = pure false := by rfl) (hw : swappedStores [.Subscript o i tpos] e X.env = pure none := by rfl)
    (h1 : (assignEach [.Subscript o i tpos] X.env).map (·.2) = [assign (.Subscript o i tpos) X.env] := by rfl) : DS X W (.Assign [.Subscript o i tpos] e pos) (sSub gs fv fo fi) :=
  (ps_asg he (pg_sub ho hi hset ha) hs hw h1).imp fun F σ H ⟨ρ, e, S, rs, re, h⟩ => rd_st rs re h fun ρ1 H1 S1 d v p1 ev1 rs1 re1 rv h1 =>
    rd_st rs1 re1 h1 fun ρ2 H2 S2 x ov p2 ev2 rs2 re2 ro h2 => rd_st rs2 re2 h2 fun ρ3 H3 S3 y iv p3 ev3 rs3 re3 ri h3 =>
      hg _ ρ3 S3 H3 x y d ov iv v _ rs3 (ro.mono p3 ev3) ri (rv.mono (p2.trans p3) (ev2.trans ev3)) ((Ou.sat.toS re3 h3).imp fun ρ4 H4 S4 _ p4 ev4 rs4 h4 => h4 ρ4 H4 σ (List.prefix_refl _) Evo.refl rs4 (re3.mono p4 ev4))
end

/-! ### defs -/
/-- a body's function, of arguments -/
def fnS (n : Nat) (f : SS) : List D → Store → Ou D := fun ds S => match f (ds.map some ++ List.replicate (n - ds.length) none) S with
  | .nx _ S' => .ok .non S'
  | .rt d S' => .ok d S'
  | .er c fs _ S' => .er c fs S'
  | _ => .no
/-- a def that is the function F -/
structure FnB (P : Program) (w : World) (K : PySem.W.Frag) (mg : Str → Option Value) (base : Heap) (k : Nat) (f : Addr) (fd : FuncData) (ps : List Str) (F : List D → Store → Ou D) : Prop where
  run : ∀ (A : Around) (outer : List PySem.Env) (s : Shared) (H : Hp) (args : Args) (us : List Value) (vs : List V) (ds : List D) (ρ : List Addr) (S : Store) (Q : VK) (E : XK), Room k A → A.guards = some [] → Env0 P w K mg base A outer s H →
    BindsTo s fd args (ps.zip us) → us.length = ps.length → Vals vs us → RS ⟨K, mg⟩ H ρ S → RVs ⟨K, mg⟩ H ρ ds vs → (F ds S).sat ⟨K, mg⟩ E ρ H (Q1 ⟨K, mg⟩ Q) → codeAny (model P w) A (.call (.ref f) args) (CR (L2.CX P w) outer P w H s Q E) s
theorem FnB.mono {P : Program} {w : World} {K : PySem.W.Frag} {mg : Str → Option Value} {base : Heap} {j k : Nat} {f : Addr} {fd : FuncData} {ps : List Str} {F : List D → Store → Ou D} (h : FnB P w K mg base j f fd ps F) (hk : j ≤ k) : FnB P w K mg base k f fd ps F :=
  ⟨fun A outer s H args us vs ds ρ S Q E hr => h.run A outer s H args us vs ds ρ S Q E (hr.mono hk)⟩
/-- the function may be told otherwise -/
theorem FnB.imp {P : Program} {w : World} {K : PySem.W.Frag} {mg : Str → Option Value} {base : Heap} {k : Nat} {f : Addr} {fd : FuncData} {ps : List Str} {F G : List D → Store → Ou D} (h : FnB P w K mg base k f fd ps F)
    (q : ∀ ds S E ρ H Q, (G ds S).sat ⟨K, mg⟩ E ρ H (Q1 ⟨K, mg⟩ Q) → (F ds S).sat ⟨K, mg⟩ E ρ H (Q1 ⟨K, mg⟩ Q)) : FnB P w K mg base k f fd ps G :=
  ⟨fun A outer s H args us vs ds ρ S Q E hr hg e0 hb hl rv rs rd hs => h.run A outer s H args us vs ds ρ S Q E hr hg e0 hb hl rv rs rd (q _ _ _ _ _ _ hs)⟩
theorem guards_deeper {A : Around} {env : PySem.Env} (h : A.guards = some []) : (A.deeper env).guards = some [] := h
theorem REnv.start {K : Gb} {H : Hp} {ρ : List Addr} {N : List Str} : ∀ {ds : List D} {vs : List V}, RVs K H ρ ds vs → REnv K H ρ (ds.map some ++ List.replicate (N.length - ds.length) none) (L2.start N vs) := by
  intro ds vs r
  have hl := r.length
  unfold L2.start
  rw [← hl]
  generalize N.length - ds.length = m
  refine ⟨by simp [hl], ?_⟩
  have key : ∀ {ds : List D} {vs : List V}, RVs K H ρ ds vs → ∀ (i : Nat) d, (ds.map some ++ List.replicate m none)[i]? = some (some d) → ∃ v, (vs.map some ++ List.replicate m none)[i]? = some (some v) ∧ RV K H ρ d v := by
    intro ds
    induction ds with
    | nil =>
      intro vs r i d h
      simp only [List.map_nil, List.nil_append, List.getElem?_replicate] at h
      split at h <;> cases h
    | cons x xs ih =>
      intro vs r i d h
      simp only [RVs] at r
      obtain ⟨v, r', rfl, r1, r2⟩ := r
      cases i with
      | zero =>
        simp at h
        subst h
        exact ⟨v, by simp, r1⟩
      | succ j =>
        simp only [List.map_cons, List.cons_append, List.getElem?_cons_succ] at h ⊢
        exact ih r2 j d h
  exact key r
/-- THE RULE for a def -/
theorem FnB.of {P : Program} {w : World} {K : PySem.W.Frag} {mg : Str → Option Value} {base : Heap} {x qual : Str} {st : Stmt} {f : Addr} {fd : FuncData} {N ps : List Str} {k : Nat} {g : SS} (T : Fun K x qual st f fd) (Sc : FnScope N ps (defScope st))
    (body : ∀ (cdv : Value) (A : Around) (outer : List PySem.Env) (s : Shared) (H : Hp) (E : XK), Room k (A.deeper (PyProof.Rows.envOfC qual (defScope st) s.heap.objs.size f cdv)) → A.guards = some [] →
      DSs (cxOf (L2.CX P w) P w K mg base N qual (defScope st) f cdv A outer s H E) (fun c dd _ H' => E c dd H') (defBody st) g) : FnB P w K mg base (k + 1) f fd ps (fnS N.length g) := by
  obtain ⟨oc, od, kV, doc, pm, an, cdv, ct, osl, rfl, lk, hcd⟩ := T.ex
  refine ⟨fun A outer s H args us vs ds ρ S Q E hr hgd e0 hb hlen r rs rd hsat => ?_⟩
  have hl : vs.length = ps.length := by rw [r.length]; exact hlen
  have old : ∀ b o, base.get? b = some o → s.heap.get? b = some o := fun b o e => (e0.bs b o e).1
  have KX : K.In s.heap := e0.mod.kin.keeps old
  have parts : ∀ y ∈ ps.zip us, (defScope st).names.lookup y.1 = some .local ∨ ((defScope st).names.lookup y.1 = some .cell ∧ ((cellsFrom (s.heap.objs.size + 1) (defScope st).names []).lookup y.1).isSome = true) := by
    rintro ⟨n, v⟩ hy
    have hn : n ∈ ps := (List.of_mem_zip hy).1
    exact (Sc.par n hn).imp id fun q => ⟨q, PySem.W.cellsFrom_some _ _ _ (.inl q)⟩
  refine codeAny_call_function hr.depth (KX _ _ lk) rfl Sc.co Sc.gen rfl (PySem.W.codeRec_of KX hcd) (hb _ _ _ _ ?_)
  refine wpAny_newFunctionEnv_cells Sc.kind parts fun env he s1 ic => ?_
  cases he
  refine ⟨(e0.mod.nolimit.keeps old).keeps ic.toInCall.keep, codeAny_func ?_⟩
  have I := inv_start (E := E) (CX := L2.CX P w) Sc hr.hd e0 hl r ic
  have ht := body cdv A outer s H E (hr.deeper _) hgd
  have hq : rdS ⟨K, mg⟩ (fun c dd _ H' => E c dd H') g { nx := fun _ H' => Q .non H', rt := Q } (L2.start N vs) H := by
    refine ⟨ρ, _, S, rs, REnv.start rd, ?_⟩
    unfold fnS at hsat
    split at hsat
    · rename_i e' S' q
      rw [q]
      exact fun ρ' H' σ' p ev rs' re' => hsat ρ' H' p ev rs' .non rfl
    · rename_i d S' q
      rw [q]
      exact fun ρ' H' v p ev rs' rv => hsat ρ' H' p ev rs' v rv
    · rename_i c fs e' S' q
      rw [q]
      exact fun ρ' H' σ' dd p ev rs' re' rx => hsat ρ' H' dd p ev rs' rx
    · exact hsat.elim
  refine wpAny_mono (ht.run [] s1 (L2.start N vs) H _ I hq) (fun fl s' hs => ?_) fun e s' hs => hs
  cases fl with
  | ret u =>
    obtain ⟨v, σ', H', J, rv, q⟩ := hs
    exact ⟨v, H', J.os, J.bare, J.base, J.hok, rv, q⟩
  | next =>
    obtain ⟨σ', H', J, q⟩ := hs
    exact ⟨V.non, H', J.os, J.bare, J.base, J.hok, rfl, q⟩
  | brk =>
    obtain ⟨_, _, _, q⟩ := hs
    exact q.elim
  | cont =>
    obtain ⟨_, _, _, q⟩ := hs
    exact q.elim

/-! ### calls -/
/-- what a body knows of where it stands -/
structure Bd (X : Cx) (W : WX) (k : Nat) : Prop where
  tk : Takes X W
  room : Room k X.A
  gd : X.A.guards = some []
/-- a def known by its name, its defaults filled up by dvs -/
structure Kn (X : Cx) (k : Nat) (x : Str) (n : Nat) (dvs : List D) (F : List D → Store → Ou D) : Prop where
  ex : ∃ (f : Addr) (fd : FuncData) (ps : List Str) (vs : List V) (us : List Value), FnB X.prog X.w X.K X.mg X.base k f fd ps F ∧ X.mg x = some (.ref f) ∧ PySem.W.keepIn X.K (.ref f) = true ∧ Binds X.K fd ps us ∧ Vals vs us ∧ (∀ H ρ, RVs X.gb H ρ dvs vs) ∧ ps.length = n + us.length
theorem RVs.append {K : Gb} {H : Hp} {ρ : List Addr} : ∀ {ds es : List D} {vs ws : List V}, RVs K H ρ ds vs → RVs K H ρ es ws → RVs K H ρ (ds ++ es) (vs ++ ws)
  | [], _, _, _, h, h' => by simp only [RVs] at h; subst h; exact h'
  | d :: ds, _, _, _, h, h' => by
    simp only [RVs, List.cons_append] at h ⊢
    obtain ⟨v, r, rfl, r1, r2⟩ := h
    exact ⟨v, _, rfl, r1, RVs.append r2 h'⟩
def callF (n : Nat) (dvs : List D) (F : List D → Store → Ou D) : List D → Store → Ou D := fun ds S => if ds.length = n then F (ds ++ dvs) S else .no
theorem run_B {X : Cx} {W : WX} {j k n : Nat} {x : Str} {dvs : List D} {F : List D → Store → Ou D} {f : Addr} {fd : FuncData} {ps : List Str} {ws : List V} {zs : List Value} (Bx : Bd X W k) (hk : j ≤ k) (FB : FnB X.prog X.w X.K X.mg X.base j f fd ps F)
    (hb : Binds X.K fd ps zs) (hd : Vals ws zs) (hdd : ∀ H ρ, RVs X.gb H ρ dvs ws) (hps : ps.length = n + zs.length) {pins : List (Addr × Obj)} {σ : St} {H : Hp} {s : Shared} {Q : VK} {us : List Value} {vs : List V} {ds : List D} {ρ : List Addr} {S : Store}
    (I : Inv X pins σ H s) (r : Vals vs us) (rs : RS X.gb H ρ S) (rd : RVs X.gb H ρ ds vs) (h : (callF n dvs F ds S).sat X.gb (fun c dd H' => W c dd σ H') ρ H (Q1 X.gb Q)) : wpAny (model X.prog X.w) X.A (call (.ref f) us) (EP X pins σ Q) X.xe s := by
  unfold callF at h
  split at h
  · rename_i hn
    have hl : (us ++ zs).length = ps.length := by rw [List.length_append, ← r.length, ← rd.length, hn, hps]
    refine wpAny_call (codeAny_mono (FB.run X.A X.stack s H ⟨us, []⟩ (us ++ zs) (vs ++ ws) (ds ++ dvs) ρ S Q _ (Bx.room.mono hk) Bx.gd I.env0 (hb s us I.kIn hl) hl (r.append hd) rs (rd.append (hdd H ρ)) h) fun res s' hq => ?_)
    cases res with
    | error e => exact passAt Bx.tk σ pins H s e s' I hq
    | ok fl =>
      cases fl with
      | ret u => exact I.after hq
      | next => exact hq.elim
      | brk => exact hq.elim
      | cont => exact hq.elim
  · exact h.elim
section
variable {X : Cx} {W : WX} {e : Expr} {es : List Expr} {pos p : Pos} {fr : SA} {j k n : Nat} {x : Str} {dvs : List D} {F : List D → Store → Ou D}
theorem de_call (Bx : Bd X W k) (Kx : Kn X j x n dvs F) (hk : j ≤ k) (ha : DA X W (e :: es) fr) (gl : Gl X x) (hdb : (x == ("__debug__" : Str)) = false := by decide)
    (he : starEach (e :: es) X.env = (false, eval e X.env) :: starEach es X.env := by rfl) (hpl : (backTo pos (starEach es X.env)).any (·.1) = false := by rfl) : DE X W (.Call (.Name x p) (e :: es) [] pos) (eN (callF n dvs F) fr) := by
  obtain ⟨f, fd, ps, ws, zs, FB, hm, hkp, hb, hd, hdd, hps⟩ := Kx.ex
  refine ⟨fun pins s σ H Q I h => ?_⟩
  obtain ⟨ρ, e', S, rs, re, h⟩ := h
  have ha' : rdA X.gb W fr σ H fun vs H1 => ∃ ρ1 ds S1, RS X.gb H1 ρ1 S1 ∧ RVs X.gb H1 ρ1 ds vs ∧ (callF n dvs F ds S1).sat X.gb (fun c dd H' => W c dd σ H') ρ1 H1 (Q1 X.gb Q) :=
    rd_args rs re h fun ρ1 H1 S1 d v p1 ev1 rs1 re1 rv h1 => ⟨ρ1, d, S1, rs1, rv, h1⟩
  refine wpAny_Call_Name_kw (ld_glob I gl hm ?_ hdb)
  refine PySem.W.callWith_K (h₀ := X.base) I.ok.mod.kin hkp (thn (ha.run pos pins s σ H _ I ha') fun us s1 ⟨vs, H1, I1, r, q⟩ => ⟨I1.kIn, ?_⟩) he hpl
  obtain ⟨ρ1, ds, S1, rs1, rd, h1⟩ := q
  exact run_B (x := x) Bx hk FB hb hd hdd hps I1 r rs1 rd h1
theorem de_call0 (Bx : Bd X W k) (Kx : Kn X j x n dvs F) (hk : j ≤ k) (gl : Gl X x) (hdb : (x == ("__debug__" : Str)) = false := by decide) : DE X W (.Call (.Name x p) [] [] pos) (fun _ S => callF n dvs F [] S) := by
  obtain ⟨f, fd, ps, ws, zs, FB, hm, hkp, hb, hd, hdd, hps⟩ := Kx.ex
  refine ⟨fun pins s σ H Q I h => ?_⟩
  obtain ⟨ρ, e', S, rs, re, h⟩ := h
  refine wpAny_Call_Name_kw (ld_glob I gl hm ?_ hdb)
  exact PySem.W.callWith_K0 I.kIn hkp (run_B (x := x) (us := []) (vs := []) (ds := []) Bx hk FB hb hd hdd hps I .nil rs (by simp only [RVs]) h)
end
end B

set_option Elab.async false
set_option linter.all false
set_option maxRecDepth 100000
set_option maxHeartbeats 1000000
/-! BData: what a value reads as; repr of it; comparisons of data. -/
namespace B
open PySem L2

/-! ### reading, the dicts apart from the modules' dict -/
mutual
inductive Rb (h : Heap) : Value → PyData → Prop
  | none : Rb h .none .none
  | bool (b) : Rb h (.bool b) (.bool b)
  | int (i t) : Rb h (.int i t) (.int i)
  | str (x t) : Rb h (.str x t) (.str x)
  | list {a o vs n xs} : h.get? a = some o → o.cls = .type "list" → o.data = .seq vs n → Rbs h vs.toList xs → Rb h (.ref a) (.list xs)
  | tuple {a o vs n xs} : h.get? a = some o → o.cls = .type "tuple" → o.data = .seq vs n → Rbs h vs.toList xs → Rb h (.ref a) (.tuple xs)
  | dict {a o es n kvs} : (a == sysModules) = false → h.get? a = some o → o.cls = .type "dict" → o.data = .dict es n → Rbs h (es.toList.map (·.key)) (kvs.map (·.1)) → Rbs h (es.toList.map (·.val)) (kvs.map (·.2)) → Rb h (.ref a) (.dict kvs)
inductive Rbs (h : Heap) : List Value → List PyData → Prop
  | nil : Rbs h [] []
  | cons {v vs d ds} : Rb h v d → Rbs h vs ds → Rbs h (v :: vs) (d :: ds)
end
mutual
theorem Rb.reads {h : Heap} : ∀ {v : Value} {d : PyData}, Rb h v d → ∃ as, Reads h v d as
  | _, _, .none => ⟨_, .none⟩
  | _, _, .bool b => ⟨_, .bool b⟩
  | _, _, .int i t => ⟨_, .int i t⟩
  | _, _, .str x t => ⟨_, .str x t⟩
  | _, _, .list h1 h2 h3 h4 => let ⟨_, r⟩ := Rbs.reads h4; ⟨_, .list h1 h2 h3 r⟩
  | _, _, .tuple h1 h2 h3 h4 => let ⟨_, r⟩ := Rbs.reads h4; ⟨_, .tuple h1 h2 h3 r⟩
  | _, _, .dict _ h1 h2 h3 h4 h5 => let ⟨_, r⟩ := Rbs.reads h4; let ⟨_, q⟩ := Rbs.reads h5; ⟨_, .dict h1 h2 h3 r q⟩
theorem Rbs.reads {h : Heap} : ∀ {v : List Value} {d : List PyData}, Rbs h v d → ∃ as, ReadsAll h v d as
  | _, _, .nil => ⟨_, .nil⟩
  | _, _, .cons a b => let ⟨_, r⟩ := Rb.reads a; let ⟨_, q⟩ := Rbs.reads b; ⟨_, .cons r q⟩
end
section
variable {prog : Program} {w : World} {h₀ : Heap}
mutual
theorem Rb.reprK : ∀ {v : Value} {d : PyData}, Rb h₀ v d → d.showable = true → d.shown.length ≤ sizeLine → ∃ bs, ReadAtMost h₀ d.depth bs ∧ ReprK prog w bs h₀ d.depth v d.shown
  | _, _, .none, _, _ => ⟨[], nofun, by rw [PyData.shown]; exact .of_is ReprIs.none _ _ _⟩
  | _, _, .bool b, _, _ => ⟨[], nofun, by rw [PyData.shown]; exact .of_is (ReprIs.bool b) _ _ _⟩
  | _, _, .int i t, hs, _ => ⟨[], nofun, by rw [PyData.shown]; exact .of_is (ReprIs.int t (by simpa [PyData.showable] using hs)) _ _ _⟩
  | _, _, .str x t, _, hz => ⟨[], nofun, by rw [PyData.shown] at hz ⊢; exact .of_is (ReprIs.str x t hz) _ _ _⟩
  | _, _, .list (a := a) (vs := vs) (xs := xs) g1 g2 g3 g4, hs, hz => by
    rw [PyData.shown] at hz
    obtain ⟨bs, hb, hk⟩ := Rbs.reprK g4 (by simpa [PyData.showable] using hs) fun t ht => Nat.le_trans (listText_mem_le ht) hz
    obtain ⟨as, rr⟩ := Rb.reads (.list g1 g2 g3 g4)
    have away : a ∉ bs := not_mem_of_deeper rr (by rw [PyData.depth]; exact Nat.lt_succ_self _) hb
    refine ⟨a :: bs, ReadAtMost.cons rr (by rw [PyData.depth]; exact Nat.le_succ _) hb, ?_⟩
    rw [PyData.depth, PyData.shown]
    obtain ⟨l⟩ := vs
    cases l with
    | nil =>
      cases (show Rbs h₀ [] xs from g4)
      exact ReprK.listEmpty g1 g2 g3
    | cons x l => exact ReprK.list g1 g2 g3 away (by simpa using hk.length_eq) fun i y e => hk.item i y (by simpa using e)
  | _, _, .tuple (a := a) (xs := xs) g1 g2 g3 g4, hs, hz => by
    rw [PyData.shown] at hz
    obtain ⟨bs, hb, hk⟩ := Rbs.reprK g4 (by simpa [PyData.showable] using hs) fun t ht => Nat.le_trans (tupleText_mem_le ht) hz
    obtain ⟨as, rr⟩ := Rb.reads (.tuple g1 g2 g3 g4)
    have away : a ∉ bs := not_mem_of_deeper rr (by rw [PyData.depth]; exact Nat.lt_succ_self _) hb
    refine ⟨a :: bs, ReadAtMost.cons rr (by rw [PyData.depth]; exact Nat.le_succ _) hb, ?_⟩
    rw [PyData.depth, PyData.shown]
    exact ReprK.tuple g1 g2 g3 away hk
  | _, _, .dict (a := a) (es := es) (kvs := kvs) gs g1 g2 g3 g4 g5, hs, hz => by
    rw [PyData.shown] at hz
    obtain ⟨s1, s2⟩ := PyData.showableKv_split kvs (by simpa [PyData.showable] using hs)
    obtain ⟨b1, q1, k1⟩ := Rbs.reprK g4 s1 fun t ht => let ⟨p, hp, hl⟩ := PyData.shownKv_key_le kvs t ht; Nat.le_trans hl (Nat.le_trans (dictText_mem_le hp) hz)
    obtain ⟨b2, q2, k2⟩ := Rbs.reprK g5 s2 fun t ht => let ⟨p, hp, hl⟩ := PyData.shownKv_val_le kvs t ht; Nat.le_trans hl (Nat.le_trans (dictText_mem_le hp) hz)
    obtain ⟨as, rr⟩ := Rb.reads (.dict gs g1 g2 g3 g4 g5)
    have both : ReadAtMost h₀ (PyData.depthKv kvs) (b1 ++ b2) := (q1.mono (PyData.depthAll_keys_le kvs)).append (q2.mono (PyData.depthAll_vals_le kvs))
    have away : a ∉ b1 ++ b2 := not_mem_of_deeper rr (by rw [PyData.depth]; exact Nat.lt_succ_self _) both
    refine ⟨a :: (b1 ++ b2), ReadAtMost.cons rr (by rw [PyData.depth]; exact Nat.le_succ _) both, ?_⟩
    rw [PyData.depth, PyData.shown, PyData.shownKv_eq]
    exact ReprK.dict g1 g2 g3 gs away (ReprEntriesK.of_two es.toList _ _ (k1.more_le (fun b hb => List.mem_append_left _ hb) (PyData.depthAll_keys_le kvs)) (k2.more_le (fun b hb => List.mem_append_right _ hb) (PyData.depthAll_vals_le kvs)))
theorem Rbs.reprK : ∀ {vs : List Value} {ds : List PyData}, Rbs h₀ vs ds → PyData.showableAll ds = true → (∀ t ∈ PyData.shownAll ds, t.length ≤ sizeLine) → ∃ bs, ReadAtMost h₀ (PyData.depthAll ds) bs ∧ ReprAllK prog w bs h₀ (PyData.depthAll ds) vs (PyData.shownAll ds)
  | _, _, .nil, _, _ => ⟨[], nofun, by rw [PyData.shownAll]; exact .nil⟩
  | _, _, .cons (d := d) (ds := ds) r q, hs, hz => by
    rw [PyData.showableAll, Bool.and_eq_true] at hs
    rw [PyData.shownAll] at hz
    obtain ⟨b1, q1, k1⟩ := Rb.reprK r hs.1 (hz _ List.mem_cons_self)
    obtain ⟨b2, q2, k2⟩ := Rbs.reprK q hs.2 fun t ht => hz t (List.mem_cons_of_mem _ ht)
    refine ⟨b1 ++ b2, ?_, ?_⟩
    · rw [PyData.depthAll]
      exact (q1.mono (Nat.le_max_left _ _)).append (q2.mono (Nat.le_max_right _ _))
    · rw [PyData.depthAll, PyData.shownAll]
      exact .cons ((k1.more fun b hb => List.mem_append_left _ hb).level_le (Nat.le_max_left _ _)) (k2.more_le (fun b hb => List.mem_append_right _ hb) (Nat.le_max_right _ _))
end
/-- repr(v) -/
theorem repr_rb {A : Around} {E : Value → Shared → Prop} {s : Shared} {Q : Value → Shared → Prop} {v : Value} {d : PyData} (r : Rb s.heap v d) (hs : d.showable = true) (hz : d.shown.length ≤ sizeLine) (hg : A.guards = some []) (hu : A.units + (d.depth + 1) < cLine)
    (hQ : ∀ h' u tk, (∀ b o, s.heap.get? b = some o → h'.get? b = some o) → Q (.str d.shown u) { s with heap := h', toks := tk }) : wpAny (model prog w) A (call (.builtin "repr") [v]) Q E s := by
  have hg1 : A.in1.guards = some [] := hg
  have clr : ∀ (l : List Addr), ∀ b ∈ l, Clear [] b := fun l b _ => Clear.nil b
  cases r with
  | none => rw [PyData.shown] at hQ; exact P.repr_of_none (hQ s.heap _ _ fun _ _ e => e)
  | bool b => rw [PyData.shown] at hQ; exact P.repr_of_bool (hQ s.heap _ _ fun _ _ e => e)
  | int i t => rw [PyData.shown] at hQ; exact P.repr_of_int (by simpa [PyData.showable] using hs) (hQ s.heap _ _ fun _ _ e => e)
  | str x t => rw [PyData.shown] at hQ hz; exact P.repr_of_str (hQ s.heap _ _ fun _ _ e => e) hz
  | @list a o vs n xs g1 g2 g3 g4 =>
    rw [PyData.shown] at hz hQ
    rw [PyData.depth] at hu
    obtain ⟨bs, hb, hk⟩ := Rbs.reprK (prog := prog) (w := w) g4 (by simpa [PyData.showable] using hs) fun t ht => Nat.le_trans (listText_mem_le ht) hz
    obtain ⟨as, rr⟩ := Rb.reads (.list g1 g2 g3 g4)
    have away : a ∉ bs := not_mem_of_deeper rr (by rw [PyData.depth]; exact Nat.lt_succ_self _) hb
    refine call_repr_slot (by omega) ⟨o, g1, g2⟩ F.slot_list_repr.toG ?_
    obtain ⟨l⟩ := vs
    cases l with
    | nil =>
      cases (show Rbs s.heap [] xs from g4)
      exact call_list_repr_empty ⟨o, g1, g2⟩ g1 g3 ⟨_, _, rfl, hQ s.heap _ _ fun _ _ e => e⟩
    | cons x l =>
      exact call_list_reprK g1 g2 g3 away (by simpa using hk.length_eq) (fun i y e => hk.item i y (by simpa using e)) hg1 (clr _) (by show A.units + 1 + (_ + 1) < cLine; omega) (fun _ _ e => e) (fun h' u tk k => ⟨_, _, rfl, hQ h' u tk k⟩) hz
  | @tuple a o vs n xs g1 g2 g3 g4 =>
    rw [PyData.shown] at hz hQ
    rw [PyData.depth] at hu
    obtain ⟨bs, hb, hk⟩ := Rbs.reprK (prog := prog) (w := w) g4 (by simpa [PyData.showable] using hs) fun t ht => Nat.le_trans (tupleText_mem_le ht) hz
    obtain ⟨as, rr⟩ := Rb.reads (.tuple g1 g2 g3 g4)
    have away : a ∉ bs := not_mem_of_deeper rr (by rw [PyData.depth]; exact Nat.lt_succ_self _) hb
    refine call_repr_slot (by omega) ⟨o, g1, g2⟩ F.slot_tuple_repr ?_
    exact call_tuple_reprK g1 g2 g3 away hk hg1 (clr _) (by show A.units + 1 + (_ + 1) < cLine; omega) (fun _ _ e => e) (fun h' u tk k => ⟨_, _, rfl, hQ h' u tk k⟩) hz
  | @dict a o es n kvs gs g1 g2 g3 g4 g5 =>
    rw [PyData.shown] at hz
    rw [PyData.shown, PyData.shownKv_eq] at hQ
    rw [PyData.depth] at hu
    obtain ⟨s1, s2⟩ := PyData.showableKv_split kvs (by simpa [PyData.showable] using hs)
    obtain ⟨b1, q1, k1⟩ := Rbs.reprK (prog := prog) (w := w) g4 s1 fun t ht => let ⟨p, hp, hl⟩ := PyData.shownKv_key_le kvs t ht; Nat.le_trans hl (Nat.le_trans (dictText_mem_le hp) hz)
    obtain ⟨b2, q2, k2⟩ := Rbs.reprK (prog := prog) (w := w) g5 s2 fun t ht => let ⟨p, hp, hl⟩ := PyData.shownKv_val_le kvs t ht; Nat.le_trans hl (Nat.le_trans (dictText_mem_le hp) hz)
    obtain ⟨as, rr⟩ := Rb.reads (.dict gs g1 g2 g3 g4 g5)
    have both : ReadAtMost s.heap (PyData.depthKv kvs) (b1 ++ b2) := (q1.mono (PyData.depthAll_keys_le kvs)).append (q2.mono (PyData.depthAll_vals_le kvs))
    have away : a ∉ b1 ++ b2 := not_mem_of_deeper rr (by rw [PyData.depth]; exact Nat.lt_succ_self _) both
    rw [PyData.shownKv_eq] at hz
    refine call_repr_slot (by omega) ⟨o, g1, g2⟩ F.slot_dict_repr ?_
    exact call_dict_reprK g1 g2 g3 gs away (ReprEntriesK.of_two es.toList _ _ (k1.more_le (fun b hb => List.mem_append_left _ hb) (PyData.depthAll_keys_le kvs)) (k2.more_le (fun b hb => List.mem_append_right _ hb) (PyData.depthAll_vals_le kvs))) hg1 (clr _)
      (by show A.units + 1 + (_ + 1) < cLine; omega) (fun _ _ e => e) (fun h' u tk k => ⟨_, _, rfl, hQ h' u tk k⟩) hz
end

/-! ### what a value of ours reads as -/
def toPs (f : D → Option PyData) : List D → Option (List PyData)
  | [] => some []
  | x :: xs => match f x, toPs f xs with
    | some p, some ps => some (p :: ps)
    | _, _ => none
def keyP : Key → PyData
  | .inl i => .int i
  | .inr x => .str x
def toP : Nat → Store → D → Option PyData
  | 0, _, _ => none
  | n + 1, S, d => match d with
    | .non => some .none
    | .bl b => some (.bool b)
    | .int i => some (.int i)
    | .str x => some (.str x)
    | .tup xs => (toPs (toP n S) xs).map .tuple
    | .loc m => match S[m]? with
      | some (.lst xs) => (toPs (toP n S) xs).map .list
      | some (.rol xs) => (toPs (toP n S) xs).map .list
      | some (.dK kvs) => (toPs (toP n S) (kvs.map (·.2))).map fun ps => .dict ((kvs.map fun kv => keyP kv.1).zip ps)
      | some (.dT kvs) => if 0 < n then (toPs (toP n S) (kvs.map (·.2))).map fun ps => .dict ((kvs.map fun kv => .tuple (kv.1.map keyP)).zip ps) else none
      | _ => none
    | _ => none
theorem toPs_length {f : D → Option PyData} : ∀ {xs : List D} {ps : List PyData}, toPs f xs = some ps → xs.length = ps.length
  | [], _, h => by cases h; rfl
  | x :: xs, ps, h => by
    unfold toPs at h
    cases e1 : f x with
    | none => rw [e1] at h; cases h
    | some p =>
      cases e2 : toPs f xs with
      | none => rw [e1, e2] at h; cases h
      | some qs =>
        rw [e1, e2] at h
        cases h
        simp [toPs_length e2]
theorem toPs_cons {f : D → Option PyData} {x : D} {xs : List D} {ps : List PyData} (h : toPs f (x :: xs) = some ps) : ∃ p qs, f x = some p ∧ toPs f xs = some qs ∧ ps = p :: qs := by
  unfold toPs at h
  cases e1 : f x with
  | none => rw [e1] at h; cases h
  | some p =>
    cases e2 : toPs f xs with
    | none => rw [e1, e2] at h; cases h
    | some qs =>
      rw [e1, e2] at h
      cases h
      exact ⟨p, qs, rfl, rfl, rfl⟩
theorem depthAll_le {n : Nat} {f : D → Option PyData} (hf : ∀ d p, f d = some p → p.depth ≤ n) : ∀ {xs : List D} {ps : List PyData}, toPs f xs = some ps → PyData.depthAll ps ≤ n
  | [], _, h => by cases h; exact Nat.zero_le _
  | x :: xs, ps, h => by
    obtain ⟨p, qs, e1, e2, rfl⟩ := toPs_cons h
    rw [PyData.depthAll]
    exact Nat.max_le.mpr ⟨hf _ _ e1, depthAll_le hf e2⟩
theorem depth_keyP (k : Key) : (keyP k).depth = 0 := by cases k <;> rfl
theorem depthAll_keyP : ∀ ks : List Key, PyData.depthAll (ks.map keyP) = 0
  | [] => rfl
  | k :: ks => by rw [List.map_cons, PyData.depthAll, depth_keyP, depthAll_keyP ks]; rfl
theorem depthKv_le {n : Nat} : ∀ {ks : List PyData} {vs : List PyData}, (∀ k ∈ ks, k.depth ≤ n) → PyData.depthAll vs ≤ n → PyData.depthKv (ks.zip vs) ≤ n
  | [], _, _, _ => by simp [PyData.depthKv]
  | _ :: _, [], _, _ => by simp [PyData.depthKv]
  | k :: ks, v :: vs, h1, h2 => by
    rw [PyData.depthAll] at h2
    rw [List.zip_cons_cons, PyData.depthKv]
    have a := h1 k List.mem_cons_self
    have b := depthKv_le (ks := ks) (vs := vs) (fun k hk => h1 k (List.mem_cons_of_mem _ hk)) (Nat.le_trans (Nat.le_max_right _ _) h2)
    have c := Nat.le_trans (Nat.le_max_left _ _) h2
    exact Nat.max_le.mpr ⟨Nat.max_le.mpr ⟨a, c⟩, b⟩
theorem toP_depth : ∀ {n : Nat} {S : Store} {d : D} {p : PyData}, toP n S d = some p → p.depth ≤ n
  | 0, _, _, _, h => by cases h
  | n + 1, S, d, p, h => by
    have ih : ∀ d p, toP n S d = some p → p.depth ≤ n := fun d p e => toP_depth e
    unfold toP at h
    have one : ∀ {xs : List D} {F : List PyData → PyData}, (∀ ps, (F ps).depth = PyData.depthAll ps + 1) → (toPs (toP n S) xs).map F = some p → p.depth ≤ n + 1 := fun {xs F} hF e => by
      cases q : toPs (toP n S) xs with
      | none => rw [q] at e; cases e
      | some ps =>
        rw [q] at e
        cases e
        rw [hF]
        exact Nat.succ_le_succ (depthAll_le ih q)
    have two : ∀ {xs : List D} {ks : List PyData}, (∀ k ∈ ks, k.depth ≤ n) → ((toPs (toP n S) xs).map fun ps => PyData.dict (ks.zip ps)) = some p → p.depth ≤ n + 1 := fun {xs ks} hk e => by
      cases q : toPs (toP n S) xs with
      | none => rw [q] at e; cases e
      | some ps =>
        rw [q] at e
        cases e
        rw [PyData.depth]
        exact Nat.succ_le_succ (depthKv_le hk (depthAll_le ih q))
    split at h
    · cases h; exact Nat.zero_le _
    · cases h; exact Nat.zero_le _
    · cases h; exact Nat.zero_le _
    · cases h; exact Nat.zero_le _
    · exact one (fun ps => by rw [PyData.depth]) h
    · split at h
      · exact one (fun ps => by rw [PyData.depth]) h
      · exact one (fun ps => by rw [PyData.depth]) h
      · exact two (fun k hk => by obtain ⟨kv, _, rfl⟩ := List.mem_map.mp hk; rw [depth_keyP]; exact Nat.zero_le _) h
      · split at h
        · rename_i hn
          exact two (fun k hk => by obtain ⟨kv, _, rfl⟩ := List.mem_map.mp hk; rw [PyData.depth, depthAll_keyP]; exact hn) h
        · cases h
      · cases h
    · cases h

section
variable {X : Cx} {pins : List (Addr × Obj)} {σ : St} {H : Hp} {s : Shared} {ρ : List Addr} {S : Store}
theorem rbs_of {f : D → Option PyData} (hf : ∀ d p v u, f d = some p → RV X.gb H ρ d v → RelV v u → Rb s.heap u p) : ∀ {xs : List D} {ps : List PyData} {vs : List V} {us : List Value}, toPs f xs = some ps → RVs X.gb H ρ xs vs → Vals vs us → Rbs s.heap us ps
  | [], _, _, _, h, r, q => by
    cases h
    simp only [RVs] at r
    subst r
    cases q
    exact .nil
  | x :: xs, _, _, _, h, r, q => by
    obtain ⟨p, qs, e1, e2, rfl⟩ := toPs_cons h
    simp only [RVs] at r
    obtain ⟨v, r', rfl, r1, r2⟩ := r
    cases q with
    | cons q1 q2 => exact .cons (hf x p v _ e1 r1 q1) (rbs_of hf e2 r2 q2)
theorem keyP_rb {h : Heap} {k : Key} {v : Value} (e : keyIs k v = true) : Rb h v (keyP k) := by
  rcases keyIs_shape e with ⟨i, t, rfl, rfl⟩ | ⟨x, t, rfl, rfl⟩
  · exact .int i t
  · exact .str x t
theorem kV_rb {h : Heap} {k : Key} {u : Value} (r : RelV (kV k) u) : Rb h u (keyP k) := by
  cases k with
  | inl i => obtain ⟨t, rfl⟩ := r; exact .int i t
  | inr x => obtain ⟨t, rfl⟩ := r; exact .str x t
theorem kVs_rb {h : Heap} : ∀ {ks : List Key} {us : List Value}, Vals (ks.map kV) us → Rbs h us (ks.map keyP)
  | [], _, r => by cases r; exact .nil
  | k :: ks, _, r => by
    cases r with
    | cons a b => exact .cons (kV_rb a) (kVs_rb b)
theorem zip_fst {α β : Type} : ∀ {l : List α} {m : List β}, l.length = m.length → (l.zip m).map (·.1) = l
  | [], [], _ => rfl
  | [], _ :: _, h => by cases h
  | _ :: _, [], h => by cases h
  | a :: l, b :: m, h => by simp [zip_fst (l := l) (m := m) (by simpa using h)]
theorem zip_snd {α β : Type} : ∀ {l : List α} {m : List β}, l.length = m.length → (l.zip m).map (·.2) = m
  | [], [], _ => rfl
  | [], _ :: _, h => by cases h
  | _ :: _, [], h => by cases h
  | a :: l, b :: m, h => by simp [zip_snd (l := l) (m := m) (by simpa using h)]
theorem RKs.vals {κ : Type} {K : Gb} : ∀ {ks : List (κ × D)} {ws : List (κ × V)}, RKs K H ρ ks ws → ws.map (·.1) = ks.map (·.1) ∧ RVs K H ρ (ks.map (·.2)) (ws.map (·.2))
  | [], _, h => by
    simp only [RKs] at h
    subst h
    exact ⟨rfl, by simp only [List.map_nil, RVs]⟩
  | (k, d) :: r, _, h => by
    obtain ⟨v, s', rfl, h1, h2⟩ := h
    obtain ⟨e, q⟩ := RKs.vals h2
    refine ⟨by simp [e], ?_⟩
    simp only [List.map_cons, RVs]
    exact ⟨v, _, rfl, h1, q⟩
theorem rb_of (I : Inv X pins σ H s) (rs : RS X.gb H ρ S) : ∀ (n : Nat) (d : D) (p : PyData) (v : V) (u : Value), toP n S d = some p → RV X.gb H ρ d v → RelV v u → Rb s.heap u p
  | 0, _, _, _, _, h, _, _ => by cases h
  | n + 1, d, p, v, u, h, r, q => by
    have ih := rb_of I rs n
    unfold toP at h
    split at h
    · cases h; simp only [RV] at r; subst r; cases q; exact .none
    · cases h; simp only [RV] at r; subst r; cases q; exact .bool _
    · cases h; simp only [RV] at r; subst r; obtain ⟨t, rfl⟩ := q; exact .int _ t
    · cases h; simp only [RV] at r; subst r; obtain ⟨t, rfl⟩ := q; exact .str _ t
    · rename_i xs
      simp only [RV] at r
      obtain ⟨a, vs, rfl, ht, hr⟩ := r
      cases q
      cases e : toPs (toP n S) xs with
      | none => rw [e] at h; cases h
      | some ps =>
        rw [e] at h
        cases h
        obtain ⟨its, rv, ⟨o, ho, hc, m, hd⟩, _⟩ := I.tuple (SqT.of ht)
        exact .tuple ho hc hd (rbs_of ih e hr (by simpa using rv))
    · rename_i m
      simp only [RV] at r
      obtain ⟨a, hm, rfl⟩ := r
      cases q
      have listy : ∀ {xs : List D} {vs : List V}, SqL X.K H a vs → RVs X.gb H ρ xs vs → (toPs (toP n S) xs).map PyData.list = some p → Rb s.heap (.ref a) p := fun {xs vs} hs hr e => by
        cases e' : toPs (toP n S) xs with
        | none => rw [e'] at e; cases e
        | some ps =>
          rw [e'] at e
          cases e
          obtain ⟨its, rv, ⟨o, k, ho, hc, _, hd⟩, _⟩ := I.list hs
          exact .list ho hc hd (rbs_of ih e' hr (by simpa using rv))
      split at h
      · rename_i xs hc
        obtain ⟨a', ha', vs, e, hr⟩ := rs.at_ m _ hc
        rw [hm] at ha'; cases ha'
        exact listy (SqL.of e) hr h
      · rename_i xs hc
        obtain ⟨a', ha', vs, e, hr⟩ := rs.at_ m _ hc
        rw [hm] at ha'; cases ha'
        exact listy (.inl e) hr h
      · rename_i kvs hc
        obtain ⟨a', ha', ws, e, hr⟩ := rs.at_ m _ hc
        rw [hm] at ha'; cases ha'
        obtain ⟨_, hsys, vs, kv, o, es, ep, ho, hx, hd, _, hp, _⟩ : ObjOk X.prog X.w H s.heap a (.dK ws) := I.hok a _ e
        obtain ⟨ek, rv⟩ := hr.vals
        cases e' : toPs (toP n S) (kvs.map (·.2)) with
        | none => rw [e'] at h; cases h
        | some ps =>
          rw [e'] at h
          cases h
          have keys : ∀ {es : List DictEntry} {vs : List (Key × Value)} {ws : List (Key × V)}, KV ws vs → PySem.Pairs (mixKind X.prog X.w) es vs → Rbs s.heap (es.map (·.key)) ((ws.map (·.1)).map keyP) ∧ Vals (ws.map (·.2)) (es.map (·.val)) := by
            intro es vs ws h1 h2
            induction h2 generalizing ws with
            | nil => cases h1; exact ⟨.nil, .nil⟩
            | @cons e kv es vs q1 q2 _ ih2 =>
              cases h1 with
              | @cons p _ l1 _ z1 z2 =>
                obtain ⟨i1, i2⟩ := ih2 z2
                refine ⟨.cons (keyP_rb (k := p.1) (by rw [z1.1]; exact q1)) i1, .cons ?_ i2⟩
                show RelV p.2 e.val
                rw [q2]
                exact z1.2
          obtain ⟨k1, k2⟩ := keys kv hp
          have len : (kvs.map fun kv => keyP kv.1).length = ps.length := by
            have := toPs_length e'
            simpa using this
          refine .dict hsys ho hx.1 hd ?_ ?_
          · rw [zip_fst len]
            rw [ek, List.map_map] at k1
            exact k1
          · rw [zip_snd len]
            exact rbs_of ih e' rv k2
      · rename_i kvs hc
        split at h
        · obtain ⟨a', ha', ws, e, hr⟩ := rs.at_ m _ hc
          rw [hm] at ha'; cases ha'
          obtain ⟨_, hsys, xs, kv, o, es, ep, ho, hx, hd, he, _⟩ : ObjOk X.prog X.w H s.heap a (.dT ws) := I.hok a _ e
          obtain ⟨ek, rv⟩ := hr.vals
          cases e' : toPs (toP n S) (kvs.map (·.2)) with
          | none => rw [e'] at h; cases h
          | some ps =>
            rw [e'] at h
            cases h
            have keys : ∀ {xs : List (List Key × Addr × Value)} {ws : List (List Key × V)}, Paired (fun (p : List Key × V) (q : List Key × Addr × Value) => p.1 = q.1 ∧ H q.2.1 = some (.tup (p.1.map kV)) ∧ RelV p.2 q.2.2) ws xs →
                Rbs s.heap (xs.map fun q => Value.ref q.2.1) ((ws.map (·.1)).map fun ks => .tuple (ks.map keyP)) ∧ Vals (ws.map (·.2)) (xs.map fun q => q.2.2) := by
              intro xs ws h1
              induction h1 with
              | nil => exact ⟨.nil, .nil⟩
              | @cons p q _ _ z1 _ ih2 =>
                obtain ⟨i1, i2⟩ := ih2
                obtain ⟨its, rv', ⟨o', ho', hc', m', hd'⟩, _⟩ := I.tuple (SqT.of z1.2.1)
                exact ⟨.cons (.tuple ho' hc' hd' (kVs_rb (by simpa using rv'))) i1, .cons z1.2.2 i2⟩
            obtain ⟨k1, k2⟩ := keys kv
            have len : (kvs.map fun kv => PyData.tuple (kv.1.map keyP)).length = ps.length := by
              have := toPs_length e'
              simpa using this
            refine .dict hsys ho hx.1 hd ?_ ?_
            · rw [zip_fst len, he, List.map_map]
              rw [ek, List.map_map] at k1
              exact k1
            · rw [zip_snd len, he, List.map_map]
              exact rbs_of ih e' rv k2
        · cases h
      · cases h
    · cases h
end

/-! ### operations straight on what a value reads as -/
def rB2 (K : Gb) (g : D → D → Store → Ou D) : R2 := fun v u H Q => ∃ E ρ S x y, RS K H ρ S ∧ RV K H ρ x v ∧ RV K H ρ y u ∧ (g x y S).sat K E ρ H (Q1 K Q)
theorem op2_B {K : Gb} {g : D → D → Store → Ou D} : Op2 K (rB2 K g) g := fun E ρ S H x y v u Q rs rv ru h => ⟨E, ρ, S, x, y, rs, rv, ru, h⟩
def rBN (K : Gb) (g : List D → Store → Ou D) : List V → Hp → VK → Prop := fun v H Q => ∃ E ρ S x, RS K H ρ S ∧ RVs K H ρ x v ∧ (g x S).sat K E ρ H (Q1 K Q)
theorem opN_B {K : Gb} {g : List D → Store → Ou D} : OpN K (rBN K g) g := fun E ρ S H x v Q rs rv h => ⟨E, ρ, S, x, rs, rv, h⟩
/-- a value that comes out of data: no place is taken -/
theorem sat_pure {K : Gb} {E : XK} {ρ : List Addr} {S : Store} {H : Hp} {d : D} {v : V} {Q : VK} (h : (Ou.ok d S).sat K E ρ H (Q1 K Q)) (rs : RS K H ρ S) (r : RV K H ρ d v) : Q v H :=
  h ρ H (List.prefix_refl _) Evo.refl rs v r
def eqS (neg : Bool) (x y : D) (S : Store) : Ou D :=
  match toP 40 S x, toP 40 S y with
  | some p, some q => if p.plain = true ∧ q.plain = true then .ok (.bl (if neg then !PyData.eqv p q else PyData.eqv p q)) S else .no
  | _, _ => .no
def isNoneP : PyData → Bool
  | .none => true
  | _ => false
def ltS (x y : D) (S : Store) : Ou D :=
  match toP 40 S x, toP 40 S y with
  | some p, some q => if PySem.W.alike p q = true ∧ isNoneP p = false then .ok (.bl (PySem.W.dataLt p q)) S else .no
  | _, _ => .no
end B

set_option Elab.async false
set_option linter.all false
set_option maxRecDepth 100000
set_option maxHeartbeats 1000000
/-! BOps: operators and built-in functions on values of ours. -/
namespace B
open PySem L2

def lim : Nat := 4096
def intsOk (i j : Int) : Bool := decide (i.natAbs.log2 + j.natAbs.log2 < 1000000)
def addS (x y : D) (S : Store) : Ou D :=
  match x, y with
  | .int i, .int j => .ok (.int (i + j)) S
  | .str a, .str b => if a.length + b.length ≤ 4096 then .ok (.str (a ++ b)) S else .no
  | .tup a, .tup b => if a.length + b.length ≤ 4096 then .ok (.tup (a ++ b)) S else .no
  | .loc m, .loc n => match S[m]?, S[n]? with
    | some (.lst a), some (.lst b) => mkLst (a ++ b) S
    | _, _ => .no
  | _, _ => .no
def subS (x y : D) (S : Store) : Ou D :=
  match x, y with
  | .int i, .int j => .ok (.int (i - j)) S
  | _, _ => .no
def mulS (x y : D) (S : Store) : Ou D :=
  match x, y with
  | .int i, .int j => if intsOk i j = true then .ok (.int (i * j)) S else .no
  | .loc m, .int k => match S[m]? with
    | some (.lst a) => if 0 ≤ k ∧ k ≤ 4096 then mkLst (List.replicate k.toNat a).flatten S else .no
    | _ => .no
  | _, _ => .no
def modS (x y : D) (S : Store) : Ou D :=
  match x, y with
  | .int i, .int j => if 0 < j then .ok (.int (i % j)) S else .no
  | _, _ => .no
def fdivS (x y : D) (S : Store) : Ou D :=
  match x, y with
  | .int i, .int j => if 0 < j ∧ j.natAbs.log2 < 9000 then .ok (.int (i / j)) S else .no
  | _, _ => .no
def powS (x y : D) (S : Store) : Ou D :=
  match x, y with
  | .int i, .int j => if 0 ≤ j ∧ (Builtin.Int.intBits i : Int) * j ≤ 2 ^ 27 then .ok (.int (i ^ j.toNat)) S else .no
  | _, _ => .no
def icmpS (f : Int → Int → Bool) (x y : D) (S : Store) : Ou D :=
  match x, y with
  | .int i, .int j => .ok (.bl (f i j)) S
  | _, _ => .no
def iLt : Int → Int → Bool := fun i j => decide (i < j)
def iLe : Int → Int → Bool := fun i j => decide (i ≤ j)
def iGt : Int → Int → Bool := fun i j => decide (j < i)
def iGe : Int → Int → Bool := fun i j => decide (j ≤ i)
def isNonD : D → Bool
  | .non => true
  | _ => false
def isGlb : D → Bool
  | .glb _ => true
  | _ => false
def isS (neg : Bool) (x y : D) (S : Store) : Ou D :=
  match y with
  | .non => if isGlb x = true then .no else .ok (.bl (if neg then !isNonD x else isNonD x)) S
  | _ => .no
def negS (x : D) (S : Store) : Ou D :=
  match x with
  | .int i => .ok (.int (-i)) S
  | _ => .no

section
variable {X : Cx}
theorem or_add : OpR X (binaryOp .Add) (rB2 X.gb addS) := by
  intro pins s σ H x y v u Q I rx ry ⟨E, ρ, S, dx, dy, rs, rv, ru, h⟩
  unfold addS at h
  split at h
  · simp only [RV] at rv ru
    exact op_add pins s σ H x y v u Q I rx ry ⟨_, _, rv, ru, sat_pure h rs rfl⟩
  · split at h
    · rename_i hl
      simp only [RV] at rv ru
      exact op_add_str pins s σ H x y v u Q I rx ry ⟨_, _, rv, ru, small4 hl, sat_pure h rs rfl⟩
    · exact h.elim
  · rename_i a b
    split at h
    · rename_i hl
      simp only [RV] at rv ru
      obtain ⟨p, vs, rfl, hp, r1⟩ := rv
      obtain ⟨q, ws, rfl, hq, r2⟩ := ru
      refine op_catA pins s σ H _ _ v u Q I rx ry ⟨p, q, vs, ws, rfl, rfl, SqT.of hp, SqT.of hq, by rw [← r1.length, ← r2.length]; exact small4 hl, fun e => ?_, fun e1 e2 => ?_, fun e1 e2 t ht => ?_⟩
      · have : a = [] := by
          have := r1.length
          rw [e] at this
          exact List.eq_nil_of_length_eq_zero this
        subst this
        exact sat_pure h rs (by simp only [RV]; exact ⟨q, ws, rfl, hq, by simpa using r2⟩)
      · have : b = [] := by
          have := r2.length
          rw [e2] at this
          exact List.eq_nil_of_length_eq_zero this
        subst this
        exact sat_pure h rs (by simp only [RV]; exact ⟨p, vs, rfl, hp, by simpa using r1⟩)
      · refine h ρ _ (List.prefix_refl _) (Evo.fresh ht) (rs.fresh ht) _ ?_
        simp only [RV]
        exact ⟨t, _, rfl, upd_same, (r1.append r2).mono (List.prefix_refl _) (Evo.fresh ht)⟩
    · exact h.elim
  · rename_i m n
    split at h
    · rename_i a b ha hb
      simp only [RV] at rv ru
      obtain ⟨p, hp, rfl⟩ := rv
      obtain ⟨q, hq, rfl⟩ := ru
      obtain ⟨p', hp', vs, e1, r1⟩ := rs.at_ m _ ha
      obtain ⟨q', hq', ws, e2, r2⟩ := rs.at_ n _ hb
      rw [hp] at hp'; cases hp'
      rw [hq] at hq'; cases hq'
      unfold mkLst at h
      split at h
      · rename_i hl
        rw [List.length_append] at hl
        exact op_cat pins s σ H _ _ v u Q I rx ry ⟨p, q, vs, ws, rfl, rfl, e1, e2, by rw [← r1.length, ← r2.length]; exact small4 hl, fun t ht => lst_new rs (r1.append r2) h ht⟩
      · exact h.elim
    · exact h.elim
  · exact h.elim
theorem or_int {f : Value → Value → Sem Value} {C : Int → Int → Prop} {k : Int → Int → V} {g : D → D → Store → Ou D} (ho : OpR X f (rI C k)) (hg : ∀ x y S, g x y S = .no ∨ ∃ i j d, x = .int i ∧ y = .int j ∧ C i j ∧ g x y S = .ok d S ∧ ∀ H ρ, RV X.gb H ρ d (k i j)) : OpR X f (rB2 X.gb g) := by
  intro pins s σ H x y v u Q I rx ry ⟨E, ρ, S, dx, dy, rs, rv, ru, h⟩
  rcases hg dx dy S with e | ⟨i, j, d, rfl, rfl, c, e, r⟩
  · rw [e] at h; exact h.elim
  · rw [e] at h
    simp only [RV] at rv ru
    exact ho pins s σ H x y v u Q I rx ry ⟨i, j, rv, ru, c, sat_pure h rs (r H ρ)⟩
theorem or_int0 {f : Value → Value → Sem Value} {k : Int → Int → V} {g : D → D → Store → Ou D} (ho : OpR X f (rI0 k)) (hg : ∀ x y S, g x y S = .no ∨ ∃ i j d, x = .int i ∧ y = .int j ∧ g x y S = .ok d S ∧ ∀ H ρ, RV X.gb H ρ d (k i j)) : OpR X f (rB2 X.gb g) := by
  intro pins s σ H x y v u Q I rx ry ⟨E, ρ, S, dx, dy, rs, rv, ru, h⟩
  rcases hg dx dy S with e | ⟨i, j, d, rfl, rfl, e, r⟩
  · rw [e] at h; exact h.elim
  · rw [e] at h
    simp only [RV] at rv ru
    exact ho pins s σ H x y v u Q I rx ry ⟨i, j, rv, ru, sat_pure h rs (r H ρ)⟩
theorem or_sub : OpR X (binaryOp .Sub) (rB2 X.gb subS) := or_int0 op_sub fun x y S => by
  unfold subS
  split
  · exact .inr ⟨_, _, _, rfl, rfl, rfl, fun _ _ => rfl⟩
  · exact .inl rfl
theorem or_mod : OpR X (binaryOp .Mod) (rB2 X.gb modS) := or_int op_mod fun x y S => by
  unfold modS
  split
  · split
    · rename_i hj
      exact .inr ⟨_, _, _, rfl, rfl, hj, rfl, fun _ _ => rfl⟩
    · exact .inl rfl
  · exact .inl rfl
theorem or_fdiv : OpR X (binaryOp .FloorDiv) (rB2 X.gb fdivS) := or_int op_fdivW fun x y S => by
  unfold fdivS
  split
  · split
    · rename_i hj
      exact .inr ⟨_, _, _, rfl, rfl, hj, rfl, fun _ _ => rfl⟩
    · exact .inl rfl
  · exact .inl rfl
def CPowW (i j : Int) : Prop := 0 ≤ j ∧ (Builtin.Int.intBits i : Int) * j ≤ 2 ^ 27
theorem op_powW : OpR X (binaryOp .Pow) (rI CPowW fun i j => .int (i ^ j.toNat)) := opI fun _ _ _ _ _ _ _ hc q => PyProof.Rows.pow_int hc.1 hc.2 q
theorem or_pow : OpR X (binaryOp .Pow) (rB2 X.gb powS) := or_int op_powW fun x y S => by
  unfold powS
  split
  · split
    · rename_i hj
      exact .inr ⟨_, _, _, rfl, rfl, hj, rfl, fun _ _ => rfl⟩
    · exact .inl rfl
  · exact .inl rfl
theorem or_mul : OpR X (binaryOp .Mult) (rB2 X.gb mulS) := by
  intro pins s σ H x y v u Q I rx ry ⟨E, ρ, S, dx, dy, rs, rv, ru, h⟩
  unfold mulS at h
  split at h
  · split at h
    · rename_i hc
      simp only [RV] at rv ru
      exact op_mulW pins s σ H x y v u Q I rx ry ⟨_, _, rv, ru, (by unfold intsOk at hc; unfold L2.CMulW; simpa using hc), sat_pure h rs rfl⟩
    · exact h.elim
  · rename_i m k
    split at h
    · rename_i a ha
      split at h
      · rename_i hk
        simp only [RV] at rv ru
        subst ru
        obtain ⟨p, hp, rfl⟩ := rv
        obtain ⟨p', hp', vs, e1, r1⟩ := rs.at_ m _ ha
        rw [hp] at hp'; cases hp'
        have rr : ∀ n : Nat, RVs X.gb H ρ (List.replicate n a).flatten (List.replicate n vs).flatten := fun n => by
          induction n with
          | zero => simp only [List.replicate_zero, List.flatten_nil, RVs]
          | succ n ih => rw [List.replicate_succ, List.replicate_succ, List.flatten_cons, List.flatten_cons]; exact r1.append ih
        unfold mkLst at h
        split at h
        · rename_i hl
          refine op_rep pins s σ H _ _ v u Q I rx ry ⟨p, k, vs, rfl, rfl, e1, by omega, by omega, ?_, fun t ht => lst_new rs (rr _) h ht⟩
          have hl' : (List.replicate k.toNat a).flatten.length = k.toNat * a.length := by simp
          rw [hl'] at hl
          rw [← r1.length, Nat.mul_comm]
          exact small4 hl
        · exact h.elim
      · exact h.elim
    · exact h.elim
  · exact h.elim
theorem or_icmp {op : CmpOp} {f : Int → Int → Bool} (ho : OpR X (compareOp op) (rI0 fun i j => .bl (f i j))) : OpR X (compareOp op) (rB2 X.gb (icmpS f)) := or_int0 ho fun x y S => by
  unfold icmpS
  split
  · exact .inr ⟨_, _, _, rfl, rfl, rfl, fun _ _ => rfl⟩
  · exact .inl rfl
theorem or_lt : OpR X (compareOp .Lt) (rB2 X.gb (icmpS iLt)) := or_icmp op_lt
theorem or_le : OpR X (compareOp .LtE) (rB2 X.gb (icmpS iLe)) := or_icmp op_le
theorem or_gt : OpR X (compareOp .Gt) (rB2 X.gb (icmpS iGt)) := or_icmp op_gt
theorem or_ge : OpR X (compareOp .GtE) (rB2 X.gb (icmpS iGe)) := or_icmp op_ge
theorem isNon_iff {K : Gb} {H : Hp} {ρ : List Addr} {d : D} {v : V} (r : RV K H ρ d v) (hg : isGlb d = false) : decide (v = .non) = isNonD d := by
  cases d <;> simp only [RV] at r
  case loc n => obtain ⟨a, _, rfl⟩ := r; rfl
  case tup xs => obtain ⟨a, vs, rfl, _⟩ := r; rfl
  case glb x => cases hg
  all_goals (subst r; rfl)
theorem or_is : OpR X (compareOp .Is) (rB2 X.gb (isS false)) := by
  intro pins s σ H x y v u Q I rx ry ⟨E, ρ, S, dx, dy, rs, rv, ru, h⟩
  unfold isS at h
  split at h
  · simp only [RV] at ru
    split at h
    · exact h.elim
    · rename_i hg
      exact op_isN pins s σ H x y v u Q I rx ry ⟨ru, by rw [isNon_iff rv (by simpa using hg)]; exact sat_pure h rs rfl⟩
  · exact h.elim
theorem or_isnot : OpR X (compareOp .IsNot) (rB2 X.gb (isS true)) := by
  intro pins s σ H x y v u Q I rx ry ⟨E, ρ, S, dx, dy, rs, rv, ru, h⟩
  unfold isS at h
  split at h
  · simp only [RV] at ru
    split at h
    · exact h.elim
    · rename_i hg
      exact op_notN pins s σ H x y v u Q I rx ry ⟨ru, by rw [isNon_iff rv (by simpa using hg)]; exact sat_pure h rs rfl⟩
  · exact h.elim
theorem or_eq (hu : X.A.units + 64 < cLine) : OpR X (compareOp .Eq) (rB2 X.gb (eqS false)) := by
  intro pins s σ H x y v u Q I rx ry ⟨E, ρ, S, dx, dy, rs, rv, ru, h⟩
  unfold eqS at h
  split at h
  · rename_i p q hp hq
    split at h
    · rename_i hpl
      obtain ⟨as, ra⟩ := (rb_of I rs 40 dx p x v hp rv rx).reads
      obtain ⟨bs, rb⟩ := (rb_of I rs 40 dy q y u hq ru ry).reads
      have h1 := toP_depth hp
      have h2 : min p.depth q.depth ≤ p.depth := Nat.min_le_left _ _
      exact PySem.SeqAt.eq_plain ra rb hpl.1 hpl.2 (by omega) ⟨.bl _, H, I, rfl, sat_pure h rs rfl⟩
    · exact h.elim
  · exact h.elim
theorem or_ne (hu : X.A.units + 64 < cLine) : OpR X (compareOp .NotEq) (rB2 X.gb (eqS true)) := by
  intro pins s σ H x y v u Q I rx ry ⟨E, ρ, S, dx, dy, rs, rv, ru, h⟩
  unfold eqS at h
  split at h
  · rename_i p q hp hq
    split at h
    · rename_i hpl
      obtain ⟨as, ra⟩ := (rb_of I rs 40 dx p x v hp rv rx).reads
      obtain ⟨bs, rb⟩ := (rb_of I rs 40 dy q y u hq ru ry).reads
      have h1 := toP_depth hp
      have h2 : min p.depth q.depth ≤ p.depth := Nat.min_le_left _ _
      exact PySem.SeqAt.ne_plain ra rb hpl.1 hpl.2 (by omega) ⟨.bl _, H, I, rfl, sat_pure h rs rfl⟩
    · exact h.elim
  · exact h.elim
theorem un_negS : UnR X (unaryOp .USub) (rU fun i => .int (-i)) := un_neg
theorem op1_neg : Op1 X.gb (rU fun i => .int (-i)) negS := fun E ρ S H x v Q rs rv h => by
  unfold negS at h
  split at h
  · simp only [RV] at rv
    exact ⟨_, rv, sat_pure h rs rfl⟩
  · exact h.elim
end

/-! ### subscripts -/
theorem RVs.get {K : Gb} {H : Hp} {ρ : List Addr} : ∀ {ds : List D} {vs : List V} {i : Nat} {d : D}, RVs K H ρ ds vs → ds[i]? = some d → ∃ v, vs[i]? = some v ∧ RV K H ρ d v
  | [], _, _, _, _, e => by simp at e
  | x :: xs, _, 0, d, r, e => by
    simp only [RVs] at r
    obtain ⟨v, r', rfl, r1, _⟩ := r
    simp at e
    subst e
    exact ⟨v, by simp, r1⟩
  | x :: xs, _, i + 1, d, r, e => by
    simp only [RVs] at r
    obtain ⟨v, r', rfl, _, r2⟩ := r
    obtain ⟨w, e1, e2⟩ := RVs.get r2 (by simpa using e)
    exact ⟨w, by simpa using e1, e2⟩
theorem RVs.atI {K : Gb} {H : Hp} {ρ : List Addr} {ds : List D} {vs : List V} {i : Int} {d : D} (r : RVs K H ρ ds vs) (e : L2.atI ds i = some d) : ∃ v, L2.atI vs i = some v ∧ RV K H ρ d v := by
  unfold L2.atI at e ⊢
  rw [← r.length]
  cases q : ixN ds.length i with
  | none => rw [q] at e; cases e
  | some j =>
    rw [q] at e
    exact r.get e
theorem RVs.set {K : Gb} {H : Hp} {ρ : List Addr} {d : D} {v : V} (r1 : RV K H ρ d v) : ∀ {ds : List D} {vs : List V} (j : Nat), RVs K H ρ ds vs → RVs K H ρ (ds.set j d) (vs.set j v)
  | [], _, _, r => by simp only [RVs] at r; subst r; simp only [List.set_nil, RVs]
  | x :: xs, _, 0, r => by
    simp only [RVs] at r
    obtain ⟨w, r', rfl, _, r2⟩ := r
    simp only [List.set_cons_zero, RVs]
    exact ⟨v, r', rfl, r1, r2⟩
  | x :: xs, _, j + 1, r => by
    simp only [RVs] at r
    obtain ⟨w, r', rfl, r0, r2⟩ := r
    simp only [List.set_cons_succ, RVs]
    exact ⟨w, _, rfl, r0, RVs.set r1 j r2⟩
def keyD : D → Option Key
  | .int i => some (.inl i)
  | .str x => some (.inr x)
  | _ => none
def ixS (x y : D) (S : Store) : Ou D :=
  match x, y with
  | .tup xs, .int i => match L2.atI xs i with
    | some d => .ok d S
    | none => .no
  | .str z, .int i => if z.length ≤ 4096 then match L2.atI z.cps.toList i with
    | some c => .ok (.str ⟨#[c]⟩) S
    | none => .no else .no
  | .loc n, .int i => match S[n]? with
    | some (.lst xs) => match L2.atI xs i with
      | some d => .ok d S
      | none => .no
    | some (.rol xs) => match L2.atI xs i with
      | some d => .ok d S
      | none => .no
    | _ => .no
  | _, _ => .no
theorem op2_ix {K : Gb} : Op2 K (rIx K.K) ixS := fun E ρ S H x y v u Q rs rv ru h => by
  unfold ixS at h
  split at h
  · split at h
    · rename_i d hd
      simp only [RV] at rv ru
      obtain ⟨a, vs, rfl, ht, hr⟩ := rv
      obtain ⟨w, e, rw'⟩ := hr.atI hd
      exact .inr (.inl ⟨a, vs, _, w, rfl, ru, SqT.of ht, e, sat_pure h rs rw'⟩)
    · exact h.elim
  · split at h
    · rename_i hl
      split at h
      · rename_i c hc
        simp only [RV] at rv ru
        exact .inr (.inr ⟨_, _, c, rv, ru, small4 hl, hc, sat_pure h rs rfl⟩)
      · exact h.elim
    · exact h.elim
  · rename_i n i
    simp only [RV] at rv ru
    obtain ⟨a, hn, rfl⟩ := rv
    split at h
    · rename_i xs hc
      obtain ⟨a', ha', vs, e, hr⟩ := rs.at_ n _ hc
      rw [hn] at ha'; cases ha'
      split at h
      · rename_i d hd
        obtain ⟨w, e2, rw'⟩ := hr.atI hd
        exact .inl ⟨a, vs, _, w, rfl, ru, SqL.of e, e2, sat_pure h rs rw'⟩
      · exact h.elim
    · rename_i xs hc
      obtain ⟨a', ha', vs, e, hr⟩ := rs.at_ n _ hc
      rw [hn] at ha'; cases ha'
      split at h
      · rename_i d hd
        obtain ⟨w, e2, rw'⟩ := hr.atI hd
        exact .inl ⟨a, vs, _, w, rfl, ru, .inl e, e2, sat_pure h rs rw'⟩
      · exact h.elim
    · exact h.elim
  · exact h.elim
/-- xs[i] = v -/
def setS (o i v : D) (S : Store) : Ou Unit :=
  match o, i with
  | .loc n, .int k => match S[n]? with
    | some (.lst xs) => match ixN xs.length k with
      | some j => .ok () (S.set n (.lst (xs.set j v)))
      | none => .no
    | _ => .no
  | _, _ => .no
theorem set_S {K : Gb} : SetS K rSetL setS := fun E ρ S H o i v ov iv vv Q rs ro ri rv h => by
  unfold setS at h
  split at h
  · rename_i n k
    simp only [RV] at ro ri
    obtain ⟨a, hn, rfl⟩ := ro
    split at h
    · rename_i xs hc
      obtain ⟨a', ha', vs, e, hr⟩ := rs.at_ n _ hc
      rw [hn] at ha'; cases ha'
      split at h
      · rename_i j hj
        refine ⟨a, vs, k, j, rfl, ri, e, by rw [← hr.length]; exact hj, h ρ _ (List.prefix_refl _) (Evo.write hn e trivial) (rs.write hn e trivial ⟨_, upd_same, ?_⟩)⟩
        exact (RVs.set rv j hr).mono (List.prefix_refl _) (Evo.write hn e trivial)
      · exact h.elim
    · exact h.elim
  · exact h.elim

/-! ### built-in functions -/
def absS (xs : List D) (S : Store) : Ou D := match xs with
  | [.int i] => .ok (.int (if i < 0 then -i else i)) S
  | _ => .no
def max2S (xs : List D) (S : Store) : Ou D := match xs with
  | [.int i, .int j] => .ok (.int (if j > i then j else i)) S
  | _ => .no
def min2S (xs : List D) (S : Store) : Ou D := match xs with
  | [.int i, .int j] => .ok (.int (if j < i then j else i)) S
  | _ => .no
def intS (xs : List D) (S : Store) : Ou D := match xs with
  | [.int i] => .ok (.int i) S
  | [.bl k] => .ok (.int (if k then 1 else 0)) S
  | _ => .no
def lenS (xs : List D) (S : Store) : Ou D := match xs with
  | [.tup ys] => .ok (.int ys.length) S
  | [.str z] => if z.length ≤ 4096 then .ok (.int z.length) S else .no
  | [.loc n] => match S[n]? with
    | some (.lst ys) => .ok (.int ys.length) S
    | some (.rol ys) => .ok (.int ys.length) S
    | some (.dK kvs) => .ok (.int kvs.length) S
    | _ => .no
  | _ => .no
def strS (xs : List D) (S : Store) : Ou D := match xs with
  | [.int i] => if i.natAbs.log2 < 1920 then .ok (.str (toString i)) S else .no
  | [.str z] => .ok (.str z) S
  | _ => .no
def reprS (xs : List D) (S : Store) : Ou D := match xs with
  | [d] => match toP 40 S d with
    | some p => if p.showable = true ∧ p.shown.length ≤ sizeLine then .ok (.str p.shown) S else .no
    | none => .no
  | _ => .no
theorem RVs.one {K : Gb} {H : Hp} {ρ : List Addr} {d : D} {vs : List V} (r : RVs K H ρ [d] vs) : ∃ v, vs = [v] ∧ RV K H ρ d v := by
  simp only [RVs] at r
  obtain ⟨v, r', rfl, r1, rfl⟩ := r
  exact ⟨v, rfl, r1⟩
theorem RVs.two {K : Gb} {H : Hp} {ρ : List Addr} {d e : D} {vs : List V} (r : RVs K H ρ [d, e] vs) : ∃ v w, vs = [v, w] ∧ RV K H ρ d v ∧ RV K H ρ e w := by
  simp only [RVs] at r
  obtain ⟨v, r', rfl, r1, w, r'', rfl, r2, rfl⟩ := r
  exact ⟨v, w, rfl, r1, r2⟩
section
variable {X : Cx}
theorem cr_abs : CallR X (.builtin "abs") (rBN X.gb absS) := by
  intro pins s σ H xs us Q I r ⟨E, ρ, S, ds, rs, rv, h⟩
  unfold absS at h
  split at h
  · obtain ⟨v, rfl, r1⟩ := rv.one
    simp only [RV] at r1
    subst r1
    exact call_abs pins s σ H _ us Q I r ⟨_, rfl, sat_pure h rs rfl⟩
  · exact h.elim
theorem cr_max2 (hc : X.calm = true) : CallR X (.builtin "max") (rBN X.gb max2S) := by
  intro pins s σ H xs us Q I r ⟨E, ρ, S, ds, rs, rv, h⟩
  unfold max2S at h
  split at h
  · obtain ⟨v, w, rfl, r1, r2⟩ := rv.two
    simp only [RV] at r1 r2
    subst r1 r2
    exact call_max2 hc pins s σ H _ us Q I r ⟨_, _, rfl, sat_pure h rs rfl⟩
  · exact h.elim
theorem cr_min2 (hc : X.calm = true) : CallR X (.builtin "min") (rBN X.gb min2S) := by
  intro pins s σ H xs us Q I r ⟨E, ρ, S, ds, rs, rv, h⟩
  unfold min2S at h
  split at h
  · obtain ⟨v, w, rfl, r1, r2⟩ := rv.two
    simp only [RV] at r1 r2
    subst r1 r2
    exact call_min2 hc pins s σ H _ us Q I r ⟨_, _, rfl, sat_pure h rs rfl⟩
  · exact h.elim
theorem cr_int : CallR X (.type "int") (rBN X.gb intS) := by
  intro pins s σ H xs us Q I r ⟨E, ρ, S, ds, rs, rv, h⟩
  unfold intS at h
  split at h
  · obtain ⟨v, rfl, r1⟩ := rv.one
    simp only [RV] at r1
    subst r1
    exact call_int1 pins s σ H _ us Q I r (.inl ⟨_, rfl, sat_pure h rs rfl⟩)
  · obtain ⟨v, rfl, r1⟩ := rv.one
    simp only [RV] at r1
    subst r1
    exact call_int1 pins s σ H _ us Q I r (.inr ⟨_, rfl, sat_pure h rs rfl⟩)
  · exact h.elim
theorem cr_len : CallR X (.builtin "len") (rBN X.gb lenS) := by
  intro pins s σ H xs us Q I r ⟨E, ρ, S, ds, rs, rv, h⟩
  unfold lenS at h
  split at h
  · obtain ⟨v, rfl, r1⟩ := rv.one
    simp only [RV] at r1
    obtain ⟨a, vs, rfl, ht, hr⟩ := r1
    exact call_len_seq pins s σ H _ us Q I r ⟨a, vs, rfl, .inr (SqT.of ht), by rw [← hr.length]; exact sat_pure h rs rfl⟩
  · split at h
    · rename_i hl
      obtain ⟨v, rfl, r1⟩ := rv.one
      simp only [RV] at r1
      subst r1
      exact call_len_str pins s σ H _ us Q I r ⟨_, rfl, small4 hl, sat_pure h rs rfl⟩
    · exact h.elim
  · rename_i n
    obtain ⟨v, rfl, r1⟩ := rv.one
    simp only [RV] at r1
    obtain ⟨a, hn, rfl⟩ := r1
    split at h
    · rename_i xs hc
      obtain ⟨a', ha', vs, e, hr⟩ := rs.at_ n _ hc
      rw [hn] at ha'; cases ha'
      exact call_len_seq pins s σ H _ us Q I r ⟨a, vs, rfl, .inl (SqL.of e), by rw [← hr.length]; exact sat_pure h rs rfl⟩
    · rename_i xs hc
      obtain ⟨a', ha', vs, e, hr⟩ := rs.at_ n _ hc
      rw [hn] at ha'; cases ha'
      exact call_len_seq pins s σ H _ us Q I r ⟨a, vs, rfl, .inl (.inl e), by rw [← hr.length]; exact sat_pure h rs rfl⟩
    · rename_i kvs hc
      obtain ⟨a', ha', vs, e, hr⟩ := rs.at_ n _ hc
      rw [hn] at ha'; cases ha'
      obtain ⟨ek, _⟩ := hr.vals
      have len : kvs.length = vs.length := by
        have := congrArg List.length ek
        simpa using this.symm
      exact call_lenD pins s σ H _ us Q I r ⟨a, vs, rfl, e, by rw [← len]; exact sat_pure h rs rfl⟩
    · exact h.elim
  · exact h.elim
theorem cr_repr (hg : X.A.guards = some []) (hu : X.A.units + 64 < cLine) : CallR X (.builtin "repr") (rBN X.gb reprS) := by
  intro pins s σ H xs us Q I r ⟨E, ρ, S, ds, rs, rv, h⟩
  unfold reprS at h
  split at h
  · rename_i d
    obtain ⟨v, rfl, r1⟩ := rv.one
    cases r with
    | cons q q' =>
      cases q'
      split at h
      · rename_i p hp
        split at h
        · rename_i hs
          have h1 := toP_depth hp
          exact repr_rb (rb_of I rs 40 d p v _ hp r1 q) hs.1 hs.2 hg (by omega) fun h' u tk k => ⟨.str _, H, I.kept (t' := tk) k, ⟨u, rfl⟩, sat_pure h rs rfl⟩
        · exact h.elim
      · exact h.elim
  · exact h.elim
end
end B

set_option Elab.async false
set_option linter.all false
set_option maxRecDepth 100000
set_option maxHeartbeats 1000000
/-! BLoop: what is walked; for, comprehensions, while. -/
namespace B
open PySem L2

/-! ### equality of items, by a look -/
mutual
def dEq : D → D → Bool
  | .non, .non => true
  | .bl a, .bl b => a == b
  | .int i, .int j => i == j
  | .str x, .str y => decide (x = y)
  | .ty m, .ty n => m == n
  | .glb a, .glb b => decide (a = b)
  | .loc m, .loc n => m == n
  | .tup xs, .tup ys => dsEq xs ys
  | _, _ => false
def dsEq : List D → List D → Bool
  | [], [] => true
  | x :: xs, y :: ys => dEq x y && dsEq xs ys
  | _, _ => false
end
mutual
theorem dEq_eq : ∀ {x y : D}, dEq x y = true → x = y
  | .non, y, h => by cases y <;> simp_all [dEq]
  | .bl _, y, h => by cases y <;> simp_all [dEq]
  | .int _, y, h => by cases y <;> simp_all [dEq]
  | .str _, y, h => by cases y <;> simp_all [dEq]
  | .ty _, y, h => by cases y <;> simp_all [dEq]
  | .glb _, y, h => by cases y <;> simp_all [dEq]
  | .loc _, y, h => by cases y <;> simp_all [dEq]
  | .tup xs, y, h => by
    cases y with
    | tup ys => rw [dsEq_eq (x := xs) (y := ys) (by simpa [dEq] using h)]
    | _ => simp [dEq] at h
theorem dsEq_eq : ∀ {x y : List D}, dsEq x y = true → x = y
  | [], y, h => by cases y <;> simp_all [dsEq]
  | a :: x, y, h => by
    cases y with
    | nil => simp [dsEq] at h
    | cons b y =>
      rw [dsEq, Bool.and_eq_true] at h
      rw [dEq_eq h.1, dsEq_eq h.2]
end
mutual
theorem dEq_refl : ∀ x : D, dEq x x = true
  | .non => rfl
  | .bl b => by simp [dEq]
  | .int i => by simp [dEq]
  | .str x => by simp [dEq]
  | .ty n => by simp [dEq]
  | .glb a => by simp [dEq]
  | .loc n => by simp [dEq]
  | .tup xs => by rw [dEq]; exact dsEq_refl xs
theorem dsEq_refl : ∀ x : List D, dsEq x x = true
  | [] => rfl
  | a :: x => by rw [dsEq, dEq_refl a, dsEq_refl x]; rfl
end

/-! ### what is walked: its items, and the lists that must stay as they are -/
structure Src where
  items : List D
  stay : List (Nat × List D)
def stayOk : List (Nat × List D) → Store → Bool
  | [], _ => true
  | (n, xs) :: r, S => (match S[n]? with
    | some (.lst ys) => dsEq ys xs
    | some (.rol ys) => dsEq ys xs
    | _ => false) && stayOk r S
structure Wk (K : Gb) (J : It) (ρ0 : List Addr) (H0 : Hp) (src : Src) : Prop where
  ex : ∃ (G : Hp → Prop) (Y : Nat → Hp → V → Hp → Prop), Walk J src.items.length G Y ∧ (∀ ρ H S, ρ0 <+: ρ → Evo K ρ0 ρ H0 H → RS K H ρ S → stayOk src.stay S = true → G H) ∧
    ∀ ρ H S i x H', i < src.items.length → ρ0 <+: ρ → Evo K ρ0 ρ H0 H → RS K H ρ S → stayOk src.stay S = true → Y i H x H' → Evo K ρ ρ H H' ∧ RS K H' ρ S ∧ ∃ d, src.items[i]? = some d ∧ RV K H' ρ d x
abbrev SI := Env → Store → Ou Src
def rdI (K : Gb) (W : WX) (f : SI) : TI := fun σ H R => ∃ ρ e S, RS K H ρ S ∧ REnv K H ρ e σ ∧ (f e S).sat K (fun c dd H' => W c dd σ H') ρ H fun ρ' H' _ src => ∀ J, Wk K J ρ' H' src → R J H'
def DI (X : Cx) (W : WX) (tg it : Expr) (f : SI) : Prop := PI X tg it (rdI X.gb W f)
theorem _root_.L2.PI.imp {X : Cx} {tg e : Expr} {t t' : TI} (h : PI X tg e t) (k : ∀ σ H R, t' σ H R → t σ H R) : PI X tg e t' := ⟨fun pins s σ H R I q => h.run pins s σ H R I (k _ _ _ q)⟩

section
variable {K : Gb} {ρ : List Addr} {H : Hp} {S : Store}
theorem stay_list {n : Nat} {xs : List D} {a : Addr} (hn : ρ[n]? = some a) {ρ' : List Addr} {H' : Hp} {S' : Store} (p : ρ <+: ρ') (rs : RS K H' ρ' S') (h : stayOk [(n, xs)] S' = true) : ∃ vs, SqL K.K H' a vs ∧ RVs K H' ρ' xs vs := by
  unfold stayOk at h
  rw [Bool.and_eq_true] at h
  have hn' := pre_get p hn
  split at h
  · rename_i ys hc
    obtain ⟨b, hb, vs, e, r⟩ := rs.at_ n _ hc
    rw [hn'] at hb; cases hb
    rw [dsEq_eq h.1] at r
    exact ⟨vs, SqL.of e, r⟩
  · rename_i ys hc
    obtain ⟨b, hb, vs, e, r⟩ := rs.at_ n _ hc
    rw [hn'] at hb; cases hb
    rw [dsEq_eq h.1] at r
    exact ⟨vs, .inl e, r⟩
  · cases h.1
end

/-! #### a list, a tuple, a text -/
def itS (d : D) (S : Store) : Ou Src :=
  match d with
  | .tup xs => .ok ⟨xs, []⟩ S
  | .str z => .ok ⟨z.cps.toList.map fun c => .str ⟨#[c]⟩, []⟩ S
  | .loc n => match S[n]? with
    | some (.lst xs) => .ok ⟨xs, [(n, xs)]⟩ S
    | some (.rol xs) => .ok ⟨xs, [(n, xs)]⟩ S
    | _ => .no
  | _ => .no
def iOf (fa : SE) : SI := fun e S => (fa e S).bind itS
section
variable {X : Cx} {tg e : Expr} {te : TE}
/-- a list, a tuple or a text, whichever it is -/
def iAny (K : Gb) (tl : TE) : TI := fun σ H R => tl σ H fun x H1 => (∃ a xs, x = .ref a ∧ SqL K.K H1 a xs ∧ R (Itl K.K a) H1) ∨ (∃ a xs, x = .ref a ∧ SqT K.K H1 a xs ∧ R (Itt K.K a) H1) ∨ ∃ z, x = .str z ∧ R (Its z) H1
theorem pi_any (he : PE X e te) : PI X tg e (iAny X.gb te) := by
  refine ⟨fun pins s σ H R I h => thn (he.run pins s σ H _ I h) fun v s1 ⟨x, H1, I1, r1, q1⟩ => ?_⟩
  have one : ∀ b ∈ [s1.heap.objs.size], FpOk X pins H1 b := fun b hb => by
    cases List.mem_singleton.mp hb
    exact I1.fpOk (Nat.le_refl _) (I1.hok.fresh (Nat.le_refl _))
  have push : ∀ o, Inv X pins σ H1 { s1 with heap := s1.heap.push o } := fun o => I1.kept (t' := s1.toks) fun b u e => Heap.get?_push_of_some _ e
  rcases q1 with ⟨a, xs, rfl, hq, q⟩ | ⟨a, xs, rfl, hq, q⟩ | ⟨z, rfl, q⟩
  · cases r1
    obtain ⟨its, rv, p, _⟩ := I1.list hq
    exact wpAny_pyIter_list p.isList ⟨_, [_], _, _, H1, rfl, push _, turn_list a _, ⟨_, Heap.get?_push_size _ rfl, rfl, rfl⟩, one, q⟩
  · cases r1
    obtain ⟨its, rv, p, _⟩ := I1.tuple hq
    exact wpAny_pyIter_tuple (show s1.heap.IsTuple a its.toArray from p) ⟨_, [_], _, _, H1, rfl, push _, turn_tuple a _, ⟨_, Heap.get?_push_size _ rfl, rfl, rfl⟩, one, q⟩
  · obtain ⟨t, rfl⟩ := r1
    cases hz : z.cps.all (· < 128)
    · exact wpAny_pyIter_wide hz (pi_one (tk := s1.toks) I1 _ (turn_str _ z t "str_iterator" (.inr rfl)) ⟨_, Heap.get?_push_size _ rfl, rfl, rfl⟩ q)
    · exact wpAny_pyIter_ascii hz (pi_one (tk := s1.toks) I1 _ (turn_str _ z t "str_ascii_iterator" (.inl rfl)) ⟨_, Heap.get?_push_size _ rfl, rfl, rfl⟩ q)
theorem wk_list {K : Gb} {ρ : List Addr} {H : Hp} {n : Nat} {xs : List D} {a : Addr} (hn : ρ[n]? = some a) : Wk K (Itl K.K a) ρ H ⟨xs, [(n, xs)]⟩ := by
  refine ⟨fun H' => ∃ vs, vs.length = xs.length ∧ SqL K.K H' a vs, fun i H1 x H2 => H2 = H1 ∧ ∀ vs, SqL K.K H1 a vs → vs[i]? = some x, ?_, fun ρ' H' S' p ev rs st => ?_, fun ρ' H' S' i x H'' hi p ev rs st y => ?_⟩
  · refine ⟨fun i H' hi ⟨vs, hl, q⟩ => ⟨vs, vs[i]'(by rw [hl]; exact hi), q, by simp⟩, fun H' ⟨vs, hl, q⟩ => ⟨vs, q, Nat.le_of_eq hl⟩, fun i H1 x H2 _ _ y => y⟩
  · obtain ⟨vs, q, r⟩ := stay_list hn p rs st
    exact ⟨vs, r.length.symm, q⟩
  · obtain ⟨rfl, y⟩ := y
    obtain ⟨vs, q, r⟩ := stay_list hn p rs st
    obtain ⟨d, hd⟩ : ∃ d, xs[i]? = some d := ⟨_, List.getElem?_eq_getElem hi⟩
    obtain ⟨v, hv, rv⟩ := r.get hd
    have := y vs q
    rw [hv] at this; cases this
    exact ⟨Evo.refl, rs, d, hd, rv⟩
theorem wk_tup {K : Gb} {ρ : List Addr} {H : Hp} {xs : List D} {vs : List V} {a : Addr} (ht : H a = some (.tup vs)) (hr : RVs K H ρ xs vs) : Wk K (Itt K.K a) ρ H ⟨xs, []⟩ := by
  refine ⟨fun H' => SqT K.K H' a vs, YAt vs, by rw [hr.length]; exact walk_tup, fun ρ' H' S' p ev rs st => SqT.of (ev.tup _ _ ht), fun ρ' H' S' i x H'' hi p ev rs st y => ?_⟩
  obtain ⟨rfl, y⟩ := y
  obtain ⟨d, hd⟩ : ∃ d, xs[i]? = some d := ⟨_, List.getElem?_eq_getElem hi⟩
  obtain ⟨v, hv, rv⟩ := (hr.mono p ev).get hd
  rw [hv] at y; cases y
  exact ⟨Evo.refl, rs, d, hd, rv⟩
theorem wk_str {K : Gb} {ρ : List Addr} {H : Hp} {z : Str} : Wk K (Its z) ρ H ⟨z.cps.toList.map fun c => .str ⟨#[c]⟩, []⟩ := by
  refine ⟨fun _ => True, _, by (have := walk_str (z := z)); simpa using this, fun _ _ _ _ _ _ _ => trivial, fun ρ' H' S' i x H'' hi p ev rs st y => ?_⟩
  obtain ⟨rfl, c, hc, rfl⟩ := y
  exact ⟨Evo.refl, rs, .str ⟨#[c]⟩, by simp [hc], rfl⟩
theorem di_any {W : WX} {fa : SE} (he : DE X W e fa) : DI X W tg e (iOf fa) :=
  (pi_any he).imp fun σ H R ⟨ρ, e, S, rs, re, h⟩ => rd_one rs re h fun ρ1 H1 S1 d v p ev rs1 re1 rv h1 => by
    unfold itS at h1
    split at h1
    · simp only [RV] at rv
      obtain ⟨a, vs, rfl, ht, hr⟩ := rv
      exact .inr (.inl ⟨a, vs, rfl, SqT.of ht, h1 ρ1 H1 (List.prefix_refl _) Evo.refl rs1 _ (wk_tup ht hr)⟩)
    · simp only [RV] at rv
      exact .inr (.inr ⟨_, rv, h1 ρ1 H1 (List.prefix_refl _) Evo.refl rs1 _ wk_str⟩)
    · rename_i n
      simp only [RV] at rv
      obtain ⟨a, hn, rfl⟩ := rv
      split at h1
      · rename_i xs hc
        obtain ⟨b, hb, vs, e, r⟩ := rs1.at_ n _ hc
        rw [hn] at hb; cases hb
        exact .inl ⟨a, vs, rfl, SqL.of e, h1 ρ1 H1 (List.prefix_refl _) Evo.refl rs1 _ (wk_list hn)⟩
      · rename_i xs hc
        obtain ⟨b, hb, vs, e, r⟩ := rs1.at_ n _ hc
        rw [hn] at hb; cases hb
        exact .inl ⟨a, vs, rfl, .inl e, h1 ρ1 H1 (List.prefix_refl _) Evo.refl rs1 _ (wk_list hn)⟩
      · exact h1.elim
    · exact h1.elim
end

/-! #### ranges -/
def rangeD (lo c : Int) (n : Nat) : List D := (List.range n).map fun i => .int (lo + (i : Nat) * c)
theorem rangeD_length {lo c : Int} {n : Nat} : (rangeD lo c n).length = n := by simp [rangeD]
def rng1S (xs : List D) (S : Store) : Ou Src := match xs with
  | [.int j] => if -4096 ≤ j ∧ j ≤ 4096 then .ok ⟨rangeD 0 1 j.toNat, []⟩ S else .no
  | _ => .no
def rng2S (xs : List D) (S : Store) : Ou Src := match xs with
  | [.int i, .int j] => if (-4096 ≤ i ∧ i ≤ 4096) ∧ -4096 ≤ j ∧ j ≤ 4096 then .ok ⟨rangeD i 1 (j - i).toNat, []⟩ S else .no
  | _ => .no
def iRng (g : List D → Store → Ou Src) (fa : SA) : SI := fun e S => (fa e S).bind g
theorem wk_range {K : Gb} {ρ : List Addr} {H : Hp} {lo : Int} {n : Nat} : Wk K (Itr lo n) ρ H ⟨rangeD lo 1 n, []⟩ := by
  refine ⟨fun _ => True, _, by (have := walk_range (lo := lo) (n := n)); rw [rangeD_length]; exact this, fun _ _ _ _ _ _ _ => trivial, fun ρ' H' S' i x H'' hi p ev rs st y => ?_⟩
  obtain ⟨rfl, rfl⟩ := y
  have hi' : i < n := by rw [rangeD_length] at hi; exact hi
  refine ⟨Evo.refl, rs, .int (lo + i), ?_, rfl⟩
  unfold rangeD
  simp [hi']
section
variable {X : Cx} {W : WX} {tg a b : Expr} {fr : SA} {p pos : Pos}
theorem di_range1 (hg : Gl X "range") (hm : X.mg "range" = none) (ha : DA X W [a] fr) (hs : starEach [a] X.env = [(false, eval a X.env)] := by rfl) : DI X W tg (.Call (.Name "range" p) [a] [] pos) (iRng rng1S fr) :=
  (pi_range1 hg hm ha hs).imp fun σ H R ⟨ρ, e, S, rs, re, h⟩ => rd_args rs re h fun ρ1 H1 S1 ds vs p ev rs1 re1 rv h1 => by
    unfold rng1S at h1
    split at h1
    · split at h1
      · rename_i hj
        obtain ⟨v, rfl, r⟩ := rv.one
        simp only [RV] at r
        subst r
        exact ⟨_, rfl, by omega, by omega, h1 ρ1 H1 (List.prefix_refl _) Evo.refl rs1 _ wk_range⟩
      · exact h1.elim
    · exact h1.elim
theorem di_range2 (hg : Gl X "range") (hm : X.mg "range" = none) (ha : DA X W [a, b] fr) (hs : starEach [a, b] X.env = [(false, eval a X.env), (false, eval b X.env)] := by rfl) (hs2 : starEach [b] X.env = [(false, eval b X.env)] := by rfl) :
    DI X W tg (.Call (.Name "range" p) [a, b] [] pos) (iRng rng2S fr) :=
  (pi_range2 hg hm ha hs hs2).imp fun σ H R ⟨ρ, e, S, rs, re, h⟩ => rd_args rs re h fun ρ1 H1 S1 ds vs p ev rs1 re1 rv h1 => by
    unfold rng2S at h1
    split at h1
    · split at h1
      · rename_i hj
        obtain ⟨v, w, rfl, r, r'⟩ := rv.two
        simp only [RV] at r r'
        subst r r'
        exact ⟨_, _, rfl, ⟨by omega, by omega, by omega, by omega⟩, h1 ρ1 H1 (List.prefix_refl _) Evo.refl rs1 _ wk_range⟩
      · exact h1.elim
    · exact h1.elim
end
/-! #### enumerate of a list -/
def pairsD (xs : List D) : List D := xs.zipIdx.map fun p => .tup [.int (p.2 : Nat), p.1]
def enumS (xs : List D) (S : Store) : Ou Src := match xs with
  | [.loc n] => match S[n]? with
    | some (.lst ys) => .ok ⟨pairsD ys, [(n, ys)]⟩ S
    | some (.rol ys) => .ok ⟨pairsD ys, [(n, ys)]⟩ S
    | _ => .no
  | _ => .no
theorem wk_enum {K : Gb} {ρ : List Addr} {H : Hp} {n : Nat} {xs : List D} {a : Addr} (hn : ρ[n]? = some a) : Wk K (Ite K.K a) ρ H ⟨pairsD xs, [(n, xs)]⟩ := by
  have hlen : (pairsD xs).length = xs.length := by simp [pairsD]
  refine ⟨fun H' => ∃ vs, vs.length = xs.length ∧ SqL K.K H' a vs, fun i H1 x H2 => ∃ T y, x = .ref T ∧ H1 T = none ∧ H2 = upd H1 T (.tup [.int (i : Nat), y]) ∧ ∀ vs, SqL K.K H1 a vs → vs[i]? = some y, ?_, fun ρ' H' S' p ev rs st => ?_, fun ρ' H' S' i x H'' hi p ev rs st y => ?_⟩
  · refine ⟨fun i H' hi ⟨vs, hl, q⟩ => ?_, fun H' ⟨vs, hl, q⟩ => ?_, fun i H1 x H2 _ _ y => ?_⟩
    · have hi' : i < vs.length := by rw [hl, ← hlen]; exact hi
      exact ⟨vs, vs[i], q, by simp⟩
    · exact ⟨vs, q, by dsimp only; rw [hl, hlen]; exact Nat.le_refl _⟩
    · obtain ⟨T, y', h1, h2, h3, h4⟩ := y
      exact ⟨T, y', h1, h2, h3, h4⟩
  · obtain ⟨vs, q, r⟩ := stay_list hn p rs st
    exact ⟨vs, r.length.symm, q⟩
  · obtain ⟨T, y', rfl, hT, rfl, hy⟩ := y
    obtain ⟨vs, q, r⟩ := stay_list hn p rs st
    have hi' : i < xs.length := by rw [← hlen]; exact hi
    obtain ⟨v, hv, rv⟩ := r.get (List.getElem?_eq_getElem hi')
    have e := hy vs q
    rw [hv] at e; cases e
    refine ⟨Evo.fresh hT, rs.fresh hT, .tup [.int (i : Nat), xs[i]], ?_, ?_⟩
    · unfold pairsD
      simp [hi']
    · simp only [RV]
      refine ⟨T, _, rfl, upd_same, ?_⟩
      simp only [RVs]
      exact ⟨_, _, rfl, rfl, _, _, rfl, rv.mono (List.prefix_refl _) (Evo.fresh hT), rfl⟩
theorem di_enum {X : Cx} {W : WX} {e : Expr} {fr : SA} {p pos tpos : Pos} {elts : List Expr} {kk : Nat} (hg : Gl X "enumerate") (hm : X.mg "enumerate" = none) (ha : DA X W [e] fr) (hs : starEach [e] X.env = [(false, eval e X.env)] := by rfl) :
    DI X W (.Tuple elts kk tpos) (.Call (.Name "enumerate" p) [e] [] pos) (iRng enumS fr) :=
  (pi_enum hg hm ha hs).imp fun σ H R ⟨ρ, e, S, rs, re, h⟩ => rd_args rs re h fun ρ1 H1 S1 ds vs p ev rs1 re1 rv h1 => by
    unfold enumS at h1
    split at h1
    · rename_i n
      obtain ⟨v, rfl, r⟩ := rv.one
      simp only [RV] at r
      obtain ⟨a, hn, rfl⟩ := r
      split at h1
      · rename_i xs hc
        obtain ⟨b, hb, vs, e, r⟩ := rs1.at_ n _ hc
        rw [hn] at hb; cases hb
        exact ⟨a, vs, rfl, SqL.of e, h1 ρ1 H1 (List.prefix_refl _) Evo.refl rs1 _ (wk_enum hn)⟩
      · rename_i xs hc
        obtain ⟨b, hb, vs, e, r⟩ := rs1.at_ n _ hc
        rw [hn] at hb; cases hb
        exact ⟨a, vs, rfl, .inl e, h1 ρ1 H1 (List.prefix_refl _) Evo.refl rs1 _ (wk_enum hn)⟩
      · exact h1.elim
    · exact h1.elim

/-! ### for -/
def forL (st : List (Nat × List D)) (g : SG) (body : SS) : List D → Env → Store → Os
  | [], e, S => if stayOk st S = true then .nx e S else .no
  | x :: r, e, S => if stayOk st S = true then match g x e S with
      | .nx e1 S1 => match body e1 S1 with
        | .nx e2 S2 => forL st g body r e2 S2
        | .ct e2 S2 => forL st g body r e2 S2
        | .bk e2 S2 => .nx e2 S2
        | o => o
      | _ => .no
    else .no
def sFor (fi : SI) (g : SG) (body : SS) : SS := fun e S => (fi e S).toS e fun src S1 => forL src.stay g body src.items e S1
section
variable {X : Cx} {W : WX} {tg it : Expr} {fi : SI} {g : SG} {body : SS} {sts : List Stmt} {pos : Pos}
theorem forL_stay {st : List (Nat × List D)} {xs : List D} {e : Env} {S : Store} {K : Gb} {ρ : List Addr} {H : Hp} {F : Ends} (h : (forL st g body xs e S).sat K W ρ H F) : stayOk st S = true := by
  cases q : stayOk st S with
  | true => rfl
  | false =>
    cases xs <;> (unfold forL at h; rw [q] at h; exact h.elim)
theorem ds_for (hp : PassesOwn (model X.prog X.w) X.A X.env X.xe) (hc : X.calm = true) (hi : DI X W tg it fi) (hg : DG X W tg g) (only : ∀ d e S, (∃ e' S', g d e S = .nx e' S') ∨ g d e S = .no) (hb : DSs X W sts body)
    (hs : ∀ x, foldedSetIterable it X.env x = pure x := by intro _; rfl) : DS X W (.For tg it sts [] pos) (sFor fi g body) := by
  refine (ps_for hp hc hi hg hb hs).imp fun F σ H ⟨ρ, e, S, rs, re, h⟩ => ?_
  refine ⟨ρ, e, S, rs, re, (Ou.sat.toS re h).imp fun ρ0 H0 S0 src p0 ev0 rs0 h0 J wk => ?_⟩
  obtain ⟨G, Y, w, hG, hY⟩ := wk.ex
  refine for_it w (fun i σ' H' => ∃ ρ' e' S', ρ0 <+: ρ' ∧ Evo X.gb ρ0 ρ' H0 H' ∧ RS X.gb H' ρ' S' ∧ REnv X.gb H' ρ' e' σ' ∧ (forL src.stay g body (src.items.drop i) e' S').sat X.gb W ρ' H' F)
    ⟨ρ0, e, S0, List.prefix_refl _, Evo.refl, rs0, re.mono p0 ev0, h0⟩ (fun i σ' H' _ ⟨ρ', e', S', p, ev, rs', re', h'⟩ => hG ρ' H' S' p ev rs' (forL_stay h')) ?_ ?_
  · rintro i x σ' H' H'' hi ⟨ρ', e', S', p, ev, rs', re', h'⟩ y
    have st := forL_stay h'
    obtain ⟨ev2, rs2, d, hd, rv⟩ := hY ρ' H' S' i x H'' hi p ev rs' st y
    have hdrop : src.items.drop i = d :: src.items.drop (i + 1) := by
      rw [List.drop_eq_getElem_cons hi]
      congr 1
      have := List.getElem?_eq_getElem hi
      rw [hd] at this
      exact (Option.some.inj this).symm
    rw [hdrop, forL, if_pos st] at h'
    refine ⟨ρ', e', S', d, rs2, re'.mono (List.prefix_refl _) ev2, rv, ?_⟩
    rcases only d e' S' with ⟨e1, S1, q⟩ | q
    · rw [q] at h' ⊢
      dsimp only at h'
      refine fun ρ3 H3 σ3 p3 ev3 rs3 re3 _ => ⟨ρ3, e1, S1, rs3, re3, ?_⟩
      have evT : Evo X.gb ρ' ρ3 H' H3 := ev2.trans ev3
      have h3 := Os.sat.left h' p3 evT
      cases qb : body e1 S1 with
      | nx e2 S2 =>
        rw [qb] at h3
        exact fun ρ4 H4 σ4 p4 ev4 rs4 re4 => ⟨ρ4, e2, S2, (p.trans p3).trans p4, (ev.trans evT).trans ev4, rs4, re4, Os.sat.left h3 p4 ev4⟩
      | ct e2 S2 =>
        rw [qb] at h3
        exact fun ρ4 H4 σ4 p4 ev4 rs4 re4 => ⟨ρ4, e2, S2, (p.trans p3).trans p4, (ev.trans evT).trans ev4, rs4, re4, Os.sat.left h3 p4 ev4⟩
      | bk e2 S2 => rw [qb] at h3; exact h3
      | rt d2 S2 => rw [qb] at h3; exact h3
      | er c fs e2 S2 => rw [qb] at h3; exact h3
      | no => rw [qb] at h3; exact h3.elim
    · rw [q] at h'
      exact h'.elim
  · rintro σ' H' ⟨ρ', e', S', p, ev, rs', re', h'⟩
    have st := forL_stay h'
    rw [List.drop_length, forL, if_pos st] at h'
    exact h' ρ' H' σ' (List.prefix_refl _) Evo.refl rs' re'
end

/-! ### while -/
def whileL (gc : ST) (body : SS) : Nat → Env → Store → Os
  | 0, _, _ => .no
  | n + 1, e, S => (gc e S).toS e fun b S1 => if b = true then match body e S1 with
    | .nx e2 S2 => whileL gc body n e2 S2
    | .ct e2 S2 => whileL gc body n e2 S2
    | .bk e2 S2 => .nx e2 S2
    | o => o
    else .nx e S1
def sWhile (gc : ST) (body : SS) : SS := whileL gc body 5000
theorem ds_while {X : Cx} {W : WX} {c : Expr} {gc : ST} {body : SS} {sts : List Stmt} {pos : Pos} (hp : PassesOwn (model X.prog X.w) X.A X.env X.xe) (hc : DT X W c gc) (hb : DSs X W sts body) : DS X W (.While c sts [] pos) (sWhile gc body) := by
  refine (ps_while hp hc hb).imp fun F σ H ⟨ρ, e, S, rs, re, h⟩ => ?_
  refine ⟨fun m σ' H' => ∃ ρ' e' S', RS X.gb H' ρ' S' ∧ REnv X.gb H' ρ' e' σ' ∧ (whileL gc body m e' S').sat X.gb W ρ' H' F, ⟨5000, ρ, e, S, rs, re, h⟩, ?_⟩
  rintro m σ' H' ⟨ρ', e', S', rs', re', h'⟩
  cases m with
  | zero => exact h'.elim
  | succ n =>
    unfold whileL at h'
    refine rd_stT rs' re' h' fun ρ1 H1 S1 b p ev rs1 re1 h1 => ?_
    cases b with
    | false => exact h1 ρ1 H1 σ' (List.prefix_refl _) Evo.refl rs1 re1
    | true =>
      rw [if_pos rfl] at h1
      refine ⟨fun σ2 H2 => ∃ ρ2 e2 S2, RS X.gb H2 ρ2 S2 ∧ REnv X.gb H2 ρ2 e2 σ2 ∧ (whileL gc body n e2 S2).sat X.gb W ρ2 H2 F, fun σ2 H2 q => ⟨n, Nat.lt_succ_self _, q⟩, ρ1, e', S1, rs1, re1, ?_⟩
      cases qb : body e' S1 with
      | nx e2 S2 => rw [qb] at h1; exact fun ρ4 H4 σ4 p4 ev4 rs4 re4 => ⟨ρ4, e2, S2, rs4, re4, Os.sat.left h1 p4 ev4⟩
      | ct e2 S2 => rw [qb] at h1; exact fun ρ4 H4 σ4 p4 ev4 rs4 re4 => ⟨ρ4, e2, S2, rs4, re4, Os.sat.left h1 p4 ev4⟩
      | bk e2 S2 => rw [qb] at h1; exact h1
      | rt d2 S2 => rw [qb] at h1; exact h1
      | er c fs e2 S2 => rw [qb] at h1; exact h1
      | no => rw [qb] at h1; exact h1.elim

/-! ### list comprehensions -/
def wipeD (e : Env) : List Nat → Env
  | [] => e
  | v :: vs => (wipeD e vs).set v none
def Ou.quiet {α : Type} : Ou α → Ou α
  | .er _ _ _ => .no
  | m => m
def lcL (st : List (Nat × List D)) (n : Nat) (g : SG) (tt : ST) (fe : SE) (e : Env) : List D → Store → Ou Unit
  | [], S => if stayOk st S = true then .ok () S else .no
  | x :: r, S => if stayOk st S = true then match g x e S with
      | .nx e1 S1 => (tt e1 S1).quiet.bind fun b S2 => if b = true then (fe e1 S2).quiet.bind fun y S3 => match S3[n]? with
          | some (.lst acc) => if acc.length < 4096 then lcL st n g tt fe e r (S3.set n (.lst (acc ++ [y]))) else .no
          | _ => .no
        else lcL st n g tt fe e r S2
      | _ => .no
    else .no
def eLc (fi : SI) (g : SG) (tt : ST) (fe : SE) (own : List Nat) : SE := fun e S => (fi e S).bind fun src S1 => (lcL src.stay S1.length g tt fe (wipeD e own) src.items (S1 ++ [.lst []])).bind fun _ S2 => .ok (.loc S1.length) S2
def tYes : ST := fun _ S => .ok true S
theorem REnv.wipe {K : Gb} {H : Hp} {ρ : List Addr} {e : Env} {σ : L2.St} (re : REnv K H ρ e σ) : ∀ own : List Nat, REnv K H ρ (wipeD e own) (L2.wipe σ own)
  | [] => re
  | v :: vs => by
    have ih := REnv.wipe re vs
    refine ⟨by simp [wipeD, L2.wipe, ih.1], fun i d h => ?_⟩
    unfold wipeD at h
    unfold L2.wipe
    by_cases hi : v = i
    · subst hi
      by_cases hl : v < (wipeD e vs).length
      · rw [List.getElem?_set_self hl] at h; cases h
      · rw [List.getElem?_eq_none (by simpa using hl)] at h; cases h
    · rw [List.getElem?_set_ne hi] at h ⊢
      exact ih.2 i d h
theorem sat_quiet {K : Gb} {α : Type} {E E' : XK} {ρ : List Addr} {H : Hp} {R : List Addr → Hp → Store → α → Prop} {m : Ou α} (h : m.quiet.sat K E ρ H R) : m.sat K E' ρ H R := by
  cases m with
  | ok a S => exact h
  | er c fs S => exact h.elim
  | no => exact h
theorem quiet_bind {K : Gb} {α β : Type} {E E' : XK} {ρ : List Addr} {H : Hp} {R : List Addr → Hp → Store → β → Prop} {m : Ou α} {k : α → Store → Ou β} (h : (m.quiet.bind k).sat K E ρ H R) :
    m.sat K E' ρ H fun ρ' H' S' a => (k a S').sat K E ρ' H' R := sat_quiet (E := E) (by
  cases m with
  | ok a S => exact Ou.sat.bind (m := .ok a S) h
  | er c fs S => exact h.elim
  | no => exact h.elim)
def W0 : WX := fun _ _ _ _ => False
section
variable {X : Cx} {W : WX} {tg it elt : Expr} {fi : SI} {g : SG} {gt : ST} {fe : SE} {ifs : List Expr} {own : List (Str × Nat)} {scope : Scope} {pos : Pos}
def DTs (X : Cx) (W : WX) (ifs : List Expr) (f : ST) : Prop := PTs X ifs (rdT X.gb W f)
theorem _root_.L2.PTs.imp {X : Cx} {ifs : List Expr} {t t' : TT} (h : PTs X ifs t) (k : ∀ σ H Q, t' σ H Q → t σ H Q) : PTs X ifs t' := ⟨fun pins s σ H Q I q => h.run pins s σ H Q I (k _ _ _ q)⟩
theorem dts_nil : DTs X W [] B.tYes := pts_nil.imp fun σ H Q ⟨ρ, e, S, rs, re, h⟩ => h ρ H (List.prefix_refl _) Evo.refl rs
theorem dts_one {c : Expr} {gc : ST} (h : DT X W c gc) : DTs X W [c] gc := pts_one h
theorem lcL_stay {K : Gb} {st : List (Nat × List D)} {n : Nat} {e : Env} {xs : List D} {S : Store} {E : XK} {ρ : List Addr} {H : Hp} {R : List Addr → Hp → Store → Unit → Prop} (h : (lcL st n g gt fe e xs S).sat K E ρ H R) : stayOk st S = true := by
  cases q : stayOk st S with
  | true => rfl
  | false =>
    cases xs <;> (unfold lcL at h; rw [q] at h; exact h.elim)
/-- the block's own names alone are set -/
def Po (own : List Nat) : Rl := fun σ σ' => L2.wipe σ' own = L2.wipe σ own
theorem pre_o {own : List Nat} : Pre (Po own) := ⟨fun _ => rfl, fun _ _ _ h1 h2 => h2.trans h1⟩
theorem po_set {own : List Nat} {i : Nat} (h : i ∈ own) : ∀ (σ : L2.St) (v : V), Po own σ (σ.set i (some v)) := fun σ v => by
  show L2.wipe (σ.set i (some v)) own = L2.wipe σ own
  have comm : ∀ (l : List Nat) (τ : L2.St) (x : Option V), (L2.wipe (τ.set i x) l).set i none = (L2.wipe τ l).set i none := by
    intro l
    induction l with
    | nil => intro τ x; show (τ.set i x).set i none = τ.set i none; rw [List.set_set]
    | cons a l ih =>
      intro τ x
      show ((L2.wipe (τ.set i x) l).set a none).set i none = ((L2.wipe τ l).set a none).set i none
      by_cases ha : a = i
      · subst ha; rw [List.set_set, List.set_set]; exact ih τ x
      · rw [List.set_comm _ _ ha, List.set_comm _ _ ha, ih τ x]
  have key : ∀ (l : List Nat), i ∈ l → L2.wipe (σ.set i (some v)) l = L2.wipe σ l := by
    intro l
    induction l with
    | nil => intro h; cases h
    | cons a l ih =>
      intro hm
      show (L2.wipe (σ.set i (some v)) l).set a none = (L2.wipe σ l).set a none
      by_cases ha : a = i
      · subst ha; exact comm l σ (some v)
      · rw [ih ((List.mem_cons.mp hm).resolve_left fun z => ha z.symm)]
  exact key own h
theorem wipe_wipe {own : List Nat} (σ : L2.St) : L2.wipe (L2.wipe σ own) own = L2.wipe σ own := by
  have in_none : ∀ (l : List Nat) (i : Nat), i ∈ l → (L2.wipe σ l).set i none = L2.wipe σ l := by
    intro l
    induction l with
    | nil => intro i h; cases h
    | cons a l ih =>
      intro i h
      show ((L2.wipe σ l).set a none).set i none = (L2.wipe σ l).set a none
      by_cases ha : a = i
      · subst ha; rw [List.set_set]
      · rw [List.set_comm _ _ ha, ih i ((List.mem_cons.mp h).resolve_left fun z => ha z.symm)]
  have key : ∀ (l : List Nat), (∀ i ∈ l, i ∈ own) → L2.wipe (L2.wipe σ own) l = L2.wipe σ own := by
    intro l
    induction l with
    | nil => intro _; rfl
    | cons a l ih =>
      intro h
      show (L2.wipe (L2.wipe σ own) l).set a none = L2.wipe σ own
      rw [ih fun i hi => h i (List.mem_cons_of_mem _ hi)]
      exact in_none own a (h a List.mem_cons_self)
  exact key own fun _ h => h
theorem sat_lc {K : Gb} {own : List Nat} {E : XK} {σ : L2.St} {J : It} {src : Src} {ρ0 : List Addr} {H0 : Hp} {S0 : Store} {e : Env} {n : Nat} {Q : VK} {Dn : Addr}
    (wk : Wk K J ρ0 H0 src) (rs0 : RS K H0 ρ0 S0) (re0 : REnv K H0 ρ0 (wipeD e own) (L2.wipe σ own)) (hn : n = S0.length) (hD : H0 Dn = none) (only : ∀ d e S, (∃ e' S', g d e S = .nx e' S') ∨ g d e S = .no)
    (h : ((lcL src.stay n g gt fe (wipeD e own) src.items (S0 ++ [.lst []])).bind fun _ S2 => Ou.ok (D.loc n) S2).sat K E ρ0 H0 (Q1 K Q)) :
    ∃ Wm : Nat → Nat → Hp → Prop, (∃ m, Wm 0 m (upd H0 Dn (.lst []))) ∧ ∀ i m H, Wm i m H →
      (J.stop i H ∧ Q (.ref Dn) H) ∨ (J.go i H ∧ ∃ Nx : Hp → Prop, (∀ H', Nx H' → ∃ m', m' < m ∧ Wm (i + 1) m' H') ∧ ∀ x H', J.yld i H x H' → rdG K W0 (Po own) g x (L2.wipe σ own) H' fun σ2 H2 => L2.wipe σ2 own = L2.wipe σ own ∧ rdT K W0 gt σ2 H2 fun b H3 =>
        if b = true then rdE K W0 fe σ2 H3 fun y H4 => ∃ acc, H4 Dn = some (.lst acc) ∧ acc.length < sizeLine ∧ Nx (upd H4 Dn (.lst (acc ++ [y]))) else Nx H3) := by
  subst hn
  obtain ⟨G, Y, w, hG, hY⟩ := wk.ex
  have evD : Evo K ρ0 (ρ0 ++ [Dn]) H0 (upd H0 Dn (.lst [])) := Evo.fresh hD
  have rsD : RS K (upd H0 Dn (.lst [])) (ρ0 ++ [Dn]) (S0 ++ [.lst []]) := rs0.push hD ⟨[], upd_same, by simp only [RVs]⟩
  have hDn : (ρ0 ++ [Dn])[S0.length]? = some Dn := by rw [← rs0.len]; simp
  refine lc_it w (fun i H' => ∃ ρ' S', (ρ0 ++ [Dn]) <+: ρ' ∧ Evo K ρ0 ρ' H0 H' ∧ RS K H' ρ' S' ∧ (lcL src.stay S0.length g gt fe (wipeD e own) (src.items.drop i) S').sat K E ρ' H' fun ρ2 H2 S2 _ => Q (.ref Dn) H2)
    ⟨ρ0 ++ [Dn], S0 ++ [.lst []], List.prefix_refl _, evD, rsD, ?_⟩ (fun i H' _ ⟨ρ', S', p, ev, rs', h'⟩ => hG ρ' H' S' (pre_one.trans p) ev rs' (lcL_stay h')) ?_ ?_
  · refine ((h.left pre_one evD).bind).imp fun ρ2 H2 S2 _ p2 ev2 rs2 h2 => h2 ρ2 H2 (List.prefix_refl _) Evo.refl rs2 _ ?_
    simp only [RV]
    exact ⟨Dn, pre_get p2 hDn, rfl⟩
  · rintro i x H' H'' hi ⟨ρ', S', p, ev, rs', h'⟩ y
    have st := lcL_stay h'
    obtain ⟨ev2, rs2, d, hd, rv⟩ := hY ρ' H' S' i x H'' hi (pre_one.trans p) ev rs' st y
    have hdrop : src.items.drop i = d :: src.items.drop (i + 1) := by
      rw [List.drop_eq_getElem_cons hi]
      congr 1
      have := List.getElem?_eq_getElem hi
      rw [hd] at this
      exact (Option.some.inj this).symm
    rw [hdrop, lcL, if_pos st] at h'
    have h'' := h'.left (List.prefix_refl _) ev2
    rcases only d (wipeD e own) S' with ⟨e1, S1, q⟩ | q
    · rw [q] at h''
      dsimp only at h''
      have re2 : REnv K H'' ρ' (wipeD e own) (L2.wipe σ own) := re0.mono (pre_one.trans p) (ev.trans ev2)
      refine ⟨ρ', wipeD e own, S', d, rs2, re2, rv, ?_⟩
      · rw [q]
        refine fun ρ3 H3 σ3 p3 ev3 rs3 re3 hP3 => ⟨hP3.trans (wipe_wipe σ), ρ3, e1, S1, rs3, re3, ?_⟩
        have h3 := h''.left p3 ev3
        refine (quiet_bind h3).imp fun ρ4 H4 S4 b p4 ev4 rs4 h4 => ?_
        have pA : (ρ0 ++ [Dn]) <+: ρ4 := (p.trans p3).trans p4
        have evA : Evo K ρ0 ρ4 H0 H4 := ((ev.trans ev2).trans ev3).trans ev4
        cases b with
        | false => exact ⟨ρ4, S4, pA, evA, rs4, h4⟩
        | true =>
          rw [if_pos rfl] at h4
          refine L2.iteT ?_
          refine ⟨ρ4, e1, S4, rs4, re3.mono p4 ev4, (quiet_bind h4).imp fun ρ5 H5 S5 yd p5 ev5 rs5 h5 yv ry => ?_⟩
          split at h5
          · rename_i acc hacc
            split at h5
            · rename_i hl
              have hD5 : ρ5[S0.length]? = some Dn := pre_get (pA.trans p5) hDn
              obtain ⟨b', hb', vs, ea, ra⟩ := rs5.at_ _ _ hacc
              rw [hD5] at hb'; cases hb'
              refine ⟨vs, ea, by rw [← ra.length]; exact Nat.lt_of_lt_of_le hl (by decide), ρ5, _, pA.trans p5, (evA.trans ev5).trans (Evo.write hD5 ea trivial), rs5.write (c := .lst (acc ++ [yd])) hD5 ea trivial ⟨_, upd_same, ?_⟩, h5.left (List.prefix_refl _) (Evo.write hD5 ea trivial)⟩
              exact (ra.append (by simp only [RVs]; exact ⟨yv, [], rfl, ry, rfl⟩)).mono (List.prefix_refl _) (Evo.write hD5 ea trivial)
            · exact h5.elim
          · exact h5.elim
    · rw [q] at h''
      exact h''.elim
  · rintro H' ⟨ρ', S', p, ev, rs', h'⟩
    have st := lcL_stay h'
    rw [List.drop_length, lcL, if_pos st] at h'
    exact h' ρ' H' (List.prefix_refl _) Evo.refl rs'
theorem de_lc (hc : X.calm = true) (hN : X.N.Nodup) (hi : DI X W tg it fi) (ok : BlkOk X.N X.env.scope scope own)
    (hg : ∀ (s : Shared) (H : Hp) (C : Addr) (cl : List (Str × Addr)) (fp : List Addr), DGp (X.blk s H scope (compEnvC scope cl C X.env) fp) W0 (Po (own.map (·.2))) tg g)
    (ht : ∀ (s : Shared) (H : Hp) (C : Addr) (cl : List (Str × Addr)) (fp : List Addr), DTs (X.blk s H scope (compEnvC scope cl C X.env) fp) W0 ifs gt)
    (he : ∀ (s : Shared) (H : Hp) (C : Addr) (cl : List (Str × Addr)) (fp : List Addr), DE (X.blk s H scope (compEnvC scope cl C X.env) fp) W0 elt fe)
    (only : ∀ d e S, (∃ e' S', g d e S = .nx e' S') ∨ g d e S = .no) (hs : ∀ x, foldedSetIterable it X.env x = pure x := by intro _; rfl) :
    DE X W (.ListComp elt [⟨tg, it, ifs, 0⟩] scope pos) (eLc fi g gt fe (own.map (·.2))) :=
  (pe_lc (g := rdG X.gb W0 (Po (own.map (fun x : Str × Nat => x.2))) g) (tt := rdT X.gb W0 gt) (te := rdE X.gb W0 fe) hc hN hi ok hg ht he hs).imp fun σ H Q ⟨ρ, e, S, rs, re, h⟩ =>
    ⟨ρ, e, S, rs, re, h.bind.imp fun ρ0 H0 S0 src p0 ev0 rs0 h0 J wk Dn hD => sat_lc wk rs0 ((re.mono p0 ev0).wipe _) rfl hD only h0⟩
/-- y = [..] on one line -/
theorem ds_setLc {i : Nat} {y : Str} {py spos : Pos} (hc : X.calm = true) (hN : X.N.Nodup) (hy : X.N[i]? = some y) (hyl : X.env.scope.names.lookup y = some .local)
    (hsw : swapsWith (.ListComp elt [⟨tg, it, ifs, 0⟩] scope pos) (some (.Name y py)) spos.line X.env = pure true) (hi : DI X W tg it fi) (ok : BlkOk X.N X.env.scope scope own)
    (hg : ∀ (s : Shared) (H : Hp) (C : Addr) (cl : List (Str × Addr)) (fp : List Addr), DGp (X.blk s H scope (compEnvC scope cl C X.env) fp) W0 (Po (own.map (·.2))) tg g)
    (ht : ∀ (s : Shared) (H : Hp) (C : Addr) (cl : List (Str × Addr)) (fp : List Addr), DTs (X.blk s H scope (compEnvC scope cl C X.env) fp) W0 ifs gt)
    (he : ∀ (s : Shared) (H : Hp) (C : Addr) (cl : List (Str × Addr)) (fp : List Addr), DE (X.blk s H scope (compEnvC scope cl C X.env) fp) W0 elt fe)
    (only : ∀ d e S, (∃ e' S', g d e S = .nx e' S') ∨ g d e S = .no) (hs : ∀ x, foldedSetIterable it X.env x = pure x := by intro _; rfl) :
    DS X W (.Assign [.Name y py] (.ListComp elt [⟨tg, it, ifs, 0⟩] scope pos) spos) (sSet i (eLc fi g gt fe (own.map (·.2)))) :=
  (ps_setLc (i := i) (g := rdG X.gb W0 (Po (own.map (fun x : Str × Nat => x.2))) g) (tt := rdT X.gb W0 gt) (te := rdE X.gb W0 fe) hc hN hy hyl hsw hi ok hg ht he hs).imp fun F σ H ⟨ρ, e, S, rs, re, h⟩ => by
    have h1 : rdE X.gb W (eLc fi g gt fe (own.map (·.2))) σ H fun x H1 => gName i x σ H1 F.nx := rd_st rs re h fun ρ1 H1 S1 d v p ev rs1 re1 rv q => by
      unfold gV at q
      split at q
      · exact q ρ1 H1 _ (List.prefix_refl _) Evo.refl rs1 (re1.set rv)
      · exact q.elim
    obtain ⟨ρ', e', S', rs', re', h'⟩ := h1
    exact ⟨ρ', e', S', rs', re', h'.bind.imp fun ρ0 H0 S0 src p0 ev0 rs0 h0 J wk Dn hD => sat_lc wk rs0 ((re'.mono p0 ev0).wipe _) rfl hD only h0⟩
end
end B

set_option Elab.async false
set_option linter.all false
set_option maxRecDepth 100000
set_option maxHeartbeats 2000000
/-! BExc: exceptions of the text's own: made, kept as values, raised, asked. -/
namespace BX
open PySem PySem.W PySem.Calls PySem.HandSPX Builtin.ObjectAttr
open PyProof.Rows hiding St
/-- an own class with an __init__ of one parameter p, stored as the field f: what the written part says of it -/
structure ExcT (K : Frag) (mg : Str → Option Value) (x : Str) (C fI : Addr) (B newId initId : String) (bmB : List Value) (p f : Str) : Prop where
  gC : mg x = some (.ref C)
  base : ∃ bmN, ExcBaseFacts B newId initId bmN
  hB : bmB.contains (.type B) = true
  hA : bmB.contains (.type "AttributeError") = false
  hN : bmB.contains (.type "NameError") = false
  sto : ∃ SB, PySem.StoreFacts SB bmB "object.__setattr__" "object"
  cls : ∃ nm q N bs bm sn sub ab col dd k0 k1 k2 k3 k5, K.lookup C = some (excClassObj nm q C N bs bm true sn sub ab col dd k0 k1 k2 k3 k5 newId) ∧ excTail bmB bm = true
  sa : findIn K (.ref C) "__setattr__" = some (some (.builtin "object.__setattr__"))
  noN : findIn K (.ref C) f = some none
  iC : findIn K (.ref C) "__init__" = some (some (.ref fI))
  tC : typeIn K (.ref fI) = some (.type "function")
  kC : keepIn K (.ref C) = true
  exC : subIn K (.ref C) (.type "BaseException") = some true
  tyC : typeIn K (.ref C) = some (.type "type")
  fn : ∃ (oc : Value) (od : Option Addr) (name qual : Str) (args : Arguments) (sc : Scope) (kV doc pm : Value) (an : Option Addr) (cdv ct : Value) (osl : Array (Option Value)) (q1 q2 q3 q4 : Pos),
    K.lookup fI = some ⟨oc, od, .func (fnOf name qual args [.Assign [.Attribute (.Name "self" q1) f q2] (.Name p q3) q4] sc .none kV doc pm an cdv ct), osl⟩ ∧ codeIn K cdv qual = true ∧
      (∀ (s : Shared) (a b : Value), BindsTo s (fnOf name qual args [.Assign [.Attribute (.Name "self" q1) f q2] (.Name p q3) q4] sc .none kV doc pm an cdv ct) ⟨[a, b], []⟩ [("self", a), (p, b)]) ∧
      sc.names.lookup ("self" : Str) = some NameKind.local ∧ sc.names.lookup p = some NameKind.local ∧ sc.kind = .function ∧ sc.isCoroutine = false ∧ sc.isGenerator = false
  pdb : (p == ("__debug__" : Str)) = false
  pns : p ≠ "self"
section
variable {prog : Program} {w : World} {A : Around} {E : Value → Shared → Prop} {R : Result → Shared → Prop} {hp : Heap} {g : Array GenState} {d : Drawn} {t : Nat} {os : OsState}
theorem exc_osaB {K : Frag} {B owner : String} {bmB : List Value} {name : Str} {tk : Tok} {v : Value} {x C : Addr} {fv : Array Value} {cd : ClassData} {r : List Value} (SB : PySem.StoreFacts B bmB "object.__setattr__" owner)
    (X : K.In hp) (hx : hp.get? x = some { cls := .ref C, data := .fields fv }) (hcd : clsIn K C = some cd) (hm : cd.mro = .ref C :: r) (ht : excTail bmB r = true) (hob : bmB.contains (.type "object") = true) (hh : cd.hasDict = true) (ha : findIn K (.ref C) name = some none)
    (hq : ∀ h' tk' dx, (∀ b o, b ≠ x → hp.get? b = some o → h'.get? b = some o) → hp.objs.size ≤ dx → dx ≠ x → h'.get? x = some { cls := .ref C, dict := some dx, data := .fields fv } →
      h'.Ns1 dx (fun y => if y = name then some v else none) → R (.ok (.ret .none)) ⟨h', g, d, tk', os⟩) :
    codeAny (model prog w) A (.call (.builtin "object.__setattr__") ⟨[.ref x, .str name tk, v], []⟩) R ⟨hp, g, d, t, os⟩ := by
  have Ix : InstAt hp x { cls := .ref C, data := .fields fv } C none := ⟨hx, rfl, rfl, trivial⟩
  have SF := F.store_object
  have tl : excTail bmB cd.mro = true := by rw [hm]; exact ht
  have ne : cd.mro.isEmpty = false := by rw [hm]; rfl
  have far : x ≠ hp.objs.size := Nat.ne_of_lt (Heap.lt_size hx)
  have ob : cd.mro.contains (.type "object") = true := (excTail_contains "object" _ tl).trans hob
  have isob : Looks (model prog w) hp (isInstance (.ref x) (.type "object")) true := Ix.type.andThen (looks_mroIn X (by unfold mroIn; rw [hcd, Option.bind_some, if_neg (by rw [ne]; decide), ob]))
  refine codeAny_call_builtin SF.slot.plain SF.entry (@check_slot (model prog w) _ _ ⟨hp, g, d, t, os⟩ "object.__setattr__" "object" "__setattr__" (.ref x) [.str name tk, v] [] _ SF.kind SF.split isob (SF.args (.ref x) (.str name tk) v) ?_)
  have lm : Looks (model prog w) hp (mroOf (.ref C)) cd.mro := (looks_clsIn X hcd).andThen .now
  have lt : Looks (model prog w) hp (storeTaker? none) none := .now
  have lc : Looks (model prog w) hp (classData C) cd := looks_clsIn X hcd
  rw [osa_eq, refuse_eq]
  refine wpAny_bind (wpAny_bind (Ix.type.at (wpAny_bind (lm.at ?_))))
  rw [excTail_pass _ (SB.passes _) _ tl]
  refine wpAny_pure (wpAny_bind (Ix.type.at (wpAny_bind ((looks_findIn X ha).at (wpAny_bind (lt.at ?_))))))
  show wpAny _ _ (storeInOwnDict (.ref x) (.ref C) (.str name tk) name v false) _ _ _
  obtain ⟨nm, bs, mro, ns, qn, hd, sn, sb, ab, col, del⟩ := cd
  dsimp only at hh
  subst hh
  unfold storeInOwnDict ownDictForStores
  repeat (first | with_reducible refine store_in_new ?_ ?_ | with_reducible refine wpAny_loadPart_at hx ?_ | with_reducible refine lc.at ?_ | wp_step)
  · exact ⟨_, #[], _, (Heap.get?_update_ne _ _ _ _ far.symm).trans (Heap.get?_push_at rfl rfl), rfl, fun e he => absurd he (by simp), fun _ => rfl⟩
  · intro h' tk' hn' hs
    have hx₁ : (hp.push { cls := .type "dict", data := .dict #[] }).get? x = some { cls := .ref C, data := .fields fv } := Heap.get?_push_of_some _ hx
    refine hq h' tk' hp.objs.size (fun b o hb ho => ?_) (Nat.le_refl _) far.symm ?_ hn'
    · exact (hs.2 b (Nat.ne_of_lt (Heap.lt_size ho))).trans ((Heap.get?_update_ne _ _ _ _ hb).trans (Heap.get?_push_of_some _ ho))
    · exact (hs.2 x far).trans (Heap.get?_update_self _ hx₁ rfl)
end
/-! ### making an instance of an own class; the constructor may be a base's of the base -/
section
variable {M : Model} {A : Around} {E : Value → Shared → Prop} {h : Heap} {g : Array GenState} {d : Drawn} {t : Nat} {os : OsState}
variable {nm q : Str} {C N : Addr} {bs bm bmN : List Value} {hdct : Bool} {sn : List Str} {sub : List Value} {ab : Bool} {col : Option Bool} {dd : Option Addr} {k0 k1 k2 k3 k5 : Option Value} {B newId initId : String}
theorem new_okB (F : ExcBaseFacts B newId initId bmN) (hB : bm.contains (.type B) = true) {rest : List Value} {Q : Unit → Shared → Prop}
    (hC : h.get? C = some (excClassObj nm q C N bs bm hdct sn sub ab col dd k0 k1 k2 k3 k5 newId)) (hq : Q () ⟨h, g, d, t, os⟩) : wpAny M A (checkBuiltinCall newId ⟨.ref C :: rest, []⟩) Q E ⟨h, g, d, t, os⟩ := by
  have f1 : (Value.ref C :: bm).contains (.type B) = true := by rw [List.contains_cons, hB, Bool.or_true]
  have f2 := F.noStar
  simp only [checkBuiltinCall, F.newKind, F.newSplit, F.newRow]
  repeat (first | refine wpAny_loadPart_at hC ?_ | (refine wpAny_isSubtype_exc hC ?_; rw [f1]) | refine wpAny_staticBase_exc hC ?_ | refine wpAny_madeBy_exc hC ?_ | simp only [bne_self_eq_false, Bool.false_eq_true, if_false] | wp_step)
  exact hq
end
section
variable {prog : Program} {w : World} {A : Around} {E : Value → Shared → Prop} {R : Result → Shared → Prop} {h : Heap} {g : Array GenState} {d : Drawn} {t : Nat} {os : OsState}
variable {nm q : Str} {C N : Addr} {bs bm bmN : List Value} {hdct : Bool} {sn : List Str} {sub : List Value} {ab : Bool} {col : Option Bool} {dd : Option Addr} {k0 k1 k2 k3 k5 : Option Value} {B newId initId : String}
theorem newB (F : ExcBaseFacts B newId initId bmN) (hB : bm.contains (.type B) = true) (hA : bm.contains (.type "AttributeError") = false) (hN : bm.contains (.type "NameError") = false) {rest : List Value}
    (hC : h.get? C = some (excClassObj nm q C N bs bm hdct sn sub ab col dd k0 k1 k2 k3 k5 newId))
    (hq : R (.ok (.ret (.ref (h.objs.size + 1)))) ⟨(h.push (W.kdv_tup rest)).push (excO C h.objs.size), g, d, t, os⟩) (hrest : rest.length ≤ sizeLine) : codeAny (model prog w) A (.builtin newId ⟨.ref C :: rest, []⟩) R ⟨h, g, d, t, os⟩ := by
  have f0 := F.ends
  have f1 : (Value.ref C :: bm).contains (.type B) = true := by rw [List.contains_cons, hB, Bool.or_true]
  have f2 : (Value.ref C :: bm).contains (.type "AttributeError") = false := by rw [List.contains_cons, hA]; rfl
  have f3 : (Value.ref C :: bm).contains (.type "NameError") = false := by rw [List.contains_cons, hN]; rfl
  refine codeAny_builtinAt F.entry ?_
  unfold Builtin.«BaseException.__new__»
  refine PySem.wpAt_bind ?_
  show PySem.wpAt _ _ _ (stack >>= _) _ _ _
  refine PySem.wpAt_bind (PySem.wpAt_stack fun p below => PySem.wpAt_of_wpAny ?_)
  wp_walk
  refine PySem.wpAt_of_wpAny ?_
  rw [F.owner]
  repeat (first | with_reducible refine wpAny_madeHere_exc F.canon hC ?_ | with_reducible refine wpAny_loadPart_at hC ?_ | (with_reducible refine wpAny_isSubtype_exc hC ?_; first | rw [f1] | rw [f2] | rw [f3]) | wp_step)
  show R _ _
  rw [Heap.size_push]
  exact hq
theorem type_callB (F : ExcBaseFacts B newId initId bmN) (hB : bm.contains (.type B) = true) (hA : bm.contains (.type "AttributeError") = false) (hN : bm.contains (.type "NameError") = false) {rest : List Value} {fI : Addr} {Q : Fin → Shared → Prop}
    (hC : h.get? C = some (excClassObj nm q C N bs bm hdct sn sub ab col dd k0 k1 k2 k3 k5 newId))
    (hi : W.Looks (model prog w) h (typeLookup (.ref C) "__init__") (some (.ref fI))) (hb : ∀ self, W.Looks (model prog w) h (bindSpecial (.ref fI) self) (.ref fI, [self])) (hrest : rest.length ≤ sizeLine)
    (hq : codeAny (model prog w) A (.call (.ref fI) ⟨.ref (h.objs.size + 1) :: rest, []⟩)
      (fun r s' => match r with | .ok (.ret v) => v = .none ∧ Q (.done (.ret (.ref (h.objs.size + 1)))) s' | .ok _ => False | .error e => E e s')
      ⟨(h.push (W.kdv_tup rest)).push (excO C h.objs.size), g, d, t, os⟩) :
    wpAny (model prog w) A (Builtin.«type.__call__» ⟨.ref C :: rest, []⟩) Q E ⟨h, g, d, t, os⟩ := by
  repeat (first | with_reducible refine wpAny_loadPart_at hC ?_ | with_reducible refine wpAny_madeBy_exc hC ?_ | wp_step)
  refine codeAny_call_builtin_code (Code.quiet_builtin _ F.quiet) (new_okB F hB hC ?_)
  refine newB F hB hA hN hC ?_ hrest
  show wpAny _ _ _ _ _ _
  have kp : ∀ b o, h.get? b = some o → ((h.push (W.kdv_tup rest)).push (excO C h.objs.size)).get? b = some o := fun b o e => Heap.get?_push_of_some _ (Heap.get?_push_of_some _ e)
  have c1 := kp _ _ hC
  have c2 : ((h.push (W.kdv_tup rest)).push (excO C h.objs.size)).get? (h.objs.size + 1) = some (excO C h.objs.size) := by heap_get
  have c3 : (Value.ref C :: bm).contains (.ref C) = true := by simp
  have i1 := hi.keeps kp
  have b1 := (hb (.ref (h.objs.size + 1))).keeps kp
  unfold isInstance
  repeat (first | with_reducible refine wpAny_loadPart_at c2 ?_ | (with_reducible refine wpAny_isSubtype_exc c1 ?_; rw [c3]) | wp_step)
  show wpAny _ _ (typeLookup (.ref C) _) _ _ _
  refine i1.at ?_
  refine wpAny_holding (wpAny_bind (b1.at ?_))
  refine wpAny_bind (wpAny_call (codeAny_mono hq fun r s' z => ?_))
  rcases r with e | (v | _ | _ | _) <;> first | exact z | exact z.elim | skip
  obtain ⟨rfl, z⟩ := z
  first
    | exact wpAny_pure (wpAny_pure z)
    | (wp_walk; exact z)
theorem call_ownB (F : ExcBaseFacts B newId initId bmN) (hB : bm.contains (.type B) = true) (hA : bm.contains (.type "AttributeError") = false) (hN : bm.contains (.type "NameError") = false) {rest : List Value} {fI : Addr}
    (hC : h.get? C = some (excClassObj nm q C N bs bm hdct sn sub ab col dd k0 k1 k2 k3 k5 newId))
    (hi : W.Looks (model prog w) h (typeLookup (.ref C) "__init__") (some (.ref fI))) (hb : ∀ self, W.Looks (model prog w) h (bindSpecial (.ref fI) self) (.ref fI, [self])) (hrest : rest.length ≤ sizeLine)
    (hq : codeAny (model prog w) (A.under (.builtin "type.__call__" ⟨.ref C :: rest, []⟩)) (.call (.ref fI) ⟨.ref (h.objs.size + 1) :: rest, []⟩) (W.InitBack (h.objs.size + 1) R)
      ⟨(h.push (W.kdv_tup rest)).push (excO C h.objs.size), g, d, t, os⟩) :
    codeAny (model prog w) A (.call (.ref C) ⟨rest, []⟩) R ⟨h, g, d, t, os⟩ := by
  have f1 := tc_lookup
  have f2 := tc_bind (.ref C)
  have f3 : (⟨h, g, d, t, os⟩ : Shared).TypeIs (.ref C) "type" := ⟨_, hC, rfl⟩
  refine codeAny_of_tree ?_
  show wpAny _ _ (callAny (.ref C) _) _ _ _
  repeat (any_goals (first | assumption | with_reducible refine wpAny_loadPart_at hC ?_ | wp_step))
  refine ⟨rfl, ?_⟩
  refine codeAny_call_builtin_at (Code.quiet_builtin _ (by decide +kernel)) entry_typeCall (wpAny_check_type_call_sub hC (type_callB F hB hA hN hC hi hb hrest ?_))
  refine codeAny_mono hq fun r s' z => ?_
  rcases r with e | (v | _ | _ | _) <;> exact z
end
/-- stores on an instance of a class under KeyError -/
theorem store_KeyErr : PySem.StoreFacts "KeyError" [.type "KeyError", .type "LookupError", .type "Exception", .type "BaseException", .type "object"] "object.__setattr__" "object" where
  mro := by kernel_rfl
  slot := .of (owner := "object") (n := "__setattr__") (by rw [typeLookup_type, builtinLookup_eq_fast]; kernel_rfl) (by decide +kernel) (by decide +kernel) (by decide +kernel)
    (by first | exact .inl (by decide +kernel) | exact .inr (by decide +kernel)) (by rw [isSubtype_type]; kernel_rfl)
  entry := PySem.F.store_ValueError.entry
  kind := by decide +kernel
  split := by decide +kernel
  hasOwner := by decide +kernel
  args := fun a b c => by unfold argsOk; kernel_rfl
  passes := fun self => by kernel_rfl
/-- what __init__ leaves of a fresh exception at x -/
structure InitB (h h' : Heap) (x C dx t1 : Addr) (f : Str) (v : Value) : Prop where
  keep : ∀ b o, b ≠ x → h.get? b = some o → h'.get? b = some o
  obj : h'.get? x = some { cls := .ref C, dict := some dx, data := .fields #[.ref t1, .none, .none, .none, .bool false, .none] }
  big : h.objs.size ≤ dx
  dne : dx ≠ x
  ns : h'.Ns1 dx (fun y => if y = f then some v else none)
/-- a made exception -/
structure MadeB (h h' : Heap) (e C d : Addr) (f : Str) (v : Value) : Prop where
  keep : ∀ b o, h.get? b = some o → h'.get? b = some o
  new : h.objs.size ≤ e
  obj : ∃ t1, h'.get? e = some { cls := .ref C, dict := some d, data := .fields #[.ref t1, .none, .none, .none, .bool false, .none] }
  big : h.objs.size ≤ d
  dne : d ≠ e
  ns : h'.Ns1 d (fun y => if y = f then some v else none)
section
variable {prog : Program} {w : World} {A : Around} {E : Value → Shared → Prop} {R : Result → Shared → Prop} {s : Shared} {K : Frag} {mg : Str → Option Value} {x p f : Str} {C fI : Addr} {B newId initId : String} {bmB : List Value}
theorem hasOb (T : ExcT K mg x C fI B newId initId bmB p f) : bmB.contains (.type "object") = true := let ⟨_, z⟩ := T.sto; z.hasOwner
theorem init_B (T : ExcT K mg x C fI B newId initId bmB p f) {e t0 : Addr} {v : Value} (X : K.In s.heap) (hlim : s.heap.NoLimit) (he : s.heap.get? e = some (excO C t0)) (hroom : A.depth < recursionLimit)
    (hq : ∀ h' tk dx, InitB s.heap h' e C dx t0 f v → R (.ok (.ret .none)) { s with heap := h', toks := tk }) : codeAny (model prog w) A (.call (.ref fI) ⟨[.ref e, v], []⟩) R s := by
  obtain ⟨oc, od, name, qual, args, sc, kV, doc, pm, an, cdv, ct, osl, q1, q2, q3, q4, ho, hcd, hbi, ks, kp, kf, kco, kge⟩ := T.fn
  obtain ⟨nm, q, N, bs, bm, sn, sub, ab, col, dd, k0, k1, k2, k3, k5, hC, hbm⟩ := T.cls
  have hcl : clsIn K C = some { name := nm, bases := bs, mro := .ref C :: bm, ns := N, qualname := q, hasDict := true, slotNames := sn, subclasses := sub, abstract := ab, collection := col, hasDel := false } := by unfold clsIn; rw [hC] <;> rfl
  refine Att.call_fn (binds := [("self", .ref e), (p, v)]) X hlim ho hcd hroom (hbi s (.ref e) v) (by simp [ks, kp]) (fun s₁ ic => ?_) kco kge kf
  obtain ⟨h₁, tk₁, rfl⟩ := ic.toInCall.same
  have k : ∀ b o, s.heap.get? b = some o → h₁.get? b = some o := ic.toInCall.keep
  have X₁ : K.In h₁ := X.keeps k
  have he₁ := k _ _ he
  generalize henv : envOfC qual sc s.heap.objs.size fI cdv = env at ic
  have hk : env.scope.kind = .function := by rw [← henv]; exact kf
  have k1' : env.kindOf "self" = some .local := by rw [← henv]; exact ks
  have k2' : env.kindOf p = some .local := by rw [← henv]; exact kp
  have hL : env.locals = s.heap.objs.size := by rw [← henv]; rfl
  have hn : h₁.Ns env.locals (bindL env.kindOf [("self", .ref e), (p, v)] fun _ => none) := by rw [hL]; exact ic.toInCall.ns
  have m1 : bindL env.kindOf [("self", .ref e), (p, v)] (fun _ => none) "self" = some (.ref e) := by
    show (bindL env.kindOf [(p, v)] _) "self" = _
    unfold bindL
    rw [if_pos k2']
    show (if ("self" : Str) = p then some v else _) = _
    rw [if_neg (Ne.symm T.pns)]
    first
      | rw [if_pos k1']
        simp
      | (unfold bindL; rw [if_pos k1']; simp)
  have m2 : bindL env.kindOf [("self", .ref e), (p, v)] (fun _ => none) p = some v := by
    show (bindL env.kindOf [(p, v)] _) p = _
    unfold bindL
    rw [if_pos k2']
    unfold bindL
    simp
  show wpAny _ _ (execs _ _) _ _ _
  refine wpAny_execs_cons (plainObj_wpAny_Assign_Attribute ?_)
  refine wpAny_Name (wpAny_loadName_local hk k2' hn m2 ?_) T.pdb
  refine wpAny_Name (wpAny_loadName_local hk k1' hn m1 ?_) (by decide)
  refine set_plain X₁ (ox := excO C t0) (od := none) ⟨he₁, rfl, rfl, trivial⟩ T.sa ?_
  obtain ⟨SB, sto⟩ := T.sto
  refine exc_osaB sto X₁ he₁ hcl rfl hbm (hasOb T) rfl T.noN (fun h₃ tk₃ dx k₃ dn dne hx₃ hn₃ => ?_)
  show wpAny _ _ (execs _ _) _ _ _
  have z : s.heap.objs.size ≤ dx := by
    have : s.heap.objs.size < h₁.objs.size := by
      have := hn.lt
      rw [hL] at this
      exact this
    exact Nat.le_of_lt (Nat.lt_of_lt_of_le this dn)
  exact wpAny_execs_nil (hq h₃ tk₃ dx ⟨fun b o hb q => k₃ b o hb (k b o q), hx₃, z, dne, hn₃⟩)
theorem made_B (T : ExcT K mg x C fI B newId initId bmB p f) {v : Value} (X : K.In s.heap) (hlim : s.heap.NoLimit) (hroom : A.depth + 1 < recursionLimit)
    (hq : ∀ h' tk e d, MadeB s.heap h' e C d f v → R (.ok (.ret (.ref e))) { s with heap := h', toks := tk }) : codeAny (model prog w) A (.call (.ref C) ⟨[v], []⟩) R s := by
  obtain ⟨nm, q, N, bs, bm, sn, sub, ab, col, dd, k0, k1, k2, k3, k5, hC, hbm⟩ := T.cls
  obtain ⟨hp, g, dr, tk, os⟩ := s
  have k : ∀ b o, hp.get? b = some o → ((hp.push (kdv_tup [v])).push (excO C hp.objs.size)).get? b = some o := fun b o e => Heap.get?_push_of_some _ (Heap.get?_push_of_some _ e)
  have hget : ((hp.push (kdv_tup [v])).push (excO C hp.objs.size)).get? (hp.objs.size + 1) = some (excO C hp.objs.size) := by heap_get
  have one : ([v] : List Value).length ≤ sizeLine := by rw [sizeLine_eq]; exact (by decide : 1 ≤ 16777216)
  obtain ⟨bmN, base⟩ := T.base
  refine call_ownB base ((excTail_contains _ bm hbm).trans T.hB) ((excTail_contains _ bm hbm).trans T.hA) ((excTail_contains _ bm hbm).trans T.hN) (X _ _ hC) (looks_findIn X T.iC) (fun self => bind_fn X self T.tC) one ?_
  refine init_B (s := ⟨(hp.push (kdv_tup [v])).push (excO C hp.objs.size), g, dr, tk, os⟩) T (X.keeps k) (hlim.keeps k) hget ?_ fun h' tk' dx ⟨k', hx, dn, dne, hns⟩ => ?_
  · show A.depth + 1 < recursionLimit
    exact hroom
  · have old : ∀ b o, hp.get? b = some o → h'.get? b = some o := fun b o e => k' b o (Nat.ne_of_lt (Nat.lt_succ_of_lt (Heap.lt_size e))) (k b o e)
    have z : hp.objs.size ≤ dx := by
      have q := dn
      simp only [Heap.size_push] at q
      omega
    exact ⟨rfl, hq h' tk' (hp.objs.size + 1) dx ⟨old, Nat.le_succ _, ⟨_, hx⟩, z, dne, hns⟩⟩
end
end BX

set_option Elab.async false
set_option linter.all false
set_option maxRecDepth 100000
set_option maxHeartbeats 2000000
/-! BExc2: exceptions as values; raise; isinstance. -/
namespace BX
open PySem PySem.W PySem.Calls Builtin.ObjectAttr
open PyProof.Rows hiding St
section
variable {prog : Program} {w : World} {A : Around} {E : Value → Shared → Prop} {s : Shared} {K : Frag} {x D : Addr} {ox : Obj} {od : Option Obj}
theorem findObj_dataB {C : Addr} {name : Str} {a g : Value} (hc : (clsIn K C).isSome = true) (ha : findIn K (.ref C) name = some (some a)) (hg : specialIn K a "__get__" = some (some g)) (ht : takesIn K a = some true) : findObj K C od name = some (.bind g a) := by
  obtain ⟨cd, hc⟩ := Option.isSome_iff_exists.mp hc
  unfold findObj
  rw [hc, Option.bind_some, ha, Option.bind_some]
  simp [hg, ht]
theorem class_of_exc {Q : Option Value → Shared → Prop} (T : L2.ExcC K D) (X : K.In s.heap) (I : InstAt s.heap x ox D od) (h : Q (some (.ref D)) { s with toks := s.toks + 1 }) : wpAny (model prog w) A (getAttr? (.ref x) "__class__") Q E s := by
  have isC : (clsIn K D).isSome = true := by
    obtain ⟨cd, hc, _⟩ := any_some T.hd
    rw [hc]
    rfl
  have found : findObj K D od "__class__" = some (.bind (.builtin "getset_descriptor.__get__") (.builtin "object.__class__")) := findObj_dataB isC T.ha T.hn T.ht
  obtain ⟨hp, g, d, t, os⟩ := s
  have ly := I.type (M := model prog w)
  have lg := looks_findIn (M := model prog w) X T.hg
  have lk := looks_findIn (M := model prog w) X T.hk
  have lf := looks_find (M := model prog w) X I found
  have isE : Looks (model prog w) hp (isInstance (.ref x) (.type "BaseException")) true := ly.andThen (looks_subIn X T.hs)
  have other : (Value.builtin "BaseException.__getattribute__" == Value.builtin "object.__getattribute__") = false := by decide +kernel
  unfold getAttr? getAttrBy? getAttrBy
  refine wpAny_bind (wpAny_mkText (wpAny_bind (wpAny_attempt (wpAny_holding (wpAny_bind (ly.at (wpAny_bind (lg.at ?_))))))))
  show wpAny _ _ (if (onTheHeap (Value.ref D) && Value.builtin "BaseException.__getattribute__" == Value.builtin "object.__getattribute__") = true then _ else _) _ _ _
  rw [other, Bool.and_false, if_neg Bool.false_ne_true]
  unfold getAttrByItsOwn hookBefore
  refine wpAny_bind ?_
  rw [if_pos (show onTheHeap (Value.ref D) = true from rfl)]
  refine lk.at (wpAny_bind (wpAny_attempt (wpAny_holding ?_)))
  unfold callGetattribute
  rw [show (false && onTheHeap (Value.builtin "BaseException.__getattribute__")) = false from rfl, if_neg Bool.false_ne_true]
  unfold boundAndCalled
  rw [PySem.F.excAttr_ValueError.ga.bind (.ref x)]
  refine wpAny_bind (wpAny_pure ?_)
  show wpAny _ _ (call (.builtin "BaseException.__getattribute__") [.ref x, .str "__class__" t]) _ _ _
  refine wpAny_call (codeAny_call_builtin PySem.F.excAttr_ValueError.ga.plain PySem.F.entry_bexc_ga ?_)
  refine @check_slot (model prog w) _ _ ⟨hp, g, d, t + 1, os⟩ "BaseException.__getattribute__" "BaseException" "__getattribute__" (.ref x) [.str "__class__" t] [] _ (by decide +kernel) (by decide +kernel) isE (PySem.F.args_bexc_ga (.ref x) (.str "__class__" t)) ?_
  unfold Builtin.«object.__getattribute__»
  refine wpAny_bind (wpAny_of_eq (a := ((Value.ref x : Value), [Value.str "__class__" t])) (by first | rfl | (simp only [slotArgs]; rfl)) ?_)
  refine wpAny_bind (wpAny_pure (wpAny_bind (ly.at (wpAny_bind (lf.at ?_)))))
  show wpAny _ _ (holding [Value.builtin "object.__class__"] (call (.builtin "getset_descriptor.__get__") [.builtin "object.__class__", .ref x, .ref D]) >>= ret) _ _ _
  refine wpAny_bind (wpAny_holding (wpAny_call (class_get (s := ⟨hp, g, d, t + 1, os⟩) (ox := ox) (od := od) X I T.hm ?_)))
  refine wpAny_pure ?_
  show wpAny _ _ (handedOut (.ref D)) _ _ _
  rw [handedOut_of (v := .ref D) rfl]
  first
    | exact wpAny_pure (wpAny_pure h)
    | exact wpAny_pure h
    | exact wpAny_pure (wpAny_bind (wpAny_pure (wpAny_pure h)))
theorem kitx_excB (T : L2.ExcC K D) : KitX K (.ref x) (.ref D) (fun h => InstAt h x ox D od) where
  ty := fun _ _ _ I => I.type
  it := fun _ _ X _ => by
    obtain ⟨cdD, hcD, _⟩ := any_some T.hd
    unfold clsIn at hcD
    split at hcD
    · rename_i ho
      intro A' Q' E' s' k q
      unfold isType loadHead
      exact wpAny_bind (wpAny_loadPart (k _ _ (X _ _ ho)) (wpAny_pure q))
    · cases hcD
  ne := fun h tp dd its n sl X htp => by
    obtain ⟨cdD, hcD, _⟩ := any_some T.hd
    refine Bool.eq_false_iff.mpr fun q => ?_
    cases Value.ref.inj (beq_iff_eq.mp q)
    unfold clsIn at hcD
    split at hcD
    · rename_i ho
      cases (X _ _ ho).symm.trans htp
    · cases hcD
  ca := fun X I k => class_of_exc T X I k
end
end BX

namespace B
open PySem L2
/-! ### a plain own exception, made as a value -/
def excS (x : Str) (xs : List D) (S : Store) : Ou D := match xs with
  | [_] => .ok (.loc S.length) (S ++ [.exc x none])
  | _ => .no
/-- an own exception with a field -/
def excF (x f : Str) (xs : List D) (S : Store) : Ou D := match xs with
  | [d] => .ok (.loc S.length) (S ++ [.exc x (some [(f, d)])])
  | _ => .no
section
variable {X : Cx} {W : WX} {C fI : Addr} {bmB : List Value} {Bn newId initId : String} {x p' f : Str} {e : Expr} {fe : SE} {p pos : Pos}
theorem de_exc1 (F : ExcBaseFacts Bn newId initId bmB) (q : PySem.W.excIn X.K C bmB newId = true) (gC : X.mg x = some (.ref C)) (kC : PySem.W.keepIn X.K (.ref C) = true) (hg : Gl X x) (he : DE X W e fe)
    (hs : starEach [e] X.env = (false, eval e X.env) :: starEach [] X.env := by rfl) (hdb : (x == ("__debug__" : Str)) = false := by decide) : DE X W (.Call (.Name x p) [e] [] pos) (eN (excS x) (aCons fe aNil)) :=
  (pe_exc1 F q gC kC hg he hs hdb).imp fun σ H Q ⟨ρ, e', S, rs, re, h⟩ => by
    have h' : ((fe e' S).bind fun d S1 => excS x [d] S1).sat X.gb (fun c dd H' => W c dd σ H') ρ H (Q1 X.gb Q) := by
      unfold eN aCons aNil at h
      cases q : fe e' S with
      | ok d S1 => rw [q] at h; exact h
      | er c fs S1 => rw [q] at h; exact h
      | no => rw [q] at h; exact h
    refine rd_one rs re h' fun ρ1 H1 S1 d v p1 ev1 rs1 re1 rv h1 a ha => ?_
    refine h1 (ρ1 ++ [a]) _ pre_one (Evo.fresh ha) (rs1.push ha ⟨C, none, gC, upd_same, rfl⟩) _ ?_
    simp only [RV]
    exact ⟨a, by rw [← rs1.len]; simp, rfl⟩
theorem relO_one {v : V} {u : Value} (r : RelV v u) (f g : Str) : RelO (List.lookup g [(f, v)]) (if g = f then some u else none) := by
  by_cases h : g = f
  · subst h
    simp [List.lookup]
    exact r
  · have : (g == f) = false := by simpa using h
    rw [if_neg h]
    simp [List.lookup, this]
    trivial
theorem un_two {fs ex : List Addr} {H : Hp} {h h' : Heap} {a b : Addr} {o u : HO} (k : ∀ c w, h.get? c = some w → h'.get? c = some w) (ha : h.get? a = none) (hb : h.get? b = none) (na : H a = none) (nb : H b = none) : Un fs ex H (upd (upd H a o) b u) h h' where
  keep := fun c w q _ _ _ => k c w q
  slot := fun c w q _ _ _ => ⟨w.slots, k c w q⟩
  free := fun c w q n _ => by rw [upd_ne (fun z => by rw [z, hb] at q; cases q), upd_ne (fun z => by rw [z, ha] at q; cases q)]; exact n
  there := fun c w q _ => ⟨w, k c w q⟩
  tups := fun c xs q => by rw [upd_ne (ne_of_none q nb), upd_ne (ne_of_none q na)]; exact q
  frzs := fun c w xs q => by rw [upd_ne (ne_of_none q nb), upd_ne (ne_of_none q na)]; exact q
  tbls := fun c ps q => ⟨#[], by rw [upd_ne (ne_of_none q nb), upd_ne (ne_of_none q na), q]; simp⟩
/-- what a made exception with a field leaves, tracked -/
theorem inv_made {pins : List (Addr × Obj)} {σ : L2.St} {H : Hp} {s : Shared} {h' : Heap} {tk : Nat} {e d : Addr} {v : V} {u : Value} (I : Inv X pins σ H s) (M : BX.MadeB s.heap h' e C d f u) (r : RelV v u) :
    H d = none ∧ H e = none ∧ d ≠ e ∧ Inv X pins σ (upd (upd H d (.xd [(f, v)])) e (ExV (.ref C) (some d) e)) { s with heap := h', toks := tk } := by
  have ge : s.heap.get? e = none := Heap.get?_none_of_le M.new
  have gd : s.heap.get? d = none := Heap.get?_none_of_le M.big
  have hd : H d = none := I.hok.fresh M.big
  have he : H e = none := I.hok.fresh M.new
  obtain ⟨t1, ho⟩ := M.obj
  refine ⟨hd, he, M.dne, I.un (un_two M.keep gd ge hd he) ?_⟩
  have ok1 : HOk X.prog X.w (upd H d (.xd [(f, v)])) h' := I.hok.laidN M.keep hd ⟨_, M.ns, fun g => relO_one r f g⟩
  refine ok1.laidN (fun _ _ q => q) (by rw [upd_ne M.dne.symm]; exact he) ?_
  exact ⟨⟨_, _, ho, ⟨rfl, rfl⟩, rfl, rfl, rfl, by show 4 < 6; decide⟩, ⟨_, ho⟩, fun h1 h2 ⟨oe, vs, q, z⟩ k => ⟨oe, vs, k _ q, z⟩⟩
theorem de_excF {k : Nat} (T : BX.ExcT X.K X.mg x C fI Bn newId initId bmB p' f) (hr : Room k X.A) (hg : Gl X x) (he : DE X W e fe)
    (hs : starEach [e] X.env = (false, eval e X.env) :: starEach [] X.env := by rfl) (hpl : (backTo pos (starEach [] X.env)).any (·.1) = false := by rfl) (hdb : (x == ("__debug__" : Str)) = false := by decide) :
    DE X W (.Call (.Name x p) [e] [] pos) (eN (excF x f) (aCons fe aNil)) := by
  have ha : DA X W [e] (aCons fe aNil) := da_cons he da_nil hs
  refine ⟨fun pins s σ H Q I ⟨ρ, e', S, rs, re, h⟩ => ?_⟩
  have ha' : rdA X.gb W (aCons fe aNil) σ H fun vs H1 => ∃ ρ1 ds S1, RS X.gb H1 ρ1 S1 ∧ RVs X.gb H1 ρ1 ds vs ∧ (excF x f ds S1).sat X.gb (fun c dd H' => W c dd σ H') ρ1 H1 (Q1 X.gb Q) :=
    rd_args rs re h fun ρ1 H1 S1 d v p1 ev1 rs1 re1 rv h1 => ⟨ρ1, d, S1, rs1, rv, h1⟩
  refine wpAny_Call_Name_kw (ld_glob I hg T.gC ?_ hdb)
  refine PySem.W.callWith_K (h₀ := X.base) I.ok.mod.kin T.kC (thn (ha.run pos pins s σ H _ I ha') fun us s1 ⟨vs, H1, I1, r, q⟩ => ⟨I1.kIn, ?_⟩) hs hpl
  obtain ⟨ρ1, ds, S1, rs1, rd, h1⟩ := q
  unfold excF at h1
  split at h1
  · rename_i d
    obtain ⟨v, rfl, rv⟩ := rd.one
    cases r with
    | cons r1 r2 =>
      cases r2
      rename_i u us'
      show wpAny _ _ (call (.ref C) [u]) _ _ _
      refine wpAny_call (BX.made_B T I1.kIn I1.nolimit (by have := hr.dp; omega) fun h' tk ea da M => ?_)
      obtain ⟨hd, hea, dne, J⟩ := inv_made (tk := tk) I1 M r1
      refine ⟨.ref ea, _, J, rfl, ?_⟩
      have rs2 : RS X.gb (upd H1 da (.xd [(f, v)])) ρ1 S1 := rs1.fresh hd
      have hea2 : upd H1 da (.xd [(f, v)]) ea = none := by rw [upd_ne dne.symm]; exact hea
      have ev2 : Evo X.gb ρ1 (ρ1 ++ [ea]) H1 (upd (upd H1 da (.xd [(f, v)])) ea (ExV (.ref C) (some da) ea)) := (Evo.fresh (ρ' := ρ1) hd).trans (Evo.fresh hea2)
      refine h1 (ρ1 ++ [ea]) _ pre_one ev2 (rs2.push hea2 ⟨C, some da, T.gC, upd_same, da, [(f, v)], rfl, ?_, v, [], rfl, rv.mono pre_one ev2, rfl⟩) _ ?_
      · rw [upd_ne dne, upd_same]
      · simp only [RV]
        exact ⟨ea, by rw [← rs1.len]; simp, rfl⟩
  · exact h1.elim

/-! ### raise -/
/-- raise X('..') -/
def sRaise0 (x : Str) : SS := fun e S => .er x none e S
theorem ds_raise0 {m : Str} {j : Nat} {p2 p3 : Pos} (hc : X.calm = true) (tk : Takes X W) (F : ExcBaseFacts Bn newId initId bmB) (q : PySem.W.excIn X.K C bmB newId = true) (gC : X.mg x = some (.ref C)) (kC : PySem.W.keepIn X.K (.ref C) = true) (r : Raises X (.ref C)) (hg : Gl X x)
    (hdb : (x == ("__debug__" : Str)) = false := by decide) : DS X W (.Raise (some (.Call (.Name x p) [.Constant (.str m) j p2] [] p3)) none pos) (sRaise0 x) :=
  (ps_raise hc tk (pmk_own F q gC kC r hg hdb)).imp fun E σ H ⟨ρ, e, S, rs, re, h⟩ => h ρ H σ none (List.prefix_refl _) Evo.refl rs re rfl C gC
/-- raise X(e), the field f -/
def sRaiseF (x f : Str) (fe : SE) : SS := fun e S => (fe e S).toS e fun d S1 => .er x (some [(f, d)]) e S1
def tMkF (C : Addr) (f : Str) (ta : TA) : L2.St → Hp → XK → Prop := fun σ H Q => ta σ H fun vs H1 => ∃ v, vs = [v] ∧ ∀ d, H1 d = none → Q (.ref C) (some d) (upd H1 d (.xd [(f, v)]))
theorem pmk_F {k : Nat} {ta : TA} (T : BX.ExcT X.K X.mg x C fI Bn newId initId bmB p' f) (hr : Room k X.A) (hg : Gl X x) (ha : PA X [e] ta)
    (hs : starEach [e] X.env = (false, eval e X.env) :: starEach [] X.env := by rfl) (hpl : (backTo pos (starEach [] X.env)).any (·.1) = false := by rfl) (hdb : (x == ("__debug__" : Str)) = false := by decide) :
    PMk X (.Call (.Name x p) [e] [] pos) (tMkF C f ta) := by
  intro pins s σ H Q I h
  refine wpAny_Call_Name_kw (ld_glob I hg T.gC ?_ hdb)
  refine PySem.W.callWith_K (h₀ := X.base) I.ok.mod.kin T.kC (thn (ha.run pos pins s σ H _ I h) fun us s1 ⟨vs, H1, I1, r, v, ev, q⟩ => ⟨I1.kIn, ?_⟩) hs hpl
  subst ev
  cases r with
  | cons r1 r2 =>
    cases r2
    rename_i u us'
    show wpAny _ _ (call (.ref C) [u]) _ _ _
    refine wpAny_call (BX.made_B T I1.kIn I1.nolimit (by have := hr.dp; omega) fun h' tk ea da M => ?_)
    obtain ⟨hd, hea, dne, J⟩ := inv_made (tk := tk) I1 M r1
    -- the exception itself is not tracked: the heap without it
    obtain ⟨G, g1, g2⟩ := restrict h' fun b => decide (b ≠ ea)
    have gk : ∀ b, b ≠ ea → G.get? b = h'.get? b := fun b hb => g1 b (decide_eq_true hb)
    have ge : G.get? ea = none := g2 ea (by simp)
    have old : ∀ b o, s1.heap.get? b = some o → b ≠ ea := fun b o z => Nat.ne_of_lt (Nat.lt_of_lt_of_le (Heap.lt_size z) M.new)
    have kG : ∀ b o, s1.heap.get? b = some o → G.get? b = some o := fun b o z => (gk b (old b o z)).trans (M.keep b o z)
    have Gk : ∀ b o, G.get? b = some o → h'.get? b = some o := fun b o z => by
      by_cases hb : b = ea
      · rw [hb, ge] at z; cases z
      · rw [← gk b hb]; exact z
    have J' : Inv X pins σ (upd H1 da (.xd [(f, v)])) { s1 with heap := G, toks := tk } := I1.laidN kG (Heap.get?_none_of_le M.big) hd ⟨_, M.ns.at fun o z => (gk da M.dne).trans z, fun g => relO_one r1 f g⟩
    obtain ⟨t1, ho⟩ := M.obj
    exact ⟨ea, _, _, { s1 with heap := G, toks := tk }, _, .ref C, some da, rfl, J', Gk, ge, ho, ⟨rfl, rfl⟩, rfl, rfl, by rw [upd_ne dne.symm]; exact hea, rfl, I1.bare, raises_own T.exC T.tyC, q da hd⟩
theorem ds_raiseF {k : Nat} {p3 : Pos} (hc : X.calm = true) (tk : Takes X W) (T : BX.ExcT X.K X.mg x C fI Bn newId initId bmB p' f) (hr : Room k X.A) (hg : Gl X x) (he : DE X W e fe)
    (hs : starEach [e] X.env = (false, eval e X.env) :: starEach [] X.env := by rfl) (hpl : (backTo p3 (starEach [] X.env)).any (·.1) = false := by rfl) (hdb : (x == ("__debug__" : Str)) = false := by decide) :
    DS X W (.Raise (some (.Call (.Name x p) [e] [] p3)) none pos) (sRaiseF x f fe) :=
  (ps_raise hc tk (pmk_F T hr hg (da_cons he da_nil hs) hs hpl hdb)).imp fun E σ H ⟨ρ, e', S, rs, re, h⟩ => by
    have h' : ((aCons fe aNil e' S).toS e' fun ds S1 => match ds with | [d] => .er x (some [(f, d)]) e' S1 | _ => .no).sat X.gb W ρ H E := by
      unfold sRaiseF at h
      unfold aCons aNil
      cases q : fe e' S with
      | ok d S1 => rw [q] at h; exact h
      | er c fs S1 => rw [q] at h; exact h
      | no => rw [q] at h; exact h
    refine rd_stA rs re h' fun ρ1 H1 S1 ds vs p1 ev1 rs1 re1 rv h1 => ?_
    split at h1
    · rename_i d
      obtain ⟨v, rfl, r1⟩ := rv.one
      refine ⟨v, rfl, fun dd hd => h1 ρ1 _ σ (some dd) (List.prefix_refl _) (Evo.fresh hd) (rs1.fresh hd) (re1.mono (List.prefix_refl _) (Evo.fresh hd)) ⟨dd, [(f, v)], rfl, upd_same, v, [], rfl, r1.mono (List.prefix_refl _) (Evo.fresh hd), rfl⟩ C T.gC⟩
    · exact h1.elim

/-! ### e.f of an exception -/
def excGet (f : Str) (d : D) (S : Store) : Ou D := match d with
  | .loc n => match S[n]? with
    | some (.exc _ (some fs)) => match fs.lookup f with
      | some v => .ok v S
      | none => .no
    | _ => .no
  | _ => .no
theorem RKs.look {K : Gb} {H : Hp} {ρ : List Addr} {f : Str} {d : D} : ∀ {fs : List (Str × D)} {ws : List (Str × V)}, RKs K H ρ fs ws → fs.lookup f = some d → ∃ v, ws.lookup f = some v ∧ RV K H ρ d v
  | [], _, _, e => by cases e
  | (g, x) :: r, _, h, e => by
    obtain ⟨v, s, rfl, h1, h2⟩ := h
    rw [List.lookup_cons] at e ⊢
    split at e
    · cases e; exact ⟨v, rfl, h1⟩
    · exact RKs.look h2 e
def excGetC (cs : List Str) (f : Str) (d : D) (S : Store) : Ou D := match d with
  | .loc n => match S[n]? with
    | some (.exc c (some fs)) => if c ∈ cs then match fs.lookup f with
      | some v => .ok v S
      | none => .no else .no
    | _ => .no
  | _ => .no
theorem de_excGet {cs : List Str} (T : ∀ c ∈ cs, ∀ C, X.mg c = some (.ref C) → XfC X.K C ∧ PySem.W.findIn X.K (.ref C) f = some none) (he : DE X W e fe) (hb : attributeBase e f X.env (eval e X.env) = eval e X.env := by rfl) :
    DE X W (.Attribute e f pos) (e1 (excGetC cs f) fe) := by
  refine ⟨fun pins s σ H Q I ⟨ρ, e', S, rs, re, h⟩ => ?_⟩
  have h' : rdE X.gb W fe σ H fun v H1 => ∃ ρ1 d S1, RS X.gb H1 ρ1 S1 ∧ RV X.gb H1 ρ1 d v ∧ (excGetC cs f d S1).sat X.gb (fun c dd H' => W c dd σ H') ρ1 H1 (Q1 X.gb Q) :=
    rd_one rs re h fun ρ1 H1 S1 d v p ev rs1 re1 rv h1 => ⟨ρ1, d, S1, rs1, rv, h1⟩
  refine attr_of hb (thn (he.run pins s σ H _ I h') fun u s1 ⟨v, H1, I1, rx, ρ1, d, S1, rs1, rv, h1⟩ => ?_)
  unfold excGetC at h1
  split at h1
  · rename_i n
    simp only [RV] at rv
    obtain ⟨a, hn, rfl⟩ := rv
    split at h1
    · rename_i c fs hc
      split at h1
      · rename_i hcs
        split at h1
        · rename_i dv hl
          obtain ⟨b, hb', C, dd, gC, ha, dx, ws, rfl, hx, hk⟩ := rs1.at_ n _ hc
          rw [hn] at hb'; cases hb'
          obtain ⟨w', hw, rw'⟩ := hk.look hl
          obtain ⟨TC, hno⟩ := T c hcs C gC
          obtain rfl : u = Value.ref a := rx
          obtain ⟨⟨oe, vs, ho, hz, hd, _, _, _⟩, _, _⟩ := (show ObjOk X.prog X.w H1 s1.heap a (ExV (.ref C) (some dx) a) from I1.hok a _ ha)
          obtain ⟨mA, hns, hr⟩ := (show ObjOk X.prog X.w H1 s1.heap dx (.xd ws) from I1.hok dx _ hx)
          obtain ⟨od, hod, hlk⟩ := lookIn_ns hns
          obtain ⟨u2, hu2, ru2⟩ := RelO.some_of (v := w') (o := mA f) (by rw [← hw]; exact hr f)
          have J : PySem.W.InstAt s1.heap a oe C (some od) := ⟨ho, hz.1, by unfold PySem.W.notCls; rw [hd] <;> rfl, by rw [hz.2]; exact hod⟩
          exact HandSPX.exc_get I1.kIn J TC.ga TC.gg TC.exC (PySem.W.findObj_own TC.hdC hno rfl (by rw [hlk, hu2])) (handed_of ru2) ⟨w', H1, I1.tok _, ru2, sat_pure h1 rs1 rw'⟩
        · exact h1.elim
      · exact h1.elim
    · exact h1.elim
  · exact h1.elim

/-! ### isinstance -/
inductive Tn where
  | b (n : String) | o (x : Str)
  deriving DecidableEq
def tyS (d : D) (S : Store) : Option Tn := match d with
  | .non => some (.b "NoneType")
  | .bl _ => some (.b "bool")
  | .int _ => some (.b "int")
  | .str _ => some (.b "str")
  | .tup _ => some (.b "tuple")
  | .loc n => match S[n]? with
    | some (.lst _) => some (.b "list")
    | some (.dK _) => some (.b "dict")
    | some (.dT _) => some (.b "dict")
    | some (.exc c _) => some (.o c)
    | some (.ins _ _) => none
    | _ => none
  | _ => none
def clS (d : D) : Option Tn := match d with
  | .ty n => some (.b n)
  | .glb x => some (.o x)
  | _ => none
def isiS (isa : Tn → Tn → Option Bool) (xs : List D) (S : Store) : Ou D := match xs with
  | [x, c] => match tyS x S, clS c with
    | some t, some u => match isa t u with
      | some b => .ok (.bl b) S
      | none => .no
    | _, _ => .no
  | _ => .no
/-- a type's name and its value -/
def TnV (K : Gb) : Tn → Value → Prop
  | .b n, v => v = .type n
  | .o x, v => K.mg x = some v ∧ ∃ C, v = .ref C
/-- the table of isinstance tells the truth -/
structure IsaOk (K : Gb) (isa : Tn → Tn → Option Bool) : Prop where
  one : ∀ t u b v w, isa t u = some b → TnV K t v → TnV K u w → PySem.W.kitOne K.K v w = some b
  exc : ∀ x u b C, isa (.o x) u = some b → K.mg x = some (.ref C) → ExcC K.K C
  ref : ∀ t x b, isa t (.o x) = some b → ∃ C, K.mg x = some (.ref C)
theorem cr_isi {isa : Tn → Tn → Option Bool} (T : IsaOk X.gb isa) : CallR X (.builtin "isinstance") (rBN X.gb (isiS isa)) := by
  intro pins s σ H xs us Q I r ⟨E, ρ, S, ds, rs, rv, h⟩
  unfold isiS at h
  split at h
  · rename_i dx dc
    split at h
    · rename_i t u ht hu
      split at h
      · rename_i b hb
        obtain ⟨v, w, rfl, r1, r2⟩ := rv.two
        obtain ⟨uv, wv, rfl, q1, q2⟩ := Vals.two r
        have hw : TnV X.gb u wv := by
          unfold clS at hu
          split at hu
          · cases hu
            simp only [RV] at r2
            subst r2
            exact q2
          · rename_i y
            cases hu
            obtain ⟨C, hC⟩ := T.ref _ _ _ hb
            simp only [RV] at r2
            obtain ⟨g, hg, rg⟩ := r2
            rw [show X.mg y = _ from hC] at hg
            cases hg
            have ev : w = .ref C := RelV.inj rg (show RelV (.ref C) (.ref C) from rfl)
            subst ev
            obtain rfl : wv = Value.ref C := q2
            exact ⟨hC, C, rfl⟩
          · cases hu
        have fin : ∀ tk, EP X pins σ Q (.bool b) { s with toks := tk } := fun tk => ⟨.bl b, H, I.tok tk, rfl, sat_pure h rs rfl⟩
        have go : ∀ {tv : Value}, TnV X.gb t tv → PySem.W.kitOne X.K tv wv = some b := fun {tv} z => T.one t u b tv wv hb z hw
        have plain : ∀ {n : String}, t = .b n → TyOf X.K H v (.type n) → wpAny (model X.prog X.w) X.A (call (.builtin "isinstance") [uv, wv]) (EP X pins σ Q) X.xe s := fun {n} et ty => isinst_ok I q1 ty (go (by rw [et]; rfl)) fin
        unfold tyS at ht
        split at ht
        · cases ht; simp only [RV] at r1; subst r1; exact plain rfl .non
        · cases ht; simp only [RV] at r1; subst r1; exact plain rfl (.bl _)
        · cases ht; simp only [RV] at r1; subst r1; exact plain rfl (.int _)
        · cases ht; simp only [RV] at r1; subst r1; exact plain rfl (.str _)
        · cases ht
          simp only [RV] at r1
          obtain ⟨a, vs, rfl, hq, _⟩ := r1
          obtain ⟨its, _, ⟨o, ho, hc, _⟩, _⟩ := I.tuple (SqT.of hq)
          obtain rfl : uv = Value.ref a := q1
          exact PySem.W.kia_one PySem.W.kitx_tuple I.kIn ⟨o, ho, hc⟩ (go rfl) (fun z => nomatch z) fin
        · rename_i n
          simp only [RV] at r1
          obtain ⟨a, hn, rfl⟩ := r1
          split at ht
          · rename_i xs hc
            cases ht
            obtain ⟨b', hb', vs, e, _⟩ := rs.at_ n _ hc
            rw [hn] at hb'; cases hb'
            exact plain rfl (.lst e)
          · rename_i xs hc
            cases ht
            obtain ⟨b', hb', vs, e, _⟩ := rs.at_ n _ hc
            rw [hn] at hb'; cases hb'
            exact plain rfl (.dK e)
          · rename_i xs hc
            cases ht
            obtain ⟨b', hb', vs, e, _⟩ := rs.at_ n _ hc
            rw [hn] at hb'; cases hb'
            exact plain rfl (.dT e)
          · rename_i c fs hc
            cases ht
            obtain ⟨b', hb', C, dd, gC, ha, hx⟩ := rs.at_ n _ hc
            rw [hn] at hb'; cases hb'
            obtain rfl : uv = Value.ref a := q1
            obtain ⟨⟨oe, vs, ho, hz, hd, _, _, _⟩, _, _⟩ := (show ObjOk X.prog X.w H s.heap a (ExV (.ref C) dd a) from I.hok a _ ha)
            have e := go (tv := .ref C) ⟨gC, C, rfl⟩
            cases fs with
            | none =>
              cases (show dd = none from hx)
              have J : PySem.W.InstAt s.heap a oe C none := ⟨ho, hz.1, by unfold PySem.W.notCls; rw [hd] <;> rfl, by rw [hz.2]; trivial⟩
              exact PySem.W.kia_one (BX.kitx_excB (T.exc _ _ _ _ hb gC)) I.kIn J e (fun z => nomatch z) fin
            | some fs =>
              obtain ⟨dx, ws, rfl, hxd, _⟩ := hx
              obtain ⟨mA, ⟨od, es, ep, hod, _⟩, _⟩ := (show ObjOk X.prog X.w H s.heap dx (.xd ws) from I.hok dx _ hxd)
              have J : PySem.W.InstAt s.heap a oe C (some od) := ⟨ho, hz.1, by unfold PySem.W.notCls; rw [hd] <;> rfl, by rw [hz.2]; exact hod⟩
              exact PySem.W.kia_one (BX.kitx_excB (T.exc _ _ _ _ hb gC)) I.kIn J e (fun z => nomatch z) fin
          · cases ht
          · cases ht
        · cases ht
      · exact h.elim
    · exact h.elim
  · exact h.elim
end
end B

set_option Elab.async false
set_option linter.all false
set_option maxRecDepth 100000
set_option maxHeartbeats 1000000
/-! BMore: dicts: displays, looks, stores; methods of lists and texts. -/
namespace B
open PySem PySem.Spec L2
open PyProof.Rows hiding St

/-! ### tables -/
section
variable {κ : Type} [DecidableEq κ]
def getB (kvs : List (κ × D)) (k : κ) : Option D := (kvs.find? fun kv => decide (kv.1 = k)).map (·.2)
def putB (kvs : List (κ × D)) (k : κ) (v : D) : List (κ × D) :=
  if (kvs.any fun kv => decide (kv.1 = k)) = true then kvs.map (fun kv => if kv.1 = k then (kv.1, v) else kv) else kvs ++ [(k, v)]
def mergeB (kvs more : List (κ × D)) : List (κ × D) := more.foldl (fun acc kv => putB acc kv.1 kv.2) kvs
variable {K : Gb} {H : Hp} {ρ : List Addr}
theorem RKs.any {kvs : List (κ × D)} {ws : List (κ × V)} (r : RKs K H ρ kvs ws) (k : κ) : (kvs.any fun kv => decide (kv.1 = k)) = ws.any fun kv => decide (kv.1 = k) := by
  induction kvs generalizing ws with
  | nil => simp only [RKs] at r; subst r; rfl
  | cons p t ih =>
    obtain ⟨k', d⟩ := p
    obtain ⟨v, s, rfl, _, h2⟩ := r
    rw [List.any_cons, List.any_cons, ih h2]
theorem RKs.length {κ : Type} {kvs : List (κ × D)} {ws : List (κ × V)} (r : RKs K H ρ kvs ws) : kvs.length = ws.length := by
  induction kvs generalizing ws with
  | nil => simp only [RKs] at r; subst r; rfl
  | cons p t ih =>
    obtain ⟨k', d⟩ := p
    obtain ⟨v, s, rfl, _, h2⟩ := r
    simp [ih h2]
theorem RKs.get {kvs : List (κ × D)} {ws : List (κ × V)} (r : RKs K H ρ kvs ws) (k : κ) : (∃ d v, getB kvs k = some d ∧ valV ws k = some v ∧ RV K H ρ d v) ∨ (getB kvs k = none ∧ valV ws k = none) := by
  induction kvs generalizing ws with
  | nil => simp only [RKs] at r; subst r; exact .inr ⟨rfl, rfl⟩
  | cons p t ih =>
    obtain ⟨k', d⟩ := p
    obtain ⟨v, s, rfl, h1, h2⟩ := r
    by_cases e : k' = k
    · exact .inl ⟨d, v, by simp [getB, List.find?_cons, e], by simp [valV, List.find?_cons, e], h1⟩
    · have e1 : getB ((k', d) :: t) k = getB t k := by simp [getB, List.find?_cons, e]
      have e2 : valV ((k', v) :: s) k = valV s k := by simp [valV, List.find?_cons, e]
      rw [e1, e2]
      exact ih h2
theorem RKs.app {κ : Type} {kvs kvs' : List (κ × D)} {ws ws' : List (κ × V)} (r : RKs K H ρ kvs ws) (r' : RKs K H ρ kvs' ws') : RKs K H ρ (kvs ++ kvs') (ws ++ ws') := by
  induction kvs generalizing ws with
  | nil => simp only [RKs] at r; subst r; exact r'
  | cons p t ih =>
    obtain ⟨k', d⟩ := p
    obtain ⟨v, s, rfl, h1, h2⟩ := r
    exact ⟨v, s ++ ws', rfl, h1, ih h2⟩
theorem RKs.repl {kvs : List (κ × D)} {ws : List (κ × V)} (r : RKs K H ρ kvs ws) (k : κ) {d : D} {v : V} (rv : RV K H ρ d v) :
    RKs K H ρ (kvs.map fun kv => if kv.1 = k then (kv.1, d) else kv) (ws.map fun kv => if kv.1 = k then (kv.1, v) else kv) := by
  induction kvs generalizing ws with
  | nil => simp only [RKs] at r; subst r; rfl
  | cons p t ih =>
    obtain ⟨k', d'⟩ := p
    obtain ⟨v', s, rfl, h1, h2⟩ := r
    rw [List.map_cons, List.map_cons]
    by_cases e : k' = k
    · rw [if_pos e, if_pos e]; exact ⟨v, _, rfl, rv, ih h2⟩
    · rw [if_neg e, if_neg e]; exact ⟨v', _, rfl, h1, ih h2⟩
theorem RKs.put {kvs : List (κ × D)} {ws : List (κ × V)} (r : RKs K H ρ kvs ws) (k : κ) {d : D} {v : V} (rv : RV K H ρ d v) : RKs K H ρ (putB kvs k d) (putK ws k v) := by
  unfold putB putK
  rw [r.any k]
  split
  · exact r.repl k rv
  · exact r.app ⟨v, [], rfl, rv, rfl⟩
end
theorem mergeB_r {K : Gb} {H : Hp} {ρ : List Addr} : ∀ {more : List (Key × D)} {ms : List (Key × V)} {kvs : List (Key × D)} {ws : List (Key × V)}, RKs K H ρ more ms → RKs K H ρ kvs ws → RKs K H ρ (mergeB kvs more) (mergeK ws ms)
  | [], _, _, _, r, q => by simp only [RKs] at r; subst r; exact q
  | (k, d) :: more, _, kvs, ws, r, q => by
    obtain ⟨v, s, rfl, h1, h2⟩ := r
    show RKs K H ρ (mergeB (putB kvs k d) more) (mergeK (putK ws k v) s)
    exact mergeB_r h2 (q.put k h1)

/-! ### keys -/
theorem keyD_kV {K : Gb} {H : Hp} {ρ : List Addr} {d : D} {v : V} {k : Key} (r : RV K H ρ d v) (h : keyD d = some k) : v = kV k := by
  unfold keyD at h
  split at h <;> first | (cases h; simp only [RV] at r; subst r; rfl) | cases h
def keysD : List D → Option (List Key)
  | [] => some []
  | d :: r => match keyD d, keysD r with
    | some k, some ks => some (k :: ks)
    | _, _ => none
theorem keysD_kV {K : Gb} {H : Hp} {ρ : List Addr} : ∀ {ds : List D} {vs : List V} {ks : List Key}, RVs K H ρ ds vs → keysD ds = some ks → vs = ks.map kV
  | [], _, _, r, h => by simp only [RVs] at r; subst r; cases h; rfl
  | d :: ds, _, ks, r, h => by
    simp only [RVs] at r
    obtain ⟨v, s, rfl, r1, r2⟩ := r
    unfold keysD at h
    split at h
    · rename_i k ks' h1 h2
      cases h
      rw [List.map_cons, keyD_kV r1 h1, keysD_kV r2 h2]
    · cases h
def keyT : D → Option (List Key)
  | .tup xs => keysD xs
  | _ => none
theorem keyT_at {K : Gb} {H : Hp} {ρ : List Addr} {d : D} {v : V} {k : List Key} (r : RV K H ρ d v) (h : keyT d = some k) : ∃ b, v = .ref b ∧ H b = some (.tup (k.map kV)) := by
  unfold keyT at h
  split at h
  · simp only [RV] at r
    obtain ⟨a, vs, rfl, e, q⟩ := r
    rw [keysD_kV q h] at e
    exact ⟨a, rfl, e⟩
  · cases h

/-! ### displays -/
def ePrs : List (SE × SE) → Env → Store → Ou (List (D × D))
  | [], _, S => .ok [] S
  | (fk, fv) :: r, e, S => (fk e S).bind fun x S1 => (fv e S1).bind fun y S2 => (ePrs r e S2).bind fun ps S3 => .ok ((x, y) :: ps) S3
def keysK : List (D × D) → Option (List (Key × D))
  | [] => some []
  | (x, y) :: r => match keyD x, keysK r with
    | some k, some ks => some ((k, y) :: ks)
    | _, _ => none
def keysT : List (D × D) → Option (List (List Key × D))
  | [] => some []
  | (x, y) :: r => match keyT x, keysT r with
    | some k, some ks => some ((k, y) :: ks)
    | _, _ => none
/-- {}: t: to be one with tuples as keys -/
def eDN (t : Bool) : SE := fun _ S => .ok (.loc S.length) (S ++ [if t then .dT [] else .dK []])
/-- {k: v, ..} -/
def eDK (ps : List (SE × SE)) : SE := fun e S => (ePrs ps e (S ++ [.dK []])).bind fun xs S1 => match S1[S.length]?, keysK xs with
  | some (.dK []), some kvs => if kvs.length ≤ 15 then .ok (.loc S.length) (S1.set S.length (.dK (mergeB [] kvs))) else .no
  | _, _ => .no
def eDT (ps : List (SE × SE)) : SE := fun e S => (ePrs ps e (S ++ [.dT []])).bind fun xs S1 => match S1[S.length]?, keysT xs with
  | some (.dT []), some kvs => if kvs.length ≤ 15 then .ok (.loc S.length) (S1.set S.length (.dT (mergeB [] kvs))) else .no
  | _, _ => .no
def RPs (K : Gb) (H : Hp) (ρ : List Addr) : List (D × D) → List (V × V) → Prop
  | [], vs => vs = []
  | (x, y) :: r, vs => ∃ v u s, vs = (v, u) :: s ∧ RV K H ρ x v ∧ RV K H ρ y u ∧ RPs K H ρ r s
theorem RPs.mono {K : Gb} {H H' : Hp} {ρ ρ' : List Addr} (p : ρ <+: ρ') (ev : Evo K ρ ρ' H H') : ∀ {ds : List (D × D)} {vs : List (V × V)}, RPs K H ρ ds vs → RPs K H' ρ' ds vs
  | [], _, h => h
  | (_, _) :: _, _, ⟨v, u, s, e, h1, h2, h3⟩ => ⟨v, u, s, e, h1.mono p ev, h2.mono p ev, h3.mono p ev⟩
theorem RPs.keysK {K : Gb} {H : Hp} {ρ : List Addr} : ∀ {ds : List (D × D)} {vs : List (V × V)} {kvs : List (Key × D)}, RPs K H ρ ds vs → keysK ds = some kvs → ∃ ws : List (Key × V), vs = ws.map (fun kv => (kV kv.1, kv.2)) ∧ RKs K H ρ kvs ws
  | [], _, _, h, e => by
    simp only [RPs] at h
    subst h
    cases e
    exact ⟨[], rfl, rfl⟩
  | (x, y) :: r, _, _, ⟨v, u, s, e1, h1, h2, h3⟩, e => by
    unfold B.keysK at e
    split at e
    · rename_i k ks q1 q2
      cases e
      obtain ⟨ws, e2, r2⟩ := RPs.keysK h3 q2
      subst e1 e2
      exact ⟨(k, u) :: ws, by rw [List.map_cons, keyD_kV h1 q1], u, ws, rfl, h2, r2⟩
    · cases e

section
variable {X : Cx} {W : WX} {pos : Pos}
def TPs (X : Cx) (W : WX) : List (TE × TE) → List (SE × SE) → Prop
  | [], ps => ps = []
  | (tk, tv) :: r, ps => ∃ fk fv s, ps = (fk, fv) :: s ∧ tk = rdE X.gb W fk ∧ tv = rdE X.gb W fv ∧ TPs X W r s
/-- the pairs of a display -/
def DPs (X : Cx) (W : WX) (pos : Pos) (ks : List (Option Expr)) (vs : List Expr) (ps : List (SE × SE)) : Prop := ∃ trs, PPs X pos ks vs trs ∧ TPs X W trs ps
theorem dps_nil : DPs X W pos [] [] [] := ⟨[], pps_nil, rfl⟩
theorem dps_cons {k v : Expr} {ks : List (Option Expr)} {vs : List Expr} {fk fv : SE} {ps : List (SE × SE)} (hk : DE X W k fk) (hv : DE X W v fv) (hr : DPs X W pos ks vs ps) : DPs X W pos (some k :: ks) (v :: vs) ((fk, fv) :: ps) := by
  obtain ⟨trs, h, t⟩ := hr
  exact ⟨_, pps_cons hk hv h, fk, fv, ps, rfl, rfl, rfl, t⟩
theorem rd_prs {K : Gb} {σ : St} {e : Env} {β : Type} {k : List (D × D) → Store → Ou β} {R : List Addr → Hp → Store → β → Prop} : ∀ {trs : List (TE × TE)} {ps : List (SE × SE)} {H : Hp} {ρ : List Addr} {S : Store} {T : List (V × V) → Hp → Prop}, X.gb = K → TPs X W trs ps → RS K H ρ S → REnv K H ρ e σ →
    ((ePrs ps e S).bind k).sat K (fun c dd H' => W c dd σ H') ρ H R →
    (∀ ρ1 H1 S1 d v, ρ <+: ρ1 → Evo K ρ ρ1 H H1 → RS K H1 ρ1 S1 → RPs K H1 ρ1 d v → (k d S1).sat K (fun c dd H' => W c dd σ H') ρ1 H1 R → T v H1) → tPairs trs σ H T
  | [], _, H, ρ, S, T, eK, t, rs, re, h, q => by
    simp only [TPs] at t
    subst t
    exact q ρ H S [] [] (List.prefix_refl _) Evo.refl rs rfl h
  | (tk, tv) :: trs, _, H, ρ, S, T, eK, ⟨fk, fv, ps, e1, e2, e3, t⟩, rs, re, h, q => by
    subst e1 e2 e3 eK
    have h' : ((fk e S).bind fun x S1 => (fv e S1).bind fun y S2 => (ePrs ps e S2).bind fun xs S3 => k ((x, y) :: xs) S3).sat X.gb (fun c dd H' => W c dd σ H') ρ H R := by
      unfold ePrs at h
      cases q1 : fk e S with
      | ok d S1 =>
        rw [q1] at h
        simp only [Ou.bind] at h ⊢
        cases q2 : fv e S1 with
        | ok d2 S2 =>
          rw [q2] at h
          simp only at h ⊢
          cases q3 : ePrs ps e S2 with
          | ok xs S3 => rw [q3] at h; exact h
          | er c fs S3 => rw [q3] at h; exact h
          | no => rw [q3] at h; exact h
        | er c fs S2 => rw [q2] at h; exact h
        | no => rw [q2] at h; exact h
      | er c fs S1 => rw [q1] at h; exact h
      | no => rw [q1] at h; exact h
    refine rd_one rs re h' fun ρ1 H1 S1 x v p1 ev1 rs1 re1 rv h1 => rd_one rs1 re1 h1 fun ρ2 H2 S2 y u p2 ev2 rs2 re2 ru h2 => ?_
    exact rd_prs rfl t rs2 re2 h2 fun ρ3 H3 S3 d vs p3 ev3 rs3 rp h3 => q ρ3 H3 S3 ((x, y) :: d) ((v, u) :: vs) (p1.trans (p2.trans p3)) (ev1.trans (ev2.trans ev3)) rs3 ⟨v, u, vs, rfl, rv.mono (p2.trans p3) (ev2.trans ev3), ru.mono p3 ev3, rp⟩ h3
theorem new_at {K : Gb} {H : Hp} {ρ : List Addr} {S : Store} {c : Cell} {o : HO} {p : Addr} (rs : RS K H ρ S) (hp : H p = none) (hc : RC K (upd H p o) (ρ ++ [p]) c p) {E : XK} {Q : VK} (h : (Ou.ok (D.loc S.length) (S ++ [c])).sat K E ρ H (Q1 K Q)) : Q (.ref p) (upd H p o) :=
  h (ρ ++ [p]) _ pre_one (Evo.fresh hp) (rs.push hp hc) _ (by simp only [RV]; exact ⟨p, by rw [← rs.len]; simp, rfl⟩)
theorem de_dn : DE X W (.Dict [] [] pos) (eDN false) :=
  pe_dnewK.imp fun σ H Q ⟨ρ, e, S, rs, re, h⟩ p hp => new_at (c := .dK []) (o := .dK []) rs hp ⟨[], upd_same, rfl⟩ h
theorem de_dnT : DE X W (.Dict [] [] pos) (eDN true) :=
  pe_dnewT.imp fun σ H Q ⟨ρ, e, S, rs, re, h⟩ p hp => new_at (c := .dT []) (o := .dT []) rs hp ⟨[], upd_same, rfl⟩ h
theorem de_dk {keys : List (Option Expr)} {values : List Expr} {ps : List (SE × SE)} (h : DPs X W pos keys values ps) (hall : keys.all (·.isSome) = true) (hl : keys.length = values.length) (h0 : keys ≠ []) (h15 : keys.length ≤ 15) : DE X W (.Dict keys values pos) (eDK ps) := by
  obtain ⟨trs, hP, tp⟩ := h
  refine (pe_disp hP hall hl h0 h15).imp fun σ H Q ⟨ρ, e, S, rs, re, h⟩ p hp => ?_
  have rs0 : RS X.gb (upd H p (.dK [])) (ρ ++ [p]) (S ++ [.dK []]) := rs.push hp ⟨[], upd_same, rfl⟩
  have hn : (ρ ++ [p])[S.length]? = some p := by rw [← rs.len]; simp
  unfold eDK at h
  have h' := Ou.sat.left h (pre_one (p := p)) (Evo.fresh (o := .dK []) hp)
  cases q : ePrs ps e (S ++ [.dK []]) with
  | no => rw [q] at h; exact h.elim
  | er c fs S1 =>
    refine rd_prs (k := fun xs S1 => (Ou.no : Ou D)) (R := fun _ _ _ _ => True) rfl tp rs0 (re.mono pre_one (Evo.fresh hp)) ?_ fun _ _ _ _ _ _ _ _ _ z => z.elim
    rw [q] at h' ⊢
    exact h'
  | ok xs S1 =>
    refine rd_prs (k := fun xs S1 => _) rfl tp rs0 (re.mono pre_one (Evo.fresh hp)) (h'.imp fun _ _ _ _ _ _ _ z => z) fun ρ1 H1 S1 d v p1 ev1 rs1 rp h1 => ?_
    split at h1
    · rename_i kvs hS hk
      split at h1
      · rename_i h15
        obtain ⟨a, ha, ws, e1, r1⟩ := rs1.at_ _ _ hS
        rw [pre_get p1 hn] at ha; cases ha
        simp only [RKs] at r1
        subst r1
        obtain ⟨ws, ev, rk⟩ := rp.keysK hk
        refine ⟨e1, ws, ev, by rw [← rk.length]; exact h15, ?_⟩
        refine h1 ρ1 _ (List.prefix_refl _) (Evo.write (pre_get p1 hn) e1 trivial) (rs1.write (pre_get p1 hn) e1 trivial ⟨_, upd_same, ?_⟩) _ ?_
        · exact (mergeB_r rk (kvs := []) (ws := []) rfl).mono (List.prefix_refl _) (Evo.write (pre_get p1 hn) e1 trivial)
        · simp only [RV]
          exact ⟨p, pre_get p1 hn, rfl⟩
      · exact h1.elim
    · exact h1.elim
theorem t_dictSet {pins : List (Addr × Obj)} {σ : St} {H : Hp} {s : Shared} {E : Value → Shared → Prop} {a b : Addr} {kvs : List (List Key × V)} {k : List Key} {v : V} {r : Value} {Q : Unit → Shared → Prop} (hu : X.A.units + 1 < cLine) (I : Inv X pins σ H s) (e : H a = some (.dT kvs)) (l : kvs.length < sizeLine)
    (eb : H b = some (.tup (k.map kV))) (rv : RelV v r) (h : ∀ s', Inv X pins σ (upd H a (.dT (putK kvs k v))) s' → Q () s') : wpAny (model X.prog X.w) X.A (dictSet a (.ref b) r) Q E s := by
  obtain ⟨z, hd, xs, rel, dd⟩ := dt_of I.hok e
  have hz : xs.length ≤ sizeLine := by rw [← Paired.length rel]; exact z
  have hl : (putK kvs k v).length ≤ sizeLine := by have := length_putK kvs k v; omega
  refine wpAny_dictSet_heap (hsz := hz) (knd := tupleKind (mixKind X.prog X.w)) (show (tupleKind (mixKind X.prog X.w)).room X.A from Nat.lt_of_succ_lt hu) (key_of I.hok eb) dd fun h' dd' hs => h _ ?_
  obtain ⟨q, es, ep, hq, h2, h3, h4, _, h5⟩ := dd'
  refine d_write I (by rw [e]; exact True.intro) hs ⟨q, hq⟩ ⟨hl, hd, _, (rel.put k eb rv).keeps fun c ys ec => ?_, q, es, ep, hq, h2, h3, h4, h5⟩
  rw [upd_ne (ne_of ec e (fun z => nomatch z))]
  exact ec
theorem store_T (hu : X.A.units + 1 < cLine) {pins : List (Addr × Obj)} {σ : St} {E : Value → Shared → Prop} {n : Nat} {p : Addr} {ρ : List Addr} (hn : ρ[n]? = some p) : ∀ {xs : List (D × D)} {kvs : List (List Key × D)} {vs : List (V × V)} {us : List (Value × Value)} {acc : List (List Key × D)} {s : Shared} {H : Hp} {S : Store} {Q : PUnit → Shared → Prop},
    keysT xs = some kvs → Inv X pins σ H s → RS X.gb H ρ S → S[n]? = some (.dT acc) → RPs X.gb H ρ xs vs → VV vs us → acc.length + kvs.length ≤ 4096 →
    (∀ H' s', Inv X pins σ H' s' → Evo X.gb ρ ρ H H' → RS X.gb H' ρ (S.set n (.dT (mergeB acc kvs))) → Q PUnit.unit s') → wpAny (model X.prog X.w) X.A (storeAll p us) Q E s
  | [], kvs, vs, us, acc, s, H, S, Q, hk, I, rs, hS, rp, vv, hz, q => by
    simp only [RPs] at rp
    subst rp
    cases vv
    cases hk
    unfold storeAll
    rw [List.forIn_nil]
    have hlt := (List.getElem?_eq_some_iff.mp hS)
    have e : S.set n (.dT acc) = S := by
      obtain ⟨h1, h2⟩ := hlt
      rw [← h2]; exact List.set_getElem_self h1
    exact wpAny_pure (q H s I Evo.refl (by show RS X.gb H ρ (S.set n (.dT acc)); rw [e]; exact rs))
  | (x, y) :: xs, kvs, vs, us, acc, s, H, S, Q, hk, I, rs, hS, rp, vv, hz, q => by
    obtain ⟨v, u, vs', rfl, r1, r2, r3⟩ := rp
    unfold keysT at hk
    split at hk
    · rename_i k ks h1 h2
      cases hk
      cases vv with
      | cons b t =>
        rename_i bv us'
        obtain ⟨b1, b2⟩ := b
        obtain ⟨kb, rfl, ek⟩ := keyT_at r1 h1
        obtain ⟨bv1, bv2⟩ := bv
        obtain rfl : bv1 = Value.ref kb := b1
        obtain ⟨a, ha, ws, e1, rk⟩ := rs.at_ n _ hS
        rw [hn] at ha; cases ha
        rw [List.length_cons] at hz
        unfold storeAll
        rw [List.forIn_cons]
        refine wpAny_bind (wpAny_bind (t_dictSet hu I e1 (by rw [← rk.length]; exact Nat.lt_of_lt_of_le (by omega) (small4 (Nat.le_refl 4096))) ek b2 fun s1 I1 => wpAny_pure ?_))
        have ev : Evo X.gb ρ ρ H (upd H p (.dT (putK ws k u))) := Evo.write hn e1 trivial
        have rs1 : RS X.gb (upd H p (.dT (putK ws k u))) ρ (S.set n (.dT (putB acc k y))) := rs.write hn e1 trivial ⟨_, upd_same, (rk.put k r2).mono (List.prefix_refl _) ev⟩
        have hlt := (List.getElem?_eq_some_iff.mp hS).1
        have hp : (putB acc k y).length ≤ acc.length + 1 := by
          unfold putB
          split <;> simp
        refine store_T hu hn h2 I1 rs1 (acc := putB acc k y) (by rw [List.getElem?_set_self hlt]) (r3.mono (List.prefix_refl _) ev) t (by omega) fun H' s' I' ev' rs' => q H' s' I' (ev.trans ev') ?_
        rw [List.set_set] at rs'
        exact rs'
    · cases hk
theorem de_dt (hu : X.A.units + 1 < cLine) {keys : List (Option Expr)} {values : List Expr} {ps : List (SE × SE)} (h : DPs X W pos keys values ps) (hall : keys.all (·.isSome) = true) (hl : keys.length = values.length) (h0 : keys ≠ []) (h15 : keys.length ≤ 15) : DE X W (.Dict keys values pos) (eDT ps) := by
  obtain ⟨trs, hP, tp⟩ := h
  refine ⟨fun pins s σ H Q I ⟨ρ, e, S, rs, re, h⟩ => ?_⟩
  have hp := I.hok.fresh (Nat.le_refl s.heap.objs.size)
  have I1 := I.laid (a := s.heap.objs.size) (o := .dT []) (h' := s.heap.push { cls := .type "dict", data := .dict #[] }) (t' := s.toks) (fun _ _ q => Heap.get?_push_of_some _ q) (Nat.le_refl _) (dt_empty s.heap I.big)
  obtain ⟨p, ep⟩ : ∃ p, p = s.heap.objs.size := ⟨_, rfl⟩
  rw [← ep] at hp I1
  have rs0 : RS X.gb (upd H p (.dT [])) (ρ ++ [p]) (S ++ [.dT []]) := rs.push hp ⟨[], upd_same, rfl⟩
  have hn : (ρ ++ [p])[S.length]? = some p := by rw [← rs.len]; simp
  unfold eDT at h
  have h' := Ou.sat.left h (pre_one (p := p)) (Evo.fresh (o := .dT []) hp)
  have hT : tPairs trs σ (upd H p (.dT [])) fun ps H2 => ∃ ρ1 S1 d kvs, ρ ++ [p] <+: ρ1 ∧ RS X.gb H2 ρ1 S1 ∧ RPs X.gb H2 ρ1 d ps ∧ S1[S.length]? = some (.dT []) ∧ keysT d = some kvs ∧ kvs.length ≤ 15 ∧
      (Ou.ok (D.loc S.length) (S1.set S.length (.dT (mergeB [] kvs)))).sat X.gb (fun c dd H' => W c dd σ H') ρ1 H2 (Q1 X.gb Q) := by
    cases q : ePrs ps e (S ++ [.dT []]) with
    | no => rw [q] at h; exact h.elim
    | er c fs S1 =>
      refine rd_prs (k := fun xs S1 => (Ou.no : Ou D)) (R := fun _ _ _ _ => True) rfl tp rs0 (re.mono pre_one (Evo.fresh hp)) ?_ fun _ _ _ _ _ _ _ _ _ z => z.elim
      rw [q] at h' ⊢
      exact h'
    | ok xs S1 =>
      refine rd_prs (k := fun xs S1 => _) rfl tp rs0 (re.mono pre_one (Evo.fresh hp)) (h'.imp fun _ _ _ _ _ _ _ z => z) fun ρ1 H1 S1 d v p1 ev1 rs1 rp h1 => ?_
      split at h1
      · rename_i kvs hS hk
        split at h1
        · rename_i h15
          exact ⟨ρ1, S1, d, kvs, p1, rs1, rp, hS, hk, h15, h1⟩
        · exact h1.elim
      · exact h1.elim
  refine wpAny_Dict_any hall hl h0 h15 ?_
  refine thn (hP.run pins _ σ _ _ I1 hT) fun us s1 ⟨vs, H1, I2, vv, ρ1, S1, d, kvs, p1, rs1, rp, hS, hk, hz, h1⟩ => ?_
  rw [← ep]
  refine store_T hu (pre_get p1 hn) hk I2 rs1 hS rp vv (by simp; omega) fun H' s' I' ev' rs' => ⟨.ref p, H', I', rfl, h1 ρ1 H' (List.prefix_refl _) ev' rs' _ ?_⟩
  simp only [RV]
  exact ⟨p, pre_get p1 hn, rfl⟩
end

/-! ### methods -/
/-- o.append(e) -/
def appS (o : D) (xs : List D) (S : Store) : Ou D := match o, xs with
  | .loc n, [d] => match S[n]? with
    | some (.lst ys) => if ys.length < 4096 then .ok .non (S.set n (.lst (ys ++ [d]))) else .no
    | _ => .no
  | _, _ => .no
/-- a method call -/
def eM (g : D → List D → Store → Ou D) (fo : SE) (fa : SA) : SE := fun e S => (fo e S).bind fun o S1 => (fa e S1).bind fun xs S2 => g o xs S2
/-- the list stays a list while the arguments are made -/
def isLst (d : D) (S : Store) : Bool := match d with
  | .loc n => match S[n]? with
    | some (.lst _) => true
    | _ => false
  | _ => false
def eML (g : D → List D → Store → Ou D) (fo : SE) (fa : SA) : SE := fun e S => (fo e S).bind fun o S1 => if isLst o S1 = true then (fa e S1).bind fun xs S2 => g o xs S2 else .no
section
variable {X : Cx} {W : WX} {o e : Expr} {es : List Expr} {fo fe : SE} {fa : SA} {apos cpos : Pos}
theorem isLst_ty {K : Gb} {H : Hp} {ρ : List Addr} {S : Store} {d : D} {v : V} (rs : RS K H ρ S) (rv : RV K H ρ d v) (h : isLst d S = true) : tyV K.K "list" v H := by
  unfold isLst at h
  split at h
  · rename_i n
    simp only [RV] at rv
    obtain ⟨a, hn, rfl⟩ := rv
    split at h
    · rename_i xs hc
      obtain ⟨b, hb, vs, e, _⟩ := rs.at_ n _ hc
      rw [hn] at hb; cases hb
      exact .inl ⟨rfl, vs, SqL.of e⟩
    · cases h
  · cases h
theorem de_append (ho : DE X W o fo) (he : DE X W e fe)
    (hbase : attributeBase o "append" X.env (eval o X.env) = eval o X.env := by rfl)
    (hfew : ((backTo cpos (starEach [e] X.env)).all (fun x => !x.1) && (backToKw cpos (keywordEach [] X.env)).all (fun x => x.1.isSome)
      && decide (([e] : List Expr).length + ([] : List Keyword).length + (if ([] : List Keyword).isEmpty then 0 else 1) < 30)) = true := by rfl)
    (hline : (apos.endLine == cpos.line) = true := by rfl) (hs : starEach [e] X.env = (false, eval e X.env) :: starEach [] X.env := by rfl) (hplain : (backTo cpos (starEach [] X.env)).any (·.1) = false := by rfl) :
    DE X W (.Call (.Attribute o "append" apos) [e] [] cpos) (eML appS fo (aCons fe aNil)) :=
  (pe_bm PySem.F.plainAttrs_list PySem.F.slot_list_append PySem.F.type_list_append mt_append ho (da_cons he da_nil hs) hbase hfew hline hs hplain).imp fun σ H Q ⟨ρ, e', S, rs, re, h⟩ =>
    rd_one rs re h fun ρ1 H1 S1 x v p1 ev1 rs1 re1 rv h1 => by
      split at h1
      · rename_i hl
        refine ⟨isLst_ty rs1 rv hl, rd_args rs1 re1 h1 fun ρ2 H2 S2 ds vs p2 ev2 rs2 re2 rvs h2 => ?_⟩
        unfold appS at h2
        split at h2
        · rename_i n d
          obtain ⟨w, rfl, rw'⟩ := rvs.one
          simp only [RV] at rv
          obtain ⟨a, hn, rfl⟩ := rv
          have hn2 := pre_get p2 hn
          split at h2
          · rename_i ys hc
            split at h2
            · rename_i hz
              obtain ⟨b, hb, ws, e1, r1⟩ := rs2.at_ n _ hc
              rw [hn2] at hb; cases hb
              refine ⟨a, ws, w, rfl, rfl, e1, by rw [← r1.length]; exact Nat.lt_of_lt_of_le hz (small4 (Nat.le_refl _)), ?_⟩
              refine h2 ρ2 _ (List.prefix_refl _) (Evo.write hn2 e1 trivial) (rs2.write hn2 e1 trivial ⟨_, upd_same, ?_⟩) _ rfl
              refine (r1.append (?_ : RVs X.gb H2 ρ2 [d] [w])).mono (List.prefix_refl _) (Evo.write hn2 e1 trivial)
              simp only [RVs]
              exact ⟨w, [], rfl, rw', rfl⟩
            · exact h2.elim
          · exact h2.elim
        · exact h2.elim
      · exact h1.elim
/-- texts of a list of texts -/
def strsD : List D → Option (List Str)
  | [] => some []
  | .str x :: r => match strsD r with
    | some xs => some (x :: xs)
    | none => none
  | _ :: _ => none
theorem strsD_at {K : Gb} {H : Hp} {ρ : List Addr} : ∀ {ds : List D} {vs : List V} {xs : List Str}, RVs K H ρ ds vs → strsD ds = some xs → vs = xs.map V.str
  | [], _, _, r, h => by simp only [RVs] at r; subst r; cases h; rfl
  | d :: ds, _, xs, r, h => by
    simp only [RVs] at r
    obtain ⟨v, s, rfl, r1, r2⟩ := r
    unfold strsD at h
    split at h
    · rename_i heq
      cases heq
    · rename_i x r' heq
      cases heq
      split at h
      · rename_i ys hy
        cases h
        simp only [RV] at r1
        subst r1
        rw [List.map_cons, strsD_at r2 hy]
      · cases h
    · cases h
def seqS (d : D) (S : Store) : Option (List D) := match d with
  | .tup xs => some xs
  | .loc n => match S[n]? with
    | some (.lst xs) => some xs
    | some (.rol xs) => some xs
    | _ => none
  | _ => none
theorem seqS_at {K : Gb} {H : Hp} {ρ : List Addr} {S : Store} {d : D} {v : V} {xs : List D} (rs : RS K H ρ S) (rv : RV K H ρ d v) (h : seqS d S = some xs) : ∃ a vs, v = .ref a ∧ (SqL K.K H a vs ∨ SqT K.K H a vs) ∧ RVs K H ρ xs vs := by
  unfold seqS at h
  split at h
  · cases h
    simp only [RV] at rv
    obtain ⟨a, vs, rfl, e, r⟩ := rv
    exact ⟨a, vs, rfl, .inr (SqT.of e), r⟩
  · rename_i n
    simp only [RV] at rv
    obtain ⟨a, hn, rfl⟩ := rv
    split at h
    · rename_i ys hc
      cases h
      obtain ⟨b, hb, ws, e1, r1⟩ := rs.at_ n _ hc
      rw [hn] at hb; cases hb
      exact ⟨a, ws, rfl, .inl (SqL.of e1), r1⟩
    · rename_i ys hc
      cases h
      obtain ⟨b, hb, ws, e1, r1⟩ := rs.at_ n _ hc
      rw [hn] at hb; cases hb
      exact ⟨a, ws, rfl, .inl (.inl e1), r1⟩
    · cases h
  · cases h
/-- a.join(xs) -/
def joinS (x y : D) (S : Store) : Ou D := match x, seqS y S with
  | .str a, some ds => match strsD ds with
    | some ys => if (ys.map (·.length)).sum + ys.length * a.length ≤ 4096 then .ok (.str (Txt.join a ys)) S else .no
    | none => .no
  | _, _ => .no
def isStrB : D → Bool
  | .str _ => true
  | _ => false
def eJoin (fo fe : SE) : SE := fun e S => (fo e S).bind fun x S1 => if isStrB x = true then (fe e S1).bind fun y S2 => joinS x y S2 else .no
theorem de_join (ho : DE X W o fo) (he : DE X W e fe) (hs : starEach [e] X.env = [(false, eval e X.env)] := by rfl) (hbase : attributeBase o "join" X.env (eval o X.env) = eval o X.env := by rfl) (hline : (apos.endLine == cpos.line) = true := by rfl) :
    DE X W (.Call (.Attribute o "join" apos) [e] [] cpos) (eJoin fo fe) :=
  (pe_join ho he hs hbase hline).imp fun σ H Q ⟨ρ, e', S, rs, re, h⟩ =>
    rd_one rs re h fun ρ1 H1 S1 x v p1 ev1 rs1 re1 rv h1 => by
      split at h1
      · cases x with
        | str a =>
          simp only [RV] at rv
          subst rv
          refine ⟨⟨a, rfl⟩, rd_one rs1 re1 h1 fun ρ2 H2 S2 y u p2 ev2 rs2 re2 ru h2 => ?_⟩
          unfold joinS at h2
          split at h2
          · rename_i a' ds e0 hq
            cases e0
            split at h2
            · rename_i ys hy
              split at h2
              · rename_i hz
                obtain ⟨b, vs, rfl, hsq, r⟩ := seqS_at rs2 ru hq
                rw [strsD_at r hy] at hsq
                exact ⟨a, b, ys, rfl, rfl, hsq, Nat.le_trans hz (by decide), sat_pure h2 rs2 rfl⟩
              · exact h2.elim
            · exact h2.elim
          · exact h2.elim
        | _ => rename_i hh; cases hh
      · exact h1.elim
end
end B

set_option Elab.async false
set_option linter.all false
set_option maxRecDepth 100000
set_option maxHeartbeats 1000000
/-! BFrame: a call over a small store of its own; what it leaves behind forgotten. -/
namespace B
open PySem L2

/-! ### places renamed -/
mutual
def renD (r : Nat → Option Nat) : D → Option D
  | .non => some .non
  | .bl b => some (.bl b)
  | .int i => some (.int i)
  | .str x => some (.str x)
  | .ty n => some (.ty n)
  | .glb x => some (.glb x)
  | .loc n => match r n with
    | some m => some (.loc m)
    | none => none
  | .tup xs => match renDs r xs with
    | some ys => some (.tup ys)
    | none => none
def renDs (r : Nat → Option Nat) : List D → Option (List D)
  | [] => some []
  | d :: ds => match renD r d with
    | some a => match renDs r ds with
      | some as => some (a :: as)
      | none => none
    | none => none
end
def renKs {κ : Type} (r : Nat → Option Nat) : List (κ × D) → Option (List (κ × D))
  | [] => some []
  | (k, d) :: ds => match renD r d with
    | some a => match renKs r ds with
      | some as => some ((k, a) :: as)
      | none => none
    | none => none
def renC (r : Nat → Option Nat) : Cell → Option Cell
  | .lst xs => match renDs r xs with
    | some ys => some (.lst ys)
    | none => none
  | .rol xs => match renDs r xs with
    | some ys => some (.rol ys)
    | none => none
  | .lkK kvs => match renKs r kvs with
    | some ys => some (.lkK ys)
    | none => none
  | .lkT kvs => match renKs r kvs with
    | some ys => some (.lkT ys)
    | none => none
  | .dK kvs => match renKs r kvs with
    | some ys => some (.dK ys)
    | none => none
  | .dT kvs => match renKs r kvs with
    | some ys => some (.dT ys)
    | none => none
  | .ins C fs => match renKs r fs with
    | some ys => some (.ins C ys)
    | none => none
  | .exc c none => some (.exc c none)
  | .exc c (some fs) => match renKs r fs with
    | some ys => some (.exc c (some ys))
    | none => none
def renX (r : Nat → Option Nat) : Option (List (Str × D)) → Option (Option (List (Str × D)))
  | none => some none
  | some fs => match renKs r fs with
    | some ys => some (some ys)
    | none => none
section
variable {K : Gb} {H : Hp} {ρ0 ρ : List Addr} {r : Nat → Option Nat}
mutual
theorem RV.ren (hr : ∀ (i j : Nat), r i = some j → ρ0[i]? = ρ[j]?) : ∀ {d d' : D} {v : V}, renD r d = some d' → (RV K H ρ0 d v ↔ RV K H ρ d' v)
  | .non, _, _, h => by simp only [renD, Option.some.injEq] at h; subst h; simp only [RV]
  | .bl _, _, _, h => by simp only [renD, Option.some.injEq] at h; subst h; simp only [RV]
  | .int _, _, _, h => by simp only [renD, Option.some.injEq] at h; subst h; simp only [RV]
  | .str _, _, _, h => by simp only [renD, Option.some.injEq] at h; subst h; simp only [RV]
  | .ty _, _, _, h => by simp only [renD, Option.some.injEq] at h; subst h; simp only [RV]
  | .glb _, _, _, h => by simp only [renD, Option.some.injEq] at h; subst h; simp only [RV]
  | .loc n, _, _, h => by
    rw [renD] at h
    split at h
    · rename_i m hm
      cases h
      simp only [RV]
      rw [hr n m hm]
    · cases h
  | .tup xs, _, _, h => by
    rw [renD] at h
    split at h
    · rename_i ys hy
      cases h
      simp only [RV]
      constructor
      · rintro ⟨a, vs, e, t, q⟩
        exact ⟨a, vs, e, t, (RVs.ren hr hy).mp q⟩
      · rintro ⟨a, vs, e, t, q⟩
        exact ⟨a, vs, e, t, (RVs.ren hr hy).mpr q⟩
    · cases h
theorem RVs.ren (hr : ∀ (i j : Nat), r i = some j → ρ0[i]? = ρ[j]?) : ∀ {d d' : List D} {v : List V}, renDs r d = some d' → (RVs K H ρ0 d v ↔ RVs K H ρ d' v)
  | [], _, _, h => by simp only [renDs, Option.some.injEq] at h; subst h; simp only [RVs]
  | d :: ds, _, _, h => by
    rw [renDs] at h
    split at h
    · rename_i a ha
      split at h
      · rename_i as has
        cases h
        simp only [RVs]
        constructor
        · rintro ⟨v, t, e, h1, h2⟩
          exact ⟨v, t, e, (RV.ren hr ha).mp h1, (RVs.ren hr has).mp h2⟩
        · rintro ⟨v, t, e, h1, h2⟩
          exact ⟨v, t, e, (RV.ren hr ha).mpr h1, (RVs.ren hr has).mpr h2⟩
      · cases h
    · cases h
end
theorem RKs.ren {κ : Type} (hr : ∀ (i j : Nat), r i = some j → ρ0[i]? = ρ[j]?) : ∀ {d d' : List (κ × D)} {v : List (κ × V)}, renKs r d = some d' → (RKs K H ρ0 d v ↔ RKs K H ρ d' v)
  | [], _, _, h => by simp only [renKs, Option.some.injEq] at h; subst h; simp only [RKs]
  | (k, d) :: ds, _, _, h => by
    rw [renKs] at h
    split at h
    · rename_i a ha
      split at h
      · rename_i as has
        cases h
        simp only [RKs]
        constructor
        · rintro ⟨v, t, e, h1, h2⟩
          exact ⟨v, t, e, (RV.ren hr ha).mp h1, (RKs.ren hr has).mp h2⟩
        · rintro ⟨v, t, e, h1, h2⟩
          exact ⟨v, t, e, (RV.ren hr ha).mpr h1, (RKs.ren hr has).mpr h2⟩
      · cases h
    · cases h
theorem RX.ren (hr : ∀ (i j : Nat), r i = some j → ρ0[i]? = ρ[j]?) {d d' : Option (List (Str × D))} {dd : Option Addr} (h : renX r d = some d') : RX K H ρ0 d dd ↔ RX K H ρ d' dd := by
  cases d with
  | none => simp only [renX, Option.some.injEq] at h; subst h; rfl
  | some fs =>
    rw [renX] at h
    split at h
    · rename_i ys hy
      cases h
      constructor
      · rintro ⟨x, ws, e, q, z⟩
        exact ⟨x, ws, e, q, (RKs.ren hr hy).mp z⟩
      · rintro ⟨x, ws, e, q, z⟩
        exact ⟨x, ws, e, q, (RKs.ren hr hy).mpr z⟩
    · cases h
theorem RC.ren (hr : ∀ (i j : Nat), r i = some j → ρ0[i]? = ρ[j]?) {c c' : Cell} {a : Addr} (h : renC r c = some c') : RC K H ρ0 c a ↔ RC K H ρ c' a := by
  have kk : ∀ {κ : Type} {kvs ys : List (κ × D)} (P : List (κ × V) → Prop), renKs r kvs = some ys → ((∃ ws, P ws ∧ RKs K H ρ0 kvs ws) ↔ ∃ ws, P ws ∧ RKs K H ρ ys ws) := fun P hy =>
    ⟨fun ⟨ws, p, q⟩ => ⟨ws, p, (RKs.ren hr hy).mp q⟩, fun ⟨ws, p, q⟩ => ⟨ws, p, (RKs.ren hr hy).mpr q⟩⟩
  cases c with
  | lst xs =>
    rw [renC] at h; split at h
    · rename_i ys hy; cases h
      exact ⟨fun ⟨vs, p, q⟩ => ⟨vs, p, (RVs.ren hr hy).mp q⟩, fun ⟨vs, p, q⟩ => ⟨vs, p, (RVs.ren hr hy).mpr q⟩⟩
    · cases h
  | rol xs =>
    rw [renC] at h; split at h
    · rename_i ys hy; cases h
      exact ⟨fun ⟨vs, p, q⟩ => ⟨vs, p, (RVs.ren hr hy).mp q⟩, fun ⟨vs, p, q⟩ => ⟨vs, p, (RVs.ren hr hy).mpr q⟩⟩
    · cases h
  | lkK kvs =>
    rw [renC] at h; split at h
    · rename_i ys hy; cases h
      exact ⟨fun ⟨o, vs, p, q⟩ => ⟨o, vs, p, (RKs.ren hr hy).mp q⟩, fun ⟨o, vs, p, q⟩ => ⟨o, vs, p, (RKs.ren hr hy).mpr q⟩⟩
    · cases h
  | lkT kvs =>
    rw [renC] at h; split at h
    · rename_i ys hy; cases h
      exact ⟨fun ⟨o, vs, p, q⟩ => ⟨o, vs, p, (RKs.ren hr hy).mp q⟩, fun ⟨o, vs, p, q⟩ => ⟨o, vs, p, (RKs.ren hr hy).mpr q⟩⟩
    · cases h
  | dK kvs =>
    rw [renC] at h; split at h
    · rename_i ys hy; cases h
      exact kk _ hy
    · cases h
  | dT kvs =>
    rw [renC] at h; split at h
    · rename_i ys hy; cases h
      exact kk _ hy
    · cases h
  | ins C fs =>
    rw [renC] at h; split at h
    · rename_i ys hy; cases h
      exact ⟨fun ⟨o, vs, p, q⟩ => ⟨o, vs, p, (RKs.ren hr hy).mp q⟩, fun ⟨o, vs, p, q⟩ => ⟨o, vs, p, (RKs.ren hr hy).mpr q⟩⟩
    · cases h
  | exc c fs =>
    cases fs with
    | none => rw [renC] at h; cases h; rfl
    | some fs =>
      rw [renC] at h; split at h
      · rename_i ys hy; cases h
        have hx : renX r (some fs) = some (some ys) := by rw [renX, hy]
        exact ⟨fun ⟨C, dd, m, q, z⟩ => ⟨C, dd, m, q, (RX.ren hr hx).mp z⟩, fun ⟨C, dd, m, q, z⟩ => ⟨C, dd, m, q, (RX.ren hr hx).mpr z⟩⟩
      · cases h
end

/-! ### the frame -/
theorem nodup_map_on {f : Nat → Addr} : ∀ {l : List Nat}, (∀ a ∈ l, ∀ b ∈ l, f a = f b → a = b) → l.Nodup → (l.map f).Nodup
  | [], _, _ => by simp
  | x :: l, h, nd => by
    rw [List.map_cons, List.nodup_cons]
    rw [List.nodup_cons] at nd
    refine ⟨fun hm => ?_, nodup_map_on (fun a ha b hb e => h a (List.mem_cons_of_mem _ ha) b (List.mem_cons_of_mem _ hb) e) nd.2⟩
    obtain ⟨y, hy, e⟩ := List.mem_map.mp hm
    have := h y (List.mem_cons_of_mem _ hy) x List.mem_cons_self e
    exact nd.1 (this ▸ hy)
def idx (ks : List Nat) (k : Nat) : Option Nat := ks.findIdx? (· == k)
theorem idx_some {ks : List Nat} {k j : Nat} (h : idx ks k = some j) : ks[j]? = some k := by
  unfold idx at h
  obtain ⟨hj, h2, _⟩ := List.findIdx?_eq_some_iff_getElem.mp h
  rw [List.getElem?_eq_getElem hj]
  simpa using h2
def r0 (ns : List Nat) : Nat → Option Nat := fun i => ns[i]?
/-- inner places to outer ones: the given ones, the kept new ones -/
def r1 (n : Nat) (ns ks : List Nat) : Nat → Option Nat := fun i => match ns[i]? with
  | some m => some m
  | none => match idx ks i with
    | some j => some (n + j)
    | none => none
structure FrIn (S : Store) (ns : List Nat) (S0 : Store) : Prop where
  nd : ns.Nodup
  lt : ∀ n ∈ ns, n < S.length
  len0 : S0.length = ns.length
  in_ : ∀ (i n : Nat) (c : Cell), ns[i]? = some n → S0[i]? = some c → ∃ c', renC (r0 ns) c = some c' ∧ S[n]? = some c'
structure FrOut (S : Store) (ns : List Nat) (S0' : Store) (ks : List Nat) (S' : Store) : Prop where
  knd : ks.Nodup
  kge : ∀ k ∈ ks, ns.length ≤ k ∧ k < S0'.length
  len : S'.length = S.length + ks.length
  old : ∀ m : Nat, m < S.length → m ∉ ns → S'[m]? = S[m]?
  upd : ∀ (i n : Nat) (c : Cell), ns[i]? = some n → S0'[i]? = some c → ∃ c', renC (r1 S.length ns ks) c = some c' ∧ S'[n]? = some c'
  new : ∀ (j k : Nat) (c : Cell), ks[j]? = some k → S0'[k]? = some c → ∃ c', renC (r1 S.length ns ks) c = some c' ∧ S'[S.length + j]? = some c'
section
variable {K : Gb} {H H' : Hp} {ρ ρ0 ρ0' : List Addr} {S S0 S0' S' : Store} {ns ks : List Nat}
theorem frame_in (rs : RS K H ρ S) (fi : FrIn S ns S0) : ∃ ρ0 : List Addr, ρ0.length = ns.length ∧ (∀ (i n : Nat), ns[i]? = some n → ρ0[i]? = ρ[n]?) ∧ RS K H ρ0 S0 := by
  have hlt : ∀ n ∈ ns, n < ρ.length := fun n hn => by rw [rs.len]; exact fi.lt n hn
  refine ⟨ns.map fun n => ρ.getD n 0, by simp, fun i n h => ?_, ?_⟩
  · have hn := hlt n (List.mem_of_getElem? h)
    rw [List.getElem?_map, h]
    simp [hn]
  · refine ⟨by simp [fi.len0], ?_, fun i c hc => ?_⟩
    · refine nodup_map_on (fun a ha b hb e => ?_) fi.nd
      have h1 := hlt a ha
      have h2 := hlt b hb
      simp only [List.getD_eq_getElem?_getD, List.getElem?_eq_getElem h1, List.getElem?_eq_getElem h2, Option.getD_some] at e
      exact (List.getElem_inj rs.nd).mp e
    · have hi : i < ns.length := by
        rw [← fi.len0]
        exact (List.getElem?_eq_some_iff.mp hc).1
      have hn : ns[i]? = some ns[i] := List.getElem?_eq_getElem hi
      obtain ⟨c', e1, e2⟩ := fi.in_ i _ c hn hc
      obtain ⟨a, ha, rc⟩ := rs.at_ _ _ e2
      refine ⟨a, ?_, (RC.ren (fun i' j' e => ?_) e1).mpr rc⟩
      · have hl := hlt ns[i] (List.getElem_mem hi)
        rw [List.getElem?_map, hn]
        rw [List.getElem?_eq_getElem hl] at ha
        cases ha
        simp [hl]
      · unfold r0 at e
        have hl := hlt j' (List.mem_of_getElem? e)
        rw [List.getElem?_map, e]
        simp [hl]
theorem frame_out (rs : RS K H ρ S) (nd : ns.Nodup) (hl0 : ρ0.length = ns.length) (h0 : ∀ (i n : Nat), ns[i]? = some n → ρ0[i]? = ρ[n]?) (hlt : ∀ n ∈ ns, n < S.length) (p : ρ0 <+: ρ0') (ev : Evo K ρ0 ρ0' H H') (rs' : RS K H' ρ0' S0') (fo : FrOut S ns S0' ks S') :
    ∃ ρ', ρ <+: ρ' ∧ Evo K ρ ρ' H H' ∧ RS K H' ρ' S' ∧ ∀ (i j : Nat), r1 S.length ns ks i = some j → ρ0'[i]? = ρ'[j]? := by
  have sub0 : ∀ a ∈ ρ0, a ∈ ρ := fun a ha => by
    obtain ⟨i, hi⟩ := List.mem_iff_getElem?.mp ha
    have hlt' := (List.getElem?_eq_some_iff.mp hi).1
    rw [hl0] at hlt'
    have := h0 i ns[i] (List.getElem?_eq_getElem hlt')
    rw [hi] at this
    exact List.mem_of_getElem? this.symm
  have hk : ∀ k ∈ ks, k < ρ0'.length := fun k hk => by rw [rs'.len]; exact (fo.kge k hk).2
  have kget : ∀ k ∈ ks, ρ0'[k]? = some (ρ0'.getD k 0) := fun k h => by
    have := hk k h
    simp [this]
  have knot : ∀ k ∈ ks, ρ0'.getD k 0 ∉ ρ0 := fun k h hm => by
    obtain ⟨i, hi⟩ := List.mem_iff_getElem?.mp hm
    have hi' := (List.getElem?_eq_some_iff.mp hi).1
    have e1 := pre_get p hi
    have e2 := kget k h
    obtain ⟨l1, g1⟩ := List.getElem?_eq_some_iff.mp e1
    obtain ⟨l2, g2⟩ := List.getElem?_eq_some_iff.mp e2
    have : i = k := (List.getElem_inj rs'.nd).mp (g1.trans g2.symm)
    have := (fo.kge k h).1
    omega
  have kfresh : ∀ k ∈ ks, H (ρ0'.getD k 0) = none := fun k h => by
    rcases ev.new _ (List.mem_of_getElem? (kget k h)) with z | z
    · exact absurd z (knot k h)
    · exact z
  have there : ∀ a ∈ ρ, ∃ o, H a = some o ∧ ∀ fs, o ≠ .xd fs := fun a ha => by
    obtain ⟨n, hn⟩ := List.mem_iff_getElem?.mp ha
    have hlt2 : n < S.length := by rw [← rs.len]; exact (List.getElem?_eq_some_iff.mp hn).1
    obtain ⟨b, hb, rc⟩ := rs.at_ n S[n] (List.getElem?_eq_getElem hlt2)
    rw [hn] at hb; cases hb
    obtain ⟨o, e, _, q⟩ := rc.there
    exact ⟨o, e, q⟩
  have hr1 : ∀ (i j : Nat), r1 S.length ns ks i = some j → ρ0'[i]? = (ρ ++ ks.map fun k => ρ0'.getD k 0)[j]? := fun i j e => by
    unfold r1 at e
    split at e
    · rename_i m hm
      cases e
      have hi := (List.getElem?_eq_some_iff.mp hm).1
      have hm2 : j < ρ.length := by rw [rs.len]; exact hlt j (List.mem_of_getElem? hm)
      rw [List.getElem?_append_left hm2, ← h0 i j hm]
      have : ρ0[i]? = some ρ0[i] := List.getElem?_eq_getElem (by rw [hl0]; exact hi)
      rw [this]
      exact pre_get p this
    · split at e
      · rename_i j' hj
        cases e
        have hks := idx_some hj
        rw [List.getElem?_append_right (by rw [rs.len]; omega), rs.len, Nat.add_sub_cancel_left, List.getElem?_map, hks]
        exact kget i (List.mem_of_getElem? hks)
      · cases e
  have evo : Evo K ρ (ρ ++ ks.map fun k => ρ0'.getD k 0) H H' := by
    refine ⟨ev.tup, ev.frz, fun a ha => ?_, fun a o h hn => ev.keep a o h fun z => hn (sub0 a z)⟩
    rcases List.mem_append.mp ha with z | z
    · exact .inl z
    · obtain ⟨k, hk1, rfl⟩ := List.mem_map.mp z
      exact .inr (kfresh k hk1)
  refine ⟨_, List.prefix_append _ _, evo, ⟨?_, ?_, fun m c hc => ?_⟩, hr1⟩
  · simp [rs.len, fo.len]
  · refine List.nodup_append.mpr ⟨rs.nd, ?_, fun a ha b hb e => ?_⟩
    · refine nodup_map_on (fun a ha b hb e => ?_) fo.knd
      have h1 := hk a ha
      have h2 := hk b hb
      simp only [List.getD_eq_getElem?_getD, List.getElem?_eq_getElem h1, List.getElem?_eq_getElem h2, Option.getD_some] at e
      exact (List.getElem_inj rs'.nd).mp e
    · subst e
      obtain ⟨k, hk1, e⟩ := List.mem_map.mp hb
      obtain ⟨o, ho, _⟩ := there a ha
      rw [← e, kfresh k hk1] at ho
      cases ho
  · by_cases hm : m < S.length
    · have hm' : m < ρ.length := by rw [rs.len]; exact hm
      by_cases hin : m ∈ ns
      · obtain ⟨i, hi⟩ := List.mem_iff_getElem?.mp hin
        have hi' := (List.getElem?_eq_some_iff.mp hi).1
        have hlen : i < S0'.length := by
          rw [← rs'.len]
          exact Nat.lt_of_lt_of_le (by rw [hl0]; exact hi') p.length_le
        obtain ⟨c', e1, e2⟩ := fo.upd i m S0'[i] hi (List.getElem?_eq_getElem hlen)
        rw [hc] at e2; cases e2
        obtain ⟨a, ha, rc⟩ := rs'.at_ i _ (List.getElem?_eq_getElem hlen)
        refine ⟨a, ?_, (RC.ren hr1 e1).mp rc⟩
        rw [← hr1 i m (by unfold r1; rw [hi])]
        exact ha
      · rw [fo.old m hm hin] at hc
        obtain ⟨a, ha, rc⟩ := rs.at_ m c hc
        have ha0 : a ∉ ρ0 := fun z => by
          obtain ⟨i, hi⟩ := List.mem_iff_getElem?.mp z
          have hi' := (List.getElem?_eq_some_iff.mp hi).1
          rw [hl0] at hi'
          have e := h0 i ns[i] (List.getElem?_eq_getElem hi')
          rw [hi] at e
          obtain ⟨l1, g1⟩ := List.getElem?_eq_some_iff.mp e.symm
          obtain ⟨l2, g2⟩ := List.getElem?_eq_some_iff.mp ha
          have : ns[i] = m := (List.getElem_inj rs.nd).mp (g1.trans g2.symm)
          exact hin (this ▸ List.getElem_mem hi')
        obtain ⟨o, ho, _⟩ := rc.there
        refine ⟨a, by rw [List.getElem?_append_left hm']; exact ha, rc.keep (List.prefix_append _ _) evo (fun d fs hd => ?_) ?_⟩
        · refine ev.keep d _ hd fun z => ?_
          obtain ⟨o', ho', q⟩ := there d (sub0 d z)
          rw [hd] at ho'; cases ho'
          exact q fs rfl
        · rw [ho]
          exact ev.keep a o ho ha0
    · have hm2 : m < S'.length := (List.getElem?_eq_some_iff.mp hc).1
      rw [fo.len] at hm2
      obtain ⟨j, rfl⟩ : ∃ j, m = S.length + j := ⟨m - S.length, by omega⟩
      have hj : j < ks.length := by omega
      have hkj : ks[j]? = some ks[j] := List.getElem?_eq_getElem hj
      have hkl := (fo.kge ks[j] (List.getElem_mem hj)).2
      obtain ⟨c', e1, e2⟩ := fo.new j _ S0'[ks[j]] hkj (List.getElem?_eq_getElem hkl)
      rw [hc] at e2; cases e2
      obtain ⟨a, ha, rc⟩ := rs'.at_ _ _ (List.getElem?_eq_getElem hkl)
      refine ⟨a, ?_, (RC.ren hr1 e1).mp rc⟩
      rw [List.getElem?_append_right (by rw [rs.len]; omega), rs.len, Nat.add_sub_cancel_left, List.getElem?_map, hkj]
      simp only [Option.map_some]
      rw [← kget ks[j] (List.getElem_mem hj)]
      exact ha
end
/-- G is F, run over small stores -/
def FrG (F G : List D → Store → Ou D) (ds : List D) (S : Store) : Prop :=
  G ds S = .no ∨
  (∃ ns S0 ds0 d0 S0' ks d S', G ds S = .ok d S' ∧ F ds0 S0 = .ok d0 S0' ∧ renDs (r0 ns) ds0 = some ds ∧ FrIn S ns S0 ∧ FrOut S ns S0' ks S' ∧ renD (r1 S.length ns ks) d0 = some d) ∨
  (∃ ns S0 ds0 c fs0 S0' ks fs S', G ds S = .er c fs S' ∧ F ds0 S0 = .er c fs0 S0' ∧ renDs (r0 ns) ds0 = some ds ∧ FrIn S ns S0 ∧ FrOut S ns S0' ks S' ∧ renX (r1 S.length ns ks) fs0 = some fs)
theorem FnB.frame {P : Program} {w : World} {K : PySem.W.Frag} {mg : Str → Option Value} {base : Heap} {k : Nat} {f : Addr} {fd : FuncData} {ps : List Str} {F G : List D → Store → Ou D} (h : FnB P w K mg base k f fd ps F)
    (q : ∀ ds S, FrG F G ds S) : FnB P w K mg base k f fd ps G := by
  refine ⟨fun A outer s H args us vs ds ρ S Q E hr hg e0 hb hl rv rs rd hs => ?_⟩
  rcases q ds S with e | ⟨ns, S0, ds0, d0, S0', ks, d, S', e1, e2, e3, fi, fo, e4⟩ | ⟨ns, S0, ds0, c, fs0, S0', ks, fs, S', e1, e2, e3, fi, fo, e4⟩
  · rw [e] at hs; exact hs.elim
  · obtain ⟨ρ0, hl0, h0, rs0⟩ := frame_in rs fi
    refine h.run A outer s H args us vs ds0 ρ0 S0 Q E hr hg e0 hb hl rv rs0 ((RVs.ren (fun i j e => h0 i j e) e3).mpr rd) ?_
    rw [e1] at hs
    rw [e2]
    intro ρ0' H' p ev rs' v rv'
    obtain ⟨ρ', p', ev', rs2, hr1⟩ := frame_out rs fi.nd hl0 h0 fi.lt p ev rs' fo
    exact hs ρ' H' p' ev' rs2 v ((RV.ren hr1 e4).mp rv')
  · obtain ⟨ρ0, hl0, h0, rs0⟩ := frame_in rs fi
    refine h.run A outer s H args us vs ds0 ρ0 S0 Q E hr hg e0 hb hl rv rs0 ((RVs.ren (fun i j e => h0 i j e) e3).mpr rd) ?_
    rw [e1] at hs
    rw [e2]
    intro ρ0' H' dd p ev rs' rx C hC
    obtain ⟨ρ', p', ev', rs2, hr1⟩ := frame_out rs fi.nd hl0 h0 fi.lt p ev rs' fo
    exact hs ρ' H' dd p' ev' rs2 ((RX.ren hr1 e4).mp rx) C hC
end B

set_option Elab.async false
set_option linter.all false
set_option maxRecDepth 100000
set_option maxHeartbeats 1000000
/-! BEnd: from a def's function to the law's row. -/
namespace B
open PySem PySem.Spec L2
open PyProof.Rows hiding St

def isLstB : Value → Bool
  | .type n => n == "list"
  | _ => false
/-- the written part has no list -/
def noLists (K : PySem.W.Frag) : Bool := K.all fun p => !isLstB p.2.cls
theorem noLists_no {K : PySem.W.Frag} (h : noLists K = true) {a : Addr} {o : Obj} (e : K.lookup a = some o) : o.cls ≠ .type "list" := by
  unfold noLists at h
  induction K with
  | nil => cases e
  | cons p r ih =>
    rw [List.all_cons, Bool.and_eq_true] at h
    rw [List.lookup_cons] at e
    split at e
    · cases e
      intro z
      have := h.1
      rw [z] at this
      exact absurd this (by decide)
    · exact ih h.2 e
theorem rvs_ints {K : Gb} {H : Hp} {ρ : List Addr} : ∀ ns : List Int, RVs K H ρ (ns.map D.int) (ns.map V.int)
  | [] => by simp only [List.map_nil, RVs]
  | n :: ns => by
    simp only [List.map_cons, RVs]
    exact ⟨_, _, rfl, rfl, rvs_ints ns⟩
/-- the store at the start: the script -/
def S0 (ns : List Int) : Store := [.rol (ns.map D.int)]
theorem law_callD {P : Program} {w : World} {K : PySem.W.Frag} {mg mb : Str → Option Value} {k : Nat} {fa a : Addr} {fd : FuncData} {x : Str} {g : List D → Store → Ou D} {s₁ : Shared} {vs : List Value} {ns : List Int}
    (nl : noLists K = true) (KX : K.In s₁.heap) (hns : s₁.heap.Ns mainGlobals mg) (hb : s₁.heap.Ns builtinsNs mb) (hbb : ∀ x : Str, x ≠ "__name__" → mb x = bootBuiltins x) (hlim : s₁.heap.NoLimit) (hg : s₁.gens = #[])
    (ha : s₁.heap.get? a = some { cls := .type "list", data := .seq vs.toArray }) (hi : IntsAre vs ns) (hl : ns.length ≤ sizeLine) (hr : Room k callerA)
    (F : ∀ base : Heap, K.In base → base.Ns mainGlobals mg → FnB P w K mg base k fa fd [x] g) (hbind : ∀ (s : Shared) (u : Value), BindsTo s fd ⟨[u], []⟩ [(x, u)])
    (hsp : ∃ S', g [.loc 0] (S0 ns) = .ok (.bl true) S') :
    codeAny (model P w) callerA (.call (.ref fa) ⟨[.ref a], []⟩) (fun r s' => r = .ok (.ret (.bool true)) ∧ OldK s₁.heap s'.heap ∧ s'.os = s₁.os ∧ AllBare s'.gens) s₁ := by
  have rv := vals_ints hi
  have lenV := hi.length
  have hk : K.lookup a = none := by
    cases q : K.lookup a with
    | none => rfl
    | some o =>
      have e := KX a o q
      rw [ha] at e
      cases e
      exact absurd rfl (noLists_no nl q)
  obtain ⟨H, hH⟩ : ∃ H : Hp, H = fun b => if b = a then some (.frz { cls := .type "list", data := .seq vs.toArray } (.lst (ns.map V.int))) else none := ⟨_, rfl⟩
  have hHa : H a = some (.frz { cls := .type "list", data := .seq vs.toArray } (.lst (ns.map V.int))) := by rw [hH]; exact if_pos rfl
  have hHn : ∀ b, b ≠ a → H b = none := fun b hb => by rw [hH]; exact if_neg hb
  have hok : HOk P w H s₁.heap := fun b u z => by
    by_cases hb : b = a
    · subst hb
      rw [hHa] at z
      cases z
      exact ⟨ha, by rw [List.length_map]; exact hl, vs, _, rv, ha⟩
    · rw [hHn b hb] at z; cases z
  have noA : ∀ {b : Addr} {o : Obj} {es : Array DictEntry} {ep : Nat}, s₁.heap.get? b = some o → o.data = .dict es ep → H b = none := fun {b o es ep} e d => by
    refine hHn b fun e' => ?_
    subst e'
    rw [ha] at e; cases e
    have d' : Data.seq vs.toArray _ = Data.dict es ep := d
    cases d'
  have nsK : ∀ {b : Addr} {m : Str → Option Value}, s₁.heap.Ns b m → (hidT s₁.heap H).Ns b m := fun {b m} ⟨o, es, ep, e, d, r⟩ => ⟨o, es, ep, hidT_get e (noA e d), d, r⟩
  have hKb : K.In (hidT s₁.heap H) := fun b o e => hidT_get (KX b o e) (hHn b fun e' => by
    subst e'
    rw [hk] at e; cases e)
  have hM : Mod K mg (hidT s₁.heap H) := ⟨hKb, nsK hns, ⟨mb, nsK hb, hbb⟩, let ⟨mc, h1, h2⟩ := hlim; ⟨mc, nsK h1, h2⟩⟩
  have e0 : Env0 P w K mg (hidT s₁.heap H) callerA [] s₁ H := ⟨rfl, hM, fun b o e => of_hidT e, Nat.le_of_eq (hidT_size _ _), trivial, fun b hb => absurd (show b ∈ ([] : List Addr) from hb) (by simp), hok, .of_eq hg⟩
  have rs : RS ⟨K, mg⟩ H [a] (S0 ns) := by
    refine ⟨rfl, by simp, fun n c hc => ?_⟩
    unfold S0 at hc
    cases n with
    | zero =>
      cases hc
      exact ⟨a, rfl, _, .inr ⟨_, hHa⟩, rvs_ints ns⟩
    | succ n => simp at hc
  obtain ⟨S', hS'⟩ := hsp
  refine codeAny_mono ((F _ hKb (nsK hns)).run callerA [] s₁ H ⟨[.ref a], []⟩ [.ref a] [.ref a] [.loc 0] [a] (S0 ns) (fun v _ => v = .bl true) (fun _ _ _ => False) hr rfl e0 (hbind s₁ (.ref a)) rfl (.cons rfl .nil) rs ?_ ?_) fun r s' h => ?_
  · simp only [RVs, RV]
    exact ⟨_, _, rfl, ⟨a, rfl, rfl⟩, rfl⟩
  · rw [hS']
    intro ρ' H' _ _ _ v hv
    exact hv
  cases r with
  | error e =>
    obtain ⟨_, _, _, _, _, _, _, _, _, _, _, _, z⟩ := h
    exact z.elim
  | ok fl =>
    cases fl with
    | next => exact False.elim h
    | brk => exact False.elim h
    | cont => exact False.elim h
    | ret u =>
      obtain ⟨v, H', os, bare, un, hok', r', q⟩ := h
      have q' : v = .bl true := q
      subst q'
      obtain rfl : u = Value.bool true := r'
      refine ⟨rfl, OldK.of_keep fun b o e => ?_, os, bare⟩
      by_cases hb : b = a
      · subst hb
        have z2 := un.frzs b _ _ hHa
        obtain ⟨e1, _⟩ := hok b _ hHa
        obtain ⟨e2, _⟩ := hok' b _ z2
        rw [e] at e1; cases e1
        exact e2
      · exact un.keep b o e (hHn b hb) (by intro z; exact absurd (show b ∈ ([] : List Addr) from z) (by simp)) (by simp)

/-- the row's walk -/
theorem walk_D {l : PySem.W.OpenLaw} {n k : Nat} {q : Program} {loose : List Str} {XP : (Str → Option Value) → Heap → Prop} {YP : World → Heap → Prop} {d : DefRec} {K : Params → PySem.W.Frag} {g : List D → Store → Ou D} {x : Str}
    (hn : l.most = some n) (hn2 : n ≤ sizeLine) (hdf : d.params.defaults = []) (hr : Room k callerA)
    (hY : ∀ (w : World) (h : Heap), YP w h → (K w.params).In h) (nl : ∀ w : World, noLists (K w.params) = true)
    (F : ∀ (w : World) (mg : Str → Option Value) (fa : Addr) (h : Heap), (K w.params).In h → h.Ns mainGlobals mg → mg d.name = some (.ref fa) →
      ∃ fd : FuncData, (∀ (s : Shared) (u : Value), BindsTo s fd ⟨[u], []⟩ [(x, u)]) ∧
        ∀ base : Heap, (K w.params).In base → base.Ns mainGlobals mg → FnB l.prog w (K w.params) mg base k fa fd [x] g)
    (hsp : ∀ ns : List Int, ns.length ≤ n → (∀ z ∈ ns, Builtin.Int.intBits z ≤ 1048576) → ∃ S', g [.loc 0] (S0 ns) = .ok (.bl true) S') :
    PySem.W.WalkO q loose XP YP l.row.toRowW d [] (fun f vs => PySem.call f vs) := by
  refine Att.attach_callB hn hdf fun w s₀ s₁ mg mb fa o pm cd doc a vs ns G Y ho hd hcd hmg hobj hints hlen hbits hg => ?_
  have KX := hY w _ Y
  obtain ⟨fd, hb, hF⟩ := F w mg fa _ KX G.T.g hmg
  exact law_callD (nl w) KX G.T.g G.T.b G.T.builtins G.T.nolimit hg hobj hints (Nat.le_trans hlen hn2) hr hF hb (hsp ns hlen hbits)
end B

set_option Elab.async false
set_option linter.all false
set_option maxRecDepth 100000
set_option maxHeartbeats 1000000
/-! BTop: facts of the written part by checks; short forms for the printed proofs. -/
namespace B
open PySem PySem.Spec L2
open PyProof.Rows hiding St

/-! ### a def known to callers, apart from where one stands -/
structure KnB (P : Program) (w : World) (K : PySem.W.Frag) (mg : Str → Option Value) (base : Heap) (k : Nat) (x : Str) (n : Nat) (dvs : List D) (F : List D → Store → Ou D) : Prop where
  ex : ∃ (f : Addr) (fd : FuncData) (ps : List Str) (vs : List V) (us : List Value), FnB P w K mg base k f fd ps F ∧ mg x = some (.ref f) ∧ PySem.W.keepIn K (.ref f) = true ∧ Binds K fd ps us ∧ Vals vs us ∧ (∀ H ρ, RVs ⟨K, mg⟩ H ρ dvs vs) ∧ ps.length = n + us.length
theorem KnB.frame {P : Program} {w : World} {K : PySem.W.Frag} {mg : Str → Option Value} {base : Heap} {k : Nat} {x : Str} {n : Nat} {dvs : List D} {F G : List D → Store → Ou D} (h : KnB P w K mg base k x n dvs F) (q : ∀ ds S, FrG F G ds S) : KnB P w K mg base k x n dvs G := by
  obtain ⟨f, fd, ps, vs, us, FB, r⟩ := h.ex
  exact ⟨f, fd, ps, vs, us, FB.frame q, r⟩
section
variable {X : Cx} {W : WX} {e : Expr} {es : List Expr} {pos p : Pos} {fr : SA} {j k n : Nat} {x : Str} {dvs : List D} {F : List D → Store → Ou D}
theorem dc (Bx : Bd X W k) (Kx : KnB X.prog X.w X.K X.mg X.base j x n dvs F) (hk : j ≤ k) (ha : DA X W (e :: es) fr) (gl : Gl X x := by rfl) (hdb : (x == ("__debug__" : Str)) = false := by decide)
    (he : starEach (e :: es) X.env = (false, eval e X.env) :: starEach es X.env := by rfl) (hpl : (backTo pos (starEach es X.env)).any (·.1) = false := by rfl) : DE X W (.Call (.Name x p) (e :: es) [] pos) (eN (callF n dvs F) fr) :=
  de_call Bx (Kx := ⟨Kx.ex⟩) hk ha gl hdb he hpl
theorem dc0 (Bx : Bd X W k) (Kx : KnB X.prog X.w X.K X.mg X.base j x n dvs F) (hk : j ≤ k) (gl : Gl X x := by rfl) (hdb : (x == ("__debug__" : Str)) = false := by decide) : DE X W (.Call (.Name x p) [] [] pos) (fun _ S => callF n dvs F [] S) :=
  de_call0 Bx (Kx := ⟨Kx.ex⟩) hk gl hdb
theorem Bd.blk (h : Bd X W k) {s : Shared} {H : Hp} {scope : Scope} {env : PySem.Env} {fp : List Addr} : Bd (X.blk s H scope env fp) W0 k := ⟨takes0, h.room, h.gd⟩
theorem Bd.un64 (h : Bd X W k) : X.A.units + 64 < cLine := h.room.units
theorem Bd.un1 (h : Bd X W k) : X.A.units + 1 < cLine := hu_of h.room
theorem dv (i : Nat) {x : Str} (hN : X.N[i]? = some x := by rfl) (hv : Vis X.env.scope x := by first | exact Or.inl rfl | exact Or.inr (Or.inl rfl) | exact Or.inr (Or.inr rfl)) (hd : (x == ("__debug__" : Str)) = false := by decide) (hcd : (x == ("__classdict__" : Str)) = false := by decide) : DE X W (.Name x pos) (eV i) := de_var hN hv hd hcd
/-- a class of the text -/
theorem dgl (h : ∃ C, X.mg x = some (.ref C)) (gl : Gl X x := by rfl) (hdb : (x == ("__debug__" : Str)) = false := by decide) : DE X W (.Name x pos) (eC (.glb x)) :=
  let ⟨C, h⟩ := h
  de_glob gl h (show RelV (.ref C) (.ref C) from rfl) (fun H ρ => by simp only [RV]; exact ⟨_, h, rfl⟩) hdb
/-- a built-in type as a value -/
theorem dty {T : String} (hm : X.mg x = none) (hv : bootBuiltins x = some (.type T)) (gl : Gl X x := by rfl) (hn : x ≠ "__name__" := by decide) (hdb : (x == ("__debug__" : Str)) = false := by decide) : DE X W (.Name x pos) (eC (.ty T)) :=
  de_bltn gl hm hv (show RelV (.ty T) (.type T) from rfl) (fun _ _ => rfl) hn hdb
end

/-! ### exceptions of the text -/
structure Ex1 (K : PySem.W.Frag) (mg : Str → Option Value) (x : Str) : Prop where
  ex : ∃ C Bn newId initId bmB, ExcBaseFacts Bn newId initId bmB ∧ PySem.W.excIn K C bmB newId = true ∧ mg x = some (.ref C) ∧ PySem.W.keepIn K (.ref C) = true
structure ExF (K : PySem.W.Frag) (mg : Str → Option Value) (x f : Str) : Prop where
  ex : ∃ C fI Bn newId initId bmB p', BX.ExcT K mg x C fI Bn newId initId bmB p' f
section
variable {X : Cx} {W : WX} {x f : Str} {e : Expr} {fe : SE} {p pos : Pos} {k : Nat}
theorem dx1 (T : Ex1 X.K X.mg x) (he : DE X W e fe) (hg : Gl X x := by rfl)
    (hs : starEach [e] X.env = (false, eval e X.env) :: starEach [] X.env := by rfl) (hdb : (x == ("__debug__" : Str)) = false := by decide) : DE X W (.Call (.Name x p) [e] [] pos) (eN (excS x) (aCons fe aNil)) := by
  obtain ⟨C, Bn, newId, initId, bmB, F, q, gC, kC⟩ := T.ex
  exact de_exc1 F q gC kC hg he hs hdb
theorem dxF (bd : Bd X W k) (T : ExF X.K X.mg x f) (he : DE X W e fe) (hg : Gl X x := by rfl)
    (hs : starEach [e] X.env = (false, eval e X.env) :: starEach [] X.env := by rfl) (hpl : (backTo pos (starEach [] X.env)).any (·.1) = false := by rfl) (hdb : (x == ("__debug__" : Str)) = false := by decide) : DE X W (.Call (.Name x p) [e] [] pos) (eN (excF x f) (aCons fe aNil)) := by
  obtain ⟨C, fI, Bn, newId, initId, bmB, p', T⟩ := T.ex
  exact de_excF T bd.room hg he hs hpl hdb
end
def ex1B (K : PySem.W.Frag) (x : Str) (bmB : List Value) (newId : String) : Bool := match PySem.W.nsIn K mainGlobals x with
  | some (some (.ref C)) => PySem.W.excIn K C bmB newId && PySem.W.keepIn K (.ref C)
  | _ => false
theorem ex1_of {K : PySem.W.Frag} {mg : Str → Option Value} {h : Heap} {x : Str} {bmB : List Value} {Bn newId initId : String} (X : K.In h) (G : h.Ns mainGlobals mg) (F : ExcBaseFacts Bn newId initId bmB) (q : ex1B K x bmB newId = true) : Ex1 K mg x := by
  unfold ex1B at q
  split at q
  · rename_i C e
    rw [Bool.and_eq_true] at q
    exact ⟨C, Bn, newId, initId, bmB, F, q.1, PySem.W.mg_of X G e, q.2⟩
  · cases q
def exFB (K : PySem.W.Frag) (C fI : Addr) (f p : Str) (bmB : List Value) (newId : String) : Bool :=
  (match K.lookup C with
  | some ⟨.type "type", _, .cls cd, sl⟩ => (match cd.mro, sl.toList with
    | .ref C' :: bm, [_, _, _, _, some (.builtin n), _] => C' == C && n == newId && !cd.hasDel && cd.hasDict && PySem.W.excTail bmB bm
    | _, _ => false)
  | _ => false) && (decide (PySem.W.findIn K (.ref C) "__setattr__" = some (some (.builtin "object.__setattr__"))) && (decide (PySem.W.findIn K (.ref C) f = some none) && (decide (PySem.W.typeIn K (.ref fI) = some (.type "function")) &&
    (PySem.W.keepIn K (.ref C) && (decide (PySem.W.subIn K (.ref C) (.type "BaseException") = some true) && (decide (PySem.W.typeIn K (.ref C) = some (.type "type")) && (!(p == ("__debug__" : Str)) && decide (p ≠ "self"))))))))
theorem exF_of {K : PySem.W.Frag} {mg : Str → Option Value} {h : Heap} {x qual p f : Str} {C fI : Addr} {bmB bmN : List Value} {Bn newId initId SB : String} {st : Stmt} {oc : Value} {od an : Option Addr} {osl : Array (Option Value)} {kV doc pm cdv ct : Value} {q1 q2 q3 q4 : Pos} (X : K.In h) (G : h.Ns mainGlobals mg) (F : ExcBaseFacts Bn newId initId bmN)
    (sto : PySem.StoreFacts SB bmB "object.__setattr__" "object") (hB : bmB.contains (.type Bn) = true) (hA : bmB.contains (.type "AttributeError") = false) (hN : bmB.contains (.type "NameError") = false)
    (e : PySem.W.nsIn K mainGlobals x = some (some (.ref C))) (iC : PySem.W.findIn K (.ref C) "__init__" = some (some (.ref fI)))
    (l : K.lookup fI = some ⟨oc, od, .func (PySem.W.fnOf "__init__" qual (defArgs st) (defBody st) (defScope st) .none kV doc pm an cdv ct), osl⟩) (c : PySem.W.codeIn K cdv qual = true)
    (hb : defBody st = [.Assign [.Attribute (.Name "self" q1) f q2] (.Name p q3) q4])
    (hbi : ∀ (s : Shared) (a b : Value), BindsTo s (PySem.W.fnOf "__init__" qual (defArgs st) (defBody st) (defScope st) .none kV doc pm an cdv ct) ⟨[a, b], []⟩ [("self", a), (p, b)])
    (s1 : (defScope st).names.lookup ("self" : Str) = some NameKind.local) (s2 : (defScope st).names.lookup p = some NameKind.local) (s3 : (defScope st).kind = .function) (s4 : (defScope st).isCoroutine = false) (s5 : (defScope st).isGenerator = false)
    (q : exFB K C fI f p bmB newId = true) : ExF K mg x f := by
  unfold exFB at q
  simp only [Bool.and_eq_true, decide_eq_true_eq, Bool.not_eq_true'] at q
  obtain ⟨c0, c1, c2, c3, c4, c5, c6, c7, c8⟩ := q
  refine ⟨C, fI, Bn, newId, initId, bmB, p, ⟨PySem.W.mg_of X G e, ⟨bmN, F⟩, hB, hA, hN, ⟨SB, sto⟩, ?_, c1, c2, iC, c3, c4, c5, c6, ?_, c7, c8⟩⟩
  · split at c0
    · rename_i dd cd sl ho
      split at c0
      · rename_i C' bm k0 k1 k2 k3 n k5 hm hs
        simp only [Bool.and_eq_true, beq_iff_eq, Bool.not_eq_true'] at c0
        obtain ⟨⟨⟨⟨rfl, rfl⟩, hdel⟩, hdi⟩, ht⟩ := c0
        obtain ⟨nm, bs, mro, ns, qn, hd, sn, sub, ab, col, del⟩ := cd
        dsimp only at hm hdel hdi
        subst hm hdel hdi
        have hsl : sl = #[k0, k1, k2, k3, some (.builtin n), k5] := by
          obtain ⟨l⟩ := sl
          simp only at hs
          rw [hs]
        subst hsl
        exact ⟨nm, qn, ns, bs, bm, sn, sub, ab, col, dd, k0, k1, k2, k3, k5, ho, ht⟩
      · cases c0
    · cases c0
  · rw [hb] at l hbi
    exact ⟨oc, od, "__init__", qual, defArgs st, defScope st, kV, doc, pm, an, cdv, ct, osl, q1, q2, q3, q4, l, c, hbi, s1, s2, s3, s4, s5⟩

/-! ### isinstance: the table, checked -/
def tnV (K : PySem.W.Frag) : Tn → Option Value
  | .b n => some (.type n)
  | .o x => match PySem.W.nsIn K mainGlobals x with
    | some (some (.ref C)) => some (.ref C)
    | _ => none
def excCB (K : PySem.W.Frag) (D : Addr) : Bool :=
  decide (PySem.W.findIn K (.ref D) "__getattribute__" = some (some (.builtin "BaseException.__getattribute__"))) && (decide (PySem.W.findIn K (.ref D) "__getattr__" = some none) && (decide (PySem.W.subIn K (.ref D) (.type "BaseException") = some true) &&
  (PySem.W.hasDictIn K D && (decide (PySem.W.findIn K (.ref D) "__class__" = some (some (.builtin "object.__class__"))) && (decide (PySem.W.specialIn K (.builtin "object.__class__") "__get__" = some (some (.builtin "getset_descriptor.__get__"))) &&
  (decide (PySem.W.takesIn K (.builtin "object.__class__") = some true) && decide (PySem.W.mroIn K D (.type "object") = some true)))))))
theorem excCB_ok {K : PySem.W.Frag} {D : Addr} (h : excCB K D = true) : ExcC K D := by
  unfold excCB at h
  simp only [Bool.and_eq_true, decide_eq_true_eq] at h
  obtain ⟨h1, h2, h3, h4, h5, h6, h7, h8⟩ := h
  exact ⟨h1, h2, h3, h4, h5, h6, h7, h8⟩
/-- the exceptions with the classes above them; the classes that may be asked for -/
structure IsaTab where
  sup : List (Tn × List Tn)
  all : List Tn
def IsaTab.isa (T : IsaTab) (t u : Tn) : Option Bool := match T.sup.find? fun r => decide (r.1 = t) with
  | some r => if u ∈ T.all then some (decide (u ∈ r.2)) else none
  | none => none
def isaB (K : PySem.W.Frag) (T : IsaTab) : Bool :=
  (T.sup.all fun r => match tnV K r.1 with
    | some v => (match r.1, v with
      | .o _, .ref C => excCB K C
      | .o _, _ => false
      | _, _ => true) && T.all.all fun u => match tnV K u with
        | some w => PySem.W.kitOne K v w == some (decide (u ∈ r.2))
        | none => false
    | none => false) && T.all.all fun u => (tnV K u).isSome
theorem tnV_of {K : PySem.W.Frag} {mg : Str → Option Value} {h : Heap} (X : K.In h) (G : h.Ns mainGlobals mg) {t : Tn} {v : Value} (e : (tnV K t).isSome = true) (q : TnV ⟨K, mg⟩ t v) : tnV K t = some v := by
  cases t with
  | b n => cases (show v = .type n from q); rfl
  | o x =>
    unfold tnV at e ⊢
    dsimp only at e ⊢
    split at e
    · rename_i C hc
      obtain ⟨q1, C', rfl⟩ := (show mg x = some v ∧ ∃ C, v = .ref C from q)
      rw [PySem.W.mg_of X G hc] at q1
      cases q1
      rfl
    · cases e
theorem isa_ok {K : PySem.W.Frag} {mg : Str → Option Value} {h : Heap} {T : IsaTab} (X : K.In h) (G : h.Ns mainGlobals mg) (q : isaB K T = true) : IsaOk ⟨K, mg⟩ T.isa := by
  unfold isaB at q
  rw [Bool.and_eq_true] at q
  obtain ⟨qs, qa⟩ := q
  have row : ∀ t u b, T.isa t u = some b → ∃ v w, tnV K t = some v ∧ tnV K u = some w ∧ PySem.W.kitOne K v w = some b ∧ (∀ x, t = .o x → ∃ C, v = .ref C ∧ excCB K C = true) := fun t u b e => by
    unfold IsaTab.isa at e
    split at e
    · rename_i r hr
      split at e
      · rename_i hu
        cases e
        have hm := List.mem_of_find?_eq_some hr
        have ht := List.find?_some hr
        have ht' : r.1 = t := by simpa using ht
        subst ht'
        have z := List.all_eq_true.mp qs r hm
        split at z
        · rename_i v hv
          rw [Bool.and_eq_true] at z
          have z2 := List.all_eq_true.mp z.2 u hu
          split at z2
          · rename_i w hw
            refine ⟨v, w, hv, hw, by simpa using z2, fun x ex => ?_⟩
            have z1 := z.1
            rw [ex] at z1
            cases v <;> first | exact ⟨_, rfl, z1⟩ | cases z1
          · cases z2
        · cases z
      · cases e
    · cases e
  refine ⟨fun t u b v w e h1 h2 => ?_, fun x u b C e hm => ?_, fun t x b e => ?_⟩
  · obtain ⟨v', w', e1, e2, e3, _⟩ := row t u b e
    have a1 := tnV_of X G (by rw [e1]; rfl) h1
    have a2 := tnV_of X G (by rw [e2]; rfl) h2
    rw [e1] at a1; rw [e2] at a2
    cases a1; cases a2
    exact e3
  · obtain ⟨v', w', e1, e2, e3, e4⟩ := row _ u b e
    obtain ⟨C', rfl, hC⟩ := e4 x rfl
    have a1 := tnV_of (mg := mg) X G (t := .o x) (v := .ref C) (by rw [e1]; rfl) ⟨hm, C, rfl⟩
    rw [e1] at a1
    cases a1
    exact excCB_ok hC
  · obtain ⟨v', w', e1, e2, e3, _⟩ := row t _ b e
    unfold tnV at e2
    dsimp only at e2
    split at e2
    · rename_i C hc
      exact ⟨C, PySem.W.mg_of X G hc⟩
    · cases e2
/-- the fields of exceptions -/
def fldB (K : PySem.W.Frag) (x f : Str) : Bool := match PySem.W.nsIn K mainGlobals x with
  | some (some (.ref C)) => xfB K C && decide (PySem.W.findIn K (.ref C) f = some none)
  | _ => false
theorem fld_ok {K : PySem.W.Frag} {mg : Str → Option Value} {h : Heap} {x f : Str} (X : K.In h) (G : h.Ns mainGlobals mg) (q : fldB K x f = true) : ∀ c ∈ [x], ∀ C, mg c = some (.ref C) → XfC K C ∧ PySem.W.findIn K (.ref C) f = some none := fun c hc C hm => by
  unfold fldB at q
  split at q
  · rename_i C' e
    rw [Bool.and_eq_true, decide_eq_true_eq] at q
    have : c = x := by simpa using hc
    subst this
    rw [PySem.W.mg_of X G e] at hm
    cases hm
    exact ⟨xfB_ok q.1, q.2⟩
  · cases q
theorem flds_ok {K : PySem.W.Frag} {mg : Str → Option Value} {h : Heap} {xs : List Str} {f : Str} (X : K.In h) (G : h.Ns mainGlobals mg) (q : (xs.all fun x => fldB K x f) = true) : ∀ c ∈ xs, ∀ C, mg c = some (.ref C) → XfC K C ∧ PySem.W.findIn K (.ref C) f = some none :=
  fun c hc C hm => fld_ok X G (List.all_eq_true.mp q c hc) c (List.mem_singleton.mpr rfl) C hm
theorem Ex1.cls {K : PySem.W.Frag} {mg : Str → Option Value} {x : Str} (h : Ex1 K mg x) : ∃ C, mg x = some (.ref C) := by
  obtain ⟨C, _, _, _, _, _, _, e, _⟩ := h.ex
  exact ⟨C, e⟩
theorem ExF.cls {K : PySem.W.Frag} {mg : Str → Option Value} {x f : Str} (h : ExF K mg x f) : ∃ C, mg x = some (.ref C) := by
  obtain ⟨C, _, _, _, _, _, _, e⟩ := h.ex
  exact ⟨C, e.gC⟩
end B

set_option Elab.async false
set_option linter.all false
set_option maxRecDepth 100000
set_option maxHeartbeats 1000000
/-! BPure: calls that only read; runs step by step. -/
namespace B
section
variable {r r' : Nat → Option Nat}
mutual
theorem renD_mono (h : ∀ i j, r i = some j → r' i = some j) : ∀ {d d' : D}, renD r d = some d' → renD r' d = some d'
  | .non, _, e => e
  | .bl _, _, e => e
  | .int _, _, e => e
  | .str _, _, e => e
  | .ty _, _, e => e
  | .glb _, _, e => e
  | .loc n, _, e => by
    rw [renD] at e ⊢
    split at e
    · rename_i m hm
      rw [h n m hm]; exact e
    · cases e
  | .tup xs, _, e => by
    rw [renD] at e ⊢
    split at e
    · rename_i ys hy
      rw [renDs_mono h hy]; exact e
    · cases e
theorem renDs_mono (h : ∀ i j, r i = some j → r' i = some j) : ∀ {d d' : List D}, renDs r d = some d' → renDs r' d = some d'
  | [], _, e => e
  | d :: ds, _, e => by
    rw [renDs] at e ⊢
    split at e
    · rename_i a ha
      split at e
      · rename_i b hb
        rw [renD_mono h ha, renDs_mono h hb]; exact e
      · cases e
    · cases e
end
theorem renKs_mono {κ : Type} (h : ∀ i j, r i = some j → r' i = some j) : ∀ {d d' : List (κ × D)}, renKs r d = some d' → renKs r' d = some d'
  | [], _, e => e
  | (k, d) :: ds, _, e => by
    rw [renKs] at e ⊢
    split at e
    · rename_i a ha
      split at e
      · rename_i b hb
        rw [renD_mono h ha, renKs_mono h hb]; exact e
      · cases e
    · cases e
theorem renC_mono (h : ∀ i j, r i = some j → r' i = some j) {c c' : Cell} (e : renC r c = some c') : renC r' c = some c' := by
  cases c with
  | lst xs => rw [renC] at e ⊢; split at e <;> first | (rename_i hy; rw [renDs_mono h hy]; exact e) | cases e
  | rol xs => rw [renC] at e ⊢; split at e <;> first | (rename_i hy; rw [renDs_mono h hy]; exact e) | cases e
  | lkK xs => rw [renC] at e ⊢; split at e <;> first | (rename_i hy; rw [renKs_mono h hy]; exact e) | cases e
  | lkT xs => rw [renC] at e ⊢; split at e <;> first | (rename_i hy; rw [renKs_mono h hy]; exact e) | cases e
  | dK xs => rw [renC] at e ⊢; split at e <;> first | (rename_i hy; rw [renKs_mono h hy]; exact e) | cases e
  | dT xs => rw [renC] at e ⊢; split at e <;> first | (rename_i hy; rw [renKs_mono h hy]; exact e) | cases e
  | ins C xs => rw [renC] at e ⊢; split at e <;> first | (rename_i hy; rw [renKs_mono h hy]; exact e) | cases e
  | exc c fs =>
    cases fs with
    | none => exact e
    | some fs => rw [renC] at e ⊢; split at e <;> first | (rename_i hy; rw [renKs_mono h hy]; exact e) | cases e
end
theorem r1_of {n : Nat} {ns ks : List Nat} : ∀ i j, r0 ns i = some j → r1 n ns ks i = some j := fun i j h => by
  unfold r0 at h
  unfold r1
  rw [h]
/-- a call that leaves the places it was given as they were, and gives no new place -/
theorem frG_pure {F G : List D → Store → Ou D} {ds : List D} {S : Store} (ns : List Nat) (S0 : Store) (ds0 : List D) (d0 : D) (S0' : Store) {d : D} (hG : G ds S = .ok d S) (hF : F ds0 S0 = .ok d0 S0') (hd : renDs (r0 ns) ds0 = some ds) (fi : FrIn S ns S0)
    (hk : S0'.take S0.length = S0) (hren : renD (r0 ns) d0 = some d) : FrG F G ds S := by
  refine .inr (.inl ⟨ns, S0, ds0, d0, S0', [], d, S, hG, hF, hd, fi, ⟨List.nodup_nil, fun k hk => by simp at hk, rfl, fun _ _ _ => rfl, fun i n c hi hc => ?_, fun j k c hj => by simp at hj⟩, renD_mono r1_of hren⟩)
  have hi' : i < S0.length := by rw [fi.len0]; exact (List.getElem?_eq_some_iff.mp hi).1
  have : S0[i]? = some c := by
    rw [← hk, List.getElem?_take_of_lt hi']
    exact hc
  obtain ⟨c', e1, e2⟩ := fi.in_ i n c hi this
  exact ⟨c', renC_mono r1_of e1, e2⟩
theorem Os.then_assoc {m : Os} {f g : Env → Store → Os} : (m.then f).then g = m.then fun e S => (f e S).then g := by
  cases m <;> rfl
theorem toPs_mono {f g : D → Option PySem.PyData} (h : ∀ d q, f d = some q → g d = some q) : ∀ {xs : List D} {ps : List PySem.PyData}, toPs f xs = some ps → toPs g xs = some ps
  | [], _, e => e
  | x :: xs, ps, e => by
    obtain ⟨p, qs, e1, e2, rfl⟩ := toPs_cons e
    unfold toPs
    rw [h _ _ e1, toPs_mono h e2]
theorem toP_mono {S T : Store} (hp : S <+: T) : ∀ {n : Nat} {d : D} {q : PySem.PyData}, toP n S d = some q → toP n T d = some q
  | 0, _, _, e => by cases e
  | n + 1, d, q, e => by
    have ih : ∀ d q, toP n S d = some q → toP n T d = some q := fun d q => toP_mono hp
    have mp : ∀ {xs : List D} {f : List PySem.PyData → PySem.PyData} {q : PySem.PyData}, (toPs (toP n S) xs).map f = some q → (toPs (toP n T) xs).map f = some q := fun {xs f q} h => by
      cases e1 : toPs (toP n S) xs with
      | none => rw [e1] at h; cases h
      | some ps => rw [e1] at h; rw [toPs_mono ih e1]; exact h
    unfold toP at e ⊢
    cases d with
    | loc m =>
      simp only at e ⊢
      cases hc : S[m]? with
      | none => rw [hc] at e; cases e
      | some c =>
        have hc' : T[m]? = some c := by
          obtain ⟨t, rfl⟩ := hp
          rw [List.getElem?_append_left (List.getElem?_eq_some_iff.mp hc).1]
          exact hc
        rw [hc] at e
        rw [hc']
        cases c with
        | dT kvs =>
          simp only at e ⊢
          split at e
          · rename_i h0
            rw [if_pos h0]
            exact mp e
          · cases e
        | lst xs => exact mp e
        | rol xs => exact mp e
        | dK xs => exact mp e
        | _ => cases e
    | tup xs => exact mp e
    | _ => exact e
theorem toP_lst {n : Nat} {T : Store} {j : Nat} {xs : List D} (h : T[j]? = some (.lst xs)) : toP (n + 1) T (.loc j) = (toPs (toP n T) xs).map PySem.PyData.list := by
  conv => lhs; unfold toP
  simp only [h]
def isT : Ou D → Bool
  | .ok (.bl true) _ => true
  | _ => false
theorem isT_ok {m : Ou D} (h : isT m = true) : ∃ S, m = .ok (.bl true) S := by
  unfold isT at h
  split at h
  · exact ⟨_, rfl⟩
  · cases h
def envOf : Os → Env
  | .nx e _ => e
  | _ => []
def stOf : Os → Store
  | .nx _ S => S
  | .rt _ S => S
  | _ => []
def isNx : Os → Bool
  | .nx _ _ => true
  | _ => false
theorem isNx_eq {m : Os} (h : isNx m = true) : m = .nx (envOf m) (stOf m) := by
  cases m <;> first | rfl | cases h
end B

set_option Elab.async false
set_option linter.all false
set_option maxRecDepth 100000
set_option maxHeartbeats 4000000
namespace P
open PySem L2 B
def top (i : Nat) : Stmt := PySem.Challenge.pw_heardwide_k00_errors.main.body.getD i (.Pass ⟨0, 0, 0, 0⟩)
def tab : IsaTab := { sup := [(.o "PlanError", [.o "PlanError", .b "ValueError"]), (.o "InvalidArcs", [.o "InvalidArcs", .o "PlanError", .b "ValueError"]), (.o "InvalidPlan", [.o "InvalidPlan", .o "PlanError", .b "ValueError"]), (.o "InvalidDurations", [.o "InvalidDurations", .o "PlanError", .b "ValueError"]), (.o "InvalidTimes", [.o "InvalidTimes", .o "PlanError", .b "ValueError"]), (.o "InvalidRun", [.o "InvalidRun", .o "PlanError", .b "ValueError"]), (.o "InvalidPolicy", [.o "InvalidPolicy", .o "PlanError", .b "ValueError"]), (.o "InvalidTable", [.o "InvalidTable", .o "PlanError", .b "ValueError"]), (.o "InvalidTask", [.o "InvalidTask", .o "PlanError", .b "ValueError"]), (.o "InvalidOperation", [.o "InvalidOperation", .o "PlanError", .b "ValueError"]), (.o "InvalidEdit", [.o "InvalidEdit", .o "PlanError", .b "ValueError"]), (.o "ParseError", [.o "ParseError", .o "PlanError", .b "ValueError"]), (.o "InvalidCommand", [.o "InvalidCommand", .o "PlanError", .b "ValueError"]), (.o "InvalidNumber", [.o "InvalidNumber", .b "IndexError", .b "LookupError"]), (.o "UnknownName", [.o "UnknownName", .b "KeyError", .b "LookupError"]), (.o "TooMany", [.o "TooMany", .b "OverflowError", .b "ArithmeticError"]), (.o "Refuted", [.o "Refuted", .b "ArithmeticError"]), (.o "Driven", [.o "Driven", .b "RuntimeError"]), (.o "NothingToUndo", [.o "NothingToUndo", .b "LookupError"])], all := [.o "PlanError", .o "InvalidArcs", .o "InvalidPlan", .o "InvalidDurations", .o "InvalidTimes", .o "InvalidRun", .o "InvalidPolicy", .o "InvalidTable", .o "InvalidTask", .o "InvalidOperation", .o "InvalidEdit", .o "ParseError", .o "InvalidCommand", .o "InvalidNumber", .o "UnknownName", .o "TooMany", .o "Refuted", .o "Driven", .o "NothingToUndo", .b "ValueError", .b "IndexError", .b "KeyError", .b "OverflowError", .b "ArithmeticError", .b "RuntimeError", .b "LookupError"] }
abbrev s_law_stream : Stmt := top 21
def N_law_stream : List Str := ["script", "at", "cell", "great", "mixed"]
def t_law_stream_0 : SS := (sSet 2 (e2 addS (e2 mulS (eC (.int 17)) (eV 1)) (eC (.int 4))))
def t_law_stream_1 : SS := (sIf (tB (e2 (icmpS iLt) (eV 1) (eN lenS (aCons (eV 0) aNil)))) (sSet 2 (e2 ixS (eV 0) (eV 1))) sNil)
def t_law_stream_2 : SS := (sSet 3 (e2 modS (eN intS (aCons (eN absS (aCons (eV 2) aNil)) aNil)) (e2 powS (e2 powS (eC (.int 10)) (eC (.int 60))) (eC (.int 12)))))
def t_law_stream_3 : SS := (sSet 4 (e2 addS (e2 addS (e2 addS (e2 mulS (e2 modS (eN intS (aCons (eV 3) aNil)) (eC (.int 2147483549))) (eC (.int 45991))) (e2 mulS (eC (.int 2011)) (eV 1))) (e2 mulS (eC (.int 7)) (eN intS (aCons (e2 (icmpS iLt) (eV 2) (eC (.int 0))) aNil)))) (eC (.int 23))))
def t_law_stream_4 : SS := (sRet (eN mkLst (aCons (eN max2S (aCons (eC (.int 0)) (aCons (e2 subS (eV 3) (e2 powS (eC (.int 10)) (eC (.int 18)))) aNil))) (aCons (e2 modS (eN intS (aCons (eV 4) aNil)) (eC (.int 2147483423))) (aCons (eC (.int 0)) aNil)))))
def b_law_stream : SS := (sSeq t_law_stream_0 (sSeq t_law_stream_1 (sSeq t_law_stream_2 (sSeq t_law_stream_3 t_law_stream_4))))
def F_law_stream : List D → Store → Ou D := fnS 5 b_law_stream
abbrev s_law_draw : Stmt := top 22
def N_law_draw : List Str := ["stream", "total", "one", "two", "found"]
def t_law_draw_0a_0 : SS := (sSet 4 (e2 modS (eN intS (aCons (e2 ixS (eV 0) (eC (.int 0))) aNil)) (eV 1)))
def t_law_draw_0a_1 : SS := (sSub setS (e2 fdivS (e2 ixS (eV 0) (eC (.int 0))) (eV 1)) (eV 0) (eC (.int 0)))
def t_law_draw_0a_2 : SS := (sRet (eV 4))
def t_law_draw_0a_s : SS := (sSeq t_law_draw_0a_0 (sSeq t_law_draw_0a_1 t_law_draw_0a_2))
def t_law_draw_0 : SS := (sIf (tB (e2 (icmpS iGt) (e2 ixS (eV 0) (eC (.int 0))) (eC (.int 0)))) t_law_draw_0a_s sNil)
def t_law_draw_1 : SS := (sSub setS (e2 addS (e2 ixS (eV 0) (eC (.int 2))) (eC (.int 1))) (eV 0) (eC (.int 2)))
def t_law_draw_2 : SS := (sSet 2 (e2 modS (eN intS (aCons (e2 addS (e2 ixS (eV 0) (eC (.int 1))) (e2 mulS (eC (.int 1000099)) (e2 ixS (eV 0) (eC (.int 2))))) aNil)) (eC (.int 2305843009213693951))))
def t_law_draw_3 : SS := (sSet 3 (e2 addS (e2 mulS (e2 modS (eN intS (aCons (e2 mulS (eV 2) (eV 2)) aNil)) (eC (.int 2305843009213693921))) (eV 2)) (e2 mulS (eC (.int 7933)) (e2 ixS (eV 0) (eC (.int 2))))))
def t_law_draw_4 : SS := (sSet 3 (e2 modS (eN intS (aCons (eV 3) aNil)) (eC (.int 2305843009213693907))))
def t_law_draw_5 : SS := (sRet (e2 modS (eN intS (aCons (e2 fdivS (eV 3) (eC (.int 8192))) aNil)) (eV 1)))
def b_law_draw : SS := (sSeq t_law_draw_0 (sSeq t_law_draw_1 (sSeq t_law_draw_2 (sSeq t_law_draw_3 (sSeq t_law_draw_4 t_law_draw_5)))))
def F_law_draw : List D → Store → Ou D := fnS 5 b_law_draw
abbrev s_law_pick : Stmt := top 23
def N_law_pick : List Str := ["stream", "items"]
def t_law_pick_0 : SS := (sRet (e2 ixS (eV 1) (eN (callF 2 [] F_law_draw) (aCons (eV 0) (aCons (eN lenS (aCons (eV 1) aNil)) aNil)))))
def b_law_pick : SS := t_law_pick_0
def F_law_pick : List D → Store → Ou D := fnS 2 b_law_pick
abbrev s_law_kinds : Stmt := top 24
def N_law_kinds : List Str := ["error", "found"]
def t_law_kinds_0 : SS := (sSet 1 (eN mkLst (aCons (eN (isiS tab.isa) (aCons (eV 0) (aCons (eC (.glb "InvalidArcs")) aNil))) (aCons (eN (isiS tab.isa) (aCons (eV 0) (aCons (eC (.glb "InvalidPlan")) aNil))) (aCons (eN (isiS tab.isa) (aCons (eV 0) (aCons (eC (.glb "InvalidDurations")) aNil))) aNil)))))
def t_law_kinds_1 : SS := (sSet 1 (e2 addS (eV 1) (eN mkLst (aCons (eN (isiS tab.isa) (aCons (eV 0) (aCons (eC (.glb "InvalidTimes")) aNil))) (aCons (eN (isiS tab.isa) (aCons (eV 0) (aCons (eC (.glb "InvalidRun")) aNil))) aNil)))))
def t_law_kinds_2 : SS := (sSet 1 (e2 addS (eV 1) (eN mkLst (aCons (eN (isiS tab.isa) (aCons (eV 0) (aCons (eC (.glb "InvalidPolicy")) aNil))) (aCons (eN (isiS tab.isa) (aCons (eV 0) (aCons (eC (.glb "InvalidTable")) aNil))) aNil)))))
def t_law_kinds_3 : SS := (sSet 1 (e2 addS (eV 1) (eN mkLst (aCons (eN (isiS tab.isa) (aCons (eV 0) (aCons (eC (.glb "InvalidTask")) aNil))) (aCons (eN (isiS tab.isa) (aCons (eV 0) (aCons (eC (.glb "InvalidOperation")) aNil))) aNil)))))
def t_law_kinds_4 : SS := (sSet 1 (e2 addS (eV 1) (eN mkLst (aCons (eN (isiS tab.isa) (aCons (eV 0) (aCons (eC (.glb "InvalidEdit")) aNil))) (aCons (eN (isiS tab.isa) (aCons (eV 0) (aCons (eC (.glb "ParseError")) aNil))) aNil)))))
def t_law_kinds_5 : SS := (sRet (e2 addS (eV 1) (eN mkLst (aCons (eN (isiS tab.isa) (aCons (eV 0) (aCons (eC (.glb "InvalidCommand")) aNil))) aNil))))
def b_law_kinds : SS := (sSeq t_law_kinds_0 (sSeq t_law_kinds_1 (sSeq t_law_kinds_2 (sSeq t_law_kinds_3 (sSeq t_law_kinds_4 t_law_kinds_5)))))
def F_law_kinds : List D → Store → Ou D := fnS 2 b_law_kinds
abbrev s_law_others : Stmt := top 25
def N_law_others : List Str := ["error", "found"]
def t_law_others_0 : SS := (sSet 1 (eN mkLst (aCons (eN (isiS tab.isa) (aCons (eV 0) (aCons (eC (.glb "InvalidNumber")) aNil))) (aCons (eN (isiS tab.isa) (aCons (eV 0) (aCons (eC (.glb "UnknownName")) aNil))) (aCons (eN (isiS tab.isa) (aCons (eV 0) (aCons (eC (.glb "TooMany")) aNil))) aNil)))))
def t_law_others_1 : SS := (sRet (e2 addS (eV 1) (eN mkLst (aCons (eN (isiS tab.isa) (aCons (eV 0) (aCons (eC (.glb "Refuted")) aNil))) (aCons (eN (isiS tab.isa) (aCons (eV 0) (aCons (eC (.glb "Driven")) aNil))) (aCons (eN (isiS tab.isa) (aCons (eV 0) (aCons (eC (.glb "NothingToUndo")) aNil))) aNil))))))
def b_law_others : SS := (sSeq t_law_others_0 t_law_others_1)
def F_law_others : List D → Store → Ou D := fnS 2 b_law_others
abbrev s_law_bases : Stmt := top 26
def N_law_bases : List Str := ["error", "found"]
def t_law_bases_0 : SS := (sSet 1 (eN mkLst (aCons (eN (isiS tab.isa) (aCons (eV 0) (aCons (eC (.ty "ValueError")) aNil))) (aCons (eN (isiS tab.isa) (aCons (eV 0) (aCons (eC (.ty "IndexError")) aNil))) (aCons (eN (isiS tab.isa) (aCons (eV 0) (aCons (eC (.ty "KeyError")) aNil))) aNil)))))
def t_law_bases_1 : SS := (sSet 1 (e2 addS (eV 1) (eN mkLst (aCons (eN (isiS tab.isa) (aCons (eV 0) (aCons (eC (.ty "OverflowError")) aNil))) (aCons (eN (isiS tab.isa) (aCons (eV 0) (aCons (eC (.ty "ArithmeticError")) aNil))) aNil)))))
def t_law_bases_2 : SS := (sRet (e2 addS (eV 1) (eN mkLst (aCons (eN (isiS tab.isa) (aCons (eV 0) (aCons (eC (.ty "RuntimeError")) aNil))) (aCons (eN (isiS tab.isa) (aCons (eV 0) (aCons (eC (.ty "LookupError")) aNil))) aNil)))))
def b_law_bases : SS := (sSeq t_law_bases_0 (sSeq t_law_bases_1 t_law_bases_2))
def F_law_bases : List D → Store → Ou D := fnS 2 b_law_bases
abbrev s_law_messages_right : Stmt := top 27
def N_law_messages_right : List Str := ["text", "some", "at", "error", "plain", "other"]
def t_law_messages_right_0 : SS := (sSet 1 (eN mkLst (aCons (eN (excS "InvalidArcs") (aCons (eV 0) aNil)) (aCons (eN (excS "InvalidPlan") (aCons (eV 0) aNil)) (aCons (eN (excS "InvalidDurations") (aCons (eV 0) aNil)) (aCons (eN (excS "InvalidTimes") (aCons (eV 0) aNil)) (aCons (eN (excS "InvalidRun") (aCons (eV 0) aNil)) aNil)))))))
def t_law_messages_right_1 : SS := (sSet 1 (e2 addS (eV 1) (eN mkLst (aCons (eN (excS "InvalidPolicy") (aCons (eV 0) aNil)) (aCons (eN (excS "InvalidTable") (aCons (eV 0) aNil)) (aCons (eN (excS "InvalidTask") (aCons (eV 0) aNil)) (aCons (eN (excS "InvalidOperation") (aCons (eV 0) aNil)) aNil)))))))
def t_law_messages_right_2 : SS := (sSet 1 (e2 addS (eV 1) (eN mkLst (aCons (eN (excS "InvalidEdit") (aCons (eV 0) aNil)) (aCons (eN (excS "ParseError") (aCons (eV 0) aNil)) (aCons (eN (excS "InvalidCommand") (aCons (eV 0) aNil)) aNil))))))
def t_law_messages_right_3_0 : SS := (sIf (tOr (tNot (tTru (eN (isiS tab.isa) (aCons (eV 3) (aCons (eC (.glb "PlanError")) aNil))))) (tB (e2 (eqS true) (eN (callF 1 [] F_law_others) (aCons (eV 3) aNil)) (e2 mulS (eN mkLst (aCons (eC (.bl false)) aNil)) (eC (.int 6)))))) (sRet (eC (.bl false))) sNil)
def t_law_messages_right_3_1 : SS := (sIf (tOr (tB (e2 (eqS true) (eN (callF 1 [] F_law_kinds) (aCons (eV 3) aNil)) (eLc (iRng rng1S (aCons (eC (.int 12)) aNil)) (gV 5) tYes (e2 (eqS false) (eV 2) (eV 5)) [5]))) (tB (e2 (eqS true) (eN (callF 1 [] F_law_bases) (aCons (eV 3) aNil)) (e2 addS (eN mkLst (aCons (eC (.bl true)) aNil)) (e2 mulS (eN mkLst (aCons (eC (.bl false)) aNil)) (eC (.int 6))))))) (sRet (eC (.bl false))) sNil)
def t_law_messages_right_3_s : SS := (sSeq t_law_messages_right_3_0 t_law_messages_right_3_1)
def t_law_messages_right_3 : SS := (sFor (iRng enumS (aCons (eV 1) aNil)) (gT 2 (gsCons (gV 2) (gsCons (gV 3) gsNil))) t_law_messages_right_3_s)
def t_law_messages_right_4 : SS := (sSet 4 (eN (excS "PlanError") (aCons (eV 0) aNil)))
def t_law_messages_right_5 : SS := (sRet (eAnd (e2 (eqS false) (eN (callF 1 [] F_law_kinds) (aCons (eV 4) aNil)) (e2 mulS (eN mkLst (aCons (eC (.bl false)) aNil)) (eC (.int 12)))) (e2 (eqS false) (eN (callF 1 [] F_law_bases) (aCons (eV 4) aNil)) (e2 addS (eN mkLst (aCons (eC (.bl true)) aNil)) (e2 mulS (eN mkLst (aCons (eC (.bl false)) aNil)) (eC (.int 6)))))))
def b_law_messages_right : SS := (sSeq t_law_messages_right_0 (sSeq t_law_messages_right_1 (sSeq t_law_messages_right_2 (sSeq t_law_messages_right_3 (sSeq t_law_messages_right_4 t_law_messages_right_5)))))
def F_law_messages_right : List D → Store → Ou D := fnS 6 b_law_messages_right
abbrev s_law_values_right : Stmt := top 28
def N_law_values_right : List Str := ["value", "number", "paper", "table", "some", "due", "at", "error", "kept", "other"]
def t_law_values_right_0 : SS := (sSet 4 (eN mkLst (aCons (eN (excF "InvalidNumber" "value") (aCons (eV 0) aNil)) (aCons (eN (excF "UnknownName" "name") (aCons (eV 0) aNil)) (aCons (eN (excF "TooMany" "limit") (aCons (eV 1) aNil)) (aCons (eN (excF "Refuted" "paper") (aCons (eV 2) aNil)) (aCons (eN (excF "Driven" "paper") (aCons (eV 3) aNil)) aNil)))))))
def t_law_values_right_1 : SS := (sExpr (eML appS (eV 4) (aCons (eN (excF "NothingToUndo" "many") (aCons (eV 1) aNil)) aNil)))
def t_law_values_right_2 : SS := (sSet 5 (eN mkLst (aCons (eN mkLst (aCons (eC (.bl false)) (aCons (eC (.bl true)) (aCons (eC (.bl false)) (aCons (eC (.bl false)) (aCons (eC (.bl false)) (aCons (eC (.bl false)) (aCons (eC (.bl true)) aNil)))))))) (aCons (eN mkLst (aCons (eC (.bl false)) (aCons (eC (.bl false)) (aCons (eC (.bl true)) (aCons (eC (.bl false)) (aCons (eC (.bl false)) (aCons (eC (.bl false)) (aCons (eC (.bl true)) aNil)))))))) aNil))))
def t_law_values_right_3 : SS := (sSet 5 (e2 addS (eV 5) (eN mkLst (aCons (eN mkLst (aCons (eC (.bl false)) (aCons (eC (.bl false)) (aCons (eC (.bl false)) (aCons (eC (.bl true)) (aCons (eC (.bl true)) (aCons (eC (.bl false)) (aCons (eC (.bl false)) aNil)))))))) (aCons (eN mkLst (aCons (eC (.bl false)) (aCons (eC (.bl false)) (aCons (eC (.bl false)) (aCons (eC (.bl false)) (aCons (eC (.bl true)) (aCons (eC (.bl false)) (aCons (eC (.bl false)) aNil)))))))) aNil)))))
def t_law_values_right_4 : SS := (sSet 5 (e2 addS (eV 5) (eN mkLst (aCons (eN mkLst (aCons (eC (.bl false)) (aCons (eC (.bl false)) (aCons (eC (.bl false)) (aCons (eC (.bl false)) (aCons (eC (.bl false)) (aCons (eC (.bl true)) (aCons (eC (.bl false)) aNil)))))))) (aCons (e2 addS (e2 mulS (eN mkLst (aCons (eC (.bl false)) aNil)) (eC (.int 6))) (eN mkLst (aCons (eC (.bl true)) aNil))) aNil)))))
def t_law_values_right_5_0 : SS := (sIf (tOr (tTru (eN (isiS tab.isa) (aCons (eV 7) (aCons (eC (.glb "PlanError")) aNil)))) (tB (e2 (eqS true) (eN (callF 1 [] F_law_others) (aCons (eV 7) aNil)) (eLc (iRng rng1S (aCons (eC (.int 6)) aNil)) (gV 9) tYes (e2 (eqS false) (eV 6) (eV 9)) [9])))) (sRet (eC (.bl false))) sNil)
def t_law_values_right_5_1 : SS := (sIf (tOr (tB (e2 (eqS true) (eN (callF 1 [] F_law_kinds) (aCons (eV 7) aNil)) (e2 mulS (eN mkLst (aCons (eC (.bl false)) aNil)) (eC (.int 12))))) (tB (e2 (eqS true) (eN (callF 1 [] F_law_bases) (aCons (eV 7) aNil)) (e2 ixS (eV 5) (eV 6))))) (sRet (eC (.bl false))) sNil)
def t_law_values_right_5_s : SS := (sSeq t_law_values_right_5_0 t_law_values_right_5_1)
def t_law_values_right_5 : SS := (sFor (iRng enumS (aCons (eV 4) aNil)) (gT 2 (gsCons (gV 6) (gsCons (gV 7) gsNil))) t_law_values_right_5_s)
def t_law_values_right_6 : SS := (sSet 8 (eN mkLst (aCons (e1 (excGetC ["InvalidNumber"] "value") (e2 ixS (eV 4) (eC (.int 0)))) (aCons (e1 (excGetC ["UnknownName"] "name") (e2 ixS (eV 4) (eC (.int 1)))) (aCons (e1 (excGetC ["TooMany"] "limit") (e2 ixS (eV 4) (eC (.int 2)))) (aCons (e1 (excGetC ["Refuted", "Driven"] "paper") (e2 ixS (eV 4) (eC (.int 3)))) (aCons (e1 (excGetC ["Refuted", "Driven"] "paper") (e2 ixS (eV 4) (eC (.int 4)))) (aCons (e1 (excGetC ["NothingToUndo"] "many") (e2 ixS (eV 4) (eC (.int 5)))) aNil))))))))
def t_law_values_right_7 : SS := (sRet (e2 (eqS false) (eN reprS (aCons (eV 8) aNil)) (eN reprS (aCons (eN mkLst (aCons (eV 0) (aCons (eV 0) (aCons (eV 1) (aCons (eV 2) (aCons (eV 3) (aCons (eV 1) aNil))))))) aNil))))
def b_law_values_right : SS := (sSeq t_law_values_right_0 (sSeq t_law_values_right_1 (sSeq t_law_values_right_2 (sSeq t_law_values_right_3 (sSeq t_law_values_right_4 (sSeq t_law_values_right_5 (sSeq t_law_values_right_6 t_law_values_right_7)))))))
def F_law_values_right : List D → Store → Ou D := fnS 10 b_law_values_right
/-- the messages are right, whatever the text -/
def G_messages : List D → Store → Ou D := fun ds S => match ds with
  | [.str _] => .ok (.bl true) S
  | _ => .no
def tA : Cell := .dT [([.inr "start", .inr "start"], .int 0)]
def tC : Cell := .dK [(.inr "start", .int 0)]
def odds : List D := [.int 0, .int (-1), .int (10 ^ 30), .str "", .str "a", .tup [], .non, .bl true, .tup [.int 0, .int 1]]
def oddCells : List Cell := [.lst [.int 3], .dK [(.inr "a", .int 1)]]
def nums : List Int := [1, 5, 10, 99, 5000]
def rowsD : D := .tup [.tup [.tup [.str "plain", .str "a", .str "start"], .int (-1), .str "given", .tup []], .tup [.tup [.str "plain", .str "start", .str "a"], .int 0, .str "given", .tup []]]
def papers : List D := [.tup [.int 0], .tup [.int 1, .int 0], .tup [.int 2, .int 5, .int 7], .tup [.str "refuted", rowsD, .tup [.int 0, .int 1]], .tup [.str "refuted", rowsD, .tup [.int 1, .int 0]]]
def GV (v : D) (n : Int) (p : D) (x : Str) (a b c : Nat) (S : Store) : Prop :=
  x = "table" ∧ n ∈ nums ∧ p ∈ papers ∧ (a ≠ b ∧ a ≠ c ∧ b ≠ c) ∧ (S[a]? = some tA ∧ S[b]? = some (.dK []) ∧ S[c]? = some tC) ∧ (v ∈ odds ∨ ∃ m c0, v = .loc m ∧ (m ≠ a ∧ m ≠ b ∧ m ≠ c) ∧ c0 ∈ oddCells ∧ S[m]? = some c0)
open Classical in
/-- the values are right, for what is drawn -/
noncomputable def G_values : List D → Store → Ou D := fun ds S => match ds with
  | [v, .int n, p, .tup [.str x, .loc a, .loc b, .loc c]] => if GV v n p x a b c S then .ok (.bl true) S else .no
  | _ => .no
abbrev s_law : Stmt := top 29
def N_law : List Str := ["script", "at", "stream", "text", "odd", "number", "table", "rows", "paper", "turn"]
noncomputable def t_law_0_0 : SS := (sSet 2 (eN (callF 2 [] F_law_stream) (aCons (eV 0) (aCons (eV 1) aNil))))
noncomputable def t_law_0_1 : SS := (sSet 3 (eJoin (eC (.str "")) (eLc (iRng rng1S (aCons (eN (callF 2 [] F_law_draw) (aCons (eV 2) (aCons (eC (.int 6)) aNil))) aNil)) (gV 9) tYes (eN (callF 2 [] F_law_pick) (aCons (eV 2) (aCons (eN mkLst (aCons (eC (.str "a")) (aCons (eC (.str " ")) (aCons (eC (.str "word")) (aCons (eC (.str "7")) (aCons (eC (.str "-")) aNil)))))) aNil))) [9])))
noncomputable def t_law_0_2 : SS := (sSet 4 (eN (callF 2 [] F_law_pick) (aCons (eV 2) (aCons (eN mkLst (aCons (eC (.int 0)) (aCons (e1 negS (eC (.int 1))) (aCons (e2 powS (eC (.int 10)) (eC (.int 30))) (aCons (eC (.str "")) (aCons (eC (.str "a")) (aCons (eN mkTup aNil) (aCons (eC .non) (aCons (eC (.bl true)) (aCons (eN mkTup (aCons (eC (.int 0)) (aCons (eC (.int 1)) aNil))) (aCons (eN mkLst (aCons (eC (.int 3)) aNil)) (aCons (eDK (((eC (.str "a")), (eC (.int 1))) :: [])) aNil)))))))))))) aNil))))
noncomputable def t_law_0_3 : SS := (sPar 5 6 (aCons (eN (callF 2 [] F_law_pick) (aCons (eV 2) (aCons (eN mkLst (aCons (eC (.int 1)) (aCons (eC (.int 5)) (aCons (eC (.int 10)) (aCons (eC (.int 99)) (aCons (eC (.int 5000)) aNil)))))) aNil))) (aCons (eDT (((eN mkTup (aCons (eC (.str "start")) (aCons (eC (.str "start")) aNil))), (eC (.int 0))) :: [])) aNil)))
noncomputable def t_law_0_4 : SS := (sSet 7 (eN mkTup (aCons (eN mkTup (aCons (eN mkTup (aCons (eC (.str "plain")) (aCons (eC (.str "a")) (aCons (eC (.str "start")) aNil)))) (aCons (e1 negS (eC (.int 1))) (aCons (eC (.str "given")) (aCons (eN mkTup aNil) aNil))))) (aCons (eN mkTup (aCons (eN mkTup (aCons (eC (.str "plain")) (aCons (eC (.str "start")) (aCons (eC (.str "a")) aNil)))) (aCons (eC (.int 0)) (aCons (eC (.str "given")) (aCons (eN mkTup aNil) aNil))))) aNil))))
noncomputable def t_law_0_5 : SS := (sSet 8 (eN (callF 2 [] F_law_pick) (aCons (eV 2) (aCons (eN mkLst (aCons (eN mkTup (aCons (eC (.int 0)) aNil)) (aCons (eN mkTup (aCons (eC (.int 1)) (aCons (eC (.int 0)) aNil))) (aCons (eN mkTup (aCons (eC (.int 2)) (aCons (eC (.int 5)) (aCons (eC (.int 7)) aNil)))) (aCons (eN mkTup (aCons (eC (.str "refuted")) (aCons (eV 7) (aCons (eN mkTup (aCons (eC (.int 0)) (aCons (eC (.int 1)) aNil))) aNil)))) (aCons (eN mkTup (aCons (eC (.str "refuted")) (aCons (eV 7) (aCons (eN mkTup (aCons (eC (.int 1)) (aCons (eC (.int 0)) aNil))) aNil)))) aNil)))))) aNil))))
noncomputable def t_law_0_6 : SS := (sIf (tNot (tTru (eN (callF 4 [] G_values) (aCons (eV 4) (aCons (eV 5) (aCons (eV 8) (aCons (eN mkTup (aCons (eC (.str "table")) (aCons (eV 6) (aCons (eDN false) (aCons (eDK (((eC (.str "start")), (eC (.int 0))) :: [])) aNil))))) aNil))))))) (sRet (eC (.bl false))) sNil)
noncomputable def t_law_0_7 : SS := (sIf (tNot (tTru (eN (callF 1 [] G_messages) (aCons (eV 3) aNil)))) (sRet (eC (.bl false))) sNil)
noncomputable def t_law_0_s : SS := (sSeq t_law_0_0 (sSeq t_law_0_1 (sSeq t_law_0_2 (sSeq t_law_0_3 (sSeq t_law_0_4 (sSeq t_law_0_5 (sSeq t_law_0_6 t_law_0_7)))))))
noncomputable def t_law_0 : SS := (sFor (iRng rng1S (aCons (eN max2S (aCons (eC (.int 1)) (aCons (eN min2S (aCons (eC (.int 4)) (aCons (eN lenS (aCons (eV 0) aNil)) aNil))) aNil))) aNil)) (gV 1) t_law_0_s)
noncomputable def t_law_1 : SS := (sRet (eC (.bl true)))
noncomputable def b_law : SS := (sSeq t_law_0 t_law_1)
noncomputable def F_law : List D → Store → Ou D := fnS 10 b_law
structure Mg (K : PySem.W.Frag) (mg : Str → Option Value) : Prop where
  b_ArithmeticError : mg "ArithmeticError" = none
  b_IndexError : mg "IndexError" = none
  b_KeyError : mg "KeyError" = none
  b_LookupError : mg "LookupError" = none
  b_OverflowError : mg "OverflowError" = none
  b_RuntimeError : mg "RuntimeError" = none
  b_ValueError : mg "ValueError" = none
  b_abs : mg "abs" = none
  b_enumerate : mg "enumerate" = none
  b_int : mg "int" = none
  b_isinstance : mg "isinstance" = none
  b_len : mg "len" = none
  b_max : mg "max" = none
  b_min : mg "min" = none
  b_range : mg "range" = none
  b_repr : mg "repr" = none
  x_PlanError : Ex1 K mg "PlanError"
  x_InvalidArcs : Ex1 K mg "InvalidArcs"
  x_InvalidPlan : Ex1 K mg "InvalidPlan"
  x_InvalidDurations : Ex1 K mg "InvalidDurations"
  x_InvalidTimes : Ex1 K mg "InvalidTimes"
  x_InvalidRun : Ex1 K mg "InvalidRun"
  x_InvalidPolicy : Ex1 K mg "InvalidPolicy"
  x_InvalidTable : Ex1 K mg "InvalidTable"
  x_InvalidTask : Ex1 K mg "InvalidTask"
  x_InvalidOperation : Ex1 K mg "InvalidOperation"
  x_InvalidEdit : Ex1 K mg "InvalidEdit"
  x_ParseError : Ex1 K mg "ParseError"
  x_InvalidCommand : Ex1 K mg "InvalidCommand"
  x_InvalidNumber : ExF K mg "InvalidNumber" "value"
  x_UnknownName : ExF K mg "UnknownName" "name"
  x_TooMany : ExF K mg "TooMany" "limit"
  x_Refuted : ExF K mg "Refuted" "paper"
  x_Driven : ExF K mg "Driven" "paper"
  x_NothingToUndo : ExF K mg "NothingToUndo" "many"
  isa : IsaOk ⟨K, mg⟩ tab.isa
  f_limit : ∀ c ∈ (["TooMany"] : List Str), ∀ C, mg c = some (.ref C) → XfC K C ∧ PySem.W.findIn K (.ref C) "limit" = some none
  f_many : ∀ c ∈ (["NothingToUndo"] : List Str), ∀ C, mg c = some (.ref C) → XfC K C ∧ PySem.W.findIn K (.ref C) "many" = some none
  f_name : ∀ c ∈ (["UnknownName"] : List Str), ∀ C, mg c = some (.ref C) → XfC K C ∧ PySem.W.findIn K (.ref C) "name" = some none
  f_paper : ∀ c ∈ (["Refuted", "Driven"] : List Str), ∀ C, mg c = some (.ref C) → XfC K C ∧ PySem.W.findIn K (.ref C) "paper" = some none
  f_value : ∀ c ∈ (["InvalidNumber"] : List Str), ∀ C, mg c = some (.ref C) → XfC K C ∧ PySem.W.findIn K (.ref C) "value" = some none
theorem Mg.c_PlanError {K : PySem.W.Frag} {mg : Str → Option Value} (M : Mg K mg) : ∃ C, mg "PlanError" = some (.ref C) := M.x_PlanError.cls
theorem Mg.c_InvalidArcs {K : PySem.W.Frag} {mg : Str → Option Value} (M : Mg K mg) : ∃ C, mg "InvalidArcs" = some (.ref C) := M.x_InvalidArcs.cls
theorem Mg.c_InvalidPlan {K : PySem.W.Frag} {mg : Str → Option Value} (M : Mg K mg) : ∃ C, mg "InvalidPlan" = some (.ref C) := M.x_InvalidPlan.cls
theorem Mg.c_InvalidDurations {K : PySem.W.Frag} {mg : Str → Option Value} (M : Mg K mg) : ∃ C, mg "InvalidDurations" = some (.ref C) := M.x_InvalidDurations.cls
theorem Mg.c_InvalidTimes {K : PySem.W.Frag} {mg : Str → Option Value} (M : Mg K mg) : ∃ C, mg "InvalidTimes" = some (.ref C) := M.x_InvalidTimes.cls
theorem Mg.c_InvalidRun {K : PySem.W.Frag} {mg : Str → Option Value} (M : Mg K mg) : ∃ C, mg "InvalidRun" = some (.ref C) := M.x_InvalidRun.cls
theorem Mg.c_InvalidPolicy {K : PySem.W.Frag} {mg : Str → Option Value} (M : Mg K mg) : ∃ C, mg "InvalidPolicy" = some (.ref C) := M.x_InvalidPolicy.cls
theorem Mg.c_InvalidTable {K : PySem.W.Frag} {mg : Str → Option Value} (M : Mg K mg) : ∃ C, mg "InvalidTable" = some (.ref C) := M.x_InvalidTable.cls
theorem Mg.c_InvalidTask {K : PySem.W.Frag} {mg : Str → Option Value} (M : Mg K mg) : ∃ C, mg "InvalidTask" = some (.ref C) := M.x_InvalidTask.cls
theorem Mg.c_InvalidOperation {K : PySem.W.Frag} {mg : Str → Option Value} (M : Mg K mg) : ∃ C, mg "InvalidOperation" = some (.ref C) := M.x_InvalidOperation.cls
theorem Mg.c_InvalidEdit {K : PySem.W.Frag} {mg : Str → Option Value} (M : Mg K mg) : ∃ C, mg "InvalidEdit" = some (.ref C) := M.x_InvalidEdit.cls
theorem Mg.c_ParseError {K : PySem.W.Frag} {mg : Str → Option Value} (M : Mg K mg) : ∃ C, mg "ParseError" = some (.ref C) := M.x_ParseError.cls
theorem Mg.c_InvalidCommand {K : PySem.W.Frag} {mg : Str → Option Value} (M : Mg K mg) : ∃ C, mg "InvalidCommand" = some (.ref C) := M.x_InvalidCommand.cls
theorem Mg.c_InvalidNumber {K : PySem.W.Frag} {mg : Str → Option Value} (M : Mg K mg) : ∃ C, mg "InvalidNumber" = some (.ref C) := M.x_InvalidNumber.cls
theorem Mg.c_UnknownName {K : PySem.W.Frag} {mg : Str → Option Value} (M : Mg K mg) : ∃ C, mg "UnknownName" = some (.ref C) := M.x_UnknownName.cls
theorem Mg.c_TooMany {K : PySem.W.Frag} {mg : Str → Option Value} (M : Mg K mg) : ∃ C, mg "TooMany" = some (.ref C) := M.x_TooMany.cls
theorem Mg.c_Refuted {K : PySem.W.Frag} {mg : Str → Option Value} (M : Mg K mg) : ∃ C, mg "Refuted" = some (.ref C) := M.x_Refuted.cls
theorem Mg.c_Driven {K : PySem.W.Frag} {mg : Str → Option Value} (M : Mg K mg) : ∃ C, mg "Driven" = some (.ref C) := M.x_Driven.cls
theorem Mg.c_NothingToUndo {K : PySem.W.Frag} {mg : Str → Option Value} (M : Mg K mg) : ∃ C, mg "NothingToUndo" = some (.ref C) := M.x_NothingToUndo.cls
section
variable {P : Program} {w : World} {K : PySem.W.Frag} {mg : Str → Option Value} {base : Heap} {f : Addr} {fd : FuncData}
theorem sc_law_stream : FnScope N_law_stream ["script", "at"] (defScope s_law_stream) := ⟨rfl, rfl, rfl, by decide +kernel, rfl, by decide +kernel, by decide +kernel⟩
theorem ok_law_stream (T : Fun K "_law_stream" "_law_stream" s_law_stream f fd) (M : Mg K mg) : FnB P w K mg base 1 f fd ["script", "at"] F_law_stream :=
  FnB.of T sc_law_stream fun cdv A outer s H E hr hg => by
    have bd : Bd (cxOf (L2.CX P w) P w K mg base N_law_stream "_law_stream" (defScope s_law_stream) f cdv A outer s H E) (fun c dd _ H' => E c dd H') 0 := ⟨takes_of rfl rfl rfl rfl, hr, hg⟩
    exact (ss_cons (ds_set sc_law_stream.nd rfl (by first | exact Or.inl rfl | exact Or.inr rfl) (de_op or_add op2_B (de_op or_mul op2_B de_int (dv 1)) de_int)) (ss_cons (ds_if (dt_cmp or_lt op2_B (dv 1) (de_callB cr_len opN_B (by rfl) M.b_len PySem.boot_len (da_cons (dv 0) da_nil)) rfl) (ss_one (ds_set sc_law_stream.nd rfl (by first | exact Or.inl rfl | exact Or.inr rfl) (de_ix ix_seq op2_ix (dv 0) (dv 1) (fun _ _ => rfl)))) ss_nil) (ss_cons (ds_set sc_law_stream.nd rfl (by first | exact Or.inl rfl | exact Or.inr rfl) (de_op or_mod op2_B (de_callTy cr_int opN_B (by rfl) M.b_int PyProof.Rows.boot_int (da_cons (de_callB cr_abs opN_B (by rfl) M.b_abs PyProof.Rows.boot_abs (da_cons (dv 2) da_nil)) da_nil)) (de_op or_pow op2_B (de_op or_pow op2_B de_int de_int) de_int))) (ss_cons (ds_set sc_law_stream.nd rfl (by first | exact Or.inl rfl | exact Or.inr rfl) (de_op or_add op2_B (de_op or_add op2_B (de_op or_add op2_B (de_op or_mul op2_B (de_op or_mod op2_B (de_callTy cr_int opN_B (by rfl) M.b_int PyProof.Rows.boot_int (da_cons (dv 3) da_nil)) de_int) de_int) (de_op or_mul op2_B de_int (dv 1))) (de_op or_mul op2_B de_int (de_callTy cr_int opN_B (by rfl) M.b_int PyProof.Rows.boot_int (da_cons (de_cmp or_lt op2_B (dv 2) de_int rfl) da_nil)))) de_int)) (ss_one (ds_ret (de_lst (da_cons (de_callB (cr_max2 rfl) opN_B (by rfl) M.b_max PyProof.Rows.boot_max (da_cons de_int (da_cons (de_op or_sub op2_B (dv 3) (de_op or_pow op2_B de_int de_int)) da_nil))) (da_cons (de_op or_mod op2_B (de_callTy cr_int opN_B (by rfl) M.b_int PyProof.Rows.boot_int (da_cons (dv 4) da_nil)) de_int) (da_cons de_int da_nil))))))))))
theorem sc_law_draw : FnScope N_law_draw ["stream", "total"] (defScope s_law_draw) := ⟨rfl, rfl, rfl, by decide +kernel, rfl, by decide +kernel, by decide +kernel⟩
theorem ok_law_draw (T : Fun K "_law_draw" "_law_draw" s_law_draw f fd) (M : Mg K mg) : FnB P w K mg base 1 f fd ["stream", "total"] F_law_draw :=
  FnB.of T sc_law_draw fun cdv A outer s H E hr hg => by
    have bd : Bd (cxOf (L2.CX P w) P w K mg base N_law_draw "_law_draw" (defScope s_law_draw) f cdv A outer s H E) (fun c dd _ H' => E c dd H') 0 := ⟨takes_of rfl rfl rfl rfl, hr, hg⟩
    exact (ss_cons (ds_if (dt_cmp or_gt op2_B (de_ix ix_seq op2_ix (dv 0) de_int (fun _ _ => rfl)) de_int rfl) (ss_cons (ds_set sc_law_draw.nd rfl (by first | exact Or.inl rfl | exact Or.inr rfl) (de_op or_mod op2_B (de_callTy cr_int opN_B (by rfl) M.b_int PyProof.Rows.boot_int (da_cons (de_ix ix_seq op2_ix (dv 0) de_int (fun _ _ => rfl)) da_nil)) (dv 1))) (ss_cons (ds_sub (dv 0) de_int (de_op or_fdiv op2_B (de_ix ix_seq op2_ix (dv 0) de_int (fun _ _ => rfl)) (dv 1)) set_list set_S) (ss_one (ds_ret (dv 4))))) ss_nil) (ss_cons (ds_sub (dv 0) de_int (de_op or_add op2_B (de_ix ix_seq op2_ix (dv 0) de_int (fun _ _ => rfl)) de_int) set_list set_S) (ss_cons (ds_set sc_law_draw.nd rfl (by first | exact Or.inl rfl | exact Or.inr rfl) (de_op or_mod op2_B (de_callTy cr_int opN_B (by rfl) M.b_int PyProof.Rows.boot_int (da_cons (de_op or_add op2_B (de_ix ix_seq op2_ix (dv 0) de_int (fun _ _ => rfl)) (de_op or_mul op2_B de_int (de_ix ix_seq op2_ix (dv 0) de_int (fun _ _ => rfl)))) da_nil)) de_int)) (ss_cons (ds_set sc_law_draw.nd rfl (by first | exact Or.inl rfl | exact Or.inr rfl) (de_op or_add op2_B (de_op or_mul op2_B (de_op or_mod op2_B (de_callTy cr_int opN_B (by rfl) M.b_int PyProof.Rows.boot_int (da_cons (de_op or_mul op2_B (dv 2) (dv 2)) da_nil)) de_int) (dv 2)) (de_op or_mul op2_B de_int (de_ix ix_seq op2_ix (dv 0) de_int (fun _ _ => rfl))))) (ss_cons (ds_set sc_law_draw.nd rfl (by first | exact Or.inl rfl | exact Or.inr rfl) (de_op or_mod op2_B (de_callTy cr_int opN_B (by rfl) M.b_int PyProof.Rows.boot_int (da_cons (dv 3) da_nil)) de_int)) (ss_one (ds_ret (de_op or_mod op2_B (de_callTy cr_int opN_B (by rfl) M.b_int PyProof.Rows.boot_int (da_cons (de_op or_fdiv op2_B (dv 3) de_int) da_nil)) (dv 1)))))))))
theorem sc_law_pick : FnScope N_law_pick ["stream", "items"] (defScope s_law_pick) := ⟨rfl, rfl, rfl, by decide +kernel, rfl, by decide +kernel, by decide +kernel⟩
theorem ok_law_pick (T : Fun K "_law_pick" "_law_pick" s_law_pick f fd) (M : Mg K mg) (k_law_draw : KnB P w K mg base 1 "_law_draw" 2 [] F_law_draw) : FnB P w K mg base 2 f fd ["stream", "items"] F_law_pick :=
  FnB.of T sc_law_pick fun cdv A outer s H E hr hg => by
    have bd : Bd (cxOf (L2.CX P w) P w K mg base N_law_pick "_law_pick" (defScope s_law_pick) f cdv A outer s H E) (fun c dd _ H' => E c dd H') 1 := ⟨takes_of rfl rfl rfl rfl, hr, hg⟩
    exact (ss_one (ds_ret (de_ix ix_seq op2_ix (dv 1) (dc bd k_law_draw (by decide) (da_cons (dv 0) (da_cons (de_callB cr_len opN_B (by rfl) M.b_len PySem.boot_len (da_cons (dv 1) da_nil)) da_nil))) (fun _ _ => rfl))))
theorem sc_law_kinds : FnScope N_law_kinds ["error"] (defScope s_law_kinds) := ⟨rfl, rfl, rfl, by decide +kernel, rfl, by decide +kernel, by decide +kernel⟩
theorem ok_law_kinds (T : Fun K "_law_kinds" "_law_kinds" s_law_kinds f fd) (M : Mg K mg) : FnB P w K mg base 1 f fd ["error"] F_law_kinds :=
  FnB.of T sc_law_kinds fun cdv A outer s H E hr hg => by
    have bd : Bd (cxOf (L2.CX P w) P w K mg base N_law_kinds "_law_kinds" (defScope s_law_kinds) f cdv A outer s H E) (fun c dd _ H' => E c dd H') 0 := ⟨takes_of rfl rfl rfl rfl, hr, hg⟩
    exact (ss_cons (ds_set sc_law_kinds.nd rfl (by first | exact Or.inl rfl | exact Or.inr rfl) (de_lst (da_cons (de_callB (cr_isi M.isa) opN_B (by rfl) M.b_isinstance PyProof.Rows.boot_isinstance (da_cons (dv 0) (da_cons (dgl M.c_InvalidArcs) da_nil))) (da_cons (de_callB (cr_isi M.isa) opN_B (by rfl) M.b_isinstance PyProof.Rows.boot_isinstance (da_cons (dv 0) (da_cons (dgl M.c_InvalidPlan) da_nil))) (da_cons (de_callB (cr_isi M.isa) opN_B (by rfl) M.b_isinstance PyProof.Rows.boot_isinstance (da_cons (dv 0) (da_cons (dgl M.c_InvalidDurations) da_nil))) da_nil))))) (ss_cons (ds_set sc_law_kinds.nd rfl (by first | exact Or.inl rfl | exact Or.inr rfl) (de_op or_add op2_B (dv 1) (de_lst (da_cons (de_callB (cr_isi M.isa) opN_B (by rfl) M.b_isinstance PyProof.Rows.boot_isinstance (da_cons (dv 0) (da_cons (dgl M.c_InvalidTimes) da_nil))) (da_cons (de_callB (cr_isi M.isa) opN_B (by rfl) M.b_isinstance PyProof.Rows.boot_isinstance (da_cons (dv 0) (da_cons (dgl M.c_InvalidRun) da_nil))) da_nil))))) (ss_cons (ds_set sc_law_kinds.nd rfl (by first | exact Or.inl rfl | exact Or.inr rfl) (de_op or_add op2_B (dv 1) (de_lst (da_cons (de_callB (cr_isi M.isa) opN_B (by rfl) M.b_isinstance PyProof.Rows.boot_isinstance (da_cons (dv 0) (da_cons (dgl M.c_InvalidPolicy) da_nil))) (da_cons (de_callB (cr_isi M.isa) opN_B (by rfl) M.b_isinstance PyProof.Rows.boot_isinstance (da_cons (dv 0) (da_cons (dgl M.c_InvalidTable) da_nil))) da_nil))))) (ss_cons (ds_set sc_law_kinds.nd rfl (by first | exact Or.inl rfl | exact Or.inr rfl) (de_op or_add op2_B (dv 1) (de_lst (da_cons (de_callB (cr_isi M.isa) opN_B (by rfl) M.b_isinstance PyProof.Rows.boot_isinstance (da_cons (dv 0) (da_cons (dgl M.c_InvalidTask) da_nil))) (da_cons (de_callB (cr_isi M.isa) opN_B (by rfl) M.b_isinstance PyProof.Rows.boot_isinstance (da_cons (dv 0) (da_cons (dgl M.c_InvalidOperation) da_nil))) da_nil))))) (ss_cons (ds_set sc_law_kinds.nd rfl (by first | exact Or.inl rfl | exact Or.inr rfl) (de_op or_add op2_B (dv 1) (de_lst (da_cons (de_callB (cr_isi M.isa) opN_B (by rfl) M.b_isinstance PyProof.Rows.boot_isinstance (da_cons (dv 0) (da_cons (dgl M.c_InvalidEdit) da_nil))) (da_cons (de_callB (cr_isi M.isa) opN_B (by rfl) M.b_isinstance PyProof.Rows.boot_isinstance (da_cons (dv 0) (da_cons (dgl M.c_ParseError) da_nil))) da_nil))))) (ss_one (ds_ret (de_op or_add op2_B (dv 1) (de_lst (da_cons (de_callB (cr_isi M.isa) opN_B (by rfl) M.b_isinstance PyProof.Rows.boot_isinstance (da_cons (dv 0) (da_cons (dgl M.c_InvalidCommand) da_nil))) da_nil))))))))))
theorem sc_law_others : FnScope N_law_others ["error"] (defScope s_law_others) := ⟨rfl, rfl, rfl, by decide +kernel, rfl, by decide +kernel, by decide +kernel⟩
theorem ok_law_others (T : Fun K "_law_others" "_law_others" s_law_others f fd) (M : Mg K mg) : FnB P w K mg base 1 f fd ["error"] F_law_others :=
  FnB.of T sc_law_others fun cdv A outer s H E hr hg => by
    have bd : Bd (cxOf (L2.CX P w) P w K mg base N_law_others "_law_others" (defScope s_law_others) f cdv A outer s H E) (fun c dd _ H' => E c dd H') 0 := ⟨takes_of rfl rfl rfl rfl, hr, hg⟩
    exact (ss_cons (ds_set sc_law_others.nd rfl (by first | exact Or.inl rfl | exact Or.inr rfl) (de_lst (da_cons (de_callB (cr_isi M.isa) opN_B (by rfl) M.b_isinstance PyProof.Rows.boot_isinstance (da_cons (dv 0) (da_cons (dgl M.c_InvalidNumber) da_nil))) (da_cons (de_callB (cr_isi M.isa) opN_B (by rfl) M.b_isinstance PyProof.Rows.boot_isinstance (da_cons (dv 0) (da_cons (dgl M.c_UnknownName) da_nil))) (da_cons (de_callB (cr_isi M.isa) opN_B (by rfl) M.b_isinstance PyProof.Rows.boot_isinstance (da_cons (dv 0) (da_cons (dgl M.c_TooMany) da_nil))) da_nil))))) (ss_one (ds_ret (de_op or_add op2_B (dv 1) (de_lst (da_cons (de_callB (cr_isi M.isa) opN_B (by rfl) M.b_isinstance PyProof.Rows.boot_isinstance (da_cons (dv 0) (da_cons (dgl M.c_Refuted) da_nil))) (da_cons (de_callB (cr_isi M.isa) opN_B (by rfl) M.b_isinstance PyProof.Rows.boot_isinstance (da_cons (dv 0) (da_cons (dgl M.c_Driven) da_nil))) (da_cons (de_callB (cr_isi M.isa) opN_B (by rfl) M.b_isinstance PyProof.Rows.boot_isinstance (da_cons (dv 0) (da_cons (dgl M.c_NothingToUndo) da_nil))) da_nil))))))))
theorem sc_law_bases : FnScope N_law_bases ["error"] (defScope s_law_bases) := ⟨rfl, rfl, rfl, by decide +kernel, rfl, by decide +kernel, by decide +kernel⟩
theorem ok_law_bases (T : Fun K "_law_bases" "_law_bases" s_law_bases f fd) (M : Mg K mg) : FnB P w K mg base 1 f fd ["error"] F_law_bases :=
  FnB.of T sc_law_bases fun cdv A outer s H E hr hg => by
    have bd : Bd (cxOf (L2.CX P w) P w K mg base N_law_bases "_law_bases" (defScope s_law_bases) f cdv A outer s H E) (fun c dd _ H' => E c dd H') 0 := ⟨takes_of rfl rfl rfl rfl, hr, hg⟩
    exact (ss_cons (ds_set sc_law_bases.nd rfl (by first | exact Or.inl rfl | exact Or.inr rfl) (de_lst (da_cons (de_callB (cr_isi M.isa) opN_B (by rfl) M.b_isinstance PyProof.Rows.boot_isinstance (da_cons (dv 0) (da_cons (dty M.b_ValueError PyProof.Rows.Boot.«ValueError») da_nil))) (da_cons (de_callB (cr_isi M.isa) opN_B (by rfl) M.b_isinstance PyProof.Rows.boot_isinstance (da_cons (dv 0) (da_cons (dty M.b_IndexError PyProof.Rows.Boot.«IndexError») da_nil))) (da_cons (de_callB (cr_isi M.isa) opN_B (by rfl) M.b_isinstance PyProof.Rows.boot_isinstance (da_cons (dv 0) (da_cons (dty M.b_KeyError PyProof.Rows.Boot.«KeyError») da_nil))) da_nil))))) (ss_cons (ds_set sc_law_bases.nd rfl (by first | exact Or.inl rfl | exact Or.inr rfl) (de_op or_add op2_B (dv 1) (de_lst (da_cons (de_callB (cr_isi M.isa) opN_B (by rfl) M.b_isinstance PyProof.Rows.boot_isinstance (da_cons (dv 0) (da_cons (dty M.b_OverflowError PyProof.Rows.Boot.«OverflowError») da_nil))) (da_cons (de_callB (cr_isi M.isa) opN_B (by rfl) M.b_isinstance PyProof.Rows.boot_isinstance (da_cons (dv 0) (da_cons (dty M.b_ArithmeticError PyProof.Rows.Boot.«ArithmeticError») da_nil))) da_nil))))) (ss_one (ds_ret (de_op or_add op2_B (dv 1) (de_lst (da_cons (de_callB (cr_isi M.isa) opN_B (by rfl) M.b_isinstance PyProof.Rows.boot_isinstance (da_cons (dv 0) (da_cons (dty M.b_RuntimeError PyProof.Rows.Boot.«RuntimeError») da_nil))) (da_cons (de_callB (cr_isi M.isa) opN_B (by rfl) M.b_isinstance PyProof.Rows.boot_isinstance (da_cons (dv 0) (da_cons (dty M.b_LookupError PyProof.Rows.Boot.«LookupError») da_nil))) da_nil))))))))
theorem sc_law_messages_right : FnScope N_law_messages_right ["text"] (defScope s_law_messages_right) := ⟨rfl, rfl, rfl, by decide +kernel, rfl, by decide +kernel, by decide +kernel⟩
theorem ok_law_messages_right (T : Fun K "_law_messages_right" "_law_messages_right" s_law_messages_right f fd) (M : Mg K mg) (k_law_others : KnB P w K mg base 1 "_law_others" 1 [] F_law_others) (k_law_bases : KnB P w K mg base 1 "_law_bases" 1 [] F_law_bases) (k_law_kinds : KnB P w K mg base 1 "_law_kinds" 1 [] F_law_kinds) : FnB P w K mg base 2 f fd ["text"] F_law_messages_right :=
  FnB.of T sc_law_messages_right fun cdv A outer s H E hr hg => by
    have bd : Bd (cxOf (L2.CX P w) P w K mg base N_law_messages_right "_law_messages_right" (defScope s_law_messages_right) f cdv A outer s H E) (fun c dd _ H' => E c dd H') 1 := ⟨takes_of rfl rfl rfl rfl, hr, hg⟩
    exact (ss_cons (ds_set sc_law_messages_right.nd rfl (by first | exact Or.inl rfl | exact Or.inr rfl) (de_lst (da_cons (dx1 M.x_InvalidArcs (dv 0)) (da_cons (dx1 M.x_InvalidPlan (dv 0)) (da_cons (dx1 M.x_InvalidDurations (dv 0)) (da_cons (dx1 M.x_InvalidTimes (dv 0)) (da_cons (dx1 M.x_InvalidRun (dv 0)) da_nil))))))) (ss_cons (ds_set sc_law_messages_right.nd rfl (by first | exact Or.inl rfl | exact Or.inr rfl) (de_op or_add op2_B (dv 1) (de_lst (da_cons (dx1 M.x_InvalidPolicy (dv 0)) (da_cons (dx1 M.x_InvalidTable (dv 0)) (da_cons (dx1 M.x_InvalidTask (dv 0)) (da_cons (dx1 M.x_InvalidOperation (dv 0)) da_nil))))))) (ss_cons (ds_set sc_law_messages_right.nd rfl (by first | exact Or.inl rfl | exact Or.inr rfl) (de_op or_add op2_B (dv 1) (de_lst (da_cons (dx1 M.x_InvalidEdit (dv 0)) (da_cons (dx1 M.x_ParseError (dv 0)) (da_cons (dx1 M.x_InvalidCommand (dv 0)) da_nil)))))) (ss_cons (ds_for (passes_of rfl) rfl (di_enum (by rfl) M.b_enumerate (da_cons (dv 1) da_nil)) (dg_tup rfl (dgs_cons pre1 (dg_name sc_law_messages_right.nd rfl (by first | exact Or.inl rfl | exact Or.inr rfl)) (dgs_cons pre1 (dg_name sc_law_messages_right.nd rfl (by first | exact Or.inl rfl | exact Or.inr rfl)) (dgs_nil pre1) only_gV) only_gV)) (only_gT (only_gsCons only_gV (only_gsCons only_gV only_gsNil))) (ss_cons (ds_if (DW.dt (dw_or (dt_not (dt_tru (de_callB (cr_isi M.isa) opN_B (by rfl) M.b_isinstance PyProof.Rows.boot_isinstance (da_cons (dv 3) (da_cons (dgl M.c_PlanError) da_nil))))) (dw_or1 (dt_cmp (or_ne bd.un64) op2_B (dc bd k_law_others (by decide) (da_cons (dv 3) da_nil)) (de_op or_mul op2_B (de_lst (da_cons de_bl da_nil)) de_int) rfl)))) (ss_one (ds_ret de_bl)) ss_nil) (ss_one (ds_if (DW.dt (dw_or (dt_cmp (or_ne bd.un64) op2_B (dc bd k_law_kinds (by decide) (da_cons (dv 3) da_nil)) (de_lc (own := [("other", 5)]) rfl sc_law_messages_right.nd (di_range1 (by rfl) M.b_range (da_cons de_int da_nil)) (blkOk_by (own := [("other", 5)]) (N := N_law_messages_right) (sc := defScope s_law_messages_right) (by decide +kernel)) (fun _ _ _ _ _ => (dgp_name (po_set (by decide)) sc_law_messages_right.nd rfl (by first | exact Or.inl rfl | exact Or.inr rfl))) (fun _ _ _ _ _ => dts_nil) (fun _ _ _ _ _ => (de_cmp (or_eq bd.blk.un64) op2_B (dv 2) (dv 5) rfl)) only_gV) rfl) (dw_or1 (dt_cmp (or_ne bd.un64) op2_B (dc bd k_law_bases (by decide) (da_cons (dv 3) da_nil)) (de_op or_add op2_B (de_lst (da_cons de_bl da_nil)) (de_op or_mul op2_B (de_lst (da_cons de_bl da_nil)) de_int)) rfl)))) (ss_one (ds_ret de_bl)) ss_nil)))) (ss_cons (ds_set sc_law_messages_right.nd rfl (by first | exact Or.inl rfl | exact Or.inr rfl) (dx1 M.x_PlanError (dv 0))) (ss_one (ds_ret (de_and (de_cmp (or_eq bd.un64) op2_B (dc bd k_law_kinds (by decide) (da_cons (dv 4) da_nil)) (de_op or_mul op2_B (de_lst (da_cons de_bl da_nil)) de_int) rfl) (de_one (de_cmp (or_eq bd.un64) op2_B (dc bd k_law_bases (by decide) (da_cons (dv 4) da_nil)) (de_op or_add op2_B (de_lst (da_cons de_bl da_nil)) (de_op or_mul op2_B (de_lst (da_cons de_bl da_nil)) de_int)) rfl))))))))))
theorem sc_law_values_right : FnScope N_law_values_right ["value", "number", "paper", "table"] (defScope s_law_values_right) := ⟨rfl, rfl, rfl, by decide +kernel, rfl, by decide +kernel, by decide +kernel⟩
theorem ok_law_values_right (T : Fun K "_law_values_right" "_law_values_right" s_law_values_right f fd) (M : Mg K mg) (k_law_others : KnB P w K mg base 1 "_law_others" 1 [] F_law_others) (k_law_bases : KnB P w K mg base 1 "_law_bases" 1 [] F_law_bases) (k_law_kinds : KnB P w K mg base 1 "_law_kinds" 1 [] F_law_kinds) : FnB P w K mg base 2 f fd ["value", "number", "paper", "table"] F_law_values_right :=
  FnB.of T sc_law_values_right fun cdv A outer s H E hr hg => by
    have bd : Bd (cxOf (L2.CX P w) P w K mg base N_law_values_right "_law_values_right" (defScope s_law_values_right) f cdv A outer s H E) (fun c dd _ H' => E c dd H') 1 := ⟨takes_of rfl rfl rfl rfl, hr, hg⟩
    exact (ss_cons (ds_set sc_law_values_right.nd rfl (by first | exact Or.inl rfl | exact Or.inr rfl) (de_lst (da_cons (dxF bd M.x_InvalidNumber (dv 0)) (da_cons (dxF bd M.x_UnknownName (dv 0)) (da_cons (dxF bd M.x_TooMany (dv 1)) (da_cons (dxF bd M.x_Refuted (dv 2)) (da_cons (dxF bd M.x_Driven (dv 3)) da_nil))))))) (ss_cons (ds_expr (de_append (dv 4) (dxF bd M.x_NothingToUndo (dv 1)))) (ss_cons (ds_set sc_law_values_right.nd rfl (by first | exact Or.inl rfl | exact Or.inr rfl) (de_lst (da_cons (de_lst (da_cons de_bl (da_cons de_bl (da_cons de_bl (da_cons de_bl (da_cons de_bl (da_cons de_bl (da_cons de_bl da_nil)))))))) (da_cons (de_lst (da_cons de_bl (da_cons de_bl (da_cons de_bl (da_cons de_bl (da_cons de_bl (da_cons de_bl (da_cons de_bl da_nil)))))))) da_nil)))) (ss_cons (ds_set sc_law_values_right.nd rfl (by first | exact Or.inl rfl | exact Or.inr rfl) (de_op or_add op2_B (dv 5) (de_lst (da_cons (de_lst (da_cons de_bl (da_cons de_bl (da_cons de_bl (da_cons de_bl (da_cons de_bl (da_cons de_bl (da_cons de_bl da_nil)))))))) (da_cons (de_lst (da_cons de_bl (da_cons de_bl (da_cons de_bl (da_cons de_bl (da_cons de_bl (da_cons de_bl (da_cons de_bl da_nil)))))))) da_nil))))) (ss_cons (ds_set sc_law_values_right.nd rfl (by first | exact Or.inl rfl | exact Or.inr rfl) (de_op or_add op2_B (dv 5) (de_lst (da_cons (de_lst (da_cons de_bl (da_cons de_bl (da_cons de_bl (da_cons de_bl (da_cons de_bl (da_cons de_bl (da_cons de_bl da_nil)))))))) (da_cons (de_op or_add op2_B (de_op or_mul op2_B (de_lst (da_cons de_bl da_nil)) de_int) (de_lst (da_cons de_bl da_nil))) da_nil))))) (ss_cons (ds_for (passes_of rfl) rfl (di_enum (by rfl) M.b_enumerate (da_cons (dv 4) da_nil)) (dg_tup rfl (dgs_cons pre1 (dg_name sc_law_values_right.nd rfl (by first | exact Or.inl rfl | exact Or.inr rfl)) (dgs_cons pre1 (dg_name sc_law_values_right.nd rfl (by first | exact Or.inl rfl | exact Or.inr rfl)) (dgs_nil pre1) only_gV) only_gV)) (only_gT (only_gsCons only_gV (only_gsCons only_gV only_gsNil))) (ss_cons (ds_if (DW.dt (dw_or (dt_tru (de_callB (cr_isi M.isa) opN_B (by rfl) M.b_isinstance PyProof.Rows.boot_isinstance (da_cons (dv 7) (da_cons (dgl M.c_PlanError) da_nil)))) (dw_or1 (dt_cmp (or_ne bd.un64) op2_B (dc bd k_law_others (by decide) (da_cons (dv 7) da_nil)) (de_lc (own := [("other", 9)]) rfl sc_law_values_right.nd (di_range1 (by rfl) M.b_range (da_cons de_int da_nil)) (blkOk_by (own := [("other", 9)]) (N := N_law_values_right) (sc := defScope s_law_values_right) (by decide +kernel)) (fun _ _ _ _ _ => (dgp_name (po_set (by decide)) sc_law_values_right.nd rfl (by first | exact Or.inl rfl | exact Or.inr rfl))) (fun _ _ _ _ _ => dts_nil) (fun _ _ _ _ _ => (de_cmp (or_eq bd.blk.un64) op2_B (dv 6) (dv 9) rfl)) only_gV) rfl)))) (ss_one (ds_ret de_bl)) ss_nil) (ss_one (ds_if (DW.dt (dw_or (dt_cmp (or_ne bd.un64) op2_B (dc bd k_law_kinds (by decide) (da_cons (dv 7) da_nil)) (de_op or_mul op2_B (de_lst (da_cons de_bl da_nil)) de_int) rfl) (dw_or1 (dt_cmp (or_ne bd.un64) op2_B (dc bd k_law_bases (by decide) (da_cons (dv 7) da_nil)) (de_ix ix_seq op2_ix (dv 5) (dv 6) (fun _ _ => rfl)) rfl)))) (ss_one (ds_ret de_bl)) ss_nil)))) (ss_cons (ds_set sc_law_values_right.nd rfl (by first | exact Or.inl rfl | exact Or.inr rfl) (de_lst (da_cons (de_excGet M.f_value (de_ix ix_seq op2_ix (dv 4) de_int (fun _ _ => rfl))) (da_cons (de_excGet M.f_name (de_ix ix_seq op2_ix (dv 4) de_int (fun _ _ => rfl))) (da_cons (de_excGet M.f_limit (de_ix ix_seq op2_ix (dv 4) de_int (fun _ _ => rfl))) (da_cons (de_excGet M.f_paper (de_ix ix_seq op2_ix (dv 4) de_int (fun _ _ => rfl))) (da_cons (de_excGet M.f_paper (de_ix ix_seq op2_ix (dv 4) de_int (fun _ _ => rfl))) (da_cons (de_excGet M.f_many (de_ix ix_seq op2_ix (dv 4) de_int (fun _ _ => rfl))) da_nil)))))))) (ss_one (ds_ret (de_cmp (or_eq bd.un64) op2_B (de_callB (cr_repr bd.gd bd.un64) opN_B (by rfl) M.b_repr PyProof.Rows.boot_repr (da_cons (dv 8) da_nil)) (de_callB (cr_repr bd.gd bd.un64) opN_B (by rfl) M.b_repr PyProof.Rows.boot_repr (da_cons (de_lst (da_cons (dv 0) (da_cons (dv 0) (da_cons (dv 1) (da_cons (dv 2) (da_cons (dv 3) (da_cons (dv 1) da_nil))))))) da_nil)) rfl))))))))))
theorem sc_law : FnScope N_law ["script"] (defScope s_law) := ⟨rfl, rfl, rfl, by decide +kernel, rfl, by decide +kernel, by decide +kernel⟩
theorem ok_law (T : Fun K "law" "law" s_law f fd) (M : Mg K mg) (k_law_stream : KnB P w K mg base 1 "_law_stream" 2 [] F_law_stream) (k_law_draw : KnB P w K mg base 1 "_law_draw" 2 [] F_law_draw) (k_law_pick : KnB P w K mg base 2 "_law_pick" 2 [] F_law_pick) (k_law_values_right : KnB P w K mg base 2 "_law_values_right" 4 [] G_values) (k_law_messages_right : KnB P w K mg base 2 "_law_messages_right" 1 [] G_messages) : FnB P w K mg base 3 f fd ["script"] F_law :=
  FnB.of T sc_law fun cdv A outer s H E hr hg => by
    have bd : Bd (cxOf (L2.CX P w) P w K mg base N_law "law" (defScope s_law) f cdv A outer s H E) (fun c dd _ H' => E c dd H') 2 := ⟨takes_of rfl rfl rfl rfl, hr, hg⟩
    exact (ss_cons (ds_for (passes_of rfl) rfl (di_range1 (by rfl) M.b_range (da_cons (de_callB (cr_max2 rfl) opN_B (by rfl) M.b_max PyProof.Rows.boot_max (da_cons de_int (da_cons (de_callB (cr_min2 rfl) opN_B (by rfl) M.b_min PyProof.Rows.boot_min (da_cons de_int (da_cons (de_callB cr_len opN_B (by rfl) M.b_len PySem.boot_len (da_cons (dv 0) da_nil)) da_nil))) da_nil))) da_nil)) (dg_name sc_law.nd rfl (by first | exact Or.inl rfl | exact Or.inr rfl)) only_gV (ss_cons (ds_set sc_law.nd rfl (by first | exact Or.inl rfl | exact Or.inr rfl) (dc bd k_law_stream (by decide) (da_cons (dv 0) (da_cons (dv 1) da_nil)))) (ss_cons (ds_set sc_law.nd rfl (by first | exact Or.inl rfl | exact Or.inr rfl) (de_join de_str (de_lc (own := [("turn", 9)]) rfl sc_law.nd (di_range1 (by rfl) M.b_range (da_cons (dc bd k_law_draw (by decide) (da_cons (dv 2) (da_cons de_int da_nil))) da_nil)) (blkOk_by (own := [("turn", 9)]) (N := N_law) (sc := defScope s_law) (by decide +kernel)) (fun _ _ _ _ _ => (dgp_name (po_set (by decide)) sc_law.nd rfl (by first | exact Or.inl rfl | exact Or.inr rfl))) (fun _ _ _ _ _ => dts_nil) (fun _ _ _ _ _ => (dc bd.blk k_law_pick (by decide) (da_cons (dv 2) (da_cons (de_lst (da_cons de_str (da_cons de_str (da_cons de_str (da_cons de_str (da_cons de_str da_nil)))))) da_nil)))) only_gV))) (ss_cons (ds_set sc_law.nd rfl (by first | exact Or.inl rfl | exact Or.inr rfl) (dc bd k_law_pick (by decide) (da_cons (dv 2) (da_cons (de_lst (da_cons de_int (da_cons (de_un un_negS op1_neg de_int) (da_cons (de_op or_pow op2_B de_int de_int) (da_cons de_str (da_cons de_str (da_cons (de_tup da_nil) (da_cons de_non (da_cons de_bl (da_cons (de_tup (da_cons de_int (da_cons de_int da_nil))) (da_cons (de_lst (da_cons de_int da_nil)) (da_cons (de_dk (dps_cons de_str de_int dps_nil) rfl rfl (by decide) (by decide)) da_nil)))))))))))) da_nil)))) (ss_cons (ds_par rfl sc_law.nd rfl rfl (by decide) rfl rfl (da_cons (dc bd k_law_pick (by decide) (da_cons (dv 2) (da_cons (de_lst (da_cons de_int (da_cons de_int (da_cons de_int (da_cons de_int (da_cons de_int da_nil)))))) da_nil))) (da_cons (de_dt bd.un1 (dps_cons (de_tup (da_cons de_str (da_cons de_str da_nil))) de_int dps_nil) rfl rfl (by decide) (by decide)) da_nil)) rfl) (ss_cons (ds_set sc_law.nd rfl (by first | exact Or.inl rfl | exact Or.inr rfl) (de_tup (da_cons (de_tup (da_cons (de_tup (da_cons de_str (da_cons de_str (da_cons de_str da_nil)))) (da_cons (de_un un_negS op1_neg de_int) (da_cons de_str (da_cons (de_tup da_nil) da_nil))))) (da_cons (de_tup (da_cons (de_tup (da_cons de_str (da_cons de_str (da_cons de_str da_nil)))) (da_cons de_int (da_cons de_str (da_cons (de_tup da_nil) da_nil))))) da_nil)))) (ss_cons (ds_set sc_law.nd rfl (by first | exact Or.inl rfl | exact Or.inr rfl) (dc bd k_law_pick (by decide) (da_cons (dv 2) (da_cons (de_lst (da_cons (de_tup (da_cons de_int da_nil)) (da_cons (de_tup (da_cons de_int (da_cons de_int da_nil))) (da_cons (de_tup (da_cons de_int (da_cons de_int (da_cons de_int da_nil)))) (da_cons (de_tup (da_cons de_str (da_cons (dv 7) (da_cons (de_tup (da_cons de_int (da_cons de_int da_nil))) da_nil)))) (da_cons (de_tup (da_cons de_str (da_cons (dv 7) (da_cons (de_tup (da_cons de_int (da_cons de_int da_nil))) da_nil)))) da_nil)))))) da_nil)))) (ss_cons (ds_if (dt_not (dt_tru (dc bd k_law_values_right (by decide) (da_cons (dv 4) (da_cons (dv 5) (da_cons (dv 8) (da_cons (de_tup (da_cons de_str (da_cons (dv 6) (da_cons de_dn (da_cons (de_dk (dps_cons de_str de_int dps_nil) rfl rfl (by decide) (by decide)) da_nil))))) da_nil))))))) (ss_one (ds_ret de_bl)) ss_nil) (ss_one (ds_if (dt_not (dt_tru (dc bd k_law_messages_right (by decide) (da_cons (dv 3) da_nil)))) (ss_one (ds_ret de_bl)) ss_nil)))))))))) (ss_one (ds_ret de_bl)))
end
end P

set_option Elab.async false
set_option linter.all false
set_option maxRecDepth 100000
set_option maxHeartbeats 4000000
set_option exponentiation.threshold 20000
namespace P
open B

/-! ### the stream of a law -/
theorem ok_bind {α β : Type} {a : α} {S : Store} {k : α → Store → Ou β} : (Ou.ok a S).bind k = k a S := rfl
theorem ok_toS {α : Type} {a : α} {S : Store} {e : Env} {k : α → Store → Os} : (Ou.ok a S).toS e k = k a S := rfl
theorem nx_then {e : Env} {S : Store} {k : Env → Store → Os} : (Os.nx e S).then k = k e S := rfl
theorem rt_then {d : D} {S : Store} {k : Env → Store → Os} : (Os.rt d S).then k = .rt d S := rfl
theorem intsOk_of {i j : Int} (hi : i.natAbs < 2 ^ 300) (hj : j.natAbs < 2 ^ 300) : intsOk i j = true := by
  have lg : ∀ n : Nat, n < 2 ^ 300 → n.log2 < 300 := fun n h => by
    by_cases h0 : n = 0
    · subst h0; decide
    · exact (Nat.log2_lt h0).mpr h
  unfold intsOk
  have h1 := lg _ hi
  have h2 := lg _ hj
  exact decide_eq_true (by omega)
theorem nat_small {i : Int} {k : Nat} (h0 : -(k : Int) < i) (h1 : i < k) : i.natAbs < k := by omega
theorem draw_ok {S : Store} {s : Nat} {a b c t : Int} (hs : S[s]? = some (.lst [.int a, .int b, .int c])) (ha : 0 ≤ a) (hb : 0 ≤ b ∧ b < 2 ^ 31) (hc : 0 ≤ c ∧ c < 2 ^ 40) (ht : 0 < t ∧ t < 2 ^ 40) :
    ∃ r a' c', 0 ≤ r ∧ r < t ∧ 0 ≤ a' ∧ c ≤ c' ∧ c' ≤ c + 1 ∧ F_law_draw [.loc s, .int t] S = .ok (.int r) (S.set s (.lst [.int a', .int b, .int c'])) := by
  have hl : s < S.length := (List.getElem?_eq_some_iff.mp hs).1
  have lt9000 : t.natAbs.log2 < 9000 := by
    have h1 : t.natAbs < 2 ^ 9000 := Nat.lt_trans (show t.natAbs < 2 ^ 40 by omega) (by decide)
    exact (Nat.log2_lt (by omega)).mpr h1
  by_cases hp : 0 < a
  · refine ⟨a % t, a / t, c, Int.emod_nonneg _ (by omega), Int.emod_lt_of_pos _ ht.1, Int.ediv_nonneg ha (by omega), Int.le_refl _, by omega, ?_⟩
    have hmod : modS (.int a) (.int t) S = .ok (.int (a % t)) S := by unfold modS; exact if_pos ht.1
    have hdiv : fdivS (.int a) (.int t) S = .ok (.int (a / t)) S := by unfold fdivS; exact if_pos ⟨ht.1, lt9000⟩
    have hix : ixS (.loc s) (.int 0) S = .ok (.int a) S := by unfold ixS; simp only [hs]; rfl
    have hset : setS (.loc s) (.int 0) (.int (a / t)) S = .ok () (S.set s (.lst [.int (a / t), .int b, .int c])) := by unfold setS; simp only [hs]; rfl
    show fnS 5 b_law_draw _ _ = _
    unfold fnS b_law_draw t_law_draw_0 t_law_draw_0a_s t_law_draw_0a_0 t_law_draw_0a_1 t_law_draw_0a_2
    have hgt : iGt a 0 = true := by unfold iGt; exact decide_eq_true hp
    simp only [sSeq, sIf, tB, e2, eV, eC, ok_bind, ok_toS, List.map_cons, List.map_nil, List.length_cons, List.length_nil, List.cons_append, List.nil_append, List.getElem?_cons_zero, List.getElem?_cons_succ, List.replicate, hix, icmpS, hgt, if_true, eN, aCons, aNil, intS, hmod, sSet, sAsg, gV, nx_then, rt_then, sSub, hdiv, hset, sRet,
      List.set_cons_zero, List.set_cons_succ, Nat.reduceAdd, Nat.reduceLT, Nat.reduceSub]
  · have a0 : a = 0 := by omega
    subst a0
    have hgt : iGt 0 0 = false := rfl
    obtain ⟨S1, hS1⟩ : ∃ S1, S1 = S.set s (.lst [.int 0, .int b, .int (c + 1)]) := ⟨_, rfl⟩
    have hs1 : S1[s]? = some (.lst [.int 0, .int b, .int (c + 1)]) := by rw [hS1]; exact List.getElem?_set_self hl
    obtain ⟨o, ho⟩ : ∃ o : Int, o = (b + 1000099 * (c + 1)) % 2305843009213693951 := ⟨_, rfl⟩
    have o1 : 0 ≤ o ∧ o < 2305843009213693951 := by rw [ho]; exact ⟨Int.emod_nonneg _ (by decide), Int.emod_lt_of_pos _ (by decide)⟩
    obtain ⟨q, hq⟩ : ∃ q : Int, q = (o * o) % 2305843009213693921 := ⟨_, rfl⟩
    have q1 : 0 ≤ q ∧ q < 2305843009213693921 := by rw [hq]; exact ⟨Int.emod_nonneg _ (by decide), Int.emod_lt_of_pos _ (by decide)⟩
    obtain ⟨u, hu⟩ : ∃ u : Int, u = (q * o + 7933 * (c + 1)) % 2305843009213693907 := ⟨_, rfl⟩
    refine ⟨(u / 8192) % t, 0, c + 1, Int.emod_nonneg _ (by omega), Int.emod_lt_of_pos _ ht.1, Int.le_refl _, by omega, Int.le_refl _, ?_⟩
    have big : ∀ i : Int, 0 ≤ i → i < 2305843009213693951 → i.natAbs < 2 ^ 300 := fun i h1 h2 => Nat.lt_trans (show i.natAbs < 2305843009213693951 by omega) (by decide)
    have hix0 : ixS (.loc s) (.int 0) S = .ok (.int 0) S := by unfold ixS; simp only [hs]; rfl
    have hix2 : ixS (.loc s) (.int 2) S = .ok (.int c) S := by unfold ixS; simp only [hs]; rfl
    have hset : setS (.loc s) (.int 2) (.int (c + 1)) S = .ok () S1 := by unfold setS; simp only [hs]; rw [hS1]; rfl
    have hix1' : ixS (.loc s) (.int 1) S1 = .ok (.int b) S1 := by unfold ixS; simp only [hs1]; rfl
    have hix2' : ixS (.loc s) (.int 2) S1 = .ok (.int (c + 1)) S1 := by unfold ixS; simp only [hs1]; rfl
    have m1 : mulS (.int 1000099) (.int (c + 1)) S1 = .ok (.int (1000099 * (c + 1))) S1 := by unfold mulS; exact if_pos (intsOk_of (by decide) (big _ (by omega) (by omega)))
    have d1 : modS (.int (b + 1000099 * (c + 1))) (.int 2305843009213693951) S1 = .ok (.int o) S1 := by unfold modS; rw [ho]; exact if_pos (by decide)
    have m2 : mulS (.int o) (.int o) S1 = .ok (.int (o * o)) S1 := by unfold mulS; exact if_pos (intsOk_of (big _ o1.1 o1.2) (big _ o1.1 o1.2))
    have d2 : modS (.int (o * o)) (.int 2305843009213693921) S1 = .ok (.int q) S1 := by unfold modS; rw [hq]; exact if_pos (by decide)
    have m3 : mulS (.int q) (.int o) S1 = .ok (.int (q * o)) S1 := by unfold mulS; exact if_pos (intsOk_of (big _ q1.1 (by omega)) (big _ o1.1 o1.2))
    have m4 : mulS (.int 7933) (.int (c + 1)) S1 = .ok (.int (7933 * (c + 1))) S1 := by unfold mulS; exact if_pos (intsOk_of (by decide) (big _ (by omega) (by omega)))
    have d3 : modS (.int (q * o + 7933 * (c + 1))) (.int 2305843009213693907) S1 = .ok (.int u) S1 := by unfold modS; rw [hu]; exact if_pos (by decide)
    have f1 : fdivS (.int u) (.int 8192) S1 = .ok (.int (u / 8192)) S1 := by unfold fdivS; exact if_pos (by decide)
    have d4 : modS (.int (u / 8192)) (.int t) S1 = .ok (.int ((u / 8192) % t)) S1 := by unfold modS; exact if_pos ht.1
    have ha1 : addS (.int c) (.int 1) S = .ok (.int (c + 1)) S := rfl
    have ha2 : addS (.int b) (.int (1000099 * (c + 1))) S1 = .ok (.int (b + 1000099 * (c + 1))) S1 := rfl
    have ha3 : addS (.int (q * o)) (.int (7933 * (c + 1))) S1 = .ok (.int (q * o + 7933 * (c + 1))) S1 := rfl
    show fnS 5 b_law_draw _ _ = _
    unfold fnS b_law_draw t_law_draw_0 t_law_draw_1 t_law_draw_2 t_law_draw_3 t_law_draw_4 t_law_draw_5
    simp only [sSeq, sIf, tB, e2, eV, eC, ok_bind, ok_toS, List.map_cons, List.map_nil, List.length_cons, List.length_nil, List.cons_append, List.nil_append, List.getElem?_cons_zero, List.getElem?_cons_succ, List.replicate, hix0, hix2, hix1', hix2', icmpS, hgt, if_true, eN, aCons, aNil, intS, m1, m2, m3, m4, d1, d2, d3, d4, f1, ha1, ha2, ha3, hset, sSet, sAsg, gV, nx_then, rt_then, sSub, sRet, sNil,
      List.set_cons_zero, List.set_cons_succ, Nat.reduceAdd, Nat.reduceLT, Nat.reduceSub, Bool.false_eq_true, if_false]
    rw [hS1]
/-- items[draw] -/
theorem pick_ok {S : Store} {s i : Nat} {a b c : Int} {xs : List D} (hs : S[s]? = some (.lst [.int a, .int b, .int c])) (hi : S[i]? = some (.lst xs)) (hne : i ≠ s) (hx : 0 < xs.length) (hxl : xs.length < 2 ^ 40) (ha : 0 ≤ a) (hb : 0 ≤ b ∧ b < 2 ^ 31) (hc : 0 ≤ c ∧ c < 2 ^ 40) :
    ∃ (k : Nat) (d : D) (a' c' : Int), xs[k]? = some d ∧ 0 ≤ a' ∧ c ≤ c' ∧ c' ≤ c + 1 ∧ F_law_pick [.loc s, .loc i] S = .ok d (S.set s (.lst [.int a', .int b, .int c'])) := by
  obtain ⟨r, a', c', r0, r1, h1, h2, h3, e⟩ := draw_ok (t := (xs.length : Int)) hs ha hb hc ⟨by omega, by omega⟩
  have hk : r.toNat < xs.length := by omega
  refine ⟨r.toNat, xs[r.toNat], a', c', List.getElem?_eq_getElem hk, h1, h2, h3, ?_⟩
  have hl : s < S.length := (List.getElem?_eq_some_iff.mp hs).1
  have hi' : (S.set s (.lst [.int a', .int b, .int c']))[i]? = some (.lst xs) := by rw [List.getElem?_set_ne (Ne.symm hne)]; exact hi
  have hlen : lenS [.loc i] S = .ok (.int xs.length) S := by unfold lenS; simp only [hi]
  have hat : L2.atI xs r = some xs[r.toNat] := by
    unfold L2.atI L2.ixN
    have : ¬ r < 0 := by omega
    simp only [this, if_false, r0, r1]
    simp [hk]
  have hix : ixS (.loc i) (.int r) (S.set s (.lst [.int a', .int b, .int c'])) = .ok xs[r.toNat] (S.set s (.lst [.int a', .int b, .int c'])) := by unfold ixS; simp only [hi', hat]
  have hcall : callF 2 [] F_law_draw [.loc s, .int xs.length] S = .ok (.int r) (S.set s (.lst [.int a', .int b, .int c'])) := by
    exact (if_pos rfl).trans e
  show fnS 2 b_law_pick _ _ = _
  unfold fnS b_law_pick t_law_pick_0
  simp only [sSeq, e2, eV, eC, ok_bind, ok_toS, List.map_cons, List.map_nil, List.length_cons, List.length_nil, List.cons_append, List.nil_append, List.getElem?_cons_zero, List.getElem?_cons_succ, List.replicate, eN, aCons, aNil, hlen, hcall, hix, sRet, Nat.reduceAdd, Nat.reduceSub, List.append_nil]
theorem stream_ok {S : Store} {z : Nat} {ns : List Int} {i : Int} (hz : S[z]? = some (.rol (ns.map D.int))) (h0 : 0 ≤ i) (h1 : i < 4) :
    ∃ a b : Int, 0 ≤ a ∧ (0 ≤ b ∧ b < 2 ^ 31) ∧ F_law_stream [.loc z, .int i] S = .ok (.loc S.length) (S ++ [.lst [.int a, .int b, .int 0]]) := by
  obtain ⟨cell, hcell⟩ : ∃ c : Int, (t_law_stream_1 [some (.loc z), some (.int i), some (.int (17 * i + 4)), none, none] S) = .nx [some (.loc z), some (.int i), some (.int c), none, none] S := by
    have hlen : lenS [.loc z] S = .ok (.int ns.length) S := by unfold lenS; simp [hz]
    unfold t_law_stream_1
    by_cases hl : i < ns.length
    · have hk : i.toNat < ns.length := by omega
      have hat : L2.atI (ns.map D.int) i = some (.int ns[i.toNat]) := by
        unfold L2.atI L2.ixN
        simp [h0, hl, hk]
      have hix : ixS (.loc z) (.int i) S = .ok (.int ns[i.toNat]) S := by unfold ixS; simp only [hz, hat]
      have hlt : iLt i ns.length = true := decide_eq_true hl
      refine ⟨ns[i.toNat], ?_⟩
      simp only [sIf, tB, e2, eV, eC, ok_bind, ok_toS, List.getElem?_cons_zero, List.getElem?_cons_succ, eN, aCons, aNil, hlen, icmpS, hlt, if_true, sSet, sAsg, hix, gV, List.length_cons, List.length_nil, Nat.reduceAdd, Nat.reduceLT, List.set_cons_zero, List.set_cons_succ]
    · have hlt : iLt i ns.length = false := decide_eq_false hl
      refine ⟨17 * i + 4, ?_⟩
      simp only [sIf, tB, e2, eV, eC, ok_bind, ok_toS, List.getElem?_cons_zero, List.getElem?_cons_succ, eN, aCons, aNil, hlen, icmpS, hlt, Bool.false_eq_true, if_false, sNil]
  obtain ⟨P, hP⟩ : ∃ P : Int, P = (10 ^ 60) ^ 12 := ⟨_, rfl⟩
  have Ppos : 0 < P := by rw [hP]; decide
  obtain ⟨ab, hab⟩ : ∃ x : Int, x = if cell < 0 then -cell else cell := ⟨_, rfl⟩
  obtain ⟨g, hg⟩ : ∃ g : Int, g = ab % P := ⟨_, rfl⟩
  have g1 : 0 ≤ g ∧ g < P := by rw [hg]; exact ⟨Int.emod_nonneg _ (by omega), Int.emod_lt_of_pos _ Ppos⟩
  obtain ⟨m, hm⟩ : ∃ m : Int, m = g % 2147483549 := ⟨_, rfl⟩
  have m1 : 0 ≤ m ∧ m < 2147483549 := by rw [hm]; exact ⟨Int.emod_nonneg _ (by decide), Int.emod_lt_of_pos _ (by decide)⟩
  have big : ∀ i : Int, 0 ≤ i → i < 2305843009213693951 → i.natAbs < 2 ^ 300 := fun i h1 h2 => Nat.lt_trans (show i.natAbs < 2305843009213693951 by omega) (by decide)
  have p1 : powS (.int 10) (.int 60) S = .ok (.int (10 ^ 60)) S := by unfold powS; exact if_pos (by decide +kernel)
  have p2 : powS (.int (10 ^ 60)) (.int 12) S = .ok (.int P) S := by rw [hP]; unfold powS; exact if_pos (by decide +kernel)
  have p3 : powS (.int 10) (.int 18) S = .ok (.int (10 ^ 18)) S := by unfold powS; exact if_pos (by decide +kernel)
  have u0 : mulS (.int 17) (.int i) S = .ok (.int (17 * i)) S := by unfold mulS; exact if_pos (intsOk_of (by decide) (big _ h0 (by omega)))
  have u0' : addS (.int (17 * i)) (.int 4) S = .ok (.int (17 * i + 4)) S := rfl
  have u1 : absS [.int cell] S = .ok (.int ab) S := by unfold absS; rw [hab]
  have u2 : modS (.int ab) (.int P) S = .ok (.int g) S := by unfold modS; rw [hg]; exact if_pos Ppos
  have u3 : modS (.int g) (.int 2147483549) S = .ok (.int m) S := by unfold modS; rw [hm]; exact if_pos (by decide)
  have u4 : mulS (.int m) (.int 45991) S = .ok (.int (m * 45991)) S := by unfold mulS; exact if_pos (intsOk_of (big _ m1.1 (by omega)) (by decide))
  have u5 : mulS (.int 2011) (.int i) S = .ok (.int (2011 * i)) S := by unfold mulS; exact if_pos (intsOk_of (by decide) (big _ h0 (by omega)))
  obtain ⟨bb, hbb⟩ : ∃ b : Int, b = if iLt cell 0 = true then 1 else 0 := ⟨_, rfl⟩
  have hb01 : 0 ≤ bb ∧ bb ≤ 1 := by rw [hbb]; split <;> omega
  have u6 : intS [.bl (iLt cell 0)] S = .ok (.int bb) S := by unfold intS; rw [hbb]
  have u7 : mulS (.int 7) (.int bb) S = .ok (.int (7 * bb)) S := by unfold mulS; exact if_pos (intsOk_of (by decide) (big _ hb01.1 (by omega)))
  obtain ⟨mx, hmx⟩ : ∃ x : Int, x = m * 45991 + 2011 * i + 7 * bb + 23 := ⟨_, rfl⟩
  obtain ⟨a, hA⟩ : ∃ a : Int, a = if g - 10 ^ 18 > 0 then g - 10 ^ 18 else 0 := ⟨_, rfl⟩
  have u8 : max2S [.int 0, .int (g - 10 ^ 18)] S = .ok (.int a) S := by unfold max2S; rw [hA]
  obtain ⟨b, hB⟩ : ∃ b : Int, b = mx % 2147483423 := ⟨_, rfl⟩
  have u9 : modS (.int mx) (.int 2147483423) S = .ok (.int b) S := by unfold modS; rw [hB]; exact if_pos (by decide)
  have ua : addS (.int (m * 45991)) (.int (2011 * i)) S = .ok (.int (m * 45991 + 2011 * i)) S := rfl
  have ub : addS (.int (m * 45991 + 2011 * i)) (.int (7 * bb)) S = .ok (.int (m * 45991 + 2011 * i + 7 * bb)) S := rfl
  have uc : addS (.int (m * 45991 + 2011 * i + 7 * bb)) (.int 23) S = .ok (.int mx) S := by rw [hmx]; rfl
  have ud : subS (.int g) (.int (10 ^ 18)) S = .ok (.int (g - 10 ^ 18)) S := rfl
  have ui : ∀ x : Int, intS [.int x] S = .ok (.int x) S := fun _ => rfl
  refine ⟨a, b, by rw [hA]; split <;> omega, by rw [hB]; exact ⟨Int.emod_nonneg _ (by decide), Int.lt_trans (Int.emod_lt_of_pos _ (by decide)) (by decide)⟩, ?_⟩
  show fnS 5 b_law_stream _ _ = _
  unfold fnS b_law_stream t_law_stream_0 t_law_stream_2 t_law_stream_3 t_law_stream_4
  simp only [sSeq, e2, eV, eC, ok_bind, ok_toS, nx_then, List.map_cons, List.map_nil, List.length_cons, List.length_nil, List.cons_append, List.nil_append, List.getElem?_cons_zero, List.getElem?_cons_succ, List.replicate, eN, aCons, aNil, sSet, sAsg, gV, u0, u0', Nat.reduceAdd, Nat.reduceSub, Nat.reduceLT, if_true, List.set_cons_zero, List.set_cons_succ, hcell,
    u1, ui, p1, p2, p3, u2, u3, u4, u5, icmpS, u6, u7, ua, ub, uc, ud, u8, u9, sRet, mkLst, Nat.reduceLeDiff]

/-! ### a stream in its place, with at most n draws behind it -/
def Strm (S : Store) (s : Nat) (n : Nat) : Prop := ∃ a b c : Int, S[s]? = some (.lst [.int a, .int b, .int c]) ∧ 0 ≤ a ∧ (0 ≤ b ∧ b < 2 ^ 31) ∧ 0 ≤ c ∧ c ≤ n
theorem Strm.lt {S : Store} {s n : Nat} (h : Strm S s n) : s < S.length := by
  obtain ⟨a, b, c, h, _⟩ := h
  exact (List.getElem?_eq_some_iff.mp h).1
theorem Strm.app {S : Store} {s n : Nat} (h : Strm S s n) (l : Store) : Strm (S ++ l) s n := by
  obtain ⟨a, b, c, e, r⟩ := h
  exact ⟨a, b, c, by rw [List.getElem?_append_left (List.getElem?_eq_some_iff.mp e).1]; exact e, r⟩
theorem Strm.of {S T : Store} {s n : Nat} (h : Strm S s n) (e : T[s]? = S[s]?) : Strm T s n := by
  obtain ⟨a, b, c, q, r⟩ := h
  exact ⟨a, b, c, e.trans q, r⟩
/-- a draw, in short: what stands elsewhere stays -/
structure Dr (S : Store) (s : Nat) (S' : Store) : Prop where
  len : S'.length = S.length
  out : ∀ m, m ≠ s → S'[m]? = S[m]?
theorem dr_set {S : Store} {s : Nat} {c : Cell} : Dr S s (S.set s c) := ⟨by simp, fun m hm => List.getElem?_set_ne (Ne.symm hm)⟩
theorem draw_st {S : Store} {s n : Nat} {t : Int} (h : Strm S s n) (hn : n < 2 ^ 39) (ht : 0 < t ∧ t < 2 ^ 40) : ∃ r S', 0 ≤ r ∧ r < t ∧ F_law_draw [.loc s, .int t] S = .ok (.int r) S' ∧ Strm S' s (n + 1) ∧ Dr S s S' := by
  have hl := h.lt
  obtain ⟨a, b, c, e, ha, hb, hc, hcn⟩ := h
  obtain ⟨r, a', c', r0, r1, h1, h2, h3, q⟩ := draw_ok e ha hb ⟨hc, by omega⟩ ht
  exact ⟨r, _, r0, r1, q, ⟨a', b, c', List.getElem?_set_self hl, h1, hb, by omega, by omega⟩, dr_set⟩
theorem pick_st {S : Store} {s i n : Nat} {xs : List D} (h : Strm S s n) (hn : n < 2 ^ 39) (hi : S[i]? = some (.lst xs)) (hne : i ≠ s) (hx : 0 < xs.length) (hxl : xs.length < 2 ^ 40) :
    ∃ (k : Nat) (d : D) (S' : Store), xs[k]? = some d ∧ F_law_pick [.loc s, .loc i] S = .ok d S' ∧ Strm S' s (n + 1) ∧ Dr S s S' := by
  have hl := h.lt
  obtain ⟨a, b, c, e, ha, hb, hc, hcn⟩ := h
  obtain ⟨k, d, a', c', hd, h1, h2, h3, q⟩ := pick_ok e hi hne hx hxl ha hb ⟨hc, by omega⟩
  exact ⟨k, d, _, hd, q, ⟨a', b, c', List.getElem?_set_self hl, h1, hb, by omega, by omega⟩, dr_set⟩
end P

set_option Elab.async false
set_option linter.all false
set_option maxRecDepth 100000
set_option maxHeartbeats 4000000
namespace P
open B
/-! ### the messages -/
theorem G_messages_case (ds : List D) (S : Store) : G_messages ds S = .no ∨ ∃ x, ds = [.str x] := by
  unfold G_messages
  split
  · exact .inr ⟨_, rfl⟩
  · exact .inl rfl
theorem fr_law_messages_right : ∀ ds S, FrG F_law_messages_right G_messages ds S := fun ds S => by
  rcases G_messages_case ds S with e | ⟨x, rfl⟩
  · exact .inl e
  · obtain ⟨S', e⟩ := isT_ok (show isT (F_law_messages_right [.str x] []) = true by kernel_rfl)
    exact frG_pure [] [] [.str x] (.bl true) S' rfl e rfl ⟨List.nodup_nil, fun n hn => by simp at hn, rfl, fun i n c h => by simp at h⟩ rfl rfl
/-! ### the values -/
def e0 (v n p t : D) : Env := [some v, some n, some p, some t, none, none, none, none, none, none]
def preV (v n p t : D) (S : Store) : Os := ((((((t_law_values_right_0 (e0 v n p t) S).then t_law_values_right_1).then t_law_values_right_2).then t_law_values_right_3).then t_law_values_right_4).then t_law_values_right_5)
theorem values_split (v n p t : D) (S : Store) : b_law_values_right (e0 v n p t) S = ((preV v n p t S).then t_law_values_right_6).then t_law_values_right_7 := by
  unfold b_law_values_right preV sSeq
  simp only [Os.then_assoc]
/-- what stands behind the checks of the values -/
def okV (v n p t : D) (S0 : Store) (m : Os) : Prop :=
  isNx m = true ∧ (envOf m).take 5 = [some v, some n, some p, some t, some (.loc (S0.length + 5))] ∧ (envOf m).length = 10 ∧ (stOf m).take (S0.length + 5) = S0 ++ [.exc "InvalidNumber" (some [("value", v)]), .exc "UnknownName" (some [("name", v)]), .exc "TooMany" (some [("limit", n)]), .exc "Refuted" (some [("paper", p)]), .exc "Driven" (some [("paper", t)])] ∧
    (stOf m)[S0.length + 5]? = some (.lst [.loc S0.length, .loc (S0.length + 1), .loc (S0.length + 2), .loc (S0.length + 3), .loc (S0.length + 4), .loc (S0.length + 6)]) ∧ (stOf m)[S0.length + 6]? = some (.exc "NothingToUndo" (some [("many", n)]))
theorem pre_3 (v n p t : D) (a b c : Cell) : okV v n p t [a, b, c] (preV v n p t [a, b, c]) := by
  refine ⟨?_, ?_, ?_, ?_, ?_, ?_⟩ <;> kernel_rfl
theorem pre_4 (v n p t : D) (a b c d : Cell) : okV v n p t [a, b, c, d] (preV v n p t [a, b, c, d]) := by
  refine ⟨?_, ?_, ?_, ?_, ?_, ?_⟩ <;> kernel_rfl
theorem tail_ok {v p t : D} {n : Int} {S0 : Store} {m : Os} (ok : okV v (.int n) p t S0 m) {pv pp pt : PySem.PyData} (hv : toP 39 S0 v = some pv) (hp : toP 39 S0 p = some pp) (ht : toP 39 S0 t = some pt)
    (hs : (PySem.PyData.list [pv, pv, .int n, pp, pt, .int n]).showable = true ∧ (PySem.PyData.list [pv, pv, .int n, pp, pt, .int n]).shown.length ≤ PySem.sizeLine) :
    ∃ e S', (m.then t_law_values_right_6).then t_law_values_right_7 = .rt (.bl true) S' ∧ S'.take S0.length = S0 ∧ e = 0 := by
  obtain ⟨h1, h2, h3, h4, h5, h6⟩ := ok
  rw [isNx_eq h1]
  generalize envOf m = ev at h2 h3
  generalize stOf m = S1 at h4 h5 h6
  obtain ⟨L, hL⟩ : ∃ L, L = S0.length := ⟨_, rfl⟩
  rw [← hL] at h2 h4 h5 h6
  obtain ⟨r, hr⟩ : ∃ r, ev = [some v, some (.int n), some p, some t, some (.loc (L + 5))] ++ r := ⟨ev.drop 5, by rw [← h2, List.take_append_drop]⟩
  obtain ⟨z, hz⟩ : ∃ z, S1 = (S0 ++ [.exc "InvalidNumber" (some [("value", v)]), .exc "UnknownName" (some [("name", v)]), .exc "TooMany" (some [("limit", .int n)]), .exc "Refuted" (some [("paper", p)]), .exc "Driven" (some [("paper", t)])]) ++ z := ⟨S1.drop (L + 5), by rw [← h4, List.take_append_drop]⟩
  have hlen : r.length = 5 := by
    rw [hr] at h3
    simp at h3
    omega
  match r, hlen with
  | [r0, r1, r2, r3, r4], _ =>
  have g : ∀ k c, [Cell.exc "InvalidNumber" (some [("value", v)]), .exc "UnknownName" (some [("name", v)]), .exc "TooMany" (some [("limit", .int n)]), .exc "Refuted" (some [("paper", p)]), .exc "Driven" (some [("paper", t)])][k]? = some c → S1[L + k]? = some c := fun k c hk => by
    have hk5 : k < 5 := (List.getElem?_eq_some_iff.mp hk).1
    rw [hz, List.getElem?_append_left (by simp [← hL]; omega), List.getElem?_append_right (by omega), hL, Nat.add_sub_cancel_left]
    exact hk
  have i0 := g 0 _ rfl
  have i1 := g 1 _ rfl
  have i2 := g 2 _ rfl
  have i3 := g 3 _ rfl
  have i4 := g 4 _ rfl
  have x0 : ixS (.loc (L + 5)) (.int 0) S1 = .ok (.loc L) S1 := by unfold ixS; simp only [h5]; rfl
  have x1 : ixS (.loc (L + 5)) (.int 1) S1 = .ok (.loc (L + 1)) S1 := by unfold ixS; simp only [h5]; rfl
  have x2 : ixS (.loc (L + 5)) (.int 2) S1 = .ok (.loc (L + 2)) S1 := by unfold ixS; simp only [h5]; rfl
  have x3 : ixS (.loc (L + 5)) (.int 3) S1 = .ok (.loc (L + 3)) S1 := by unfold ixS; simp only [h5]; rfl
  have x4 : ixS (.loc (L + 5)) (.int 4) S1 = .ok (.loc (L + 4)) S1 := by unfold ixS; simp only [h5]; rfl
  have x5 : ixS (.loc (L + 5)) (.int 5) S1 = .ok (.loc (L + 6)) S1 := by unfold ixS; simp only [h5]; rfl
  have y0 : excGetC ["InvalidNumber"] "value" (.loc L) S1 = .ok v S1 := by unfold excGetC; simp only [show S1[L]? = _ from i0]; kernel_rfl
  have y1 : excGetC ["UnknownName"] "name" (.loc (L + 1)) S1 = .ok v S1 := by unfold excGetC; simp only [i1]; kernel_rfl
  have y2 : excGetC ["TooMany"] "limit" (.loc (L + 2)) S1 = .ok (.int n) S1 := by unfold excGetC; simp only [i2]; kernel_rfl
  have y3 : excGetC ["Refuted", "Driven"] "paper" (.loc (L + 3)) S1 = .ok p S1 := by unfold excGetC; simp only [i3]; kernel_rfl
  have y4 : excGetC ["Refuted", "Driven"] "paper" (.loc (L + 4)) S1 = .ok t S1 := by unfold excGetC; simp only [i4]; kernel_rfl
  have y5 : excGetC ["NothingToUndo"] "many" (.loc (L + 6)) S1 = .ok (.int n) S1 := by unfold excGetC; simp only [h6]; kernel_rfl
  obtain ⟨N, hN⟩ : ∃ N, N = S1.length := ⟨_, rfl⟩
  obtain ⟨S2, hS2⟩ : ∃ S2, S2 = S1 ++ [.lst [v, v, .int n, p, t, .int n]] := ⟨_, rfl⟩
  have k6 : t_law_values_right_6 ([some v, some (.int n), some p, some t, some (.loc (L + 5))] ++ [r0, r1, r2, r3, r4]) S1 = .nx [some v, some (.int n), some p, some t, some (.loc (L + 5)), r0, r1, r2, some (.loc N), r4] S2 := by
    unfold t_law_values_right_6
    simp only [sSet, sAsg, eN, aCons, aNil, e1, e2, eV, eC, ok_bind, ok_toS, List.cons_append, List.nil_append, List.getElem?_cons_zero, List.getElem?_cons_succ, x0, x1, x2, x3, x4, x5, y0, y1, y2, y3, y4, y5, mkLst, List.length_cons, List.length_nil, Nat.reduceAdd, Nat.reduceLeDiff, if_true, gV, Nat.reduceLT, List.set_cons_zero, List.set_cons_succ, hS2, hN]
  obtain ⟨S3, hS3⟩ : ∃ S3, S3 = S2 ++ [.lst [v, v, .int n, p, t, .int n]] := ⟨_, rfl⟩
  have p2 : S0 <+: S2 := by
    rw [hS2, hz]
    exact ⟨_, by rw [List.append_assoc, List.append_assoc]⟩
  have p3 : S0 <+: S3 := by
    rw [hS3]
    exact p2.trans (List.prefix_append _ _)
  have rep : ∀ (T : Store) (j : Nat), S0 <+: T → T[j]? = some (.lst [v, v, .int n, p, t, .int n]) → reprS [.loc j] T = .ok (.str (PySem.PyData.list [pv, pv, .int n, pp, pt, .int n]).shown) T := fun T j hT hj => by
    have hq : toP 40 T (.loc j) = some (.list [pv, pv, .int n, pp, pt, .int n]) := by
      rw [toP_lst hj]
      simp only [toPs, toP_mono hT hv, toP_mono hT hp, toP_mono hT ht, show toP 39 T (.int n) = some (.int n) from rfl, Option.map_some]
    unfold reprS
    simp only [hq, hs, and_self, if_true]
  have g2 : S2[N]? = some (.lst [v, v, .int n, p, t, .int n]) := by rw [hS2, hN]; simp
  have g3 : S3[S2.length]? = some (.lst [v, v, .int n, p, t, .int n]) := by rw [hS3]; simp
  have q1 := rep S2 N p2 g2
  have q2 := rep S3 S2.length p3 g3
  have qe : ∀ x : PySem.Str, eqS false (.str x) (.str x) S3 = .ok (.bl true) S3 := fun x => by
    unfold eqS
    simp [toP, PySem.PyData.plain, PySem.PyData.eqv]
  refine ⟨0, S3, ?_, ?_, rfl⟩
  · rw [hr, nx_then, k6, nx_then]
    unfold t_law_values_right_7
    simp only [sRet, e2, eN, aCons, aNil, eV, ok_bind, ok_toS, List.getElem?_cons_zero, List.getElem?_cons_succ, q1, mkLst, List.length_cons, List.length_nil, Nat.reduceAdd, Nat.reduceLeDiff, if_true, ← hS3, q2, qe]
  · obtain ⟨w, hw⟩ := p3
    rw [← hw]
    simp

def chk (S0 : Store) (t v p : D) (n : Int) : Bool := match toP 39 S0 v, toP 39 S0 p, toP 39 S0 t with
  | some pv, some pp, some pt => (PySem.PyData.list [pv, pv, .int n, pp, pt, .int n]).showable && decide ((PySem.PyData.list [pv, pv, .int n, pp, pt, .int n]).shown.length ≤ PySem.sizeLine)
  | _, _, _ => false
theorem chk_ok {S0 : Store} {t v p : D} {n : Int} (h : chk S0 t v p n = true) : ∃ pv pp pt, toP 39 S0 v = some pv ∧ toP 39 S0 p = some pp ∧ toP 39 S0 t = some pt ∧
    ((PySem.PyData.list [pv, pv, .int n, pp, pt, .int n]).showable = true ∧ (PySem.PyData.list [pv, pv, .int n, pp, pt, .int n]).shown.length ≤ PySem.sizeLine) := by
  unfold chk at h
  split at h
  · rename_i pv pp pt h1 h2 h3
    rw [Bool.and_eq_true, decide_eq_true_eq] at h
    exact ⟨pv, pp, pt, h1, h2, h3, h⟩
  · cases h
def tabD : D := .tup [.str "table", .loc 0, .loc 1, .loc 2]
theorem all_3 : (odds.all fun v => nums.all fun n => papers.all fun p => chk [tA, .dK [], tC] tabD v p n) = true := by kernel_rfl
theorem all_4 : (oddCells.all fun c => nums.all fun n => papers.all fun p => chk [tA, .dK [], tC, c] tabD (.loc 3) p n) = true := by kernel_rfl
theorem odds_ren {r : Nat → Option Nat} : ∀ v ∈ odds, renD r v = some v := fun v hv => by
  simp only [odds, List.mem_cons, List.not_mem_nil, or_false] at hv
  rcases hv with rfl | rfl | rfl | rfl | rfl | rfl | rfl | rfl | rfl <;> rfl
theorem papers_ren {r : Nat → Option Nat} : ∀ v ∈ papers, renD r v = some v := fun v hv => by
  simp only [papers, List.mem_cons, List.not_mem_nil, or_false] at hv
  rcases hv with rfl | rfl | rfl | rfl | rfl <;> rfl
theorem cells_ren {r : Nat → Option Nat} : ∀ v ∈ oddCells, renC r v = some v := fun v hv => by
  simp only [oddCells, List.mem_cons, List.not_mem_nil, or_false] at hv
  rcases hv with rfl | rfl <;> rfl
theorem run_V {v p : D} {n : Int} {S0 : Store} (ok : okV v (.int n) p tabD S0 (preV v (.int n) p tabD S0)) (h : chk S0 tabD v p n = true) : ∃ S', F_law_values_right [v, .int n, p, tabD] S0 = .ok (.bl true) S' ∧ S'.take S0.length = S0 := by
  obtain ⟨pv, pp, pt, h1, h2, h3, h4⟩ := chk_ok h
  obtain ⟨_, S', e, ht, _⟩ := tail_ok ok h1 h2 h3 h4
  refine ⟨S', ?_, ht⟩
  show fnS 10 b_law_values_right _ _ = _
  unfold fnS
  have hv : b_law_values_right (List.map some [v, .int n, p, tabD] ++ List.replicate (10 - [v, .int n, p, tabD].length) none) S0 = .rt (.bl true) S' := (values_split v (.int n) p tabD S0).trans e
  rw [hv]
theorem G_values_case (ds : List D) (S : Store) : G_values ds S = .no ∨ ∃ v n p x a b c, ds = [v, .int n, p, .tup [.str x, .loc a, .loc b, .loc c]] ∧ GV v n p x a b c S := by
  unfold G_values
  split
  · split
    · rename_i h
      exact .inr ⟨_, _, _, _, _, _, _, rfl, h⟩
    · exact .inl rfl
  · exact .inl rfl
theorem fr_law_values_right : ∀ ds S, FrG F_law_values_right G_values ds S := fun ds S => by
  rcases G_values_case ds S with e | ⟨v, n, p, x, a, b, c, rfl, h⟩
  · exact .inl e
  · have hG : G_values [v, .int n, p, .tup [.str x, .loc a, .loc b, .loc c]] S = .ok (.bl true) S := by
      unfold G_values
      exact if_pos h
    obtain ⟨rfl, hn, hp, ⟨ab, ac, bc⟩, ⟨ha, hb, hc⟩, hv⟩ := h
    have la := (List.getElem?_eq_some_iff.mp ha).1
    have lb := (List.getElem?_eq_some_iff.mp hb).1
    have lc := (List.getElem?_eq_some_iff.mp hc).1
    rcases hv with hv | ⟨m, c0, rfl, ⟨ma, mb, mc⟩, h0, hm⟩
    · obtain ⟨S', e, ht⟩ := run_V (pre_3 v (.int n) p tabD tA (.dK []) tC) (List.all_eq_true.mp (List.all_eq_true.mp (List.all_eq_true.mp all_3 v hv) n hn) p hp)
      refine frG_pure [a, b, c] [tA, .dK [], tC] [v, .int n, p, tabD] (.bl true) S' hG e ?_ ⟨by simp [ab, ac, bc], fun k hk => ?_, rfl, fun i k cc hi hcc => ?_⟩ ht rfl
      · unfold tabD
        simp [renDs, renD, odds_ren v hv, papers_ren p hp, r0]
      · simp at hk
        rcases hk with rfl | rfl | rfl <;> assumption
      · match i, hi, hcc with
        | 0, hi, hcc => cases hi; cases hcc; exact ⟨tA, rfl, ha⟩
        | 1, hi, hcc => cases hi; cases hcc; exact ⟨.dK [], rfl, hb⟩
        | 2, hi, hcc => cases hi; cases hcc; exact ⟨tC, rfl, hc⟩
        | i + 3, hi, hcc => simp at hi
    · obtain ⟨S', e, ht⟩ := run_V (pre_4 (.loc 3) (.int n) p tabD tA (.dK []) tC c0) (List.all_eq_true.mp (List.all_eq_true.mp (List.all_eq_true.mp all_4 c0 h0) n hn) p hp)
      have lm := (List.getElem?_eq_some_iff.mp hm).1
      refine frG_pure [a, b, c, m] [tA, .dK [], tC, c0] [.loc 3, .int n, p, tabD] (.bl true) S' hG e ?_ ⟨by simp [ab, ac, bc, Ne.symm ma, Ne.symm mb, Ne.symm mc], fun k hk => ?_, rfl, fun i k cc hi hcc => ?_⟩ ht rfl
      · unfold tabD
        simp [renDs, renD, papers_ren p hp, r0]
      · simp at hk
        rcases hk with rfl | rfl | rfl | rfl <;> assumption
      · match i, hi, hcc with
        | 0, hi, hcc => cases hi; cases hcc; exact ⟨tA, rfl, ha⟩
        | 1, hi, hcc => cases hi; cases hcc; exact ⟨.dK [], rfl, hb⟩
        | 2, hi, hcc => cases hi; cases hcc; exact ⟨tC, rfl, hc⟩
        | 3, hi, hcc => cases hi; cases hcc; exact ⟨c0, cells_ren c0 h0, hm⟩
        | i + 4, hi, hcc => simp at hi
end P

set_option Elab.async false
set_option linter.all false
set_option maxRecDepth 100000
set_option maxHeartbeats 4000000
namespace P
open B
theorem callF_eq {n : Nat} {F : List D → Store → Ou D} {ds : List D} {S : Store} (h : ds.length = n) : callF n [] F ds S = F ds S := by
  unfold callF
  rw [if_pos h, List.append_nil]
def lets : List D := [.str "a", .str " ", .str "word", .str "7", .str "-"]
/-- the text's comprehension -/
theorem lc_text {s n : Nat} {e : Env} (he : e[2]? = some (some (.loc s))) (h9 : 9 < e.length) (hns : n ≠ s) : ∀ (xs : List D) (T : Store) (N : Nat) (ys : List PySem.Str),
    Strm T s N → T[n]? = some (.lst (ys.map D.str)) → (∀ y ∈ ys, y.length ≤ 4) → ys.length + xs.length ≤ 10 → N + xs.length < 2 ^ 30 →
    ∃ (T' : Store) (ys' : List PySem.Str), lcL [] n (gV 9) tYes (eN (callF 2 [] F_law_pick) (aCons (eV 2) (aCons (eN mkLst (aCons (eC (.str "a")) (aCons (eC (.str " ")) (aCons (eC (.str "word")) (aCons (eC (.str "7")) (aCons (eC (.str "-")) aNil)))))) aNil))) e xs T = .ok () T' ∧
      T'[n]? = some (.lst (ys'.map D.str)) ∧ (∀ y ∈ ys', y.length ≤ 4) ∧ ys'.length ≤ 10 ∧ Strm T' s (N + xs.length) ∧ T.length ≤ T'.length ∧ ∀ m, m < T.length → m ≠ s → m ≠ n → T'[m]? = T[m]?
  | [], T, N, ys, hs, hn, hy, hl, hN => by
    refine ⟨T, ys, ?_, hn, hy, by simpa using hl, by simpa using hs, Nat.le_refl _, fun _ _ _ _ => rfl⟩
    rw [lcL]
    rfl
  | x :: xs, T, N, ys, hs, hn, hy, hl, hN => by
    obtain ⟨T1, hT1⟩ : ∃ T1, T1 = T ++ [.lst lets] := ⟨_, rfl⟩
    have s1 : Strm T1 s N := by rw [hT1]; exact hs.app _
    have g1 : T1[T.length]? = some (.lst lets) := by rw [hT1]; simp
    have lsn : T.length ≠ s := by have := hs.lt; omega
    have lnn : T.length ≠ n := by
      have := (List.getElem?_eq_some_iff.mp hn).1
      omega
    obtain ⟨k, d, T2, hd, hp, s2, dr⟩ := pick_st s1 (by simp at hN; omega) g1 lsn (by decide) (by decide)
    obtain ⟨y, rfl, hy4⟩ : ∃ y : PySem.Str, d = .str y ∧ y.length ≤ 4 := by
      have hm := List.mem_of_getElem? hd
      simp only [lets, List.mem_cons, List.not_mem_nil, or_false] at hm
      rcases hm with rfl | rfl | rfl | rfl | rfl <;> exact ⟨_, rfl, by decide +kernel⟩
    have hn1 : T1[n]? = some (.lst (ys.map D.str)) := by rw [hT1, List.getElem?_append_left (List.getElem?_eq_some_iff.mp hn).1]; exact hn
    have hn2 : T2[n]? = some (.lst (ys.map D.str)) := by rw [dr.out n hns]; exact hn1
    have ln2 := (List.getElem?_eq_some_iff.mp hn2).1
    obtain ⟨T3, hT3⟩ : ∃ T3, T3 = T2.set n (.lst (ys.map D.str ++ [.str y])) := ⟨_, rfl⟩
    have hn3 : T3[n]? = some (.lst ((ys ++ [y]).map D.str)) := by rw [hT3, List.getElem?_set_self ln2]; simp
    have s3 : Strm T3 s (N + 1) := s2.of (by rw [hT3, List.getElem?_set_ne hns])
    have len3 : T3.length = T.length + 1 := by rw [hT3, List.length_set, dr.len, hT1]; simp
    simp only [List.length_cons] at hl hN
    obtain ⟨T', ys', q, h1, h2, h3, h4, h5, h6⟩ := lc_text he h9 hns xs T3 (N + 1) (ys ++ [y]) s3 hn3 (fun z hz => by
      rcases List.mem_append.mp hz with hz | hz
      · exact hy z hz
      · have : z = y := by simpa using hz
        subst this; exact hy4) (by simp; omega) (by omega)
    refine ⟨T', ys', ?_, h1, h2, h3, by rw [List.length_cons, ← Nat.add_assoc, Nat.add_right_comm]; exact h4, by omega, fun m hm ms mn => ?_⟩
    · have hset : (e.set 9 (some x))[2]? = some (some (.loc s)) := by rw [List.getElem?_set_ne (by decide)]; exact he
      have hlen : (ys.map D.str).length < 4096 := by simp; omega
      have hm : mkLst [.str "a", .str " ", .str "word", .str "7", .str "-"] T = .ok (.loc T.length) T1 := by rw [hT1]; rfl
      have hel : eN (callF 2 [] F_law_pick) (aCons (eV 2) (aCons (eN mkLst (aCons (eC (.str "a")) (aCons (eC (.str " ")) (aCons (eC (.str "word")) (aCons (eC (.str "7")) (aCons (eC (.str "-")) aNil)))))) aNil)) (e.set 9 (some x)) T = .ok (.str y) T2 := by
        simp only [ok_bind, eN, aCons, aNil, eV, hset, eC, hm, callF_eq (show [D.loc s, D.loc T.length].length = 2 from rfl), hp]
      rw [lcL]
      simp only [stayOk, if_true, gV, h9, tYes, Ou.quiet, ok_bind, hel, hn2, hlen, ← hT3]
      exact q
    · rw [h6 m (by omega) ms mn, hT3, List.getElem?_set_ne (Ne.symm mn), dr.out m ms, hT1, List.getElem?_append_left hm]
theorem strsD_map : ∀ ys : List PySem.Str, strsD (ys.map D.str) = some ys
  | [] => rfl
  | y :: ys => by rw [List.map_cons, strsD, strsD_map ys]
/-- stage 1: the text -/
theorem stg1 {x0 x1 x3 x4 x5 x6 x7 x8 x9 : Option D} {S : Store} {s N : Nat} (hs : Strm S s N) (hN : N < 2 ^ 20) :
    ∃ (x : PySem.Str) (S' : Store), t_law_0_1 [x0, x1, some (.loc s), x3, x4, x5, x6, x7, x8, x9] S = .nx [x0, x1, some (.loc s), some (.str x), x4, x5, x6, x7, x8, x9] S' ∧ Strm S' s (N + 7) ∧ S.length ≤ S'.length ∧ ∀ m, m < S.length → m ≠ s → S'[m]? = S[m]? := by
  obtain ⟨r, S1, r0, r1, hd, s1, dr⟩ := draw_st hs (by omega) (t := 6) ⟨by decide, by decide⟩
  have hlt := s1.lt
  have hn1 : S1.length ≠ s := by omega
  have hlen : (rangeD 0 1 r.toNat).length = r.toNat := rangeD_length
  obtain ⟨T', ys, q, h1, h2, h3, h4, h5, h6⟩ := lc_text (s := s) (n := S1.length) (e := [x0, x1, some (.loc s), x3, x4, x5, x6, x7, x8, none]) rfl (show 9 < 10 by decide) hn1 (rangeD 0 1 r.toNat) (S1 ++ [.lst []]) (N + 1) [] (s1.app _) (by simp) (fun _ h => by simp at h) (by rw [hlen]; simp; omega) (by rw [hlen]; omega)
  have hsum : (ys.map (·.length)).sum + ys.length * (PySem.Str.ofString "").length ≤ 4096 := by
    have : ∀ zs : List PySem.Str, (∀ y ∈ zs, y.length ≤ 4) → (zs.map (·.length)).sum ≤ 4 * zs.length := fun zs => by
      induction zs with
      | nil => intro _; simp
      | cons z zs ih =>
        intro h
        have a1 := h z List.mem_cons_self
        have a2 := ih fun y hy => h y (List.mem_cons_of_mem _ hy)
        simp only [List.map_cons, List.sum_cons, List.length_cons]
        omega
    have z1 := this ys h2
    have z2 : (PySem.Str.ofString "").length = 0 := by decide +kernel
    rw [z2]
    omega
  have hj : joinS (.str "") (.loc S1.length) T' = .ok (.str (PySem.Txt.join "" ys)) T' := by
    unfold joinS seqS
    simp only [h1, strsD_map, hsum, if_true]
  refine ⟨PySem.Txt.join (PySem.Str.ofString "") ys, T', ?_, by
    obtain ⟨a, b, c, e, z1, z2, z3, z4⟩ := h4
    exact ⟨a, b, c, e, z1, z2, z3, by rw [hlen] at z4; omega⟩, by have := dr.len; simp at h5; omega, fun m hm ms => ?_⟩
  · unfold t_law_0_1
    have hr : (-4096 ≤ r ∧ r ≤ 4096) := by omega
    have hr1 : rng1S [.int r] S1 = .ok ⟨rangeD 0 1 r.toNat, []⟩ S1 := by unfold rng1S; exact if_pos hr
    simp only [sSet, sAsg, eJoin, eC, ok_bind, isStrB, if_true, eLc, iRng, aCons, aNil, eN, eV, List.getElem?_cons_succ, List.getElem?_cons_zero, callF_eq (show [D.loc s, D.int 6].length = 2 from rfl), hd, hr1, wipeD, List.set_cons_succ, List.set_cons_zero, q, hj, ok_toS, gV, List.length_cons, List.length_nil, Nat.reduceAdd, Nat.reduceLT]
  · have e1 := h6 m (by simp; have := dr.len; omega) ms (by have := dr.len; omega)
    rw [e1, List.getElem?_append_left (by have := dr.len; omega), dr.out m ms]

/-! ### stage 2: the odd value -/
def odd11 (n : Nat) : List D := [.int 0, .int (-1), .int (10 ^ 30), .str "", .str "a", .tup [], .non, .bl true, .tup [.int 0, .int 1], .loc n, .loc (n + 1)]
theorem dk_one {k : PySem.Str} {i : Int} {e : Env} {S : Store} : eDK (((eC (.str k)), (eC (.int i))) :: []) e S = .ok (.loc S.length) (S ++ [.dK [(.inr k, .int i)]]) := by
  unfold eDK
  simp only [ePrs, eC, ok_bind, keysK, keyD]
  simp [mergeB, putB]
theorem dt_one {j k : PySem.Str} {i : Int} {e : Env} {S : Store} : eDT (((eN mkTup (aCons (eC (.str j)) (aCons (eC (.str k)) aNil))), (eC (.int i))) :: []) e S = .ok (.loc S.length) (S ++ [.dT [([.inr j, .inr k], .int i)]]) := by
  unfold eDT
  simp only [ePrs, eN, aCons, aNil, mkTup, eC, ok_bind, List.length_cons, List.length_nil, Nat.reduceAdd, Nat.reduceLeDiff, if_true, keysT, keyT, keysD, keyD]
  simp [mergeB, putB]
theorem dn_one {e : Env} {S : Store} : eDN false e S = .ok (.loc S.length) (S ++ [.dK []]) := rfl
theorem lst_one {i : Int} {e : Env} {S : Store} : eN mkLst (aCons (eC (.int i)) aNil) e S = .ok (.loc S.length) (S ++ [.lst [.int i]]) := rfl
def OddAt (lo : Nat) (S : Store) (d : D) : Prop := d ∈ odds ∨ ∃ m c0, d = .loc m ∧ (lo ≤ m ∧ m < lo + 2) ∧ c0 ∈ oddCells ∧ S[m]? = some c0
theorem stg2 {x0 x1 x3 x4 x5 x6 x7 x8 x9 : Option D} {S : Store} {s N : Nat} (hs : Strm S s N) (hN : N < 2 ^ 20) :
    ∃ (d : D) (S' : Store), t_law_0_2 [x0, x1, some (.loc s), x3, x4, x5, x6, x7, x8, x9] S = .nx [x0, x1, some (.loc s), x3, some d, x5, x6, x7, x8, x9] S' ∧ OddAt S.length S' d ∧ Strm S' s (N + 1) ∧ S.length + 3 = S'.length ∧ ∀ m, m < S.length → m ≠ s → S'[m]? = S[m]? := by
  obtain ⟨S1, hS1⟩ : ∃ S1, S1 = (S ++ [.lst [.int 3]]) ++ [.dK [(.inr "a", .int 1)]] := ⟨_, rfl⟩
  obtain ⟨S2, hS2⟩ : ∃ S2, S2 = S1 ++ [.lst (odd11 S.length)] := ⟨_, rfl⟩
  have l1 : S1.length = S.length + 2 := by rw [hS1]; simp
  have s2 : Strm S2 s N := by rw [hS2, hS1]; exact ((hs.app _).app _).app _
  have g2 : S2[S1.length]? = some (.lst (odd11 S.length)) := by rw [hS2]; simp
  have ne : S1.length ≠ s := by have := hs.lt; omega
  obtain ⟨k, d, S3, hd, hp, s3, dr⟩ := pick_st s2 (by omega) g2 ne (by show 0 < 11; decide) (by show 11 < 2 ^ 40; decide)
  have c3 : S3[S.length]? = some (.lst [.int 3]) := by
    rw [dr.out _ (by have := hs.lt; omega), hS2, hS1]
    simp
  have c4 : S3[S.length + 1]? = some (.dK [(.inr "a", .int 1)]) := by
    rw [dr.out _ (by have := hs.lt; omega), hS2, hS1]
    rw [List.getElem?_append_left (by simp), List.getElem?_append_right (by simp)]
    simp
  have p1 : powS (.int 10) (.int 30) S = .ok (.int (10 ^ 30)) S := by unfold powS; exact if_pos (by decide +kernel)
  have hm : mkLst (odd11 S.length) S1 = .ok (.loc S1.length) S2 := by rw [hS2]; rfl
  refine ⟨d, S3, ?_, ?_, s3, by rw [dr.len, hS2, List.length_append, l1]; rfl, fun m hm ms => ?_⟩
  · unfold t_law_0_2
    have t0 : ∀ T, mkTup [] T = .ok (.tup []) T := fun _ => rfl
    have t1 : ∀ T, mkTup [.int 0, .int 1] T = .ok (.tup [.int 0, .int 1]) T := fun _ => rfl
    have n1 : ∀ T, negS (.int 1) T = .ok (.int (-1)) T := fun _ => rfl
    have q3 : mkLst [.int 3] S = .ok (.loc S.length) (S ++ [.lst [.int 3]]) := rfl
    have hlen1 : (S ++ [Cell.lst [.int 3]]).length = S.length + 1 := by simp
    have hm' : mkLst [.int 0, .int (-1), .int (10 ^ 30), .str "", .str "a", .tup [], .non, .bl true, .tup [.int 0, .int 1], .loc S.length, .loc (S.length + 1)] S1 = .ok (.loc S1.length) S2 := hm
    simp only [sSet, sAsg, eN, aCons, aNil, eV, List.getElem?_cons_succ, List.getElem?_cons_zero, eC, ok_bind, B.e1, n1, B.e2, p1, t0, t1, q3, dk_one, hlen1, ← hS1, hm', callF_eq (show [D.loc s, D.loc S1.length].length = 2 from rfl), hp, ok_toS, gV, List.length_cons, List.length_nil, Nat.reduceAdd, Nat.reduceLT, if_true, List.set_cons_succ, List.set_cons_zero]
  · have hmem := List.mem_of_getElem? hd
    simp only [odd11, List.mem_cons, List.not_mem_nil, or_false] at hmem
    rcases hmem with h | h | h | h | h | h | h | h | h | h | h
    · exact .inl (by rw [h]; simp [odds])
    · exact .inl (by rw [h]; simp [odds])
    · exact .inl (by rw [h]; simp [odds])
    · exact .inl (by rw [h]; simp [odds])
    · exact .inl (by rw [h]; simp [odds])
    · exact .inl (by rw [h]; simp [odds])
    · exact .inl (by rw [h]; simp [odds])
    · exact .inl (by rw [h]; simp [odds])
    · exact .inl (by rw [h]; simp [odds])
    · exact .inr ⟨_, _, h, ⟨Nat.le_refl _, by omega⟩, by simp [oddCells], c3⟩
    · exact .inr ⟨_, _, h, ⟨by omega, by omega⟩, by simp [oddCells], c4⟩
  · rw [dr.out m ms, hS2, hS1, List.getElem?_append_left (by simp; omega), List.getElem?_append_left (by simp; omega), List.getElem?_append_left hm]
/-! ### stage 3: the number, the table's dict -/
theorem stg3 {x0 x1 x3 x4 x5 x6 x7 x8 x9 : Option D} {S : Store} {s N : Nat} (hs : Strm S s N) (hN : N < 2 ^ 20) :
    ∃ (n : Int) (S' : Store), t_law_0_3 [x0, x1, some (.loc s), x3, x4, x5, x6, x7, x8, x9] S = .nx [x0, x1, some (.loc s), x3, x4, some (.int n), some (.loc (S.length + 1)), x7, x8, x9] S' ∧ n ∈ nums ∧ S'[S.length + 1]? = some tA ∧ Strm S' s (N + 1) ∧ S.length + 2 = S'.length ∧ ∀ m, m < S.length → m ≠ s → S'[m]? = S[m]? := by
  obtain ⟨S1, hS1⟩ : ∃ S1, S1 = S ++ [.lst (nums.map D.int)] := ⟨_, rfl⟩
  have s1 : Strm S1 s N := by rw [hS1]; exact hs.app _
  have g1 : S1[S.length]? = some (.lst (nums.map D.int)) := by rw [hS1]; simp
  have ne : S.length ≠ s := by have := hs.lt; omega
  obtain ⟨k, d, S2, hd, hp, s2, dr⟩ := pick_st s1 (by omega) g1 ne (by show 0 < 5; decide) (by show 5 < 2 ^ 40; decide)
  have hm : mkLst [.int 1, .int 5, .int 10, .int 99, .int 5000] S = .ok (.loc S.length) S1 := by rw [hS1]; rfl
  obtain ⟨n, hn, rfl⟩ : ∃ n ∈ nums, d = .int n := by
    obtain ⟨n, hn, e⟩ := List.mem_map.mp (List.mem_of_getElem? hd)
    exact ⟨n, hn, e.symm⟩
  have l2 : S2.length = S.length + 1 := by rw [dr.len, hS1]; simp
  refine ⟨n, S2 ++ [tA], ?_, hn, by rw [← l2]; simp, s2.app _, by simp [l2], fun m hm ms => ?_⟩
  · unfold t_law_0_3
    simp only [sPar, aCons, aNil, eN, eV, List.getElem?_cons_succ, List.getElem?_cons_zero, eC, ok_bind, hm, callF_eq (show [D.loc s, D.loc S.length].length = 2 from rfl), hp]
    rw [dt_one]
    simp only [ok_bind, ok_toS, List.length_cons, List.length_nil, Nat.reduceAdd, Nat.reduceLT, and_self, if_true, List.set_cons_succ, List.set_cons_zero, l2]
    rfl
  · rw [List.getElem?_append_left (by omega), dr.out m ms, hS1, List.getElem?_append_left hm]

/-! ### stages 4, 5: the rows, the paper -/
theorem stg4 {x0 x1 x2 x3 x4 x5 x6 x7 x8 x9 : Option D} {S : Store} : t_law_0_4 [x0, x1, x2, x3, x4, x5, x6, x7, x8, x9] S = .nx [x0, x1, x2, x3, x4, x5, x6, some rowsD, x8, x9] S := rfl
theorem stg5 {x0 x1 x3 x4 x5 x6 x8 x9 : Option D} {S : Store} {s N : Nat} (hs : Strm S s N) (hN : N < 2 ^ 20) :
    ∃ (p : D) (S' : Store), t_law_0_5 [x0, x1, some (.loc s), x3, x4, x5, x6, some rowsD, x8, x9] S = .nx [x0, x1, some (.loc s), x3, x4, x5, x6, some rowsD, some p, x9] S' ∧ p ∈ papers ∧ Strm S' s (N + 1) ∧ S.length + 1 = S'.length ∧ ∀ m, m < S.length → m ≠ s → S'[m]? = S[m]? := by
  obtain ⟨S1, hS1⟩ : ∃ S1, S1 = S ++ [.lst papers] := ⟨_, rfl⟩
  have s1 : Strm S1 s N := by rw [hS1]; exact hs.app _
  have g1 : S1[S.length]? = some (.lst papers) := by rw [hS1]; simp
  have ne : S.length ≠ s := by have := hs.lt; omega
  obtain ⟨k, d, S2, hd, hp, s2, dr⟩ := pick_st s1 (by omega) g1 ne (by show 0 < 5; decide) (by show 5 < 2 ^ 40; decide)
  refine ⟨d, S2, ?_, List.mem_of_getElem? hd, s2, by rw [dr.len, hS1]; simp, fun m hm ms => by rw [dr.out m ms, hS1, List.getElem?_append_left hm]⟩
  have hm : (eN mkLst (aCons (eN mkTup (aCons (eC (.int 0)) aNil)) (aCons (eN mkTup (aCons (eC (.int 1)) (aCons (eC (.int 0)) aNil))) (aCons (eN mkTup (aCons (eC (.int 2)) (aCons (eC (.int 5)) (aCons (eC (.int 7)) aNil)))) (aCons (eN mkTup (aCons (eC (.str "refuted")) (aCons (eV 7) (aCons (eN mkTup (aCons (eC (.int 0)) (aCons (eC (.int 1)) aNil))) aNil)))) (aCons (eN mkTup (aCons (eC (.str "refuted")) (aCons (eV 7) (aCons (eN mkTup (aCons (eC (.int 1)) (aCons (eC (.int 0)) aNil))) aNil)))) aNil))))))
      [x0, x1, some (.loc s), x3, x4, x5, x6, some rowsD, x8, x9] S = .ok (.loc S.length) S1 := by rw [hS1]; rfl
  unfold t_law_0_5
  generalize hL : (eN mkLst (aCons (eN mkTup (aCons (eC (.int 0)) aNil)) (aCons (eN mkTup (aCons (eC (.int 1)) (aCons (eC (.int 0)) aNil))) (aCons (eN mkTup (aCons (eC (.int 2)) (aCons (eC (.int 5)) (aCons (eC (.int 7)) aNil)))) (aCons (eN mkTup (aCons (eC (.str "refuted")) (aCons (eV 7) (aCons (eN mkTup (aCons (eC (.int 0)) (aCons (eC (.int 1)) aNil))) aNil)))) (aCons (eN mkTup (aCons (eC (.str "refuted")) (aCons (eV 7) (aCons (eN mkTup (aCons (eC (.int 1)) (aCons (eC (.int 0)) aNil))) aNil)))) aNil)))))) = L at hm ⊢
  simp only [sSet, sAsg, eN, aCons, aNil, eV, List.getElem?_cons_succ, List.getElem?_cons_zero, ok_bind, hm, callF_eq (show [D.loc s, D.loc S.length].length = 2 from rfl), hp, ok_toS, gV, List.length_cons, List.length_nil, Nat.reduceAdd, Nat.reduceLT, if_true, List.set_cons_succ, List.set_cons_zero]
/-! ### stages 6, 7: the checks -/
theorem stg6 {x0 x1 x2 x3 x7 x9 : Option D} {S : Store} {v p : D} {n : Int} {a : Nat} (hn : n ∈ nums) (hp : p ∈ papers) (ha : S[a]? = some tA) (hv : v ∈ odds ∨ ∃ m c0, v = .loc m ∧ m ≠ a ∧ c0 ∈ oddCells ∧ S[m]? = some c0) :
    ∃ S', t_law_0_6 [x0, x1, x2, x3, some v, some (.int n), some (.loc a), x7, some p, x9] S = .nx [x0, x1, x2, x3, some v, some (.int n), some (.loc a), x7, some p, x9] S' ∧ S <+: S' := by
  obtain ⟨S1, hS1⟩ : ∃ S1, S1 = (S ++ [.dK []]) ++ [tC] := ⟨_, rfl⟩
  have la := (List.getElem?_eq_some_iff.mp ha).1
  have hG : G_values [v, .int n, p, .tup [.str "table", .loc a, .loc S.length, .loc (S ++ [Cell.dK []]).length]] S1 = .ok (.bl true) S1 := by
    unfold G_values
    refine if_pos ⟨rfl, hn, hp, ⟨by omega, by simp; omega, by simp⟩, ⟨?_, ?_, ?_⟩, ?_⟩
    · rw [hS1, List.getElem?_append_left (by simp; omega), List.getElem?_append_left la]; exact ha
    · rw [hS1, List.getElem?_append_left (by simp)]; simp
    · rw [hS1]; simp
    · rcases hv with hv | ⟨m, c0, e, hm, h0, h1⟩
      · exact .inl hv
      · have lm := (List.getElem?_eq_some_iff.mp h1).1
        refine .inr ⟨m, c0, e, ⟨hm, by omega, by simp; omega⟩, h0, ?_⟩
        rw [hS1, List.getElem?_append_left (by simp; omega), List.getElem?_append_left lm]; exact h1
  refine ⟨S1, ?_, by rw [hS1, List.append_assoc]; exact List.prefix_append _ _⟩
  unfold t_law_0_6
  have hd : ∀ e, eDK (((eC (.str "start")), (eC (.int 0))) :: []) e (S ++ [.dK []]) = .ok (.loc (S ++ [Cell.dK []]).length) S1 := fun e => by rw [hS1]; exact dk_one
  have ht : mkTup [.str "table", .loc a, .loc S.length, .loc (S ++ [Cell.dK []]).length] S1 = .ok (.tup [.str "table", .loc a, .loc S.length, .loc (S ++ [Cell.dK []]).length]) S1 := rfl
  have hC : callF 4 [] G_values [v, .int n, p, .tup [.str "table", .loc a, .loc S.length, .loc (S ++ [Cell.dK []]).length]] S1 = .ok (.bl true) S1 := (callF_eq rfl).trans hG
  have he : (eN (callF 4 [] G_values) (aCons (eV 4) (aCons (eV 5) (aCons (eV 8) (aCons (eN mkTup (aCons (eC (.str "table")) (aCons (eV 6) (aCons (eDN false) (aCons (eDK (((eC (.str "start")), (eC (.int 0))) :: [])) aNil))))) aNil))))) [x0, x1, x2, x3, some v, some (.int n), some (.loc a), x7, some p, x9] S = .ok (.bl true) S1 := by
    simp only [eN, aCons, aNil, eV, List.getElem?_cons_succ, List.getElem?_cons_zero, ok_bind, dn_one, hd, eC]
    simp only [ht, ok_bind, hC]
  simp only [sIf, tNot, tTru, he, ok_bind, truS, ok_toS, Bool.not_true, Bool.false_eq_true, if_false, sNil]
theorem stg7 {x0 x1 x2 x4 x5 x6 x7 x8 x9 : Option D} {S : Store} {x : PySem.Str} : t_law_0_7 [x0, x1, x2, some (.str x), x4, x5, x6, x7, x8, x9] S = .nx [x0, x1, x2, some (.str x), x4, x5, x6, x7, x8, x9] S := rfl
/-! ### a turn, the loop -/
def Jv (ns : List Int) (e : Env) (S : Store) : Prop := (∃ x1 x2 x3 x4 x5 x6 x7 x8 x9, e = [some (.loc 0), x1, x2, x3, x4, x5, x6, x7, x8, x9]) ∧ S[0]? = some (.rol (ns.map D.int))
theorem turn_ok {ns : List Int} {e : Env} {S : Store} {i : Int} (J : Jv ns e S) (h0 : 0 ≤ i) (h1 : i < 4) : ∃ e' S', t_law_0_s (e.set 1 (some (.int i))) S = .nx e' S' ∧ Jv ns e' S' := by
  obtain ⟨⟨x1, x2, x3, x4, x5, x6, x7, x8, x9, rfl⟩, hz⟩ := J
  have lz := (List.getElem?_eq_some_iff.mp hz).1
  obtain ⟨a, b, ha, hb, hst⟩ := stream_ok hz h0 h1
  have k0 : t_law_0_0 [some (.loc 0), some (.int i), x2, x3, x4, x5, x6, x7, x8, x9] S = .nx [some (.loc 0), some (.int i), some (.loc S.length), x3, x4, x5, x6, x7, x8, x9] (S ++ [.lst [.int a, .int b, .int 0]]) := by
    unfold t_law_0_0
    simp only [sSet, sAsg, eN, aCons, aNil, eV, List.getElem?_cons_succ, List.getElem?_cons_zero, ok_bind, callF_eq (show [D.loc 0, D.int i].length = 2 from rfl), hst, ok_toS, gV, List.length_cons, List.length_nil, Nat.reduceAdd, Nat.reduceLT, if_true, List.set_cons_succ, List.set_cons_zero]
  generalize hS1 : S ++ [.lst [.int a, .int b, .int 0]] = S1 at k0
  have s1 : Strm S1 S.length 0 := ⟨a, b, 0, by rw [← hS1]; simp, ha, hb, by omega, by omega⟩
  have z1 : S1[0]? = some (.rol (ns.map D.int)) := by rw [← hS1, List.getElem?_append_left lz]; exact hz
  have l1 : S1.length = S.length + 1 := by rw [← hS1]; simp
  generalize hsl : S.length = s at *
  have s0 : (0 : Nat) ≠ s := by omega
  obtain ⟨x, S2, k1, s2, l2, o2⟩ := stg1 (x0 := some (.loc 0)) (x1 := some (.int i)) (x3 := x3) (x4 := x4) (x5 := x5) (x6 := x6) (x7 := x7) (x8 := x8) (x9 := x9) s1 (by decide)
  obtain ⟨d, S3, k2, od, s3, l3, o3⟩ := stg2 (x0 := some (.loc 0)) (x1 := some (.int i)) (x3 := some (.str x)) (x4 := x4) (x5 := x5) (x6 := x6) (x7 := x7) (x8 := x8) (x9 := x9) s2 (by decide)
  obtain ⟨n, S4, k3, hn, hA, s4, l4, o4⟩ := stg3 (x0 := some (.loc 0)) (x1 := some (.int i)) (x3 := some (.str x)) (x4 := some d) (x5 := x5) (x6 := x6) (x7 := x7) (x8 := x8) (x9 := x9) s3 (by decide)
  obtain ⟨p, S5, k5, hp, s5, l5, o5⟩ := stg5 (x0 := some (.loc 0)) (x1 := some (.int i)) (x3 := some (.str x)) (x4 := some d) (x5 := some (.int n)) (x6 := some (.loc (S3.length + 1))) (x8 := x8) (x9 := x9) s4 (by decide)
  have hA5 : S5[S3.length + 1]? = some tA := by rw [o5 _ (by omega) (by have := s2.lt; omega)]; exact hA
  obtain ⟨S6, k6, p6⟩ := stg6 (x0 := some (.loc 0)) (x1 := some (.int i)) (x2 := some (.loc s)) (x3 := some (.str x)) (x7 := some rowsD) (x9 := x9) hn hp hA5 (v := d) (by
    rcases od with h | ⟨m, c0, e, ⟨m1, m2⟩, h0, h1⟩
    · exact .inl h
    · have hm3 := (List.getElem?_eq_some_iff.mp h1).1
      have := s2.lt
      exact .inr ⟨m, c0, e, by omega, h0, by rw [o5 m (by omega) (by omega), o4 m (by omega) (by omega)]; exact h1⟩)
  refine ⟨_, S6, ?_, ⟨some (.int i), some (.loc s), some (.str x), some d, some (.int n), some (.loc (S3.length + 1)), some rowsD, some p, x9, rfl⟩, ?_⟩
  · show t_law_0_s [some (.loc 0), some (.int i), x2, x3, x4, x5, x6, x7, x8, x9] S = _
    unfold t_law_0_s
    simp only [sSeq, k0, nx_then, k1, k2, k3, stg4, k5, k6, stg7]
  · obtain ⟨w, hw⟩ := p6
    have lt5 : 0 < S5.length := by omega
    rw [← hw, List.getElem?_append_left lt5, o5 0 (by omega) s0, o4 0 (by omega) s0, o3 0 (by omega) s0, o2 0 (by omega) s0]
    exact z1
theorem loop_ok {ns : List Int} : ∀ (xs : List D) (e : Env) (S : Store), (∀ x ∈ xs, ∃ i : Int, x = .int i ∧ 0 ≤ i ∧ i < 4) → Jv ns e S → ∃ e' S', forL [] (gV 1) t_law_0_s xs e S = .nx e' S'
  | [], e, S, _, _ => ⟨e, S, rfl⟩
  | x :: xs, e, S, h, J => by
    obtain ⟨i, rfl, h0, h1⟩ := h x List.mem_cons_self
    obtain ⟨e1, S1, q, J1⟩ := turn_ok J h0 h1
    obtain ⟨e', S', q'⟩ := loop_ok xs e1 S1 (fun y hy => h y (List.mem_cons_of_mem _ hy)) J1
    refine ⟨e', S', ?_⟩
    have hl : 1 < e.length := by
      obtain ⟨⟨x1, x2, x3, x4, x5, x6, x7, x8, x9, rfl⟩, _⟩ := J
      simp
    rw [forL]
    simp only [stayOk, if_true, gV, hl, q, q']
theorem main (ns : List Int) (_ : ns.length ≤ 63) (_ : ∀ z ∈ ns, PySem.Builtin.Int.intBits z ≤ 1048576) : ∃ S', F_law [.loc 0] (S0 ns) = .ok (.bl true) S' := by
  have hz : (S0 ns)[0]? = some (.rol (ns.map D.int)) := rfl
  obtain ⟨j, hj, j1, j4⟩ : ∃ j : Int, (eN max2S (aCons (eC (.int 1)) (aCons (eN min2S (aCons (eC (.int 4)) (aCons (eN lenS (aCons (eV 0) aNil)) aNil))) aNil))) [some (.loc 0), none, none, none, none, none, none, none, none, none] (S0 ns) = .ok (.int j) (S0 ns) ∧ 1 ≤ j ∧ j ≤ 4 := by
    have hl : lenS [.loc 0] (S0 ns) = .ok (.int ns.length) (S0 ns) := by unfold lenS; simp [hz]
    refine ⟨if (if (ns.length : Int) < 4 then (ns.length : Int) else 4) > 1 then (if (ns.length : Int) < 4 then (ns.length : Int) else 4) else 1, ?_, by split <;> omega, by split <;> split <;> omega⟩
    simp only [eN, aCons, aNil, eC, eV, List.getElem?_cons_zero, ok_bind, hl, min2S, max2S]
  have hr : rng1S [.int j] (S0 ns) = .ok ⟨rangeD 0 1 j.toNat, []⟩ (S0 ns) := by unfold rng1S; exact if_pos (by omega)
  obtain ⟨e', S', q⟩ := loop_ok (ns := ns) (rangeD 0 1 j.toNat) [some (.loc 0), none, none, none, none, none, none, none, none, none] (S0 ns) (fun x hx => by
    unfold rangeD at hx
    obtain ⟨i, hi, e⟩ := List.mem_map.mp hx
    have := List.mem_range.mp hi
    exact ⟨_, e.symm, by omega, by omega⟩) ⟨⟨_, _, _, _, _, _, _, _, _, rfl⟩, hz⟩
  refine ⟨S', ?_⟩
  have h0 : t_law_0 [some (.loc 0), none, none, none, none, none, none, none, none, none] (S0 ns) = .nx e' S' := by
    unfold t_law_0
    rw [sFor, iRng]
    rw [show ∀ (f : SE) (e : Env) (S : Store), aCons f aNil e S = (f e S).bind fun x S1 => .ok [x] S1 from fun _ _ _ => rfl, hj]
    simp only [ok_bind, hr, ok_toS, q]
  show fnS 10 b_law _ _ = _
  unfold fnS
  have hb : b_law (List.map some [D.loc 0] ++ List.replicate (10 - [D.loc 0].length) none) (S0 ns) = .rt (.bl true) S' := by
    show (t_law_0 [some (.loc 0), none, none, none, none, none, none, none, none, none] (S0 ns)).then t_law_1 = _
    rw [h0, nx_then]
    rfl
  rw [hb]
end P

set_option Elab.async false
set_option linter.all false
set_option maxRecDepth 100000
set_option maxHeartbeats 4000000
namespace P
open PySem L2 B
abbrev s_InvalidNumber : Stmt := inClass (top 14) 0
abbrev s_UnknownName : Stmt := inClass (top 15) 0
abbrev s_TooMany : Stmt := inClass (top 16) 0
abbrev s_Refuted : Stmt := inClass (top 17) 0
abbrev s_Driven : Stmt := inClass (top 18) 0
abbrev s_NothingToUndo : Stmt := inClass (top 19) 0
theorem all_mk {P : Program} {w : World} {K : PySem.W.Frag} {h : Heap} {mg : Str → Option Value} {fa f_law_stream f_law_draw f_law_pick f_law_kinds f_law_others f_law_bases f_law_messages_right f_law_values_right f_law C_InvalidNumber C_UnknownName C_TooMany C_Refuted C_Driven C_NothingToUndo i_f_InvalidNumber i_f_UnknownName i_f_TooMany i_f_Refuted i_f_Driven i_f_NothingToUndo : Addr} (X : K.In h) (G : h.Ns mainGlobals mg) (hfa : mg "law" = some (.ref fa))
    {od_law_stream an_law_stream od_law_draw an_law_draw od_law_pick an_law_pick od_law_kinds an_law_kinds od_law_others an_law_others od_law_bases an_law_bases od_law_messages_right an_law_messages_right od_law_values_right an_law_values_right od_law an_law od_InvalidNumber an_InvalidNumber od_UnknownName an_UnknownName od_TooMany an_TooMany od_Refuted an_Refuted od_Driven an_Driven od_NothingToUndo an_NothingToUndo : Option Addr} {sl_law_stream sl_law_draw sl_law_pick sl_law_kinds sl_law_others sl_law_bases sl_law_messages_right sl_law_values_right sl_law sl_InvalidNumber sl_UnknownName sl_TooMany sl_Refuted sl_Driven sl_NothingToUndo : Array (Option Value)} {oc_law_stream kV_law_stream dc_law_stream pm_law_stream cd_law_stream ct_law_stream oc_law_draw kV_law_draw dc_law_draw pm_law_draw cd_law_draw ct_law_draw oc_law_pick kV_law_pick dc_law_pick pm_law_pick cd_law_pick ct_law_pick oc_law_kinds kV_law_kinds dc_law_kinds pm_law_kinds cd_law_kinds ct_law_kinds oc_law_others kV_law_others dc_law_others pm_law_others cd_law_others ct_law_others oc_law_bases kV_law_bases dc_law_bases pm_law_bases cd_law_bases ct_law_bases oc_law_messages_right kV_law_messages_right dc_law_messages_right pm_law_messages_right cd_law_messages_right ct_law_messages_right oc_law_values_right kV_law_values_right dc_law_values_right pm_law_values_right cd_law_values_right ct_law_values_right oc_law kV_law dc_law pm_law cd_law ct_law oc_InvalidNumber kV_InvalidNumber dc_InvalidNumber pm_InvalidNumber cd_InvalidNumber ct_InvalidNumber oc_UnknownName kV_UnknownName dc_UnknownName pm_UnknownName cd_UnknownName ct_UnknownName oc_TooMany kV_TooMany dc_TooMany pm_TooMany cd_TooMany ct_TooMany oc_Refuted kV_Refuted dc_Refuted pm_Refuted cd_Refuted ct_Refuted oc_Driven kV_Driven dc_Driven pm_Driven cd_Driven ct_Driven oc_NothingToUndo kV_NothingToUndo dc_NothingToUndo pm_NothingToUndo cd_NothingToUndo ct_NothingToUndo : Value}
    (ha_law_stream : PySem.W.nsIn K mainGlobals "_law_stream" = some (some (.ref f_law_stream)))
    (hl_law_stream : K.lookup f_law_stream = some ⟨oc_law_stream, od_law_stream, .func (PySem.W.fnOf "_law_stream" "_law_stream" (defArgs s_law_stream) (defBody s_law_stream) (defScope s_law_stream) .none kV_law_stream dc_law_stream pm_law_stream an_law_stream cd_law_stream ct_law_stream), sl_law_stream⟩)
    (hc_law_stream : PySem.W.codeIn K cd_law_stream "_law_stream" = true)
    (hk_law_stream : PySem.W.keepIn K (.ref f_law_stream) = true)
    (ha_law_draw : PySem.W.nsIn K mainGlobals "_law_draw" = some (some (.ref f_law_draw)))
    (hl_law_draw : K.lookup f_law_draw = some ⟨oc_law_draw, od_law_draw, .func (PySem.W.fnOf "_law_draw" "_law_draw" (defArgs s_law_draw) (defBody s_law_draw) (defScope s_law_draw) .none kV_law_draw dc_law_draw pm_law_draw an_law_draw cd_law_draw ct_law_draw), sl_law_draw⟩)
    (hc_law_draw : PySem.W.codeIn K cd_law_draw "_law_draw" = true)
    (hk_law_draw : PySem.W.keepIn K (.ref f_law_draw) = true)
    (ha_law_pick : PySem.W.nsIn K mainGlobals "_law_pick" = some (some (.ref f_law_pick)))
    (hl_law_pick : K.lookup f_law_pick = some ⟨oc_law_pick, od_law_pick, .func (PySem.W.fnOf "_law_pick" "_law_pick" (defArgs s_law_pick) (defBody s_law_pick) (defScope s_law_pick) .none kV_law_pick dc_law_pick pm_law_pick an_law_pick cd_law_pick ct_law_pick), sl_law_pick⟩)
    (hc_law_pick : PySem.W.codeIn K cd_law_pick "_law_pick" = true)
    (hk_law_pick : PySem.W.keepIn K (.ref f_law_pick) = true)
    (ha_law_kinds : PySem.W.nsIn K mainGlobals "_law_kinds" = some (some (.ref f_law_kinds)))
    (hl_law_kinds : K.lookup f_law_kinds = some ⟨oc_law_kinds, od_law_kinds, .func (PySem.W.fnOf "_law_kinds" "_law_kinds" (defArgs s_law_kinds) (defBody s_law_kinds) (defScope s_law_kinds) .none kV_law_kinds dc_law_kinds pm_law_kinds an_law_kinds cd_law_kinds ct_law_kinds), sl_law_kinds⟩)
    (hc_law_kinds : PySem.W.codeIn K cd_law_kinds "_law_kinds" = true)
    (hk_law_kinds : PySem.W.keepIn K (.ref f_law_kinds) = true)
    (ha_law_others : PySem.W.nsIn K mainGlobals "_law_others" = some (some (.ref f_law_others)))
    (hl_law_others : K.lookup f_law_others = some ⟨oc_law_others, od_law_others, .func (PySem.W.fnOf "_law_others" "_law_others" (defArgs s_law_others) (defBody s_law_others) (defScope s_law_others) .none kV_law_others dc_law_others pm_law_others an_law_others cd_law_others ct_law_others), sl_law_others⟩)
    (hc_law_others : PySem.W.codeIn K cd_law_others "_law_others" = true)
    (hk_law_others : PySem.W.keepIn K (.ref f_law_others) = true)
    (ha_law_bases : PySem.W.nsIn K mainGlobals "_law_bases" = some (some (.ref f_law_bases)))
    (hl_law_bases : K.lookup f_law_bases = some ⟨oc_law_bases, od_law_bases, .func (PySem.W.fnOf "_law_bases" "_law_bases" (defArgs s_law_bases) (defBody s_law_bases) (defScope s_law_bases) .none kV_law_bases dc_law_bases pm_law_bases an_law_bases cd_law_bases ct_law_bases), sl_law_bases⟩)
    (hc_law_bases : PySem.W.codeIn K cd_law_bases "_law_bases" = true)
    (hk_law_bases : PySem.W.keepIn K (.ref f_law_bases) = true)
    (ha_law_messages_right : PySem.W.nsIn K mainGlobals "_law_messages_right" = some (some (.ref f_law_messages_right)))
    (hl_law_messages_right : K.lookup f_law_messages_right = some ⟨oc_law_messages_right, od_law_messages_right, .func (PySem.W.fnOf "_law_messages_right" "_law_messages_right" (defArgs s_law_messages_right) (defBody s_law_messages_right) (defScope s_law_messages_right) .none kV_law_messages_right dc_law_messages_right pm_law_messages_right an_law_messages_right cd_law_messages_right ct_law_messages_right), sl_law_messages_right⟩)
    (hc_law_messages_right : PySem.W.codeIn K cd_law_messages_right "_law_messages_right" = true)
    (hk_law_messages_right : PySem.W.keepIn K (.ref f_law_messages_right) = true)
    (ha_law_values_right : PySem.W.nsIn K mainGlobals "_law_values_right" = some (some (.ref f_law_values_right)))
    (hl_law_values_right : K.lookup f_law_values_right = some ⟨oc_law_values_right, od_law_values_right, .func (PySem.W.fnOf "_law_values_right" "_law_values_right" (defArgs s_law_values_right) (defBody s_law_values_right) (defScope s_law_values_right) .none kV_law_values_right dc_law_values_right pm_law_values_right an_law_values_right cd_law_values_right ct_law_values_right), sl_law_values_right⟩)
    (hc_law_values_right : PySem.W.codeIn K cd_law_values_right "_law_values_right" = true)
    (hk_law_values_right : PySem.W.keepIn K (.ref f_law_values_right) = true)
    (ha_law : PySem.W.nsIn K mainGlobals "law" = some (some (.ref f_law)))
    (hl_law : K.lookup f_law = some ⟨oc_law, od_law, .func (PySem.W.fnOf "law" "law" (defArgs s_law) (defBody s_law) (defScope s_law) .none kV_law dc_law pm_law an_law cd_law ct_law), sl_law⟩)
    (hc_law : PySem.W.codeIn K cd_law "law" = true)
    (hk_law : PySem.W.keepIn K (.ref f_law) = true)
    (hb_ArithmeticError : PySem.W.nsIn K mainGlobals "ArithmeticError" = some none)
    (hb_IndexError : PySem.W.nsIn K mainGlobals "IndexError" = some none)
    (hb_KeyError : PySem.W.nsIn K mainGlobals "KeyError" = some none)
    (hb_LookupError : PySem.W.nsIn K mainGlobals "LookupError" = some none)
    (hb_OverflowError : PySem.W.nsIn K mainGlobals "OverflowError" = some none)
    (hb_RuntimeError : PySem.W.nsIn K mainGlobals "RuntimeError" = some none)
    (hb_ValueError : PySem.W.nsIn K mainGlobals "ValueError" = some none)
    (hb_abs : PySem.W.nsIn K mainGlobals "abs" = some none)
    (hb_enumerate : PySem.W.nsIn K mainGlobals "enumerate" = some none)
    (hb_int : PySem.W.nsIn K mainGlobals "int" = some none)
    (hb_isinstance : PySem.W.nsIn K mainGlobals "isinstance" = some none)
    (hb_len : PySem.W.nsIn K mainGlobals "len" = some none)
    (hb_max : PySem.W.nsIn K mainGlobals "max" = some none)
    (hb_min : PySem.W.nsIn K mainGlobals "min" = some none)
    (hb_range : PySem.W.nsIn K mainGlobals "range" = some none)
    (hb_repr : PySem.W.nsIn K mainGlobals "repr" = some none)
    (hx_PlanError : ex1B K "PlanError" [.type "ValueError", .type "Exception", .type "BaseException", .type "object"] "ValueError.__new__" = true)
    (hx_InvalidArcs : ex1B K "InvalidArcs" [.type "ValueError", .type "Exception", .type "BaseException", .type "object"] "ValueError.__new__" = true)
    (hx_InvalidPlan : ex1B K "InvalidPlan" [.type "ValueError", .type "Exception", .type "BaseException", .type "object"] "ValueError.__new__" = true)
    (hx_InvalidDurations : ex1B K "InvalidDurations" [.type "ValueError", .type "Exception", .type "BaseException", .type "object"] "ValueError.__new__" = true)
    (hx_InvalidTimes : ex1B K "InvalidTimes" [.type "ValueError", .type "Exception", .type "BaseException", .type "object"] "ValueError.__new__" = true)
    (hx_InvalidRun : ex1B K "InvalidRun" [.type "ValueError", .type "Exception", .type "BaseException", .type "object"] "ValueError.__new__" = true)
    (hx_InvalidPolicy : ex1B K "InvalidPolicy" [.type "ValueError", .type "Exception", .type "BaseException", .type "object"] "ValueError.__new__" = true)
    (hx_InvalidTable : ex1B K "InvalidTable" [.type "ValueError", .type "Exception", .type "BaseException", .type "object"] "ValueError.__new__" = true)
    (hx_InvalidTask : ex1B K "InvalidTask" [.type "ValueError", .type "Exception", .type "BaseException", .type "object"] "ValueError.__new__" = true)
    (hx_InvalidOperation : ex1B K "InvalidOperation" [.type "ValueError", .type "Exception", .type "BaseException", .type "object"] "ValueError.__new__" = true)
    (hx_InvalidEdit : ex1B K "InvalidEdit" [.type "ValueError", .type "Exception", .type "BaseException", .type "object"] "ValueError.__new__" = true)
    (hx_ParseError : ex1B K "ParseError" [.type "ValueError", .type "Exception", .type "BaseException", .type "object"] "ValueError.__new__" = true)
    (hx_InvalidCommand : ex1B K "InvalidCommand" [.type "ValueError", .type "Exception", .type "BaseException", .type "object"] "ValueError.__new__" = true)
    (ha_InvalidNumber : PySem.W.nsIn K mainGlobals "InvalidNumber" = some (some (.ref C_InvalidNumber)))
    (hi_InvalidNumber : PySem.W.findIn K (.ref C_InvalidNumber) "__init__" = some (some (.ref i_f_InvalidNumber)))
    (hl_InvalidNumber : K.lookup i_f_InvalidNumber = some ⟨oc_InvalidNumber, od_InvalidNumber, .func (PySem.W.fnOf "__init__" "InvalidNumber.__init__" (defArgs s_InvalidNumber) (defBody s_InvalidNumber) (defScope s_InvalidNumber) .none kV_InvalidNumber dc_InvalidNumber pm_InvalidNumber an_InvalidNumber cd_InvalidNumber ct_InvalidNumber), sl_InvalidNumber⟩)
    (hc_InvalidNumber : PySem.W.codeIn K cd_InvalidNumber "InvalidNumber.__init__" = true)
    (hq_InvalidNumber : exFB K C_InvalidNumber i_f_InvalidNumber "value" "value" [.type "IndexError", .type "LookupError", .type "Exception", .type "BaseException", .type "object"] "IndexError.__new__" = true)
    (ha_UnknownName : PySem.W.nsIn K mainGlobals "UnknownName" = some (some (.ref C_UnknownName)))
    (hi_UnknownName : PySem.W.findIn K (.ref C_UnknownName) "__init__" = some (some (.ref i_f_UnknownName)))
    (hl_UnknownName : K.lookup i_f_UnknownName = some ⟨oc_UnknownName, od_UnknownName, .func (PySem.W.fnOf "__init__" "UnknownName.__init__" (defArgs s_UnknownName) (defBody s_UnknownName) (defScope s_UnknownName) .none kV_UnknownName dc_UnknownName pm_UnknownName an_UnknownName cd_UnknownName ct_UnknownName), sl_UnknownName⟩)
    (hc_UnknownName : PySem.W.codeIn K cd_UnknownName "UnknownName.__init__" = true)
    (hq_UnknownName : exFB K C_UnknownName i_f_UnknownName "name" "name" [.type "KeyError", .type "LookupError", .type "Exception", .type "BaseException", .type "object"] "LookupError.__new__" = true)
    (ha_TooMany : PySem.W.nsIn K mainGlobals "TooMany" = some (some (.ref C_TooMany)))
    (hi_TooMany : PySem.W.findIn K (.ref C_TooMany) "__init__" = some (some (.ref i_f_TooMany)))
    (hl_TooMany : K.lookup i_f_TooMany = some ⟨oc_TooMany, od_TooMany, .func (PySem.W.fnOf "__init__" "TooMany.__init__" (defArgs s_TooMany) (defBody s_TooMany) (defScope s_TooMany) .none kV_TooMany dc_TooMany pm_TooMany an_TooMany cd_TooMany ct_TooMany), sl_TooMany⟩)
    (hc_TooMany : PySem.W.codeIn K cd_TooMany "TooMany.__init__" = true)
    (hq_TooMany : exFB K C_TooMany i_f_TooMany "limit" "limit" [.type "OverflowError", .type "ArithmeticError", .type "Exception", .type "BaseException", .type "object"] "OverflowError.__new__" = true)
    (ha_Refuted : PySem.W.nsIn K mainGlobals "Refuted" = some (some (.ref C_Refuted)))
    (hi_Refuted : PySem.W.findIn K (.ref C_Refuted) "__init__" = some (some (.ref i_f_Refuted)))
    (hl_Refuted : K.lookup i_f_Refuted = some ⟨oc_Refuted, od_Refuted, .func (PySem.W.fnOf "__init__" "Refuted.__init__" (defArgs s_Refuted) (defBody s_Refuted) (defScope s_Refuted) .none kV_Refuted dc_Refuted pm_Refuted an_Refuted cd_Refuted ct_Refuted), sl_Refuted⟩)
    (hc_Refuted : PySem.W.codeIn K cd_Refuted "Refuted.__init__" = true)
    (hq_Refuted : exFB K C_Refuted i_f_Refuted "paper" "paper" [.type "ArithmeticError", .type "Exception", .type "BaseException", .type "object"] "ArithmeticError.__new__" = true)
    (ha_Driven : PySem.W.nsIn K mainGlobals "Driven" = some (some (.ref C_Driven)))
    (hi_Driven : PySem.W.findIn K (.ref C_Driven) "__init__" = some (some (.ref i_f_Driven)))
    (hl_Driven : K.lookup i_f_Driven = some ⟨oc_Driven, od_Driven, .func (PySem.W.fnOf "__init__" "Driven.__init__" (defArgs s_Driven) (defBody s_Driven) (defScope s_Driven) .none kV_Driven dc_Driven pm_Driven an_Driven cd_Driven ct_Driven), sl_Driven⟩)
    (hc_Driven : PySem.W.codeIn K cd_Driven "Driven.__init__" = true)
    (hq_Driven : exFB K C_Driven i_f_Driven "paper" "paper" [.type "RuntimeError", .type "Exception", .type "BaseException", .type "object"] "RuntimeError.__new__" = true)
    (ha_NothingToUndo : PySem.W.nsIn K mainGlobals "NothingToUndo" = some (some (.ref C_NothingToUndo)))
    (hi_NothingToUndo : PySem.W.findIn K (.ref C_NothingToUndo) "__init__" = some (some (.ref i_f_NothingToUndo)))
    (hl_NothingToUndo : K.lookup i_f_NothingToUndo = some ⟨oc_NothingToUndo, od_NothingToUndo, .func (PySem.W.fnOf "__init__" "NothingToUndo.__init__" (defArgs s_NothingToUndo) (defBody s_NothingToUndo) (defScope s_NothingToUndo) .none kV_NothingToUndo dc_NothingToUndo pm_NothingToUndo an_NothingToUndo cd_NothingToUndo ct_NothingToUndo), sl_NothingToUndo⟩)
    (hc_NothingToUndo : PySem.W.codeIn K cd_NothingToUndo "NothingToUndo.__init__" = true)
    (hq_NothingToUndo : exFB K C_NothingToUndo i_f_NothingToUndo "many" "many" [.type "LookupError", .type "Exception", .type "BaseException", .type "object"] "LookupError.__new__" = true)
    (hh_isa : isaB K tab = true)
    (hh_f_limit : ((["TooMany"] : List Str).all fun x => fldB K x "limit") = true)
    (hh_f_many : ((["NothingToUndo"] : List Str).all fun x => fldB K x "many") = true)
    (hh_f_name : ((["UnknownName"] : List Str).all fun x => fldB K x "name") = true)
    (hh_f_paper : ((["Refuted", "Driven"] : List Str).all fun x => fldB K x "paper") = true)
    (hh_f_value : ((["InvalidNumber"] : List Str).all fun x => fldB K x "value") = true)
    : ∃ fd : FuncData, (∀ (s : Shared) (v : Value), BindsTo s fd ⟨[v], []⟩ [("script", v)]) ∧ ∀ base : Heap, K.In base → base.Ns mainGlobals mg → FnB P w K mg base 3 fa fd ["script"] F_law := by
  have e := hfa.symm.trans (PySem.W.mg_of X G ha_law)
  cases e
  have X_InvalidNumber : ExF K mg "InvalidNumber" "value" := exF_of X G PySem.F.excBase_IndexError PySem.F.store_IndexError (by decide +kernel) (by decide +kernel) (by decide +kernel) ha_InvalidNumber hi_InvalidNumber hl_InvalidNumber hc_InvalidNumber rfl (fun _ _ _ => .of_eq rfl) rfl rfl rfl rfl rfl hq_InvalidNumber
  have X_UnknownName : ExF K mg "UnknownName" "name" := exF_of X G PySem.F.excBase_LookupError BX.store_KeyErr (by decide +kernel) (by decide +kernel) (by decide +kernel) ha_UnknownName hi_UnknownName hl_UnknownName hc_UnknownName rfl (fun _ _ _ => .of_eq rfl) rfl rfl rfl rfl rfl hq_UnknownName
  have X_TooMany : ExF K mg "TooMany" "limit" := exF_of X G PySem.F.excBase_OverflowError PySem.F.store_OverflowError (by decide +kernel) (by decide +kernel) (by decide +kernel) ha_TooMany hi_TooMany hl_TooMany hc_TooMany rfl (fun _ _ _ => .of_eq rfl) rfl rfl rfl rfl rfl hq_TooMany
  have X_Refuted : ExF K mg "Refuted" "paper" := exF_of X G PySem.F.excBase_ArithmeticError PySem.F.store_ArithmeticError (by decide +kernel) (by decide +kernel) (by decide +kernel) ha_Refuted hi_Refuted hl_Refuted hc_Refuted rfl (fun _ _ _ => .of_eq rfl) rfl rfl rfl rfl rfl hq_Refuted
  have X_Driven : ExF K mg "Driven" "paper" := exF_of X G PySem.F.excBase_RuntimeError PySem.F.store_RuntimeError (by decide +kernel) (by decide +kernel) (by decide +kernel) ha_Driven hi_Driven hl_Driven hc_Driven rfl (fun _ _ _ => .of_eq rfl) rfl rfl rfl rfl rfl hq_Driven
  have X_NothingToUndo : ExF K mg "NothingToUndo" "many" := exF_of X G PySem.F.excBase_LookupError PySem.F.store_LookupError (by decide +kernel) (by decide +kernel) (by decide +kernel) ha_NothingToUndo hi_NothingToUndo hl_NothingToUndo hc_NothingToUndo rfl (fun _ _ _ => .of_eq rfl) rfl rfl rfl rfl rfl hq_NothingToUndo
  have M : Mg K mg := ⟨PySem.W.mg_none_of X G hb_ArithmeticError, PySem.W.mg_none_of X G hb_IndexError, PySem.W.mg_none_of X G hb_KeyError, PySem.W.mg_none_of X G hb_LookupError, PySem.W.mg_none_of X G hb_OverflowError, PySem.W.mg_none_of X G hb_RuntimeError, PySem.W.mg_none_of X G hb_ValueError, PySem.W.mg_none_of X G hb_abs, PySem.W.mg_none_of X G hb_enumerate, PySem.W.mg_none_of X G hb_int, PySem.W.mg_none_of X G hb_isinstance, PySem.W.mg_none_of X G hb_len, PySem.W.mg_none_of X G hb_max, PySem.W.mg_none_of X G hb_min, PySem.W.mg_none_of X G hb_range, PySem.W.mg_none_of X G hb_repr, ex1_of X G PySem.F.excBase_ValueError hx_PlanError, ex1_of X G PySem.F.excBase_ValueError hx_InvalidArcs, ex1_of X G PySem.F.excBase_ValueError hx_InvalidPlan, ex1_of X G PySem.F.excBase_ValueError hx_InvalidDurations, ex1_of X G PySem.F.excBase_ValueError hx_InvalidTimes, ex1_of X G PySem.F.excBase_ValueError hx_InvalidRun, ex1_of X G PySem.F.excBase_ValueError hx_InvalidPolicy, ex1_of X G PySem.F.excBase_ValueError hx_InvalidTable, ex1_of X G PySem.F.excBase_ValueError hx_InvalidTask, ex1_of X G PySem.F.excBase_ValueError hx_InvalidOperation, ex1_of X G PySem.F.excBase_ValueError hx_InvalidEdit, ex1_of X G PySem.F.excBase_ValueError hx_ParseError, ex1_of X G PySem.F.excBase_ValueError hx_InvalidCommand, X_InvalidNumber, X_UnknownName, X_TooMany, X_Refuted, X_Driven, X_NothingToUndo, isa_ok X G hh_isa, flds_ok X G hh_f_limit, flds_ok X G hh_f_many, flds_ok X G hh_f_name, flds_ok X G hh_f_paper, flds_ok X G hh_f_value⟩
  have T_law_stream := fun_mk (st := s_law_stream) hl_law_stream hc_law_stream hk_law_stream
  have T_law_draw := fun_mk (st := s_law_draw) hl_law_draw hc_law_draw hk_law_draw
  have T_law_pick := fun_mk (st := s_law_pick) hl_law_pick hc_law_pick hk_law_pick
  have T_law_kinds := fun_mk (st := s_law_kinds) hl_law_kinds hc_law_kinds hk_law_kinds
  have T_law_others := fun_mk (st := s_law_others) hl_law_others hc_law_others hk_law_others
  have T_law_bases := fun_mk (st := s_law_bases) hl_law_bases hc_law_bases hk_law_bases
  have T_law_messages_right := fun_mk (st := s_law_messages_right) hl_law_messages_right hc_law_messages_right hk_law_messages_right
  have T_law_values_right := fun_mk (st := s_law_values_right) hl_law_values_right hc_law_values_right hk_law_values_right
  have T_law := fun_mk (st := s_law) hl_law hc_law hk_law
  refine ⟨PySem.W.fnOf "law" "law" (defArgs s_law) (defBody s_law) (defScope s_law) .none kV_law dc_law pm_law an_law cd_law ct_law, fun s v => .of_eq rfl, fun base _ _ => ?_⟩
  have k_law_stream : KnB P w K mg base 1 "_law_stream" 2 [] F_law_stream := ⟨f_law_stream, _, ["script", "at"], [], [], ok_law_stream T_law_stream M, PySem.W.mg_of X G ha_law_stream, hk_law_stream, T_law_stream.binds (ps := ["script", "at"]) fun _ _ _ _ _ _ us hl => match us, hl with | [_, _], _ => rfl, .nil, fun _ _ => by simp only [RVs], rfl⟩
  have k_law_draw : KnB P w K mg base 1 "_law_draw" 2 [] F_law_draw := ⟨f_law_draw, _, ["stream", "total"], [], [], ok_law_draw T_law_draw M, PySem.W.mg_of X G ha_law_draw, hk_law_draw, T_law_draw.binds (ps := ["stream", "total"]) fun _ _ _ _ _ _ us hl => match us, hl with | [_, _], _ => rfl, .nil, fun _ _ => by simp only [RVs], rfl⟩
  have k_law_pick : KnB P w K mg base 2 "_law_pick" 2 [] F_law_pick := ⟨f_law_pick, _, ["stream", "items"], [], [], ok_law_pick T_law_pick M k_law_draw, PySem.W.mg_of X G ha_law_pick, hk_law_pick, T_law_pick.binds (ps := ["stream", "items"]) fun _ _ _ _ _ _ us hl => match us, hl with | [_, _], _ => rfl, .nil, fun _ _ => by simp only [RVs], rfl⟩
  have k_law_kinds : KnB P w K mg base 1 "_law_kinds" 1 [] F_law_kinds := ⟨f_law_kinds, _, ["error"], [], [], ok_law_kinds T_law_kinds M, PySem.W.mg_of X G ha_law_kinds, hk_law_kinds, T_law_kinds.binds (ps := ["error"]) fun _ _ _ _ _ _ us hl => match us, hl with | [_], _ => rfl, .nil, fun _ _ => by simp only [RVs], rfl⟩
  have k_law_others : KnB P w K mg base 1 "_law_others" 1 [] F_law_others := ⟨f_law_others, _, ["error"], [], [], ok_law_others T_law_others M, PySem.W.mg_of X G ha_law_others, hk_law_others, T_law_others.binds (ps := ["error"]) fun _ _ _ _ _ _ us hl => match us, hl with | [_], _ => rfl, .nil, fun _ _ => by simp only [RVs], rfl⟩
  have k_law_bases : KnB P w K mg base 1 "_law_bases" 1 [] F_law_bases := ⟨f_law_bases, _, ["error"], [], [], ok_law_bases T_law_bases M, PySem.W.mg_of X G ha_law_bases, hk_law_bases, T_law_bases.binds (ps := ["error"]) fun _ _ _ _ _ _ us hl => match us, hl with | [_], _ => rfl, .nil, fun _ _ => by simp only [RVs], rfl⟩
  have k_law_messages_right : KnB P w K mg base 2 "_law_messages_right" 1 [] F_law_messages_right := ⟨f_law_messages_right, _, ["text"], [], [], ok_law_messages_right T_law_messages_right M k_law_others k_law_bases k_law_kinds, PySem.W.mg_of X G ha_law_messages_right, hk_law_messages_right, T_law_messages_right.binds (ps := ["text"]) fun _ _ _ _ _ _ us hl => match us, hl with | [_], _ => rfl, .nil, fun _ _ => by simp only [RVs], rfl⟩
  have k_law_messages_right := k_law_messages_right.frame fr_law_messages_right
  have k_law_values_right : KnB P w K mg base 2 "_law_values_right" 4 [] F_law_values_right := ⟨f_law_values_right, _, ["value", "number", "paper", "table"], [], [], ok_law_values_right T_law_values_right M k_law_others k_law_bases k_law_kinds, PySem.W.mg_of X G ha_law_values_right, hk_law_values_right, T_law_values_right.binds (ps := ["value", "number", "paper", "table"]) fun _ _ _ _ _ _ us hl => match us, hl with | [_, _, _, _], _ => rfl, .nil, fun _ _ => by simp only [RVs], rfl⟩
  have k_law_values_right := k_law_values_right.frame fr_law_values_right
  exact ok_law T_law M k_law_stream k_law_draw k_law_pick k_law_values_right k_law_messages_right
end P
open PySem PySem.W PyProof.Rows in
set_option maxRecDepth 100000 in
set_option maxHeartbeats 0 in
theorem PySem.Challenge.cw_heardwide_k00_errors_holds : PySem.Challenge.rw_heardwide_k00_errors.Holds := by
  w_on; o_law; k_head; (case hw => w_witness2)
  k_fill
  refine B.walk_D (l := PySem.Challenge.rw_heardwide_k00_errors) (n := 63) (k := 3) (g := P.F_law) (x := "script") rfl (by decide) rfl ⟨rfl, by decide, by decide⟩ (fun w h Y => PySem.W.kIn_of Y) (fun w => ?NL) ?F P.main
  case NL => kernel_rfl
  case F =>
    intro w mg fa h KX G hmg
    refine' P.all_mk KX G hmg ?ha_law_stream ?hl_law_stream ?hc_law_stream ?hk_law_stream ?ha_law_draw ?hl_law_draw ?hc_law_draw ?hk_law_draw ?ha_law_pick ?hl_law_pick ?hc_law_pick ?hk_law_pick ?ha_law_kinds ?hl_law_kinds ?hc_law_kinds ?hk_law_kinds ?ha_law_others ?hl_law_others ?hc_law_others ?hk_law_others ?ha_law_bases ?hl_law_bases ?hc_law_bases ?hk_law_bases ?ha_law_messages_right ?hl_law_messages_right ?hc_law_messages_right ?hk_law_messages_right ?ha_law_values_right ?hl_law_values_right ?hc_law_values_right ?hk_law_values_right ?ha_law ?hl_law ?hc_law ?hk_law ?hb_ArithmeticError ?hb_IndexError ?hb_KeyError ?hb_LookupError ?hb_OverflowError ?hb_RuntimeError ?hb_ValueError ?hb_abs ?hb_enumerate ?hb_int ?hb_isinstance ?hb_len ?hb_max ?hb_min ?hb_range ?hb_repr ?hx_PlanError ?hx_InvalidArcs ?hx_InvalidPlan ?hx_InvalidDurations ?hx_InvalidTimes ?hx_InvalidRun ?hx_InvalidPolicy ?hx_InvalidTable ?hx_InvalidTask ?hx_InvalidOperation ?hx_InvalidEdit ?hx_ParseError ?hx_InvalidCommand ?ha_InvalidNumber ?hi_InvalidNumber ?hl_InvalidNumber ?hc_InvalidNumber ?hq_InvalidNumber ?ha_UnknownName ?hi_UnknownName ?hl_UnknownName ?hc_UnknownName ?hq_UnknownName ?ha_TooMany ?hi_TooMany ?hl_TooMany ?hc_TooMany ?hq_TooMany ?ha_Refuted ?hi_Refuted ?hl_Refuted ?hc_Refuted ?hq_Refuted ?ha_Driven ?hi_Driven ?hl_Driven ?hc_Driven ?hq_Driven ?ha_NothingToUndo ?hi_NothingToUndo ?hl_NothingToUndo ?hc_NothingToUndo ?hq_NothingToUndo ?hh_isa ?hh_f_limit ?hh_f_many ?hh_f_name ?hh_f_paper ?hh_f_value
    (case ha_law_stream => k_is)
    (case hl_law_stream => k_is)
    (case hc_law_stream => k_is)
    (case hk_law_stream => k_is)
    (case ha_law_draw => k_is)
    (case hl_law_draw => k_is)
    (case hc_law_draw => k_is)
    (case hk_law_draw => k_is)
    (case ha_law_pick => k_is)
    (case hl_law_pick => k_is)
    (case hc_law_pick => k_is)
    (case hk_law_pick => k_is)
    (case ha_law_kinds => k_is)
    (case hl_law_kinds => k_is)
    (case hc_law_kinds => k_is)
    (case hk_law_kinds => k_is)
    (case ha_law_others => k_is)
    (case hl_law_others => k_is)
    (case hc_law_others => k_is)
    (case hk_law_others => k_is)
    (case ha_law_bases => k_is)
    (case hl_law_bases => k_is)
    (case hc_law_bases => k_is)
    (case hk_law_bases => k_is)
    (case ha_law_messages_right => k_is)
    (case hl_law_messages_right => k_is)
    (case hc_law_messages_right => k_is)
    (case hk_law_messages_right => k_is)
    (case ha_law_values_right => k_is)
    (case hl_law_values_right => k_is)
    (case hc_law_values_right => k_is)
    (case hk_law_values_right => k_is)
    (case ha_law => k_is)
    (case hl_law => k_is)
    (case hc_law => k_is)
    (case hk_law => k_is)
    (case hb_ArithmeticError => k_is)
    (case hb_IndexError => k_is)
    (case hb_KeyError => k_is)
    (case hb_LookupError => k_is)
    (case hb_OverflowError => k_is)
    (case hb_RuntimeError => k_is)
    (case hb_ValueError => k_is)
    (case hb_abs => k_is)
    (case hb_enumerate => k_is)
    (case hb_int => k_is)
    (case hb_isinstance => k_is)
    (case hb_len => k_is)
    (case hb_max => k_is)
    (case hb_min => k_is)
    (case hb_range => k_is)
    (case hb_repr => k_is)
    (case hx_PlanError => kernel_rfl)
    (case hx_InvalidArcs => kernel_rfl)
    (case hx_InvalidPlan => kernel_rfl)
    (case hx_InvalidDurations => kernel_rfl)
    (case hx_InvalidTimes => kernel_rfl)
    (case hx_InvalidRun => kernel_rfl)
    (case hx_InvalidPolicy => kernel_rfl)
    (case hx_InvalidTable => kernel_rfl)
    (case hx_InvalidTask => kernel_rfl)
    (case hx_InvalidOperation => kernel_rfl)
    (case hx_InvalidEdit => kernel_rfl)
    (case hx_ParseError => kernel_rfl)
    (case hx_InvalidCommand => kernel_rfl)
    (case ha_InvalidNumber => k_is)
    (case hi_InvalidNumber => k_is)
    (case hl_InvalidNumber => k_is)
    (case hc_InvalidNumber => k_is)
    (case hq_InvalidNumber => kernel_rfl)
    (case ha_UnknownName => k_is)
    (case hi_UnknownName => k_is)
    (case hl_UnknownName => k_is)
    (case hc_UnknownName => k_is)
    (case hq_UnknownName => kernel_rfl)
    (case ha_TooMany => k_is)
    (case hi_TooMany => k_is)
    (case hl_TooMany => k_is)
    (case hc_TooMany => k_is)
    (case hq_TooMany => kernel_rfl)
    (case ha_Refuted => k_is)
    (case hi_Refuted => k_is)
    (case hl_Refuted => k_is)
    (case hc_Refuted => k_is)
    (case hq_Refuted => kernel_rfl)
    (case ha_Driven => k_is)
    (case hi_Driven => k_is)
    (case hl_Driven => k_is)
    (case hc_Driven => k_is)
    (case hq_Driven => kernel_rfl)
    (case ha_NothingToUndo => k_is)
    (case hi_NothingToUndo => k_is)
    (case hl_NothingToUndo => k_is)
    (case hc_NothingToUndo => k_is)
    (case hq_NothingToUndo => kernel_rfl)
    (case hh_isa => kernel_rfl)
    (case hh_f_limit => kernel_rfl)
    (case hh_f_many => kernel_rfl)
    (case hh_f_name => kernel_rfl)
    (case hh_f_paper => kernel_rfl)
    (case hh_f_value => kernel_rfl)
