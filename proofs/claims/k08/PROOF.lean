import PyProof.Rows.All
import Wide.All
import OpenK.AllK
import Wide.FinOn
import HandS.ForMost
import HandS.Exc
import HandS.TryOnly
import HandS.WordsExc
import HandS.Wide
import HandS.WideBits
import HandS.Style
import HandS.IsInst
import HandS.Walk
import HandS.CallSlots
import HandS.EndBits
import HandS.Defaults
import HandS.HeadHook2
import KE.KStateDown
import HandS.Head0
import HandS.Head1
import HandS.Head2
import HandS.HeadEnd
import PySem.Challenge.RW_monochord_k08_digests_in_parts
set_option Elab.async false
set_option linter.all false
set_option maxRecDepth 100000
set_option maxHeartbeats 8000000
namespace Mo
open PySem L2

/-- data that is never written again -/
inductive D where
  | non | no | bl (b : Bool) | int (i : Int) | str (x : Str)
  | lst (xs : List D) | lck (xs : List D) | tup (xs : List D) | ins (c : Nat) (fs : List D)
/-- a value: data, or an object that may be written -/
inductive Vl where
  | d (x : D) | c (k : Nat)
inductive Ob where
  | lst (xs : List D) | lsc (xs : List Vl) | ins (c : Nat) (fs : List Vl)
abbrev Store := List (Option Ob)
abbrev En := List (Option Vl)
structure Ex where
  c : Nat
  fs : List D
  M : Store
inductive Res (ε α : Type) where
  | ok (a : α) | exc (e : ε) | bad
def Res.bind {ε α β : Type} (r : Res ε α) (k : α → Res ε β) : Res ε β := match r with
  | .ok a => k a
  | .exc e => .exc e
  | .bad => .bad
def Res.opt {ε α : Type} : Option α → Res ε α
  | some a => .ok a
  | none => .bad
inductive Fl where
  | nx | bk | ct | rt (v : Vl)
abbrev EvE := Nat → En → Store → Res Ex (Vl × Store)
abbrev EvA := Nat → En → Store → Res Ex (List Vl × Store)
abbrev EvT := Nat → En → Store → Res Ex (Bool × Store)
abbrev EvS := Nat → En → Store → Res (Ex × En) (Fl × En × Store)
/-- called: the values, the base, the store -/
abbrev EvF := List Vl → Nat → Store → Res Ex (Vl × Store)

/-- where the classes stand, what their fields are called -/
structure Kx where
  K : PySem.W.Frag
  C : Nat → Addr
  F : Nat → List Str

/-- no other fields -/
def Wi (ns : List Str) (fs : List (Str × V)) : Prop := ∀ n v, fs.lookup n = some v → n ∈ ns
/-! ### values stand for data -/
mutual
inductive R (c : Kx) (Z : Hp) : V → D → Prop
  | non : R c Z .non .non
  | bl (b : Bool) : R c Z (.bl b) (.bl b)
  | int (i : Int) : R c Z (.int i) (.int i)
  | str (x : Str) : R c Z (.str x) (.str x)
  | lst {a : Addr} {vs : List V} {xs : List D} : Z a = some (.lst vs) → Rs c Z vs xs → R c Z (.ref a) (.lst xs)
  | lck {a : Addr} {vs : List V} {xs : List D} : SqL c.K Z a vs → Rs c Z vs xs → R c Z (.ref a) (.lck xs)
  | tup {a : Addr} {vs : List V} {xs : List D} : SqT c.K Z a vs → Rs c Z vs xs → R c Z (.ref a) (.tup xs)
  | ins {a dx : Addr} {k : Nat} {fs : List (Str × V)} {ds : List D} : Z a = some (.ins (c.C k) dx fs) → Wi (c.F k) fs → Rf c Z (c.F k) fs ds → R c Z (.ref a) (.ins k ds)
inductive Rs (c : Kx) (Z : Hp) : List V → List D → Prop
  | nil : Rs c Z [] []
  | cons {v : V} {vs : List V} {d : D} {ds : List D} : R c Z v d → Rs c Z vs ds → Rs c Z (v :: vs) (d :: ds)
inductive Rf (c : Kx) (Z : Hp) : List Str → List (Str × V) → List D → Prop
  | nil {fs : List (Str × V)} : Rf c Z [] fs []
  | no {n : Str} {ns : List Str} {fs : List (Str × V)} {ds : List D} : Rf c Z ns fs ds → Rf c Z (n :: ns) fs (.no :: ds)
  | set {n : Str} {ns : List Str} {fs : List (Str × V)} {v : V} {d : D} {ds : List D} : fs.lookup n = some v → R c Z v d → Rf c Z ns fs ds → Rf c Z (n :: ns) fs (d :: ds)
end

def Sub (Z Z' : Hp) : Prop := ∀ a o, Z a = some o → Z' a = some o
theorem Sub.refl (Z : Hp) : Sub Z Z := fun _ _ h => h
theorem Sub.trans {Z Z1 Z2 : Hp} (a : Sub Z Z1) (b : Sub Z1 Z2) : Sub Z Z2 := fun x o h => b x o (a x o h)
theorem Sub.sqL {K : PySem.W.Frag} {H H' : Hp} {a : Addr} {xs : List V} (s : Sub H H') (q : SqL K H a xs) : SqL K H' a xs :=
  q.elim (fun q => .inl (q.elim (fun q => .inl (s _ _ q)) fun ⟨u, q⟩ => .inr ⟨u, s _ _ q⟩)) .inr
theorem Sub.sqT {K : PySem.W.Frag} {H H' : Hp} {a : Addr} {xs : List V} (s : Sub H H') (q : SqT K H a xs) : SqT K H' a xs :=
  q.elim (fun q => .inl (q.elim (fun q => .inl (s _ _ q)) fun ⟨u, q⟩ => .inr ⟨u, s _ _ q⟩)) .inr
section
variable {c : Kx} {Z Z' : Hp}
mutual
theorem R.mono (hZ : Sub Z Z') : ∀ (d : D) (v : V), R c Z v d → R c Z' v d
  | .non, _, h => by cases h; exact .non
  | .no, _, h => by cases h
  | .bl b, _, h => by cases h; exact .bl b
  | .int i, _, h => by cases h; exact .int i
  | .str x, _, h => by cases h; exact .str x
  | .lst xs, _, h => by
    cases h with
    | lst h1 h2 => exact .lst (hZ _ _ h1) (Rs.mono hZ xs _ h2)
  | .lck xs, _, h => by
    cases h with
    | lck h1 h2 => exact .lck (hZ.sqL h1) (Rs.mono hZ xs _ h2)
  | .tup xs, _, h => by
    cases h with
    | tup h1 h2 => exact .tup (hZ.sqT h1) (Rs.mono hZ xs _ h2)
  | .ins k fs, _, h => by
    cases h with
    | ins h1 hw h2 => exact .ins (hZ _ _ h1) hw (Rf.mono hZ fs _ _ h2)
theorem Rs.mono (hZ : Sub Z Z') : ∀ (ds : List D) (vs : List V), Rs c Z vs ds → Rs c Z' vs ds
  | [], _, h => by cases h; exact .nil
  | d :: ds, _, h => by
    cases h with
    | cons h1 h2 => exact .cons (R.mono hZ d _ h1) (Rs.mono hZ ds _ h2)
theorem Rf.mono (hZ : Sub Z Z') : ∀ (ds : List D) (ns : List Str) (fs : List (Str × V)), Rf c Z ns fs ds → Rf c Z' ns fs ds
  | [], _, _, h => by cases h; exact .nil
  | d :: ds, _, _, h => by
    cases h with
    | no h1 => exact .no (Rf.mono hZ ds _ _ h1)
    | set h1 h2 h3 => exact .set h1 (R.mono hZ d _ h2) (Rf.mono hZ ds _ _ h3)
end
theorem R.up {v : V} {d : D} (h : R c Z v d) (hZ : Sub Z Z') : R c Z' v d := R.mono hZ d v h
theorem Rs.up {v : List V} {d : List D} (h : Rs c Z v d) (hZ : Sub Z Z') : Rs c Z' v d := Rs.mono hZ d v h
theorem Rf.up {ns : List Str} {fs : List (Str × V)} {d : List D} (h : Rf c Z ns fs d) (hZ : Sub Z Z') : Rf c Z' ns fs d := Rf.mono hZ d ns fs h
theorem Rs.length : ∀ {ds : List D} {vs : List V}, Rs c Z vs ds → vs.length = ds.length
  | [], _, h => by cases h; rfl
  | _ :: _, _, h => by
    cases h with
    | cons _ h2 => exact congrArg (· + 1) h2.length
theorem Rs.get : ∀ {ds : List D} {vs : List V} {i : Nat} {d : D}, Rs c Z vs ds → ds[i]? = some d → ∃ v, vs[i]? = some v ∧ R c Z v d
  | [], _, _, _, _, e => by simp at e
  | _ :: _, _, 0, _, h, e => by
    cases h with
    | cons h1 h2 => simp at e; subst e; exact ⟨_, rfl, h1⟩
  | _ :: _, _, i + 1, d, h, e => by
    cases h with
    | cons h1 h2 =>
      obtain ⟨v, e1, r⟩ := Rs.get (i := i) (d := d) h2 (by simpa using e)
      exact ⟨v, by simpa using e1, r⟩
theorem Rs.getV : ∀ {ds : List D} {vs : List V} {i : Nat} {v : V}, Rs c Z vs ds → vs[i]? = some v → ∃ d, ds[i]? = some d ∧ R c Z v d
  | [], _, _, _, h, e => by cases h; simp at e
  | _ :: _, _, 0, _, h, e => by
    cases h with
    | cons h1 h2 => simp at e; subst e; exact ⟨_, rfl, h1⟩
  | _ :: _, _, i + 1, v, h, e => by
    cases h with
    | cons h1 h2 =>
      obtain ⟨d, e1, r⟩ := Rs.getV (i := i) (v := v) h2 (by simpa using e)
      exact ⟨d, by simpa using e1, r⟩
theorem Rs.append : ∀ {ds es : List D} {vs ws : List V}, Rs c Z vs ds → Rs c Z ws es → Rs c Z (vs ++ ws) (ds ++ es)
  | [], _, _, _, h, q => by cases h; exact q
  | _ :: _, _, _, _, h, q => by
    cases h with
    | cons h1 h2 => exact .cons h1 (Rs.append h2 q)
theorem Rs.take : ∀ {ds : List D} {vs : List V} (n : Nat), Rs c Z vs ds → Rs c Z (vs.take n) (ds.take n)
  | _, _, 0, _ => by simp; exact .nil
  | [], _, _ + 1, h => by cases h; exact .nil
  | _ :: _, _, n + 1, h => by
    cases h with
    | cons h1 h2 => exact .cons h1 (Rs.take n h2)
theorem Rs.drop : ∀ {ds : List D} {vs : List V} (n : Nat), Rs c Z vs ds → Rs c Z (vs.drop n) (ds.drop n)
  | _, _, 0, h => by simpa using h
  | [], _, _ + 1, h => by cases h; exact .nil
  | _ :: _, _, n + 1, h => by
    cases h with
    | cons h1 h2 => exact Rs.drop n h2
theorem Rs.set : ∀ {ds : List D} {vs : List V} (n : Nat) {v : V} {d : D}, Rs c Z vs ds → R c Z v d → Rs c Z (vs.set n v) (ds.set n d)
  | [], _, _, _, _, h, _ => by cases h; exact .nil
  | _ :: _, _, 0, _, _, h, q => by
    cases h with
    | cons h1 h2 => exact .cons q h2
  | _ :: _, _, n + 1, _, _, h, q => by
    cases h with
    | cons h1 h2 => exact .cons h1 (Rs.set n h2 q)
theorem Rs.rep {ds : List D} {vs : List V} (h : Rs c Z vs ds) : ∀ n : Nat, Rs c Z (List.replicate n vs).flatten (List.replicate n ds).flatten
  | 0 => .nil
  | n + 1 => by
    rw [List.replicate_succ (n := n), (List.flatten_cons)]
    rw [List.replicate_succ (n := n), (List.flatten_cons)]
    exact Rs.append h (Rs.rep h n)
theorem Rs.ints : ∀ (ns : List Int), Rs c Z (ns.map V.int) (ns.map D.int)
  | [] => .nil
  | i :: ns => .cons (.int i) (Rs.ints ns)
theorem Rs.of_ints : ∀ {ns : List Int} {vs : List V}, Rs c Z vs (ns.map D.int) → vs = ns.map V.int
  | [], _, h => by cases h; rfl
  | i :: ns, _, h => by
    cases h with
    | cons h1 h2 =>
      cases h1
      rw [Rs.of_ints h2] <;> rfl
end
end Mo

namespace Mo
open PySem L2

def RV (c : Kx) (ρ : List Addr) (Z : Hp) (v : V) : Vl → Prop
  | .d x => R c Z v x
  | .c k => ∃ a, v = .ref a ∧ ρ[k]? = some a
def RVs (c : Kx) (ρ : List Addr) (Z : Hp) : List V → List Vl → Prop
  | [], [] => True
  | v :: vs, x :: xs => RV c ρ Z v x ∧ RVs c ρ Z vs xs
  | _, _ => False
def RVf (c : Kx) (ρ : List Addr) (Z : Hp) : List Str → List (Str × V) → List Vl → Prop
  | [], _, [] => True
  | n :: ns, fs, x :: xs => (x = .d .no ∨ ∃ v, fs.lookup n = some v ∧ RV c ρ Z v x) ∧ RVf c ρ Z ns fs xs
  | _, _, _ => False
def isNo : Vl → Bool
  | .d .no => true
  | _ => false
def cnt : List Vl → Nat
  | [] => 0
  | x :: xs => (if isNo x then 0 else 1) + cnt xs
theorem cnt_le : ∀ xs : List Vl, cnt xs ≤ xs.length
  | [] => Nat.le_refl _
  | x :: xs => by
    have h := cnt_le xs
    show (if isNo x then 0 else 1) + cnt xs ≤ xs.length + 1
    split <;> omega
def CellOk (c : Kx) (ρ : List Addr) (Z H : Hp) (a : Addr) : Ob → Prop
  | .lst xs => ∃ vs, H a = some (.lst vs) ∧ Rs c Z vs xs
  | .lsc xs => ∃ vs, H a = some (.lst vs) ∧ RVs c ρ Z vs xs
  | .ins k xs => ∃ dx fs, H a = some (.ins (c.C k) dx fs) ∧ RVf c ρ Z (c.F k) fs xs ∧ fs.length ≤ cnt xs ∧ Wi (c.F k) fs
def lowV (b : Nat) : Vl → Prop
  | .d _ => True
  | .c k => k < b
def lowOb (b : Nat) : Ob → Prop
  | .lst _ => True
  | .lsc xs => ∀ x ∈ xs, lowV b x
  | .ins _ xs => ∀ x ∈ xs, lowV b x
structure Rel (c : Kx) (B : List Nat) (ρ : List Addr) (Z H : Hp) (M : Store) : Prop where
  zh : Sub Z H
  len : ρ.length = M.length
  nd : ρ.Nodup
  there : ∀ a ∈ ρ, H a ≠ none
  cel : ∀ (k : Nat) (o : Ob) (a : Addr), M[k]? = some (some o) → ρ[k]? = some a → Z a = none ∧ CellOk c ρ Z H a o
  ble : ∀ b ∈ B, b ≤ M.length
  low : ∀ b ∈ B, ∀ (k : Nat) (o : Ob), k < b → M[k]? = some (some o) → lowOb b o
structure RelS (c : Kx) (ρ : List Addr) (Z : Hp) (σ : L2.St) (env : En) : Prop where
  len : env.length = σ.length
  at_ : ∀ (i : Nat) (x : Vl), env[i]? = some (some x) → ∃ v, σ[i]? = some (some v) ∧ RV c ρ Z v x
structure Ext (ρ : List Addr) (Z : Hp) (ρ' : List Addr) (Z' : Hp) : Prop where
  p : ∃ τ, ρ' = ρ ++ τ
  z : Sub Z Z'
theorem Ext.refl (ρ : List Addr) (Z : Hp) : Ext ρ Z ρ Z := ⟨⟨[], by simp⟩, Sub.refl _⟩
theorem Ext.trans {ρ ρ1 ρ2 : List Addr} {Z Z1 Z2 : Hp} (a : Ext ρ Z ρ1 Z1) (b : Ext ρ1 Z1 ρ2 Z2) : Ext ρ Z ρ2 Z2 := by
  obtain ⟨⟨t1, e1⟩, z1⟩ := a
  obtain ⟨⟨t2, e2⟩, z2⟩ := b
  exact ⟨⟨t1 ++ t2, by rw [e2, e1, List.append_assoc]⟩, z1.trans z2⟩
section
variable {c : Kx} {B : List Nat} {b : Nat} {ρ ρ' : List Addr} {Z Z' H H' : Hp} {M : Store} {σ : L2.St} {env : En}
theorem Ext.get (e : Ext ρ Z ρ' Z') {k : Nat} {a : Addr} (h : ρ[k]? = some a) : ρ'[k]? = some a := by
  obtain ⟨⟨t, rfl⟩, _⟩ := e
  have hk := (List.getElem?_eq_some_iff.mp h).1
  rw [List.getElem?_append_left hk]
  exact h
theorem RV.up {v : V} {x : Vl} (h : RV c ρ Z v x) (e : Ext ρ Z ρ' Z') : RV c ρ' Z' v x := by
  cases x with
  | d x => exact R.up h e.z
  | c k =>
    obtain ⟨a, h1, h2⟩ := h
    exact ⟨a, h1, e.get h2⟩
theorem RVs.up (e : Ext ρ Z ρ' Z') : ∀ {vs : List V} {xs : List Vl}, RVs c ρ Z vs xs → RVs c ρ' Z' vs xs
  | [], [], _ => trivial
  | _ :: _, _ :: _, h => ⟨RV.up h.1 e, RVs.up e h.2⟩
  | [], _ :: _, h => h.elim
  | _ :: _, [], h => h.elim
theorem RVf.up (e : Ext ρ Z ρ' Z') : ∀ {ns : List Str} {fs : List (Str × V)} {xs : List Vl}, RVf c ρ Z ns fs xs → RVf c ρ' Z' ns fs xs
  | [], _, [], _ => trivial
  | _ :: _, _, _ :: _, h => ⟨h.1.imp id fun ⟨v, a, b⟩ => ⟨v, a, RV.up b e⟩, RVf.up e h.2⟩
  | [], _, _ :: _, h => h.elim
  | _ :: _, _, [], h => h.elim
theorem CellOk.up {a : Addr} {o : Ob} (h : CellOk c ρ Z H a o) (e : Ext ρ Z ρ' Z') (hh : H' a = H a) : CellOk c ρ' Z' H' a o := by
  cases o with
  | lst xs =>
    obtain ⟨vs, h1, h2⟩ := h
    exact ⟨vs, hh.trans h1, h2.up e.z⟩
  | lsc xs =>
    obtain ⟨vs, h1, h2⟩ := h
    exact ⟨vs, hh.trans h1, RVs.up e h2⟩
  | ins k xs =>
    obtain ⟨dx, fs, h1, h2, h3⟩ := h
    exact ⟨dx, fs, hh.trans h1, RVf.up e h2, h3⟩
theorem RelS.up (h : RelS c ρ Z σ env) (e : Ext ρ Z ρ' Z') : RelS c ρ' Z' σ env :=
  ⟨h.len, fun i x q => let ⟨v, h1, h2⟩ := h.at_ i x q; ⟨v, h1, h2.up e⟩⟩
theorem RelS.set (h : RelS c ρ Z σ env) {i : Nat} {v : V} {x : Vl} (r : RV c ρ Z v x) : RelS c ρ Z (σ.set i (some v)) (env.set i (some x)) := by
  refine ⟨by simp [h.len], fun j y q => ?_⟩
  by_cases hj : i = j
  · subst hj
    by_cases hi : i < env.length
    · rw [List.getElem?_set_self hi] at q
      cases q
      exact ⟨v, List.getElem?_set_self (by rw [← h.len]; exact hi), r⟩
    · rw [List.getElem?_eq_none (by simpa using hi)] at q
      cases q
  · rw [List.getElem?_set_ne hj] at q
    obtain ⟨w, h1, h2⟩ := h.at_ j y q
    exact ⟨w, by rw [List.getElem?_set_ne hj]; exact h1, h2⟩
/-- forgetting a slot -/
theorem RelS.kill (h : RelS c ρ Z σ env) (i : Nat) : RelS c ρ Z σ (env.set i none) := by
  refine ⟨by simp [h.len], fun j y q => ?_⟩
  by_cases hj : i = j
  · subst hj
    by_cases hi : i < env.length
    · rw [List.getElem?_set_self hi] at q
      cases q
    · rw [List.getElem?_eq_none (by simpa using hi)] at q
      cases q
  · rw [List.getElem?_set_ne hj] at q
    exact h.at_ j y q
theorem RelS.setV (h : RelS c ρ Z σ env) {i : Nat} (v : V) : RelS c ρ Z (σ.set i (some v)) (env.set i none) := by
  refine ⟨by simp [h.len], fun j y q => ?_⟩
  by_cases hj : i = j
  · subst hj
    by_cases hi : i < env.length
    · rw [List.getElem?_set_self hi] at q
      cases q
    · rw [List.getElem?_eq_none (by simpa using hi)] at q
      cases q
  · rw [List.getElem?_set_ne hj] at q
    obtain ⟨w, h1, h2⟩ := h.at_ j y q
    exact ⟨w, by rw [List.getElem?_set_ne hj]; exact h1, h2⟩
theorem upd_sub {p : Addr} {o : HO} (h : H p = none) : Sub H (upd H p o) := fun a u e => by
  rw [upd_ne (ne_of_none e h)]
  exact e
theorem Rel.lt (r : Rel c B ρ Z H M) {k : Nat} {a : Addr} (h : ρ[k]? = some a) : k < M.length := by
  rw [← r.len]
  exact ((List.getElem?_eq_some_iff).mp h).1
theorem Rel.addr (r : Rel c B ρ Z H M) {k : Nat} {o : Option Ob} (h : M[k]? = some o) : ∃ a, ρ[k]? = some a := by
  have hk := (List.getElem?_eq_some_iff.mp h).1
  rw [← r.len] at hk
  exact ⟨ρ[k], by simp [hk]⟩
theorem Rel.zfree (r : Rel c B ρ Z H M) {p : Addr} (h : H p = none) : Z p = none := by
  cases e : Z p with
  | none => rfl
  | some o => rw [r.zh _ _ e] at h; cases h
/-- a new frozen object -/
theorem Rel.frz (r : Rel c B ρ Z H M) {p : Addr} (hp : H p = none) (o : HO) : Rel c B ρ (upd Z p o) (upd H p o) M ∧ Ext ρ Z ρ (upd Z p o) := by
  have hz := r.zfree hp
  have e : Ext ρ Z ρ (upd Z p o) := ⟨⟨[], by simp⟩, upd_sub hz⟩
  refine ⟨⟨fun a u q => ?_, r.len, r.nd, fun a ha q => ?_, fun k ob a h1 h2 => ?_, r.ble, r.low⟩, e⟩
  · by_cases h : a = p
    · subst h; rw [upd_same] at q ⊢; exact q
    · rw [upd_ne h] at q ⊢; exact r.zh _ _ q
  · by_cases h : a = p
    · subst h; rw [upd_same] at q; cases q
    · rw [upd_ne h] at q; exact r.there a ha q
  · obtain ⟨z, ok⟩ := r.cel k ob a h1 h2
    have ne : a ≠ p := fun z => r.there a (List.mem_of_getElem? h2) (by rw [z]; exact hp)
    exact ⟨by rw [upd_ne ne]; exact z, ok.up e (upd_ne ne)⟩
/-- a new object that may be written -/
theorem Rel.new (r : Rel c B ρ Z H M) {p : Addr} (hp : H p = none) {H' : Hp} (hs : Sub H H') (ht : H' p ≠ none) {ob : Ob} (ok : CellOk c (ρ ++ [p]) Z H' p ob) :
    Rel c B (ρ ++ [p]) Z H' (M ++ [some ob]) ∧ Ext ρ Z (ρ ++ [p]) Z := by
  have e : Ext ρ Z (ρ ++ [p]) Z := ⟨⟨[p], rfl⟩, Sub.refl _⟩
  refine ⟨⟨r.zh.trans hs, by simp [r.len], ?_, fun a ha q => ?_, fun k o a h1 h2 => ?_, fun b hb => ?_, fun b hb k o hk h => ?_⟩, e⟩
  · rw [List.nodup_append]
    refine ⟨r.nd, by simp, fun x hx y hy => ?_⟩
    have : y = p := by simpa using hy
    subst this
    rintro rfl
    exact r.there _ hx hp
  · rcases (List.mem_append).mp ha with ha | ha
    · cases z : H a with
      | none => exact r.there a ha z
      | some u => rw [hs _ _ z] at q; cases q
    · have : a = p := by simpa using ha
      subst this
      exact ht q
  · by_cases hk : k < ρ.length
    · rw [List.getElem?_append_left hk] at h2
      rw [List.getElem?_append_left (by rw [← r.len]; exact hk)] at h1
      obtain ⟨z, ok1⟩ := r.cel k o a h1 h2
      refine ⟨z, ok1.up e ?_⟩
      cases w : H a with
      | none => exact absurd w (r.there a (List.mem_of_getElem? h2))
      | some u => exact hs _ _ w
    · have hk2 := (List.getElem?_eq_some_iff.mp h2).1
      have : k = ρ.length := by
        have : (ρ ++ [p]).length = ρ.length + 1 := by simp
        omega
      subst this
      have e1 : a = p := by simpa using h2.symm
      have e2 : o = ob := by
        rw [r.len] at h1
        simpa using h1.symm
      subst e1; subst e2
      exact ⟨r.zfree hp, ok⟩
  · have := r.ble b hb
    simp; omega
  · refine r.low b hb k o hk ?_
    rw [List.getElem?_append_left (by have := r.ble b hb; omega)] at h
    exact h
/-- a cell is written -/
theorem Rel.wr (r : Rel c B ρ Z H M) {k : Nat} {a : Addr} {o : HO} {ob ob0 : Ob} (h0 : M[k]? = some (some ob0)) (ha : ρ[k]? = some a)
    (ok : CellOk c ρ Z (upd H a o) a ob) (lo : ∀ b ∈ B, k < b → lowOb b ob) : Rel c B ρ Z (upd H a o) (M.set k (some ob)) := by
  have za := (r.cel k ob0 a h0 ha).1
  have hkl : k < M.length := (List.getElem?_eq_some_iff.mp h0).1
  refine ⟨fun x u q => ?_, by simp [r.len], r.nd, fun x hx q => ?_, fun j o' x h1 h2 => ?_, by simpa using r.ble, fun b hb j o' hj h => ?_⟩
  · have ne : x ≠ a := fun z => by subst z; rw [za] at q; cases q
    rw [upd_ne ne]
    exact r.zh _ _ q
  · by_cases h : x = a
    · subst h; rw [upd_same] at q; cases q
    · rw [upd_ne h] at q; exact r.there x hx q
  · by_cases hj : k = j
    · subst hj
      rw [List.getElem?_set_self hkl] at h1
      cases h1
      rw [ha] at h2
      cases h2
      exact ⟨za, ok⟩
    · rw [List.getElem?_set_ne hj] at h1
      obtain ⟨z, ok1⟩ := r.cel j o' x h1 h2
      have ne : x ≠ a := fun z => hj (nd_ix r.nd ha (by rw [← z]; exact h2))
      exact ⟨z, ok1.up (Ext.refl _ _) (upd_ne ne)⟩
  · by_cases hj2 : k = j
    · subst hj2
      rw [List.getElem?_set_self hkl] at h
      cases h
      exact lo b hb hj
    · rw [List.getElem?_set_ne hj2] at h
      exact r.low b hb j o' hj h
/-- a cell is frozen -/
theorem Rel.freeze (r : Rel c B ρ Z H M) {k : Nat} {a : Addr} {ob0 : Ob} {o : HO} (h0 : M[k]? = some (some ob0)) (ha : ρ[k]? = some a) (hh : H a = some o) :
    Rel c B ρ (upd Z a o) H (M.set k none) ∧ Ext ρ Z ρ (upd Z a o) := by
  have za := (r.cel k ob0 a h0 ha).1
  have e : Ext ρ Z ρ (upd Z a o) := ⟨⟨[], by simp⟩, upd_sub za⟩
  have hkl : k < M.length := (List.getElem?_eq_some_iff.mp h0).1
  refine ⟨⟨fun x u q => ?_, by simp [r.len], r.nd, r.there, fun j o' x h1 h2 => ?_, by simpa using r.ble, fun b hb j o' hj h => ?_⟩, e⟩
  · by_cases h : x = a
    · subst h; rw [upd_same] at q; rw [hh]; exact q
    · rw [upd_ne h] at q; exact r.zh _ _ q
  · by_cases hj : k = j
    · subst hj
      rw [List.getElem?_set_self hkl] at h1
      cases h1
    · rw [List.getElem?_set_ne hj] at h1
      obtain ⟨z, ok1⟩ := r.cel j o' x h1 h2
      have ne : x ≠ a := fun z => hj (nd_ix r.nd ha (by rw [← z]; exact h2))
      exact ⟨by rw [upd_ne ne]; exact z, ok1.up e rfl⟩
  · by_cases hj2 : k = j
    · subst hj2
      rw [List.getElem?_set_self hkl] at h
      cases h
    · rw [List.getElem?_set_ne hj2] at h
      exact r.low b hb j o' hj h
/-- untracked growth -/
theorem Rel.grow (r : Rel c B ρ Z H M) (hs : Sub H H') : Rel c B ρ Z H' M := by
  refine ⟨r.zh.trans hs, r.len, r.nd, fun a ha q => ?_, fun k o a h1 h2 => ?_, r.ble, r.low⟩
  · cases z : H a with
    | none => exact r.there a ha z
    | some u => rw [hs _ _ z] at q; cases q
  · obtain ⟨z, ok⟩ := r.cel k o a h1 h2
    refine ⟨z, ok.up (Ext.refl _ _) ?_⟩
    cases w : H a with
    | none => exact absurd w (r.there a (List.mem_of_getElem? h2))
    | some u => exact hs _ _ w
theorem low_up {b b' : Nat} (h : b ≤ b') : ∀ {x : Vl}, lowV b x → lowV b' x
  | .d _, _ => trivial
  | .c _, q => Nat.lt_of_lt_of_le q h
theorem rv_low (hl : ∀ k a, ρ[k]? = some a → k < b) {v : V} : ∀ {x : Vl}, RV c ρ Z v x → lowV b x
  | .d _, _ => trivial
  | .c k, ⟨a, _, h⟩ => hl k a h
theorem rvs_low (hl : ∀ k a, ρ[k]? = some a → k < b) : ∀ {vs : List V} {xs : List Vl}, RVs c ρ Z vs xs → ∀ x ∈ xs, lowV b x
  | [], [], _, _, h => by cases h
  | _ :: _, y :: ys, h, x, hx => by
    rcases List.mem_cons.mp hx with e | e
    · subst e; exact rv_low hl h.1
    · exact rvs_low hl h.2 x e
  | [], _ :: _, h, _, _ => h.elim
  | _ :: _, [], h, _, _ => h.elim
theorem rvf_low (hl : ∀ k a, ρ[k]? = some a → k < b) : ∀ {ns : List Str} {fs : List (Str × V)} {xs : List Vl}, RVf c ρ Z ns fs xs → ∀ x ∈ xs, lowV b x
  | [], _, [], _, _, h => by cases h
  | _ :: _, _, y :: ys, h, x, hx => by
    rcases List.mem_cons.mp hx with e | e
    · subst e
      rcases h.1 with q | ⟨v, _, q⟩
      · rw [q]; trivial
      · exact rv_low hl q
    · exact rvf_low hl h.2 x e
  | [], _, _ :: _, h, _, _ => h.elim
  | _ :: _, _, [], h, _, _ => h.elim
theorem cell_low (hl : ∀ k a, ρ[k]? = some a → k < b) {a : Addr} : ∀ {o : Ob}, CellOk c ρ Z H a o → lowOb b o
  | .lst _, _ => trivial
  | .lsc _, ⟨_, _, h⟩ => rvs_low hl h
  | .ins _ _, ⟨_, _, _, h, _⟩ => rvf_low hl h
/-- a new base at the top -/
theorem Rel.rebase (r : Rel c B ρ Z H M) : Rel c (M.length :: B) ρ Z H M := by
  refine ⟨r.zh, r.len, r.nd, r.there, r.cel, fun b hb => ?_, fun b hb k o hk h => ?_⟩
  · rcases List.mem_cons.mp hb with e | e
    · subst e; exact Nat.le_refl _
    · exact r.ble b e
  · rcases List.mem_cons.mp hb with e | e
    · subst e
      obtain ⟨a, ha⟩ := r.addr h
      exact cell_low (fun j x q => r.lt q) (r.cel k o a h ha).2
    · exact r.low b e k o hk h
theorem rv_cut {n : Nat} {v : V} : ∀ {x : Vl}, RV c ρ Z v x → lowV n x → RV c (ρ.take n) Z v x
  | .d _, h, _ => h
  | .c k, ⟨a, h1, h2⟩, hk => ⟨a, h1, by rw [List.getElem?_take_of_lt hk]; exact h2⟩
theorem rvs_cut {n : Nat} : ∀ {vs : List V} {xs : List Vl}, RVs c ρ Z vs xs → (∀ x ∈ xs, lowV n x) → RVs c (ρ.take n) Z vs xs
  | [], [], _, _ => trivial
  | _ :: _, _ :: _, h, l => ⟨rv_cut h.1 (l _ (List.mem_cons_self ..)), rvs_cut h.2 fun x hx => l x (List.mem_cons_of_mem _ hx)⟩
  | [], _ :: _, h, _ => h.elim
  | _ :: _, [], h, _ => h.elim
theorem rvf_cut {n : Nat} : ∀ {ns : List Str} {fs : List (Str × V)} {xs : List Vl}, RVf c ρ Z ns fs xs → (∀ x ∈ xs, lowV n x) → RVf c (ρ.take n) Z ns fs xs
  | [], _, [], _, _ => trivial
  | _ :: _, _, _ :: _, h, l => ⟨h.1.imp id fun ⟨v, a, q⟩ => ⟨v, a, rv_cut q (l _ (List.mem_cons_self ..))⟩, rvf_cut h.2 fun x hx => l x (List.mem_cons_of_mem _ hx)⟩
  | [], _, _ :: _, h, _ => h.elim
  | _ :: _, _, [], h, _ => h.elim
theorem cell_cut {n : Nat} {a : Addr} : ∀ {o : Ob}, CellOk c ρ Z H a o → lowOb n o → CellOk c (ρ.take n) Z H a o
  | .lst _, h, _ => h
  | .lsc _, ⟨vs, h1, h2⟩, l => ⟨vs, h1, rvs_cut h2 l⟩
  | .ins _ _, ⟨dx, fs, h1, h2, h3⟩, l => ⟨dx, fs, h1, rvf_cut h2 l, h3⟩
/-- behind a call: what stands above the base is forgotten -/
theorem Rel.cut (r : Rel c (b :: B) ρ Z H M) (hb : ∀ b' ∈ B, b' ≤ b) : Rel c B (ρ.take b) Z H (M.take b) := by
  refine ⟨r.zh, by simp [r.len], r.nd.sublist (List.take_sublist _ _), fun a ha => r.there a (List.mem_of_mem_take ha), fun k o a h1 h2 => ?_, fun b' h' => ?_, fun b' h' k o hk h => ?_⟩
  · have hk : k < b := by
      have := (List.getElem?_eq_some_iff.mp h1).1
      rw [List.length_take] at this
      omega
    rw [List.getElem?_take_of_lt hk] at h1 h2
    obtain ⟨z, ok⟩ := r.cel k o a h1 h2
    exact ⟨z, cell_cut ok (r.low b (List.mem_cons_self ..) k o hk h1)⟩
  · have h1 := r.ble b (List.mem_cons_self ..)
    have h2 := hb b' h'
    rw [List.length_take]
    omega
  · have h2 := hb b' h'
    rw [List.getElem?_take_of_lt (by omega)] at h
    exact r.low b' (List.mem_cons_of_mem _ h') k o hk h
end
end Mo

namespace Mo
open PySem L2

/-! ### judgements: an expression's evaluator is what its reading says -/
structure At (c : Kx) (b : Nat) (B : List Nat) (ρ : List Addr) (Z : Hp) (M : Store) (env : En) (σ : L2.St) (H : Hp) : Prop where
  rel : Rel c B ρ Z H M
  sl : RelS c ρ Z σ env
  hb : ∀ b' ∈ B, b' ≤ b
abbrev EvX (α : Type) := Nat → En → Store → Res Ex (α × Store)
/-- what is wanted behind an evaluation -/
def Po {α β : Type} (c : Kx) (W : WX) (B : List Nat) (σ : L2.St) (rel : List Addr → Hp → β → α → Prop) (ρ : List Addr) (Z : Hp) (Q : β → Hp → Prop) : Res Ex (α × Store) → Prop
  | .ok (x, M) => ∀ v ρ' Z' H', Ext ρ Z ρ' Z' → Rel c B ρ' Z' H' M → rel ρ' Z' v x → Q v H'
  | .exc e => ∀ ρ' Z' H' a xs, Ext ρ Z ρ' Z' → Rel c B ρ' Z' H' e.M → H' a = some (.xd xs) → Rf c Z' (c.F e.c) xs e.fs → W (.ref (c.C e.c)) (some a) σ H'
  | .bad => False
def tGP {α β : Type} (c : Kx) (W : WX) (rel : List Addr → Hp → β → α → Prop) (e : EvX α) (P : List Addr → Hp → Prop) (σ : L2.St) (H : Hp) (Q : β → Hp → Prop) : Prop :=
  ∃ b B ρ Z M env, At c b B ρ Z M env σ H ∧ P ρ Z ∧ Po c W B σ rel ρ Z Q (e b env M)
def tG {α β : Type} (c : Kx) (W : WX) (rel : List Addr → Hp → β → α → Prop) (e : EvX α) (σ : L2.St) (H : Hp) (Q : β → Hp → Prop) : Prop :=
  ∃ b B ρ Z M env, At c b B ρ Z M env σ H ∧ Po c W B σ rel ρ Z Q (e b env M)
def relB : List Addr → Hp → Bool → Bool → Prop := fun _ _ x y => x = y
def tE (c : Kx) (W : WX) (e : EvE) : TE := tG c W (RV c) e
def tT (c : Kx) (W : WX) (e : EvT) : TT := tG c W relB e
def tAr (c : Kx) (W : WX) (e : EvA) : TA := tG c W (RVs c) e
section
variable {c : Kx} {W : WX} {σ : L2.St} {H : Hp} {X : Cx}
theorem Po.ext {α β : Type} {B : List Nat} {rel : List Addr → Hp → β → α → Prop} {ρ ρ1 : List Addr} {Z Z1 : Hp} {Q : β → Hp → Prop} {r : Res Ex (α × Store)} (h : Po c W B σ rel ρ Z Q r) (e : Ext ρ Z ρ1 Z1) : Po c W B σ rel ρ1 Z1 Q r := by
  cases r with
  | ok x => exact fun v ρ' Z' H' e' => h v ρ' Z' H' (e.trans e')
  | exc x => exact fun ρ' Z' H' a xs e' => h ρ' Z' H' a xs (e.trans e')
  | bad => exact h
theorem Po.mono {α β : Type} {B : List Nat} {rel : List Addr → Hp → β → α → Prop} {ρ : List Addr} {Z : Hp} {Q Q' : β → Hp → Prop} {r : Res Ex (α × Store)} (h : Po c W B σ rel ρ Z Q r) (hq : ∀ v H, Q v H → Q' v H) : Po c W B σ rel ρ Z Q' r := by
  cases r with
  | ok x => exact fun v ρ' Z' H' e' r' q => hq _ _ (h v ρ' Z' H' e' r' q)
  | exc x => exact h
  | bad => exact h
theorem tG.mono {α β : Type} {rel : List Addr → Hp → β → α → Prop} {e : EvX α} {Q Q' : β → Hp → Prop} (h : tG c W rel e σ H Q) (hq : ∀ v H, Q v H → Q' v H) : tG c W rel e σ H Q' := by
  obtain ⟨b, B, ρ, Z, M, env, a, p⟩ := h
  exact ⟨b, B, ρ, Z, M, env, a, p.mono hq⟩
def Mono (P : List Addr → Hp → Prop) : Prop := ∀ ρ Z ρ' Z', Ext ρ Z ρ' Z' → P ρ Z → P ρ' Z'
theorem Mono.rv {v : V} {x : Vl} : Mono fun ρ Z => RV c ρ Z v x := fun _ _ _ _ e h => h.up e
theorem Mono.rvs {v : List V} {x : List Vl} : Mono fun ρ Z => RVs c ρ Z v x := fun _ _ _ _ e h => RVs.up e h
theorem Mono.and {P P' : List Addr → Hp → Prop} (h : Mono P) (h' : Mono P') : Mono fun ρ Z => P ρ Z ∧ P' ρ Z := fun _ _ _ _ e q => ⟨h _ _ _ _ e q.1, h' _ _ _ _ e q.2⟩
theorem Mono.tr : Mono fun _ _ => True := fun _ _ _ _ _ _ => trivial
/-- THE STEP: e, then k -/
theorem tGP.bind {α β γ δ : Type} {rel : List Addr → Hp → β → α → Prop} {rel' : List Addr → Hp → δ → γ → Prop} {e : EvX α} {k : α → EvX γ} {P : List Addr → Hp → Prop} {Q : δ → Hp → Prop} (mp : Mono P)
    (h : tGP c W rel' (fun b env M => (e b env M).bind fun r => k r.1 b env r.2) P σ H Q) : tG c W rel e σ H fun y H1 => ∃ x, tGP c W rel' (k x) (fun ρ Z => P ρ Z ∧ rel ρ Z y x) σ H1 Q := by
  obtain ⟨b, B, ρ, Z, M, env, a, p, po⟩ := h
  refine ⟨b, B, ρ, Z, M, env, a, ?_⟩
  dsimp only at po
  cases q : e b env M with
  | ok r =>
    rw [q] at po
    exact fun v ρ' Z' H' e' r' rv => ⟨r.1, b, B, ρ', Z', r.2, env, ⟨r', a.sl.up e', a.hb⟩, ⟨mp _ _ _ _ e' p, rv⟩, Po.ext po e'⟩
  | exc x => rw [q] at po; exact po
  | bad => rw [q] at po; exact po
theorem tG.bind {α β γ δ : Type} {rel : List Addr → Hp → β → α → Prop} {rel' : List Addr → Hp → δ → γ → Prop} {e : EvX α} {k : α → EvX γ} {Q : δ → Hp → Prop}
    (h : tG c W rel' (fun b env M => (e b env M).bind fun r => k r.1 b env r.2) σ H Q) : tG c W rel e σ H fun y H1 => ∃ x, tGP c W rel' (k x) (fun ρ Z => rel ρ Z y x) σ H1 Q := by
  obtain ⟨b, B, ρ, Z, M, env, a, po⟩ := h
  refine tG.mono (tGP.bind (P := fun _ _ => True) Mono.tr ⟨b, B, ρ, Z, M, env, a, trivial, po⟩) fun y H1 ⟨x, b, B, ρ, Z, M, env, a, p, po⟩ => ⟨x, b, B, ρ, Z, M, env, a, p.2, po⟩
theorem PE.weak {e : Expr} {t t' : TE} (h : PE X e t) (w : ∀ σ H Q, t' σ H Q → t σ H Q) : PE X e t' := ⟨fun pins s σ H Q I q => h.run pins s σ H Q I (w σ H Q q)⟩
theorem PT.weak {e : Expr} {t t' : TT} (h : PT X e t) (w : ∀ σ H Q, t' σ H Q → t σ H Q) : PT X e t' := ⟨fun pins s σ H Q I q => h.run pins s σ H Q I (w σ H Q q)⟩
theorem PW.weak {e : Expr} {t t' : TT} (h : PW X e t) (w : ∀ σ H Q, t' σ H Q → t σ H Q) : PW X e t' := ⟨fun wh pins s σ H Q I q => h.run wh pins s σ H Q I (w σ H Q q)⟩
theorem PA.weak {e : List Expr} {t t' : TA} (h : PA X e t) (w : ∀ σ H Q, t' σ H Q → t σ H Q) : PA X e t' := ⟨fun pos pins s σ H Q I q => h.run pos pins s σ H Q I (w σ H Q q)⟩
theorem PS.weak {e : Stmt} {t t' : TS} (h : PS X e t) (w : ∀ D σ H, t' D σ H → t D σ H) : PS X e t' := ⟨fun pins s σ H D I q => h.run pins s σ H D I (w D σ H q)⟩
theorem PSs.weak {e : List Stmt} {t t' : TS} (h : PSs X e t) (w : ∀ D σ H, t' D σ H → t D σ H) : PSs X e t' := ⟨fun pins s σ H D I q => h.run pins s σ H D I (w D σ H q)⟩
theorem OpR.weak {f : Value → Value → Sem Value} {r r' : R2} (h : OpR X f r) (w : ∀ x y H Q, r' x y H Q → r x y H Q) : OpR X f r' := fun pins s σ H x y v u Q I rx ry q => h pins s σ H x y v u Q I rx ry (w _ _ _ _ q)

theorem R.int_inv {Z : Hp} {v : V} {i : Int} (h : R c Z v (.int i)) : v = .int i := by cases h; rfl
theorem R.bl_inv {Z : Hp} {v : V} {i : Bool} (h : R c Z v (.bl i)) : v = .bl i := by cases h; rfl
theorem R.str_inv {Z : Hp} {v : V} {i : Str} (h : R c Z v (.str i)) : v = .str i := by cases h; rfl
theorem R.non_inv {Z : Hp} {v : V} (h : R c Z v .non) : v = .non := by cases h; rfl

/-! ### names, constants -/
def eVar (i : Nat) : EvE := fun _ env M => match env[i]? with
  | some (some x) => .ok (x, M)
  | _ => .bad
def eC (d : D) : EvE := fun _ _ M => .ok (.d d, M)
theorem d_var {i : Nat} {e : Expr} (h : PE X e (tVar i)) : PE X e (tE c W (eVar i)) := PE.weak h fun σ H Q ⟨b, B, ρ, Z, M, env, a, po⟩ => by
  unfold eVar at po
  split at po
  · rename_i x hx
    obtain ⟨v, h1, h2⟩ := a.sl.at_ i x hx
    exact ⟨v, h1, po v ρ Z H (Ext.refl _ _) a.rel h2⟩
  · exact po.elim
theorem d_c {v : V} {d : D} {e : Expr} (h : PE X e (tC v)) (r : ∀ Z, R c Z v d) : PE X e (tE c W (eC d)) := PE.weak h fun σ H Q ⟨b, B, ρ, Z, M, env, a, po⟩ =>
  po v ρ Z H (Ext.refl _ _) a.rel (r Z)

/-! ### operators -/
abbrev Op1 := Vl → Store → Option (Vl × Store)
abbrev Op2 := Vl → Vl → Store → Option (Vl × Store)
def PoO (c : Kx) (B : List Nat) (ρ : List Addr) (Z : Hp) (Q : VK) : Option (Vl × Store) → Prop
  | some (x, M) => ∀ v ρ' Z' H', Ext ρ Z ρ' Z' → Rel c B ρ' Z' H' M → RV c ρ' Z' v x → Q v H'
  | none => False
theorem PoO.of {B : List Nat} {ρ : List Addr} {Z : Hp} {Q : VK} {o : Option (Vl × Store)} (h : Po c W B σ (RV c) ρ Z Q (Res.opt o)) : PoO c B ρ Z Q o := by
  cases o with
  | none => exact h
  | some x => exact h
def tO (c : Kx) (r : Op2) : R2 := fun x y H Q => ∃ B ρ Z M dx dy, Rel c B ρ Z H M ∧ RV c ρ Z x dx ∧ RV c ρ Z y dy ∧ PoO c B ρ Z Q (r dx dy M)
def tU (c : Kx) (r : Op1) : V → Hp → VK → Prop := fun x H Q => ∃ B ρ Z M dx, Rel c B ρ Z H M ∧ RV c ρ Z x dx ∧ PoO c B ρ Z Q (r dx M)
def eOp (r : Op2) (ea eb : EvE) : EvE := fun b env M => (ea b env M).bind fun q => (eb b env q.2).bind fun u => Res.opt (r q.1 u.1 u.2)
def eUn (r : Op1) (ea : EvE) : EvE := fun b env M => (ea b env M).bind fun q => Res.opt (r q.1 q.2)
theorem rd_op {r : Op2} {ia ib : EvE} {Q : VK} (h : tE c W (eOp r ia ib) σ H Q) : tOp (tO c r) (tE c W ia) (tE c W ib) σ H Q := by
  refine tG.mono (tG.bind (k := fun x b env M => (ib b env M).bind fun u => Res.opt (r x u.1 u.2)) h) fun x H1 ⟨dx, h1⟩ => ?_
  refine tG.mono (tGP.bind (k := fun y b env M => Res.opt (r dx y M)) Mono.rv h1) fun y H2 ⟨dy, b, B, ρ, Z, M, env, a, ⟨p1, p2⟩, po⟩ => ?_
  exact ⟨B, ρ, Z, M, dx, dy, a.rel, p1, p2, PoO.of po⟩
theorem rd_un {r : Op1} {ia : EvE} {Q : VK} (h : tE c W (eUn r ia) σ H Q) : tUn (tU c r) (tE c W ia) σ H Q := by
  refine tG.mono (tG.bind (k := fun x b env M => Res.opt (r x M)) h) fun x H1 ⟨dx, b, B, ρ, Z, M, env, a, p1, po⟩ => ?_
  exact ⟨B, ρ, Z, M, dx, a.rel, p1, PoO.of po⟩
theorem d_bin {op : Operator} {r : Op2} {a b : Expr} {ia ib : EvE} {pos : Pos} (ho : OpR X (binaryOp op) (tO c r)) (ha : PE X a (tE c W ia)) (hb : PE X b (tE c W ib)) : PE X (.BinOp a op b pos) (tE c W (eOp r ia ib)) :=
  PE.weak (pe_op ho ha hb) fun _ _ _ => rd_op
theorem d_un {op : UnaryOp} {r : Op1} {a : Expr} {ia : EvE} {pos : Pos} (ho : UnR X (unaryOp op) (tU c r)) (ha : PE X a (tE c W ia)) : PE X (.UnaryOp op a pos) (tE c W (eUn r ia)) :=
  PE.weak (pe_un ho ha) fun _ _ _ => rd_un
theorem d_cmp {op : CmpOp} {r : Op2} {a b : Expr} {ia ib : EvE} {pos : Pos} (ho : OpR X (compareOp op) (tO c r)) (ha : PE X a (tE c W ia)) (hb : PE X b (tE c W ib)) (hm : behindInMarks op b = false) : PE X (.Compare a [op] [b] pos) (tE c W (eOp r ia ib)) :=
  PE.weak (pe_cmpR ho ha hb hm) fun _ _ _ => rd_op
/-- a test by its value -/
def eTest (e : EvE) : EvT := fun b env M => (e b env M).bind fun q => match q.1 with
  | .d (.bl k) => .ok (k, q.2)
  | _ => .bad
theorem rd_test {ie : EvE} {Q : Bool → Hp → Prop} (h : tT c W (eTest ie) σ H Q) : tTest (tE c W ie) σ H Q := by
  have h : tG c W relB (fun b env M => (ie b env M).bind fun q => match q.1 with | .d (.bl k) => .ok (k, q.2) | _ => .bad) σ H Q := h
  refine tG.mono (tG.bind (k := fun x b env M => match x with | .d (.bl k) => .ok (k, M) | _ => .bad) h) fun x H1 ⟨dx, b, B, ρ, Z, M, env, a, p1, po⟩ => ?_
  dsimp only at po
  split at po
  · have p1 := R.bl_inv p1
    exact ⟨_, p1, po _ ρ Z H1 (Ext.refl _ _) a.rel rfl⟩
  · exact po.elim
theorem d_tcmp {op : CmpOp} {r : Op2} {a b : Expr} {ia ib : EvE} {pos : Pos} (ho : OpR X (compareOp op) (tO c r)) (ha : PE X a (tE c W ia)) (hb : PE X b (tE c W ib)) (hm : behindInMarks op b = false) : PT X (.Compare a [op] [b] pos) (tT c W (eTest (eOp r ia ib))) :=
  PT.weak (pt_cmpR ho ha hb hm) fun σ H Q h => by
    refine tG.mono (show tG c W (RV c) ia σ H _ from rd_op (rd_test h)) fun _ _ z => z

/-! #### ints -/
def opI (C : Int → Int → Bool) (g : Int → Int → D) : Op2 := fun x y M => match x, y with
  | .d (.int i), .d (.int j) => if C i j then some (.d (g i j), M) else none
  | _, _ => none
theorem o_int {f : Value → Value → Sem Value} {C : Int → Int → Prop} {g : Int → Int → V} {C' : Int → Int → Bool} {g' : Int → Int → D} (h : OpR X f (rI C g)) (hC : ∀ i j, C' i j = true → C i j) (hg : ∀ Z i j, R c Z (g i j) (g' i j)) : OpR X f (tO c (opI C' g')) :=
  OpR.weak h fun x y H Q ⟨B, ρ, Z, M, dx, dy, rel, r1, r2, po⟩ => by
    unfold opI at po
    split at po
    · rename_i i j
      have e1 := R.int_inv r1
      have e2 := R.int_inv r2
      split at po
      · rename_i hc
        exact ⟨i, j, e1, e2, hC i j hc, po _ ρ Z H (Ext.refl _ _) rel (hg Z i j)⟩
      · exact po.elim
    · exact po.elim
theorem o_int0 {f : Value → Value → Sem Value} {g : Int → Int → V} {g' : Int → Int → D} (h : OpR X f (rI0 g)) (hg : ∀ Z i j, R c Z (g i j) (g' i j)) : OpR X f (tO c (opI (fun _ _ => true) g')) :=
  OpR.weak h fun x y H Q ⟨B, ρ, Z, M, dx, dy, rel, r1, r2, po⟩ => by
    unfold opI at po
    split at po
    · rename_i i j
      exact ⟨i, j, R.int_inv r1, R.int_inv r2, po _ ρ Z H (Ext.refl _ _) rel (hg Z i j)⟩
    · exact po.elim
end
end Mo

namespace Mo
open PySem L2
abbrev LIM : Nat := 16000000
theorem lim_ok {n : Nat} (h : n ≤ LIM) : n ≤ sizeLine := Nat.le_trans h (by decide)
theorem lim_lt {n : Nat} (h : n < LIM) : n < sizeLine := Nat.lt_of_lt_of_le h (by decide)

/-! ### what may be read -/
def rdP (M : Store) : Vl → Option (List D)
  | .d (.lst xs) => some xs
  | .c k => match M[k]? with
    | some (some (.lst xs)) => some xs
    | _ => none
  | _ => none
def rdL (M : Store) : Vl → Option (List D)
  | .d (.lck xs) => some xs
  | x => rdP M x
def rdT : Vl → Option (List D)
  | .d (.tup xs) => some xs
  | _ => none
/-- as data -/
def toD (M : Store) : Vl → Option D
  | .d x => some x
  | .c k => match M[k]? with
    | some (some (.lst xs)) => some (.lst xs)
    | _ => none
section
variable {c : Kx} {W : WX} {σ : L2.St} {H : Hp} {X : Cx} {B : List Nat} {ρ : List Addr} {Z : Hp} {M : Store} {v : V} {x : Vl}
theorem rdP_ok (r : Rel c B ρ Z H M) (h : RV c ρ Z v x) {xs : List D} (e : rdP M x = some xs) : ∃ a vs, v = .ref a ∧ H a = some (.lst vs) ∧ Rs c Z vs xs := by
  unfold rdP at e
  split at e
  · cases e
    have h : R c Z v (.lst xs) := h
    cases h with
    | lst h1 h2 => exact ⟨_, _, rfl, r.zh _ _ h1, h2⟩
  · rename_i k
    split at e
    · rename_i ys q
      cases e
      obtain ⟨a, h1, h2⟩ := h
      obtain ⟨z, vs, h3, h4⟩ := r.cel k _ a q h2
      exact ⟨a, vs, h1, h3, h4⟩
    · cases e
  · cases e
theorem rdL_ok (r : Rel c B ρ Z H M) (h : RV c ρ Z v x) {xs : List D} (e : rdL M x = some xs) : ∃ a vs, v = .ref a ∧ SqL c.K H a vs ∧ Rs c Z vs xs := by
  unfold rdL at e
  split at e
  · cases e
    have h : R c Z v (.lck xs) := h
    cases h with
    | lck h1 h2 => exact ⟨_, _, rfl, r.zh.sqL h1, h2⟩
  · obtain ⟨a, vs, h1, h2, h3⟩ := rdP_ok r h e
    exact ⟨a, vs, h1, SqL.of h2, h3⟩
theorem rdT_ok (r : Rel c B ρ Z H M) (h : RV c ρ Z v x) {xs : List D} (e : rdT x = some xs) : ∃ a vs, v = .ref a ∧ SqT c.K H a vs ∧ Rs c Z vs xs := by
  unfold rdT at e
  split at e
  · cases e
    have h : R c Z v (.tup xs) := h
    cases h with
    | tup h1 h2 => exact ⟨_, _, rfl, r.zh.sqT h1, h2⟩
  · cases e
theorem po_self {Q : VK} (po : PoO c B ρ Z Q (some (x, M))) (r : Rel c B ρ Z H M) (rv : RV c ρ Z v x) : Q v H := po v ρ Z H (Ext.refl _ _) r rv
theorem po_frz {Q : VK} {xs : List D} {vs : List V} (po : PoO c B ρ Z Q (some (.d (.lst xs), M))) (r : Rel c B ρ Z H M) (rs : Rs c Z vs xs) {p : Addr} (hp : H p = none) : Q (.ref p) (upd H p (.lst vs)) := by
  obtain ⟨r', e⟩ := r.frz hp (.lst vs)
  exact po _ ρ _ _ e r' (R.lst upd_same (rs.up e.z))
theorem po_frt {Q : VK} {xs : List D} {vs : List V} (po : PoO c B ρ Z Q (some (.d (.tup xs), M))) (r : Rel c B ρ Z H M) (rs : Rs c Z vs xs) {p : Addr} (hp : H p = none) : Q (.ref p) (upd H p (.tup vs)) := by
  obtain ⟨r', e⟩ := r.frz hp (.tup vs)
  exact po _ ρ _ _ e r' (R.tup (.inl (.inl upd_same)) (rs.up e.z))
theorem po_new {Q : VK} {xs : List D} {vs : List V} (po : PoO c B ρ Z Q (some (.c M.length, M ++ [some (.lst xs)]))) (r : Rel c B ρ Z H M) (rs : Rs c Z vs xs) {p : Addr} (hp : H p = none) : Q (.ref p) (upd H p (.lst vs)) := by
  obtain ⟨r', e⟩ := r.new hp (upd_sub hp) (by rw [upd_same]; intro z; cases z) (ob := .lst xs) ⟨vs, upd_same, rs⟩
  exact po _ _ Z _ e r' ⟨p, rfl, by rw [← r.len]; simp⟩
theorem po_newc {Q : VK} {xs : List Vl} {vs : List V} (po : PoO c B ρ Z Q (some (.c M.length, M ++ [some (.lsc xs)]))) (r : Rel c B ρ Z H M) (rs : RVs c ρ Z vs xs) {p : Addr} (hp : H p = none) : Q (.ref p) (upd H p (.lst vs)) := by
  have e0 : Ext ρ Z (ρ ++ [p]) Z := ⟨⟨[p], rfl⟩, Sub.refl _⟩
  obtain ⟨r', e⟩ := r.new hp (upd_sub hp) (by rw [upd_same]; intro z; cases z) (ob := .lsc xs) ⟨vs, upd_same, RVs.up e0 rs⟩
  exact po _ _ Z _ e r' ⟨p, rfl, by rw [← r.len]; simp⟩
/-- a new list, frozen or not -/
def mkL (own : Bool) (xs : List D) (M : Store) : Vl × Store := if own then (.c M.length, M ++ [some (.lst xs)]) else (.d (.lst xs), M)
theorem po_mk {Q : VK} {own : Bool} {xs : List D} {vs : List V} (po : PoO c B ρ Z Q (some (mkL own xs M))) (r : Rel c B ρ Z H M) (rs : Rs c Z vs xs) {p : Addr} (hp : H p = none) : Q (.ref p) (upd H p (.lst vs)) := by
  unfold mkL at po
  cases own with
  | true => exact po_new po r rs hp
  | false => exact po_frz po r rs hp

/-! ### + -/
def oAdd (own : Bool) : Op2 := fun x y M => match x, y with
  | .d (.int i), .d (.int j) => some (.d (.int (i + j)), M)
  | .d (.str s), .d (.str t) => if s.length + t.length ≤ LIM then some (.d (.str (s ++ t)), M) else none
  | x, y => match rdP M x, rdP M y with
    | some xs, some ys => if xs.length + ys.length ≤ LIM then some (mkL own (xs ++ ys) M) else none
    | _, _ => none
theorem o_add {own : Bool} : OpR X (binaryOp .Add) (tO c (oAdd own)) := OpR.weak ((op_add.or op_add_str).or op_cat) fun x y H Q ⟨B, ρ, Z, M, dx, dy, rel, r1, r2, po⟩ => by
  unfold oAdd at po
  split at po
  · exact .inl (.inl ⟨_, _, R.int_inv r1, R.int_inv r2, po_self po rel (R.int _)⟩)
  · split at po
    · rename_i h
      exact .inl (.inr ⟨_, _, R.str_inv r1, R.str_inv r2, lim_ok h, po_self po rel (R.str _)⟩)
    · exact po.elim
  · split at po
    · rename_i xs ys e1 e2
      split at po
      · rename_i h
        obtain ⟨a, vs, rfl, h1, q1⟩ := rdP_ok rel r1 e1
        obtain ⟨a', vs', rfl, h2, q2⟩ := rdP_ok rel r2 e2
        exact .inr ⟨a, a', vs, vs', rfl, rfl, h1, h2, lim_ok (by rw [q1.length, q2.length]; exact h), fun p hp => po_mk po rel (q1.append q2) hp⟩
      · exact po.elim
    · exact po.elim
def tt : Int → Int → Bool := fun _ _ => true
def oSub : Op2 := opI tt fun i j => .int (i - j)
theorem o_sub : OpR X (binaryOp .Sub) (tO c oSub) := o_int0 op_sub fun _ _ _ => .int _
instance (i j : Int) : Decidable (CMul i j) := by unfold CMul; infer_instance
instance (i j : Int) : Decidable (CMulX i j) := by unfold CMulX; infer_instance
def oMul (own : Bool) : Op2 := fun x y M => match x, y with
  | .d (.int i), .d (.int j) => if (CMul i j ∨ CMulX i j) then some (.d (.int (i * j)), M) else none
  | x, .d (.int k) => match rdP M x with
    | some xs => if k < 16000000 ∧ xs.length * k.toNat ≤ LIM ∧ -16000000 < k then some (mkL own (List.replicate k.toNat xs).flatten M) else none
    | none => none
  | _, _ => none
theorem o_mul {own : Bool} : OpR X (binaryOp .Mult) (tO c (oMul own)) := OpR.weak ((op_mul.or op_mulX).or op_rep) fun x y H Q ⟨B, ρ, Z, M, dx, dy, rel, r1, r2, po⟩ => by
  unfold oMul at po
  split at po
  · split at po
    · rename_i i j h
      rcases h with h | h
      · exact .inl (.inl ⟨_, _, R.int_inv r1, R.int_inv r2, h, po_self po rel (R.int _)⟩)
      · exact .inl (.inr ⟨_, _, R.int_inv r1, R.int_inv r2, h, po_self po rel (R.int _)⟩)
    · exact po.elim
  · split at po
    · rename_i xs e1
      split at po
      · rename_i h
        obtain ⟨a, vs, rfl, h1, q1⟩ := rdP_ok rel r1 e1
        refine .inr ⟨a, _, vs, rfl, R.int_inv r2, h1, by omega, by omega, lim_ok (by rw [q1.length]; exact h.2.1), fun p hp => po_mk po rel (q1.rep _) hp⟩
      · exact po.elim
    · exact po.elim
  · exact po.elim
def cDiv (i j : Int) : Bool := decide (0 < j ∧ (j < 1073741824 ∨ j.natAbs.log2 < 9000))
def oDiv : Op2 := opI cDiv fun i j => .int (i / j)
theorem cdiv_ok (i j : Int) (h : cDiv i j = true) : CDivW i j := by
  have h := of_decide_eq_true h
  refine ⟨h.1, ?_⟩
  rcases h.2 with q | q
  · have : j.natAbs < 2 ^ 30 := by omega
    have := PySem.Flt.log2_lt_of (by decide) this
    omega
  · exact q
theorem o_div : OpR X (binaryOp .FloorDiv) (tO c oDiv) := o_int op_fdivW cdiv_ok fun _ _ _ => .int _
def cPos (_ j : Int) : Bool := decide (0 < j)
def cNn (_ j : Int) : Bool := decide (0 ≤ j)
def oMod : Op2 := opI cPos fun i j => .int (i % j)
theorem o_mod : OpR X (binaryOp .Mod) (tO c oMod) := o_int op_mod (fun _ _ h => of_decide_eq_true h) fun _ _ _ => .int _
instance (i j : Int) : Decidable (CPow i j) := by unfold CPow; infer_instance
instance (i j : Int) : Decidable (CShl i j) := by unfold CShl; infer_instance
def oShl : Op2 := opI (fun i j => decide (CPow i j ∨ CShl i j)) fun i j => .int (i * 2 ^ j.toNat)
theorem o_shl0 {f : Value → Value → Sem Value} (h1 : OpR X f (rI CPow fun i j => .int (i * 2 ^ j.toNat))) (h2 : OpR X f (rI CShl fun i j => .int (i * 2 ^ j.toNat))) : OpR X f (tO c oShl) :=
  OpR.weak (h1.or h2) fun x y H Q ⟨B, ρ, Z, M, dx, dy, rel, r1, r2, po⟩ => by
    unfold oShl opI at po
    split at po
    · split at po
      · rename_i h
        rcases of_decide_eq_true h with h | h
        · exact .inl ⟨_, _, R.int_inv r1, R.int_inv r2, h, po_self po rel (R.int _)⟩
        · exact .inr ⟨_, _, R.int_inv r1, R.int_inv r2, h, po_self po rel (R.int _)⟩
      · exact po.elim
    · exact po.elim
theorem o_shl : OpR X (binaryOp .LShift) (tO c oShl) := o_shl0 op_shl op_shlW
def oShr : Op2 := opI cNn fun i j => .int (i / 2 ^ j.toNat)
theorem o_shr : OpR X (binaryOp .RShift) (tO c oShr) := o_int op_shr (fun _ _ h => of_decide_eq_true h) fun _ _ _ => .int _
def oAnd : Op2 := opI tt fun i j => .int (Builtin.bitAnd i j)
def oOr : Op2 := opI tt fun i j => .int (Builtin.bitOr i j)
def oXor : Op2 := opI tt fun i j => .int (Builtin.bitXor i j)
theorem o_and : OpR X (binaryOp .BitAnd) (tO c oAnd) := o_int0 op_and fun _ _ _ => .int _
theorem o_or : OpR X (binaryOp .BitOr) (tO c oOr) := o_int0 op_or fun _ _ _ => .int _
theorem o_xor : OpR X (binaryOp .BitXor) (tO c oXor) := o_int0 op_xor fun _ _ _ => .int _
def oPow : Op2 := opI (fun i j => decide (CPow i j)) fun i j => .int (i ^ j.toNat)
theorem o_pow : OpR X (binaryOp .Pow) (tO c oPow) := o_int op_pow (fun _ _ h => of_decide_eq_true h) fun _ _ _ => .int _
def oNeg : Op1 := fun x M => match x with
  | .d (.int i) => some (.d (.int (-i)), M)
  | _ => none
theorem o_neg : UnR X (unaryOp .USub) (tU c oNeg) := fun pins s σ H x v Q I rx ⟨B, ρ, Z, M, dx, rel, r1, po⟩ => by
  unfold oNeg at po
  split at po
  · exact un_neg pins s σ H x v Q I rx ⟨_, R.int_inv r1, po_self po rel (R.int _)⟩
  · exact po.elim
def oLt : Op2 := opI tt fun i j => .bl (decide (i < j))
def oLe : Op2 := opI tt fun i j => .bl (decide (i ≤ j))
def oGt : Op2 := opI tt fun i j => .bl (decide (j < i))
def oGe : Op2 := opI tt fun i j => .bl (decide (j ≤ i))
theorem o_lt : OpR X (compareOp .Lt) (tO c oLt) := o_int0 op_lt fun _ _ _ => .bl _
theorem o_le : OpR X (compareOp .LtE) (tO c oLe) := o_int0 op_le fun _ _ _ => .bl _
theorem o_gt : OpR X (compareOp .Gt) (tO c oGt) := o_int0 op_gt fun _ _ _ => .bl _
theorem o_ge : OpR X (compareOp .GtE) (tO c oGe) := o_int0 op_ge fun _ _ _ => .bl _

/-! ### == -/
mutual
def toP : D → PyData
  | .non => .none
  | .no => .dict []
  | .bl b => .bool b
  | .int i => .int i
  | .str x => .str x
  | .lst xs => .list (toPs xs)
  | .lck xs => .list (toPs xs)
  | .tup xs => .tuple (toPs xs)
  | .ins _ _ => .dict []
def toPs : List D → List PyData
  | [] => []
  | x :: xs => toP x :: toPs xs
end
mutual
theorem dp_of (hz : Sub Z H) : ∀ (d : D) (v : V), R c Z v d → (toP d).canLay0 = true → Dp c.K H v (toP d)
  | .non, _, h, _ => by cases h; exact .non
  | .no, _, h, _ => by cases h
  | .bl b, _, h, _ => by cases h; exact .bl b
  | .int i, _, h, _ => by cases h; exact .int i
  | .str x, _, h, _ => by cases h; exact .str x
  | .lst xs, _, h, l => by
    cases h with
    | lst h1 h2 => exact .lst (SqL.of (hz _ _ h1)) (dps_of hz xs _ h2 l)
  | .lck xs, _, h, l => by
    cases h with
    | lck h1 h2 => exact .lst (hz.sqL h1) (dps_of hz xs _ h2 l)
  | .tup xs, _, h, l => by
    cases h with
    | tup h1 h2 => exact .tup (hz.sqT h1) (dps_of hz xs _ h2 l)
  | .ins k fs, _, h, l => by simp [toP, PyData.canLay0] at l
theorem dps_of (hz : Sub Z H) : ∀ (ds : List D) (vs : List V), Rs c Z vs ds → PyData.canLayAll0 (toPs ds) = true → DpAll c.K H vs (toPs ds)
  | [], _, h, _ => by cases h; exact .nil
  | d :: ds, _, h, l => by
    cases h with
    | cons h1 h2 =>
      have l' : (toP d).canLay0 = true ∧ PyData.canLayAll0 (toPs ds) = true := by simpa [toPs, PyData.canLayAll0] using l
      exact .cons (dp_of hz d _ h1 l'.1) (dps_of hz ds _ h2 l'.2)
end
theorem toD_ok (r : Rel c B ρ Z H M) (h : RV c ρ Z v x) {d : D} (e : toD M x = some d) (hs : SeqAt.shaped (toP d) = true) : Dp c.K H v (toP d) := by
  have hl := SeqAt.canLay_of_shaped hs
  unfold toD at e
  split at e
  · cases e; exact dp_of r.zh _ _ h hl
  · rename_i k
    split at e
    · rename_i ys q
      cases e
      obtain ⟨a, h1, h2⟩ := h
      obtain ⟨z, vs, h3, h4⟩ := r.cel k _ a q h2
      subst h1
      exact .lst (SqL.of h3) (dps_of r.zh ys _ h4 hl)
    · cases e
def oEqB (neg : Bool) : Op2 := fun x y M => match toD M x, toD M y with
  | some a, some b => if SeqAt.shaped (toP a) && SeqAt.shaped (toP b) then some (.d (.bl (if neg then !PyData.eqv (toP a) (toP b) else PyData.eqv (toP a) (toP b))), M) else none
  | _, _ => none
abbrev oEq : Op2 := oEqB false
abbrev oNe : Op2 := oEqB true
theorem o_eq (hc : X.K = c.K) (hu : X.A.units + 64 < cLine) : OpR X (compareOp .Eq) (tO c oEq) := OpR.weak (op_eqD hu) fun x y H Q ⟨B, ρ, Z, M, dx, dy, rel, r1, r2, po⟩ => by
  unfold oEq oEqB at po
  rw [hc]
  split at po
  · rename_i a b e1 e2
    split at po
    · rename_i h
      rw [Bool.and_eq_true] at h
      exact ⟨_, _, toD_ok rel r1 e1 h.1, toD_ok rel r2 e2 h.2, h.1, h.2, po_self po rel (R.bl _)⟩
    · exact po.elim
  · exact po.elim
theorem o_ne (hc : X.K = c.K) (hu : X.A.units + 64 < cLine) : OpR X (compareOp .NotEq) (tO c oNe) := OpR.weak (op_neD hu) fun x y H Q ⟨B, ρ, Z, M, dx, dy, rel, r1, r2, po⟩ => by
  unfold oNe oEqB at po
  rw [hc]
  split at po
  · rename_i a b e1 e2
    split at po
    · rename_i h
      rw [Bool.and_eq_true] at h
      exact ⟨_, _, toD_ok rel r1 e1 h.1, toD_ok rel r2 e2 h.2, h.1, h.2, po_self po rel (R.bl _)⟩
    · exact po.elim
  · exact po.elim
/-! ### is None -/
def isN : Vl → Bool
  | .d .non => true
  | _ => false
theorem isN_ok (h : RV c ρ Z v x) : decide (v = .non) = isN x := by
  cases x with
  | c k => obtain ⟨a, rfl, _⟩ := h; rfl
  | d y =>
    have h : R c Z v y := h
    cases h <;> rfl
def oIsN (neg : Bool) : Op2 := fun x y M => match y with
  | .d .non => some (.d (.bl (if neg then !isN x else isN x)), M)
  | _ => none
theorem o_isN : OpR X (compareOp .Is) (tO c (oIsN false)) := OpR.weak op_isN fun x y H Q ⟨B, ρ, Z, M, dx, dy, rel, r1, r2, po⟩ => by
  unfold oIsN at po
  split at po
  · exact ⟨R.non_inv r2, po_self po rel (by rw [isN_ok r1]; exact R.bl _)⟩
  · exact po.elim
theorem o_notN : OpR X (compareOp .IsNot) (tO c (oIsN true)) := OpR.weak op_notN fun x y H Q ⟨B, ρ, Z, M, dx, dy, rel, r1, r2, po⟩ => by
  unfold oIsN at po
  split at po
  · exact ⟨R.non_inv r2, po_self po rel (by rw [isN_ok r1]; exact R.bl _)⟩
  · exact po.elim
end
end Mo

namespace Mo
open PySem L2
section
variable {c : Kx} {W : WX} {σ : L2.St} {H : Hp} {X : Cx} {B : List Nat} {ρ : List Addr} {Z : Hp} {M : Store} {v : V} {x : Vl} {pos : Pos}

/-! ### tests -/
def eAnd (t u : EvT) : EvT := fun b env M => (t b env M).bind fun q => if q.1 = true then u b env q.2 else .ok (false, q.2)
def eOr (t u : EvT) : EvT := fun b env M => (t b env M).bind fun q => if q.1 = true then .ok (true, q.2) else u b env q.2
def eNot (t : EvT) : EvT := fun b env M => (t b env M).bind fun q => .ok (!q.1, q.2)
theorem rd_and {t u : EvT} {Q : Bool → Hp → Prop} (h : tT c W (eAnd t u) σ H Q) : tAnd (tT c W t) (tT c W u) σ H Q := by
  refine tG.mono (tG.bind (k := fun k b env M => if k = true then u b env M else .ok (false, M)) h) fun y H1 ⟨k, b, B, ρ, Z, M, env, a, p, po⟩ => ?_
  have p : y = k := p
  subst p
  cases y with
  | true => exact ⟨b, B, ρ, Z, M, env, a, po⟩
  | false => exact po false ρ Z H1 (Ext.refl _ _) a.rel rfl
theorem rd_or {t u : EvT} {Q : Bool → Hp → Prop} (h : tT c W (eOr t u) σ H Q) : tOr (tT c W t) (tT c W u) σ H Q := by
  refine tG.mono (tG.bind (k := fun k b env M => if k = true then .ok (true, M) else u b env M) h) fun y H1 ⟨k, b, B, ρ, Z, M, env, a, p, po⟩ => ?_
  have p : y = k := p
  subst p
  cases y with
  | true => exact po true ρ Z H1 (Ext.refl _ _) a.rel rfl
  | false => exact ⟨b, B, ρ, Z, M, env, a, po⟩
theorem rd_not {t : EvT} {Q : Bool → Hp → Prop} (h : tT c W (eNot t) σ H Q) : tNot (tT c W t) σ H Q := by
  refine tG.mono (tG.bind (k := fun k b env M => .ok (!k, M)) h) fun y H1 ⟨k, b, B, ρ, Z, M, env, a, p, po⟩ => ?_
  have p : y = k := p
  subst p
  exact po _ ρ Z H1 (Ext.refl _ _) a.rel rfl
variable {a b : Expr} {rest : List Expr} {ta tb : EvT}
theorem d_and1 (ha : PT X a (tT c W ta)) : PW X (.BoolOp .And [a] pos) (tT c W ta) := pw_and1 ha
theorem d_or1 (ha : PT X a (tT c W ta)) : PW X (.BoolOp .Or [a] pos) (tT c W ta) := pw_or1 ha
theorem d_and (ha : PT X a (tT c W ta)) (hb : PW X (.BoolOp .And (b :: rest) pos) (tT c W tb)) : PW X (.BoolOp .And (a :: b :: rest) pos) (tT c W (eAnd ta tb)) := PW.weak (pw_and ha hb) fun _ _ _ => rd_and
theorem d_or (ha : PT X a (tT c W ta)) (hb : PW X (.BoolOp .Or (b :: rest) pos) (tT c W tb)) : PW X (.BoolOp .Or (a :: b :: rest) pos) (tT c W (eOr ta tb)) := PW.weak (pw_or ha hb) fun _ _ _ => rd_or
theorem d_not (ha : PT X a (tT c W ta)) : PT X (.UnaryOp .Not a pos) (tT c W (eNot ta)) := PT.weak (pt_not ha) fun _ _ _ => rd_not
/-- by truth -/
def truO (M : Store) (x : Vl) : Option Bool := match x with
  | .d .non => some false
  | .d (.bl b) => some b
  | .d (.int i) => some (i != 0)
  | .d (.str y) => if y.length ≤ LIM then some ((y.length : Int) != 0) else none
  | x => match rdL M x with
    | some xs => some (!xs.isEmpty)
    | none => match rdT x with
      | some xs => some (!xs.isEmpty)
      | none => none
def eTru (e : EvE) : EvT := fun b env M => (e b env M).bind fun q => match truO q.2 q.1 with
  | some k => .ok (k, q.2)
  | none => .bad
theorem isEmpty_rs {xs : List D} {vs : List V} (h : Rs c Z vs xs) : vs.isEmpty = xs.isEmpty := by cases h <;> rfl
theorem tru_rep (r : Rel c B ρ Z H M) (h : RV c ρ Z v x) {k : Bool} (e : truO M x = some k) : TruV c.K v H k := by
  unfold truO at e
  split at e
  · cases e; rw [R.non_inv h]; rfl
  · cases e; rw [R.bl_inv h]; rfl
  · cases e; rw [R.int_inv h]; rfl
  · split at e
    · rename_i hl
      cases e; rw [R.str_inv h]; exact ⟨lim_ok hl, rfl⟩
    · cases e
  · split at e
    · rename_i xs q
      cases e
      obtain ⟨a, vs, rfl, h1, h2⟩ := rdL_ok r h q
      exact .inl ⟨vs, h1, by rw [isEmpty_rs h2]⟩
    · split at e
      · rename_i xs q
        cases e
        obtain ⟨a, vs, rfl, h1, h2⟩ := rdT_ok r h q
        exact .inr (.inl ⟨vs, h1, by rw [isEmpty_rs h2]⟩)
      · cases e
theorem d_tru (hc : X.K = c.K) {e : Expr} {ie : EvE} (h : PE X e (tE c W ie)) (he : ∀ whole, isTrue e X.env whole = (do let v ← whole; standAt e.pos; holding [v] (truthy v))) : PT X e (tT c W (eTru ie)) :=
  PT.weak (pt_truth h he) fun σ H Q h => by
    have h : tG c W relB (fun b env M => (ie b env M).bind fun q => match truO q.2 q.1 with | some k => .ok (k, q.2) | none => .bad) σ H Q := h
    refine tG.mono (tG.bind (k := fun x b env M => match truO M x with | some k => .ok (k, M) | none => .bad) h) fun y H1 ⟨dx, b, B, ρ, Z, M, env, a, p, po⟩ => ?_
    dsimp only at po
    split at po
    · rename_i k q
      exact ⟨k, by rw [hc]; exact tru_rep a.rel p q, po k ρ Z H1 (Ext.refl _ _) a.rel rfl⟩
    · exact po.elim
/-! as values -/
def eAndV (ea eb : EvE) : EvE := fun b env M => (ea b env M).bind fun q => match q.1 with
  | .d (.bl true) => eb b env q.2
  | .d (.bl false) => .ok (.d (.bl false), q.2)
  | _ => .bad
def eOrV (ea eb : EvE) : EvE := fun b env M => (ea b env M).bind fun q => match q.1 with
  | .d (.bl false) => eb b env q.2
  | .d (.bl true) => .ok (.d (.bl true), q.2)
  | _ => .bad
def eNotV (ea : EvE) : EvE := fun b env M => (ea b env M).bind fun q => match q.1 with
  | .d (.bl k) => .ok (.d (.bl (!k)), q.2)
  | _ => .bad
variable {ia ib : EvE}
theorem d_one {op : BoolOp} (h : PE X a (tE c W ia)) : PE X (.BoolOp op [a] pos) (tE c W ia) := pe_one h
theorem d_andV (ha : PE X a (tE c W ia)) (hb : PE X (.BoolOp .And (b :: rest) pos) (tE c W ib)) : PE X (.BoolOp .And (a :: b :: rest) pos) (tE c W (eAndV ia ib)) :=
  PE.weak (pe_and ha hb) fun σ H Q h => by
    have h : tG c W (RV c) (fun b env M => (ia b env M).bind fun q => match q.1 with | .d (.bl true) => ib b env q.2 | .d (.bl false) => .ok (.d (.bl false), q.2) | _ => .bad) σ H Q := h
    refine tG.mono (tG.bind (k := fun x b env M => match x with | .d (.bl true) => ib b env M | .d (.bl false) => .ok (.d (.bl false), M) | _ => .bad) h) fun y H1 ⟨dx, b, B, ρ, Z, M, env, a, p, po⟩ => ?_
    dsimp only at po
    split at po
    · exact ⟨true, R.bl_inv p, ⟨b, B, ρ, Z, M, env, a, po⟩⟩
    · exact ⟨false, R.bl_inv p, po _ ρ Z H1 (Ext.refl _ _) a.rel (R.bl _)⟩
    · exact po.elim
theorem d_orV (ha : PE X a (tE c W ia)) (hb : PE X (.BoolOp .Or (b :: rest) pos) (tE c W ib)) : PE X (.BoolOp .Or (a :: b :: rest) pos) (tE c W (eOrV ia ib)) :=
  PE.weak (pe_or ha hb) fun σ H Q h => by
    have h : tG c W (RV c) (fun b env M => (ia b env M).bind fun q => match q.1 with | .d (.bl false) => ib b env q.2 | .d (.bl true) => .ok (.d (.bl true), q.2) | _ => .bad) σ H Q := h
    refine tG.mono (tG.bind (k := fun x b env M => match x with | .d (.bl false) => ib b env M | .d (.bl true) => .ok (.d (.bl true), M) | _ => .bad) h) fun y H1 ⟨dx, b, B, ρ, Z, M, env, a, p, po⟩ => ?_
    dsimp only at po
    split at po
    · exact ⟨false, R.bl_inv p, ⟨b, B, ρ, Z, M, env, a, po⟩⟩
    · exact ⟨true, R.bl_inv p, po _ ρ Z H1 (Ext.refl _ _) a.rel (R.bl _)⟩
    · exact po.elim
theorem d_notV (ha : PE X a (tE c W ia)) : PE X (.UnaryOp .Not a pos) (tE c W (eNotV ia)) :=
  PE.weak (pe_not ha) fun σ H Q h => by
    have h : tG c W (RV c) (fun b env M => (ia b env M).bind fun q => match q.1 with | .d (.bl k) => .ok (.d (.bl (!k)), q.2) | _ => .bad) σ H Q := h
    refine tG.mono (tG.bind (k := fun (x : Vl) b env M => (match x with | .d (.bl k) => .ok (.d (.bl (!k)), M) | _ => .bad : Res Ex (Vl × Store))) h) fun y H1 ⟨dx, b, B, ρ, Z, M, env, a, p, po⟩ => ?_
    dsimp only at po
    split at po
    · exact ⟨_, R.bl_inv p, po _ ρ Z H1 (Ext.refl _ _) a.rel (R.bl _)⟩
    · exact po.elim
def eIf (t : EvT) (ea eb : EvE) : EvE := fun b env M => (t b env M).bind fun q => if q.1 = true then ea b env q.2 else eb b env q.2
theorem d_ifE {e : Expr} (ht : PT X e (tT c W ta)) (ha : PE X a (tE c W ia)) (hb : PE X b (tE c W ib)) : PE X (.IfExp e a b pos) (tE c W (eIf ta ia ib)) :=
  PE.weak (pe_ifExp ht ha hb) fun σ H Q h => by
    refine tG.mono (tG.bind (k := fun k b env M => if k = true then ia b env M else ib b env M) h) fun y H1 ⟨k, b, B, ρ, Z, M, env, a, p, po⟩ => ?_
    have p : y = k := p
    subst p
    cases y with
    | true => exact ⟨b, B, ρ, Z, M, env, a, po⟩
    | false => exact ⟨b, B, ρ, Z, M, env, a, po⟩
/-- a < b < c -/
def eChain (r r' : Op2) (ea eb ec : EvE) : EvE := fun b env M => (ea b env M).bind fun q => (eb b env q.2).bind fun u => match r q.1 u.1 u.2 with
  | some (.d (.bl true), M1) => (ec b env M1).bind fun w => Res.opt (r' u.1 w.1 w.2)
  | some (.d (.bl false), M1) => .ok (.d (.bl false), M1)
  | _ => .bad
theorem rd_chain {r r' : Op2} {ic : EvE} {Q : VK} (h : tE c W (eChain r r' ia ib ic) σ H Q) : tChain (tO c r) (tO c r') (tE c W ia) (tE c W ib) (tE c W ic) σ H Q := by
  have h : tG c W (RV c) (fun b env M => (ia b env M).bind fun q => (ib b env q.2).bind fun u => match r q.1 u.1 u.2 with
    | some (.d (.bl true), M1) => (ic b env M1).bind fun w => Res.opt (r' u.1 w.1 w.2)
    | some (.d (.bl false), M1) => .ok (.d (.bl false), M1)
    | _ => .bad) σ H Q := h
  refine tG.mono (tG.bind (k := fun x b env M => (ib b env M).bind fun u => match r x u.1 u.2 with
    | some (.d (.bl true), M1) => (ic b env M1).bind fun w => Res.opt (r' u.1 w.1 w.2)
    | some (.d (.bl false), M1) => .ok (.d (.bl false), M1)
    | _ => .bad) h) fun x H1 ⟨dx, h1⟩ => ?_
  refine tG.mono (tGP.bind (k := fun y b env M => match r dx y M with
    | some (.d (.bl true), M1) => (ic b env M1).bind fun w => Res.opt (r' y w.1 w.2)
    | some (.d (.bl false), M1) => .ok (.d (.bl false), M1)
    | _ => .bad) Mono.rv h1) fun y H2 ⟨dy, b, B, ρ, Z, M, env, a, ⟨p1, p2⟩, po⟩ => ?_
  refine ⟨B, ρ, Z, M, dx, dy, a.rel, p1, p2, ?_⟩
  dsimp only at po
  cases q : r dx dy M with
  | none => rw [q] at po; exact po
  | some u =>
    obtain ⟨z, M1⟩ := u
    rw [q] at po
    intro v ρ' Z' H' e rel' rv
    split at po
    · rename_i q2
      cases q2
      have rv : v = .bl true := R.bl_inv rv
      refine ⟨true, rv, ?_⟩
      show tE c W ic σ H' fun w' H4 => tO c r' y w' H4 Q
      have h3 : tGP c W (RV c) (fun b env M => (ic b env M).bind fun w => Res.opt (r' dy w.1 w.2)) (fun ρ Z => RV c ρ Z y dy) σ H' Q := ⟨b, B, ρ', Z', M1, env, ⟨rel', a.sl.up e, a.hb⟩, p2.up e, Po.ext po e⟩
      refine tG.mono (tGP.bind (k := fun w b env M => Res.opt (r' dy w M)) Mono.rv h3) fun w H4 ⟨dw, b, B, ρ, Z, M, env, a, ⟨p1, p2⟩, po⟩ => ?_
      exact ⟨B, ρ, Z, M, dy, dw, a.rel, p1, p2, PoO.of po⟩
    · rename_i q2
      cases q2
      have rv : v = .bl false := R.bl_inv rv
      refine ⟨false, rv, ?_⟩
      exact Po.ext po e _ ρ' Z' H' (Ext.refl _ _) rel' (R.bl _)
    · exact po.elim
theorem d_chain {op op' : CmpOp} {r r' : Op2} {d : Expr} {ic : EvE} (ho : OpR X (compareOp op) (tO c r)) (ho' : OpR X (compareOp op') (tO c r')) (ha : PE X a (tE c W ia)) (hb : PE X b (tE c W ib)) (hd : PE X d (tE c W ic))
    (hm : lastMarks [op, op'] [b, d] = false := by with_unfolding_all rfl) : PE X (.Compare a [op, op'] [b, d] pos) (tE c W (eChain r r' ia ib ic)) := PE.weak (pe_chain ho ho' ha hb hd hm) fun _ _ _ => rd_chain
theorem d_tchain {op op' : CmpOp} {r r' : Op2} {d : Expr} {ic : EvE} (ho : OpR X (compareOp op) (tO c r)) (ho' : OpR X (compareOp op') (tO c r')) (ha : PE X a (tE c W ia)) (hb : PE X b (tE c W ib)) (hd : PE X d (tE c W ic))
    (hm : lastMarks [op, op'] [b, d] = false := by with_unfolding_all rfl) : PT X (.Compare a [op, op'] [b, d] pos) (tT c W (eTest (eChain r r' ia ib ic))) := PT.weak (pt_chain ho ho' ha hb hd hm) fun σ H Q h => by
  exact rd_chain (rd_test h)

/-! ### argument lists, displays -/
def aNil : EvA := fun _ _ M => .ok ([], M)
def aCons (e : EvE) (r : EvA) : EvA := fun b env M => (e b env M).bind fun q => (r b env q.2).bind fun u => .ok (q.1 :: u.1, u.2)
theorem d_anil : PA X [] (tAr c W aNil) := PA.weak pa_nil fun σ H Q ⟨b, B, ρ, Z, M, env, a, po⟩ => po [] ρ Z H (Ext.refl _ _) a.rel trivial
theorem d_acons {e : Expr} {es : List Expr} {ie : EvE} {r : EvA} (he : PE X e (tE c W ie)) (hr : PA X es (tAr c W r)) (hs : starEach (e :: es) X.env = (false, eval e X.env) :: starEach es X.env := by rfl) : PA X (e :: es) (tAr c W (aCons ie r)) :=
  PA.weak (pa_cons he hr hs) fun σ H Q h => by
    have h : tG c W (RVs c) (fun b env M => (ie b env M).bind fun q => (r b env q.2).bind fun u => .ok (q.1 :: u.1, u.2)) σ H Q := h
    refine tG.mono (tG.bind (k := fun x b env M => (r b env M).bind fun u => .ok (x :: u.1, u.2)) h) fun x H1 ⟨dx, h1⟩ => ?_
    refine tG.mono (tGP.bind (k := fun y b env M => .ok (dx :: y, M)) Mono.rv h1) fun y H2 ⟨dy, b, B, ρ, Z, M, env, a, ⟨p1, p2⟩, po⟩ => ?_
    exact po _ ρ Z H2 (Ext.refl _ _) a.rel ⟨p1, p2⟩
/-- all of them data -/
def ds? : List Vl → Option (List D)
  | [] => some []
  | .d x :: r => match ds? r with
    | some ys => some (x :: ys)
    | none => none
  | _ => none
theorem ds_ok : ∀ {xs : List Vl} {ds : List D} {vs : List V}, ds? xs = some ds → RVs c ρ Z vs xs → Rs c Z vs ds
  | [], _, [], e, _ => by cases e; exact .nil
  | .d x :: r, ds, v :: vs, e, h => by
    unfold ds? at e
    split at e
    · rename_i ys q
      cases e
      exact .cons h.1 (ds_ok q h.2)
    · cases e
  | .c k :: r, _, _, e, _ => by simp [ds?] at e
  | [], _, _ :: _, _, h => h.elim
  | .d _ :: _, _, [], _, h => h.elim
def eLst (own : Bool) (r : EvA) : EvE := fun b env M => (r b env M).bind fun q => match ds? q.1 with
  | some ds => if ds.length ≤ LIM then .ok (mkL own ds q.2) else .bad
  | none => .bad
/-- a list of objects -/
def eLsc (r : EvA) : EvE := fun b env M => (r b env M).bind fun q => if q.1.length ≤ LIM then .ok (.c q.2.length, q.2 ++ [some (.lsc q.1)]) else .bad
def eTup (r : EvA) : EvE := fun b env M => (r b env M).bind fun q => match ds? q.1 with
  | some ds => if ds.length ≤ LIM then .ok (.d (.tup ds), q.2) else .bad
  | none => .bad
theorem Po.opt {B : List Nat} {Q : VK} {u : Vl × Store} (h : Po c W B σ (RV c) ρ Z Q (.ok u)) : PoO c B ρ Z Q (some u) := h
theorem RVs.length : ∀ {xs : List Vl} {vs : List V}, RVs c ρ Z vs xs → vs.length = xs.length
  | [], [], _ => rfl
  | _ :: _, _ :: _, h => congrArg (· + 1) (RVs.length h.2)
  | [], _ :: _, h => h.elim
  | _ :: _, [], h => h.elim
theorem d_lst {own : Bool} {es : List Expr} {r : EvA} (h : PA X es (tAr c W r)) : PE X (.List es pos) (tE c W (eLst own r)) :=
  PE.weak (pe_lst h) fun σ H Q h => by
    have h : tG c W (RV c) (fun b env M => (r b env M).bind fun q => match ds? q.1 with | some ds => if ds.length ≤ LIM then .ok (mkL own ds q.2) else .bad | none => .bad) σ H Q := h
    refine tG.mono (tG.bind (k := fun (x : List Vl) b env M => (match ds? x with | some ds => if ds.length ≤ LIM then .ok (mkL own ds M) else .bad | none => .bad : Res Ex (Vl × Store))) h) fun y H1 ⟨dx, b, B, ρ, Z, M, env, a, p, po⟩ => ?_
    dsimp only at po
    split at po
    · rename_i ds q
      split at po
      · rename_i hl
        have rs := ds_ok q p
        exact ⟨lim_ok (by rw [rs.length]; exact hl), fun z hz => po_mk (Po.opt po) a.rel rs hz⟩
      · exact po.elim
    · exact po.elim
theorem d_lsc {es : List Expr} {r : EvA} (h : PA X es (tAr c W r)) : PE X (.List es pos) (tE c W (eLsc r)) :=
  PE.weak (pe_lst h) fun σ H Q h => by
    have h : tG c W (RV c) (fun b env M => (r b env M).bind fun q => if q.1.length ≤ LIM then .ok (.c q.2.length, q.2 ++ [some (.lsc q.1)]) else .bad) σ H Q := h
    refine tG.mono (tG.bind (k := fun (x : List Vl) b env M => (if x.length ≤ LIM then .ok (.c M.length, M ++ [some (.lsc x)]) else .bad : Res Ex (Vl × Store))) h) fun y H1 ⟨dx, b, B, ρ, Z, M, env, a, p, po⟩ => ?_
    dsimp only at po
    split at po
    · rename_i hl
      exact ⟨lim_ok (by rw [RVs.length p]; exact hl), fun z hz => po_newc (Po.opt po) a.rel p hz⟩
    · exact po.elim
theorem d_tup {k : Nat} {es : List Expr} {r : EvA} (h : PA X es (tAr c W r)) : PE X (.Tuple es k pos) (tE c W (eTup r)) :=
  PE.weak (pe_tup h) fun σ H Q h => by
    have h : tG c W (RV c) (fun b env M => (r b env M).bind fun q => match ds? q.1 with | some ds => if ds.length ≤ LIM then .ok (.d (.tup ds), q.2) else .bad | none => .bad) σ H Q := h
    refine tG.mono (tG.bind (k := fun (x : List Vl) b env M => (match ds? x with | some ds => if ds.length ≤ LIM then .ok (.d (.tup ds), M) else .bad | none => .bad : Res Ex (Vl × Store))) h) fun y H1 ⟨dx, b, B, ρ, Z, M, env, a, p, po⟩ => ?_
    dsimp only at po
    split at po
    · rename_i ds q
      split at po
      · rename_i hl
        have rs := ds_ok q p
        exact ⟨lim_ok (by rw [rs.length]; exact hl), fun z hz => po_frt (Po.opt po) a.rel rs hz⟩
      · exact po.elim
    · exact po.elim

/-! ### subscripts -/
def oIx : Op2 := fun x y M => match y with
  | .d (.int i) => match x with
    | .d (.str z) => if z.length ≤ LIM then (match atI z.cps.toList i with
      | some k => some (.d (.str ⟨#[k]⟩), M)
      | none => none) else none
    | .c k => match M[k]? with
      | some (some (.lsc xs)) => (match atI xs i with
        | some u => some (u, M)
        | none => none)
      | some (some (.lst xs)) => (match atI xs i with
        | some u => some (.d u, M)
        | none => none)
      | _ => none
    | x => match rdL M x with
      | some xs => (match atI xs i with
        | some u => some (.d u, M)
        | none => none)
      | none => match rdT x with
        | some xs => (match atI xs i with
          | some u => some (.d u, M)
          | none => none)
        | none => none
  | _ => none
theorem Rs.atI {ds : List D} {vs : List V} {i : Int} {d : D} (h : Rs c Z vs ds) (e : atI ds i = some d) : ∃ v, atI vs i = some v ∧ R c Z v d := by
  unfold L2.atI at e ⊢
  rw [h.length]
  cases q : ixN ds.length i with
  | none => (rw [q] at e; cases e)
  | some j =>
    rw [q] at e
    exact h.get (show ds[j]? = some d from e)
theorem RVs.get : ∀ {ds : List Vl} {vs : List V} {i : Nat} {d : Vl}, RVs c ρ Z vs ds → ds[i]? = some d → ∃ v, vs[i]? = some v ∧ RV c ρ Z v d
  | [], [], _, _, _, e => by simp at e
  | _ :: _, _ :: _, 0, _, h, e => by simp at e; subst e; exact ⟨_, rfl, h.1⟩
  | _ :: _, _ :: _, i + 1, d, h, e => by
    obtain ⟨v, e1, r⟩ := RVs.get (i := i) (d := d) h.2 (by simpa using e)
    exact ⟨v, by simpa using e1, r⟩
  | [], _ :: _, _, _, h, _ => h.elim
  | _ :: _, [], _, _, h, _ => h.elim
theorem RVs.atI {ds : List Vl} {vs : List V} {i : Int} {d : Vl} (h : RVs c ρ Z vs ds) (e : L2.atI ds i = some d) : ∃ v, L2.atI vs i = some v ∧ RV c ρ Z v d := by
  unfold L2.atI at e ⊢
  rw [RVs.length h]
  cases q : ixN ds.length i with
  | none => (rw [q] at e; cases e)
  | some j =>
    rw [q] at e
    exact RVs.get h (show ds[j]? = some d from e)
theorem d_ix (hc : X.K = c.K) (ha : PE X a (tE c W ia)) (hb : PE X b (tE c W ib)) (hs : PlainIx b) : PE X (.Subscript a b pos) (tE c W (eOp oIx ia ib)) :=
  PE.weak (pe_ix (r := tO c oIx) (fun vl sl pins s σ H x y v u Q I rx ry ⟨B, ρ, Z, M, dx, dy, rel, r1, r2, po⟩ hsub => by
    refine ix_seq vl sl pins s σ H x y v u Q I rx ry ?_ hsub
    rw [hc]
    unfold oIx at po
    split at po
    · rename_i i
      have e2 := R.int_inv r2
      split at po
      · rename_i z
        have e1 := R.str_inv r1
        split at po
        · rename_i hl
          split at po
          · rename_i k q
            exact .inr (.inr ⟨z, i, k, e1, e2, lim_ok hl, q, po_self po rel (R.str _)⟩)
          · exact po.elim
        · exact po.elim
      · rename_i k
        split at po
        · rename_i xs q
          split at po
          · rename_i w q2
            obtain ⟨ad, h1, h2⟩ := r1
            obtain ⟨_, vs, h3, h4⟩ := rel.cel k _ ad q h2
            obtain ⟨wv, h5, h6⟩ := RVs.atI h4 q2
            exact .inl ⟨ad, vs, i, wv, h1, e2, SqL.of h3, h5, po_self po rel h6⟩
          · exact po.elim
        · rename_i xs q
          split at po
          · rename_i w q2
            obtain ⟨ad, h1, h2⟩ := r1
            obtain ⟨_, vs, h3, h4⟩ := rel.cel k _ ad q h2
            obtain ⟨wv, h5, h6⟩ := h4.atI q2
            exact .inl ⟨ad, vs, i, wv, h1, e2, SqL.of h3, h5, po_self po rel h6⟩
          · exact po.elim
        · exact po.elim
      · split at po
        · rename_i xs q
          split at po
          · rename_i w q2
            obtain ⟨ad, vs, h1, h2, h3⟩ := rdL_ok rel r1 q
            obtain ⟨wv, h5, h6⟩ := h3.atI q2
            exact .inl ⟨ad, vs, i, wv, h1, e2, h2, h5, po_self po rel h6⟩
          · exact po.elim
        · split at po
          · rename_i xs q
            split at po
            · rename_i w q2
              obtain ⟨ad, vs, h1, h2, h3⟩ := rdT_ok rel r1 q
              obtain ⟨wv, h5, h6⟩ := h3.atI q2
              exact .inr (.inl ⟨ad, vs, i, wv, h1, e2, h2, h5, po_self po rel h6⟩)
            · exact po.elim
          · exact po.elim
    · exact po.elim) ha hb hs) fun _ _ _ => rd_op
end
end Mo

namespace Mo
open PySem L2
section
variable {c : Kx} {W : WX} {σ : L2.St} {H : Hp} {X : Cx} {B : List Nat} {ρ : List Addr} {Z : Hp} {M : Store} {v : V} {x : Vl} {pos : Pos}

/-! ### slices -/
abbrev EvO := EvX (Option Int)
def relO : List Addr → Hp → Option Int → Option Int → Prop := fun _ _ x y => x = y
def tOo (c : Kx) (W : WX) (e : EvO) : TO := tG c W relO e
def oNone : EvO := fun _ _ M => .ok (none, M)
def oSome (e : EvE) : EvO := fun b env M => (e b env M).bind fun q => match q.1 with
  | .d (.int i) => .ok (some i, q.2)
  | _ => .bad
theorem PO.weak {e : Option Expr} {t t' : TO} (h : PO X e t) (w : ∀ σ H Q, t' σ H Q → t σ H Q) : PO X e t' := ⟨fun pins s σ H Q I q => h.run pins s σ H Q I (w σ H Q q)⟩
theorem d_onone : PO X none (tOo c W oNone) := PO.weak po_none fun σ H Q ⟨b, B, ρ, Z, M, env, a, po⟩ => po none ρ Z H (Ext.refl _ _) a.rel rfl
theorem d_osome {e : Expr} {ie : EvE} (h : PE X e (tE c W ie)) : PO X (some e) (tOo c W (oSome ie)) := PO.weak (po_some h) fun σ H Q h => by
  have h : tG c W relO (fun b env M => (ie b env M).bind fun q => match q.1 with | .d (.int i) => .ok (some i, q.2) | _ => .bad) σ H Q := h
  refine tG.mono (tG.bind (k := fun (x : Vl) b env M => (match x with | .d (.int i) => .ok (some i, M) | _ => .bad : Res Ex (Option Int × Store))) h) fun y H1 ⟨dx, b, B, ρ, Z, M, env, a, p, po⟩ => ?_
  dsimp only at po
  split at po
  · exact ⟨_, R.int_inv p, po _ ρ Z H1 (Ext.refl _ _) a.rel rfl⟩
  · exact po.elim
def cutD {α : Type} (xs : List α) (lo hi : Option Int) : List α := (xs.drop (HT.sIx xs.length 0 lo)).take (HT.sIx xs.length xs.length hi - HT.sIx xs.length 0 lo)
theorem Rs.cut {ds : List D} {vs : List V} (h : Rs c Z vs ds) (lo hi : Option Int) : Rs c Z (cutV vs lo hi) (cutD ds lo hi) := by
  unfold cutV cutD
  rw [h.length]
  exact (h.drop _).take _
def oSl (own : Bool) (x : Vl) (lo hi : Option Int) (M : Store) : Option (Vl × Store) := match x with
  | .d (.tup xs) => if HT.sIx xs.length 0 lo = 0 ∧ HT.sIx xs.length xs.length hi = xs.length then none else some (.d (.tup (cutD xs lo hi)), M)
  | x => match rdL M x with
    | some xs => some (mkL own (cutD xs lo hi) M)
    | none => none
def tSO (c : Kx) (own : Bool) : V → Option Int → Option Int → Hp → VK → Prop := fun x lo hi H Q => ∃ B ρ Z M dx, Rel c B ρ Z H M ∧ RV c ρ Z x dx ∧ PoO c B ρ Z Q (oSl own dx lo hi M)
def eSl (own : Bool) (e : EvE) (lo hi : EvO) : EvE := fun b env M => (e b env M).bind fun q => (lo b env q.2).bind fun u => (hi b env u.2).bind fun w => Res.opt (oSl own q.1 u.1 w.1 w.2)
theorem d_sl (hc : X.K = c.K) {own : Bool} {e : Expr} {lo hi : Option Expr} {ie : EvE} {il ih : EvO} {p2 : Pos} (he : PE X e (tE c W ie)) (hl : PO X lo (tOo c W il)) (hh : PO X hi (tOo c W ih)) : PE X (.Subscript e (.Slice lo hi none p2) pos) (tE c W (eSl own ie il ih)) :=
  PE.weak (pe_slice (r := tSO c own) (fun pins s σ H x v vl vu lo hi sl Q I rx hs pl pu ⟨B, ρ, Z, M, dx, rel, r1, po⟩ => by
    refine (sl_list.or sl_tup) pins s σ H x v vl vu lo hi sl Q I rx hs pl pu ?_
    rw [hc]
    unfold oSl at po
    split at po
    · rename_i xs
      split at po
      · exact po.elim
      · rename_i hw
        obtain ⟨a, vs, rfl, h1, q1⟩ := rdT_ok rel (xs := xs) r1 rfl
        exact .inr ⟨a, vs, rfl, h1, by rw [q1.length]; exact hw, fun p hp => po_frt po rel (q1.cut lo hi) hp⟩
    · split at po
      · rename_i xs q
        obtain ⟨a, vs, rfl, h1, q1⟩ := rdL_ok rel r1 q
        exact .inl ⟨a, vs, rfl, h1, fun p hp => po_mk po rel (q1.cut lo hi) hp⟩
      · exact po.elim) he hl hh) fun σ H Q h => by
    have h : tG c W (RV c) (fun b env M => (ie b env M).bind fun q => (il b env q.2).bind fun u => (ih b env u.2).bind fun w => Res.opt (oSl own q.1 u.1 w.1 w.2)) σ H Q := h
    refine tG.mono (tG.bind (k := fun x b env M => (il b env M).bind fun u => (ih b env u.2).bind fun w => Res.opt (oSl own x u.1 w.1 w.2)) h) fun x H1 ⟨dx, h1⟩ => ?_
    refine tG.mono (tGP.bind (k := fun y b env M => (ih b env M).bind fun w => Res.opt (oSl own dx y w.1 w.2)) Mono.rv h1) fun y H2 ⟨dy, h2⟩ => ?_
    refine tG.mono (tGP.bind (k := fun w b env M => Res.opt (oSl own dx dy w M)) (fun _ _ _ _ e q => ⟨RV.up q.1 e, q.2⟩) h2) fun w H3 ⟨dw, b, B, ρ, Z, M, env, a, ⟨⟨p1, p2⟩, p3⟩, po⟩ => ?_
    have p2 : y = dy := p2
    have p3 : w = dw := p3
    subst p2; subst p3
    exact ⟨B, ρ, Z, M, dx, a.rel, p1, PoO.of po⟩

/-! ### calls of built-ins -/
abbrev OpN := List Vl → Store → Option (Vl × Store)
def tCN (c : Kx) (r : OpN) : List V → Hp → VK → Prop := fun vs H Q => ∃ B ρ Z M xs, Rel c B ρ Z H M ∧ RVs c ρ Z vs xs ∧ PoO c B ρ Z Q (r xs M)
def eCB (r : OpN) (as : EvA) : EvE := fun b env M => (as b env M).bind fun q => Res.opt (r q.1 q.2)
theorem CallR.weak {f : Value} {r r' : List V → Hp → VK → Prop} (h : CallR X f r) (w : ∀ x H Q, r' x H Q → r x H Q) : CallR X f r' := fun pins s σ H xs us Q I r q => h pins s σ H xs us Q I r (w _ _ _ q)
theorem rd_cb {r : OpN} {as : EvA} {Q : VK} (h : tE c W (eCB r as) σ H Q) : tCB (tCN c r) (tAr c W as) σ H Q := by
  refine tG.mono (tG.bind (k := fun x b env M => Res.opt (r x M)) h) fun x H1 ⟨dx, b, B, ρ, Z, M, env, a, p, po⟩ => ?_
  exact ⟨B, ρ, Z, M, dx, a.rel, p, PoO.of po⟩
theorem d_cb {id : String} {r : OpN} {n : Str} {e : Expr} {es : List Expr} {as : EvA} {p : Pos} (hc : CallR X (.builtin id) (tCN c r)) (hg : Gl X n) (hm : X.mg n = none) (hv : bootBuiltins n = some (.builtin id)) (ha : PA X (e :: es) (tAr c W as)) (hn : n ≠ "__name__" := by decide) (hdb : (n == ("__debug__" : Str)) = false := by decide)
    (he : starEach (e :: es) X.env = (false, eval e X.env) :: starEach es X.env := by rfl) (hpl : (backTo pos (starEach es X.env)).any (·.1) = false := by rfl) : PE X (.Call (.Name n p) (e :: es) [] pos) (tE c W (eCB r as)) :=
  PE.weak (pe_callB hc hg hm hv ha hn hdb he hpl) fun _ _ _ => rd_cb
theorem d_cty {T : String} {r : OpN} {n : Str} {e : Expr} {es : List Expr} {as : EvA} {p : Pos} (hc : CallR X (.type T) (tCN c r)) (hg : Gl X n) (hm : X.mg n = none) (hv : bootBuiltins n = some (.type T)) (ha : PA X (e :: es) (tAr c W as)) (hn : n ≠ "__name__" := by decide) (hdb : (n == ("__debug__" : Str)) = false := by decide)
    (he : starEach (e :: es) X.env = (false, eval e X.env) :: starEach es X.env := by rfl) (hpl : (backTo pos (starEach es X.env)).any (·.1) = false := by rfl) : PE X (.Call (.Name n p) (e :: es) [] pos) (tE c W (eCB r as)) :=
  PE.weak (pe_callTy hc hg hm hv ha hn hdb he hpl) fun _ _ _ => rd_cb
theorem rvs1 {vs : List V} {x : Vl} (h : RVs c ρ Z vs [x]) : ∃ v, vs = [v] ∧ RV c ρ Z v x := by
  match vs, h with
  | [v], h => exact ⟨v, rfl, h.1⟩
  | [], h => exact h.elim
  | _ :: _ :: _, h => exact h.2.elim
theorem rvs2 {vs : List V} {x y : Vl} (h : RVs c ρ Z vs [x, y]) : ∃ v w, vs = [v, w] ∧ RV c ρ Z v x ∧ RV c ρ Z w y := by
  match vs, h with
  | [v, w], h => exact ⟨v, w, rfl, h.1, h.2.1⟩
  | [], h => exact h.elim
  | [_], h => exact h.2.elim
  | _ :: _ :: _ :: _, h => exact h.2.2.elim
def lenO (M : Store) (x : Vl) : Option Nat := match x with
  | .d (.str y) => if y.length ≤ LIM then some y.length else none
  | .c k => match M[k]? with
    | some (some (.lst xs)) => some xs.length
    | some (some (.lsc xs)) => some xs.length
    | _ => none
  | x => match rdL M x with
    | some xs => some xs.length
    | none => match rdT x with
      | some xs => some xs.length
      | none => none
def oLen : OpN := fun xs M => match xs with
  | [x] => match lenO M x with
    | some n => some (.d (.int n), M)
    | none => none
  | _ => none
theorem len_rep (r : Rel c B ρ Z H M) (h : RV c ρ Z v x) {n : Nat} (e : lenO M x = some n) : LenV c.K v H n := by
  unfold lenO at e
  split at e
  · split at e
    · rename_i hl
      cases e; rw [R.str_inv h]; exact ⟨lim_ok hl, rfl⟩
    · cases e
  · rename_i k
    split at e
    · rename_i xs q
      cases e
      obtain ⟨ad, h1, h2⟩ := h
      obtain ⟨_, vs, h3, h4⟩ := r.cel k _ ad q h2
      subst h1
      exact .inl ⟨vs, SqL.of h3, h4.length.symm⟩
    · rename_i xs q
      cases e
      obtain ⟨ad, h1, h2⟩ := h
      obtain ⟨_, vs, h3, h4⟩ := r.cel k _ ad q h2
      subst h1
      exact .inl ⟨vs, SqL.of h3, (RVs.length h4).symm⟩
    · cases e
  · split at e
    · rename_i xs q
      cases e
      obtain ⟨a, vs, rfl, h1, h2⟩ := rdL_ok r h q
      exact .inl ⟨vs, h1, h2.length.symm⟩
    · split at e
      · rename_i xs q
        cases e
        obtain ⟨a, vs, rfl, h1, h2⟩ := rdT_ok r h q
        exact .inr ⟨vs, h1, h2.length.symm⟩
      · cases e
theorem k_len (hc : X.K = c.K) : CallR X (.builtin "len") (tCN c oLen) := CallR.weak call_len fun vs H Q ⟨B, ρ, Z, M, xs, rel, rs, po⟩ => by
  unfold oLen at po
  split at po
  · split at po
    · rename_i n q
      obtain ⟨v, rfl, h⟩ := rvs1 rs
      exact ⟨v, n, rfl, by rw [hc]; exact len_rep rel h q, po_self po rel (R.int _)⟩
    · exact po.elim
  · exact po.elim
def oAbs : OpN := fun xs M => match xs with
  | [.d (.int i)] => some (.d (.int (if i < 0 then -i else i)), M)
  | _ => none
theorem k_abs : CallR X (.builtin "abs") (tCN c oAbs) := CallR.weak call_abs fun vs H Q ⟨B, ρ, Z, M, xs, rel, rs, po⟩ => by
  unfold oAbs at po
  split at po
  · obtain ⟨v, rfl, h⟩ := rvs1 rs
    exact ⟨_, by rw [R.int_inv h], po_self po rel (R.int _)⟩
  · exact po.elim
/-- ints of a list -/
def ints? : List D → Option (List Int)
  | [] => some []
  | .int i :: r => match ints? r with
    | some ns => some (i :: ns)
    | none => none
  | _ => none
theorem ints_ok : ∀ {xs : List D} {ns : List Int} {vs : List V}, ints? xs = some ns → Rs c Z vs xs → vs = ns.map V.int
  | [], _, _, e, h => by cases e; cases h; rfl
  | .int i :: r, ns, _, e, h => by
    unfold ints? at e
    split at e
    · rename_i ms q
      cases e
      cases h with
      | cons h1 h2 => rw [R.int_inv h1, ints_ok q h2] <;> rfl
    · cases e
  | .non :: _, _, _, e, _ | .no :: _, _, _, e, _ | .bl _ :: _, _, _, e, _ | .str _ :: _, _, _, e, _ | .lst _ :: _, _, _, e, _ | .lck _ :: _, _, _, e, _ | .tup _ :: _, _, _, e, _ | .ins _ _ :: _, _, _, e, _ => by simp [ints?] at e
def maxL : List Int → Int
  | [] => 0
  | [i] => i
  | i :: r => if maxL r > i then maxL r else i
def minL : List Int → Int
  | [] => 0
  | [i] => i
  | i :: r => if minL r < i then minL r else i
theorem maxL_ok : ∀ (ns : List Int) (m : Int), m ∈ ns → (∀ y ∈ ns, y ≤ m) → m = maxL ns
  | [], _, h, _ => by cases h
  | [i], m, h, _ => by simpa [maxL, minL] using h
  | i :: j :: r, m, h, hm => by
    show m = if maxL (j :: r) > i then maxL (j :: r) else i
    have hi := hm i (List.mem_cons_self ..)
    have ih : ∀ m', m' ∈ j :: r → (∀ y ∈ j :: r, y ≤ m') → m' = maxL (j :: r) := maxL_ok (j :: r)
    obtain ⟨k, hk, hk2⟩ : ∃ k, k ∈ j :: r ∧ ∀ y ∈ j :: r, y ≤ k := by
      clear ih hm h hi
      induction r generalizing j with
      | nil => exact ⟨j, List.mem_cons_self .., fun y hy => by simp at hy; omega⟩
      | cons l t ih =>
        obtain ⟨k, h1, h2⟩ := ih l
        by_cases hjk : j ≤ k
        · exact ⟨k, List.mem_cons_of_mem _ h1, fun y hy => by
            rcases (List.mem_cons).mp hy with e | e
            · omega
            · exact h2 y e⟩
        · exact ⟨j, List.mem_cons_self .., fun y hy => by
            rcases (List.mem_cons).mp hy with e | e
            · omega
            · have := h2 y e; omega⟩
    have e := ih k hk hk2
    rw [← e]
    rcases List.mem_cons.mp h with h | h
    · subst h
      have := hm k (List.mem_cons_of_mem _ hk)
      split <;> omega
    · have h1 := hk2 m h
      have h2 := hm k (List.mem_cons_of_mem _ hk)
      split <;> omega
theorem minL_ok : ∀ (ns : List Int) (m : Int), m ∈ ns → (∀ y ∈ ns, m ≤ y) → m = minL ns
  | [], _, h, _ => by cases h
  | [i], m, h, _ => by simpa [maxL, minL] using h
  | i :: j :: r, m, h, hm => by
    show m = if minL (j :: r) < i then minL (j :: r) else i
    have hi := hm i (List.mem_cons_self ..)
    have ih : ∀ m', m' ∈ j :: r → (∀ y ∈ j :: r, m' ≤ y) → m' = minL (j :: r) := minL_ok (j :: r)
    obtain ⟨k, hk, hk2⟩ : ∃ k, k ∈ j :: r ∧ ∀ y ∈ j :: r, k ≤ y := by
      clear ih hm h hi
      induction r generalizing j with
      | nil => exact ⟨j, List.mem_cons_self .., fun y hy => by simp at hy; omega⟩
      | cons l t ih =>
        obtain ⟨k, h1, h2⟩ := ih l
        by_cases hjk : k ≤ j
        · exact ⟨k, List.mem_cons_of_mem _ h1, fun y hy => by
            rcases (List.mem_cons).mp hy with e | e
            · omega
            · exact h2 y e⟩
        · exact ⟨j, List.mem_cons_self .., fun y hy => by
            rcases (List.mem_cons).mp hy with e | e
            · omega
            · have := h2 y e; omega⟩
    have e := ih k hk hk2
    rw [← e]
    rcases List.mem_cons.mp h with h | h
    · subst h
      have := hm k (List.mem_cons_of_mem _ hk)
      split <;> omega
    · have h1 := hk2 m h
      have h2 := hm k (List.mem_cons_of_mem _ hk)
      split <;> omega
def oMax : OpN := fun xs M => match xs with
  | [.d (.int i), .d (.int j)] => some (.d (.int (if j > i then j else i)), M)
  | [x] => match rdL M x with
    | some ys => match ints? ys with
      | some ns => if 0 < ns.length then some (.d (.int (maxL ns)), M) else none
      | none => none
    | none => none
  | _ => none
def oMin : OpN := fun xs M => match xs with
  | [.d (.int i), .d (.int j)] => some (.d (.int (if j < i then j else i)), M)
  | [x] => match rdL M x with
    | some ys => match ints? ys with
      | some ns => if 0 < ns.length then some (.d (.int (minL ns)), M) else none
      | none => none
    | none => none
  | _ => none
theorem k_max (hc : X.K = c.K) (hcm : X.calm = true) : CallR X (.builtin "max") (tCN c oMax) := CallR.weak ((call_max2 hcm).or (cr_max hcm)) fun vs H Q ⟨B, ρ, Z, M, xs, rel, rs, po⟩ => by
  unfold oMax at po
  split at po
  · obtain ⟨v, w, rfl, h1, h2⟩ := rvs2 rs
    exact .inl ⟨_, _, by rw [R.int_inv h1, R.int_inv h2], po_self po rel (R.int _)⟩
  · split at po
    · rename_i ys q
      split at po
      · rename_i ns q2
        split at po
        · rename_i hl
          obtain ⟨v, rfl, h⟩ := rvs1 rs
          obtain ⟨a, vs, rfl, h1, h2⟩ := rdL_ok rel h q
          have e := ints_ok q2 h2
          subst e
          exact .inr ⟨a, ns, rfl, by rw [hc]; exact h1, hl, fun m hm hle => by
            rw [maxL_ok ns m hm hle]; exact po_self po rel (R.int _)⟩
        · exact po.elim
      · exact po.elim
    · exact po.elim
  · exact po.elim
theorem k_min (hc : X.K = c.K) (hcm : X.calm = true) : CallR X (.builtin "min") (tCN c oMin) := CallR.weak ((call_min2 hcm).or (cr_min hcm)) fun vs H Q ⟨B, ρ, Z, M, xs, rel, rs, po⟩ => by
  unfold oMin at po
  split at po
  · obtain ⟨v, w, rfl, h1, h2⟩ := rvs2 rs
    exact .inl ⟨_, _, by rw [R.int_inv h1, R.int_inv h2], po_self po rel (R.int _)⟩
  · split at po
    · rename_i ys q
      split at po
      · rename_i ns q2
        split at po
        · rename_i hl
          obtain ⟨v, rfl, h⟩ := rvs1 rs
          obtain ⟨a, vs, rfl, h1, h2⟩ := rdL_ok rel h q
          have e := ints_ok q2 h2
          subst e
          exact .inr ⟨a, ns, rfl, by rw [hc]; exact h1, hl, fun m hm hle => by
            rw [minL_ok ns m hm hle]; exact po_self po rel (R.int _)⟩
        · exact po.elim
      · exact po.elim
    · exact po.elim
  · exact po.elim
def oSum : OpN := fun xs M => match xs with
  | [x] => match rdL M x with
    | some ys => match ints? ys with
      | some ns => some (.d (.int ns.sum), M)
      | none => none
    | none => none
  | _ => none
theorem k_sum (hc : X.K = c.K) (hcm : X.calm = true) : CallR X (.builtin "sum") (tCN c oSum) := CallR.weak (cr_sum hcm) fun vs H Q ⟨B, ρ, Z, M, xs, rel, rs, po⟩ => by
  unfold oSum at po
  split at po
  · split at po
    · rename_i ys q
      split at po
      · rename_i ns q2
        obtain ⟨v, rfl, h⟩ := rvs1 rs
        obtain ⟨a, vs, rfl, h1, h2⟩ := rdL_ok rel h q
        have e := ints_ok q2 h2
        subst e
        exact ⟨a, ns, rfl, by rw [hc]; exact h1, po_self po rel (R.int _)⟩
      · exact po.elim
    · exact po.elim
  · exact po.elim
def oInt : OpN := fun xs M => match xs with
  | [.d (.int i)] => some (.d (.int i), M)
  | [.d (.bl k)] => some (.d (.int (if k then 1 else 0)), M)
  | _ => none
theorem k_int : CallR X (.type "int") (tCN c oInt) := CallR.weak call_int1 fun vs H Q ⟨B, ρ, Z, M, xs, rel, rs, po⟩ => by
  unfold oInt at po
  split at po
  · obtain ⟨v, rfl, h⟩ := rvs1 rs
    exact .inl ⟨_, by rw [R.int_inv h], po_self po rel (R.int _)⟩
  · obtain ⟨v, rfl, h⟩ := rvs1 rs
    exact .inr ⟨_, by rw [R.bl_inv h], po_self po rel (R.int _)⟩
  · exact po.elim
def oList (own : Bool) : OpN := fun xs M => match xs with
  | [x] => match rdL M x with
    | some ys => some (mkL own ys M)
    | none => match rdT x with
      | some ys => some (mkL own ys M)
      | none => none
  | _ => none
theorem k_list (hc : X.K = c.K) {own : Bool} : CallR X (.type "list") (tCN c (oList own)) := CallR.weak call_list_of fun vs H Q ⟨B, ρ, Z, M, xs, rel, rs, po⟩ => by
  unfold oList at po
  rw [hc]
  split at po
  · split at po
    · rename_i ys q
      obtain ⟨v, rfl, h⟩ := rvs1 rs
      obtain ⟨a, vs, rfl, h1, h2⟩ := rdL_ok rel h q
      exact ⟨a, vs, rfl, .inl h1, fun l hl => po_mk po rel h2 hl⟩
    · split at po
      · rename_i ys q
        obtain ⟨v, rfl, h⟩ := rvs1 rs
        obtain ⟨a, vs, rfl, h1, h2⟩ := rdT_ok rel h q
        exact ⟨a, vs, rfl, .inr h1, fun l hl => po_mk po rel h2 hl⟩
      · exact po.elim
  · exact po.elim
def oTupOf : OpN := fun xs M => match xs with
  | [x] => match rdL M x with
    | some ys => some (.d (.tup ys), M)
    | none => match rdT x with
      | some _ => some (x, M)
      | none => none
  | _ => none
theorem k_tuple (hc : X.K = c.K) : CallR X (.type "tuple") (tCN c oTupOf) := CallR.weak call_tuple_of fun vs H Q ⟨B, ρ, Z, M, xs, rel, rs, po⟩ => by
  unfold oTupOf at po
  rw [hc]
  split at po
  · split at po
    · rename_i ys q
      obtain ⟨v, rfl, h⟩ := rvs1 rs
      obtain ⟨a, vs, rfl, h1, h2⟩ := rdL_ok rel h q
      exact ⟨a, vs, rfl, .inl ⟨h1, fun l hl => po_frt po rel h2 hl⟩⟩
    · split at po
      · rename_i ys q
        obtain ⟨v, rfl, h⟩ := rvs1 rs
        obtain ⟨a, vs, rfl, h1, h2⟩ := rdT_ok rel h q
        exact ⟨a, vs, rfl, .inr ⟨h1, po_self po rel h⟩⟩
      · exact po.elim
  · exact po.elim
/-- bools of a list -/
def bls? : List D → Option (List Bool)
  | [] => some []
  | .bl i :: r => match bls? r with
    | some ns => some (i :: ns)
    | none => none
  | _ => none
theorem bls_ok : ∀ {xs : List D} {ns : List Bool} {vs : List V}, bls? xs = some ns → Rs c Z vs xs → vs = ns.map V.bl
  | [], _, _, e, h => by cases e; cases h; rfl
  | .bl i :: r, ns, _, e, h => by
    unfold bls? at e
    split at e
    · rename_i ms q
      cases e
      cases h with
      | cons h1 h2 => rw [R.bl_inv h1, bls_ok q h2] <;> rfl
    · cases e
  | .non :: _, _, _, e, _ | .no :: _, _, _, e, _ | .int _ :: _, _, _, e, _ | .str _ :: _, _, _, e, _ | .lst _ :: _, _, _, e, _ | .lck _ :: _, _, _, e, _ | .tup _ :: _, _, _, e, _ | .ins _ _ :: _, _, _, e, _ => by simp [bls?] at e
def oAll : OpN := fun xs M => match xs with
  | [x] => match rdL M x with
    | some ys => match bls? ys with
      | some ns => some (.d (.bl (ns.all id)), M)
      | none => none
    | none => none
  | _ => none
theorem k_all (hc : X.K = c.K) (hcm : X.calm = true) : CallR X (.builtin "all") (tCN c oAll) := CallR.weak (cr_all hcm) fun vs H Q ⟨B, ρ, Z, M, xs, rel, rs, po⟩ => by
  unfold oAll at po
  split at po
  · split at po
    · rename_i ys q
      split at po
      · rename_i ns q2
        obtain ⟨v, rfl, h⟩ := rvs1 rs
        obtain ⟨a, vs, rfl, h1, h2⟩ := rdL_ok rel h q
        have e := bls_ok q2 h2
        subst e
        exact ⟨a, ns, rfl, by rw [hc]; exact h1, po_self po rel (R.bl _)⟩
      · exact po.elim
    · exact po.elim
  · exact po.elim
end
end Mo

namespace Mo
open PySem L2
/-! ### statements -/
abbrev RS := Res (Ex × En) (Fl × En × Store)
def lift {α : Type} (env : En) : Res Ex α → Res (Ex × En) α
  | .ok a => .ok a
  | .exc e => .exc (e, env)
  | .bad => .bad
def PoS (c : Kx) (W : WX) (B : List Nat) (ρ : List Addr) (Z : Hp) (D : Ends) : RS → Prop
  | .ok (.nx, env, M) => ∀ σ' ρ' Z' H', Ext ρ Z ρ' Z' → Rel c B ρ' Z' H' M → RelS c ρ' Z' σ' env → D.nx σ' H'
  | .ok (.bk, env, M) => ∀ σ' ρ' Z' H', Ext ρ Z ρ' Z' → Rel c B ρ' Z' H' M → RelS c ρ' Z' σ' env → D.bk σ' H'
  | .ok (.ct, env, M) => ∀ σ' ρ' Z' H', Ext ρ Z ρ' Z' → Rel c B ρ' Z' H' M → RelS c ρ' Z' σ' env → D.ct σ' H'
  | .ok (.rt x, _, M) => ∀ v ρ' Z' H', Ext ρ Z ρ' Z' → Rel c B ρ' Z' H' M → RV c ρ' Z' v x → D.rt v H'
  | .exc (e, env) => ∀ σ' ρ' Z' H' a xs, Ext ρ Z ρ' Z' → Rel c B ρ' Z' H' e.M → RelS c ρ' Z' σ' env → H' a = some (.xd xs) → Rf c Z' (c.F e.c) xs e.fs → W (.ref (c.C e.c)) (some a) σ' H'
  | .bad => False
def tSt (c : Kx) (W : WX) (s : EvS) : TS := fun D σ H => ∃ b B ρ Z M env, At c b B ρ Z M env σ H ∧ PoS c W B ρ Z D (s b env M)
section
variable {c : Kx} {W : WX} {σ : L2.St} {H : Hp} {X : Cx} {B : List Nat} {ρ ρ1 : List Addr} {Z Z1 : Hp} {M : Store} {v : V} {x : Vl} {pos : Pos} {dd : Ends} {env : En}
theorem PoS.ext {r : RS} (h : PoS c W B ρ Z dd r) (e : Ext ρ Z ρ1 Z1) : PoS c W B ρ1 Z1 dd r := by
  cases r with
  | ok x =>
    obtain ⟨f, en, M⟩ := x
    cases f with
    | nx => exact fun σ' ρ' Z' H' e' => h σ' ρ' Z' H' (e.trans e')
    | bk => exact fun σ' ρ' Z' H' e' => h σ' ρ' Z' H' (e.trans e')
    | ct => exact fun σ' ρ' Z' H' e' => h σ' ρ' Z' H' (e.trans e')
    | rt x => exact fun v ρ' Z' H' e' => h v ρ' Z' H' (e.trans e')
  | exc x =>
    obtain ⟨q, en⟩ := x
    exact fun σ' ρ' Z' H' a xs e' => h σ' ρ' Z' H' a xs (e.trans e')
  | bad => exact h
/-- e, then a statement's rest -/
def tSP (c : Kx) (W : WX) (s : EvS) (P : List Addr → Hp → Prop) : TS := fun D σ H => ∃ b B ρ Z M env, At c b B ρ Z M env σ H ∧ P ρ Z ∧ PoS c W B ρ Z D (s b env M)
theorem tSP.bind {α β : Type} {rel : List Addr → Hp → β → α → Prop} {e : EvX α} {k : α → EvS} {P : List Addr → Hp → Prop} (mp : Mono P)
    (h : tSP c W (fun b env M => (lift env (e b env M)).bind fun r => k r.1 b env r.2) P dd σ H) : tG c W rel e σ H fun y H1 => ∃ x, tSP c W (k x) (fun ρ Z => P ρ Z ∧ rel ρ Z y x) dd σ H1 := by
  obtain ⟨b, B, ρ, Z, M, env, a, p, po⟩ := h
  refine ⟨b, B, ρ, Z, M, env, a, ?_⟩
  dsimp only at po
  cases q : e b env M with
  | ok r =>
    rw [q] at po
    exact fun v ρ' Z' H' e' r' rv => ⟨r.1, b, B, ρ', Z', r.2, env, ⟨r', a.sl.up e', a.hb⟩, ⟨mp _ _ _ _ e' p, rv⟩, PoS.ext po e'⟩
  | exc x =>
    rw [q] at po
    exact fun ρ' Z' H' ad xs e' r' h1 h2 => po σ ρ' Z' H' ad xs e' r' (a.sl.up e') h1 h2
  | bad => rw [q] at po; exact po
theorem tSt.bind {α β : Type} {rel : List Addr → Hp → β → α → Prop} {e : EvX α} {k : α → EvS}
    (h : tSt c W (fun b env M => (lift env (e b env M)).bind fun r => k r.1 b env r.2) dd σ H) : tG c W rel e σ H fun y H1 => ∃ x, tSP c W (k x) (fun ρ Z => rel ρ Z y x) dd σ H1 := by
  obtain ⟨b, B, ρ, Z, M, env, a, po⟩ := h
  refine tG.mono (tSP.bind (P := fun _ _ => True) Mono.tr ⟨b, B, ρ, Z, M, env, a, trivial, po⟩) fun y H1 ⟨x, b, B, ρ, Z, M, env, a, p, po⟩ => ⟨x, b, B, ρ, Z, M, env, a, p.2, po⟩
def sNil : EvS := fun _ env M => .ok (.nx, env, M)
def sSeq (s t : EvS) : EvS := fun b env M => (s b env M).bind fun q => match q.1 with
  | .nx => t b q.2.1 q.2.2
  | f => .ok (f, q.2.1, q.2.2)
theorem d_nil : PSs X [] (tSt c W sNil) := PSs.weak pss_nil fun D σ H ⟨b, B, ρ, Z, M, env, a, po⟩ => po σ ρ Z H (Ext.refl _ _) a.rel a.sl
variable {st : Stmt} {rest : List Stmt} {s t : EvS}
theorem d_one1 (h1 : PS X st (tSt c W s)) : PSs X [st] (tSt c W s) := pss_one h1
theorem d_cons (h1 : PS X st (tSt c W s)) (h2 : PSs X rest (tSt c W t)) : PSs X (st :: rest) (tSt c W (sSeq s t)) :=
  PSs.weak (pss_cons h1 h2) fun D σ H ⟨b, B, ρ, Z, M, env, a, po⟩ => by
    refine ⟨b, B, ρ, Z, M, env, a, ?_⟩
    unfold sSeq at po
    cases q : s b env M with
    | ok r =>
      rw [q] at po
      obtain ⟨f, en, M'⟩ := r
      cases f with
      | nx => exact fun σ' ρ' Z' H' e' r' s' => ⟨b, B, ρ', Z', M', en, ⟨r', s', a.hb⟩, PoS.ext po e'⟩
      | bk => exact po
      | ct => exact po
      | rt x => exact po
    | exc x => rw [q] at po; exact po
    | bad => rw [q] at po; exact po
/-- ghost steps: what no statement does -/
def sKill (is : List Nat) (s : EvS) : EvS := fun b env M => s b (is.foldl (fun e i => e.set i none) env) M
theorem kill_ok : ∀ (is : List Nat) {env : En}, RelS c ρ Z σ env → RelS c ρ Z σ (is.foldl (fun e i => e.set i none) env)
  | [], _, h => h
  | i :: is, _, h => kill_ok is (h.kill i)
theorem d_kill {is : List Nat} (h : PSs X rest (tSt c W s)) : PSs X rest (tSt c W (sKill is s)) := PSs.weak h fun D σ H ⟨b, B, ρ, Z, M, env, a, po⟩ =>
  ⟨b, B, ρ, Z, M, _, ⟨a.rel, kill_ok is a.sl, a.hb⟩, po⟩
/-! small statements -/
def sPass : EvS := sNil
def sBrk : EvS := fun _ env M => .ok (.bk, env, M)
def sCnt : EvS := fun _ env M => .ok (.ct, env, M)
def sNever : EvS := fun _ _ _ => .bad
theorem d_pass : PS X (.Pass pos) (tSt c W sNil) := PS.weak ps_pass fun D σ H ⟨b, B, ρ, Z, M, env, a, po⟩ => po σ ρ Z H (Ext.refl _ _) a.rel a.sl
theorem d_doc {y j pos'} : PS X (.Expr (.Constant (.str y) j pos) pos') (tSt c W sNil) := PS.weak ps_doc fun D σ H ⟨b, B, ρ, Z, M, env, a, po⟩ => po σ ρ Z H (Ext.refl _ _) a.rel a.sl
theorem d_brk : PS X (.Break pos) (tSt c W sBrk) := PS.weak ps_break fun D σ H ⟨b, B, ρ, Z, M, env, a, po⟩ => po σ ρ Z H (Ext.refl _ _) a.rel a.sl
theorem d_cnt : PS X (.Continue pos) (tSt c W sCnt) := PS.weak ps_continue fun D σ H ⟨b, B, ρ, Z, M, env, a, po⟩ => po σ ρ Z H (Ext.refl _ _) a.rel a.sl
theorem d_never : PS X st (tSt c W sNever) := PS.weak ps_never fun D σ H ⟨b, B, ρ, Z, M, env, a, po⟩ => po
theorem d_nevers : PSs X rest (tSt c W sNever) := PSs.weak pss_never fun D σ H ⟨b, B, ρ, Z, M, env, a, po⟩ => po
/-- return e -/
def sRet (e : EvE) : EvS := fun b env M => (lift env (e b env M)).bind fun q => .ok (.rt q.1, env, q.2)
theorem d_ret {e : Expr} {ie : EvE} (h : PE X e (tE c W ie)) : PS X (.Return (some e) pos) (tSt c W (sRet ie)) := PS.weak (ps_ret h) fun D σ H h => by
  refine tG.mono (tSt.bind (k := fun x b env M => .ok (.rt x, env, M)) h) fun y H1 ⟨dx, b, B, ρ, Z, M, env, a, p, po⟩ => ?_
  exact po y ρ Z H1 (Ext.refl _ _) a.rel p
def sRetN : EvS := fun _ env M => .ok (.rt (.d .non), env, M)
theorem d_retN : PS X (.Return none pos) (tSt c W sRetN) := PS.weak ps_retN fun D σ H ⟨b, B, ρ, Z, M, env, a, po⟩ => po _ ρ Z H (Ext.refl _ _) a.rel .non
/-- an expression, dropped -/
def sDrop (e : EvE) : EvS := fun b env M => (lift env (e b env M)).bind fun q => .ok (.nx, env, q.2)
theorem d_drop {e : Expr} {ie : EvE} (h : PE X e (tE c W ie)) (hs : swapsWith e none pos.line X.env = pure false := by rfl) : PS X (.Expr e pos) (tSt c W (sDrop ie)) := PS.weak (ps_expr h hs) fun D σ H h => by
  refine tG.mono (tSt.bind (k := fun x b env M => .ok (.nx, env, M)) h) fun y H1 ⟨dx, b, B, ρ, Z, M, env, a, p, po⟩ => ?_
  exact po σ ρ Z H1 (Ext.refl _ _) a.rel a.sl
/-- if -/
def sIf (e : EvT) (s t : EvS) : EvS := fun b env M => (lift env (e b env M)).bind fun q => if q.1 = true then s b env q.2 else t b env q.2
theorem d_if {e : Expr} {a b : List Stmt} {ie : EvT} (hc : PT X e (tT c W ie)) (ha : PSs X a (tSt c W s)) (hb : PSs X b (tSt c W t)) : PS X (.If e a b pos) (tSt c W (sIf ie s t)) := PS.weak (ps_if hc ha hb) fun D σ H h => by
  refine tG.mono (tSt.bind (k := fun x b env M => if x = true then s b env M else t b env M) h) fun y H1 ⟨k, b, B, ρ, Z, M, env, a, p, po⟩ => ?_
  have p : y = k := p
  subst p
  cases y with
  | true => exact ⟨b, B, ρ, Z, M, env, a, po⟩
  | false => exact ⟨b, B, ρ, Z, M, env, a, po⟩
/-! targets -/
abbrev EvG := Vl → En → Option En
def tGt (c : Kx) (g : EvG) : TG := fun v σ H Q => ∃ B ρ Z M env x env', Rel c B ρ Z H M ∧ RelS c ρ Z σ env ∧ RV c ρ Z v x ∧ g x env = some env' ∧ ∀ σ' ρ' Z' H', Ext ρ Z ρ' Z' → Rel c B ρ' Z' H' M → RelS c ρ' Z' σ' env' → Q σ' H'
theorem PG.weak {e : Expr} {t t' : TG} (h : PG X e t) (w : ∀ v σ H Q, t' v σ H Q → t v σ H Q) : PG X e t' := ⟨fun pins s σ H v u Q I r q => h.run pins s σ H v u Q I r (w v σ H Q q)⟩
def gN (i : Nat) : EvG := fun x env => some (env.set i (some x))
theorem g_name {i : Nat} {e : Expr} (h : PG X e (gName i)) : PG X e (tGt c (gN i)) := PG.weak h fun v σ H Q ⟨B, ρ, Z, M, env, x, env', rel, sl, rv, e, q⟩ => by
  cases e
  exact q _ ρ Z H (Ext.refl _ _) rel (sl.set rv)
/-- names, one behind another -/
def gNs : List Nat → List D → En → Option En
  | [], [], env => some env
  | i :: is, x :: xs, env => gNs is xs (env.set i (some (.d x)))
  | _, _, _ => none
def gT (is : List Nat) : EvG := fun x env => match x with
  | .d (.tup xs) => gNs is xs env
  | _ => none
def gNames : List Nat → TGs
  | [] => gNil
  | i :: is => gCons (gName i) (gNames is)
theorem gNs_ok : ∀ {is : List Nat} {xs : List D} {vs : List V} {σ : L2.St} {env env' : En} {H : Hp} {Q : L2.St → Hp → Prop}, gNs is xs env = some env' → Rs c Z vs xs → RelS c ρ Z σ env → (∀ σ', RelS c ρ Z σ' env' → Q σ' H) → gNames is vs σ H Q
  | [], [], [], _, _, _, _, _, e, _, sl, q => by cases e; exact ⟨rfl, q _ sl⟩
  | i :: is, x :: xs, _, _, _, _, _, _, e, h, sl, q => by
    cases h with
    | cons h1 h2 => exact ⟨_, _, rfl, gNs_ok (is := is) e h2 (sl.set (x := .d x) h1) q⟩
  | [], _ :: _, _, _, _, _, _, _, e, _, _, _ => by cases e
  | _ :: _, [], _, _, _, _, _, _, e, _, _, _ => by cases e
theorem gNs_len : ∀ {is : List Nat} {xs : List D} {env env' : En}, gNs is xs env = some env' → xs.length = is.length
  | [], [], _, _, _ => rfl
  | i :: is, x :: xs, _, _, e => congrArg (· + 1) (gNs_len (is := is) e)
  | [], _ :: _, _, _, e => by cases e
  | _ :: _, [], _, _, e => by cases e
theorem g_tup (hc : X.K = c.K) {is : List Nat} {e : Expr} (h : PG X e (gTup X.K is.length (gNames is))) : PG X e (tGt c (gT is)) := PG.weak h fun v σ H Q ⟨B, ρ, Z, M, env, x, env', rel, sl, rv, e, q⟩ => by
  unfold gT at e
  split at e
  · rename_i xs
    obtain ⟨a, vs, h1, h2, h3⟩ := rdT_ok rel rv rfl
    refine ⟨a, vs, h1, by rw [hc]; exact h2, by rw [h3.length]; exact gNs_len e, gNs_ok e h3 sl fun σ' s' => q σ' ρ Z H (Ext.refl _ _) rel s'⟩
  · cases e
/-- target = e -/
def sAsg (e : EvE) (g : EvG) : EvS := fun b env M => (lift env (e b env M)).bind fun q => match g q.1 env with
  | some env' => .ok (.nx, env', q.2)
  | none => .bad
theorem rd_asg {ie : EvE} {g : EvG} (h : tSt c W (sAsg ie g) dd σ H) : tAsg (tE c W ie) (tGt c g) dd σ H := by
  refine tG.mono (tSt.bind (k := fun x b env M => match g x env with | some env' => .ok (.nx, env', M) | none => .bad) h) fun y H1 ⟨dx, b, B, ρ, Z, M, env, a, p, po⟩ => ?_
  dsimp only at po
  cases q : g dx env with
  | none => rw [q] at po; exact po.elim
  | some env' =>
    rw [q] at po
    exact ⟨B, ρ, Z, M, env, dx, env', a.rel, a.sl, p, q, po⟩
theorem d_set {i : Nat} {n : Str} {e : Expr} {ie : EvE} {pos' : Pos} (hN : X.N.Nodup) (hi : X.N[i]? = some n) (hx : Loc X.env.scope n) (he : PE X e (tE c W ie)) (hs : swapsWith e (some (.Name n pos')) pos.line X.env = pure false := by rfl) (hf : X.fn n = true ∨ X.env.scope.names.lookup n = some .local := by first | exact .inl rfl | exact .inr rfl | assumption) :
    PS X (.Assign [.Name n pos'] e pos) (tSt c W (sAsg ie (gN i))) := PS.weak (ps_set hN hi hx he hs hf) fun D σ H h => by
  refine tG.mono (tSt.bind (k := fun x b env M => match gN i x env with | some env' => .ok (.nx, env', M) | none => .bad) h) fun y H1 ⟨dx, b, B, ρ, Z, M, env, a, p, po⟩ => ?_
  exact po _ ρ Z H1 (Ext.refl _ _) a.rel (a.sl.set p)
theorem d_asg {tg e : Expr} {ie : EvE} {g : EvG} (he : PE X e (tE c W ie)) (hg : PG X tg (tGt c g)) (hs : swapsWithSole [tg] e pos.line X.env = pure false := by rfl) (hw : swappedStores [tg] e X.env = pure none := by rfl)
    (h1 : (assignEach [tg] X.env).map (·.2) = [assign tg X.env] := by rfl) : PS X (.Assign [tg] e pos) (tSt c W (sAsg ie g)) := PS.weak (ps_asg he hg hs hw h1) fun _ _ _ => rd_asg
/-- name op= e -/
def tIO (c : Kx) (r : Op2) : TIp := tO c r
def sAug (i : Nat) (r : Op2) (e : EvE) : EvS := fun b env M => match env[i]? with
  | some (some x) => (lift env (e b env M)).bind fun q => match r x q.1 q.2 with
    | some (y, M') => .ok (.nx, env.set i (some y), M')
    | none => .bad
  | _ => .bad
theorem d_aug {i : Nat} {n : Str} {e : Expr} {op : Operator} {r : Op2} {ie : EvE} {pos' : Pos} (hN : X.N.Nodup) (hi : X.N[i]? = some n) (hx : Loc X.env.scope n) (he : PE X e (tE c W ie)) (ho : PIp X op (tO c r)) (hf : X.fn n = true ∨ X.env.scope.names.lookup n = some .local := by first | exact .inl rfl | exact .inr rfl | assumption) :
    PS X (.AugAssign (.Name n pos') op e pos) (tSt c W (sAug i r ie)) := PS.weak (ps_aug hN hi hx he ho hf) fun D σ H ⟨b, B, ρ, Z, M, env, a, po⟩ => by
  unfold sAug at po
  split at po
  · rename_i x hx
    obtain ⟨v, h1, h2⟩ := a.sl.at_ i x hx
    refine ⟨v, h1, ?_⟩
    have h3 : tSP c W (fun b env M => (lift env (ie b env M)).bind fun q => match r x q.1 q.2 with | some (y, M') => .ok (.nx, env.set i (some y), M') | none => .bad) (fun ρ Z => RV c ρ Z v x) D σ H := ⟨b, B, ρ, Z, M, env, a, h2, po⟩
    refine tG.mono (tSP.bind (k := fun y b env M => match r x y M with | some (y, M') => .ok (.nx, env.set i (some y), M') | none => .bad) Mono.rv h3) fun y H1 ⟨dy, b, B, ρ, Z, M, env, a, ⟨p1, p2⟩, po⟩ => ?_
    dsimp only at po
    refine ⟨B, ρ, Z, M, x, dy, a.rel, p1, p2, ?_⟩
    cases q : r x dy M with
    | none => rw [q] at po; exact po.elim
    | some u =>
      obtain ⟨z, M'⟩ := u
      rw [q] at po
      exact fun w ρ' Z' H' e' r' rv => po _ ρ' Z' H' e' r' ((a.sl.up e').set rv)
  · exact po.elim
theorem PIp.weak {op : Operator} {r r' : TIp} (h : PIp X op r) (w : ∀ x y H Q, r' x y H Q → r x y H Q) : PIp X op r' := fun pins s σ H x y v u Q I rx ry q => h pins s σ H x y v u Q I rx ry (w _ _ _ _ q)
theorem PIp.of {op : Operator} {r : R2} (h : OpR X (inplaceOp op) r) : PIp X op r := h
/-- += -/
def iAdd : Op2 := fun x y M => match x, y with
  | .d (.int i), .d (.int j) => some (.d (.int (i + j)), M)
  | .c k, y => match M[k]?, rdP M y with
    | some (some (.lst xs)), some ys => if xs.length + ys.length ≤ LIM then some (.c k, M.set k (some (.lst (xs ++ ys)))) else none
    | _, _ => none
  | _, _ => none
theorem po_wr {Q : VK} {k : Nat} {a : Addr} {xs ys : List D} {vs : List V} {y : Vl} {w : V} (po : PoO c B ρ Z Q (some (y, M.set k (some (.lst ys))))) (r : Rel c B ρ Z H M) (hk : M[k]? = some (some (.lst xs))) (ha : ρ[k]? = some a) (rs : Rs c Z vs ys) (rv : RV c ρ Z w y) : Q w (upd H a (.lst vs)) :=
  po w ρ Z _ (Ext.refl _ _) (r.wr hk ha ⟨vs, upd_same, rs⟩ fun _ _ _ => trivial) rv
theorem i_add : PIp X .Add (tO c iAdd) := PIp.weak (PIp.of (iop_add.or iop_ext)) fun x y H Q ⟨B, ρ, Z, M, dx, dy, rel, r1, r2, po⟩ => by
  cases dx with
  | d a =>
    cases a with
    | int i =>
      cases dy with
      | d b =>
        cases b with
        | int j => exact .inl ⟨_, _, R.int_inv r1, R.int_inv r2, po_self (x := .d (.int (i + j))) po rel (R.int _)⟩
        | _ => exact False.elim po
      | c k => exact False.elim po
    | _ => exact False.elim po
  | c k =>
    have po : PoO c B ρ Z Q (match M[k]?, rdP M dy with
      | some (some (.lst xs)), some ys => if xs.length + ys.length ≤ LIM then some (.c k, M.set k (some (.lst (xs ++ ys)))) else none
      | _, _ => none) := by
      cases dy <;> exact po
    split at po
    · rename_i xs ys q1 q2
      split at po
      · rename_i hl
        obtain ⟨ad, h1, h2⟩ := id r1
        obtain ⟨_, vs, h3, h4⟩ := rel.cel k _ ad q1 h2
        obtain ⟨a', vs', h5, h6, h7⟩ := rdP_ok rel r2 q2
        exact .inr ⟨ad, a', vs, vs', h1, h5, h3, h6, lim_ok (by rw [h4.length, h7.length]; exact hl), po_wr po rel q1 h2 (h4.append h7) ⟨ad, rfl, h2⟩⟩
      · exact po.elim
    · exact po.elim
theorem i_int {op : Operator} {C : Int → Int → Prop} {g : Int → Int → V} {C' : Int → Int → Bool} {g' : Int → Int → D} (h : OpR X (inplaceOp op) (rI C g)) (hC : ∀ i j, C' i j = true → C i j) (hg : ∀ Z i j, R c Z (g i j) (g' i j)) : PIp X op (tO c (opI C' g')) := o_int (f := inplaceOp op) h hC hg
theorem i_int0 {op : Operator} {g : Int → Int → V} {g' : Int → Int → D} (h : OpR X (inplaceOp op) (rI0 g)) (hg : ∀ Z i j, R c Z (g i j) (g' i j)) : PIp X op (tO c (opI (fun _ _ => true) g')) := o_int0 (f := inplaceOp op) h hg
theorem i_sub : PIp X .Sub (tO c oSub) := i_int0 iop_sub fun _ _ _ => .int _
theorem i_or : PIp X .BitOr (tO c oOr) := i_int0 iop_or fun _ _ _ => .int _
theorem i_xor : PIp X .BitXor (tO c oXor) := i_int0 iop_xor fun _ _ _ => .int _
theorem i_and : PIp X .BitAnd (tO c oAnd) := i_int0 iop_and fun _ _ _ => .int _
theorem i_shl : PIp X .LShift (tO c oShl) := o_shl0 (f := inplaceOp .LShift) iop_shl iop_shlW
/-! ### while -/
def whileL (e : EvT) (s : EvS) : Nat → EvS
  | 0, _, _, _ => .bad
  | n + 1, b, env, M => (lift env (e b env M)).bind fun q => if q.1 = true then
      (s b env q.2).bind fun u => match u.1 with
        | .nx => whileL e s n b u.2.1 u.2.2
        | .ct => whileL e s n b u.2.1 u.2.2
        | .bk => .ok (.nx, u.2.1, u.2.2)
        | .rt x => .ok (.rt x, u.2.1, u.2.2)
    else .ok (.nx, env, q.2)
def sWhile (e : EvT) (s : EvS) : EvS := whileL e s 16000000
theorem d_while {e : Expr} {body : List Stmt} {ie : EvT} (hp : PassesOwn (model X.prog X.w) X.A X.env X.xe) (hc : PT X e (tT c W ie)) (hb : PSs X body (tSt c W s)) : PS X (.While e body [] pos) (tSt c W (sWhile ie s)) := PS.weak (ps_while hp hc hb) fun D σ H h => by
  refine ⟨fun m σ H => tSt c W (whileL ie s m) D σ H, ⟨16000000, h⟩, ?_⟩
  clear h
  intro m σ H h
  cases m with
  | zero => obtain ⟨b, B, ρ, Z, M, env, a, po⟩ := h; exact po.elim
  | succ m =>
    refine tG.mono (tSt.bind (k := fun x b env M => if x = true then
      (s b env M).bind fun u => match u.1 with
        | .nx => whileL ie s m b u.2.1 u.2.2
        | .ct => whileL ie s m b u.2.1 u.2.2
        | .bk => .ok (.nx, u.2.1, u.2.2)
        | .rt x => .ok (.rt x, u.2.1, u.2.2)
      else .ok (.nx, env, M)) h) fun y H1 ⟨k, b, B, ρ, Z, M, env, a, p, po⟩ => ?_
    have p : y = k := p
    subst p
    cases y with
    | false => exact po σ ρ Z H1 (Ext.refl _ _) a.rel a.sl
    | true =>
      rw [if_pos rfl]
      refine ⟨fun σ' H' => tSt c W (whileL ie s m) D σ' H', fun σ' H' n => ⟨m, Nat.lt_succ_self _, n⟩, b, B, ρ, Z, M, env, a, ?_⟩
      dsimp only [if_pos] at po
      rw [if_pos rfl] at po
      cases q : s b env M with
      | bad => rw [q] at po; exact po
      | exc x => rw [q] at po; exact po
      | ok u =>
        rw [q] at po
        obtain ⟨f, en, M'⟩ := u
        cases f with
        | nx => exact fun σ' ρ' Z' H' e' r' s' => ⟨b, B, ρ', Z', M', en, ⟨r', s', a.hb⟩, PoS.ext po e'⟩
        | ct => exact fun σ' ρ' Z' H' e' r' s' => ⟨b, B, ρ', Z', M', en, ⟨r', s', a.hb⟩, PoS.ext po e'⟩
        | bk => exact po
        | rt x => exact po
end
end Mo

namespace Mo
open PySem L2
/-! ### targets of loops -/
inductive Tg where
  | n (i : Nat) | t (is : List Nat)
def Tg.g : Tg → EvG
  | .n i => gN i
  | .t is => gT is
def Tg.r (K : PySem.W.Frag) : Tg → TG
  | .n i => gName i
  | .t is => gTup K is.length (gNames is)
def Tg.sl : Tg → List Nat
  | .n i => [i]
  | .t is => is
section
variable {c : Kx} {W : WX} {σ : L2.St} {H : Hp} {X : Cx} {B : List Nat} {ρ ρ1 : List Addr} {Z Z1 : Hp} {M : Store} {v : V} {x : Vl} {pos : Pos} {dd : Ends} {env : En}
theorem wipe_set {σ : L2.St} {i : Nat} {w : Option V} : ∀ {vs : List Nat}, i ∈ vs → wipe (σ.set i w) vs = wipe σ vs := by
  intro vs hi
  apply List.ext_getElem?
  intro j
  have hl1 := wipe_length (σ.set i w) vs
  have hl2 := wipe_length σ vs
  rw [List.length_set] at hl1
  by_cases hj : j ∈ vs
  · by_cases hjl : j < σ.length
    · have a1 : (wipe (σ.set i w) vs)[j]? = some none := by
        cases e : (wipe (σ.set i w) vs)[j]? with
        | none => rw [List.getElem?_eq_none_iff] at e; omega
        | some u =>
          cases u with
          | none => rfl
          | some x => exact absurd hj (wipe_some e).2
      have a2 : (wipe σ vs)[j]? = some none := by
        cases e : (wipe σ vs)[j]? with
        | none => rw [List.getElem?_eq_none_iff] at e; omega
        | some u =>
          cases u with
          | none => rfl
          | some x => exact absurd hj (wipe_some e).2
      rw [a1, a2]
    · rw [List.getElem?_eq_none (by omega), List.getElem?_eq_none (by omega)]
  · rw [wipe_out hj, wipe_out hj]
    have : j ≠ i := fun e => hj (e ▸ hi)
    rw [List.getElem?_set_ne (Ne.symm this)]
theorem gNs_w {vs : List Nat} : ∀ {is : List Nat} {xs : List D} {ws : List V} {σ : L2.St} {env env' : En} {H : Hp} {Q : L2.St → Hp → Prop}, gNs is xs env = some env' → Rs c Z ws xs → RelS c ρ Z σ env → (∀ i ∈ is, i ∈ vs) → (∀ σ', RelS c ρ Z σ' env' → wipe σ' vs = wipe σ vs → Q σ' H) → gNames is ws σ H Q
  | [], [], [], _, _, _, _, _, e, _, sl, _, q => by cases e; exact ⟨rfl, q _ sl rfl⟩
  | i :: is, x :: xs, _, _, _, _, _, _, e, h, sl, hv, q => by
    cases h with
    | cons h1 h2 =>
      exact ⟨_, _, rfl, gNs_w (is := is) e h2 (sl.set (x := .d x) h1) (fun j hj => hv j (List.mem_cons_of_mem _ hj)) fun σ' s' w => q σ' s' (w.trans (wipe_set (hv i (List.mem_cons_self ..))))⟩
  | [], _ :: _, _, _, _, _, _, _, e, _, _, _, _ => by cases e
  | _ :: _, [], _, _, _, _, _, _, e, _, _, _, _ => by cases e
theorem Tg.ok (tg : Tg) {vs : List Nat} {env' : En} {Q : L2.St → Hp → Prop} (e : tg.g x env = some env') (r : Rel c B ρ Z H M) (rv : RV c ρ Z v x) (sl : RelS c ρ Z σ env) (hv : ∀ i ∈ tg.sl, i ∈ vs) (q : ∀ σ', RelS c ρ Z σ' env' → wipe σ' vs = wipe σ vs → Q σ' H) : tg.r c.K v σ H Q := by
  cases tg with
  | n i =>
    cases e
    exact q _ (sl.set rv) (wipe_set (hv i (by simp [Tg.sl])))
  | t is =>
    have e : gT is x env = some env' := e
    unfold gT at e
    split at e
    · rename_i xs
      obtain ⟨a, ws, h1, h2, h3⟩ := rdT_ok r rv rfl
      exact ⟨a, ws, h1, h2, by rw [h3.length]; exact gNs_len e, gNs_w e h3 sl hv q⟩
    · cases e
/-! ### what is walked -/
def Wk (c : Kx) (ρ : List Addr) (Z : Hp) (J : It) (xs : List D) : Prop :=
  ∃ G Y, Walk J xs.length G Y ∧ (∀ H, Sub Z H → G H) ∧ ∀ i H x H', i < xs.length → Y i H x H' → ∀ B ρ2 Z2 M2, Ext ρ Z ρ2 Z2 → Rel c B ρ2 Z2 H M2 → ∃ Z3, Ext ρ2 Z2 ρ2 Z3 ∧ Rel c B ρ2 Z3 H' M2 ∧ ∃ y, xs[i]? = some y ∧ R c Z3 x y
abbrev EvI := EvX (List D)
def tI (c : Kx) (W : WX) (it : EvI) : TI := tG c W (Wk c) it
theorem PI.weak {tg e : Expr} {t t' : TI} (h : PI X tg e t) (w : ∀ σ H R, t' σ H R → t σ H R) : PI X tg e t' := ⟨fun pins s σ H R I q => h.run pins s σ H R I (w σ H R q)⟩
theorem PI.or {tg e : Expr} {t t' : TI} (h : PI X tg e t) (h' : PI X tg e t') : PI X tg e (fun σ H R => t σ H R ∨ t' σ H R) := ⟨fun pins s σ H R I q => q.elim (h.run pins s σ H R I) (h'.run pins s σ H R I)⟩
theorem wk_list {a : Addr} {vs : List V} {xs : List D} (h : SqL c.K Z a vs) (rs : Rs c Z vs xs) : Wk c ρ Z (Itl c.K a) xs := by
  refine ⟨_, _, by rw [← rs.length]; exact walk_list, fun H s => s.sqL h, fun i H x H' hi y B ρ2 Z2 M2 e r => ?_⟩
  obtain ⟨rfl, hx⟩ := y
  obtain ⟨d, h1, h2⟩ := rs.getV hx
  exact ⟨Z2, Ext.refl _ _, r, d, h1, h2.up e.z⟩
theorem wk_tup {a : Addr} {vs : List V} {xs : List D} (h : SqT c.K Z a vs) (rs : Rs c Z vs xs) : Wk c ρ Z (Itt c.K a) xs := by
  refine ⟨_, _, by rw [← rs.length]; exact walk_tup, fun H s => s.sqT h, fun i H x H' hi y B ρ2 Z2 M2 e r => ?_⟩
  obtain ⟨rfl, hx⟩ := y
  obtain ⟨d, h1, h2⟩ := rs.getV hx
  exact ⟨Z2, Ext.refl _ _, r, d, h1, h2.up e.z⟩
/-- lo, lo + k, .. -/
def rng (lo k : Int) (n : Nat) : List D := (List.range n).map fun i => .int (lo + (i : Nat) * k)
def rng1 (lo : Int) (n : Nat) : List D := (List.range n).map fun i => .int (lo + (i : Nat))
theorem wk_rng1 {lo : Int} {n : Nat} : Wk c ρ Z (Itr lo n) (rng1 lo n) := by
  have hl : (rng1 lo n).length = n := by simp [rng1]
  refine ⟨_, _, by rw [hl]; exact walk_range, fun H s => trivial, fun i H x H' hi y B ρ2 Z2 M2 e r => ?_⟩
  obtain ⟨rfl, rfl⟩ := y
  refine ⟨Z2, Ext.refl _ _, r, .int (lo + (i : Nat)), ?_, .int _⟩
  rw [hl] at hi
  simp [rng1, hi]
theorem wk_rng {lo k : Int} {n : Nat} : Wk c ρ Z (Itc lo k n) (rng lo k n) := by
  have hl : (rng lo k n).length = n := by simp [rng]
  refine ⟨_, _, by rw [hl]; exact walk_rangeC, fun H s => trivial, fun i H x H' hi y B ρ2 Z2 M2 e r => ?_⟩
  obtain ⟨rfl, rfl⟩ := y
  refine ⟨Z2, Ext.refl _ _, r, .int (lo + (i : Nat) * k), ?_, .int _⟩
  rw [hl] at hi
  simp [rng, hi]
theorem Rel.pair (r : Rel c B ρ Z H M) {T : Addr} (hT : H T = none) {x y : V} {dx dy : D} (h1 : R c Z x dx) (h2 : R c Z y dy) : ∃ Z3, Ext ρ Z ρ Z3 ∧ Rel c B ρ Z3 (upd H T (.tup [x, y])) M ∧ R c Z3 (.ref T) (.tup [dx, dy]) := by
  obtain ⟨r', e⟩ := r.frz hT (.tup [x, y])
  exact ⟨_, e, r', R.tup (.inl (.inl upd_same)) (.cons (h1.up e.z) (.cons (h2.up e.z) .nil))⟩
def enumD (xs : List D) : List D := (List.range xs.length).map fun i => .tup [.int (i : Nat), xs.getD i .non]
theorem enumD_at {xs : List D} {i : Nat} {d : D} (h : xs[i]? = some d) : (enumD xs)[i]? = some (.tup [.int (i : Nat), d]) := by
  obtain ⟨hi, he⟩ := List.getElem?_eq_some_iff.mp h
  simp [enumD, hi, List.getD, h, he]
theorem wk_enum {a : Addr} {vs : List V} {xs : List D} (h : SqL c.K Z a vs) (rs : Rs c Z vs xs) : Wk c ρ Z (Ite c.K a) (enumD xs) := by
  have hl : (enumD xs).length = xs.length := by simp [enumD]
  refine ⟨_, _, by rw [hl, ← rs.length]; exact walk_enum, fun H s => s.sqL h, fun i H x H' hi y B ρ2 Z2 M2 e r => ?_⟩
  obtain ⟨T, p, q, rfl, hT, rfl, e1, e2⟩ := y
  cases e1
  obtain ⟨d, h1, h2⟩ := rs.getV e2
  obtain ⟨Z3, e3, r3, rr⟩ := r.pair hT (.int (i : Nat)) (h2.up e.z)
  exact ⟨Z3, e3, r3, _, enumD_at h1, rr⟩
def zipD (xs ys : List D) : List D := List.zipWith (fun x y => .tup [x, y]) xs ys
theorem wk_zip {a b : Addr} {vs ws : List V} {xs ys : List D} (h : SqL c.K Z a vs) (rs : Rs c Z vs xs) (h' : SqL c.K Z b ws) (rs' : Rs c Z ws ys) : Wk c ρ Z (Itz c.K a b) (zipD xs ys) := by
  have hl : (zipD xs ys).length = min xs.length ys.length := by simp [zipD]
  refine ⟨_, _, walk_zip (by rw [hl, rs.length, rs'.length]), fun H s => ⟨s.sqL h, s.sqL h'⟩, fun i H x H' hi y B ρ2 Z2 M2 e r => ?_⟩
  obtain ⟨T, p, q, rfl, hT, rfl, e1, e2⟩ := y
  obtain ⟨d, h1, h2⟩ := rs.getV e1
  obtain ⟨d', h3, h4⟩ := rs'.getV e2
  obtain ⟨Z3, e3, r3, rr⟩ := r.pair hT (h2.up e.z) (h4.up e.z)
  exact ⟨Z3, e3, r3, .tup [d, d'], by simp [zipD, List.getElem?_zipWith, h1, h3], rr⟩
/-! #### iterables -/
def itD : Vl → Option (List D)
  | .d (.lst xs) => some xs
  | .d (.lck xs) => some xs
  | .d (.tup xs) => some xs
  | _ => none
def itV (e : EvE) : EvI := fun b env M => (e b env M).bind fun q => match itD q.1 with
  | some xs => .ok (xs, q.2)
  | none => .bad
theorem d_iv (hc : X.K = c.K) {tg e : Expr} {ie : EvE} (h : PE X e (tE c W ie)) : PI X tg e (tI c W (itV ie)) := PI.weak (PI.or (pi_list h) (pi_tup h)) fun σ H RR h => by
  obtain ⟨b, B, ρ, Z, M, env, a, po⟩ := h
  rw [hc]
  unfold itV at po
  cases q : ie b env M with
  | bad => rw [q] at po; exact po.elim
  | exc x => rw [q] at po; exact .inl ⟨b, B, ρ, Z, M, env, a, by rw [q]; exact po⟩
  | ok u =>
    obtain ⟨x, M1⟩ := u
    rw [q] at po
    cases x with
    | c k => exact po.elim
    | d x =>
      cases x with
      | lst xs =>
        refine .inl ⟨b, B, ρ, Z, M, env, a, ?_⟩
        rw [q]
        intro v ρ' Z' H' e' r' rv
        have rv : Mo.R c Z' v (.lst xs) := rv
        cases rv with
        | lst h1 h2 => exact ⟨_, rfl, ⟨_, SqL.of (r'.zh _ _ h1)⟩, po _ ρ' Z' H' e' r' (wk_list (SqL.of h1) h2)⟩
      | lck xs =>
        refine .inl ⟨b, B, ρ, Z, M, env, a, ?_⟩
        rw [q]
        intro v ρ' Z' H' e' r' rv
        have rv : Mo.R c Z' v (.lck xs) := rv
        cases rv with
        | lck h1 h2 => exact ⟨_, rfl, ⟨_, r'.zh.sqL h1⟩, po _ ρ' Z' H' e' r' (wk_list h1 h2)⟩
      | tup xs =>
        refine .inr ⟨b, B, ρ, Z, M, env, a, ?_⟩
        rw [q]
        intro v ρ' Z' H' e' r' rv
        have rv : Mo.R c Z' v (.tup xs) := rv
        cases rv with
        | tup h1 h2 => exact ⟨_, rfl, ⟨_, r'.zh.sqT h1⟩, po _ ρ' Z' H' e' r' (wk_tup h1 h2)⟩
      | _ => exact po.elim
def bnd (i : Int) : Bool := decide (-4611686018427387904 ≤ i ∧ i < 4611686018427387904)
def itR1 (as : EvA) : EvI := fun b env M => (as b env M).bind fun q => match q.1 with
  | [.d (.int j)] => if bnd j then .ok (rng1 0 j.toNat, q.2) else .bad
  | _ => .bad
def itR2 (as : EvA) : EvI := fun b env M => (as b env M).bind fun q => match q.1 with
  | [.d (.int i), .d (.int j)] => if bnd i && bnd j then .ok (rng1 i (j - i).toNat, q.2) else .bad
  | _ => .bad
def itR3 (as : EvA) : EvI := fun b env M => (as b env M).bind fun q => match q.1 with
  | [.d (.int i), .d (.int j), .d (.int (-1))] => if bnd i && bnd j then .ok (rng i (-1) (i - j).toNat, q.2) else .bad
  | _ => .bad
theorem bnd_ok {i : Int} (h : bnd i = true) : -(2 ^ 62) ≤ i ∧ i < 2 ^ 62 := by
  have h := of_decide_eq_true h
  have e : (2 : Int) ^ 62 = 4611686018427387904 := by decide
  rw [e]
  exact h
theorem rvs3 {vs : List V} {x y z : Vl} (h : RVs c ρ Z vs [x, y, z]) : ∃ v w u, vs = [v, w, u] ∧ RV c ρ Z v x ∧ RV c ρ Z w y ∧ RV c ρ Z u z := by
  match vs, h with
  | [v, w, u], h => exact ⟨v, w, u, rfl, h.1, h.2.1, h.2.2.1⟩
  | [], h => exact h.elim
  | [_], h => exact h.2.elim
  | [_, _], h => exact h.2.2.elim
  | _ :: _ :: _ :: _ :: _, h => exact h.2.2.2.elim
theorem d_ir1 {tg a : Expr} {as : EvA} {p : Pos} (hg : Gl X "range") (hm : X.mg "range" = none) (ha : PA X [a] (tAr c W as)) (hs : starEach [a] X.env = [(false, eval a X.env)] := by rfl) : PI X tg (.Call (.Name "range" p) [a] [] pos) (tI c W (itR1 as)) := PI.weak (pi_range1 hg hm ha hs) fun σ H RR h => by
  have h : tG c W (Wk c) (fun b env M => (as b env M).bind fun q => match q.1 with | [.d (.int j)] => if bnd j then .ok (rng1 0 j.toNat, q.2) else .bad | _ => .bad) σ H RR := h
  refine tG.mono (tG.bind (k := fun (x : List Vl) b env M => (match x with | [.d (.int j)] => if bnd j then .ok (rng1 0 j.toNat, M) else .bad | _ => .bad : Res Ex (List D × Store))) h) fun vs H1 ⟨dx, b, B, ρ, Z, M, env, a, p, po⟩ => ?_
  dsimp only at po
  split at po
  · split at po
    · rename_i j hb
      obtain ⟨v, rfl, h1⟩ := rvs1 p
      exact ⟨j, by rw [R.int_inv h1], (bnd_ok hb).1, (bnd_ok hb).2, po _ ρ Z H1 (Ext.refl _ _) a.rel wk_rng1⟩
    · exact po.elim
  · exact po.elim
theorem d_ir2 {tg a d : Expr} {as : EvA} {p : Pos} (hg : Gl X "range") (hm : X.mg "range" = none) (ha : PA X [a, d] (tAr c W as)) (hs : starEach [a, d] X.env = [(false, eval a X.env), (false, eval d X.env)] := by rfl) (hs2 : starEach [d] X.env = [(false, eval d X.env)] := by rfl) : PI X tg (.Call (.Name "range" p) [a, d] [] pos) (tI c W (itR2 as)) := PI.weak (pi_range2 hg hm ha hs hs2) fun σ H RR h => by
  have h : tG c W (Wk c) (fun b env M => (as b env M).bind fun q => match q.1 with | [.d (.int i), .d (.int j)] => if bnd i && bnd j then .ok (rng1 i (j - i).toNat, q.2) else .bad | _ => .bad) σ H RR := h
  refine tG.mono (tG.bind (k := fun (x : List Vl) b env M => (match x with | [.d (.int i), .d (.int j)] => if bnd i && bnd j then .ok (rng1 i (j - i).toNat, M) else .bad | _ => .bad : Res Ex (List D × Store))) h) fun vs H1 ⟨dx, b, B, ρ, Z, M, env, a, p, po⟩ => ?_
  dsimp only at po
  split at po
  · split at po
    · rename_i i j hb
      rw [Bool.and_eq_true] at hb
      obtain ⟨v, w, rfl, h1, h2⟩ := rvs2 p
      have b1 := bnd_ok hb.1
      have b2 := bnd_ok hb.2
      exact ⟨i, j, by rw [R.int_inv h1, R.int_inv h2], ⟨b1.1, b1.2, b2.1, b2.2⟩, po _ ρ Z H1 (Ext.refl _ _) a.rel wk_rng1⟩
    · exact po.elim
  · exact po.elim
theorem d_ir3 {tg a d e : Expr} {as : EvA} {p : Pos} (hg : Gl X "range") (hm : X.mg "range" = none) (ha : PA X [a, d, e] (tAr c W as)) (hs : starEach [a, d, e] X.env = (false, eval a X.env) :: starEach [d, e] X.env := by rfl) (hpl : (backTo pos (starEach [d, e] X.env)).any (·.1) = false := by rfl) : PI X tg (.Call (.Name "range" p) [a, d, e] [] pos) (tI c W (itR3 as)) := PI.weak (pi_range3 hg hm ha hs hpl) fun σ H RR h => by
  have h : tG c W (Wk c) (fun b env M => (as b env M).bind fun q => match q.1 with | [.d (.int i), .d (.int j), .d (.int (-1))] => if bnd i && bnd j then .ok (rng i (-1) (i - j).toNat, q.2) else .bad | _ => .bad) σ H RR := h
  refine tG.mono (tG.bind (k := fun (x : List Vl) b env M => (match x with | [.d (.int i), .d (.int j), .d (.int (-1))] => if bnd i && bnd j then .ok (rng i (-1) (i - j).toNat, M) else .bad | _ => .bad : Res Ex (List D × Store))) h) fun vs H1 ⟨dx, b, B, ρ, Z, M, env, a, p, po⟩ => ?_
  dsimp only at po
  split at po
  · split at po
    · rename_i i j hb
      rw [Bool.and_eq_true] at hb
      obtain ⟨v, w, u, rfl, h1, h2, h3⟩ := rvs3 p
      have b1 := bnd_ok hb.1
      have b2 := bnd_ok hb.2
      exact ⟨i, j, -1, (i - j).toNat, by rw [R.int_inv h1, R.int_inv h2, R.int_inv h3], RgC.neg b1.1 b1.2 b2.1 b2.2, po _ ρ Z H1 (Ext.refl _ _) a.rel wk_rng⟩
    · exact po.elim
  · exact po.elim
/-- frozen lists alone -/
def frL : Vl → Option (List D)
  | .d (.lst xs) => some xs
  | .d (.lck xs) => some xs
  | _ => none
theorem frL_ok (h : RV c ρ Z v x) {xs : List D} (e : frL x = some xs) : ∃ a vs, v = .ref a ∧ SqL c.K Z a vs ∧ Rs c Z vs xs := by
  unfold frL at e
  split at e
  · cases e
    have h : R c Z v (.lst xs) := h
    cases h with
    | lst h1 h2 => exact ⟨_, _, rfl, SqL.of h1, h2⟩
  · cases e
    have h : R c Z v (.lck xs) := h
    cases h with
    | lck h1 h2 => exact ⟨_, _, rfl, h1, h2⟩
  · cases e
def itEn (as : EvA) : EvI := fun b env M => (as b env M).bind fun q => match q.1 with
  | [x] => (match frL x with
    | some xs => .ok (enumD xs, q.2)
    | none => .bad)
  | _ => .bad
theorem d_ien (hc : X.K = c.K) {a : Expr} {as : EvA} {p tpos : Pos} {elts : List Expr} {kk : Nat} (hg : Gl X "enumerate") (hm : X.mg "enumerate" = none) (ha : PA X [a] (tAr c W as)) (hs : starEach [a] X.env = [(false, eval a X.env)] := by rfl) : PI X (.Tuple elts kk tpos) (.Call (.Name "enumerate" p) [a] [] pos) (tI c W (itEn as)) := PI.weak (pi_enum hg hm ha hs) fun σ H RR h => by
  rw [hc]
  have h : tG c W (Wk c) (fun b env M => (as b env M).bind fun q => match q.1 with | [x] => (match frL x with | some xs => .ok (enumD xs, q.2) | none => .bad) | _ => .bad) σ H RR := h
  refine tG.mono (tG.bind (k := fun (x : List Vl) b env M => (match x with | [x] => (match frL x with | some xs => .ok (enumD xs, M) | none => .bad) | _ => .bad : Res Ex (List D × Store))) h) fun vs H1 ⟨dx, b, B, ρ, Z, M, env, a, p, po⟩ => ?_
  dsimp only at po
  split at po
  · split at po
    · rename_i xs q
      obtain ⟨v, rfl, h1⟩ := rvs1 p
      obtain ⟨ad, ws, rfl, h2, h3⟩ := frL_ok h1 q
      exact ⟨ad, ws, rfl, a.rel.zh.sqL h2, po _ ρ Z H1 (Ext.refl _ _) a.rel (wk_enum h2 h3)⟩
    · exact po.elim
  · exact po.elim
def itZp (as : EvA) : EvI := fun b env M => (as b env M).bind fun q => match q.1 with
  | [x, y] => (match frL x, frL y with
    | some xs, some ys => .ok (zipD xs ys, q.2)
    | _, _ => .bad)
  | _ => .bad
theorem d_izp (hc : X.K = c.K) {a d : Expr} {as : EvA} {p tpos : Pos} {elts : List Expr} {kk : Nat} (hg : Gl X "zip") (hm : X.mg "zip" = none) (ha : PA X [a, d] (tAr c W as)) (hs : starEach [a, d] X.env = (false, eval a X.env) :: starEach [d] X.env := by rfl) (hpl : (backTo pos (starEach [d] X.env)).any (·.1) = false := by rfl) : PI X (.Tuple elts kk tpos) (.Call (.Name "zip" p) [a, d] [] pos) (tI c W (itZp as)) := PI.weak (pi_zip hg hm ha hs hpl) fun σ H RR h => by
  rw [hc]
  have h : tG c W (Wk c) (fun b env M => (as b env M).bind fun q => match q.1 with | [x, y] => (match frL x, frL y with | some xs, some ys => .ok (zipD xs ys, q.2) | _, _ => .bad) | _ => .bad) σ H RR := h
  refine tG.mono (tG.bind (k := fun (x : List Vl) b env M => (match x with | [x, y] => (match frL x, frL y with | some xs, some ys => .ok (zipD xs ys, M) | _, _ => .bad) | _ => .bad : Res Ex (List D × Store))) h) fun vs H1 ⟨dx, b, B, ρ, Z, M, env, a, p, po⟩ => ?_
  dsimp only at po
  split at po
  · split at po
    · rename_i xs ys q1 q2
      obtain ⟨v, w, rfl, h1, h2⟩ := rvs2 p
      obtain ⟨ad, ws, rfl, h3, h4⟩ := frL_ok h1 q1
      obtain ⟨ad', ws', rfl, h5, h6⟩ := frL_ok h2 q2
      exact ⟨ad, ad', ws, ws', rfl, a.rel.zh.sqL h3, a.rel.zh.sqL h5, po _ ρ Z H1 (Ext.refl _ _) a.rel (wk_zip h3 h4 h5 h6)⟩
    · exact po.elim
  · exact po.elim
/-! ### for -/
def forL (g : EvG) (s : EvS) : List D → EvS
  | [], _, env, M => .ok (.nx, env, M)
  | x :: xs, b, env, M => match g (.d x) env with
    | none => .bad
    | some env1 => (s b env1 M).bind fun u => match u.1 with
      | .nx => forL g s xs b u.2.1 u.2.2
      | .ct => forL g s xs b u.2.1 u.2.2
      | .bk => .ok (.nx, u.2.1, u.2.2)
      | .rt x => .ok (.rt x, u.2.1, u.2.2)
def sFor (it : EvI) (tg : Tg) (s : EvS) : EvS := fun b env M => (lift env (it b env M)).bind fun q => forL tg.g s q.1 b env q.2
theorem d_for (hc : X.K = c.K) {te iter : Expr} {body : List Stmt} {it : EvI} {tg : Tg} {s : EvS} (hp : PassesOwn (model X.prog X.w) X.A X.env X.xe) (hcm : X.calm = true) (hi : PI X te iter (tI c W it)) (hg : PG X te (tg.r X.K)) (hb : PSs X body (tSt c W s))
    (hs : ∀ x, foldedSetIterable iter X.env x = pure x := by intro _; rfl) : PS X (.For te iter body [] pos) (tSt c W (sFor it tg s)) := PS.weak (ps_for hp hcm hi hg hb hs) fun dd σ H h => by
  rw [hc]
  refine tG.mono (tSt.bind (k := fun x b env M => forL tg.g s x b env M) h) fun J H1 ⟨xs, b, B, ρ, Z, M, env, a, ⟨G, Y, wk, hG, hY⟩, po⟩ => ?_
  refine for_it wk (fun i σ' H' => ∃ ρ' Z' M' env', Ext ρ Z ρ' Z' ∧ At c b B ρ' Z' M' env' σ' H' ∧ PoS c W B ρ' Z' dd (forL tg.g s (xs.drop i) b env' M')) ⟨ρ, Z, M, env, Ext.refl _ _, a, by simpa using po⟩ (fun i σ' H' _ ⟨ρ', Z', M', env', e, a', _⟩ => hG H' (fun x o q => a'.rel.zh _ _ (e.z _ _ q))) ?_ ?_
  · intro i x σ1 H1 H2 hi ⟨ρ1, Z1, M1, env1, e1, a1, po1⟩ y
    obtain ⟨Z3, e3, r3, d, hd, rd⟩ := hY i H1 x H2 hi y B ρ1 Z1 M1 e1 a1.rel
    have ed : xs.drop i = d :: xs.drop (i + 1) := by
      have hil := (List.getElem?_eq_some_iff.mp hd)
      obtain ⟨hl, he⟩ := hil
      rw [List.drop_eq_getElem_cons hl, he]
    rw [ed] at po1
    unfold forL at po1
    have po2 := PoS.ext po1 e3
    cases q : tg.g (.d d) env1 with
    | none => rw [q] at po2; exact po2.elim
    | some env2 =>
      rw [q] at po2
      refine Tg.ok tg (vs := tg.sl) q r3 (show RV c ρ1 Z3 x (.d d) from rd) (a1.sl.up e3) (fun _ h => h) fun σ2 s2 _ => ?_
      refine ⟨b, B, ρ1, Z3, M1, env2, ⟨r3, s2, a1.hb⟩, ?_⟩
      dsimp only at po2
      cases q2 : s b env2 M1 with
      | bad => rw [q2] at po2; exact po2
      | exc x => rw [q2] at po2; exact po2
      | ok u =>
        rw [q2] at po2
        obtain ⟨f, en, M2⟩ := u
        cases f with
        | nx => exact fun σ' ρ' Z' H' e' r' s' => ⟨ρ', Z', M2, en, (e1.trans e3).trans e', ⟨r', s', a1.hb⟩, PoS.ext po2 e'⟩
        | ct => exact fun σ' ρ' Z' H' e' r' s' => ⟨ρ', Z', M2, en, (e1.trans e3).trans e', ⟨r', s', a1.hb⟩, PoS.ext po2 e'⟩
        | bk => exact po2
        | rt x => exact po2
  · intro σ1 H1 ⟨ρ1, Z1, M1, env1, e1, a1, po1⟩
    rw [List.drop_length] at po1
    exact po1 σ1 ρ1 Z1 H1 (Ext.refl _ _) a1.rel a1.sl
end
end Mo

namespace Mo
open PySem L2
/-! ### comprehensions -/
abbrev W0 : WX := fun _ _ _ _ => False
def wipeE (env : En) : List Nat → En
  | [] => env
  | v :: vs => (wipeE env vs).set v none
def app (n : Nat) (y : Vl) (M : Store) : Option Store := match M[n]? with
  | some (some (.lst xs)) => match y with
    | .d d => if xs.length < LIM then some (M.set n (some (.lst (xs ++ [d])))) else none
    | .c _ => none
  | some (some (.lsc xs)) => if xs.length < LIM then some (M.set n (some (.lsc (xs ++ [y])))) else none
  | _ => none
def lcL (g : EvG) (t : EvT) (e : EvE) (n : Nat) : List D → Nat → En → Store → Option Store
  | [], _, _, M => some M
  | x :: xs, b, env, M => match g (.d x) env with
    | none => none
    | some env1 => match t b env1 M with
      | .ok (k, M1) => if k = true then (match e b env1 M1 with
          | .ok (y, M2) => (match app n y M2 with
            | some M3 => lcL g t e n xs b env M3
            | none => none)
          | _ => none) else lcL g t e n xs b env M1
      | _ => none
def tYesE : EvT := fun _ _ M => .ok (true, M)
/-- frozen at the end -/
def eLcF (it : EvI) (tg : Tg) (vs : List Nat) (t : EvT) (e : EvE) : EvE := fun b env M => (it b env M).bind fun q =>
  match lcL tg.g t e q.2.length q.1 q.2.length (wipeE env vs) (q.2 ++ [some (.lst [])]) with
  | some M' => (match M'[q.2.length]? with
    | some (some (.lst ys)) => .ok (.d (.lst ys), M'.take q.2.length)
    | _ => .bad)
  | none => .bad
/-- kept as a cell: ob is .lst [] or .lsc [] -/
def eLcK (ob : Ob) (it : EvI) (tg : Tg) (vs : List Nat) (t : EvT) (e : EvE) : EvE := fun b env M => (it b env M).bind fun q =>
  match lcL tg.g t e q.2.length q.1 b (wipeE env vs) (q.2 ++ [some ob]) with
  | some M' => .ok (.c q.2.length, M')
  | none => .bad
section
variable {c : Kx} {W : WX} {σ : L2.St} {H : Hp} {X : Cx} {B : List Nat} {ρ ρ1 : List Addr} {Z Z1 : Hp} {M : Store} {v : V} {x : Vl} {pos : Pos} {dd : Ends} {env : En}
theorem wipe_wipe (σ : L2.St) (vs : List Nat) : wipe (wipe σ vs) vs = wipe σ vs := by
  apply List.ext_getElem?
  intro j
  have l1 := wipe_length (wipe σ vs) vs
  have l2 := wipe_length σ vs
  by_cases hj : j ∈ vs
  · by_cases hl : j < σ.length
    · have f : ∀ τ : L2.St, τ.length = σ.length → (wipe τ vs)[j]? = some none := fun τ hτ => by
        have l3 := wipe_length τ vs
        cases e : (wipe τ vs)[j]? with
        | none => rw [List.getElem?_eq_none_iff] at e; omega
        | some u =>
          cases u with
          | none => rfl
          | some x => exact absurd hj (wipe_some e).2
      rw [f _ l2, f _ rfl]
    · rw [List.getElem?_eq_none (by omega), List.getElem?_eq_none (by omega)]
  · rw [wipe_out hj]
theorem wipeE_ok (h : RelS c ρ Z σ env) : ∀ vs : List Nat, RelS c ρ Z (wipe σ vs) (wipeE env vs)
  | [] => h
  | v :: vs => by
    have ih := wipeE_ok h vs
    refine ⟨by show ((wipeE env vs).set v none).length = ((wipe σ vs).set v none).length; simp [ih.len], fun j y q => ?_⟩
    have q : ((wipeE env vs).set v none)[j]? = some (some y) := q
    show ∃ w, ((wipe σ vs).set v none)[j]? = some (some w) ∧ RV c ρ Z w y
    by_cases hj : v = j
    · subst hj
      by_cases hi : v < (wipeE env vs).length
      · rw [List.getElem?_set_self hi] at q; cases q
      · rw [List.getElem?_eq_none (by simpa using hi)] at q; cases q
    · rw [List.getElem?_set_ne hj] at q ⊢
      exact ih.at_ j y q
theorem app_ok (r : Rel c B ρ Z H M) {n : Nat} {D : Addr} (hD : ρ[n]? = some D) (hn : ∀ b ∈ B, b ≤ n) {M' : Store} (e : app n x M = some M') (rv : RV c ρ Z v x) :
    ∃ acc, H D = some (.lst acc) ∧ acc.length < sizeLine ∧ Rel c B ρ Z (upd H D (.lst (acc ++ [v]))) M' := by
  unfold app at e
  split at e
  · rename_i xs q
    obtain ⟨z, acc, h1, h2⟩ := r.cel n _ D q hD
    split at e
    · split at e
      · rename_i d hl
        cases e
        exact ⟨acc, h1, lim_lt (by rw [h2.length]; exact hl), r.wr q hD ⟨_, upd_same, h2.append (.cons rv .nil)⟩ fun _ _ _ => trivial⟩
      · cases e
    · cases e
  · rename_i xs q
    obtain ⟨z, acc, h1, h2⟩ := r.cel n _ D q hD
    split at e
    · rename_i hl
      cases e
      have ap : ∀ {ws : List V} {ys : List Vl}, RVs c ρ Z ws ys → RVs c ρ Z (ws ++ [v]) (ys ++ [x]) := by
        intro ws
        induction ws with
        | nil =>
          intro ys h
          cases ys with
          | nil => exact ⟨rv, trivial⟩
          | cons _ _ => exact h.elim
        | cons w ws ih =>
          intro ys h
          cases ys with
          | nil => exact h.elim
          | cons y ys => exact ⟨h.1, ih h.2⟩
      exact ⟨acc, h1, lim_lt (by rw [RVs.length h2]; exact hl), r.wr q hD ⟨_, upd_same, ap h2⟩ fun b hb hk => absurd hk (by have := hn b hb; omega)⟩
    · cases e
  · cases e
/-- the loop -/
theorem lc_go {it : EvI} {tg : Tg} {vs : List Nat} {t : EvT} {e : EvE} {J : It} {xs : List D} {b n : Nat} {D : Addr} {Qd : Hp → Prop} {Mf : Store} {H1 : Hp}
    (wk : Wk c ρ Z J xs) (r0 : Rel c B (ρ ++ [D]) Z (upd H1 D (.lst [])) M) (sl : RelS c ρ Z σ env) (hn : ρ.length = n) (hb : ∀ b' ∈ B, b' ≤ b) (hbn : ∀ b' ∈ B, b' ≤ n) (hv : ∀ i ∈ tg.sl, i ∈ vs)
    (hL : lcL tg.g t e n xs b (wipeE env vs) M = some Mf) (hd : ∀ ρ' Z' H', Ext (ρ ++ [D]) Z ρ' Z' → Rel c B ρ' Z' H' Mf → Qd H') :
    ∃ W : Nat → Nat → Hp → Prop, (∃ u, W 0 u (upd H1 D (.lst []))) ∧ ∀ i m H, W i m H →
      (J.stop i H ∧ Qd H) ∨ (J.go i H ∧ ∃ Nx : Hp → Prop, (∀ H', Nx H' → ∃ m', m' < m ∧ W (i + 1) m' H') ∧ ∀ x H', J.yld i H x H' → tg.r c.K x (wipe σ vs) H' fun σ2 H2 => wipe σ2 vs = wipe σ vs ∧ tT c W0 t σ2 H2 fun b H3 =>
        if b = true then tE c W0 e σ2 H3 fun y H4 => ∃ acc, H4 D = some (.lst acc) ∧ acc.length < sizeLine ∧ Nx (upd H4 D (.lst (acc ++ [y]))) else Nx H3) := by
  obtain ⟨G, Y, wk, hG, hY⟩ := wk
  have e0 : Ext ρ Z (ρ ++ [D]) Z := ⟨⟨[D], rfl⟩, Sub.refl _⟩
  have hD : (ρ ++ [D])[n]? = some D := by rw [← hn]; simp
  refine lc_it wk (fun i H' => ∃ ρ' Z' M', Ext (ρ ++ [D]) Z ρ' Z' ∧ Rel c B ρ' Z' H' M' ∧ lcL tg.g t e n (xs.drop i) b (wipeE env vs) M' = some Mf) ⟨_, _, _, Ext.refl _ _, r0, by simpa using hL⟩ (fun i H' _ ⟨ρ', Z', M', e, r', _⟩ => hG H' (fun x o q => r'.zh _ _ (e.z _ _ q))) ?_ ?_
  · intro i y H2 H3 hi ⟨ρ1, Z1, M1, e1, r1, l1⟩ hy
    obtain ⟨Z3, e3, r3, d, hdd, rd⟩ := hY i H2 y H3 hi hy B ρ1 Z1 M1 (e0.trans e1) r1
    have ed : xs.drop i = d :: xs.drop (i + 1) := by
      obtain ⟨hl, he⟩ := List.getElem?_eq_some_iff.mp hdd
      rw [List.drop_eq_getElem_cons hl, he]
    rw [ed] at l1
    unfold lcL at l1
    have s3 : RelS c ρ1 Z3 (wipe σ vs) (wipeE env vs) := (wipeE_ok sl vs).up ((e0.trans e1).trans e3)
    cases q : tg.g (.d d) (wipeE env vs) with
    | none => rw [q] at l1; cases l1
    | some env2 =>
      rw [q] at l1
      refine Tg.ok tg (vs := vs) q r3 (show RV c ρ1 Z3 y (.d d) from rd) s3 hv fun σ2 s2 hw => ⟨hw.trans (wipe_wipe σ vs), ?_⟩
      refine ⟨b, B, ρ1, Z3, M1, env2, ⟨r3, s2, hb⟩, ?_⟩
      dsimp only at l1
      cases q2 : t b env2 M1 with
      | bad => rw [q2] at l1; cases l1
      | exc x => rw [q2] at l1; cases l1
      | ok u =>
        obtain ⟨k, M2⟩ := u
        rw [q2] at l1
        dsimp only at l1
        intro k' ρ4 Z4 H4 e4 r4 hk
        have hk : k' = k := hk
        subst hk
        cases k' with
        | false => exact ⟨ρ4, Z4, M2, (e1.trans e3).trans e4, r4, by simpa using l1⟩
        | true =>
          rw [if_pos rfl] at l1
          show tE c W0 e σ2 H4 _
          refine ⟨b, B, ρ4, Z4, M2, env2, ⟨r4, s2.up e4, hb⟩, ?_⟩
          cases q3 : e b env2 M2 with
          | bad => rw [q3] at l1; cases l1
          | exc x => rw [q3] at l1; cases l1
          | ok u =>
            obtain ⟨w, M3⟩ := u
            rw [q3] at l1
            dsimp only at l1
            intro wv ρ5 Z5 H5 e5 r5 rw5
            cases q4 : app n w M3 with
            | none => rw [q4] at l1; cases l1
            | some M4 =>
              rw [q4] at l1
              have eD := ((e1.trans e3).trans e4).trans e5
              obtain ⟨acc, h1, h2, h3⟩ := app_ok r5 (eD.get hD) hbn q4 rw5
              exact ⟨acc, h1, h2, ρ5, Z5, M4, eD, h3, l1⟩
  · intro H2 ⟨ρ1, Z1, M1, e1, r1, l1⟩
    rw [List.drop_length] at l1
    have l1 : some M1 = some Mf := l1
    cases l1
    exact hd ρ1 Z1 H2 e1 r1
theorem rd_lcF {it : EvI} {tg : Tg} {vs : List Nat} {t : EvT} {e : EvE} {Q : VK} (hv : ∀ i ∈ tg.sl, i ∈ vs) (h : tE c W (eLcF it tg vs t e) σ H Q) : tLc (tI c W it) (tg.r c.K) (tT c W0 t) (tE c W0 e) vs σ H Q := by
  have h : tG c W (RV c) (fun b env M => (it b env M).bind fun q => (match lcL tg.g t e q.2.length q.1 q.2.length (wipeE env vs) (q.2 ++ [some (.lst [])]) with
    | some M' => (match M'[q.2.length]? with
      | some (some (.lst ys)) => .ok (.d (.lst ys), M'.take q.2.length)
      | _ => .bad)
    | none => .bad : Res Ex (Vl × Store))) σ H Q := h
  refine tG.mono (tG.bind (k := fun (x : List D) b env M => (match lcL tg.g t e M.length x M.length (wipeE env vs) (M ++ [some (.lst [])]) with
    | some M' => (match M'[M.length]? with
      | some (some (.lst ys)) => .ok (.d (.lst ys), M'.take M.length)
      | _ => .bad)
    | none => .bad : Res Ex (Vl × Store))) h) fun J H1 ⟨xs, b, B, ρ, Z, M, env, a, wk, po⟩ => ?_
  intro D hD
  dsimp only at po
  split at po
  · rename_i Mf hL
    have rb := a.rel.rebase
    obtain ⟨r0, _⟩ := rb.new hD (upd_sub hD) (H' := upd H1 D (.lst [])) (by rw [upd_same]; intro z; cases z) (ob := .lst []) ⟨[], upd_same, .nil⟩
    have hbl : ∀ b' ∈ M.length :: B, b' ≤ M.length := fun b' h' => rb.ble b' h'
    refine lc_go (it := it) (n := M.length) wk r0 a.sl a.rel.len hbl hbl hv hL fun ρ' Z' H' e' r' => ?_
    have hDn : ρ'[M.length]? = some D := e'.get (by rw [← a.rel.len]; simp)
    split at po
    · rename_i ys q
      obtain ⟨z, acc, h1, h2⟩ := r'.cel _ _ D q hDn
      obtain ⟨r2, e2⟩ := r'.freeze q hDn h1
      have r3 := r2.cut (fun b' h' => a.rel.ble b' h')
      have e4 : (Mf.set M.length none).take M.length = Mf.take M.length := by
        rw [List.take_set_of_le (Nat.le_refl _)]
      have e5 : ρ'.take M.length = ρ := by
        obtain ⟨⟨τ, ht⟩, _⟩ := e'
        rw [ht, ← a.rel.len, List.append_assoc, List.take_left' rfl]
      rw [e4, e5] at r3
      exact po (.ref D) ρ _ H' ⟨⟨[], by simp⟩, e'.z.trans e2.z⟩ r3 (R.lst upd_same (h2.up e2.z))
    · exact po.elim
  · exact po.elim
theorem rd_lcK {ob : Ob} {it : EvI} {tg : Tg} {vs : List Nat} {t : EvT} {e : EvE} {Q : VK} (ho : ob = .lst [] ∨ ob = .lsc []) (hv : ∀ i ∈ tg.sl, i ∈ vs) (h : tE c W (eLcK ob it tg vs t e) σ H Q) : tLc (tI c W it) (tg.r c.K) (tT c W0 t) (tE c W0 e) vs σ H Q := by
  have h : tG c W (RV c) (fun b env M => (it b env M).bind fun q => (match lcL tg.g t e q.2.length q.1 b (wipeE env vs) (q.2 ++ [some ob]) with
    | some M' => .ok (.c q.2.length, M')
    | none => .bad : Res Ex (Vl × Store))) σ H Q := h
  refine tG.mono (tG.bind (k := fun (x : List D) b env M => (match lcL tg.g t e M.length x b (wipeE env vs) (M ++ [some ob]) with
    | some M' => .ok (.c M.length, M')
    | none => .bad : Res Ex (Vl × Store))) h) fun J H1 ⟨xs, b, B, ρ, Z, M, env, a, wk, po⟩ => ?_
  intro D hD
  dsimp only at po
  split at po
  · rename_i Mf hL
    obtain ⟨r0, e0⟩ := a.rel.new hD (upd_sub hD) (H' := upd H1 D (.lst [])) (by rw [upd_same]; intro z; cases z) (ob := ob) (by
      rcases ho with rfl | rfl
      · exact ⟨[], upd_same, .nil⟩
      · exact ⟨[], upd_same, trivial⟩)
    refine lc_go (it := it) (n := M.length) wk r0 a.sl a.rel.len a.hb (fun b' h' => a.rel.ble b' h') hv hL fun ρ' Z' H' e' r' => ?_
    have hDn : ρ'[M.length]? = some D := e'.get (by rw [← a.rel.len]; simp)
    exact po (.ref D) ρ' Z' H' (e0.trans e') r' ⟨D, rfl, hDn⟩
  · exact po.elim
theorem PTs.weak {ifs : List Expr} {t t' : TT} (h : PTs X ifs t) (w : ∀ σ H Q, t' σ H Q → t σ H Q) : PTs X ifs t' := ⟨fun pins s σ H Q I q => h.run pins s σ H Q I (w σ H Q q)⟩
theorem d_tnil : PTs X [] (tT c W tYesE) := PTs.weak pts_nil fun σ H Q ⟨b, B, ρ, Z, M, env, a, po⟩ => po true ρ Z H (Ext.refl _ _) a.rel rfl
theorem d_tone {e : Expr} {t : EvT} (h : PT X e (tT c W t)) : PTs X [e] (tT c W t) := pts_one h
variable {elt te iter : Expr} {ifs : List Expr} {scope : Scope} {own : List (Str × Nat)} {it : EvI} {tg : Tg} {t : EvT} {e : EvE}
/-- the comprehension: hv by decide -/
theorem d_lcF (hK : X.K = c.K) (hc : X.calm = true) (hN : X.N.Nodup) (hi : PI X te iter (tI c W it)) (ok : BlkOk X.N X.env.scope scope own) (hv : ∀ i ∈ tg.sl, i ∈ own.map (·.2))
    (hg : ∀ (s : Shared) (H : Hp) (C : Addr) (cl : List (Str × Addr)) (fp : List Addr), PG (X.blk s H scope (compEnvC scope cl C X.env) fp) te (tg.r X.K)) (ht : ∀ (s : Shared) (H : Hp) (C : Addr) (cl : List (Str × Addr)) (fp : List Addr), PTs (X.blk s H scope (compEnvC scope cl C X.env) fp) ifs (tT c W0 t))
    (he : ∀ (s : Shared) (H : Hp) (C : Addr) (cl : List (Str × Addr)) (fp : List Addr), PE (X.blk s H scope (compEnvC scope cl C X.env) fp) elt (tE c W0 e)) (hs : ∀ x, foldedSetIterable iter X.env x = pure x := by intro _; rfl) :
    PE X (.ListComp elt [⟨te, iter, ifs, 0⟩] scope pos) (tE c W (eLcF it tg (own.map (·.2)) t e)) := PE.weak (pe_lc hc hN hi ok hg ht he hs) fun σ H Q h => by rw [hK]; exact rd_lcF hv h
theorem d_lcK {ob : Ob} (ho : ob = .lst [] ∨ ob = .lsc []) (hK : X.K = c.K) (hc : X.calm = true) (hN : X.N.Nodup) (hi : PI X te iter (tI c W it)) (ok : BlkOk X.N X.env.scope scope own) (hv : ∀ i ∈ tg.sl, i ∈ own.map (·.2))
    (hg : ∀ (s : Shared) (H : Hp) (C : Addr) (cl : List (Str × Addr)) (fp : List Addr), PG (X.blk s H scope (compEnvC scope cl C X.env) fp) te (tg.r X.K)) (ht : ∀ (s : Shared) (H : Hp) (C : Addr) (cl : List (Str × Addr)) (fp : List Addr), PTs (X.blk s H scope (compEnvC scope cl C X.env) fp) ifs (tT c W0 t))
    (he : ∀ (s : Shared) (H : Hp) (C : Addr) (cl : List (Str × Addr)) (fp : List Addr), PE (X.blk s H scope (compEnvC scope cl C X.env) fp) elt (tE c W0 e)) (hs : ∀ x, foldedSetIterable iter X.env x = pure x := by intro _; rfl) :
    PE X (.ListComp elt [⟨te, iter, ifs, 0⟩] scope pos) (tE c W (eLcK ob it tg (own.map (·.2)) t e)) := PE.weak (pe_lc hc hN hi ok hg ht he hs) fun σ H Q h => by rw [hK]; exact rd_lcK ho hv h
theorem rd_set {ie : EvE} {i : Nat} (h : tSt c W (sAsg ie (gN i)) dd σ H) : tAsg (tE c W ie) (gName i) dd σ H := by
  refine tG.mono (tSt.bind (k := fun x b env M => match gN i x env with | some env' => .ok (.nx, env', M) | none => .bad) h) fun y H1 ⟨dx, b, B, ρ, Z, M, env, a, p, po⟩ => ?_
  exact po _ ρ Z H1 (Ext.refl _ _) a.rel (a.sl.set p)
theorem rd_asgN {ie : EvE} {te : TE} {i : Nat} (hw : ∀ Q, tE c W ie σ H Q → te σ H Q) (h : tSt c W (sAsg ie (gN i)) dd σ H) : tAsg te (gName i) dd σ H := hw _ (rd_set h)
/-- name = [..] -/
theorem d_setF {i : Nat} {y : Str} {py spos : Pos} (hK : X.K = c.K) (hc : X.calm = true) (hN : X.N.Nodup) (hy : X.N[i]? = some y) (hyl : X.env.scope.names.lookup y = some .local)
    (hsw : swapsWith (.ListComp elt [⟨te, iter, ifs, 0⟩] scope pos) (some (.Name y py)) spos.line X.env = pure true) (hi : PI X te iter (tI c W it)) (ok : BlkOk X.N X.env.scope scope own) (hv : ∀ i ∈ tg.sl, i ∈ own.map (·.2))
    (hg : ∀ (s : Shared) (H : Hp) (C : Addr) (cl : List (Str × Addr)) (fp : List Addr), PG (X.blk s H scope (compEnvC scope cl C X.env) fp) te (tg.r X.K)) (ht : ∀ (s : Shared) (H : Hp) (C : Addr) (cl : List (Str × Addr)) (fp : List Addr), PTs (X.blk s H scope (compEnvC scope cl C X.env) fp) ifs (tT c W0 t))
    (he : ∀ (s : Shared) (H : Hp) (C : Addr) (cl : List (Str × Addr)) (fp : List Addr), PE (X.blk s H scope (compEnvC scope cl C X.env) fp) elt (tE c W0 e)) (hs : ∀ x, foldedSetIterable iter X.env x = pure x := by intro _; rfl) :
    PS X (.Assign [.Name y py] (.ListComp elt [⟨te, iter, ifs, 0⟩] scope pos) spos) (tSt c W (sAsg (eLcF it tg (own.map (·.2)) t e) (gN i))) := PS.weak (ps_setLc hc hN hy hyl hsw hi ok hg ht he hs) fun dd σ H h => by
  rw [hK]; exact rd_asgN (fun Q h => rd_lcF hv h) h
theorem d_setK {ob : Ob} (ho : ob = .lst [] ∨ ob = .lsc []) {i : Nat} {y : Str} {py spos : Pos} (hK : X.K = c.K) (hc : X.calm = true) (hN : X.N.Nodup) (hy : X.N[i]? = some y) (hyl : X.env.scope.names.lookup y = some .local)
    (hsw : swapsWith (.ListComp elt [⟨te, iter, ifs, 0⟩] scope pos) (some (.Name y py)) spos.line X.env = pure true) (hi : PI X te iter (tI c W it)) (ok : BlkOk X.N X.env.scope scope own) (hv : ∀ i ∈ tg.sl, i ∈ own.map (·.2))
    (hg : ∀ (s : Shared) (H : Hp) (C : Addr) (cl : List (Str × Addr)) (fp : List Addr), PG (X.blk s H scope (compEnvC scope cl C X.env) fp) te (tg.r X.K)) (ht : ∀ (s : Shared) (H : Hp) (C : Addr) (cl : List (Str × Addr)) (fp : List Addr), PTs (X.blk s H scope (compEnvC scope cl C X.env) fp) ifs (tT c W0 t))
    (he : ∀ (s : Shared) (H : Hp) (C : Addr) (cl : List (Str × Addr)) (fp : List Addr), PE (X.blk s H scope (compEnvC scope cl C X.env) fp) elt (tE c W0 e)) (hs : ∀ x, foldedSetIterable iter X.env x = pure x := by intro _; rfl) :
    PS X (.Assign [.Name y py] (.ListComp elt [⟨te, iter, ifs, 0⟩] scope pos) spos) (tSt c W (sAsg (eLcK ob it tg (own.map (·.2)) t e) (gN i))) := PS.weak (ps_setLc hc hN hy hyl hsw hi ok hg ht he hs) fun dd σ H h => by
  rw [hK]; exact rd_asgN (fun Q h => rd_lcK ho hv h) h
end
end Mo

namespace Mo
open PySem L2
/-! ### fields -/
/-- where a field stands, class by class -/
abbrev Tb := List (Nat × Nat)
def fldO (tb : Tb) (x : Vl) (M : Store) : Option Vl := match x with
  | .d (.ins k ds) => (match tb.lookup k with
    | some i => (match ds[i]? with
      | some .no => none
      | some d => some (.d d)
      | none => none)
    | none => none)
  | .c n => (match M[n]? with
    | some (some (.ins k fs)) => (match tb.lookup k with
      | some i => (match fs[i]? with
        | some u => if isNo u then none else some u
        | none => none)
      | none => none)
    | _ => none)
  | _ => none
def eFld (tb : Tb) (e : EvE) : EvE := fun b env M => (e b env M).bind fun q => match fldO tb q.1 q.2 with
  | some u => .ok (u, q.2)
  | none => .bad
/-- o.f = v -/
def stO (tb : Tb) (b : Nat) (o y : Vl) (M : Store) : Option Store := match o with
  | .c n => (match M[n]? with
    | some (some (.ins k fs)) => (match tb.lookup k with
      | some i => if i < fs.length ∧ fs.length < 500 then (match y with
          | .d _ => some (M.set n (some (.ins k (fs.set i y))))
          | .c _ => if b ≤ n then some (M.set n (some (.ins k (fs.set i y)))) else none) else none
      | none => none)
    | _ => none)
  | _ => none
def sFldS (tb : Tb) (eo ev : EvE) : EvS := fun b env M => (lift env (ev b env M)).bind fun q => (lift env (eo b env q.2)).bind fun u => match stO tb b u.1 q.1 u.2 with
  | some M' => .ok (.nx, env, M')
  | none => .bad
/-- an object's class -/
def clsO (x : Vl) (M : Store) : Option Nat := match x with
  | .c n => (match M[n]? with
    | some (some (.ins k _)) => some k
    | _ => none)
  | _ => none
/-- o.f op= v -/
def sFldA (tb : Tb) (r : Op2) (eo ev : EvE) : EvS := fun b env M => (lift env (eo b env M)).bind fun q => match fldO tb q.1 q.2 with
  | some x => (lift env (ev b env q.2)).bind fun u => (match r x u.1 u.2 with
    | some (y, M1) => if clsO q.1 M1 = clsO q.1 q.2 then (match stO tb b q.1 y M1 with
      | some M' => .ok (.nx, env, M')
      | none => .bad) else .bad
    | none => .bad)
  | none => .bad
structure TbOk (c : Kx) (tb : Tb) (f : Str) : Prop where
  at_ : ∀ k i, tb.lookup k = some i → (c.F k)[i]? = some f ∧ (c.F k).Nodup ∧ Cls c.K (c.C k) ∧ NoAttr c.K (c.C k) f
section
variable {c : Kx} {W : WX} {σ : L2.St} {H : Hp} {X : Cx} {B : List Nat} {ρ ρ1 : List Addr} {Z Z1 : Hp} {M : Store} {v : V} {x : Vl} {pos : Pos} {dd : Ends} {env : En} {b : Nat}
theorem Rf.get : ∀ {ds : List D} {ns : List Str} {fs : List (Str × V)} {i : Nat} {n : Str} {d : D}, Rf c Z ns fs ds → ns[i]? = some n → ds[i]? = some d → d ≠ .no → ∃ v, fs.lookup n = some v ∧ R c Z v d
  | [], _, _, _, _, _, _, _, e, _ => by simp at e
  | d :: ds, [], _, _, _, _, h, e, _, _ => by simp at e
  | d :: ds, n :: ns, fs, 0, m, d', h, e1, e2, hn => by
    simp at e1 e2
    subst e1; subst e2
    cases h with
    | no h => exact absurd rfl hn
    | set h1 h2 h3 => exact ⟨_, h1, h2⟩
  | d :: ds, n :: ns, fs, i + 1, m, d', h, e1, e2, hn => by
    have e1 : ns[i]? = some m := by simpa using e1
    have e2 : ds[i]? = some d' := by simpa using e2
    cases h with
    | no h => exact Rf.get h e1 e2 hn
    | set h1 h2 h3 => exact Rf.get h3 e1 e2 hn
theorem RVf.get : ∀ {xs : List Vl} {ns : List Str} {fs : List (Str × V)} {i : Nat} {n : Str} {x : Vl}, RVf c ρ Z ns fs xs → ns[i]? = some n → xs[i]? = some x → isNo x = false → ∃ v, fs.lookup n = some v ∧ RV c ρ Z v x
  | [], _, _, _, _, _, _, _, e, _ => by simp at e
  | _ :: _, [], _, _, _, _, h, e, _, _ => by simp at e
  | y :: xs, n :: ns, fs, 0, m, x, h, e1, e2, hn => by
    simp at e1 e2
    subst e1; subst e2
    rcases h.1 with q | q
    · subst q; cases hn
    · exact q
  | y :: xs, n :: ns, fs, i + 1, m, x, h, e1, e2, hn => RVf.get (i := i) h.2 (by simpa using e1) (by simpa using e2) hn
theorem RVf.len : ∀ {xs : List Vl} {ns : List Str} {fs : List (Str × V)}, RVf c ρ Z ns fs xs → ns.length = xs.length
  | [], [], _, _ => rfl
  | _ :: _, _ :: _, _, h => congrArg (· + 1) (RVf.len h.2)
  | [], _ :: _, _, h => h.elim
  | _ :: _, [], _, h => h.elim
theorem RVf.other : ∀ {xs : List Vl} {ns : List Str} {fs : List (Str × V)} {f : Str} {y : V}, RVf c ρ Z ns fs xs → f ∉ ns → RVf c ρ Z ns (putF f y fs) xs
  | [], [], _, _, _, _, _ => trivial
  | x :: xs, n :: ns, fs, f, y, h, hf => ⟨h.1.imp id fun ⟨v, h1, h2⟩ => ⟨v, by rw [lookup_putF, if_neg (by rintro rfl; exact hf (List.mem_cons_self ..))]; exact h1, h2⟩, RVf.other h.2 fun z => hf (List.mem_cons_of_mem _ z)⟩
  | [], _ :: _, _, _, _, h, _ => h.elim
  | _ :: _, [], _, _, _, h, _ => h.elim
theorem RVf.put : ∀ {xs : List Vl} {ns : List Str} {fs : List (Str × V)} {i : Nat} {f : Str} {y : V} {u : Vl}, RVf c ρ Z ns fs xs → ns.Nodup → ns[i]? = some f → RV c ρ Z y u → RVf c ρ Z ns (putF f y fs) (xs.set i u)
  | [], [], _, _, _, _, _, _, _, e, _ => by simp at e
  | x :: xs, n :: ns, fs, 0, f, y, u, h, nd, e, r => by
    simp at e
    subst e
    rw [List.nodup_cons] at nd
    exact ⟨.inr ⟨y, by rw [lookup_putF, if_pos rfl], r⟩, RVf.other h.2 nd.1⟩
  | x :: xs, n :: ns, fs, i + 1, f, y, u, h, nd, e, r => by
    rw [List.nodup_cons] at nd
    have e : ns[i]? = some f := by simpa using e
    refine ⟨h.1.imp id fun ⟨v, h1, h2⟩ => ⟨v, ?_, h2⟩, RVf.put h.2 nd.2 e r⟩
    rw [lookup_putF, if_neg (fun z => nd.1 (by rw [z]; exact List.mem_of_getElem? e))]
    exact h1
  | [], _ :: _, _, _, _, _, _, h, _, _, _ => h.elim
  | _ :: _, [], _, _, _, _, _, h, _, _, _ => h.elim
theorem putF_old {f : Str} {y v : V} : ∀ {fs : List (Str × V)}, fs.lookup f = some v → (putF f y fs).length = fs.length
  | [], h => by simp at h
  | (g, w) :: fs, h => by
    unfold putF
    by_cases e : g = f
    · rw [if_pos e] <;> rfl
    · rw [if_neg e]
      have h' : fs.lookup f = some v := by
        rw [List.lookup_cons] at h
        have : (f == g) = false := by
          rw [beq_eq_false_iff_ne]
          exact fun z => e z.symm
        rw [this] at h
        exact h
      simp [putF_old h']
theorem wi_put {ns : List Str} {fs : List (Str × V)} {f : Str} {y : V} (h : Wi ns fs) (hf : f ∈ ns) : Wi ns (putF f y fs) := fun n v e => by
  rw [lookup_putF] at e
  split at e
  · rename_i q; rw [q]; exact hf
  · exact h n v e
theorem cnt_set : ∀ {xs : List Vl} {i : Nat} {x u : Vl}, xs[i]? = some x → isNo u = false → cnt (xs.set i u) = cnt xs + (if isNo x then 1 else 0)
  | [], _, _, _, e, _ => by simp at e
  | y :: xs, 0, x, u, e, hu => by
    simp at e
    subst e
    show (if isNo u then 0 else 1) + cnt xs = (if isNo y then 0 else 1) + cnt xs + (if isNo y then 1 else 0)
    rw [hu]
    cases isNo y <;> simp <;> omega
  | y :: xs, i + 1, x, u, e, hu => by
    have ih := cnt_set (xs := xs) (i := i) (x := x) (u := u) (by simpa using e) hu
    show (if isNo y then 0 else 1) + cnt (xs.set i u) = (if isNo y then 0 else 1) + cnt xs + (if isNo x then 1 else 0)
    rw [ih]
    omega
theorem rv_no (h : RV c ρ Z v x) : isNo x = false := by
  cases x with
  | c k => rfl
  | d y => cases y <;> first | rfl | (exact (show False from by have h : R c Z v .no := h; cases h).elim)
theorem fld_ok {tb : Tb} {f : Str} (T : TbOk c tb f) (r : Rel c B ρ Z H M) (h : RV c ρ Z v x) {u : Vl} (e : fldO tb x M = some u) : ∃ a C dx fs w, v = .ref a ∧ H a = some (.ins C dx fs) ∧ Cls c.K C ∧ NoAttr c.K C f ∧ fs.lookup f = some w ∧ RV c ρ Z w u := by
  unfold fldO at e
  split at e
  · rename_i k ds
    split at e
    · rename_i i q
      obtain ⟨t1, t2, t3, t4⟩ := T.at_ k i q
      have h : R c Z v (.ins k ds) := h
      cases h with
      | ins h1 hw h2 =>
        split at e
        · cases e
        · rename_i d hn q2
          cases e
          obtain ⟨w, h3, h4⟩ := Rf.get h2 t1 q2 hn
          exact ⟨_, _, _, _, w, rfl, r.zh _ _ h1, t3, t4, h3, h4⟩
        · cases e
    · cases e
  · rename_i n
    split at e
    · rename_i k fs q0
      split at e
      · rename_i i q
        obtain ⟨t1, t2, t3, t4⟩ := T.at_ k i q
        split at e
        · rename_i u' q2
          split at e
          · cases e
          · rename_i hn
            cases e
            obtain ⟨a, h1, h2⟩ := h
            obtain ⟨z, dx, gs, h3, h4, h5, h6⟩ := r.cel n _ a q0 h2
            obtain ⟨w, h7, h8⟩ := RVf.get h4 t1 q2 (by simpa using hn)
            exact ⟨a, _, dx, gs, w, h1, h3, t3, t4, h7, h8⟩
        · cases e
      · cases e
    · cases e
  · cases e
theorem st_ok {tb : Tb} {f : Str} (T : TbOk c tb f) (r : Rel c B ρ Z H M) (hb : ∀ b' ∈ B, b' ≤ b) {y : Vl} {w : V} (h : RV c ρ Z v x) (hy : RV c ρ Z w y) {M' : Store} (e : stO tb b x y M = some M') :
    ∃ a C dx fs, v = .ref a ∧ H a = some (.ins C dx fs) ∧ Cls c.K C ∧ NoAttr c.K C f ∧ fs.length < 1000 ∧ Rel c B ρ Z (upd H a (.ins C dx (putF f w fs))) M' := by
  unfold stO at e
  split at e
  · rename_i n
    split at e
    · rename_i k fs q0
      split at e
      · rename_i i q
        obtain ⟨t1, t2, t3, t4⟩ := T.at_ k i q
        split at e
        · rename_i hl
          obtain ⟨a, h1, h2⟩ := h
          obtain ⟨z, dx, gs, h3, h4, h5, h6⟩ := r.cel n _ a q0 h2
          have hc := cnt_le fs
          have ok : CellOk c ρ Z (upd H a (.ins (c.C k) dx (putF f w gs))) a (.ins k (fs.set i y)) := by
            refine ⟨dx, _, upd_same, RVf.put h4 t2 t1 hy, ?_, wi_put h6 (List.mem_of_getElem? t1)⟩
            have hx : fs[i]? = some fs[i] := by simp [hl.1]
            rw [cnt_set hx (rv_no hy)]
            cases hno : isNo fs[i] with
            | true =>
              have := length_putF f w gs
              simp
              omega
            | false =>
              obtain ⟨wv, h7, _⟩ := RVf.get h4 t1 hx hno
              rw [putF_old h7]
              simpa using h5
          have old : ∀ b' ∈ B, n < b' → ∀ u ∈ fs, lowV b' u := fun b' hb' hn => r.low b' hb' n _ hn q0
          refine ⟨a, c.C k, dx, gs, h1, h3, t3, t4, by omega, ?_⟩
          split at e
          · cases e
            refine r.wr q0 h2 ok fun b' hb' hn u hu => ?_
            rcases List.mem_or_eq_of_mem_set hu with q | q
            · exact old b' hb' hn u q
            · rw [q]; trivial
          · split at e
            · rename_i hbn
              cases e
              exact r.wr q0 h2 ok fun b' hb' hn => absurd hn (by have := hb b' hb'; omega)
            · cases e
        · cases e
      · cases e
    · cases e
  · cases e
theorem d_fld (hK : X.K = c.K) {tb : Tb} {f : Str} (T : TbOk c tb f) {e : Expr} {ie : EvE} (he : PE X e (tE c W ie)) (hb : attributeBase e f X.env (eval e X.env) = eval e X.env) : PE X (.Attribute e f pos) (tE c W (eFld tb ie)) :=
  PE.weak (pe_fld he hb) fun σ H Q h => by
    have h : tG c W (RV c) (fun b env M => (ie b env M).bind fun q => (match fldO tb q.1 q.2 with | some u => .ok (u, q.2) | none => .bad : Res Ex (Vl × Store))) σ H Q := h
    refine tG.mono (tG.bind (k := fun (x : Vl) b env M => (match fldO tb x M with | some u => .ok (u, M) | none => .bad : Res Ex (Vl × Store))) h) fun y H1 ⟨dx, b, B, ρ, Z, M, env, a, p, po⟩ => ?_
    dsimp only at po
    split at po
    · rename_i u q
      obtain ⟨ad, C, dx, fs, w, h1, h2, h3, h4, h5, h6⟩ := fld_ok T a.rel p q
      rw [hK]
      exact ⟨ad, C, dx, fs, w, h1, h2, h3, h4, h5, po w ρ Z H1 (Ext.refl _ _) a.rel h6⟩
    · exact po.elim
theorem d_fldS (hK : X.K = c.K) {tb : Tb} {f : Str} (T : TbOk c tb f) {o value : Expr} {eo ev : EvE} {pos' : Pos} (ha : PE X o (tE c W eo)) (hv : PE X value (tE c W ev)) (hs : swapsWith value (some (.Attribute o f pos')) pos.line X.env = pure false) : PS X (.Assign [.Attribute o f pos'] value pos) (tSt c W (sFldS tb eo ev)) :=
  PS.weak (ps_fld ha hv hs) fun dd σ H h => by
    refine tG.mono (tSt.bind (k := fun x b env M => (lift env (eo b env M)).bind fun u => match stO tb b u.1 x u.2 with | some M' => .ok (.nx, env, M') | none => .bad) h) fun y H1 ⟨dy, h1⟩ => ?_
    refine tG.mono (tSP.bind (k := fun x b env M => match stO tb b x dy M with | some M' => .ok (.nx, env, M') | none => .bad) Mono.rv h1) fun o H2 ⟨dx, b, B, ρ, Z, M, env, a, ⟨p1, p2⟩, po⟩ => ?_
    dsimp only at po
    split at po
    · rename_i M' q
      obtain ⟨ad, C, dxa, fs, h1, h2, h3, h4, h5, h6⟩ := st_ok T a.rel a.hb p2 p1 q
      rw [hK]
      exact ⟨ad, C, dxa, fs, h1, h2, h3, h4, h5, po σ ρ Z _ (Ext.refl _ _) h6 a.sl⟩
    · exact po.elim
theorem InOp.weak {op : Operator} {r r' : V → V → Hp → VK → Prop} (h : InOp X op r) (w : ∀ x y H Q, r' x y H Q → r x y H Q) : InOp X op r' := fun pins s σ H x y v u Q I rx ry q => h pins s σ H x y v u Q I rx ry (w _ _ _ _ q)
theorem d_fldA (hK : X.K = c.K) {tb : Tb} {f : Str} {op : Operator} {r : Op2} (T : TbOk c tb f) {o value : Expr} {eo ev : EvE} {tpos : Pos} (ha : PE X o (tE c W eo)) (hv : PE X value (tE c W ev)) (hop : PIp X op (tO c r)) : PS X (.AugAssign (.Attribute o f tpos) op value pos) (tSt c W (sFldA tb r eo ev)) :=
  PS.weak (ps_fldaug (rd := tO c r) ha hv hop) fun dd σ H h => by
    refine tG.mono (tSt.bind (k := fun o b env M => match fldO tb o M with
      | some x => (lift env (ev b env M)).bind fun u => (match r x u.1 u.2 with
        | some (y, M1) => if clsO o M1 = clsO o M then (match stO tb b o y M1 with
          | some M' => .ok (.nx, env, M')
          | none => .bad) else .bad
        | none => .bad)
      | none => .bad) h) fun o H1 ⟨dx, b, B, ρ, Z, M, env, a, p, po⟩ => ?_
    dsimp only at po
    split at po
    · rename_i x q
      obtain ⟨ad, C, dxa, fs, w, h1, h2, h3, h4, h5, h6⟩ := fld_ok T a.rel p q
      rw [hK]
      refine ⟨ad, C, dxa, fs, w, h1, h2, h3, h4, h5, ?_⟩
      have hcl : clsO dx M = none ∨ ∃ k, clsO dx M = some k ∧ C = c.C k := by
        unfold clsO
        split
        · rename_i n
          split
          · rename_i k gs q0
            obtain ⟨ad', g1, g2⟩ := p
            obtain ⟨z, dx', gs', g3, g4, g5, g6⟩ := a.rel.cel n _ ad' q0 g2
            rw [h1] at g1
            cases g1
            rw [h2] at g3
            cases g3
            exact .inr ⟨k, rfl, rfl⟩
          · exact .inl rfl
        · exact .inl rfl
      have h7 : tSP c W (fun b env M1 => (lift env (ev b env M1)).bind fun u => match r x u.1 u.2 with
        | some (y, M1) => if clsO dx M1 = clsO dx M then (match stO tb b dx y M1 with
          | some M' => .ok (.nx, env, M')
          | none => .bad) else .bad
        | none => .bad) (fun ρ Z => RV c ρ Z o dx ∧ RV c ρ Z w x) dd σ H1 := ⟨b, B, ρ, Z, M, env, a, ⟨p, h6⟩, po⟩
      refine tG.mono (tSP.bind (k := fun y b env M1 => match r x y M1 with
        | some (y, M1) => if clsO dx M1 = clsO dx M then (match stO tb b dx y M1 with
          | some M' => .ok (.nx, env, M')
          | none => .bad) else .bad
        | none => .bad) (Mono.rv.and Mono.rv) h7) fun y H2 ⟨dy, b, B, ρ, Z, M1, env, a, ⟨⟨p1, p2⟩, p3⟩, po⟩ => ?_
      dsimp only at po
      refine ⟨B, ρ, Z, M1, x, dy, a.rel, p2, p3, ?_⟩
      cases q2 : r x dy M1 with
      | none => rw [q2] at po; exact po.elim
      | some u =>
        obtain ⟨z, M2⟩ := u
        rw [q2] at po
        intro wz ρ' Z' H' e' r' rz
        dsimp only at po
        split at po
        · rename_i hcc
          split at po
          · rename_i M' q3
            obtain ⟨ad', C', dx', fs', g1, g2, g3, g4, g5, g6⟩ := st_ok T r' a.hb (p1.up e') rz q3
            rw [h1] at g1
            cases g1
            have eC : C' = C := by
              have : ∃ k, clsO dx M2 = some k ∧ C' = c.C k := by
                unfold stO at q3
                unfold clsO
                split at q3
                · rename_i n
                  split at q3
                  · rename_i k gs q0
                    obtain ⟨ad', l1, l2⟩ := p1.up e'
                    obtain ⟨z, dx'', gs', l3, l4, l5, l6⟩ := r'.cel _ _ ad' q0 l2
                    rw [h1] at l1
                    cases l1
                    rw [g2] at l3
                    cases l3
                    exact ⟨k, rfl, rfl⟩
                  · cases q3
                · cases q3
              obtain ⟨k, hk1, hk2⟩ := this
              rw [hk1] at hcc
              rcases hcl with hcl | ⟨k', hk3, hk4⟩
              · rw [hcl] at hcc; cases hcc
              · rw [hk3] at hcc; cases hcc
                rw [hk2, hk4]
            rw [eC] at g2 g6
            exact ⟨dx', fs', g2, g5, po σ ρ' Z' _ e' g6 (a.sl.up e')⟩
          · exact po.elim
        · exact po.elim
    · exact po.elim
/-! ### freezing -/
def frz (M : Store) : Vl → Option (D × Store)
  | .d x => some (x, M)
  | .c k => match M[k]? with
    | some (some (.lst xs)) => some (.lst xs, M.set k none)
    | some (some (.ins cl fs)) => (match ds? fs with
      | some ds => some (.ins cl ds, M.set k none)
      | none => none)
    | _ => none
/-- a list of objects, frozen throughout -/
def frzs (M : Store) : List Vl → Option (List D × Store)
  | [] => some ([], M)
  | x :: xs => match frz M x with
    | some (d, M1) => (match frzs M1 xs with
      | some (ds, M2) => some (d :: ds, M2)
      | none => none)
    | none => none
def frzD (M : Store) : Vl → Option (D × Store)
  | .c k => match M[k]? with
    | some (some (.lsc xs)) => (match frzs (M.set k none) xs with
      | some (ds, M') => some (.lst ds, M')
      | none => none)
    | _ => frz M (.c k)
  | x => frz M x
def eFrz (e : EvE) : EvE := fun b env M => (e b env M).bind fun q => match frzD q.2 q.1 with
  | some (d, M') => .ok (.d d, M')
  | none => .bad
theorem rf_of : ∀ {xs : List Vl} {ds : List D} {ns : List Str} {fs : List (Str × V)}, ds? xs = some ds → RVf c ρ Z ns fs xs → Rf c Z ns fs ds
  | [], ds, [], fs, e, _ => by cases e; exact .nil
  | .d x :: r, ds, n :: ns, fs, e, h => by
    unfold ds? at e
    split at e
    · rename_i ys q
      cases e
      have ih := rf_of q h.2
      rcases h.1 with z | ⟨v, h1, h2⟩
      · cases z; exact .no ih
      · exact .set h1 h2 ih
    · cases e
  | .c k :: r, _, _, _, e, _ => by simp [ds?] at e
  | [], _, _ :: _, _, _, h => h.elim
  | .d _ :: _, _, [], _, _, h => h.elim
theorem frz_ok (r : Rel c B ρ Z H M) (h : RV c ρ Z v x) {d : D} {M' : Store} (e : frz M x = some (d, M')) : ∃ Z', Ext ρ Z ρ Z' ∧ Rel c B ρ Z' H M' ∧ R c Z' v d := by
  unfold frz at e
  split at e
  · cases e; exact ⟨Z, Ext.refl _ _, r, h⟩
  · rename_i k
    obtain ⟨a, rfl, h2⟩ := h
    split at e
    · rename_i xs q
      cases e
      obtain ⟨z, vs, h3, h4⟩ := r.cel k _ a q h2
      obtain ⟨r', e'⟩ := r.freeze q h2 h3
      exact ⟨_, e', r', R.lst upd_same (h4.up e'.z)⟩
    · rename_i cl fs q
      split at e
      · rename_i ds q2
        cases e
        obtain ⟨z, dx, gs, h3, h4, h5, h6⟩ := r.cel k _ a q h2
        obtain ⟨r', e'⟩ := r.freeze q h2 h3
        exact ⟨_, e', r', R.ins upd_same h6 ((rf_of q2 h4).up e'.z)⟩
      · cases e
    · cases e
theorem frzs_ok : ∀ {xs : List Vl} {vs : List V} {Z : Hp} {M : Store} {ds : List D} {M' : Store}, Rel c B ρ Z H M → RVs c ρ Z vs xs → frzs M xs = some (ds, M') → ∃ Z', Ext ρ Z ρ Z' ∧ Rel c B ρ Z' H M' ∧ Rs c Z' vs ds
  | [], [], Z, M, _, _, r, _, e => by cases e; exact ⟨Z, Ext.refl _ _, r, .nil⟩
  | x :: xs, v :: vs, Z, M, _, _, r, h, e => by
    unfold frzs at e
    split at e
    · rename_i d M1 q
      obtain ⟨Z1, e1, r1, h1⟩ := frz_ok r h.1 q
      split at e
      · rename_i ds M2 q2
        cases e
        obtain ⟨Z2, e2, r2, h2⟩ := frzs_ok r1 (RVs.up e1 h.2) q2
        exact ⟨Z2, e1.trans e2, r2, .cons (h1.up e2.z) h2⟩
      · cases e
    · cases e
  | [], _ :: _, _, _, _, _, _, h, _ => h.elim
  | _ :: _, [], _, _, _, _, _, h, _ => h.elim
theorem frzD_ok (r : Rel c B ρ Z H M) (h : RV c ρ Z v x) {d : D} {M' : Store} (e : frzD M x = some (d, M')) : ∃ Z', Ext ρ Z ρ Z' ∧ Rel c B ρ Z' H M' ∧ R c Z' v d := by
  unfold frzD at e
  split at e
  · rename_i k
    split at e
    · rename_i xs q
      split at e
      · rename_i ds M2 q2
        cases e
        obtain ⟨a, rfl, h2⟩ := h
        obtain ⟨z, vs, h3, h4⟩ := r.cel k _ a q h2
        obtain ⟨r', e'⟩ := r.freeze q h2 h3
        obtain ⟨Z2, e2, r2, h5⟩ := frzs_ok r' (RVs.up e' h4) q2
        exact ⟨Z2, e'.trans e2, r2, R.lst (e2.z _ _ upd_same) h5⟩
      · cases e
    · exact frz_ok r h e
  · exact frz_ok r h e
theorem d_frz {e : Expr} {ie : EvE} (h : PE X e (tE c W ie)) : PE X e (tE c W (eFrz ie)) := PE.weak h fun σ H Q ⟨b, B, ρ, Z, M, env, a, po⟩ => by
  refine ⟨b, B, ρ, Z, M, env, a, ?_⟩
  unfold eFrz at po
  cases q : ie b env M with
  | bad => rw [q] at po; exact po
  | exc x => rw [q] at po; exact po
  | ok u =>
    rw [q] at po
    intro v ρ' Z' H' e' r' rv
    have po : Po c W B σ (RV c) ρ Z Q (match frzD u.2 u.1 with | some (d, M') => .ok (.d d, M') | none => .bad) := po
    split at po
    · rename_i d M' q2
      obtain ⟨Z2, e2, r2, h2⟩ := frzD_ok r' rv q2
      exact po v ρ' Z2 H' (e'.trans e2) r2 h2
    · exact po.elim
/-- as a ghost step: the slots' objects frozen in place -/
def sFrz (i : Nat) (s : EvS) : EvS := fun b env M => match env[i]? with
  | some (some x) => (match frzD M x with
    | some (d, M') => s b (env.set i (some (.d d))) M'
    | none => .bad)
  | _ => .bad
theorem d_frzS {i : Nat} {rest : List Stmt} {s : EvS} (h : PSs X rest (tSt c W s)) : PSs X rest (tSt c W (sFrz i s)) := PSs.weak h fun dd σ H ⟨b, B, ρ, Z, M, env, a, po⟩ => by
  unfold sFrz at po
  split at po
  · rename_i x hx
    split at po
    · rename_i d M' q
      obtain ⟨v, h1, h2⟩ := a.sl.at_ i x hx
      obtain ⟨Z2, e2, r2, h3⟩ := frzD_ok a.rel h2 q
      refine ⟨b, B, ρ, Z2, M', _, ⟨r2, ?_, a.hb⟩, PoS.ext po e2⟩
      have s2 := (a.sl.up e2).set (i := i) (v := v) (x := .d d) h3
      have : σ.set i (some v) = σ := by
        apply List.ext_getElem?
        intro j
        by_cases hj : i = j
        · subst hj
          have hl := (List.getElem?_eq_some_iff.mp h1).1
          rw [List.getElem?_set_self hl, h1]
        · rw [List.getElem?_set_ne hj]
      rw [this] at s2
      exact s2
    · exact po.elim
  · exact po.elim
end
end Mo

namespace Mo
open PySem L2
/-! ### defs -/
def PoF (c : Kx) (B : List Nat) (ρ : List Addr) (Z : Hp) (Q : VK) (E : XK) (r : Res Ex (Vl × Store)) : Prop := Po c (fun cl d _ H => E cl d H) B [] (RV c) ρ Z Q r
/-- what a def does: F of the values, the base, the store -/
def spF (c : Kx) (n : Nat) (F : EvF) : Sp := fun vs H Q E => vs.length = n ∧ ∃ b B ρ Z M xs, Rel c B ρ Z H M ∧ (∀ b' ∈ B, b' ≤ b) ∧ RVs c ρ Z vs xs ∧ PoF c B ρ Z Q E (F xs b M)
def envOf (n : Nat) (xs : List Vl) : En := xs.map some ++ List.replicate (n - xs.length) none
/-- what stands above is forgotten -/
def fin (n : Nat) (x : Vl) (M : Store) : Res Ex (Vl × Store) := match x with
  | .d y => .ok (.d y, M.take n)
  | .c k => if k < n then .ok (.c k, M.take n) else .bad
/-- a def that leaves the store as long as it was -/
def runT (n : Nat) (body : EvS) : EvF := fun xs _ M => match body M.length (envOf n xs) M with
  | .ok (.rt x, _, M') => fin M.length x M'
  | .ok (.nx, _, M') => fin M.length (.d .non) M'
  | .ok _ => .bad
  | .exc (e, _) => .exc ⟨e.c, e.fs, e.M.take M.length⟩
  | .bad => .bad
/-- a def whose new objects stay -/
def runK (n : Nat) (body : EvS) : EvF := fun xs b M => match body b (envOf n xs) M with
  | .ok (.rt x, _, M') => .ok (x, M')
  | .ok (.nx, _, M') => .ok (.d .non, M')
  | .ok _ => .bad
  | .exc (e, _) => .exc e
  | .bad => .bad
section
variable {c : Kx} {W : WX} {σ : L2.St} {H : Hp} {X : Cx} {B : List Nat} {ρ ρ1 : List Addr} {Z Z1 : Hp} {M : Store} {v : V} {x : Vl} {pos : Pos} {dd : Ends} {env : En} {b : Nat}
theorem rels_start {N : List Str} {vs : List V} {xs : List Vl} (h : RVs c ρ Z vs xs) : RelS c ρ Z (L2.start N vs) (envOf N.length xs) := by
  have hl := RVs.length h
  unfold L2.start envOf
  refine ⟨by simp [hl], fun i y q => ?_⟩
  by_cases hi : i < xs.length
  · rw [List.getElem?_append_left (by simpa using hi), List.getElem?_map] at q
    cases e : xs[i]? with
    | none => rw [e] at q; cases q
    | some z =>
      rw [e] at q
      cases q
      obtain ⟨w, h1, h2⟩ := RVs.get h e
      exact ⟨w, by rw [List.getElem?_append_left (by simp [hl]; exact hi), List.getElem?_map, h1] <;> rfl, h2⟩
  · rw [List.getElem?_append_right (by simp; omega), List.getElem?_replicate] at q
    split at q <;> cases q
theorem low_of {b n : Nat} (hb : b ≤ n) : ∀ x : Vl, (∀ y, x = .d y → True) → True := fun _ _ => trivial
section
variable {P : Program} {w : World} {mg : Str → Option Value} {base : Heap}
variable {n qual : Str} {st : Stmt} {f : Addr} {fd : FuncData} {N ps : List Str} {k : Nat} {body : EvS}
theorem body_ok {F : EvF} (hc : ∀ xs b M, F xs b M = runT N.length body xs b M) {A : Around} {E : XK} {cdv : Value} {outer : List Env} {s : Shared} {vs : List V} {Q : VK} (h : spF c ps.length F vs H Q E) :
    tSt c (fun cl d _ H => E cl d H) body { nx := fun _ H' => Q .non H', rt := Q } (L2.start N vs) H := by
  obtain ⟨hl, b, B, ρ, Z, M, xs, r, hb, rs, po⟩ := h
  rw [hc] at po
  unfold runT at po
  refine ⟨M.length, M.length :: B, ρ, Z, M, envOf N.length xs, ⟨r.rebase, rels_start rs, fun b' h' => r.rebase.ble b' h'⟩, ?_⟩
  have fin_ok : ∀ {v : V} {x : Vl} {M' : Store} {ρ' : List Addr} {Z' H' : Hp}, Ext ρ Z ρ' Z' → Rel c (M.length :: B) ρ' Z' H' M' → RV c ρ' Z' v x → PoF c B ρ Z Q E (fin M.length x M') → Q v H' := by
    intro v x M' ρ' Z' H' e' r' rv po
    have r3 := r'.cut (fun b' h' => r.ble b' h')
    have e5 : ρ'.take M.length = ρ := by
      obtain ⟨⟨τ, ht⟩, _⟩ := e'
      rw [ht, ← r.len, List.take_left' rfl]
    unfold fin at po
    split at po
    · rw [e5] at r3
      exact po v ρ Z' H' ⟨⟨[], by simp⟩, e'.z⟩ r3 rv
    · split at po
      · rename_i hk
        have rv2 := rv_cut (n := M.length) rv hk
        rw [e5] at r3 rv2
        exact po v ρ Z' H' ⟨⟨[], by simp⟩, e'.z⟩ r3 rv2
      · exact po.elim
  cases q : body M.length (envOf N.length xs) M with
  | bad => rw [q] at po; exact po
  | exc u =>
    obtain ⟨e, en⟩ := u
    rw [q] at po
    intro σ' ρ' Z' H' a xs' e' r' s' h1 h2
    have r3 := r'.cut (fun b' h' => r.ble b' h')
    have e5 : ρ'.take M.length = ρ := by
      obtain ⟨⟨τ, ht⟩, _⟩ := e'
      rw [ht, ← r.len, List.take_left' rfl]
    rw [e5] at r3
    exact po ρ Z' H' a xs' ⟨⟨[], by simp⟩, e'.z⟩ r3 h1 h2
  | ok u =>
    obtain ⟨f, en, M'⟩ := u
    rw [q] at po
    cases f with
    | nx => exact fun σ' ρ' Z' H' e' r' s' => fin_ok (x := .d .non) e' r' .non po
    | rt x => exact fun v ρ' Z' H' e' r' rv => fin_ok e' r' rv po
    | bk => exact po.elim
    | ct => exact po.elim
theorem body_okK {F : EvF} (hc : ∀ xs b M, F xs b M = runK N.length body xs b M) {A : Around} {E : XK} {cdv : Value} {outer : List Env} {s : Shared} {vs : List V} {Q : VK} (h : spF c ps.length F vs H Q E) :
    tSt c (fun cl d _ H => E cl d H) body { nx := fun _ H' => Q .non H', rt := Q } (L2.start N vs) H := by
  obtain ⟨hl, b, B, ρ, Z, M, xs, r, hb, rs, po⟩ := h
  rw [hc] at po
  unfold runK at po
  refine ⟨b, B, ρ, Z, M, envOf N.length xs, ⟨r, rels_start rs, hb⟩, ?_⟩
  cases q : body b (envOf N.length xs) M with
  | bad => rw [q] at po; exact po
  | exc u =>
    obtain ⟨e, en⟩ := u
    rw [q] at po
    intro σ' ρ' Z' H' a xs' e' r' s' h1 h2
    exact po ρ' Z' H' a xs' e' r' h1 h2
  | ok u =>
    obtain ⟨f, en, M'⟩ := u
    rw [q] at po
    cases f with
    | nx => exact fun σ' ρ' Z' H' e' r' s' => po .non ρ' Z' H' e' r' .non
    | rt x => exact fun v ρ' Z' H' e' r' rv => po v ρ' Z' H' e' r' rv
    | bk => exact po.elim
    | ct => exact po.elim
/-- what lets exceptions through -/
abbrev Tk (X : Cx) (W : WX) : Prop := ∀ σ, PassesAt (L2.CX X.prog X.w) X σ (fun cl d H => W cl d σ H)
theorem tk_of (t : Takes X W) : Tk X W := fun σ => passAt t σ
theorem tk_0 : Tk X W0 := fun σ pins H s e s' I h => by
  obtain ⟨_, _, _, _, _, _, _, _, _, _, _, _, no⟩ := h
  exact no.elim
/-- THE RULE: a def by its body -/
theorem fn_T (hK : K = c.K) (Fn : Fun K n qual st f fd) (S : FnScope N ps (defScope st))
    (hb : ∀ (cdv : Value) (A : Around) (outer : List Env) (s : Shared) (H : Hp) (E : XK), Room k (cxOf (L2.CX P w) P w K mg base N qual (defScope st) f cdv A outer s H E).A →
      Takes (cxOf (L2.CX P w) P w K mg base N qual (defScope st) f cdv A outer s H E) (fun cl d _ H => E cl d H) →
      PSs (cxOf (L2.CX P w) P w K mg base N qual (defScope st) f cdv A outer s H E) (defBody st) (tSt c (fun cl d _ H => E cl d H) body)) :
    FnOk P w K mg base (L2.CX P w) (k + 1) f fd ps (spF c ps.length (runT N.length body)) :=
  Fn.okX S (fun vs H Q E h => h.1) fun cdv A outer s H vs Q E hr h => ⟨_, hb cdv A outer s H E hr (takes_of rfl rfl rfl rfl), body_ok (A := A) (cdv := cdv) (outer := outer) (s := s) (fun _ _ _ => rfl) h⟩
theorem fn_K (hK : K = c.K) (Fn : Fun K n qual st f fd) (S : FnScope N ps (defScope st))
    (hb : ∀ (cdv : Value) (A : Around) (outer : List Env) (s : Shared) (H : Hp) (E : XK), Room k (cxOf (L2.CX P w) P w K mg base N qual (defScope st) f cdv A outer s H E).A →
      Takes (cxOf (L2.CX P w) P w K mg base N qual (defScope st) f cdv A outer s H E) (fun cl d _ H => E cl d H) →
      PSs (cxOf (L2.CX P w) P w K mg base N qual (defScope st) f cdv A outer s H E) (defBody st) (tSt c (fun cl d _ H => E cl d H) body)) :
    FnOk P w K mg base (L2.CX P w) (k + 1) f fd ps (spF c ps.length (runK N.length body)) :=
  Fn.okX S (fun vs H Q E h => h.1) fun cdv A outer s H vs Q E hr h => ⟨_, hb cdv A outer s H E hr (takes_of rfl rfl rfl rfl), body_okK (A := A) (cdv := cdv) (outer := outer) (s := s) (fun _ _ _ => rfl) h⟩
end
/-! ### calls -/
def eCall (F : EvF) (as : EvA) (ds : List D) : EvE := fun b env M => (as b env M).bind fun q => F (q.1 ++ ds.map .d) b q.2
theorem rvs_app : ∀ {vs ws : List V} {xs ys : List Vl}, RVs c ρ Z vs xs → RVs c ρ Z ws ys → RVs c ρ Z (vs ++ ws) (xs ++ ys)
  | [], _, [], _, _, h => h
  | _ :: _, _, _ :: _, _, h, q => ⟨h.1, rvs_app h.2 q⟩
  | [], _, _ :: _, _, h, _ => h.elim
  | _ :: _, _, [], _, h, _ => h.elim
theorem po_f {Q : VK} {r : Res Ex (Vl × Store)} (po : Po c W B σ (RV c) ρ Z Q r) : PoF c B ρ Z Q (fun cl d H => W cl d σ H) r := by
  cases r with
  | ok x => exact po
  | exc x => exact po
  | bad => exact po
/-- constants that need no heap -/
def CD (c : Kx) (dvs : List V) (ds : List D) : Prop := ∀ Z, Rs c Z dvs ds
theorem rvs_of_rs : ∀ {vs : List V} {ds : List D}, Rs c Z vs ds → RVs c ρ Z vs (ds.map .d)
  | [], [], _ => trivial
  | v :: vs, d :: ds, h => by
    cases h with
    | cons h1 h2 => exact ⟨h1, rvs_of_rs h2⟩
  | [], _ :: _, h => by cases h
  | _ :: _, [], h => by cases h
theorem rd_call {F : EvF} {as : EvA} {n : Nat} {dvs : List V} {ds : List D} {Q : VK} (hl : ∀ xs b M r, F xs b M = r → r ≠ .bad → xs.length = n) (hd : CD c dvs ds) (h : tE c W (eCall F as ds) σ H Q) : tCallSD (spF c n F) dvs (fun σ cl d H => W cl d σ H) (tAr c W as) σ H Q := by
  refine tG.mono (tG.bind (k := fun (x : List Vl) b env M => F (x ++ ds.map Vl.d) b M) h) fun vs H1 ⟨xs, b, B, ρ, Z, M, env, a, p, po⟩ => ?_
  have rs : RVs c ρ Z (vs ++ dvs) (xs ++ ds.map .d) := rvs_app p (rvs_of_rs (hd Z))
  have hn : (xs ++ ds.map Vl.d).length = n := by
    refine hl _ b M _ rfl fun e => ?_
    dsimp only at po
    rw [e] at po
    exact po
  exact ⟨by rw [RVs.length rs]; exact hn, b, B, ρ, Z, M, _, a.rel, a.hb, rs, po_f po⟩
/-- an evaluator that asks for n values -/
def ar (n : Nat) (F : EvF) : EvF := fun xs b M => if xs.length = n then F xs b M else .bad
theorem ar_len {n : Nat} {F : EvF} : ∀ xs b M r, ar n F xs b M = r → r ≠ .bad → xs.length = n := fun xs b M r e h => by
  unfold ar at e
  split at e
  · assumption
  · exact absurd e.symm h
theorem sp_ar {n : Nat} {F : EvF} {vs : List V} {Q : VK} {E : XK} (h : spF c n (ar n F) vs H Q E) : spF c n F vs H Q E := by
  obtain ⟨hl, b, B, ρ, Z, M, xs, r, hb, rs, po⟩ := h
  refine ⟨hl, b, B, ρ, Z, M, xs, r, hb, rs, ?_⟩
  unfold ar at po
  split at po
  · exact po
  · exact po.elim
variable {k n : Nat} {f : Addr} {fd : FuncData} {ps : List Str} {F : EvF} {dvs : List V} {dsv : List Value} {ds : List D} {nm : Str} {p : Pos} {e : Expr} {es : List Expr} {as : EvA}
theorem d_call (Fn : FnOk X.prog X.w X.K X.mg X.base (L2.CX X.prog X.w) k f fd ps (spF c n (ar n F))) (hr : Room k X.A) (hg : Gl X nm) (hm : X.mg nm = some (.ref f)) (hk : PySem.W.keepIn X.K (.ref f) = true) (hb : Binds X.K fd ps dsv) (hd : Vals dvs dsv) (hcd : CD c dvs ds) (hx : Tk X W)
    (ha : PA X (e :: es) (tAr c W as)) (hdb : (nm == ("__debug__" : Str)) = false := by decide) (he : starEach (e :: es) X.env = (false, eval e X.env) :: starEach es X.env := by rfl) (hpl : (backTo pos (starEach es X.env)).any (·.1) = false := by rfl) :
    PE X (.Call (.Name nm p) (e :: es) [] pos) (tE c W (eCall (ar n F) as ds)) := PE.weak (pe_callSD (E := fun σ cl d H => W cl d σ H) Fn hr hg hm hk hb hd hx ha hdb he hpl) fun _ _ _ h => rd_call ar_len hcd h
/-- f() -/
theorem d_call0 (Fn : FnOk X.prog X.w X.K X.mg X.base (L2.CX X.prog X.w) k f fd ps (spF c n (ar n F))) (hr : Room k X.A) (hg : Gl X nm) (hm : X.mg nm = some (.ref f)) (hk : PySem.W.keepIn X.K (.ref f) = true) (hb : Binds X.K fd ps dsv) (hd : Vals dvs dsv) (hcd : CD c dvs ds) (hx : Tk X W)
    (hdb : (nm == ("__debug__" : Str)) = false := by decide) : PE X (.Call (.Name nm p) [] [] pos) (tE c W (eCall (ar n F) aNil ds)) := by
  refine PE.weak (t := tCallSD (spF c n (ar n F)) dvs (fun σ cl d H => W cl d σ H) (tAr c W aNil)) ⟨fun pins s σ H Q I h => ?_⟩ fun _ _ _ h => rd_call ar_len hcd h
  refine (wpAny_Call_Name_kw (ld_glob I hg hm ?_ hdb))
  obtain ⟨b, B, ρ, Z, M, env, a, po⟩ := h
  exact PySem.W.callWith_K0 I.kIn hk (run_fnSD (us := []) (vs := []) (E := fun σ cl d H => W cl d σ H) Fn hr hb hd (hx σ) I .nil (po [] ρ Z H (Ext.refl _ _) a.rel trivial))
/-! methods -/
def clsV (x : Vl) (M : Store) : Option Nat := match x with
  | .d (.ins k _) => some k
  | x => clsO x M
def eMeth (k : Nat) (F : EvF) (eo : EvE) (as : EvA) (ds : List D) : EvE := fun b env M => (eo b env M).bind fun q => if clsV q.1 q.2 = some k then (as b env q.2).bind fun u => F (q.1 :: (u.1 ++ ds.map .d)) b u.2 else .bad
theorem cls_ok (r : Rel c B ρ Z H M) (h : RV c ρ Z v x) {k : Nat} (e : clsV x M = some k) : ∃ a dx fs, v = .ref a ∧ H a = some (.ins (c.C k) dx fs) ∧ Wi (c.F k) fs := by
  unfold clsV at e
  split at e
  · rename_i k' ds
    cases e
    have h : R c Z v (.ins k ds) := h
    cases h with
    | ins h1 hw h2 => exact ⟨_, _, _, rfl, r.zh _ _ h1, hw⟩
  · unfold clsO at e
    split at e
    · split at e
      · rename_i k' fs q
        cases e
        obtain ⟨a, h1, h2⟩ := h
        obtain ⟨z, dx, gs, h3, h4, h5, h6⟩ := r.cel _ _ a q h2
        exact ⟨a, dx, gs, h1, h3, h6⟩
      · cases e
    · cases e
/-- o.m(e, ..), what it raises wished for at the slots -/
def tMethD (C : Addr) (m : Str) (sp : Sp) (dvs : List V) (E : L2.St → XK) (ta : TE) (t : TA) : TE := fun σ H Q => ta σ H fun x H1 => ∃ a dx fs, x = .ref a ∧ H1 a = some (.ins C dx fs) ∧ fs.lookup m = none ∧ t σ H1 fun vs H2 => sp (x :: (vs ++ dvs)) H2 Q (E σ)
theorem rd_meth {cl : Nat} {m : Str} {eo : EvE} {Q : VK} (hl : ∀ xs b M r, F xs b M = r → r ≠ .bad → xs.length = n) (hd : CD c dvs ds) (hm : m ∉ c.F cl) (h : tE c W (eMeth cl F eo as ds) σ H Q) : tMethD (c.C cl) m (spF c n F) dvs (fun σ cl d H => W cl d σ H) (tE c W eo) (tAr c W as) σ H Q := by
  refine tG.mono (tG.bind (k := fun (x : Vl) b env M => if clsV x M = some cl then (as b env M).bind fun u => F (x :: (u.1 ++ ds.map Vl.d)) b u.2 else .bad) h) fun o H1 ⟨xo, b, B, ρ, Z, M, env, a, p, po⟩ => ?_
  dsimp only at po
  split at po
  · rename_i hc
    obtain ⟨ad, dx, fs, h1, h2, h3⟩ := cls_ok a.rel p hc
    have hlk : fs.lookup m = none := by
      cases e : fs.lookup m with
      | none => rfl
      | some w => exact absurd (h3 m w e) hm
    refine ⟨ad, dx, fs, h1, h2, hlk, ?_⟩
    have h4 : tGP c W (RV c) (fun b env M => (as b env M).bind fun u => F (xo :: (u.1 ++ ds.map .d)) b u.2) (fun ρ Z => RV c ρ Z o xo) σ H1 Q := ⟨b, B, ρ, Z, M, env, a, p, po⟩
    refine tG.mono (tGP.bind (k := fun (u : List Vl) b env M => F (xo :: (u ++ ds.map Vl.d)) b M) Mono.rv h4) fun vs H2 ⟨xs, b, B, ρ, Z, M, env, a, ⟨p1, p2⟩, po⟩ => ?_
    have rs : RVs c ρ Z (o :: (vs ++ dvs)) (xo :: (xs ++ ds.map .d)) := ⟨p1, rvs_app p2 (rvs_of_rs (hd Z))⟩
    have hn : (xo :: (xs ++ ds.map Vl.d)).length = n := by
      refine hl _ b M _ rfl fun e => ?_
      dsimp only at po
      rw [e] at po
      exact po
    exact ⟨by rw [RVs.length rs]; exact hn, b, B, ρ, Z, M, _, a.rel, a.hb, rs, po_f po⟩
  · exact po.elim
theorem d_meth {cl : Nat} {m : Str} {o : Expr} {eo : EvE} {apos : Pos} {pl : Sem Bool} (ho : PE X o (tE c W eo)) (hK : X.K = c.K) (cc : Cls X.K (c.C cl)) (hm : Meth X.K (c.C cl) m f) (hf : m ∉ c.F cl) (Fn : FnOk X.prog X.w X.K X.mg X.base (L2.CX X.prog X.w) k f fd ps (spF c n (ar n F))) (hr : Room k X.A) (hb : Binds X.K fd ps dsv) (hd : Vals dvs dsv) (hcd : CD c dvs ds) (hx : Tk X W) (ha : PA X (e :: es) (tAr c W as))
    (hst : starEach (e :: es) X.env = (false, eval e X.env) :: starEach es X.env := by rfl) (hpl : (backTo pos (starEach es X.env)).any (·.1) = false := by rfl)
    (ht : eval (.Call (.Attribute o m apos) (e :: es) [] pos) X.env = (do
      let ov ← eval o X.env
      standAt apos.atName
      let (f, first) ← holding [ov] (getMethod ov m pl)
      callWith pos f first (backTo pos (starEach (e :: es) X.env)) (backToKw pos (keywordEach [] X.env))) := by rfl) :
    PE X (.Call (.Attribute o m apos) (e :: es) [] pos) (tE c W (eMeth cl (ar n F) eo as ds)) := by
  refine PE.weak (t := tMethD (c.C cl) m (spF c n (ar n F)) dvs (fun σ cl d H => W cl d σ H) (tE c W eo) (tAr c W as)) ⟨fun pins s σ H Q I h => ?_⟩ fun _ _ _ h => rd_meth ar_len hcd hf h
  refine PySem.W.methodCall_KW (pl := pl) (thn (ho.run pins s σ H _ I h) fun u s1 ⟨x, H1, I1, rx, a, dx, fs, ex, ea, l, q⟩ => ?_) ht
  subst ex
  obtain rfl : u = Value.ref a := rx
  refine getmeth_ok I1 ea cc hm l ?_
  refine PySem.W.callWith_K (first := [.ref a]) (h₀ := X.base) I.ok.mod.kin hm.kp (thn (ha.run pos pins s1 σ H1 _ I1 q) fun us s2 ⟨vs, H2, I2, r, q2⟩ => ⟨I2.kIn, ?_⟩) hst hpl
  exact run_fnSD (us := .ref a :: us) (vs := .ref a :: vs) (E := fun σ cl d H => W cl d σ H) Fn hr hb hd (hx σ) I2 (.cons rfl r) q2
theorem d_meth0 {cl : Nat} {m : Str} {o : Expr} {eo : EvE} {apos : Pos} {pl : Sem Bool} (ho : PE X o (tE c W eo)) (hK : X.K = c.K) (cc : Cls X.K (c.C cl)) (hm : Meth X.K (c.C cl) m f) (hf : m ∉ c.F cl) (Fn : FnOk X.prog X.w X.K X.mg X.base (L2.CX X.prog X.w) k f fd ps (spF c n (ar n F))) (hr : Room k X.A) (hb : Binds X.K fd ps dsv) (hd : Vals dvs dsv) (hcd : CD c dvs ds) (hx : Tk X W)
    (ht : eval (.Call (.Attribute o m apos) [] [] pos) X.env = (do let ov ← eval o X.env; standAt apos.atName; let (f, first) ← holding [ov] (getMethod ov m pl); callWith pos f first (backTo pos (starEach [] X.env)) (backToKw pos (keywordEach [] X.env))) := by rfl) :
    PE X (.Call (.Attribute o m apos) [] [] pos) (tE c W (eMeth cl (ar n F) eo aNil ds)) := by
  refine PE.weak (t := tMethD (c.C cl) m (spF c n (ar n F)) dvs (fun σ cl d H => W cl d σ H) (tE c W eo) (tAr c W aNil)) ⟨fun pins s σ H Q I h => ?_⟩ fun _ _ _ h => rd_meth ar_len hcd hf h
  refine PySem.W.methodCall_KW (pl := pl) (thn (ho.run pins s σ H _ I h) fun u s1 ⟨x, H1, I1, rx, a, dx, fs, ex, ea, l, q⟩ => ?_) ht
  subst ex
  obtain rfl : u = Value.ref a := rx
  refine getmeth_ok I1 ea cc hm l ?_
  obtain ⟨b, B, ρ, Z, M, env, at_, po⟩ := q
  exact PySem.W.callWith_K0 (first := [.ref a]) I1.kIn hm.kp (run_fnSD (us := [.ref a]) (vs := [.ref a]) (E := fun σ cl d H => W cl d σ H) Fn hr hb hd (hx σ) I1 (.cons rfl .nil) (po [] ρ Z H1 (Ext.refl _ _) at_.rel trivial))
/-! ### new instances -/
/-- kept as a cell -/
def eMakeK (cl m : Nat) (F : EvF) (as : EvA) (ds : List D) : EvE := fun b env M => (as b env M).bind fun q => match F (.c q.2.length :: (q.1 ++ ds.map .d)) b (q.2 ++ [some (.ins cl (List.replicate m (.d .no)))]) with
  | .ok (.d .non, M') => .ok (.c q.2.length, M')
  | _ => .bad
/-- data at once -/
def eMakeF (cl m : Nat) (F : EvF) (as : EvA) (ds : List D) : EvE := fun b env M => (as b env M).bind fun q => match F (.c q.2.length :: (q.1 ++ ds.map .d)) q.2.length (q.2 ++ [some (.ins cl (List.replicate m (.d .no)))]) with
  | .ok (.d .non, M') => (match M'[q.2.length]? with
    | some (some (.ins k fs)) => (match ds? fs with
      | some gs => .ok (.d (.ins k gs), M'.take q.2.length)
      | none => .bad)
    | _ => .bad)
  | _ => .bad
theorem rvf_no : ∀ (ns : List Str), RVf c ρ Z ns [] (List.replicate ns.length (.d .no))
  | [] => trivial
  | n :: ns => ⟨.inl rfl, rvf_no ns⟩
theorem newI (r : Rel c B ρ Z H M) {x dx : Addr} {cl m : Nat} (hx : H x = none) (hdx : H dx = none) (hne : dx ≠ x) (hm : (c.F cl).length = m) :
    Rel c B (ρ ++ [x]) Z (upd (upd H dx (.own x)) x (.ins (c.C cl) dx [])) (M ++ [some (.ins cl (List.replicate m (.d .no)))]) ∧ Ext ρ Z (ρ ++ [x]) Z := by
  refine r.new hx (fun a o q => ?_) (by rw [upd_same]; intro z; cases z) (ob := .ins cl (List.replicate m (.d .no))) ⟨dx, [], upd_same, ?_, Nat.zero_le _, fun n v e => by simp at e⟩
  · rw [upd_ne (ne_of_none q hx), upd_ne (ne_of_none q hdx)]
    exact q
  · rw [← hm]; exact rvf_no _
theorem rd_makeK {cl m : Nat} {Q : VK} (hl : ∀ xs b M r, F xs b M = r → r ≠ .bad → xs.length = n) (hd : CD c dvs ds) (hm : (c.F cl).length = m) (h : tE c W (eMakeK cl m F as ds) σ H Q) : tMake (c.C cl) (spF c n F) dvs E0 (tAr c W as) σ H Q := by
  have h : tG c W (RV c) (fun b env M => (as b env M).bind fun q => (match F (.c q.2.length :: (q.1 ++ ds.map .d)) b (q.2 ++ [some (.ins cl (List.replicate m (.d .no)))]) with
    | .ok (.d .non, M') => .ok (.c q.2.length, M')
    | _ => .bad : Res Ex (Vl × Store))) σ H Q := h
  refine tG.mono (tG.bind (k := fun (x : List Vl) b env M => (match F (.c M.length :: (x ++ ds.map .d)) b (M ++ [some (.ins cl (List.replicate m (.d .no)))]) with
    | .ok (.d .non, M') => .ok (.c M.length, M')
    | _ => .bad : Res Ex (Vl × Store))) h) fun vs H1 ⟨xs, b, B, ρ, Z, M, env, a, p, po⟩ => ?_
  intro x dx hx hdx hne
  obtain ⟨r', e'⟩ := newI a.rel hx hdx hne hm
  dsimp only at po
  have hD : (ρ ++ [x])[M.length]? = some x := by rw [← a.rel.len]; simp
  have rs : RVs c (ρ ++ [x]) Z (.ref x :: (vs ++ dvs)) (.c M.length :: (xs ++ ds.map .d)) := ⟨⟨x, rfl, hD⟩, rvs_app (RVs.up e' p) (rvs_of_rs (hd Z))⟩
  cases q : F (.c M.length :: (xs ++ ds.map .d)) b (M ++ [some (.ins cl (List.replicate m (.d .no)))]) with
  | bad => rw [q] at po; exact po.elim
  | exc u => rw [q] at po; exact po.elim
  | ok u =>
    have hn := hl _ b _ _ q (by intro z; cases z)
    refine ⟨by rw [RVs.length rs]; exact hn, b, B, _, _, _, _, r', a.hb, rs, ?_⟩
    rw [q]
    rw [q] at po
    obtain ⟨y, M'⟩ := u
    intro v ρ' Z' H' e2 r2 rv
    split at po
    · rename_i q2
      cases q2
      exact ⟨R.non_inv rv, po (.ref x) ρ' Z' H' (e'.trans e2) r2 ⟨x, rfl, e2.get hD⟩⟩
    · exact po.elim
theorem rd_makeF {cl m : Nat} {Q : VK} (hl : ∀ xs b M r, F xs b M = r → r ≠ .bad → xs.length = n) (hd : CD c dvs ds) (hm : (c.F cl).length = m) (h : tE c W (eMakeF cl m F as ds) σ H Q) : tMake (c.C cl) (spF c n F) dvs E0 (tAr c W as) σ H Q := by
  have h : tG c W (RV c) (fun b env M => (as b env M).bind fun q => (match F (.c q.2.length :: (q.1 ++ ds.map .d)) q.2.length (q.2 ++ [some (.ins cl (List.replicate m (.d .no)))]) with
    | .ok (.d .non, M') => (match M'[q.2.length]? with
      | some (some (.ins k fs)) => (match ds? fs with
        | some gs => .ok (.d (.ins k gs), M'.take q.2.length)
        | none => .bad)
      | _ => .bad)
    | _ => .bad : Res Ex (Vl × Store))) σ H Q := h
  refine tG.mono (tG.bind (k := fun (x : List Vl) b env M => (match F (.c M.length :: (x ++ ds.map .d)) M.length (M ++ [some (.ins cl (List.replicate m (.d .no)))]) with
    | .ok (.d .non, M') => (match M'[M.length]? with
      | some (some (.ins k fs)) => (match ds? fs with
        | some gs => .ok (.d (.ins k gs), M'.take M.length)
        | none => .bad)
      | _ => .bad)
    | _ => .bad : Res Ex (Vl × Store))) h) fun vs H1 ⟨xs, b, B, ρ, Z, M, env, a, p, po⟩ => ?_
  intro x dx hx hdx hne
  have rb := a.rel.rebase
  obtain ⟨r', e'⟩ := newI rb hx hdx hne hm
  dsimp only at po
  have hD : (ρ ++ [x])[M.length]? = some x := by rw [← a.rel.len]; simp
  have rs : RVs c (ρ ++ [x]) Z (.ref x :: (vs ++ dvs)) (.c M.length :: (xs ++ ds.map .d)) := ⟨⟨x, rfl, hD⟩, rvs_app (RVs.up e' p) (rvs_of_rs (hd Z))⟩
  cases q : F (.c M.length :: (xs ++ ds.map .d)) M.length (M ++ [some (.ins cl (List.replicate m (.d .no)))]) with
  | bad => rw [q] at po; exact po.elim
  | exc u => rw [q] at po; exact po.elim
  | ok u =>
    have hn := hl _ _ _ _ q (by intro z; cases z)
    refine ⟨by rw [RVs.length rs]; exact hn, M.length, M.length :: B, _, _, _, _, r', fun b' h' => rb.ble b' h', rs, ?_⟩
    rw [q]
    rw [q] at po
    obtain ⟨y, M'⟩ := u
    intro v ρ' Z' H' e2 r2 rv
    split at po
    · rename_i q2
      cases q2
      refine ⟨R.non_inv rv, ?_⟩
      split at po
      · rename_i k fs q3
        split at po
        · rename_i gs q4
          obtain ⟨z, dx', hs, h3, h4, h5, h6⟩ := r2.cel _ _ x q3 (e2.get hD)
          obtain ⟨r3, e3⟩ := r2.freeze q3 (e2.get hD) h3
          have r4 := r3.cut (fun b' h' => a.rel.ble b' h')
          have e4 : (M'.set M.length none).take M.length = M'.take M.length := by
            rw [List.take_set_of_le (Nat.le_refl _)]
          have e5 : ρ'.take M.length = ρ := by
            obtain ⟨⟨τ, ht⟩, _⟩ := e2
            rw [ht, ← a.rel.len, List.append_assoc, List.take_left' rfl]
          rw [e4, e5] at r4
          exact po (.ref x) ρ _ H' ⟨⟨[], by simp⟩, e2.z.trans e3.z⟩ r4 (R.ins upd_same h6 ((rf_of q4 h4).up e3.z))
        · exact po.elim
      · exact po.elim
    · exact po.elim
theorem d_makeK {cl m : Nat} {fi : Addr} (Mk : L2.Mk X.K (c.C cl) fi) (Fn : FnOk X.prog X.w X.K X.mg X.base (L2.CX X.prog X.w) k fi fd ps (spF c n (ar n F))) (hm0 : (c.F cl).length = m) (hr : Room (k + 1) X.A) (hg : Gl X nm) (hm : X.mg nm = some (.ref (c.C cl))) (hb : Binds X.K fd ps dsv) (hd : Vals dvs dsv) (hcd : CD c dvs ds)
    (ha : PA X (e :: es) (tAr c W as)) (hdb : (nm == ("__debug__" : Str)) = false := by decide) (he : starEach (e :: es) X.env = (false, eval e X.env) :: starEach es X.env := by rfl) (hpl : (backTo pos (starEach es X.env)).any (·.1) = false := by rfl) :
    PE X (.Call (.Name nm p) (e :: es) [] pos) (tE c W (eMakeK cl m (ar n F) as ds)) := PE.weak (pe_make Mk Fn hr hg hm hb hd passL ha hdb he hpl) fun _ _ _ h => rd_makeK ar_len hcd hm0 h
theorem d_makeF {cl m : Nat} {fi : Addr} (Mk : L2.Mk X.K (c.C cl) fi) (Fn : FnOk X.prog X.w X.K X.mg X.base (L2.CX X.prog X.w) k fi fd ps (spF c n (ar n F))) (hm0 : (c.F cl).length = m) (hr : Room (k + 1) X.A) (hg : Gl X nm) (hm : X.mg nm = some (.ref (c.C cl))) (hb : Binds X.K fd ps dsv) (hd : Vals dvs dsv) (hcd : CD c dvs ds)
    (ha : PA X (e :: es) (tAr c W as)) (hdb : (nm == ("__debug__" : Str)) = false := by decide) (he : starEach (e :: es) X.env = (false, eval e X.env) :: starEach es X.env := by rfl) (hpl : (backTo pos (starEach es X.env)).any (·.1) = false := by rfl) :
    PE X (.Call (.Name nm p) (e :: es) [] pos) (tE c W (eMakeF cl m (ar n F) as ds)) := PE.weak (pe_make Mk Fn hr hg hm hb hd passL ha hdb he hpl) fun _ _ _ h => rd_makeF ar_len hcd hm0 h
theorem d_makeK0 {cl m : Nat} {fi : Addr} (Mk : L2.Mk X.K (c.C cl) fi) (Fn : FnOk X.prog X.w X.K X.mg X.base (L2.CX X.prog X.w) k fi fd ps (spF c n (ar n F))) (hm0 : (c.F cl).length = m) (hr : Room (k + 1) X.A) (hg : Gl X nm) (hm : X.mg nm = some (.ref (c.C cl))) (hb : Binds X.K fd ps dsv) (hd : Vals dvs dsv) (hcd : CD c dvs ds)
    (hdb : (nm == ("__debug__" : Str)) = false := by decide) : PE X (.Call (.Name nm p) [] [] pos) (tE c W (eMakeK cl m (ar n F) aNil ds)) := PE.weak (pe_make0 Mk Fn hr hg hm hb hd passL hdb) fun σ H Q h => by
  obtain ⟨b, B, ρ, Z, M, env, a, po⟩ := rd_makeK ar_len hcd hm0 h
  exact po [] ρ Z H (Ext.refl _ _) a.rel trivial
end
end Mo

namespace Mo
open PySem L2
section
variable {c : Kx} {W : WX} {σ : L2.St} {H : Hp} {X : Cx} {B : List Nat} {ρ ρ1 : List Addr} {Z Z1 : Hp} {M : Store} {v : V} {x : Vl} {pos : Pos} {dd : Ends} {env : En} {b : Nat}
/-! ### list methods -/
def appO (b : Nat) (o y : Vl) (M : Store) : Option Store := match o with
  | .c n => (match M[n]? with
    | some (some (.lst xs)) => (match y with
      | .d d => if xs.length < LIM then some (M.set n (some (.lst (xs ++ [d])))) else none
      | .c _ => none)
    | some (some (.lsc xs)) => if xs.length < LIM ∧ b ≤ n then some (M.set n (some (.lsc (xs ++ [y])))) else none
    | _ => none)
  | _ => none
/-- a list that may be written -/
def isLc (x : Vl) (M : Store) : Bool := match x with
  | .c n => (match M[n]? with
    | some (some (.lst _)) => true
    | some (some (.lsc _)) => true
    | _ => false)
  | _ => false
theorem isLc_ok (r : Rel c B ρ Z H M) (h : RV c ρ Z v x) (e : isLc x M = true) : ∃ a vs, v = .ref a ∧ H a = some (.lst vs) := by
  unfold isLc at e
  split at e
  · split at e
    · rename_i q
      obtain ⟨a, h1, h2⟩ := h
      obtain ⟨z, vs, h3, h4⟩ := r.cel _ _ a q h2
      exact ⟨a, vs, h1, h3⟩
    · rename_i q
      obtain ⟨a, h1, h2⟩ := h
      obtain ⟨z, vs, h3, h4⟩ := r.cel _ _ a q h2
      exact ⟨a, vs, h1, h3⟩
    · cases e
  · cases e
theorem rvs_snoc {w : V} {y : Vl} (r : RV c ρ Z w y) : ∀ {vs : List V} {xs : List Vl}, RVs c ρ Z vs xs → RVs c ρ Z (vs ++ [w]) (xs ++ [y])
  | [], [], _ => ⟨r, trivial⟩
  | _ :: _, _ :: _, h => ⟨h.1, rvs_snoc r h.2⟩
  | [], _ :: _, h => h.elim
  | _ :: _, [], h => h.elim
theorem appO_ok (r : Rel c B ρ Z H M) (hb : ∀ b' ∈ B, b' ≤ b) {y : Vl} {w : V} (h : RV c ρ Z v x) (hy : RV c ρ Z w y) {M' : Store} (e : appO b x y M = some M') :
    ∃ a vs, v = .ref a ∧ H a = some (.lst vs) ∧ vs.length < sizeLine ∧ Rel c B ρ Z (upd H a (.lst (vs ++ [w]))) M' := by
  unfold appO at e
  split at e
  · split at e
    · rename_i xs q
      obtain ⟨a, h1, h2⟩ := h
      obtain ⟨z, vs, h3, h4⟩ := r.cel _ _ a q h2
      split at e
      · split at e
        · rename_i d hl
          cases e
          exact ⟨a, vs, h1, h3, lim_lt (by rw [h4.length]; exact hl), r.wr q h2 ⟨_, upd_same, h4.append (.cons hy .nil)⟩ fun _ _ _ => trivial⟩
        · cases e
      · cases e
    · rename_i xs q
      obtain ⟨a, h1, h2⟩ := h
      obtain ⟨z, vs, h3, h4⟩ := r.cel _ _ a q h2
      split at e
      · rename_i hl
        cases e
        exact ⟨a, vs, h1, h3, lim_lt (by rw [RVs.length h4]; exact hl.1), r.wr q h2 ⟨_, upd_same, rvs_snoc hy h4⟩ fun b' hb' hn => absurd hn (by have := hb b' hb'; omega)⟩
      · cases e
    · cases e
  · cases e
/-- o.m(..), o a list that may be written -/
abbrev OpM := Nat → Vl → List Vl → Store → Option (Vl × Store)
def eBM (f : OpM) (eo : EvE) (as : EvA) : EvE := fun b env M => (eo b env M).bind fun q => if isLc q.1 q.2 = true then (as b env q.2).bind fun u => Res.opt (f b q.1 u.1 u.2) else .bad
def BmOk (c : Kx) (f : OpM) (r : V → List V → Hp → VK → Prop) : Prop := ∀ (b : Nat) (B : List Nat) (ρ : List Addr) (Z H : Hp) (M : Store) (x : Vl) (xs : List Vl) (v : V) (vs : List V) (Q : VK), Rel c B ρ Z H M → (∀ b' ∈ B, b' ≤ b) → RV c ρ Z v x → RVs c ρ Z vs xs → PoO c B ρ Z Q (f b x xs M) → r v vs H Q
theorem rd_bm {f : OpM} {r : V → List V → Hp → VK → Prop} {eo : EvE} {as : EvA} {Q : VK} (hr : BmOk c f r) (h : tE c W (eBM f eo as) σ H Q) : tBM c.K "list" r (tE c W eo) (tAr c W as) σ H Q := by
  refine tG.mono (tG.bind (k := fun (x : Vl) b env M => if isLc x M = true then (as b env M).bind fun u => Res.opt (f b x u.1 u.2) else .bad) h) fun o H1 ⟨xo, b, B, ρ, Z, M, env, a, p, po⟩ => ?_
  dsimp only at po
  split at po
  · rename_i hl
    obtain ⟨ad, vs, rfl, h2⟩ := isLc_ok a.rel p hl
    refine ⟨.inl ⟨rfl, vs, SqL.of h2⟩, ?_⟩
    have h4 : tGP c W (RV c) (fun b env M => (as b env M).bind fun u => Res.opt (f b xo u.1 u.2)) (fun ρ Z => RV c ρ Z (.ref ad) xo) σ H1 Q := ⟨b, B, ρ, Z, M, env, a, p, po⟩
    refine tG.mono (tGP.bind (k := fun (u : List Vl) b env M => Res.opt (f b xo u M)) Mono.rv h4) fun ws H2 ⟨xs, b, B, ρ, Z, M, env, a, ⟨p1, p2⟩, po⟩ => ?_
    exact hr b B ρ Z H2 M xo xs _ ws Q a.rel a.hb p1 p2 (PoO.of po)
  · exact po.elim
def mApp : OpM := fun b o ys M => match ys with
  | [y] => (match appO b o y M with
    | some M' => some (.d .non, M')
    | none => none)
  | _ => none
theorem bm_app : BmOk c mApp rAppend := fun b B ρ Z H M x xs v vs Q r hb h hs po => by
  unfold mApp at po
  split at po
  · split at po
    · rename_i M' q
      obtain ⟨w, rfl, hw⟩ := rvs1 hs
      obtain ⟨a, us, h1, h2, h3, h4⟩ := appO_ok r hb h hw q
      exact ⟨a, us, w, h1, rfl, h2, h3, po _ ρ Z _ (Ext.refl _ _) h4 .non⟩
    · exact po.elim
  · exact po.elim
def mExt : OpM := fun b o ys M => match o, ys with
  | .c n, [y] => (match M[n]?, rdP M y with
    | some (some (.lst xs)), some zs => if xs.length + zs.length ≤ LIM then some (.d .non, M.set n (some (.lst (xs ++ zs)))) else none
    | _, _ => none)
  | _, _ => none
theorem bm_ext : BmOk c mExt rExtend := fun b B ρ Z H M x xs v vs Q r hb h hs po => by
  unfold mExt at po
  split at po
  · split at po
    · rename_i xs zs q1 q2
      split at po
      · rename_i hl
        obtain ⟨w, rfl, hw⟩ := rvs1 hs
        obtain ⟨a, h1, h2⟩ := h
        obtain ⟨z, us, h3, h4⟩ := r.cel _ _ a q1 h2
        obtain ⟨a', us', h5, h6, h7⟩ := rdP_ok r hw q2
        exact ⟨a, a', us, us', h1, by rw [h5], h3, h6, lim_ok (by rw [h4.length, h7.length]; exact hl), po _ ρ Z _ (Ext.refl _ _) (r.wr q1 h2 ⟨_, upd_same, h4.append h7⟩ fun _ _ _ => trivial) .non⟩
      · exact po.elim
    · exact po.elim
  · exact po.elim
theorem d_app (hK : X.K = c.K) {o e : Expr} {eo ev : EvE} {apos : Pos} (ho : PE X o (tE c W eo)) (he : PE X e (tE c W ev)) (hbase : attributeBase o "append" X.env (eval o X.env) = eval o X.env := by rfl) (hline : (apos.endLine == pos.line) = true := by rfl) (hs : starEach [e] X.env = (false, eval e X.env) :: starEach [] X.env := by rfl)
    (hfew : ((backTo pos (starEach [e] X.env)).all (fun x => !x.1) && (backToKw pos (keywordEach [] X.env)).all (fun x => x.1.isSome)
      && decide ([e].length + ([] : List Keyword).length + (if ([] : List Keyword).isEmpty then 0 else 1) < 30)) = true := by rfl) :
    PE X (.Call (.Attribute o "append" apos) [e] [] pos) (tE c W (eBM mApp eo (aCons ev aNil))) :=
  PE.weak (pe_bm PySem.F.plainAttrs_list PySem.F.slot_list_append PySem.F.type_list_append mt_append ho (d_acons he d_anil hs) hbase hfew hline hs rfl) fun σ H Q h => by rw [hK]; exact rd_bm bm_app h
theorem d_ext (hK : X.K = c.K) {o e : Expr} {eo ev : EvE} {apos : Pos} (ho : PE X o (tE c W eo)) (he : PE X e (tE c W ev)) (hbase : attributeBase o "extend" X.env (eval o X.env) = eval o X.env := by rfl) (hline : (apos.endLine == pos.line) = true := by rfl) (hs : starEach [e] X.env = (false, eval e X.env) :: starEach [] X.env := by rfl)
    (hfew : ((backTo pos (starEach [e] X.env)).all (fun x => !x.1) && (backToKw pos (keywordEach [] X.env)).all (fun x => x.1.isSome)
      && decide ([e].length + ([] : List Keyword).length + (if ([] : List Keyword).isEmpty then 0 else 1) < 30)) = true := by rfl) :
    PE X (.Call (.Attribute o "extend" apos) [e] [] pos) (tE c W (eBM mExt eo (aCons ev aNil))) :=
  PE.weak (pe_bm PySem.F.plainAttrs_list PySem.F.slot_list_extend PySem.F.type_list_extend mt_extend ho (d_acons he d_anil hs) hbase hfew hline hs rfl) fun σ H Q h => by rw [hK]; exact rd_bm bm_ext h
/-! ### bit_length -/
def oBits : Op1 := fun x M => match x with
  | .d (.int i) => some (.d (.int (Builtin.Int.intBits i : Nat)), M)
  | _ => none
theorem d_bits {o : Expr} {eo : EvE} {apos : Pos} (ho : PE X o (tE c W eo)) (hbase : attributeBase o "bit_length" X.env (eval o X.env) = eval o X.env := by rfl) (hline : (apos.endLine == pos.line) = true := by rfl) : PE X (.Call (.Attribute o "bit_length" apos) [] [] pos) (tE c W (eUn oBits eo)) :=
  PE.weak (pe_bits ho hbase hline) fun σ H Q h => by
    refine tG.mono (show tG c W (RV c) eo σ H _ from rd_un h) fun x H1 ⟨B, ρ, Z, M, dx, rel, p1, po⟩ => ?_
    unfold oBits at po
    split at po
    · exact ⟨_, R.int_inv p1, po_self po rel (R.int _)⟩
    · exact po.elim
/-! ### isinstance of built-in classes -/
def tyN (M : Store) : Vl → Option String
  | .d .non => some "NoneType"
  | .d (.bl _) => some "bool"
  | .d (.int _) => some "int"
  | .d (.str _) => some "str"
  | .d (.lst _) => some "list"
  | .d (.lck _) => none
  | .d (.tup _) => some "tuple"
  | .c n => match M[n]? with
    | some (some (.lst _)) => some "list"
    | some (some (.lsc _)) => some "list"
    | _ => none
  | _ => none
def eIsi (T : String) (e : EvE) : EvE := fun b env M => (e b env M).bind fun q => match tyN q.2 q.1 with
  | some a => (match kitB a T with
    | some k => .ok (.d (.bl k), q.2)
    | none => .bad)
  | none => .bad
theorem tyx_of (r : Rel c B ρ Z H M) (h : RV c ρ Z v x) {a : String} (e : tyN M x = some a) : TyX c.K H v (.type a) := by
  unfold tyN at e
  split at e
  · cases e; rw [R.non_inv h]; exact .base .non
  · cases e; rw [R.bl_inv h]; exact .base (.bl _)
  · cases e; rw [R.int_inv h]; exact .base (.int _)
  · cases e; rw [R.str_inv h]; exact .base (.str _)
  · rename_i xs
    cases e
    have h : R c Z v (.lst xs) := h
    cases h with
    | lst h1 h2 => exact .base (.lst (r.zh _ _ h1))
  · cases e
  · rename_i xs
    cases e
    obtain ⟨a, vs, rfl, h1, h2⟩ := rdT_ok r h rfl
    rcases h1 with (h1 | ⟨o, h1⟩) | ⟨o, its, n, h1, h2, _⟩
    · exact .base (.tup h1)
    · exact .fTuple h1
    · exact .kTuple h1 h2
  · split at e
    · rename_i q
      cases e
      obtain ⟨a, rfl, h2⟩ := h
      obtain ⟨z, vs, h3, h4⟩ := r.cel _ _ a q h2
      exact .base (.lst h3)
    · rename_i q
      cases e
      obtain ⟨a, rfl, h2⟩ := h
      obtain ⟨z, vs, h3, h4⟩ := r.cel _ _ a q h2
      exact .base (.lst h3)
    · cases e
  · cases e
theorem d_isi (hK : X.K = c.K) {T : String} {nT : Str} {e : Expr} {ie : EvE} {p pT : Pos} (hg : Gl X "isinstance") (hm : X.mg "isinstance" = none) (hgT : Gl X nT) (hmT : X.mg nT = none) (hvT : bootBuiltins nT = some (.type T)) (he : PE X e (tE c W ie))
    (hn : nT ≠ "__name__" := by decide) (hdb : (nT == ("__debug__" : Str)) = false := by decide)
    (hs : starEach [e, .Name nT pT] X.env = (false, eval e X.env) :: starEach [.Name nT pT] X.env := by rfl) (hpl : (backTo pos (starEach [.Name nT pT] X.env)).any (·.1) = false := by rfl) :
    PE X (.Call (.Name "isinstance" p) [e, .Name nT pT] [] pos) (tE c W (eIsi T ie)) :=
  PE.weak (pe_callB call_isi hg hm PyProof.Rows.boot_isinstance (pa_cons he (pa_cons (pe_bltn (v := .ty T) hgT hmT hvT rfl hn hdb) pa_nil) hs) (by decide) (by decide) hs hpl) fun σ H Q h => by
    have h : tG c W (RV c) (fun b env M => (ie b env M).bind fun q => (match tyN q.2 q.1 with
      | some a => (match kitB a T with
        | some k => .ok (.d (.bl k), q.2)
        | none => .bad)
      | none => .bad : Res Ex (Vl × Store))) σ H Q := h
    show tE c W ie σ H _
    refine tG.mono (tG.bind (k := fun (x : Vl) b env M => (match tyN M x with
      | some a => (match kitB a T with
        | some k => .ok (.d (.bl k), M)
        | none => .bad)
      | none => .bad : Res Ex (Vl × Store))) h) fun y H1 ⟨dx, b, B, ρ, Z, M, env, a, p, po⟩ => ?_
    dsimp only at po
    split at po
    · rename_i nm q
      split at po
      · rename_i k q2
        refine ⟨y, .ty T, .type nm, .type T, k, rfl, .ty T, by rw [hK]; exact tyx_of a.rel p q, by exact kit_ty q2, po _ ρ Z H1 (Ext.refl _ _) a.rel (R.bl _)⟩
      · exact po.elim
    · exact po.elim
/-! ### x in (written items) -/
def flatD : D → Bool
  | .non | .bl _ | .int _ | .str _ => true
  | _ => false
def eqF : D → D → Bool
  | .int i, .int j => decide (i = j)
  | .str s, .str t => decide (s = t)
  | .non, .non => true
  | .non, _ => false
  | _, .non => false
  | .int _, .str _ => false
  | .str _, .int _ => false
  | _, _ => false
/-! ### stores into a list -/
def setO (b : Nat) (o i y : Vl) (M : Store) : Option Store := match o, i with
  | .c n, .d (.int k) => (match M[n]? with
    | some (some (.lst xs)) => (match y with
      | .d d => (match ixN xs.length k with
        | some j => some (M.set n (some (.lst (xs.set j d))))
        | none => none)
      | .c _ => none)
    | some (some (.lsc xs)) => if b ≤ n then (match ixN xs.length k with
      | some j => some (M.set n (some (.lsc (xs.set j y))))
      | none => none) else none
    | _ => none)
  | _, _ => none
theorem rvs_set {w : V} {y : Vl} (r : RV c ρ Z w y) : ∀ {vs : List V} {xs : List Vl} (j : Nat), RVs c ρ Z vs xs → RVs c ρ Z (vs.set j w) (xs.set j y)
  | [], [], _, _ => trivial
  | _ :: _, _ :: _, 0, h => ⟨r, h.2⟩
  | _ :: _, _ :: _, j + 1, h => ⟨h.1, rvs_set r j h.2⟩
  | [], _ :: _, _, h => h.elim
  | _ :: _, [], _, h => h.elim
theorem setO_ok (r : Rel c B ρ Z H M) (hb : ∀ b' ∈ B, b' ≤ b) {i y : Vl} {vi w : V} (h : RV c ρ Z v x) (hi : RV c ρ Z vi i) (hy : RV c ρ Z w y) {M' : Store} (e : setO b x i y M = some M') {Q : Hp → Prop} (q : ∀ H', Rel c B ρ Z H' M' → Q H') : rSetL v vi w H Q := by
  unfold setO at e
  split at e
  · rename_i n k
    obtain ⟨a, h1, h2⟩ := h
    split at e
    · rename_i xs q0
      obtain ⟨z, vs, h3, h4⟩ := r.cel n _ a q0 h2
      split at e
      · rename_i d
        split at e
        · rename_i j hj
          cases e
          exact ⟨a, vs, k, j, h1, R.int_inv hi, h3, by rw [h4.length]; exact hj, q _ (r.wr q0 h2 ⟨_, upd_same, h4.set j hy⟩ fun _ _ _ => trivial)⟩
        · cases e
      · cases e
    · rename_i xs q0
      obtain ⟨z, vs, h3, h4⟩ := r.cel n _ a q0 h2
      split at e
      · rename_i hbn
        split at e
        · rename_i j hj
          cases e
          exact ⟨a, vs, k, j, h1, R.int_inv hi, h3, by rw [RVs.length h4]; exact hj, q _ (r.wr q0 h2 ⟨_, upd_same, rvs_set hy j h4⟩ fun b' hb' hn => absurd hn (by have := hb b' hb'; omega))⟩
        · cases e
      · cases e
    · cases e
  · cases e
/-- o[i] = v -/
def sIxS (eo ei ev : EvE) : EvS := fun b env M => (lift env (ev b env M)).bind fun q => (lift env (eo b env q.2)).bind fun u => (lift env (ei b env u.2)).bind fun w => match setO b u.1 w.1 q.1 w.2 with
  | some M' => .ok (.nx, env, M')
  | none => .bad
theorem d_ixS {o i e : Expr} {eo ei ev : EvE} {spos : Pos} (ho : PE X o (tE c W eo)) (hi : PE X i (tE c W ei)) (he : PE X e (tE c W ev))
    (ha : ∀ v, assign (.Subscript o i pos) X.env v = (do let ov ← holding [v] (eval o X.env); let iv ← holding [v, ov] (eval i X.env); standAt pos; holding [v, ov, iv] (setItem ov iv v); release [v, ov, iv] []) := by intro _; rfl)
    (hs : swapsWithSole [.Subscript o i pos] e spos.line X.env = pure false := by rfl) (hw : swappedStores [.Subscript o i pos] e X.env = pure none := by rfl)
    (h1 : (assignEach [.Subscript o i pos] X.env).map (·.2) = [assign (.Subscript o i pos) X.env] := by rfl) : PS X (.Assign [.Subscript o i pos] e spos) (tSt c W (sIxS eo ei ev)) :=
  PS.weak (ps_asg he (pg_sub ho hi set_list ha) hs hw h1) fun dd σ H h => by
    refine tG.mono (tSt.bind (k := fun y b env M => (lift env (eo b env M)).bind fun u => (lift env (ei b env u.2)).bind fun w => match setO b u.1 w.1 y w.2 with | some M' => .ok (.nx, env, M') | none => .bad) h) fun vy H1 ⟨y, h1⟩ => ?_
    refine tG.mono (tSP.bind (k := fun u b env M => (lift env (ei b env M)).bind fun w => match setO b u w.1 y w.2 with | some M' => .ok (.nx, env, M') | none => .bad) Mono.rv h1) fun vo H2 ⟨o, h2⟩ => ?_
    refine tG.mono (tSP.bind (k := fun w b env M => match setO b o w y M with | some M' => .ok (.nx, env, M') | none => .bad) (Mono.rv.and Mono.rv) h2) fun vi H3 ⟨i, b, B, ρ, Z, M, env, a, ⟨⟨p1, p2⟩, p3⟩, po⟩ => ?_
    dsimp only at po
    split at po
    · rename_i M' q
      exact setO_ok a.rel a.hb p2 p3 p1 q fun H' r' => po σ ρ Z H' (Ext.refl _ _) r' a.sl
    · exact po.elim
/-- o[i] op= v of a list -/
def rGetL (K : PySem.W.Frag) : V → V → Hp → VK → Prop := fun x y H Q => ∃ p xs i v, x = .ref p ∧ y = .int i ∧ SqL K H p xs ∧ 0 ≤ i ∧ L2.atI xs i = some v ∧ Q v H
/-! ### a tuple's targets that are fields -/
abbrev EvGM := Nat → Vl → En → Store → Option (En × Store)
def tGm (c : Kx) (g : EvGM) : TG := fun v σ H Q => ∃ b B ρ Z M env x r, At c b B ρ Z M env σ H ∧ RV c ρ Z v x ∧ g b x env M = some r ∧ ∀ σ' ρ' Z' H', Ext ρ Z ρ' Z' → Rel c B ρ' Z' H' r.2 → RelS c ρ' Z' σ' r.1 → Q σ' H'
def gmN (i : Nat) : EvGM := fun _ x env M => some (env.set i (some x), M)
def gmA (i : Nat) (tb : Tb) : EvGM := fun b x env M => match env[i]? with
  | some (some o) => (match stO tb b o x M with
    | some M' => some (env, M')
    | none => none)
  | _ => none
theorem gm_name {i : Nat} {e : Expr} (h : PG X e (gName i)) : PG X e (tGm c (gmN i)) := PG.weak h fun v σ H Q ⟨b, B, ρ, Z, M, env, x, r, a, rv, e, q⟩ => by
  cases e
  exact q _ ρ Z H (Ext.refl _ _) a.rel (a.sl.set rv)
theorem gm_attr (hK : X.K = c.K) {i : Nat} {tb : Tb} {f : Str} (T : TbOk c tb f) {o : Expr} (ho : PE X o (tVar i)) : PG X (.Attribute o f pos) (tGm c (gmA i tb)) := by
  refine ⟨fun pins s σ H v u Q I rv ⟨b, B, ρ, Z, M, env, x, r, a, rx, e, q⟩ => ?_⟩
  unfold gmA at e
  split at e
  · rename_i od hx
    obtain ⟨ov, h1, h2⟩ := a.sl.at_ i od hx
    split at e
    · rename_i M' q2
      cases e
      obtain ⟨ad, C, dx, fs, g1, g2, g3, g4, g5, g6⟩ := st_ok T a.rel a.hb h2 rx q2
      refine PySem.W.kas_attr (thn (ho.run pins s σ H (fun y H1 => y = ov ∧ H1 = H) I ⟨ov, h1, rfl, rfl⟩) fun u1 s1 ⟨y, H1, I1, r1, e1, e2⟩ => ?_)
      subst e1; subst e2
      subst g1
      obtain rfl : u1 = Value.ref ad := r1
      rw [← hK] at g3 g4
      exact setattr_ok I1 g2 g3 g4 g5 rv fun s2 I2 => ⟨σ, _, I2, q σ ρ Z _ (Ext.refl _ _) g6 a.sl⟩
    · cases e
  · cases e
def gmL : List EvGM → Nat → List D → En → Store → Option (En × Store)
  | [], _, [], env, M => some (env, M)
  | g :: gs, b, x :: xs, env, M => (match g b (.d x) env M with
    | some r => gmL gs b xs r.1 r.2
    | none => none)
  | _, _, _, _, _ => none
def gmT (gs : List EvGM) : EvGM := fun b x env M => match x with
  | .d (.tup xs) => gmL gs b xs env M
  | _ => none
def tGms (c : Kx) (gs : List EvGM) : TGs := fun vs σ H Q => ∃ b B ρ Z M env xs r, At c b B ρ Z M env σ H ∧ Rs c Z vs xs ∧ gmL gs b xs env M = some r ∧ ∀ σ' ρ' Z' H', Ext ρ Z ρ' Z' → Rel c B ρ' Z' H' r.2 → RelS c ρ' Z' σ' r.1 → Q σ' H'
theorem PGs.weak {es : List Expr} {t t' : TGs} (h : PGs X es t) (w : ∀ v σ H Q, t' v σ H Q → t v σ H Q) : PGs X es t' := ⟨fun pins s σ H v u Q I r q => h.run pins s σ H v u Q I r (w v σ H Q q)⟩
theorem gms_nil : PGs X [] (tGms c []) := PGs.weak pgs_nil fun vs σ H Q ⟨b, B, ρ, Z, M, env, xs, r, a, rs, e, q⟩ => by
  cases rs with
  | nil => cases e; exact ⟨rfl, q σ ρ Z H (Ext.refl _ _) a.rel a.sl⟩
  | cons _ _ => cases e
theorem gms_cons {e : Expr} {es : List Expr} {g : EvGM} {gs : List EvGM} (h1 : PG X e (tGm c g)) (h2 : PGs X es (tGms c gs))
    (hs : (assignEach (e :: es) X.env).map (·.2) = assign e X.env :: (assignEach es X.env).map (·.2) := by rfl) : PGs X (e :: es) (tGms c (g :: gs)) := PGs.weak (pgs_cons h1 h2 hs) fun vs σ H Q ⟨b, B, ρ, Z, M, env, xs, r, a, rs, e, q⟩ => by
  cases rs with
  | nil => cases e
  | @cons v vs d ds r1 r2 =>
    unfold gmL at e
    split at e
    · rename_i u q1
      exact ⟨_, _, rfl, b, B, ρ, Z, M, env, .d d, u, a, r1, q1, fun σ' ρ' Z' H' e' r' s' => ⟨b, B, ρ', Z', u.2, u.1, _, r, ⟨r', s', a.hb⟩, r2.up e'.z, e, fun σ2 ρ2 Z2 H2 e2 => q σ2 ρ2 Z2 H2 (e'.trans e2)⟩⟩
    · cases e
theorem gm_tup (hK : X.K = c.K) (hc : X.calm = true) {es : List Expr} {k : Nat} {gs : List EvGM} (h : PGs X es (tGms c gs)) (hn : (assignEach es X.env).length = gs.length := by rfl) (hst : (assignEach es X.env).findIdx? (·.1) = none := by rfl) : PG X (.Tuple es k pos) (tGm c (gmT gs)) :=
  PG.weak (pg_tup hc h hn hst) fun v σ H Q ⟨b, B, ρ, Z, M, env, x, r, a, rv, e, q⟩ => by
    unfold gmT at e
    split at e
    · rename_i xs
      obtain ⟨ad, vs, h1, h2, h3⟩ := rdT_ok a.rel rv rfl
      have hl : ∀ {gs : List EvGM} {xs : List D} {env : En} {M : Store} {r : En × Store}, gmL gs b xs env M = some r → xs.length = gs.length := by
        intro gs
        induction gs with
        | nil => intro xs env M r e; cases xs with | nil => rfl | cons _ _ => cases e
        | cons g gs ih =>
          intro xs env M r e
          cases xs with
          | nil => cases e
          | cons x xs =>
            unfold gmL at e
            split at e
            · exact congrArg (· + 1) (ih e)
            · cases e
      exact ⟨ad, vs, h1, by rw [hK]; exact h2, by rw [h3.length]; exact hl e, b, B, ρ, Z, M, env, xs, r, a, h3, e, q⟩
    · cases e
def sAsgM (e : EvE) (g : EvGM) : EvS := fun b env M => (lift env (e b env M)).bind fun q => match g b q.1 env q.2 with
  | some r => .ok (.nx, r.1, r.2)
  | none => .bad
theorem d_asgM {tg e : Expr} {ie : EvE} {g : EvGM} {spos : Pos} (he : PE X e (tE c W ie)) (hg : PG X tg (tGm c g)) (hs : swapsWithSole [tg] e spos.line X.env = pure false := by rfl) (hw : swappedStores [tg] e X.env = pure none := by rfl)
    (h1 : (assignEach [tg] X.env).map (·.2) = [assign tg X.env] := by rfl) : PS X (.Assign [tg] e spos) (tSt c W (sAsgM ie g)) := PS.weak (ps_asg he hg hs hw h1) fun dd σ H h => by
  refine tG.mono (tSt.bind (k := fun x b env M => match g b x env M with | some r => .ok (.nx, r.1, r.2) | none => .bad) h) fun y H1 ⟨dx, b, B, ρ, Z, M, env, a, p, po⟩ => ?_
  dsimp only at po
  split at po
  · rename_i r q
    exact ⟨b, B, ρ, Z, M, env, dx, r, a, p, q, po⟩
  · exact po.elim
/-! ### the law -/
theorem law_sp {F : EvF} {ns : List Int} {a : Addr} {M' : Store} (hS : SqL c.K H a (ns.map V.int)) (hF : F [.d (.lck (ns.map .int))] 0 [] = .ok (.d (.bl true), M')) : spF c 1 F [.ref a] H (fun v _ => v = .bl true) fun _ _ _ => False := by
  refine ⟨rfl, 0, [], [], H, [], [.d (.lck (ns.map .int))], ⟨Sub.refl _, rfl, List.nodup_nil, fun _ h => (nomatch h), fun k o a h => by simp at h, fun _ h => (nomatch h), fun _ h => (nomatch h)⟩, fun _ h => (nomatch h), ⟨R.lck hS (Rs.ints ns), trivial⟩, ?_⟩
  rw [hF]
  exact fun v ρ' Z' H' _ _ rv => R.bl_inv rv
end
end Mo

namespace Mo
open PySem L2
/-! ### a def whose answer is a new list -/
def runR (n : Nat) (body : EvS) : EvF := fun xs _ M => match body M.length (envOf n xs) M with
  | .ok (.rt x, _, M') => (match x with
    | .d y => .ok (.d y, M'.take M.length)
    | .c k => if k < M.length then .bad else (match M'[k]? with
      | some (some (.lst ys)) => .ok (.c M.length, M'.take M.length ++ [some (.lst ys)])
      | _ => .bad))
  | .exc (e, _) => .exc ⟨e.c, e.fs, e.M.take M.length⟩
  | _ => .bad
section
variable {c : Kx} {W : WX} {σ : L2.St} {H : Hp} {X : Cx} {B : List Nat} {ρ ρ1 : List Addr} {Z Z1 : Hp} {M : Store} {v : V} {x : Vl} {pos : Pos} {dd : Ends} {env : En} {b : Nat}
theorem Rel.cutR (r : Rel c (b :: B) ρ Z H M) (hb : ∀ b' ∈ B, b' ≤ b) {k : Nat} {a : Addr} {ys : List D} (hk : b ≤ k) (hm : M[k]? = some (some (.lst ys))) (ha : ρ[k]? = some a) : Rel c B (ρ.take b ++ [a]) Z H (M.take b ++ [some (.lst ys)]) := by
  have r1 := r.cut hb
  have hbl := r.ble b (List.mem_cons_self ..)
  have hlen : (ρ.take b).length = b := by rw [List.length_take, r.len]; omega
  have hlenM : (M.take b).length = b := by rw [List.length_take]; omega
  refine ⟨r1.zh, by simp [r1.len], ?_, fun q hq => ?_, fun j o q h1 h2 => ?_, fun b' h' => ?_, fun b' h' j o hj h => ?_⟩
  · rw [List.nodup_append]
    refine ⟨r1.nd, by simp, fun x hx y hy => ?_⟩
    have e : y = a := by simpa using hy
    subst e
    rintro rfl
    obtain ⟨i, hi, e⟩ := List.mem_iff_getElem.mp hx
    have h3 : ρ[i]? = some x := by
      have h4 : (ρ.take b)[i]? = some x := by rw [List.getElem?_eq_getElem hi, e]
      rw [List.getElem?_take_of_lt (by rw [hlen] at hi; exact hi)] at h4
      exact h4
    have := nd_ix r.nd h3 ha
    rw [hlen] at hi
    omega
  · rcases (List.mem_append).mp hq with hq | hq
    · exact r1.there q hq
    · have e : q = a := by simpa using hq
      subst e
      exact r.there q (List.mem_of_getElem? ha)
  · by_cases hj : j < b
    · rw [List.getElem?_append_left (by rw [hlen]; exact hj)] at h2
      rw [List.getElem?_append_left (by rw [hlenM]; exact hj)] at h1
      obtain ⟨z, ok⟩ := r1.cel j o q h1 h2
      exact ⟨z, ok.up ⟨⟨[a], rfl⟩, Sub.refl _⟩ rfl⟩
    · have hj2 := (List.getElem?_eq_some_iff.mp h2).1
      have : j = b := by
        have e : (ρ.take b ++ [a]).length = b + 1 := by simp [r.len]; omega
        omega
      subst this
      rw [List.getElem?_append_right (by rw [hlen]; exact Nat.le_refl _), hlen, Nat.sub_self] at h2
      rw [List.getElem?_append_right (by rw [hlenM]; exact Nat.le_refl _), hlenM, Nat.sub_self] at h1
      simp at h1 h2
      subst h1; subst h2
      obtain ⟨z, vs, h3, h4⟩ := r.cel k _ a hm ha
      exact ⟨z, vs, h3, h4⟩
  · have := hb b' h'
    simp; omega
  · have hbb := hb b' h'
    rw [List.getElem?_append_left (by rw [hlenM]; omega)] at h
    exact r1.low b' h' j o hj h
section
variable {P : Program} {w : World} {K : PySem.W.Frag} {mg : Str → Option Value} {base : Heap}
variable {n qual : Str} {params : Arguments} {bd : List Stmt} {scope : Scope} {dvs : List V} {kws : List (Str × V)} {f : Addr} {fd : FuncData} {N ps : List Str} {k : Nat} {body : EvS}
theorem body_okR {F : EvF} (hc : ∀ xs b M, F xs b M = runR N.length body xs b M) {E : XK} {vs : List V} {Q : VK} (h : spF c ps.length F vs H Q E) :
    tSt c (fun cl d _ H => E cl d H) body { nx := fun _ H' => Q .non H', rt := Q } (L2.start N vs) H := by
  obtain ⟨hl, b, B, ρ, Z, M, xs, r, hb, rs, po⟩ := h
  rw [hc] at po
  unfold runR at po
  refine ⟨M.length, M.length :: B, ρ, Z, M, envOf N.length xs, ⟨r.rebase, rels_start rs, fun b' h' => r.rebase.ble b' h'⟩, ?_⟩
  have tk : ∀ {ρ' : List Addr} {Z' : Hp}, Ext ρ Z ρ' Z' → ρ'.take M.length = ρ := by
    intro ρ' Z' e'
    obtain ⟨⟨τ, ht⟩, _⟩ := e'
    rw [ht, ← r.len, List.take_left' rfl]
  cases q : body M.length (envOf N.length xs) M with
  | bad => rw [q] at po; exact po
  | exc u =>
    obtain ⟨e, en⟩ := u
    rw [q] at po
    intro σ' ρ' Z' H' a xs' e' r' s' h1 h2
    have r3 := r'.cut (fun b' h' => r.ble b' h')
    rw [tk e'] at r3
    exact po ρ Z' H' a xs' ⟨⟨[], by simp⟩, e'.z⟩ r3 h1 h2
  | ok u =>
    obtain ⟨f, en, M'⟩ := u
    rw [q] at po
    cases f with
    | nx => exact po.elim
    | bk => exact po.elim
    | ct => exact po.elim
    | rt x =>
      intro v ρ' Z' H' e' r' rv
      dsimp only at po
      cases x with
      | d y =>
        have r3 := r'.cut (fun b' h' => r.ble b' h')
        rw [tk e'] at r3
        exact po v ρ Z' H' ⟨⟨[], by simp⟩, e'.z⟩ r3 rv
      | c k =>
        dsimp only at po
        split at po
        · exact po.elim
        · rename_i hk
          split at po
          · rename_i ys q2
            obtain ⟨a, h1, h2⟩ := rv
            have r3 := r'.cutR (fun b' h' => r.ble b' h') (by omega) q2 h2
            rw [tk e'] at r3
            exact po v _ Z' H' ⟨⟨[a], rfl⟩, e'.z⟩ r3 ⟨a, h1, by rw [← r.len]; simp⟩
          · exact po.elim
/-- THE RULES: a def by its body -/
abbrev CxD (P : Program) (w : World) (K : PySem.W.Frag) (mg : Str → Option Value) (base : Heap) (N : List Str) (qual : Str) (scope : Scope) (f : Addr) (cdv : Value) (A : Around) (outer : List Env) (s : Shared) (H : Hp) (E : XK) : Cx := cxOf (L2.CX P w) P w K mg base N qual scope f cdv A outer s H E
theorem fn_TD (Fn : FunD K n qual params bd scope dvs kws f fd) (S : FnScope N ps scope)
    (hb : ∀ (cdv : Value) (A : Around) (outer : List Env) (s : Shared) (H : Hp) (E : XK), Room k (CxD P w K mg base N qual scope f cdv A outer s H E).A → Takes (CxD P w K mg base N qual scope f cdv A outer s H E) (fun cl d _ H => E cl d H) →
      PSs (CxD P w K mg base N qual scope f cdv A outer s H E) bd (tSt c (fun cl d _ H => E cl d H) body)) :
    FnOk P w K mg base (L2.CX P w) (k + 1) f fd ps (spF c ps.length (ar ps.length (runT N.length body))) :=
  Fn.ok S (fun vs H Q E h => h.1) fun cdv A outer s H vs Q E hr h => ⟨_, hb cdv A outer s H E hr (takes_of rfl rfl rfl rfl), body_ok (A := A) (cdv := cdv) (outer := outer) (s := s) (fun _ _ _ => rfl) (sp_ar h)⟩
theorem fn_KD (Fn : FunD K n qual params bd scope dvs kws f fd) (S : FnScope N ps scope)
    (hb : ∀ (cdv : Value) (A : Around) (outer : List Env) (s : Shared) (H : Hp) (E : XK), Room k (CxD P w K mg base N qual scope f cdv A outer s H E).A → Takes (CxD P w K mg base N qual scope f cdv A outer s H E) (fun cl d _ H => E cl d H) →
      PSs (CxD P w K mg base N qual scope f cdv A outer s H E) bd (tSt c (fun cl d _ H => E cl d H) body)) :
    FnOk P w K mg base (L2.CX P w) (k + 1) f fd ps (spF c ps.length (ar ps.length (runK N.length body))) :=
  Fn.ok S (fun vs H Q E h => h.1) fun cdv A outer s H vs Q E hr h => ⟨_, hb cdv A outer s H E hr (takes_of rfl rfl rfl rfl), body_okK (A := A) (cdv := cdv) (outer := outer) (s := s) (fun _ _ _ => rfl) (sp_ar h)⟩
theorem fn_RD (Fn : FunD K n qual params bd scope dvs kws f fd) (S : FnScope N ps scope)
    (hb : ∀ (cdv : Value) (A : Around) (outer : List Env) (s : Shared) (H : Hp) (E : XK), Room k (CxD P w K mg base N qual scope f cdv A outer s H E).A → Takes (CxD P w K mg base N qual scope f cdv A outer s H E) (fun cl d _ H => E cl d H) →
      PSs (CxD P w K mg base N qual scope f cdv A outer s H E) bd (tSt c (fun cl d _ H => E cl d H) body)) :
    FnOk P w K mg base (L2.CX P w) (k + 1) f fd ps (spF c ps.length (ar ps.length (runR N.length body))) :=
  Fn.ok S (fun vs H Q E h => h.1) fun cdv A outer s H vs Q E hr h => ⟨_, hb cdv A outer s H E hr (takes_of rfl rfl rfl rfl), body_okR (fun _ _ _ => rfl) (sp_ar h)⟩
end
/-! ### the function object by its address -/
def fdOf (K : PySem.W.Frag) (f : Addr) : FuncData := match K.lookup f with
  | some ⟨_, _, .func fd, _⟩ => fd
  | _ => PySem.W.fnOf default default default default default default default default default default default default
theorem fdOf_eq {K : PySem.W.Frag} {n qual : Str} {params : Arguments} {bd : List Stmt} {scope : Scope} {dvs : List V} {kws : List (Str × V)} {f : Addr} {fd : FuncData} (Fn : FunD K n qual params bd scope dvs kws f fd) : fd = fdOf K f := by
  obtain ⟨oc, od, dV, kV, doc, pm, an, cdv, ct, osl, e, lk, _⟩ := Fn.ex
  unfold fdOf
  rw [lk]
theorem fdOf_ok {K : PySem.W.Frag} {n qual : Str} {params : Arguments} {bd : List Stmt} {scope : Scope} {dvs : List V} {kws : List (Str × V)} {f : Addr} (h : ∃ fd, FunD K n qual params bd scope dvs kws f fd) : FunD K n qual params bd scope dvs kws f (fdOf K f) := by
  obtain ⟨fd, h⟩ := h
  rw [← fdOf_eq h]
  exact h
/-! ### names of the module -/
theorem d_glob {n : Str} {v : V} {u : Value} {d : D} (hg : Gl X n) (hm : X.mg n = some u) (hr : RelV v u) (r : ∀ Z, R c Z v d) (hdb : (n == ("__debug__" : Str)) = false := by decide) : PE X (.Name n pos) (tE c W (eC d)) := d_c (pe_glob hg hm hr hdb) r
/-! ### targets: the items of a tuple, a list -/
def gmQ (gs : List EvGM) : EvGM := fun b x env M => match x with
  | .d (.tup xs) => gmL gs b xs env M
  | x => match rdL M x with
    | some xs => gmL gs b xs env M
    | none => none
theorem gmL_len : ∀ {gs : List EvGM} {xs : List D} {env : En} {M : Store} {r : En × Store}, gmL gs b xs env M = some r → xs.length = gs.length
  | [], [], _, _, _, _ => rfl
  | [], _ :: _, _, _, _, e => by cases e
  | _ :: _, [], _, _, _, e => by cases e
  | g :: gs, x :: xs, env, M, r, e => by
    unfold gmL at e
    split at e
    · exact congrArg (· + 1) (gmL_len e)
    · cases e
theorem PG.or {e : Expr} {t t' : TG} (h : PG X e t) (h' : PG X e t') : PG X e (fun v σ H Q => t v σ H Q ∨ t' v σ H Q) := ⟨fun pins s σ H v u Q I r q => q.elim (h.run pins s σ H v u Q I r) (h'.run pins s σ H v u Q I r)⟩
theorem gm_q (hK : X.K = c.K) (hc : X.calm = true) {es : List Expr} {k : Nat} {gs : List EvGM} (h : PGs X es (tGms c gs)) (hn : (assignEach es X.env).length = gs.length := by rfl) (hst : (assignEach es X.env).findIdx? (·.1) = none := by rfl) : PG X (.Tuple es k pos) (tGm c (gmQ gs)) :=
  PG.weak (PG.or (pg_tup hc h hn hst) (pg_lst hc h hn hst)) fun v σ H Q ⟨b, B, ρ, Z, M, env, x, r, a, rv, e, q⟩ => by
    unfold gmQ at e
    split at e
    · rename_i xs
      obtain ⟨ad, vs, h1, h2, h3⟩ := rdT_ok a.rel rv rfl
      exact .inl ⟨ad, vs, h1, by rw [hK]; exact h2, by rw [h3.length]; exact gmL_len e, b, B, ρ, Z, M, env, xs, r, a, h3, e, q⟩
    · split at e
      · rename_i xs q1
        obtain ⟨ad, vs, h1, h2, h3⟩ := rdL_ok a.rel rv q1
        exact .inr ⟨ad, vs, h1, by rw [hK]; exact h2, by rw [h3.length]; exact gmL_len e, b, B, ρ, Z, M, env, xs, r, a, h3, e, q⟩
      · cases e
end
/-! ### built-ins by name -/
theorem bb_len : bootBuiltins "len" = some (.builtin "len") := by decide +kernel
theorem bb_abs : bootBuiltins "abs" = some (.builtin "abs") := by decide +kernel
theorem bb_max : bootBuiltins "max" = some (.builtin "max") := by decide +kernel
theorem bb_min : bootBuiltins "min" = some (.builtin "min") := by decide +kernel
theorem bb_sum : bootBuiltins "sum" = some (.builtin "sum") := by decide +kernel
theorem bb_all : bootBuiltins "all" = some (.builtin "all") := by decide +kernel
theorem bb_int : bootBuiltins "int" = some (.type "int") := by decide +kernel
theorem bb_list : bootBuiltins "list" = some (.type "list") := by decide +kernel
theorem bb_tuple : bootBuiltins "tuple" = some (.type "tuple") := by decide +kernel
theorem bb_bool : bootBuiltins "bool" = some (.type "bool") := by decide +kernel
theorem bb_str : bootBuiltins "str" = some (.type "str") := by decide +kernel
end Mo

namespace Mo
open PySem L2 He
/-! ### the head's facts, one more test -/
abbrev AlX : Type := AlD × Bool
def obsX (fa : List Fa) (fn : List DefD) (q : PySem.W.Frag → Bool) (K : PySem.W.Frag) : AlX := (obsD fa fn K, q K)
def obsXG (n : Nat) (fa : List Fa) (fn : List DefD) (q : PySem.W.Frag → Bool) (g : Addr → Option Obj) : AlX := obsX fa fn q (frG g (asD g n))
def hookX (n : Nat) (fa : List Fa) (fn : List DefD) (q : PySem.W.Frag → Bool) : PySem.W.Hook :=
  ⟨AlX, fun s => obsXG n fa fn q s.heap.get?, fun _ => (valD fn, true), fun _ h => ∃ K : PySem.W.Frag, K.In h ∧ obsX fa fn q K = (valD fn, true), fun _ _ u => ⟨_, frG_in, u⟩, fun _ _ _ ⟨K, a, u⟩ k => ⟨K, PySem.W.Frag.In.keeps a k, u⟩⟩
theorem obsXG_eq {n : Nat} {fa : List Fa} {fn : List DefD} {q : PySem.W.Frag → Bool} {g : Addr → Option Obj} {s : Shared} (h : ∀ a, g a = s.heap.get? a) : obsXG n fa fn q g = (hookX n fa fn q).obs s := by
  obtain rfl : g = s.heap.get? := funext h
  rfl
theorem saysD {fa : List Fa} {fn : List DefD} {q : PySem.W.Frag → Bool} {K : PySem.W.Frag} (h : obsX fa fn q K = (valD fn, true)) : SaysD fa fn K := congrArg Prod.fst h
theorem saysQ {fa : List Fa} {fn : List DefD} {q : PySem.W.Frag → Bool} {K : PySem.W.Frag} (h : obsX fa fn q K = (valD fn, true)) : q K = true := congrArg Prod.snd h
/-! ### the law's end -/
section
variable {l : PySem.W.OpenLaw} {n k : Nat} {q : Program} {loose : List Str} {XP : (Str → Option Value) → Heap → Prop} {YP : World → Heap → Prop} {d : DefRec} {x : Str}
/-- what is left to show of a law -/
abbrev LawIn (l : PySem.W.OpenLaw) (n k : Nat) (x : Str) (w : World) (mg : Str → Option Value) (fa : Addr) (h : Heap) : Prop :=
  ∃ (K : PySem.W.Frag) (fd : FuncData) (c : Kx) (F : EvF), K.In h ∧ c.K = K ∧ (∀ (s : Shared) (u : Value), BindsTo s fd ⟨[u], []⟩ [(x, u)]) ∧
    (∀ base : Heap, K.In base → base.Ns mainGlobals mg → FnOk l.prog w K mg base (L2.CX l.prog w) k fa fd [x] (spF c 1 F)) ∧
    (∀ ns : List Int, ns.length ≤ n → (∀ z ∈ ns, Builtin.Int.intBits z ≤ 1048576) → ∃ M', F [.d (.lck (ns.map .int))] 0 [] = .ok (.d (.bl true), M'))
theorem walk_mo (h1 : l.most = some n) (h2 : n ≤ sizeLine) (h3 : d.params.defaults = []) (h4 : Room k callerA) (hF : ∀ w mg fa h, YP w h → h.Ns mainGlobals mg → mg d.name = some (.ref fa) → LawIn l n k x w mg fa h) : PySem.W.WalkO q loose XP YP l.row.toRowW d [] fun f vs => PySem.call f vs := by
  refine Att.attach_callB h1 h3 fun w s0 s1 mg mb fa _ _ _ _ _ _ ns G Y _ _ _ hm hob hin hln hbt hgn => ?_
  obtain ⟨K, fd, c, F, hK, rfl, hbi, hFn, hp⟩ := hF w mg fa _ Y G.T.g hm
  obtain ⟨M', e⟩ := hp ns hln hbt
  refine law_call hK G.T.g G.T.b G.T.builtins G.T.nolimit hgn hob hin (Nat.le_trans hln h2) h4 hFn hbi (fun H _ hS => law_sp hS e) fun H e s' u => ?_
  obtain ⟨_, _, _, _, _, _, _, _, _, _, _, _, no⟩ := u
  exact no.elim
end
end Mo

namespace Mo
open PySem L2
/-! ### comprehensions with two loops -/
def lcL2 (g : EvG) (t : EvT) (it1 : EvI) (g1 : EvG) (vs1 : List Nat) (t1 : EvT) (e : EvE) (n : Nat) : List D → Nat → En → Store → Option Store
  | [], _, _, M => some M
  | x :: xs, b, env, M => match g (.d x) env with
    | none => none
    | some env1 => match t b env1 M with
      | .ok (k, M1) => if k = true then (match it1 b env1 M1 with
          | .ok (ys, M2) => (match lcL g1 t1 e n ys b (wipeE env1 vs1) M2 with
            | some M3 => lcL2 g t it1 g1 vs1 t1 e n xs b env M3
            | none => none)
          | _ => none) else lcL2 g t it1 g1 vs1 t1 e n xs b env M1
      | _ => none
def eLc2F (it : EvI) (tg : Tg) (vs : List Nat) (t : EvT) (it1 : EvI) (tg1 : Tg) (vs1 : List Nat) (t1 : EvT) (e : EvE) : EvE := fun b env M => (it b env M).bind fun q =>
  match lcL2 tg.g t it1 tg1.g vs1 t1 e q.2.length q.1 q.2.length (wipeE env vs) (q.2 ++ [some (.lst [])]) with
  | some M' => (match M'[q.2.length]? with
    | some (some (.lst ys)) => .ok (.d (.lst ys), M'.take q.2.length)
    | _ => .bad)
  | none => .bad
def eLc2K (ob : Ob) (it : EvI) (tg : Tg) (vs : List Nat) (t : EvT) (it1 : EvI) (tg1 : Tg) (vs1 : List Nat) (t1 : EvT) (e : EvE) : EvE := fun b env M => (it b env M).bind fun q =>
  match lcL2 tg.g t it1 tg1.g vs1 t1 e q.2.length q.1 b (wipeE env vs) (q.2 ++ [some ob]) with
  | some M' => .ok (.c q.2.length, M')
  | none => .bad
section
variable {c : Kx} {W : WX} {σ : L2.St} {H : Hp} {X : Cx} {B : List Nat} {ρ ρ1 ρs : List Addr} {Z Z1 Zs : Hp} {M : Store} {v : V} {x : Vl} {pos : Pos} {dd : Ends} {env : En}
theorem gen_it {J : It} {n : Nat} {G : Hp → Prop} {Y : Nat → Hp → V → Hp → Prop} (w : Walk J n G Y) {T : V → Hp → (Hp → Prop) → Prop} {Hs : Hp} {Qd : Hp → Prop} (Pv : Nat → Hp → Prop) (h0 : Pv 0 Hs) (hG : ∀ i H, i ≤ n → Pv i H → G H)
    (hs : ∀ i x H H', i < n → Pv i H → Y i H x H' → T x H' (Pv (i + 1))) (hd : ∀ H, Pv n H → Qd H) :
    ∃ W : Nat → Nat → Hp → Prop, (∃ m, W 0 m Hs) ∧ ∀ i m H, W i m H → (J.stop i H ∧ Qd H) ∨ (J.go i H ∧ ∃ Nx : Hp → Prop, (∀ H', Nx H' → ∃ m', m' < m ∧ W (i + 1) m' H') ∧ ∀ x H', J.yld i H x H' → T x H' Nx) := by
  refine ⟨fun i u H => u = n - i ∧ i ≤ n ∧ Pv i H, ⟨n, by simp, Nat.zero_le _, h0⟩, ?_⟩
  rintro i m H ⟨rfl, hi, p⟩
  have q := hG i H hi p
  by_cases hlt : i < n
  · exact .inr ⟨w.goes i H hlt q, Pv (i + 1), fun H' p' => ⟨n - (i + 1), by omega, rfl, hlt, p'⟩, fun x H' y => hs i x H H' hlt p (w.yields i H x H' hlt q y)⟩
  · have e : i = n := by omega
    subst e
    exact .inl (And.intro (w.stops H q) (hd H p))
/-- one clause's loop, the list at D under way -/
theorem lc_in {tg : Tg} {vs : List Nat} {t : EvT} {e : EvE} {J : It} {xs : List D} {b n : Nat} {D : Addr} {Qd : Hp → Prop} {Mf : Store} {Hs : Hp}
    (wk : Wk c ρ Z J xs) (r0 : Rel c B ρs Zs Hs M) (es : Ext ρ Z ρs Zs) (hD : ρs[n]? = some D) (sl : RelS c ρs Zs σ env) (hb : ∀ b' ∈ B, b' ≤ b) (hbn : ∀ b' ∈ B, b' ≤ n) (hv : ∀ i ∈ tg.sl, i ∈ vs)
    (hL : lcL tg.g t e n xs b (wipeE env vs) M = some Mf) (hd : ∀ ρ' Z' H', Ext ρs Zs ρ' Z' → Rel c B ρ' Z' H' Mf → Qd H') :
    ∃ W : Nat → Nat → Hp → Prop, (∃ m, W 0 m Hs) ∧ ∀ i m H, W i m H →
      (J.stop i H ∧ Qd H) ∨ (J.go i H ∧ ∃ Nx : Hp → Prop, (∀ H', Nx H' → ∃ m', m' < m ∧ W (i + 1) m' H') ∧ ∀ x H', J.yld i H x H' → tg.r c.K x (wipe σ vs) H' fun σ2 H2 => wipe σ2 vs = wipe σ vs ∧ tT c W0 t σ2 H2 fun b H3 =>
        if b = true then tE c W0 e σ2 H3 fun y H4 => ∃ acc, H4 D = some (.lst acc) ∧ acc.length < sizeLine ∧ Nx (upd H4 D (.lst (acc ++ [y]))) else Nx H3) := by
  obtain ⟨G, Y, wk, hG, hY⟩ := wk
  refine gen_it wk (T := fun x H' Nx => tg.r c.K x (wipe σ vs) H' fun σ2 H2 => wipe σ2 vs = wipe σ vs ∧ tT c W0 t σ2 H2 fun b H3 =>
        if b = true then tE c W0 e σ2 H3 fun y H4 => ∃ acc, H4 D = some (.lst acc) ∧ acc.length < sizeLine ∧ Nx (upd H4 D (.lst (acc ++ [y]))) else Nx H3) (fun i H' => ∃ ρ' Z' M', Ext ρs Zs ρ' Z' ∧ Rel c B ρ' Z' H' M' ∧ lcL tg.g t e n (xs.drop i) b (wipeE env vs) M' = some Mf) ⟨_, _, _, Ext.refl _ _, r0, by simpa using hL⟩ (fun i H' _ ⟨ρ', Z', M', e, r', _⟩ => hG H' (fun x o q => r'.zh _ _ (e.z _ _ (es.z _ _ q)))) ?_ ?_
  · intro i y H2 H3 hi ⟨ρ1, Z1, M1, e1, r1, l1⟩ hy
    obtain ⟨Z3, e3, r3, d, hdd, rd⟩ := hY i H2 y H3 hi hy B ρ1 Z1 M1 (es.trans e1) r1
    have ed : xs.drop i = d :: xs.drop (i + 1) := by
      obtain ⟨hl, he⟩ := List.getElem?_eq_some_iff.mp hdd
      rw [List.drop_eq_getElem_cons hl, he]
    rw [ed] at l1
    unfold lcL at l1
    have s3 : RelS c ρ1 Z3 (wipe σ vs) (wipeE env vs) := (wipeE_ok sl vs).up (e1.trans e3)
    cases q : tg.g (.d d) (wipeE env vs) with
    | none => rw [q] at l1; cases l1
    | some env2 =>
      rw [q] at l1
      refine Tg.ok tg (vs := vs) q r3 (show RV c ρ1 Z3 y (.d d) from rd) s3 hv fun σ2 s2 hw => ⟨hw.trans (wipe_wipe σ vs), ?_⟩
      refine ⟨b, B, ρ1, Z3, M1, env2, ⟨r3, s2, hb⟩, ?_⟩
      dsimp only at l1
      cases q2 : t b env2 M1 with
      | bad => rw [q2] at l1; cases l1
      | exc x => rw [q2] at l1; cases l1
      | ok u =>
        obtain ⟨k, M2⟩ := u
        rw [q2] at l1
        dsimp only at l1
        intro k' ρ4 Z4 H4 e4 r4 hk
        have hk : k' = k := hk
        subst hk
        cases k' with
        | false => exact ⟨ρ4, Z4, M2, (e1.trans e3).trans e4, r4, by simpa using l1⟩
        | true =>
          rw [if_pos rfl] at l1
          show tE c W0 e σ2 H4 _
          refine ⟨b, B, ρ4, Z4, M2, env2, ⟨r4, s2.up e4, hb⟩, ?_⟩
          cases q3 : e b env2 M2 with
          | bad => rw [q3] at l1; cases l1
          | exc x => rw [q3] at l1; cases l1
          | ok u =>
            obtain ⟨w, M3⟩ := u
            rw [q3] at l1
            dsimp only at l1
            intro wv ρ5 Z5 H5 e5 r5 rw5
            cases q4 : app n w M3 with
            | none => rw [q4] at l1; cases l1
            | some M4 =>
              rw [q4] at l1
              have eD := ((e1.trans e3).trans e4).trans e5
              obtain ⟨acc, h1, h2, h3⟩ := app_ok r5 (eD.get hD) hbn q4 rw5
              exact ⟨acc, h1, h2, ρ5, Z5, M4, eD, h3, l1⟩
  · intro H2 ⟨ρ1, Z1, M1, e1, r1, l1⟩
    rw [List.drop_length] at l1
    have l1 : some M1 = some Mf := l1
    cases l1
    exact hd ρ1 Z1 H2 e1 r1
/-- both loops -/
theorem lc2_go {tg tg1 : Tg} {vs vs1 : List Nat} {t t1 : EvT} {it1 : EvI} {e : EvE} {J : It} {xs : List D} {b n : Nat} {D : Addr} {Qd : Hp → Prop} {Mf : Store} {Hs : Hp}
    (wk : Wk c ρ Z J xs) (r0 : Rel c B ρs Zs Hs M) (es : Ext ρ Z ρs Zs) (hD : ρs[n]? = some D) (sl : RelS c ρs Zs σ env) (hb : ∀ b' ∈ B, b' ≤ b) (hbn : ∀ b' ∈ B, b' ≤ n) (hv : ∀ i ∈ tg.sl, i ∈ vs) (hv1 : ∀ i ∈ tg1.sl, i ∈ vs1)
    (hL : lcL2 tg.g t it1 tg1.g vs1 t1 e n xs b (wipeE env vs) M = some Mf) (hd : ∀ ρ' Z' H', Ext ρs Zs ρ' Z' → Rel c B ρ' Z' H' Mf → Qd H') :
    ∃ W : Nat → Nat → Hp → Prop, (∃ m, W 0 m Hs) ∧ ∀ i m H, W i m H →
      (J.stop i H ∧ Qd H) ∨ (J.go i H ∧ ∃ Nx : Hp → Prop, (∀ H', Nx H' → ∃ m', m' < m ∧ W (i + 1) m' H') ∧ ∀ x H', J.yld i H x H' → tg.r c.K x (wipe σ vs) H' fun σ2 H2 => wipe σ2 vs = wipe σ vs ∧ tT c W0 t σ2 H2 fun b H3 =>
        if b = true then tI c W0 it1 σ2 H3 fun J1 H4 => ∃ W1 : Nat → Nat → Hp → Prop, (∃ m, W1 0 m H4) ∧ ∀ j k H, W1 j k H →
          (J1.stop j H ∧ Nx H) ∨ (J1.go j H ∧ ∃ Nx1 : Hp → Prop, (∀ H', Nx1 H' → ∃ k', k' < k ∧ W1 (j + 1) k' H') ∧ ∀ x H', J1.yld j H x H' → tg1.r c.K x (wipe σ2 vs1) H' fun σ3 H5 => wipe σ3 vs1 = wipe σ2 vs1 ∧ tT c W0 t1 σ3 H5 fun b H6 =>
            if b = true then tE c W0 e σ3 H6 fun y H7 => ∃ acc, H7 D = some (.lst acc) ∧ acc.length < sizeLine ∧ Nx1 (upd H7 D (.lst (acc ++ [y]))) else Nx1 H6)
        else Nx H3) := by
  obtain ⟨G, Y, wk, hG, hY⟩ := wk
  refine gen_it wk (T := fun x H' Nx => tg.r c.K x (wipe σ vs) H' fun σ2 H2 => wipe σ2 vs = wipe σ vs ∧ tT c W0 t σ2 H2 fun b H3 =>
        if b = true then tI c W0 it1 σ2 H3 fun J1 H4 => ∃ W1 : Nat → Nat → Hp → Prop, (∃ m, W1 0 m H4) ∧ ∀ j k H, W1 j k H →
          (J1.stop j H ∧ Nx H) ∨ (J1.go j H ∧ ∃ Nx1 : Hp → Prop, (∀ H', Nx1 H' → ∃ k', k' < k ∧ W1 (j + 1) k' H') ∧ ∀ x H', J1.yld j H x H' → tg1.r c.K x (wipe σ2 vs1) H' fun σ3 H5 => wipe σ3 vs1 = wipe σ2 vs1 ∧ tT c W0 t1 σ3 H5 fun b H6 =>
            if b = true then tE c W0 e σ3 H6 fun y H7 => ∃ acc, H7 D = some (.lst acc) ∧ acc.length < sizeLine ∧ Nx1 (upd H7 D (.lst (acc ++ [y]))) else Nx1 H6)
        else Nx H3) (fun i H' => ∃ ρ' Z' M', Ext ρs Zs ρ' Z' ∧ Rel c B ρ' Z' H' M' ∧ lcL2 tg.g t it1 tg1.g vs1 t1 e n (xs.drop i) b (wipeE env vs) M' = some Mf) ⟨_, _, _, Ext.refl _ _, r0, by simpa using hL⟩ (fun i H' _ ⟨ρ', Z', M', e, r', _⟩ => hG H' (fun x o q => r'.zh _ _ (e.z _ _ (es.z _ _ q)))) ?_ ?_
  · intro i y H2 H3 hi ⟨ρ1, Z1, M1, e1, r1, l1⟩ hy
    obtain ⟨Z3, e3, r3, d, hdd, rd⟩ := hY i H2 y H3 hi hy B ρ1 Z1 M1 (es.trans e1) r1
    have ed : xs.drop i = d :: xs.drop (i + 1) := by
      obtain ⟨hl, he⟩ := List.getElem?_eq_some_iff.mp hdd
      rw [List.drop_eq_getElem_cons hl, he]
    rw [ed] at l1
    unfold lcL2 at l1
    have s3 : RelS c ρ1 Z3 (wipe σ vs) (wipeE env vs) := (wipeE_ok sl vs).up (e1.trans e3)
    cases q : tg.g (.d d) (wipeE env vs) with
    | none => rw [q] at l1; cases l1
    | some env2 =>
      rw [q] at l1
      refine Tg.ok tg (vs := vs) q r3 (show RV c ρ1 Z3 y (.d d) from rd) s3 hv fun σ2 s2 hw => ⟨hw.trans (wipe_wipe σ vs), ?_⟩
      refine ⟨b, B, ρ1, Z3, M1, env2, ⟨r3, s2, hb⟩, ?_⟩
      dsimp only at l1
      cases q2 : t b env2 M1 with
      | bad => rw [q2] at l1; cases l1
      | exc x => rw [q2] at l1; cases l1
      | ok u =>
        obtain ⟨k, M2⟩ := u
        rw [q2] at l1
        dsimp only at l1
        intro k' ρ4 Z4 H4 e4 r4 hk
        have hk : k' = k := hk
        subst hk
        cases k' with
        | false => exact ⟨ρ4, Z4, M2, (e1.trans e3).trans e4, r4, by simpa using l1⟩
        | true =>
          rw [if_pos rfl] at l1
          show tI c W0 it1 σ2 H4 _
          refine ⟨b, B, ρ4, Z4, M2, env2, ⟨r4, s2.up e4, hb⟩, ?_⟩
          cases q3 : it1 b env2 M2 with
          | bad => rw [q3] at l1; cases l1
          | exc x => rw [q3] at l1; cases l1
          | ok u =>
            obtain ⟨ys, M3⟩ := u
            rw [q3] at l1
            dsimp only at l1
            intro J1 ρ5 Z5 H5 e5 r5 wk1
            cases q4 : lcL tg1.g t1 e n ys b (wipeE env2 vs1) M3 with
            | none => rw [q4] at l1; cases l1
            | some M4 =>
              rw [q4] at l1
              have eD := ((e1.trans e3).trans e4).trans e5
              exact lc_in wk1 r5 (Ext.refl _ _) (eD.get hD) ((s2.up e4).up e5) hb hbn hv1 q4 fun ρ6 Z6 H6 e6 r6 => ⟨ρ6, Z6, M4, eD.trans e6, r6, l1⟩
  · intro H2 ⟨ρ1, Z1, M1, e1, r1, l1⟩
    rw [List.drop_length] at l1
    have l1 : some M1 = some Mf := l1
    cases l1
    exact hd ρ1 Z1 H2 e1 r1
theorem rd_lc2F {it it1 : EvI} {tg tg1 : Tg} {vs vs1 : List Nat} {t t1 : EvT} {e : EvE} {Q : VK} (hv : ∀ i ∈ tg.sl, i ∈ vs) (hv1 : ∀ i ∈ tg1.sl, i ∈ vs1) (h : tE c W (eLc2F it tg vs t it1 tg1 vs1 t1 e) σ H Q) : tLc2 (tI c W it) (tg.r c.K) (tT c W0 t) (tI c W0 it1) (tg1.r c.K) (tT c W0 t1) (tE c W0 e) vs vs1 σ H Q := by
  have h : tG c W (RV c) (fun b env M => (it b env M).bind fun q => (match lcL2 tg.g t it1 tg1.g vs1 t1 e q.2.length q.1 q.2.length (wipeE env vs) (q.2 ++ [some (.lst [])]) with
    | some M' => (match M'[q.2.length]? with
      | some (some (.lst ys)) => .ok (.d (.lst ys), M'.take q.2.length)
      | _ => .bad)
    | none => .bad : Res Ex (Vl × Store))) σ H Q := h
  refine tG.mono (tG.bind (k := fun (x : List D) b env M => (match lcL2 tg.g t it1 tg1.g vs1 t1 e M.length x M.length (wipeE env vs) (M ++ [some (.lst [])]) with
    | some M' => (match M'[M.length]? with
      | some (some (.lst ys)) => .ok (.d (.lst ys), M'.take M.length)
      | _ => .bad)
    | none => .bad : Res Ex (Vl × Store))) h) fun J H1 ⟨xs, b, B, ρ, Z, M, env, a, wk, po⟩ => ?_
  intro D hD
  dsimp only at po
  split at po
  · rename_i Mf hL
    have rb := a.rel.rebase
    obtain ⟨r0, e0⟩ := rb.new hD (upd_sub hD) (H' := upd H1 D (.lst [])) (by rw [upd_same]; intro z; cases z) (ob := .lst []) ⟨[], upd_same, .nil⟩
    have hbl : ∀ b' ∈ M.length :: B, b' ≤ M.length := fun b' h' => rb.ble b' h'
    refine lc2_go (n := M.length) wk r0 e0 (by rw [← a.rel.len]; simp) (a.sl.up e0) hbl hbl hv hv1 hL fun ρ' Z' H' e' r' => ?_
    have hDn : ρ'[M.length]? = some D := e'.get (by rw [← a.rel.len]; simp)
    split at po
    · rename_i ys q
      obtain ⟨z, acc, h1, h2⟩ := r'.cel _ _ D q hDn
      obtain ⟨r2, e2⟩ := r'.freeze q hDn h1
      have r3 := r2.cut (fun b' h' => a.rel.ble b' h')
      have e4 : (Mf.set M.length none).take M.length = Mf.take M.length := by
        rw [List.take_set_of_le (Nat.le_refl _)]
      have e5 : ρ'.take M.length = ρ := by
        obtain ⟨⟨τ, ht⟩, _⟩ := e'
        rw [ht, ← a.rel.len, List.append_assoc, List.take_left' rfl]
      rw [e4, e5] at r3
      exact po (.ref D) ρ _ H' ⟨⟨[], by simp⟩, e'.z.trans e2.z⟩ r3 (R.lst upd_same (h2.up e2.z))
    · exact po.elim
  · exact po.elim
theorem rd_lc2K {ob : Ob} {it it1 : EvI} {tg tg1 : Tg} {vs vs1 : List Nat} {t t1 : EvT} {e : EvE} {Q : VK} (ho : ob = .lst [] ∨ ob = .lsc []) (hv : ∀ i ∈ tg.sl, i ∈ vs) (hv1 : ∀ i ∈ tg1.sl, i ∈ vs1) (h : tE c W (eLc2K ob it tg vs t it1 tg1 vs1 t1 e) σ H Q) : tLc2 (tI c W it) (tg.r c.K) (tT c W0 t) (tI c W0 it1) (tg1.r c.K) (tT c W0 t1) (tE c W0 e) vs vs1 σ H Q := by
  have h : tG c W (RV c) (fun b env M => (it b env M).bind fun q => (match lcL2 tg.g t it1 tg1.g vs1 t1 e q.2.length q.1 b (wipeE env vs) (q.2 ++ [some ob]) with
    | some M' => .ok (.c q.2.length, M')
    | none => .bad : Res Ex (Vl × Store))) σ H Q := h
  refine tG.mono (tG.bind (k := fun (x : List D) b env M => (match lcL2 tg.g t it1 tg1.g vs1 t1 e M.length x b (wipeE env vs) (M ++ [some ob]) with
    | some M' => .ok (.c M.length, M')
    | none => .bad : Res Ex (Vl × Store))) h) fun J H1 ⟨xs, b, B, ρ, Z, M, env, a, wk, po⟩ => ?_
  intro D hD
  dsimp only at po
  split at po
  · rename_i Mf hL
    obtain ⟨r0, e0⟩ := a.rel.new hD (upd_sub hD) (H' := upd H1 D (.lst [])) (by rw [upd_same]; intro z; cases z) (ob := ob) (by
      rcases ho with rfl | rfl
      · exact ⟨[], upd_same, .nil⟩
      · exact ⟨[], upd_same, trivial⟩)
    refine lc2_go (n := M.length) wk r0 e0 (by rw [← a.rel.len]; simp) (a.sl.up e0) a.hb (fun b' h' => a.rel.ble b' h') hv hv1 hL fun ρ' Z' H' e' r' => ?_
    have hDn : ρ'[M.length]? = some D := e'.get (by rw [← a.rel.len]; simp)
    exact po (.ref D) ρ' Z' H' (e0.trans e') r' ⟨D, rfl, hDn⟩
  · exact po.elim
variable {elt te te1 iter iter1 : Expr} {ifs ifs1 : List Expr} {scope : Scope} {own : List (Str × Nat)} {it it1 : EvI} {tg tg1 : Tg} {t t1 : EvT} {e : EvE} {vs1 : List Nat}
theorem d_lc2F (hK : X.K = c.K) (hc : X.calm = true) (hN : X.N.Nodup) (hi : PI X te iter (tI c W it)) (ok : BlkOk X.N X.env.scope scope own) (hv : ∀ i ∈ tg.sl, i ∈ own.map (·.2)) (hv1 : ∀ i ∈ tg1.sl, i ∈ vs1) (hvs : ∀ i ∈ vs1, i ∈ own.map (·.2))
    (hg : ∀ (s : Shared) (H : Hp) (C : Addr) (cl : List (Str × Addr)) (fp : List Addr), PG (X.blk s H scope (compEnvC scope cl C X.env) fp) te (tg.r X.K)) (ht : ∀ (s : Shared) (H : Hp) (C : Addr) (cl : List (Str × Addr)) (fp : List Addr), PTs (X.blk s H scope (compEnvC scope cl C X.env) fp) ifs (tT c W0 t))
    (hi1 : ∀ (s : Shared) (H : Hp) (C : Addr) (cl : List (Str × Addr)) (fp : List Addr), PI (X.blk s H scope (compEnvC scope cl C X.env) fp) te1 iter1 (tI c W0 it1))
    (hg1 : ∀ (s : Shared) (H : Hp) (C : Addr) (cl : List (Str × Addr)) (fp : List Addr), PG (X.blk s H scope (compEnvC scope cl C X.env) fp) te1 (tg1.r X.K)) (ht1 : ∀ (s : Shared) (H : Hp) (C : Addr) (cl : List (Str × Addr)) (fp : List Addr), PTs (X.blk s H scope (compEnvC scope cl C X.env) fp) ifs1 (tT c W0 t1))
    (he : ∀ (s : Shared) (H : Hp) (C : Addr) (cl : List (Str × Addr)) (fp : List Addr), PE (X.blk s H scope (compEnvC scope cl C X.env) fp) elt (tE c W0 e)) (hs : ∀ x, foldedSetIterable iter X.env x = pure x := by intro _; rfl) (hs1 : ∀ env x, foldedSetIterable iter1 env x = pure x := by intro _ _; rfl) :
    PE X (.ListComp elt [⟨te, iter, ifs, 0⟩, ⟨te1, iter1, ifs1, 0⟩] scope pos) (tE c W (eLc2F it tg (own.map (·.2)) t it1 tg1 vs1 t1 e)) := PE.weak (pe_lc2 hc hN hi ok hvs hg ht hi1 hg1 ht1 he hs hs1) fun σ H Q h => by rw [hK]; exact rd_lc2F hv hv1 h
theorem d_lc2K {ob : Ob} (ho : ob = .lst [] ∨ ob = .lsc []) (hK : X.K = c.K) (hc : X.calm = true) (hN : X.N.Nodup) (hi : PI X te iter (tI c W it)) (ok : BlkOk X.N X.env.scope scope own) (hv : ∀ i ∈ tg.sl, i ∈ own.map (·.2)) (hv1 : ∀ i ∈ tg1.sl, i ∈ vs1) (hvs : ∀ i ∈ vs1, i ∈ own.map (·.2))
    (hg : ∀ (s : Shared) (H : Hp) (C : Addr) (cl : List (Str × Addr)) (fp : List Addr), PG (X.blk s H scope (compEnvC scope cl C X.env) fp) te (tg.r X.K)) (ht : ∀ (s : Shared) (H : Hp) (C : Addr) (cl : List (Str × Addr)) (fp : List Addr), PTs (X.blk s H scope (compEnvC scope cl C X.env) fp) ifs (tT c W0 t))
    (hi1 : ∀ (s : Shared) (H : Hp) (C : Addr) (cl : List (Str × Addr)) (fp : List Addr), PI (X.blk s H scope (compEnvC scope cl C X.env) fp) te1 iter1 (tI c W0 it1))
    (hg1 : ∀ (s : Shared) (H : Hp) (C : Addr) (cl : List (Str × Addr)) (fp : List Addr), PG (X.blk s H scope (compEnvC scope cl C X.env) fp) te1 (tg1.r X.K)) (ht1 : ∀ (s : Shared) (H : Hp) (C : Addr) (cl : List (Str × Addr)) (fp : List Addr), PTs (X.blk s H scope (compEnvC scope cl C X.env) fp) ifs1 (tT c W0 t1))
    (he : ∀ (s : Shared) (H : Hp) (C : Addr) (cl : List (Str × Addr)) (fp : List Addr), PE (X.blk s H scope (compEnvC scope cl C X.env) fp) elt (tE c W0 e)) (hs : ∀ x, foldedSetIterable iter X.env x = pure x := by intro _; rfl) (hs1 : ∀ env x, foldedSetIterable iter1 env x = pure x := by intro _ _; rfl) :
    PE X (.ListComp elt [⟨te, iter, ifs, 0⟩, ⟨te1, iter1, ifs1, 0⟩] scope pos) (tE c W (eLc2K ob it tg (own.map (·.2)) t it1 tg1 vs1 t1 e)) := PE.weak (pe_lc2 hc hN hi ok hvs hg ht hi1 hg1 ht1 he hs hs1) fun σ H Q h => by rw [hK]; exact rd_lc2K ho hv hv1 h
theorem d_setLc2F {i : Nat} {y : Str} {py spos : Pos}  (hK : X.K = c.K) (hc : X.calm = true) (hN : X.N.Nodup) (hy : X.N[i]? = some y) (hyl : X.env.scope.names.lookup y = some .local)
    (hsw : swapsWith (.ListComp elt [⟨te, iter, ifs, 0⟩, ⟨te1, iter1, ifs1, 0⟩] scope pos) (some (.Name y py)) spos.line X.env = pure true) (hi : PI X te iter (tI c W it)) (ok : BlkOk X.N X.env.scope scope own) (hv : ∀ i ∈ tg.sl, i ∈ own.map (·.2)) (hv1 : ∀ i ∈ tg1.sl, i ∈ vs1) (hvs : ∀ i ∈ vs1, i ∈ own.map (·.2))
    (hg : ∀ (s : Shared) (H : Hp) (C : Addr) (cl : List (Str × Addr)) (fp : List Addr), PG (X.blk s H scope (compEnvC scope cl C X.env) fp) te (tg.r X.K)) (ht : ∀ (s : Shared) (H : Hp) (C : Addr) (cl : List (Str × Addr)) (fp : List Addr), PTs (X.blk s H scope (compEnvC scope cl C X.env) fp) ifs (tT c W0 t))
    (hi1 : ∀ (s : Shared) (H : Hp) (C : Addr) (cl : List (Str × Addr)) (fp : List Addr), PI (X.blk s H scope (compEnvC scope cl C X.env) fp) te1 iter1 (tI c W0 it1))
    (hg1 : ∀ (s : Shared) (H : Hp) (C : Addr) (cl : List (Str × Addr)) (fp : List Addr), PG (X.blk s H scope (compEnvC scope cl C X.env) fp) te1 (tg1.r X.K)) (ht1 : ∀ (s : Shared) (H : Hp) (C : Addr) (cl : List (Str × Addr)) (fp : List Addr), PTs (X.blk s H scope (compEnvC scope cl C X.env) fp) ifs1 (tT c W0 t1))
    (he : ∀ (s : Shared) (H : Hp) (C : Addr) (cl : List (Str × Addr)) (fp : List Addr), PE (X.blk s H scope (compEnvC scope cl C X.env) fp) elt (tE c W0 e)) (hs : ∀ x, foldedSetIterable iter X.env x = pure x := by intro _; rfl) (hs1 : ∀ env x, foldedSetIterable iter1 env x = pure x := by intro _ _; rfl) :
    PS X (.Assign [.Name y py] (.ListComp elt [⟨te, iter, ifs, 0⟩, ⟨te1, iter1, ifs1, 0⟩] scope pos) spos) (tSt c W (sAsg (eLc2F it tg (own.map (·.2)) t it1 tg1 vs1 t1 e) (gN i))) := PS.weak (ps_setLc2 hc hN hy hyl hsw hi ok hvs hg ht hi1 hg1 ht1 he hs hs1) fun dd σ H h => by
  rw [hK]; exact rd_asgN (fun Q h => rd_lc2F hv hv1 h) h
theorem d_setLc2K {ob : Ob} (ho : ob = .lst [] ∨ ob = .lsc []) {i : Nat} {y : Str} {py spos : Pos}  (hK : X.K = c.K) (hc : X.calm = true) (hN : X.N.Nodup) (hy : X.N[i]? = some y) (hyl : X.env.scope.names.lookup y = some .local)
    (hsw : swapsWith (.ListComp elt [⟨te, iter, ifs, 0⟩, ⟨te1, iter1, ifs1, 0⟩] scope pos) (some (.Name y py)) spos.line X.env = pure true) (hi : PI X te iter (tI c W it)) (ok : BlkOk X.N X.env.scope scope own) (hv : ∀ i ∈ tg.sl, i ∈ own.map (·.2)) (hv1 : ∀ i ∈ tg1.sl, i ∈ vs1) (hvs : ∀ i ∈ vs1, i ∈ own.map (·.2))
    (hg : ∀ (s : Shared) (H : Hp) (C : Addr) (cl : List (Str × Addr)) (fp : List Addr), PG (X.blk s H scope (compEnvC scope cl C X.env) fp) te (tg.r X.K)) (ht : ∀ (s : Shared) (H : Hp) (C : Addr) (cl : List (Str × Addr)) (fp : List Addr), PTs (X.blk s H scope (compEnvC scope cl C X.env) fp) ifs (tT c W0 t))
    (hi1 : ∀ (s : Shared) (H : Hp) (C : Addr) (cl : List (Str × Addr)) (fp : List Addr), PI (X.blk s H scope (compEnvC scope cl C X.env) fp) te1 iter1 (tI c W0 it1))
    (hg1 : ∀ (s : Shared) (H : Hp) (C : Addr) (cl : List (Str × Addr)) (fp : List Addr), PG (X.blk s H scope (compEnvC scope cl C X.env) fp) te1 (tg1.r X.K)) (ht1 : ∀ (s : Shared) (H : Hp) (C : Addr) (cl : List (Str × Addr)) (fp : List Addr), PTs (X.blk s H scope (compEnvC scope cl C X.env) fp) ifs1 (tT c W0 t1))
    (he : ∀ (s : Shared) (H : Hp) (C : Addr) (cl : List (Str × Addr)) (fp : List Addr), PE (X.blk s H scope (compEnvC scope cl C X.env) fp) elt (tE c W0 e)) (hs : ∀ x, foldedSetIterable iter X.env x = pure x := by intro _; rfl) (hs1 : ∀ env x, foldedSetIterable iter1 env x = pure x := by intro _ _; rfl) :
    PS X (.Assign [.Name y py] (.ListComp elt [⟨te, iter, ifs, 0⟩, ⟨te1, iter1, ifs1, 0⟩] scope pos) spos) (tSt c W (sAsg (eLc2K ob it tg (own.map (·.2)) t it1 tg1 vs1 t1 e) (gN i))) := PS.weak (ps_setLc2 hc hN hy hyl hsw hi ok hvs hg ht hi1 hg1 ht1 he hs hs1) fun dd σ H h => by
  rw [hK]; exact rd_asgN (fun Q h => rd_lc2K ho hv hv1 h) h
theorem d_pw {e : Expr} {u : EvT} (h : PW X e (tT c W u)) : PT X e (tT c W u) := h.pt
/-! ### written constants -/
def dvD : He.Dv → D
  | .int i => .int i
  | .str x => .str x
  | .bl b => .bl b
  | _ => .non
def dvF : He.Dv → Bool
  | .int _ => true
  | .str _ => true
  | .bl _ => true
  | .non => true
  | _ => false
theorem rs_flat {K : PySem.W.Frag} {ds : List D} : ∀ {l : List He.Dv}, l.map dvD = ds → l.all dvF = true → Rs c Z (l.map (He.Dv.v K)) ds := by
  intro l e h
  subst e
  induction l with
  | nil => exact .nil
  | cons d l ih =>
    rw [List.all_cons] at h
    rw [Bool.and_eq_true] at h
    refine .cons ?_ (ih h.2)
    cases d <;> first | exact .int _ | exact .str _ | exact .bl _ | exact .non | cases h.1
end
end Mo

namespace Lk08
open PySem PySem.Spec PyProof.Rows L2 Mo
def top (i : Nat) : Stmt := PySem.Challenge.pw_monochord_k08_digests_in_parts.main.body.getD i (.Pass ⟨0, 0, 0, 0⟩)
def tb_state : Tb := [(0, 0)]
def tb_tail : Tb := [(0, 1)]
def tb_length : Tb := [(0, 2)]
def k_ROTATIONS : List D := [.int 7, .int 12, .int 17, .int 22, .int 5, .int 9, .int 14, .int 20, .int 4, .int 11, .int 16, .int 23, .int 6, .int 10, .int 15, .int 21]
def k_CONSTANTS : List D := [.int 3614090360, .int 3905402710, .int 606105819, .int 3250441966, .int 4118548399, .int 1200080426, .int 2821735955, .int 4249261313, .int 1770035416, .int 2336552879, .int 4294925233, .int 2304563134, .int 1804603682, .int 4254626195, .int 2792965006, .int 1236535329, .int 4129170786, .int 3225465664, .int 643717713, .int 3921069994, .int 3593408605, .int 38016083, .int 3634488961, .int 3889429448, .int 568446438, .int 3275163606, .int 4107603335, .int 1163531501, .int 2850285829, .int 4243563512, .int 1735328473, .int 2368359562, .int 4294588738, .int 2272392833, .int 1839030562, .int 4259657740, .int 2763975236, .int 1272893353, .int 4139469664, .int 3200236656, .int 681279174, .int 3936430074, .int 3572445317, .int 76029189, .int 3654602809, .int 3873151461, .int 530742520, .int 3299628645, .int 4096336452, .int 1126891415, .int 2878612391, .int 4237533241, .int 1700485571, .int 2399980690, .int 4293915773, .int 2240044497, .int 1873313359, .int 4264355552, .int 2734768916, .int 1309151649, .int 4149444226, .int 3174756917, .int 718787259, .int 3951481745]
abbrev st__law_is_integer : Stmt := top 14
abbrev N__law_is_integer : List Str := ["_law_actual"]
abbrev P__law_is_integer : List Str := ["_law_actual"]
def b__law_is_integer : EvS := sRet (eAndV (eIsi "int" (eVar 0)) (eNotV (eIsi "bool" (eVar 0))))
def F__law_is_integer : EvF := ar 1 (runT 1 b__law_is_integer)
abbrev st__law_same : Stmt := top 15
abbrev N__law_same : List Str := ["_law_actual", "_law_expected", "_law_k"]
abbrev P__law_same : List Str := ["_law_actual", "_law_expected"]
def _law_same_l3 : EvS := sIf (eOr (eNot (eTru (eCall F__law_is_integer (aCons (eOp oIx (eVar 0) (eVar 2)) (aNil)) []))) (eTest (eOp oNe (eOp oIx (eVar 0) (eVar 2)) (eOp oIx (eVar 1) (eVar 2)))))
  (sRet (eC (.bl false)))
  (sNil)
def b__law_same : EvS := sSeq (sIf (eOr (eNot (eTru (eIsi "list" (eVar 0)))) (eTest (eOp oNe (eCB oLen (aCons (eVar 0) (aNil))) (eCB oLen (aCons (eVar 1) (aNil))))))
  (sRet (eC (.bl false)))
  (sNil))
  (sSeq (sFor (itR1 (aCons (eCB oLen (aCons (eVar 1) (aNil))) (aNil))) (.n 2)
  (_law_same_l3))
  (sRet (eC (.bl true))))
def F__law_same : EvF := ar 2 (runT 3 b__law_same)
abbrev st_bytes_of : Stmt := top 2
abbrev N_bytes_of : List Str := ["number", "many", "at"]
abbrev P_bytes_of : List Str := ["number", "many"]
def bytes_of_c1 : EvE := eOp oAnd (eOp oShr (eVar 0) (eOp (oMul false) (eC (.int 8)) (eVar 2))) (eC (.int 255))
def b_bytes_of : EvS := sRet (eLcF (itR1 (aCons (eVar 1) (aNil))) (.n 2) [2] (tYesE) (bytes_of_c1))
def F_bytes_of : EvF := ar 2 (runT 3 b_bytes_of)
abbrev st__mix : Stmt := top 7
abbrev N__mix : List Str := ["step", "b", "c", "d"]
abbrev P__mix : List Str := ["step", "b", "c", "d"]
def b__mix : EvS := sSeq (sIf (eTest (eOp oLt (eVar 0) (eC (.int 16))))
  (sRet (eTup (aCons (eOp oOr (eOp oAnd (eVar 1) (eVar 2)) (eOp oAnd (eOp oXor (eC (.int 4294967295)) (eVar 1)) (eVar 3))) (aCons (eVar 0) (aNil)))))
  (sNil))
  (sSeq (sIf (eTest (eOp oLt (eVar 0) (eC (.int 32))))
  (sRet (eTup (aCons (eOp oOr (eOp oAnd (eVar 3) (eVar 1)) (eOp oAnd (eOp oXor (eC (.int 4294967295)) (eVar 3)) (eVar 2))) (aCons (eOp oMod (eOp (oAdd false) (eOp (oMul false) (eC (.int 5)) (eVar 0)) (eC (.int 1))) (eC (.int 16))) (aNil)))))
  (sNil))
  (sSeq (sIf (eTest (eOp oLt (eVar 0) (eC (.int 48))))
  (sRet (eTup (aCons (eOp oXor (eOp oXor (eVar 1) (eVar 2)) (eVar 3)) (aCons (eOp oMod (eOp (oAdd false) (eOp (oMul false) (eC (.int 3)) (eVar 0)) (eC (.int 5))) (eC (.int 16))) (aNil)))))
  (sNil))
  (sRet (eTup (aCons (eOp oXor (eVar 2) (eOp oOr (eVar 1) (eOp oXor (eC (.int 4294967295)) (eVar 3)))) (aCons (eOp oMod (eOp (oMul false) (eC (.int 7)) (eVar 0)) (eC (.int 16))) (aNil)))))))
def F__mix : EvF := ar 4 (runT 4 b__mix)
abbrev st_number_of : Stmt := top 1
abbrev N_number_of : List Str := ["data", "start", "many", "number", "at"]
abbrev P_number_of : List Str := ["data", "start", "many"]
def number_of_l2 : EvS := sAug 3 oOr (eOp oShl (eOp oIx (eVar 0) (eOp (oAdd false) (eVar 1) (eVar 4))) (eOp (oMul false) (eC (.int 8)) (eVar 4)))
def b_number_of : EvS := sSeq (sAsg (eC (.int 0)) (gN 3))
  (sSeq (sFor (itR1 (aCons (eVar 2) (aNil))) (.n 4)
  (number_of_l2))
  (sRet (eVar 3)))
def F_number_of : EvF := ar 3 (runT 5 b_number_of)
abbrev st__add_block : Stmt := top 8
abbrev N__add_block : List Str := ["state", "block", "words", "a", "b", "c", "d", "step", "f", "g", "t", "shift", "at", "old", "new"]
abbrev P__add_block : List Str := ["state", "block"]
def _add_block_c9 : EvE := eOp oAnd (eOp (oAdd false) (eVar 13) (eVar 14)) (eC (.int 4294967295))
def _add_block_l3 : EvS := sSeq (sAsgM (eCall F__mix (aCons (eVar 7) (aCons (eVar 4) (aCons (eVar 5) (aCons (eVar 6) (aNil))))) []) (gmQ [gmN 8, gmN 9]))
  (sSeq (sAsg (eOp oAnd (eOp (oAdd false) (eOp (oAdd false) (eOp (oAdd false) (eVar 3) (eVar 8)) (eOp oIx (eC (.tup k_CONSTANTS)) (eVar 7))) (eOp oIx (eVar 2) (eVar 9))) (eC (.int 4294967295))) (gN 10))
  (sSeq (sAsg (eOp oIx (eC (.tup k_ROTATIONS)) (eOp (oAdd false) (eOp (oMul false) (eOp oDiv (eVar 7) (eC (.int 16))) (eC (.int 4))) (eOp oMod (eVar 7) (eC (.int 4))))) (gN 11))
  (sSeq (sAsg (eOp oAnd (eOp oOr (eOp oShl (eVar 10) (eVar 11)) (eOp oShr (eVar 10) (eOp oSub (eC (.int 32)) (eVar 11)))) (eC (.int 4294967295))) (gN 10))
  (sAsgM (eTup (aCons (eVar 6) (aCons (eOp oAnd (eOp (oAdd false) (eVar 4) (eVar 10)) (eC (.int 4294967295))) (aCons (eVar 4) (aCons (eVar 5) (aNil)))))) (gmQ [gmN 3, gmN 4, gmN 5, gmN 6])))))
def _add_block_c1 : EvE := eCall F_number_of (aCons (eVar 1) (aCons (eOp (oMul false) (eC (.int 4)) (eVar 12)) (aCons (eC (.int 4)) (aNil)))) []
def b__add_block : EvS := sSeq (sAsg (eLcF (itR1 (aCons (eC (.int 16)) (aNil))) (.n 12) [12] (tYesE) (_add_block_c1)) (gN 2))
  (sSeq (sAsgM (eVar 0) (gmQ [gmN 3, gmN 4, gmN 5, gmN 6]))
  (sSeq (sFor (itR1 (aCons (eC (.int 64)) (aNil))) (.n 7)
  (_add_block_l3))
  (sRet (eLcF (itZp (aCons (eVar 0) (aCons (eLst false (aCons (eVar 3) (aCons (eVar 4) (aCons (eVar 5) (aCons (eVar 6) (aNil)))))) (aNil)))) (.t [13, 14]) [13, 14] (tYesE) (_add_block_c9)))))
def F__add_block : EvF := ar 2 (runT 15 b__add_block)
abbrev st__add_blocks : Stmt := top 10
abbrev N__add_blocks : List Str := ["state", "data", "at"]
abbrev P__add_blocks : List Str := ["state", "data"]
def _add_blocks_l2 : EvS := sSeq (sAsg (eCall F__add_block (aCons (eVar 0) (aCons (eSl false (eVar 1) (oSome (eVar 2)) (oSome (eOp (oAdd false) (eVar 2) (eC (.int 64))))) (aNil))) []) (gN 0))
  (sAug 2 iAdd (eC (.int 64)))
def _add_blocks_w2 : EvT := eTest (eOp oLe (eOp (oAdd false) (eVar 2) (eC (.int 64))) (eCB oLen (aCons (eVar 1) (aNil))))
def b__add_blocks : EvS := sSeq (sAsg (eC (.int 0)) (gN 2))
  (sSeq (sWhile (_add_blocks_w2)
  (_add_blocks_l2))
  (sRet (eTup (aCons (eVar 0) (aCons (eSl false (eVar 1) (oSome (eVar 2)) (oNone)) (aNil))))))
def F__add_blocks : EvF := ar 2 (runT 3 b__add_blocks)
abbrev st_Md5_digest : Stmt := inClass (top 9) 2
abbrev N_Md5_digest : List Str := ["self", "padding", "end", "state", "_", "word", "byte"]
abbrev P_Md5_digest : List Str := ["self"]
def Md5_digest_c4 : EvE := eVar 6
def Md5_digest_i4 : EvI := itV (eCall F_bytes_of (aCons (eVar 5) (aCons (eC (.int 4)) (aNil))) [])
def b_Md5_digest : EvS := sSeq (sAsg (eOp (oAdd false) (eLst false (aCons (eC (.int 128)) (aNil))) (eOp (oMul false) (eLst false (aCons (eC (.int 0)) (aNil))) (eOp oMod (eOp oSub (eC (.int 55)) (eFld tb_length (eVar 0))) (eC (.int 64))))) (gN 1))
  (sSeq (sAsg (eOp (oAdd false) (eOp (oAdd false) (eFld tb_tail (eVar 0)) (eVar 1)) (eCall F_bytes_of (aCons (eOp (oMul false) (eC (.int 8)) (eFld tb_length (eVar 0))) (aCons (eC (.int 8)) (aNil))) [])) (gN 2))
  (sSeq (sAsgM (eCall F__add_blocks (aCons (eFld tb_state (eVar 0)) (aCons (eVar 2) (aNil))) []) (gmQ [gmN 3, gmN 4]))
  (sRet (eLc2K (.lst []) (itV (eVar 3)) (.n 5) [5, 6] (tYesE) (Md5_digest_i4) (.n 6) [6] (tYesE) (Md5_digest_c4)))))
def F_Md5_digest : EvF := ar 1 (runR 7 b_Md5_digest)
abbrev st_Md5_feed : Stmt := inClass (top 9) 1
abbrev N_Md5_feed : List Str := ["self", "data"]
abbrev P_Md5_feed : List Str := ["self", "data"]
def b_Md5_feed : EvS := sSeq (sFldA tb_length iAdd (eVar 0) (eCB oLen (aCons (eVar 1) (aNil))))
  (sAsgM (eCall F__add_blocks (aCons (eFld tb_state (eVar 0)) (aCons (eOp (oAdd false) (eFld tb_tail (eVar 0)) (eVar 1)) (aNil))) []) (gmQ [gmA 0 tb_state, gmA 0 tb_tail]))
def F_Md5_feed : EvF := ar 2 (runT 2 b_Md5_feed)
abbrev st_Md5___init__ : Stmt := inClass (top 9) 0
abbrev N_Md5___init__ : List Str := ["self"]
abbrev P_Md5___init__ : List Str := ["self"]
def b_Md5___init__ : EvS := sSeq (sFldS tb_state (eVar 0) (eLst false (aCons (eC (.int 1732584193)) (aCons (eC (.int 4023233417)) (aCons (eC (.int 2562383102)) (aCons (eC (.int 271733878)) (aNil)))))))
  (sSeq (sFldS tb_tail (eVar 0) (eLst false (aNil)))
  (sFldS tb_length (eVar 0) (eC (.int 0))))
def F_Md5___init__ : EvF := ar 1 (runT 1 b_Md5___init__)
abbrev st_md5 : Stmt := top 11
abbrev N_md5 : List Str := ["data", "whole"]
abbrev P_md5 : List Str := ["data"]
def b_md5 : EvS := sSeq (sAsg (eMakeK 0 3 F_Md5___init__ aNil []) (gN 1))
  (sSeq (sDrop (eMeth 0 F_Md5_feed (eVar 1) (aCons (eVar 0) (aNil)) []))
  (sRet (eMeth 0 F_Md5_digest (eVar 1) aNil [])))
def F_md5 : EvF := ar 1 (runR 2 b_md5)
abbrev st__law_asked : Stmt := top 17
abbrev N__law_asked : List Str := ["_law_digest", "_law_fed", "_law_first", "_law_expected"]
abbrev P__law_asked : List Str := ["_law_digest", "_law_fed"]
def b__law_asked : EvS := sSeq (sAsg (eMeth 0 F_Md5_digest (eVar 0) aNil []) (gN 2))
  (sSeq (sAsg (eCall F_md5 (aCons (eCB (oList false) (aCons (eVar 1) (aNil))) (aNil)) []) (gN 3))
  (sSeq (sIf (eOr (eTest (eOp oNe (eCB oLen (aCons (eVar 3) (aNil))) (eC (.int 16)))) (eNot (eTru (eCall F__law_same (aCons (eVar 2) (aCons (eVar 3) (aNil))) []))))
  (sRet (eC (.bl false)))
  (sNil))
  (sSeq (sDrop (eBM mApp (eVar 2) (aCons (eC (.int 1)) aNil)))
  (sRet (eCall F__law_same (aCons (eMeth 0 F_Md5_digest (eVar 0) aNil []) (aCons (eVar 3) (aNil))) [])))))
def F__law_asked : EvF := ar 2 (runT 4 b__law_asked)
abbrev st__law_draw : Stmt := top 13
abbrev N__law_draw : List Str := ["_law_cell", "_law_many", "_law_bound", "_law_numbers", "_law_k", "_law_seed", "_law_mixed"]
abbrev P__law_draw : List Str := ["_law_cell", "_law_many", "_law_bound"]
def _law_draw_l8 : EvS := sSeq (sAsg (eOp oMod (eCB oInt (aCons (eOp (oAdd false) (eOp (oAdd false) (eOp (oMul false) (eVar 5) (eC (.int 48271))) (eC (.int 12345))) (eVar 4)) (aNil))) (eC (.int 2147483647))) (gN 5))
  (sSeq (sAsg (eOp oMod (eCB oInt (aCons (eOp (oAdd false) (eOp (oMul false) (eVar 5) (eC (.int 69621))) (eOp (oMul false) (eC (.int 977)) (eVar 4))) (aNil))) (eC (.int 2147483629))) (gN 6))
  (sDrop (eBM mApp (eVar 3) (aCons (eOp oMod (eCB oInt (aCons (eOp oDiv (eVar 6) (eC (.int 3))) (aNil))) (eVar 2)) aNil))))
def _law_draw_l3 : EvS := sSeq (sDrop (eBM mApp (eVar 3) (aCons (eOp oMod (eCB oInt (aCons (eVar 0) (aNil))) (eVar 2)) aNil)))
  (sAsg (eOp oDiv (eVar 0) (eVar 2)) (gN 0))
def b__law_draw : EvS := sSeq (sAsg (eLst true (aNil)) (gN 3))
  (sSeq (sIf (eTest (eOp oGe (eVar 0) (eOp oPow (eC (.int 10)) (eC (.int 18)))))
  (sSeq (sFor (itR1 (aCons (eVar 1) (aNil))) (.n 4)
  (_law_draw_l3))
  (sRet (eFrz (eVar 3))))
  (sNil))
  (sSeq (sAsg (eOp oMod (eCB oInt (aCons (eVar 0) (aNil))) (eC (.int 2147483647))) (gN 5))
  (sSeq (sFor (itR1 (aCons (eVar 1) (aNil))) (.n 4)
  (_law_draw_l8))
  (sRet (eFrz (eVar 3))))))
def F__law_draw : EvF := ar 3 (runT 7 b__law_draw)
abbrev st__law_part : Stmt := top 16
abbrev N__law_part : List Str := ["_law_cell", "_law_numbers", "_law_many"]
abbrev P__law_part : List Str := ["_law_cell"]
def b__law_part : EvS := sSeq (sAsg (eCall F__law_draw (aCons (eVar 0) (aCons (eC (.int 3)) (aCons (eOp oShl (eC (.int 1)) (eC (.int 20))) (aNil)))) []) (gN 1))
  (sSeq (sAsg (eOp oMod (eOp oIx (eVar 1) (eC (.int 0))) (eC (.int 21))) (gN 2))
  (sSeq (sIf (eTest (eOp oEq (eOp oMod (eOp oDiv (eOp oIx (eVar 1) (eC (.int 0))) (eC (.int 21))) (eC (.int 5))) (eC (.int 0))))
  (sAsg (eOp oMod (eOp oIx (eVar 1) (eC (.int 1))) (eC (.int 71))) (gN 2))
  (sNil))
  (sRet (eTup (aCons (eVar 1) (aCons (eCall F__law_draw (aCons (eOp (oAdd false) (eVar 0) (eC (.int 17))) (aCons (eVar 2) (aCons (eC (.int 256)) (aNil)))) []) (aNil)))))))
def F__law_part : EvF := ar 1 (runT 3 b__law_part)
abbrev st_law : Stmt := top 18
abbrev N_law : List Str := ["_law_script", "_law_digests", "_law_fed", "_law_cell", "_law_numbers", "_law_part_here", "_law_which", "_law_handed"]
abbrev P_law : List Str := ["_law_script"]
def law_l3 : EvS := sSeq (sAsgM (eCall F__law_part (aCons (eVar 3) (aNil)) []) (gmQ [gmN 4, gmN 5]))
  (sSeq (sAsg (eOp oMod (eOp oIx (eVar 4) (eC (.int 2))) (eC (.int 2))) (gN 6))
  (sSeq (sAsg (eCB (oList true) (aCons (eVar 5) (aNil))) (gN 7))
  (sSeq (sIf (eOr (eTest (eOp (oIsN true) (eMeth 0 F_Md5_feed (eOp oIx (eVar 1) (eVar 6)) (aCons (eVar 7) (aNil)) []) (eC .non))) (eTest (eOp oNe (eVar 7) (eVar 5))))
  (sRet (eC (.bl false)))
  (sNil))
  (sSeq (sDrop (eBM mApp (eVar 7) (aCons (eC (.int 9)) aNil)))
  (sSeq (sIxS (eVar 2) (eVar 6) (eOp (oAdd false) (eOp oIx (eVar 2) (eVar 6)) (eVar 5)))
  (sIf (eAnd (eTest (eOp oEq (eOp oMod (eOp oDiv (eOp oIx (eVar 4) (eC (.int 2))) (eC (.int 2))) (eC (.int 3))) (eC (.int 0)))) (eNot (eTru (eCall F__law_asked (aCons (eOp oIx (eVar 1) (eVar 6)) (aCons (eOp oIx (eVar 2) (eVar 6)) (aNil))) []))))
  (sRet (eC (.bl false)))
  (sNil)))))))
def b_law : EvS := sSeq (sAsg (eLsc (aCons (eMakeK 0 3 F_Md5___init__ aNil []) (aCons (eMakeK 0 3 F_Md5___init__ aNil []) (aNil)))) (gN 1))
  (sSeq (sAsg (eLst true (aCons (eLst false (aNil)) (aCons (eLst false (aNil)) (aNil)))) (gN 2))
  (sSeq (sFor (itV (eSl false (eVar 0) (oNone) (oSome (eC (.int 8))))) (.n 3)
  (law_l3))
  (sFrz 2 (sRet (eAndV (eCall F__law_asked (aCons (eOp oIx (eVar 1) (eC (.int 0))) (aCons (eOp oIx (eVar 2) (eC (.int 0))) (aNil))) []) (eCall F__law_asked (aCons (eOp oIx (eVar 1) (eC (.int 1))) (aCons (eOp oIx (eVar 2) (eC (.int 1))) (aNil))) []))))))
def F_law : EvF := ar 1 (runT 8 b_law)
def cK (K : PySem.W.Frag) : Kx := ⟨K, fun k => match k with | 0 => He.ga K "Md5" | _ => 0, fun k => match k with | 0 => ["state", "tail", "length"] | _ => []⟩
structure Fx (K : PySem.W.Frag) (mg : Str → Option Value) : Prop where
  g_law : mg "law" = some (.ref (He.ga K "law"))
  n_range : mg "range" = none
  n_len : mg "len" = none
  n_isinstance : mg "isinstance" = none
  n_int : mg "int" = none
  n_bool : mg "bool" = none
  g__law_is_integer : mg "_law_is_integer" = some (.ref (He.ga K "_law_is_integer"))
  n_list : mg "list" = none
  g__law_same : mg "_law_same" = some (.ref (He.ga K "_law_same"))
  g_bytes_of : mg "bytes_of" = some (.ref (He.ga K "bytes_of"))
  n_zip : mg "zip" = none
  i_MASK : ∃ u, mg "MASK" = some (.int 4294967295 u)
  g_ROTATIONS : mg "ROTATIONS" = some (.ref (He.ga K "ROTATIONS"))
  g_CONSTANTS : mg "CONSTANTS" = some (.ref (He.ga K "CONSTANTS"))
  g__mix : mg "_mix" = some (.ref (He.ga K "_mix"))
  g_number_of : mg "number_of" = some (.ref (He.ga K "number_of"))
  g__add_block : mg "_add_block" = some (.ref (He.ga K "_add_block"))
  g__add_blocks : mg "_add_blocks" = some (.ref (He.ga K "_add_blocks"))
  c_Md5 : Cls K (He.ga K "Md5")
  na_Md5_state : NoAttr K (He.ga K "Md5") "state"
  na_Md5_tail : NoAttr K (He.ga K "Md5") "tail"
  na_Md5_length : NoAttr K (He.ga K "Md5") "length"
  m_Md5_digest : Meth K (He.ga K "Md5") "digest" (He.ma K (He.ga K "Md5") "digest")
  m_Md5_feed : Meth K (He.ga K "Md5") "feed" (He.ma K (He.ga K "Md5") "feed")
  g_Md5 : mg "Md5" = some (.ref (He.ga K "Md5"))
  mk_Md5 : Mk K (He.ga K "Md5") (He.ma K (He.ga K "Md5") "__init__")
  g_md5 : mg "md5" = some (.ref (He.ga K "md5"))
  g__law_asked : mg "_law_asked" = some (.ref (He.ga K "_law_asked"))
  g__law_draw : mg "_law_draw" = some (.ref (He.ga K "_law_draw"))
  g__law_part : mg "_law_part" = some (.ref (He.ga K "_law_part"))
  t_ROTATIONS : ∀ Z, R (cK K) Z (.ref (He.ga K "ROTATIONS")) (.tup k_ROTATIONS)
  t_CONSTANTS : ∀ Z, R (cK K) Z (.ref (He.ga K "CONSTANTS")) (.tup k_CONSTANTS)
  d__law_is_integer : FunD K "_law_is_integer" "_law_is_integer" (defArgs st__law_is_integer) (defBody st__law_is_integer) (defScope st__law_is_integer) [] [] (He.fAd K ("_law_is_integer", none)) (fdOf K (He.fAd K ("_law_is_integer", none)))
  d__law_same : FunD K "_law_same" "_law_same" (defArgs st__law_same) (defBody st__law_same) (defScope st__law_same) [] [] (He.fAd K ("_law_same", none)) (fdOf K (He.fAd K ("_law_same", none)))
  d_bytes_of : FunD K "bytes_of" "bytes_of" (defArgs st_bytes_of) (defBody st_bytes_of) (defScope st_bytes_of) [] [] (He.fAd K ("bytes_of", none)) (fdOf K (He.fAd K ("bytes_of", none)))
  d__mix : FunD K "_mix" "_mix" (defArgs st__mix) (defBody st__mix) (defScope st__mix) [] [] (He.fAd K ("_mix", none)) (fdOf K (He.fAd K ("_mix", none)))
  d_number_of : FunD K "number_of" "number_of" (defArgs st_number_of) (defBody st_number_of) (defScope st_number_of) [] [] (He.fAd K ("number_of", none)) (fdOf K (He.fAd K ("number_of", none)))
  d__add_block : FunD K "_add_block" "_add_block" (defArgs st__add_block) (defBody st__add_block) (defScope st__add_block) [] [] (He.fAd K ("_add_block", none)) (fdOf K (He.fAd K ("_add_block", none)))
  d__add_blocks : FunD K "_add_blocks" "_add_blocks" (defArgs st__add_blocks) (defBody st__add_blocks) (defScope st__add_blocks) [] [] (He.fAd K ("_add_blocks", none)) (fdOf K (He.fAd K ("_add_blocks", none)))
  d_Md5_digest : FunD K "digest" "Md5.digest" (defArgs st_Md5_digest) (defBody st_Md5_digest) (defScope st_Md5_digest) [] [] (He.fAd K ("Md5", some "digest")) (fdOf K (He.fAd K ("Md5", some "digest")))
  d_Md5_feed : FunD K "feed" "Md5.feed" (defArgs st_Md5_feed) (defBody st_Md5_feed) (defScope st_Md5_feed) [] [] (He.fAd K ("Md5", some "feed")) (fdOf K (He.fAd K ("Md5", some "feed")))
  d_Md5___init__ : FunD K "__init__" "Md5.__init__" (defArgs st_Md5___init__) (defBody st_Md5___init__) (defScope st_Md5___init__) [] [] (He.fAd K ("Md5", some "__init__")) (fdOf K (He.fAd K ("Md5", some "__init__")))
  d_md5 : FunD K "md5" "md5" (defArgs st_md5) (defBody st_md5) (defScope st_md5) [] [] (He.fAd K ("md5", none)) (fdOf K (He.fAd K ("md5", none)))
  d__law_asked : FunD K "_law_asked" "_law_asked" (defArgs st__law_asked) (defBody st__law_asked) (defScope st__law_asked) [] [] (He.fAd K ("_law_asked", none)) (fdOf K (He.fAd K ("_law_asked", none)))
  d__law_draw : FunD K "_law_draw" "_law_draw" (defArgs st__law_draw) (defBody st__law_draw) (defScope st__law_draw) [] [] (He.fAd K ("_law_draw", none)) (fdOf K (He.fAd K ("_law_draw", none)))
  d__law_part : FunD K "_law_part" "_law_part" (defArgs st__law_part) (defBody st__law_part) (defScope st__law_part) [] [] (He.fAd K ("_law_part", none)) (fdOf K (He.fAd K ("_law_part", none)))
  d_law : FunD K "law" "law" (defArgs st_law) (defBody st_law) (defScope st_law) [] [] (He.fAd K ("law", none)) (fdOf K (He.fAd K ("law", none)))
section
variable {K : PySem.W.Frag} {mg : Str → Option Value}
theorem Fx.b__law_is_integer (x : Fx K mg) : Binds K (fdOf K (He.fAd K ("_law_is_integer", none))) P__law_is_integer [] := x.d__law_is_integer.bindsN fun _ _ _ _ _ _ us hl => match us, hl with | [_], _ => rfl
theorem Fx.b__law_same (x : Fx K mg) : Binds K (fdOf K (He.fAd K ("_law_same", none))) P__law_same [] := x.d__law_same.bindsN fun _ _ _ _ _ _ us hl => match us, hl with | [_, _], _ => rfl
theorem Fx.b_bytes_of (x : Fx K mg) : Binds K (fdOf K (He.fAd K ("bytes_of", none))) P_bytes_of [] := x.d_bytes_of.bindsN fun _ _ _ _ _ _ us hl => match us, hl with | [_, _], _ => rfl
theorem Fx.b__mix (x : Fx K mg) : Binds K (fdOf K (He.fAd K ("_mix", none))) P__mix [] := x.d__mix.bindsN fun _ _ _ _ _ _ us hl => match us, hl with | [_, _, _, _], _ => rfl
theorem Fx.b_number_of (x : Fx K mg) : Binds K (fdOf K (He.fAd K ("number_of", none))) P_number_of [] := x.d_number_of.bindsN fun _ _ _ _ _ _ us hl => match us, hl with | [_, _, _], _ => rfl
theorem Fx.b__add_block (x : Fx K mg) : Binds K (fdOf K (He.fAd K ("_add_block", none))) P__add_block [] := x.d__add_block.bindsN fun _ _ _ _ _ _ us hl => match us, hl with | [_, _], _ => rfl
theorem Fx.b__add_blocks (x : Fx K mg) : Binds K (fdOf K (He.fAd K ("_add_blocks", none))) P__add_blocks [] := x.d__add_blocks.bindsN fun _ _ _ _ _ _ us hl => match us, hl with | [_, _], _ => rfl
theorem Fx.b_Md5_digest (x : Fx K mg) : Binds K (fdOf K (He.fAd K ("Md5", some "digest"))) P_Md5_digest [] := x.d_Md5_digest.bindsN fun _ _ _ _ _ _ us hl => match us, hl with | [_], _ => rfl
theorem Fx.b_Md5_feed (x : Fx K mg) : Binds K (fdOf K (He.fAd K ("Md5", some "feed"))) P_Md5_feed [] := x.d_Md5_feed.bindsN fun _ _ _ _ _ _ us hl => match us, hl with | [_, _], _ => rfl
theorem Fx.b_Md5___init__ (x : Fx K mg) : Binds K (fdOf K (He.fAd K ("Md5", some "__init__"))) P_Md5___init__ [] := x.d_Md5___init__.bindsN fun _ _ _ _ _ _ us hl => match us, hl with | [_], _ => rfl
theorem Fx.b_md5 (x : Fx K mg) : Binds K (fdOf K (He.fAd K ("md5", none))) P_md5 [] := x.d_md5.bindsN fun _ _ _ _ _ _ us hl => match us, hl with | [_], _ => rfl
theorem Fx.b__law_asked (x : Fx K mg) : Binds K (fdOf K (He.fAd K ("_law_asked", none))) P__law_asked [] := x.d__law_asked.bindsN fun _ _ _ _ _ _ us hl => match us, hl with | [_, _], _ => rfl
theorem Fx.b__law_draw (x : Fx K mg) : Binds K (fdOf K (He.fAd K ("_law_draw", none))) P__law_draw [] := x.d__law_draw.bindsN fun _ _ _ _ _ _ us hl => match us, hl with | [_, _, _], _ => rfl
theorem Fx.b__law_part (x : Fx K mg) : Binds K (fdOf K (He.fAd K ("_law_part", none))) P__law_part [] := x.d__law_part.bindsN fun _ _ _ _ _ _ us hl => match us, hl with | [_], _ => rfl
theorem Fx.b_law (x : Fx K mg) : Binds K (fdOf K (He.fAd K ("law", none))) P_law [] := x.d_law.bindsN fun _ _ _ _ _ _ us hl => match us, hl with | [_], _ => rfl
theorem Fx.tbk_state (x : Fx K mg) : TbOk (cK K) tb_state "state" := ⟨fun k i h => by
  unfold tb_state at h
  rw [List.lookup_cons] at h
  by_cases e0 : k = 0
  · subst e0; cases h; exact ⟨rfl, (show (["state", "tail", "length"] : List Str).Nodup from by decide +kernel), x.c_Md5, x.na_Md5_state⟩
  rw [show (k == 0) = false from by simpa using e0] at h
  replace h : List.lookup k _ = some i := h
  cases h⟩
theorem Fx.tbk_tail (x : Fx K mg) : TbOk (cK K) tb_tail "tail" := ⟨fun k i h => by
  unfold tb_tail at h
  rw [List.lookup_cons] at h
  by_cases e0 : k = 0
  · subst e0; cases h; exact ⟨rfl, (show (["state", "tail", "length"] : List Str).Nodup from by decide +kernel), x.c_Md5, x.na_Md5_tail⟩
  rw [show (k == 0) = false from by simpa using e0] at h
  replace h : List.lookup k _ = some i := h
  cases h⟩
theorem Fx.tbk_length (x : Fx K mg) : TbOk (cK K) tb_length "length" := ⟨fun k i h => by
  unfold tb_length at h
  rw [List.lookup_cons] at h
  by_cases e0 : k = 0
  · subst e0; cases h; exact ⟨rfl, (show (["state", "tail", "length"] : List Str).Nodup from by decide +kernel), x.c_Md5, x.na_Md5_length⟩
  rw [show (k == 0) = false from by simpa using e0] at h
  replace h : List.lookup k _ = some i := h
  cases h⟩
end
section
variable {P : Program} {w : World} {K : PySem.W.Frag} {mg : Str → Option Value} {base : Heap}
theorem sc__law_is_integer : FnScope N__law_is_integer P__law_is_integer (defScope st__law_is_integer) := ⟨rfl, rfl, rfl, by decide +kernel, rfl, by decide +kernel, by decide +kernel⟩
theorem ok__law_is_integer (x : Fx K mg) : FnOk P w K mg base (L2.CX P w) 1 (He.fAd K ("_law_is_integer", none)) (fdOf K (He.fAd K ("_law_is_integer", none))) P__law_is_integer (spF (cK K) 1 F__law_is_integer) := by
  have nd := sc__law_is_integer.nd
  exact fn_TD (N := N__law_is_integer) (ps := P__law_is_integer) (body := b__law_is_integer) x.d__law_is_integer sc__law_is_integer fun cdv A outer s H E hr tk => d_one1 (d_ret (d_andV (d_isi rfl rfl x.n_isinstance rfl x.n_int bb_int (d_var (pv 0))) (d_one (d_notV (d_isi rfl rfl x.n_isinstance rfl x.n_bool bb_bool (d_var (pv 0)))))))
theorem sc__law_same : FnScope N__law_same P__law_same (defScope st__law_same) := ⟨rfl, rfl, rfl, by decide +kernel, rfl, by decide +kernel, by decide +kernel⟩
theorem ok__law_same (x : Fx K mg) : FnOk P w K mg base (L2.CX P w) 2 (He.fAd K ("_law_same", none)) (fdOf K (He.fAd K ("_law_same", none))) P__law_same (spF (cK K) 2 F__law_same) := by
  have nd := sc__law_same.nd
  exact fn_TD (N := N__law_same) (ps := P__law_same) (body := b__law_same) x.d__law_same sc__law_same fun cdv A outer s H E hr tk => d_cons (d_if (d_pw (d_or (d_not (d_tru rfl (d_isi rfl rfl x.n_isinstance rfl x.n_list bb_list (d_var (pv 0))) (fun _ => rfl))) (d_or1 (d_tcmp (o_ne rfl hr.units) (d_cb (k_len rfl) rfl x.n_len bb_len (d_acons (d_var (pv 0)) (d_anil))) (d_cb (k_len rfl) rfl x.n_len bb_len (d_acons (d_var (pv 1)) (d_anil))) (nomark _)))))
      (d_one1 (d_ret (d_c pe_bl (fun _ => .bl _))))
      (d_nil))
      (d_cons (d_for rfl (passes_of rfl) rfl (d_ir1 rfl x.n_range (d_acons (d_cb (k_len rfl) rfl x.n_len bb_len (d_acons (d_var (pv 1)) (d_anil))) (d_anil))) (pg_name (i := 2) nd rfl (Or.inl rfl))
      (d_one1 (d_if (d_pw (d_or (d_not (d_tru rfl (d_call (ok__law_is_integer x) (hr.mono (by decide)) rfl x.g__law_is_integer x.d__law_is_integer.kp x.b__law_is_integer .nil (fun _ => .nil) (tk_of tk) (d_acons (d_ix rfl (d_var (pv 0)) (d_var (pv 2)) (fun _ _ => rfl)) (d_anil))) (fun _ => rfl))) (d_or1 (d_tcmp (o_ne rfl hr.units) (d_ix rfl (d_var (pv 0)) (d_var (pv 2)) (fun _ _ => rfl)) (d_ix rfl (d_var (pv 1)) (d_var (pv 2)) (fun _ _ => rfl)) (nomark _)))))
      (d_one1 (d_ret (d_c pe_bl (fun _ => .bl _))))
      (d_nil))))
      (d_one1 (d_ret (d_c pe_bl (fun _ => .bl _)))))
theorem sc_bytes_of : FnScope N_bytes_of P_bytes_of (defScope st_bytes_of) := ⟨rfl, rfl, rfl, by decide +kernel, rfl, by decide +kernel, by decide +kernel⟩
theorem ok_bytes_of (x : Fx K mg) : FnOk P w K mg base (L2.CX P w) 1 (He.fAd K ("bytes_of", none)) (fdOf K (He.fAd K ("bytes_of", none))) P_bytes_of (spF (cK K) 2 F_bytes_of) := by
  have nd := sc_bytes_of.nd
  exact fn_TD (N := N_bytes_of) (ps := P_bytes_of) (body := b_bytes_of) x.d_bytes_of sc_bytes_of fun cdv A outer s H E hr tk => d_one1 (d_ret (d_lcF rfl rfl nd (own := [("at", 2)]) (d_ir1 rfl x.n_range (d_acons (d_var (pv 1)) (d_anil))) (blkOk_by (N := N_bytes_of) (sc := defScope st_bytes_of) (by decide +kernel)) (by decide) (fun _ _ _ _ _ => pg_name (i := 2) nd rfl (Or.inl rfl)) (fun _ _ _ _ _ => d_tnil) (fun _ _ _ _ _ => d_bin o_and (d_bin o_shr (d_var (pv 0)) (d_bin o_mul (d_c pe_int (fun _ => .int _)) (d_var (pv 2)))) (d_c pe_int (fun _ => .int _)))))
theorem sc__mix : FnScope N__mix P__mix (defScope st__mix) := ⟨rfl, rfl, rfl, by decide +kernel, rfl, by decide +kernel, by decide +kernel⟩
theorem ok__mix (x : Fx K mg) : FnOk P w K mg base (L2.CX P w) 1 (He.fAd K ("_mix", none)) (fdOf K (He.fAd K ("_mix", none))) P__mix (spF (cK K) 4 F__mix) := by
  have nd := sc__mix.nd
  exact fn_TD (N := N__mix) (ps := P__mix) (body := b__mix) x.d__mix sc__mix fun cdv A outer s H E hr tk => d_cons (d_if (d_tcmp o_lt (d_var (pv 0)) (d_c pe_int (fun _ => .int _)) (nomark _))
      (d_one1 (d_ret (d_tup (d_acons (d_bin o_or (d_bin o_and (d_var (pv 1)) (d_var (pv 2))) (d_bin o_and (d_bin o_xor (d_glob rfl x.i_MASK.choose_spec (v := .int 4294967295) ⟨_, rfl⟩ (fun _ => .int _)) (d_var (pv 1))) (d_var (pv 3)))) (d_acons (d_var (pv 0)) (d_anil))))))
      (d_nil))
      (d_cons (d_if (d_tcmp o_lt (d_var (pv 0)) (d_c pe_int (fun _ => .int _)) (nomark _))
      (d_one1 (d_ret (d_tup (d_acons (d_bin o_or (d_bin o_and (d_var (pv 3)) (d_var (pv 1))) (d_bin o_and (d_bin o_xor (d_glob rfl x.i_MASK.choose_spec (v := .int 4294967295) ⟨_, rfl⟩ (fun _ => .int _)) (d_var (pv 3))) (d_var (pv 2)))) (d_acons (d_bin o_mod (d_bin o_add (d_bin o_mul (d_c pe_int (fun _ => .int _)) (d_var (pv 0))) (d_c pe_int (fun _ => .int _))) (d_c pe_int (fun _ => .int _))) (d_anil))))))
      (d_nil))
      (d_cons (d_if (d_tcmp o_lt (d_var (pv 0)) (d_c pe_int (fun _ => .int _)) (nomark _))
      (d_one1 (d_ret (d_tup (d_acons (d_bin o_xor (d_bin o_xor (d_var (pv 1)) (d_var (pv 2))) (d_var (pv 3))) (d_acons (d_bin o_mod (d_bin o_add (d_bin o_mul (d_c pe_int (fun _ => .int _)) (d_var (pv 0))) (d_c pe_int (fun _ => .int _))) (d_c pe_int (fun _ => .int _))) (d_anil))))))
      (d_nil))
      (d_one1 (d_ret (d_tup (d_acons (d_bin o_xor (d_var (pv 2)) (d_bin o_or (d_var (pv 1)) (d_bin o_xor (d_glob rfl x.i_MASK.choose_spec (v := .int 4294967295) ⟨_, rfl⟩ (fun _ => .int _)) (d_var (pv 3))))) (d_acons (d_bin o_mod (d_bin o_mul (d_c pe_int (fun _ => .int _)) (d_var (pv 0))) (d_c pe_int (fun _ => .int _))) (d_anil))))))))
theorem sc_number_of : FnScope N_number_of P_number_of (defScope st_number_of) := ⟨rfl, rfl, rfl, by decide +kernel, rfl, by decide +kernel, by decide +kernel⟩
theorem ok_number_of (x : Fx K mg) : FnOk P w K mg base (L2.CX P w) 1 (He.fAd K ("number_of", none)) (fdOf K (He.fAd K ("number_of", none))) P_number_of (spF (cK K) 3 F_number_of) := by
  have nd := sc_number_of.nd
  exact fn_TD (N := N_number_of) (ps := P_number_of) (body := b_number_of) x.d_number_of sc_number_of fun cdv A outer s H E hr tk => d_cons (d_set (i := 3) nd rfl (Or.inl rfl) (d_c pe_int (fun _ => .int _)))
      (d_cons (d_for rfl (passes_of rfl) rfl (d_ir1 rfl x.n_range (d_acons (d_var (pv 2)) (d_anil))) (pg_name (i := 4) nd rfl (Or.inl rfl))
      (d_one1 (d_aug (i := 3) nd rfl (Or.inl rfl) (d_bin o_shl (d_ix rfl (d_var (pv 0)) (d_bin o_add (d_var (pv 1)) (d_var (pv 4))) (fun _ _ => rfl)) (d_bin o_mul (d_c pe_int (fun _ => .int _)) (d_var (pv 4)))) i_or)))
      (d_one1 (d_ret (d_var (pv 3)))))
theorem sc__add_block : FnScope N__add_block P__add_block (defScope st__add_block) := ⟨rfl, rfl, rfl, by decide +kernel, rfl, by decide +kernel, by decide +kernel⟩
theorem ok__add_block (x : Fx K mg) : FnOk P w K mg base (L2.CX P w) 2 (He.fAd K ("_add_block", none)) (fdOf K (He.fAd K ("_add_block", none))) P__add_block (spF (cK K) 2 F__add_block) := by
  have nd := sc__add_block.nd
  exact fn_TD (N := N__add_block) (ps := P__add_block) (body := b__add_block) x.d__add_block sc__add_block fun cdv A outer s H E hr tk => d_cons (d_setF (i := 2) rfl rfl nd rfl rfl (sw_true rfl rfl rfl (by decide +kernel)) (own := [("at", 12)]) (d_ir1 rfl x.n_range (d_acons (d_c pe_int (fun _ => .int _)) (d_anil))) (blkOk_by (N := N__add_block) (sc := defScope st__add_block) (by decide +kernel)) (by decide) (fun _ _ _ _ _ => pg_name (i := 12) nd rfl (Or.inl rfl)) (fun _ _ _ _ _ => d_tnil) (fun _ _ _ _ _ => d_call (ok_number_of x) (hr.mono (by decide)) rfl x.g_number_of x.d_number_of.kp x.b_number_of .nil (fun _ => .nil) tk_0 (d_acons (d_var (pv 1)) (d_acons (d_bin o_mul (d_c pe_int (fun _ => .int _)) (d_var (pv 12))) (d_acons (d_c pe_int (fun _ => .int _)) (d_anil))))))
      (d_cons (d_asgM (d_var (pv 0)) (gm_q rfl rfl (gms_cons (gm_name (pg_name (i := 3) nd rfl (Or.inl rfl))) (gms_cons (gm_name (pg_name (i := 4) nd rfl (Or.inl rfl))) (gms_cons (gm_name (pg_name (i := 5) nd rfl (Or.inl rfl))) (gms_cons (gm_name (pg_name (i := 6) nd rfl (Or.inl rfl))) (gms_nil)))))))
      (d_cons (d_for rfl (passes_of rfl) rfl (d_ir1 rfl x.n_range (d_acons (d_c pe_int (fun _ => .int _)) (d_anil))) (pg_name (i := 7) nd rfl (Or.inl rfl))
      (d_cons (d_asgM (d_call (ok__mix x) (hr.mono (by decide)) rfl x.g__mix x.d__mix.kp x.b__mix .nil (fun _ => .nil) (tk_of tk) (d_acons (d_var (pv 7)) (d_acons (d_var (pv 4)) (d_acons (d_var (pv 5)) (d_acons (d_var (pv 6)) (d_anil)))))) (gm_q rfl rfl (gms_cons (gm_name (pg_name (i := 8) nd rfl (Or.inl rfl))) (gms_cons (gm_name (pg_name (i := 9) nd rfl (Or.inl rfl))) (gms_nil)))))
      (d_cons (d_set (i := 10) nd rfl (Or.inl rfl) (d_bin o_and (d_bin o_add (d_bin o_add (d_bin o_add (d_var (pv 3)) (d_var (pv 8))) (d_ix rfl (d_glob rfl x.g_CONSTANTS (v := .ref (He.ga K "CONSTANTS")) rfl x.t_CONSTANTS) (d_var (pv 7)) (fun _ _ => rfl))) (d_ix rfl (d_var (pv 2)) (d_var (pv 9)) (fun _ _ => rfl))) (d_glob rfl x.i_MASK.choose_spec (v := .int 4294967295) ⟨_, rfl⟩ (fun _ => .int _))))
      (d_cons (d_set (i := 11) nd rfl (Or.inl rfl) (d_ix rfl (d_glob rfl x.g_ROTATIONS (v := .ref (He.ga K "ROTATIONS")) rfl x.t_ROTATIONS) (d_bin o_add (d_bin o_mul (d_bin o_div (d_var (pv 7)) (d_c pe_int (fun _ => .int _))) (d_c pe_int (fun _ => .int _))) (d_bin o_mod (d_var (pv 7)) (d_c pe_int (fun _ => .int _)))) (fun _ _ => rfl)))
      (d_cons (d_set (i := 10) nd rfl (Or.inl rfl) (d_bin o_and (d_bin o_or (d_bin o_shl (d_var (pv 10)) (d_var (pv 11))) (d_bin o_shr (d_var (pv 10)) (d_bin o_sub (d_c pe_int (fun _ => .int _)) (d_var (pv 11))))) (d_glob rfl x.i_MASK.choose_spec (v := .int 4294967295) ⟨_, rfl⟩ (fun _ => .int _))))
      (d_one1 (d_asgM (d_tup (d_acons (d_var (pv 6)) (d_acons (d_bin o_and (d_bin o_add (d_var (pv 4)) (d_var (pv 10))) (d_glob rfl x.i_MASK.choose_spec (v := .int 4294967295) ⟨_, rfl⟩ (fun _ => .int _))) (d_acons (d_var (pv 4)) (d_acons (d_var (pv 5)) (d_anil)))))) (gm_q rfl rfl (gms_cons (gm_name (pg_name (i := 3) nd rfl (Or.inl rfl))) (gms_cons (gm_name (pg_name (i := 4) nd rfl (Or.inl rfl))) (gms_cons (gm_name (pg_name (i := 5) nd rfl (Or.inl rfl))) (gms_cons (gm_name (pg_name (i := 6) nd rfl (Or.inl rfl))) (gms_nil)))))))))))))
      (d_one1 (d_ret (d_lcF rfl rfl nd (own := [("old", 13), ("new", 14)]) (d_izp rfl rfl x.n_zip (d_acons (d_var (pv 0)) (d_acons (d_lst (d_acons (d_var (pv 3)) (d_acons (d_var (pv 4)) (d_acons (d_var (pv 5)) (d_acons (d_var (pv 6)) (d_anil)))))) (d_anil)))) (blkOk_by (N := N__add_block) (sc := defScope st__add_block) (by decide +kernel)) (by decide) (fun _ _ _ _ _ => pg_tup rfl (pgs_cons (pg_name (i := 13) nd rfl (Or.inl rfl)) (pgs_cons (pg_name (i := 14) nd rfl (Or.inl rfl)) (pgs_nil)))) (fun _ _ _ _ _ => d_tnil) (fun _ _ _ _ _ => d_bin o_and (d_bin o_add (d_var (pv 13)) (d_var (pv 14))) (d_glob rfl x.i_MASK.choose_spec (v := .int 4294967295) ⟨_, rfl⟩ (fun _ => .int _))))))))
theorem sc__add_blocks : FnScope N__add_blocks P__add_blocks (defScope st__add_blocks) := ⟨rfl, rfl, rfl, by decide +kernel, rfl, by decide +kernel, by decide +kernel⟩
theorem ok__add_blocks (x : Fx K mg) : FnOk P w K mg base (L2.CX P w) 3 (He.fAd K ("_add_blocks", none)) (fdOf K (He.fAd K ("_add_blocks", none))) P__add_blocks (spF (cK K) 2 F__add_blocks) := by
  have nd := sc__add_blocks.nd
  exact fn_TD (N := N__add_blocks) (ps := P__add_blocks) (body := b__add_blocks) x.d__add_blocks sc__add_blocks fun cdv A outer s H E hr tk => d_cons (d_set (i := 2) nd rfl (Or.inl rfl) (d_c pe_int (fun _ => .int _)))
      (d_cons (d_while (passes_of rfl) (d_tcmp o_le (d_bin o_add (d_var (pv 2)) (d_c pe_int (fun _ => .int _))) (d_cb (k_len rfl) rfl x.n_len bb_len (d_acons (d_var (pv 1)) (d_anil))) (nomark _))
      (d_cons (d_set (i := 0) nd rfl (Or.inl rfl) (d_call (ok__add_block x) (hr.mono (by decide)) rfl x.g__add_block x.d__add_block.kp x.b__add_block .nil (fun _ => .nil) (tk_of tk) (d_acons (d_var (pv 0)) (d_acons (d_sl rfl (d_var (pv 1)) (d_osome (d_var (pv 2))) (d_osome (d_bin o_add (d_var (pv 2)) (d_c pe_int (fun _ => .int _))))) (d_anil)))))
      (d_one1 (d_aug (i := 2) nd rfl (Or.inl rfl) (d_c pe_int (fun _ => .int _)) i_add))))
      (d_one1 (d_ret (d_tup (d_acons (d_var (pv 0)) (d_acons (d_sl rfl (d_var (pv 1)) (d_osome (d_var (pv 2))) (d_onone)) (d_anil)))))))
theorem sc_Md5_digest : FnScope N_Md5_digest P_Md5_digest (defScope st_Md5_digest) := ⟨rfl, rfl, rfl, by decide +kernel, rfl, by decide +kernel, by decide +kernel⟩
theorem ok_Md5_digest (x : Fx K mg) : FnOk P w K mg base (L2.CX P w) 4 (He.fAd K ("Md5", some "digest")) (fdOf K (He.fAd K ("Md5", some "digest"))) P_Md5_digest (spF (cK K) 1 F_Md5_digest) := by
  have nd := sc_Md5_digest.nd
  exact fn_RD (N := N_Md5_digest) (ps := P_Md5_digest) (body := b_Md5_digest) x.d_Md5_digest sc_Md5_digest fun cdv A outer s H E hr tk => d_cons (d_set (i := 1) nd rfl (Or.inl rfl) (d_bin o_add (d_lst (d_acons (d_c pe_int (fun _ => .int _)) (d_anil))) (d_bin o_mul (d_lst (d_acons (d_c pe_int (fun _ => .int _)) (d_anil))) (d_bin o_mod (d_bin o_sub (d_c pe_int (fun _ => .int _)) (d_fld rfl x.tbk_length (d_var (pv 0)) rfl)) (d_c pe_int (fun _ => .int _))))))
      (d_cons (d_set (i := 2) nd rfl (Or.inl rfl) (d_bin o_add (d_bin o_add (d_fld rfl x.tbk_tail (d_var (pv 0)) rfl) (d_var (pv 1))) (d_call (ok_bytes_of x) (hr.mono (by decide)) rfl x.g_bytes_of x.d_bytes_of.kp x.b_bytes_of .nil (fun _ => .nil) (tk_of tk) (d_acons (d_bin o_mul (d_c pe_int (fun _ => .int _)) (d_fld rfl x.tbk_length (d_var (pv 0)) rfl)) (d_acons (d_c pe_int (fun _ => .int _)) (d_anil))))))
      (d_cons (d_asgM (d_call (ok__add_blocks x) (hr.mono (by decide)) rfl x.g__add_blocks x.d__add_blocks.kp x.b__add_blocks .nil (fun _ => .nil) (tk_of tk) (d_acons (d_fld rfl x.tbk_state (d_var (pv 0)) rfl) (d_acons (d_var (pv 2)) (d_anil)))) (gm_q rfl rfl (gms_cons (gm_name (pg_name (i := 3) nd rfl (Or.inl rfl))) (gms_cons (gm_name (pg_name (i := 4) nd rfl (Or.inl rfl))) (gms_nil)))))
      (d_one1 (d_ret (d_lc2K (.inl rfl) rfl rfl nd (own := [("word", 5), ("byte", 6)]) (d_iv rfl (d_var (pv 3))) (blkOk_by (N := N_Md5_digest) (sc := defScope st_Md5_digest) (by decide +kernel)) (by decide) (by decide) (by decide) (fun _ _ _ _ _ => pg_name (i := 5) nd rfl (Or.inl rfl)) (fun _ _ _ _ _ => d_tnil) (fun _ _ _ _ _ => d_iv rfl (d_call (ok_bytes_of x) (hr.mono (by decide)) rfl x.g_bytes_of x.d_bytes_of.kp x.b_bytes_of .nil (fun _ => .nil) tk_0 (d_acons (d_var (pv 5)) (d_acons (d_c pe_int (fun _ => .int _)) (d_anil))))) (fun _ _ _ _ _ => pg_name (i := 6) nd rfl (Or.inl rfl)) (fun _ _ _ _ _ => d_tnil) (fun _ _ _ _ _ => d_var (pv 6)))))))
theorem sc_Md5_feed : FnScope N_Md5_feed P_Md5_feed (defScope st_Md5_feed) := ⟨rfl, rfl, rfl, by decide +kernel, rfl, by decide +kernel, by decide +kernel⟩
theorem ok_Md5_feed (x : Fx K mg) : FnOk P w K mg base (L2.CX P w) 4 (He.fAd K ("Md5", some "feed")) (fdOf K (He.fAd K ("Md5", some "feed"))) P_Md5_feed (spF (cK K) 2 F_Md5_feed) := by
  have nd := sc_Md5_feed.nd
  exact fn_TD (N := N_Md5_feed) (ps := P_Md5_feed) (body := b_Md5_feed) x.d_Md5_feed sc_Md5_feed fun cdv A outer s H E hr tk => d_cons (d_fldA rfl x.tbk_length (d_var (pv 0)) (d_cb (k_len rfl) rfl x.n_len bb_len (d_acons (d_var (pv 1)) (d_anil))) i_add)
      (d_one1 (d_asgM (d_call (ok__add_blocks x) (hr.mono (by decide)) rfl x.g__add_blocks x.d__add_blocks.kp x.b__add_blocks .nil (fun _ => .nil) (tk_of tk) (d_acons (d_fld rfl x.tbk_state (d_var (pv 0)) rfl) (d_acons (d_bin o_add (d_fld rfl x.tbk_tail (d_var (pv 0)) rfl) (d_var (pv 1))) (d_anil)))) (gm_q rfl rfl (gms_cons (gm_attr rfl x.tbk_state (pv 0)) (gms_cons (gm_attr rfl x.tbk_tail (pv 0)) (gms_nil))))))
theorem sc_Md5___init__ : FnScope N_Md5___init__ P_Md5___init__ (defScope st_Md5___init__) := ⟨rfl, rfl, rfl, by decide +kernel, rfl, by decide +kernel, by decide +kernel⟩
theorem ok_Md5___init__ (x : Fx K mg) : FnOk P w K mg base (L2.CX P w) 1 (He.fAd K ("Md5", some "__init__")) (fdOf K (He.fAd K ("Md5", some "__init__"))) P_Md5___init__ (spF (cK K) 1 F_Md5___init__) := by
  have nd := sc_Md5___init__.nd
  exact fn_TD (N := N_Md5___init__) (ps := P_Md5___init__) (body := b_Md5___init__) x.d_Md5___init__ sc_Md5___init__ fun cdv A outer s H E hr tk => d_cons (d_fldS rfl x.tbk_state (d_var (pv 0)) (d_lst (d_acons (d_c pe_int (fun _ => .int _)) (d_acons (d_c pe_int (fun _ => .int _)) (d_acons (d_c pe_int (fun _ => .int _)) (d_acons (d_c pe_int (fun _ => .int _)) (d_anil)))))) rfl)
      (d_cons (d_fldS rfl x.tbk_tail (d_var (pv 0)) (d_lst (d_anil)) rfl)
      (d_one1 (d_fldS rfl x.tbk_length (d_var (pv 0)) (d_c pe_int (fun _ => .int _)) rfl)))
theorem sc_md5 : FnScope N_md5 P_md5 (defScope st_md5) := ⟨rfl, rfl, rfl, by decide +kernel, rfl, by decide +kernel, by decide +kernel⟩
theorem ok_md5 (x : Fx K mg) : FnOk P w K mg base (L2.CX P w) 5 (He.fAd K ("md5", none)) (fdOf K (He.fAd K ("md5", none))) P_md5 (spF (cK K) 1 F_md5) := by
  have nd := sc_md5.nd
  exact fn_RD (N := N_md5) (ps := P_md5) (body := b_md5) x.d_md5 sc_md5 fun cdv A outer s H E hr tk => d_cons (d_set (i := 1) nd rfl (Or.inl rfl) (d_makeK0 (cl := 0) x.mk_Md5 (ok_Md5___init__ x) rfl (hr.mono (by decide)) rfl x.g_Md5 x.b_Md5___init__ .nil (fun _ => .nil)))
      (d_cons (d_drop (d_meth (cl := 0) (d_var (pv 1)) rfl x.c_Md5 x.m_Md5_feed (show ("feed" : Str) ∉ (["state", "tail", "length"] : List Str) from by decide +kernel) (ok_Md5_feed x) (hr.mono (by decide)) x.b_Md5_feed .nil (fun _ => .nil) (tk_of tk) (d_acons (d_var (pv 0)) (d_anil))))
      (d_one1 (d_ret (d_meth0 (cl := 0) (d_var (pv 1)) rfl x.c_Md5 x.m_Md5_digest (show ("digest" : Str) ∉ (["state", "tail", "length"] : List Str) from by decide +kernel) (ok_Md5_digest x) (hr.mono (by decide)) x.b_Md5_digest .nil (fun _ => .nil) (tk_of tk)))))
theorem sc__law_asked : FnScope N__law_asked P__law_asked (defScope st__law_asked) := ⟨rfl, rfl, rfl, by decide +kernel, rfl, by decide +kernel, by decide +kernel⟩
theorem ok__law_asked (x : Fx K mg) : FnOk P w K mg base (L2.CX P w) 6 (He.fAd K ("_law_asked", none)) (fdOf K (He.fAd K ("_law_asked", none))) P__law_asked (spF (cK K) 2 F__law_asked) := by
  have nd := sc__law_asked.nd
  exact fn_TD (N := N__law_asked) (ps := P__law_asked) (body := b__law_asked) x.d__law_asked sc__law_asked fun cdv A outer s H E hr tk => d_cons (d_set (i := 2) nd rfl (Or.inl rfl) (d_meth0 (cl := 0) (d_var (pv 0)) rfl x.c_Md5 x.m_Md5_digest (show ("digest" : Str) ∉ (["state", "tail", "length"] : List Str) from by decide +kernel) (ok_Md5_digest x) (hr.mono (by decide)) x.b_Md5_digest .nil (fun _ => .nil) (tk_of tk)))
      (d_cons (d_set (i := 3) nd rfl (Or.inl rfl) (d_call (ok_md5 x) (hr.mono (by decide)) rfl x.g_md5 x.d_md5.kp x.b_md5 .nil (fun _ => .nil) (tk_of tk) (d_acons (d_cty (k_list rfl) rfl x.n_list bb_list (d_acons (d_var (pv 1)) (d_anil))) (d_anil))))
      (d_cons (d_if (d_pw (d_or (d_tcmp (o_ne rfl hr.units) (d_cb (k_len rfl) rfl x.n_len bb_len (d_acons (d_var (pv 3)) (d_anil))) (d_c pe_int (fun _ => .int _)) (nomark _)) (d_or1 (d_not (d_tru rfl (d_call (ok__law_same x) (hr.mono (by decide)) rfl x.g__law_same x.d__law_same.kp x.b__law_same .nil (fun _ => .nil) (tk_of tk) (d_acons (d_var (pv 2)) (d_acons (d_var (pv 3)) (d_anil)))) (fun _ => rfl))))))
      (d_one1 (d_ret (d_c pe_bl (fun _ => .bl _))))
      (d_nil))
      (d_cons (d_drop (d_app rfl (d_var (pv 2)) (d_c pe_int (fun _ => .int _))))
      (d_one1 (d_ret (d_call (ok__law_same x) (hr.mono (by decide)) rfl x.g__law_same x.d__law_same.kp x.b__law_same .nil (fun _ => .nil) (tk_of tk) (d_acons (d_meth0 (cl := 0) (d_var (pv 0)) rfl x.c_Md5 x.m_Md5_digest (show ("digest" : Str) ∉ (["state", "tail", "length"] : List Str) from by decide +kernel) (ok_Md5_digest x) (hr.mono (by decide)) x.b_Md5_digest .nil (fun _ => .nil) (tk_of tk)) (d_acons (d_var (pv 3)) (d_anil)))))))))
theorem sc__law_draw : FnScope N__law_draw P__law_draw (defScope st__law_draw) := ⟨rfl, rfl, rfl, by decide +kernel, rfl, by decide +kernel, by decide +kernel⟩
theorem ok__law_draw (x : Fx K mg) : FnOk P w K mg base (L2.CX P w) 1 (He.fAd K ("_law_draw", none)) (fdOf K (He.fAd K ("_law_draw", none))) P__law_draw (spF (cK K) 3 F__law_draw) := by
  have nd := sc__law_draw.nd
  exact fn_TD (N := N__law_draw) (ps := P__law_draw) (body := b__law_draw) x.d__law_draw sc__law_draw fun cdv A outer s H E hr tk => d_cons (d_set (i := 3) nd rfl (Or.inl rfl) (d_lst (d_anil)))
      (d_cons (d_if (d_tcmp o_ge (d_var (pv 0)) (d_bin o_pow (d_c pe_int (fun _ => .int _)) (d_c pe_int (fun _ => .int _))) (nomark _))
      (d_cons (d_for rfl (passes_of rfl) rfl (d_ir1 rfl x.n_range (d_acons (d_var (pv 1)) (d_anil))) (pg_name (i := 4) nd rfl (Or.inl rfl))
      (d_cons (d_drop (d_app rfl (d_var (pv 3)) (d_bin o_mod (d_cty k_int rfl x.n_int bb_int (d_acons (d_var (pv 0)) (d_anil))) (d_var (pv 2)))))
      (d_one1 (d_set (i := 0) nd rfl (Or.inl rfl) (d_bin o_div (d_var (pv 0)) (d_var (pv 2)))))))
      (d_one1 (d_ret (d_frz (d_var (pv 3))))))
      (d_nil))
      (d_cons (d_set (i := 5) nd rfl (Or.inl rfl) (d_bin o_mod (d_cty k_int rfl x.n_int bb_int (d_acons (d_var (pv 0)) (d_anil))) (d_c pe_int (fun _ => .int _))))
      (d_cons (d_for rfl (passes_of rfl) rfl (d_ir1 rfl x.n_range (d_acons (d_var (pv 1)) (d_anil))) (pg_name (i := 4) nd rfl (Or.inl rfl))
      (d_cons (d_set (i := 5) nd rfl (Or.inl rfl) (d_bin o_mod (d_cty k_int rfl x.n_int bb_int (d_acons (d_bin o_add (d_bin o_add (d_bin o_mul (d_var (pv 5)) (d_c pe_int (fun _ => .int _))) (d_c pe_int (fun _ => .int _))) (d_var (pv 4))) (d_anil))) (d_c pe_int (fun _ => .int _))))
      (d_cons (d_set (i := 6) nd rfl (Or.inl rfl) (d_bin o_mod (d_cty k_int rfl x.n_int bb_int (d_acons (d_bin o_add (d_bin o_mul (d_var (pv 5)) (d_c pe_int (fun _ => .int _))) (d_bin o_mul (d_c pe_int (fun _ => .int _)) (d_var (pv 4)))) (d_anil))) (d_c pe_int (fun _ => .int _))))
      (d_one1 (d_drop (d_app rfl (d_var (pv 3)) (d_bin o_mod (d_cty k_int rfl x.n_int bb_int (d_acons (d_bin o_div (d_var (pv 6)) (d_c pe_int (fun _ => .int _))) (d_anil))) (d_var (pv 2)))))))))
      (d_one1 (d_ret (d_frz (d_var (pv 3))))))))
theorem sc__law_part : FnScope N__law_part P__law_part (defScope st__law_part) := ⟨rfl, rfl, rfl, by decide +kernel, rfl, by decide +kernel, by decide +kernel⟩
theorem ok__law_part (x : Fx K mg) : FnOk P w K mg base (L2.CX P w) 2 (He.fAd K ("_law_part", none)) (fdOf K (He.fAd K ("_law_part", none))) P__law_part (spF (cK K) 1 F__law_part) := by
  have nd := sc__law_part.nd
  exact fn_TD (N := N__law_part) (ps := P__law_part) (body := b__law_part) x.d__law_part sc__law_part fun cdv A outer s H E hr tk => d_cons (d_set (i := 1) nd rfl (Or.inl rfl) (d_call (ok__law_draw x) (hr.mono (by decide)) rfl x.g__law_draw x.d__law_draw.kp x.b__law_draw .nil (fun _ => .nil) (tk_of tk) (d_acons (d_var (pv 0)) (d_acons (d_c pe_int (fun _ => .int _)) (d_acons (d_bin o_shl (d_c pe_int (fun _ => .int _)) (d_c pe_int (fun _ => .int _))) (d_anil))))))
      (d_cons (d_set (i := 2) nd rfl (Or.inl rfl) (d_bin o_mod (d_ix rfl (d_var (pv 1)) (d_c pe_int (fun _ => .int _)) (fun _ _ => rfl)) (d_c pe_int (fun _ => .int _))))
      (d_cons (d_if (d_tcmp (o_eq rfl hr.units) (d_bin o_mod (d_bin o_div (d_ix rfl (d_var (pv 1)) (d_c pe_int (fun _ => .int _)) (fun _ _ => rfl)) (d_c pe_int (fun _ => .int _))) (d_c pe_int (fun _ => .int _))) (d_c pe_int (fun _ => .int _)) (nomark _))
      (d_one1 (d_set (i := 2) nd rfl (Or.inl rfl) (d_bin o_mod (d_ix rfl (d_var (pv 1)) (d_c pe_int (fun _ => .int _)) (fun _ _ => rfl)) (d_c pe_int (fun _ => .int _)))))
      (d_nil))
      (d_one1 (d_ret (d_tup (d_acons (d_var (pv 1)) (d_acons (d_call (ok__law_draw x) (hr.mono (by decide)) rfl x.g__law_draw x.d__law_draw.kp x.b__law_draw .nil (fun _ => .nil) (tk_of tk) (d_acons (d_bin o_add (d_var (pv 0)) (d_c pe_int (fun _ => .int _))) (d_acons (d_var (pv 2)) (d_acons (d_c pe_int (fun _ => .int _)) (d_anil))))) (d_anil))))))))
theorem sc_law : FnScope N_law P_law (defScope st_law) := ⟨rfl, rfl, rfl, by decide +kernel, rfl, by decide +kernel, by decide +kernel⟩
theorem ok_law (x : Fx K mg) : FnOk P w K mg base (L2.CX P w) 7 (He.fAd K ("law", none)) (fdOf K (He.fAd K ("law", none))) P_law (spF (cK K) 1 F_law) := by
  have nd := sc_law.nd
  exact fn_TD (N := N_law) (ps := P_law) (body := b_law) x.d_law sc_law fun cdv A outer s H E hr tk => d_cons (d_set (i := 1) nd rfl (Or.inl rfl) (d_lsc (d_acons (d_makeK0 (cl := 0) x.mk_Md5 (ok_Md5___init__ x) rfl (hr.mono (by decide)) rfl x.g_Md5 x.b_Md5___init__ .nil (fun _ => .nil)) (d_acons (d_makeK0 (cl := 0) x.mk_Md5 (ok_Md5___init__ x) rfl (hr.mono (by decide)) rfl x.g_Md5 x.b_Md5___init__ .nil (fun _ => .nil)) (d_anil)))))
      (d_cons (d_set (i := 2) nd rfl (Or.inl rfl) (d_lst (d_acons (d_lst (d_anil)) (d_acons (d_lst (d_anil)) (d_anil)))))
      (d_cons (d_for rfl (passes_of rfl) rfl (d_iv rfl (d_sl rfl (d_var (pv 0)) (d_onone) (d_osome (d_c pe_int (fun _ => .int _))))) (pg_name (i := 3) nd rfl (Or.inl rfl))
      (d_cons (d_asgM (d_call (ok__law_part x) (hr.mono (by decide)) rfl x.g__law_part x.d__law_part.kp x.b__law_part .nil (fun _ => .nil) (tk_of tk) (d_acons (d_var (pv 3)) (d_anil))) (gm_q rfl rfl (gms_cons (gm_name (pg_name (i := 4) nd rfl (Or.inl rfl))) (gms_cons (gm_name (pg_name (i := 5) nd rfl (Or.inl rfl))) (gms_nil)))))
      (d_cons (d_set (i := 6) nd rfl (Or.inl rfl) (d_bin o_mod (d_ix rfl (d_var (pv 4)) (d_c pe_int (fun _ => .int _)) (fun _ _ => rfl)) (d_c pe_int (fun _ => .int _))))
      (d_cons (d_set (i := 7) nd rfl (Or.inl rfl) (d_cty (k_list rfl) rfl x.n_list bb_list (d_acons (d_var (pv 5)) (d_anil))))
      (d_cons (d_if (d_pw (d_or (d_tcmp o_notN (d_meth (cl := 0) (d_ix rfl (d_var (pv 1)) (d_var (pv 6)) (fun _ _ => rfl)) rfl x.c_Md5 x.m_Md5_feed (show ("feed" : Str) ∉ (["state", "tail", "length"] : List Str) from by decide +kernel) (ok_Md5_feed x) (hr.mono (by decide)) x.b_Md5_feed .nil (fun _ => .nil) (tk_of tk) (d_acons (d_var (pv 7)) (d_anil))) (d_c pe_non (fun _ => .non)) (nomark _)) (d_or1 (d_tcmp (o_ne rfl hr.units) (d_var (pv 7)) (d_var (pv 5)) (nomark _)))))
      (d_one1 (d_ret (d_c pe_bl (fun _ => .bl _))))
      (d_nil))
      (d_cons (d_drop (d_app rfl (d_var (pv 7)) (d_c pe_int (fun _ => .int _))))
      (d_cons (d_ixS (d_var (pv 2)) (d_var (pv 6)) (d_bin o_add (d_ix rfl (d_var (pv 2)) (d_var (pv 6)) (fun _ _ => rfl)) (d_var (pv 5))))
      (d_one1 (d_if (d_pw (d_and (d_tcmp (o_eq rfl hr.units) (d_bin o_mod (d_bin o_div (d_ix rfl (d_var (pv 4)) (d_c pe_int (fun _ => .int _)) (fun _ _ => rfl)) (d_c pe_int (fun _ => .int _))) (d_c pe_int (fun _ => .int _))) (d_c pe_int (fun _ => .int _)) (nomark _)) (d_and1 (d_not (d_tru rfl (d_call (ok__law_asked x) (hr.mono (by decide)) rfl x.g__law_asked x.d__law_asked.kp x.b__law_asked .nil (fun _ => .nil) (tk_of tk) (d_acons (d_ix rfl (d_var (pv 1)) (d_var (pv 6)) (fun _ _ => rfl)) (d_acons (d_ix rfl (d_var (pv 2)) (d_var (pv 6)) (fun _ _ => rfl)) (d_anil)))) (fun _ => rfl))))))
      (d_one1 (d_ret (d_c pe_bl (fun _ => .bl _))))
      (d_nil))))))))))
      (d_frzS (d_one1 (d_ret (d_andV (d_call (ok__law_asked x) (hr.mono (by decide)) rfl x.g__law_asked x.d__law_asked.kp x.b__law_asked .nil (fun _ => .nil) (tk_of tk) (d_acons (d_ix rfl (d_var (pv 1)) (d_c pe_int (fun _ => .int _)) (fun _ _ => rfl)) (d_acons (d_ix rfl (d_var (pv 2)) (d_c pe_int (fun _ => .int _)) (fun _ _ => rfl)) (d_anil)))) (d_one (d_call (ok__law_asked x) (hr.mono (by decide)) rfl x.g__law_asked x.d__law_asked.kp x.b__law_asked .nil (fun _ => .nil) (tk_of tk) (d_acons (d_ix rfl (d_var (pv 1)) (d_c pe_int (fun _ => .int _)) (fun _ _ => rfl)) (d_acons (d_ix rfl (d_var (pv 2)) (d_c pe_int (fun _ => .int _)) (fun _ _ => rfl)) (d_anil)))))))))))
end
def dd__law_is_integer : He.DefD := ⟨("_law_is_integer", none), "_law_is_integer", "_law_is_integer", defArgs st__law_is_integer, defBody st__law_is_integer, defScope st__law_is_integer, [], []⟩
def dd__law_same : He.DefD := ⟨("_law_same", none), "_law_same", "_law_same", defArgs st__law_same, defBody st__law_same, defScope st__law_same, [], []⟩
def dd_bytes_of : He.DefD := ⟨("bytes_of", none), "bytes_of", "bytes_of", defArgs st_bytes_of, defBody st_bytes_of, defScope st_bytes_of, [], []⟩
def dd__mix : He.DefD := ⟨("_mix", none), "_mix", "_mix", defArgs st__mix, defBody st__mix, defScope st__mix, [], []⟩
def dd_number_of : He.DefD := ⟨("number_of", none), "number_of", "number_of", defArgs st_number_of, defBody st_number_of, defScope st_number_of, [], []⟩
def dd__add_block : He.DefD := ⟨("_add_block", none), "_add_block", "_add_block", defArgs st__add_block, defBody st__add_block, defScope st__add_block, [], []⟩
def dd__add_blocks : He.DefD := ⟨("_add_blocks", none), "_add_blocks", "_add_blocks", defArgs st__add_blocks, defBody st__add_blocks, defScope st__add_blocks, [], []⟩
def dd_Md5_digest : He.DefD := ⟨("Md5", some "digest"), "digest", "Md5.digest", defArgs st_Md5_digest, defBody st_Md5_digest, defScope st_Md5_digest, [], []⟩
def dd_Md5_feed : He.DefD := ⟨("Md5", some "feed"), "feed", "Md5.feed", defArgs st_Md5_feed, defBody st_Md5_feed, defScope st_Md5_feed, [], []⟩
def dd_Md5___init__ : He.DefD := ⟨("Md5", some "__init__"), "__init__", "Md5.__init__", defArgs st_Md5___init__, defBody st_Md5___init__, defScope st_Md5___init__, [], []⟩
def dd_md5 : He.DefD := ⟨("md5", none), "md5", "md5", defArgs st_md5, defBody st_md5, defScope st_md5, [], []⟩
def dd__law_asked : He.DefD := ⟨("_law_asked", none), "_law_asked", "_law_asked", defArgs st__law_asked, defBody st__law_asked, defScope st__law_asked, [], []⟩
def dd__law_draw : He.DefD := ⟨("_law_draw", none), "_law_draw", "_law_draw", defArgs st__law_draw, defBody st__law_draw, defScope st__law_draw, [], []⟩
def dd__law_part : He.DefD := ⟨("_law_part", none), "_law_part", "_law_part", defArgs st__law_part, defBody st__law_part, defScope st__law_part, [], []⟩
def dd_law : He.DefD := ⟨("law", none), "law", "law", defArgs st_law, defBody st_law, defScope st_law, [], []⟩
def fn : List He.DefD := [dd__law_is_integer, dd__law_same, dd_bytes_of, dd__mix, dd_number_of, dd__add_block, dd__add_blocks, dd_Md5_digest, dd_Md5_feed, dd_Md5___init__, dd_md5, dd__law_asked, dd__law_draw, dd__law_part, dd_law]
def fa : List He.Fa := [.glo "law", .free "range", .free "len", .free "isinstance", .free "int", .free "bool", .glo "_law_is_integer", .free "list", .glo "_law_same", .glo "bytes_of", .free "zip", .int "MASK" 4294967295, .glo "ROTATIONS", .glo "CONSTANTS", .glo "_mix", .glo "number_of", .glo "_add_block", .glo "_add_blocks", .cls "Md5", .noat "Md5" "state", .noat "Md5" "tail", .noat "Md5" "length", .meth "Md5" "digest", .meth "Md5" "feed", .glo "Md5", .mkr "Md5", .glo "md5", .glo "_law_asked", .glo "_law_draw", .glo "_law_part"]
def tt : List (Str × List He.Dv) := [("ROTATIONS", [.int 7, .int 12, .int 17, .int 22, .int 5, .int 9, .int 14, .int 20, .int 4, .int 11, .int 16, .int 23, .int 6, .int 10, .int 15, .int 21]), ("CONSTANTS", [.int 3614090360, .int 3905402710, .int 606105819, .int 3250441966, .int 4118548399, .int 1200080426, .int 2821735955, .int 4249261313, .int 1770035416, .int 2336552879, .int 4294925233, .int 2304563134, .int 1804603682, .int 4254626195, .int 2792965006, .int 1236535329, .int 4129170786, .int 3225465664, .int 643717713, .int 3921069994, .int 3593408605, .int 38016083, .int 3634488961, .int 3889429448, .int 568446438, .int 3275163606, .int 4107603335, .int 1163531501, .int 2850285829, .int 4243563512, .int 1735328473, .int 2368359562, .int 4294588738, .int 2272392833, .int 1839030562, .int 4259657740, .int 2763975236, .int 1272893353, .int 4139469664, .int 3200236656, .int 681279174, .int 3936430074, .int 3572445317, .int 76029189, .int 3654602809, .int 3873151461, .int 530742520, .int 3299628645, .int 4096336452, .int 1126891415, .int 2878612391, .int 4237533241, .int 1700485571, .int 2399980690, .int 4293915773, .int 2240044497, .int 1873313359, .int 4264355552, .int 2734768916, .int 1309151649, .int 4149444226, .int 3174756917, .int 718787259, .int 3951481745])]
def qq (K : PySem.W.Frag) : Bool := tt.all fun t => He.tupB K t.1 t.2
abbrev R : PySem.W.OpenRow := PySem.W.OpenLaw.row PySem.Challenge.rw_monochord_k08_digests_in_parts
abbrev hk : PySem.W.Hook := hookX 5 fa fn qq
def ob (s : PySem.W.SharedT) : AlX := obsXG 5 fa fn qq (HandSHeadRun.getT s)
theorem ob_eq (s : PySem.W.SharedT) : ob s = hk.obs s.abs := obsXG_eq (HandSHeadRun.getT_eq s)
theorem mkFx {K : PySem.W.Frag} {h : Heap} {mg : Str → Option Value} (X : K.In h) (G : h.Ns mainGlobals mg) (z : obsX fa fn qq K = (He.valD fn, true)) : Fx K mg := by
  have c := saysD z
  have q : (tt.all fun t => He.tupB K t.1 t.2) = true := saysQ z
  exact ⟨He.glo_ok X G (c.fact 0 rfl),
    He.free_ok X G (c.fact 1 rfl),
    He.free_ok X G (c.fact 2 rfl),
    He.free_ok X G (c.fact 3 rfl),
    He.free_ok X G (c.fact 4 rfl),
    He.free_ok X G (c.fact 5 rfl),
    He.glo_ok X G (c.fact 6 rfl),
    He.free_ok X G (c.fact 7 rfl),
    He.glo_ok X G (c.fact 8 rfl),
    He.glo_ok X G (c.fact 9 rfl),
    He.free_ok X G (c.fact 10 rfl),
    He.int_ok X G (c.fact 11 rfl),
    He.glo_ok X G (c.fact 12 rfl),
    He.glo_ok X G (c.fact 13 rfl),
    He.glo_ok X G (c.fact 14 rfl),
    He.glo_ok X G (c.fact 15 rfl),
    He.glo_ok X G (c.fact 16 rfl),
    He.glo_ok X G (c.fact 17 rfl),
    He.cls_ok (c.fact 18 rfl),
    He.noat_ok (c.fact 19 rfl),
    He.noat_ok (c.fact 20 rfl),
    He.noat_ok (c.fact 21 rfl),
    He.meth_ok (c.fact 22 rfl),
    He.meth_ok (c.fact 23 rfl),
    He.glo_ok X G (c.fact 24 rfl),
    He.mkr_ok (c.fact 25 rfl),
    He.glo_ok X G (c.fact 26 rfl),
    He.glo_ok X G (c.fact 27 rfl),
    He.glo_ok X G (c.fact 28 rfl),
    He.glo_ok X G (c.fact 29 rfl),
    fun Z => R.tup (He.tupB_ok (List.all_eq_true.mp q (_, _) (List.mem_of_getElem? (i := 0) rfl)) Z) (rs_flat rfl (by decide +kernel)),
    fun Z => R.tup (He.tupB_ok (List.all_eq_true.mp q (_, _) (List.mem_of_getElem? (i := 1) rfl)) Z) (rs_flat rfl (by decide +kernel)),
    fdOf_ok (c.def_ 0 (d := dd__law_is_integer) rfl),
    fdOf_ok (c.def_ 1 (d := dd__law_same) rfl),
    fdOf_ok (c.def_ 2 (d := dd_bytes_of) rfl),
    fdOf_ok (c.def_ 3 (d := dd__mix) rfl),
    fdOf_ok (c.def_ 4 (d := dd_number_of) rfl),
    fdOf_ok (c.def_ 5 (d := dd__add_block) rfl),
    fdOf_ok (c.def_ 6 (d := dd__add_blocks) rfl),
    fdOf_ok (c.def_ 7 (d := dd_Md5_digest) rfl),
    fdOf_ok (c.def_ 8 (d := dd_Md5_feed) rfl),
    fdOf_ok (c.def_ 9 (d := dd_Md5___init__) rfl),
    fdOf_ok (c.def_ 10 (d := dd_md5) rfl),
    fdOf_ok (c.def_ 11 (d := dd__law_asked) rfl),
    fdOf_ok (c.def_ 12 (d := dd__law_draw) rfl),
    fdOf_ok (c.def_ 13 (d := dd__law_part) rfl),
    fdOf_ok (c.def_ 14 (d := dd_law) rfl)⟩
end Lk08

namespace Mo
open PySem L2 PyProof.Rows
/-! ### stepping -/
section
variable {ε α β : Type}
theorem bind_ok (a : α) (k : α → Res ε β) : (Res.ok a : Res ε α).bind k = k a := (rfl)
theorem bind_exc (e : ε) (k : α → Res ε β) : (Res.exc e : Res ε α).bind k = .exc e := (rfl)
theorem bind_bad (k : α → Res ε β) : (Res.bad : Res ε α).bind k = .bad := (rfl)
theorem lift_ok (env : En) (a : α) : lift env (.ok a) = .ok a := (rfl)
theorem lift_exc (env : En) (e : Ex) : lift env (.exc e : Res Ex α) = .exc (e, env) := (rfl)
theorem lift_bad (env : En) : lift env (.bad : Res Ex α) = .bad := (rfl)
theorem opt_some (a : α) : (Res.opt (some a) : Res ε α) = .ok a := (rfl)
theorem opt_none : (Res.opt none : Res ε α) = .bad := (rfl)
theorem get_top (M l : List α) (k : Nat) : (M ++ l)[M.length + k]? = l[k]? := by
  rw [List.getElem?_append_right (Nat.le_add_right _ _), Nat.add_sub_cancel_left]
theorem get_top0 (M l : List α) : (M ++ l)[M.length]? = l[0]? := get_top M l 0
theorem set_top (M l : List α) (k : Nat) (x : α) : (M ++ l).set (M.length + k) x = M ++ l.set k x := by
  rw [List.set_append_right _ _ (Nat.le_add_right _ _), Nat.add_sub_cancel_left]
theorem set_top0 (M l : List α) (x : α) : (M ++ l).set M.length x = M ++ l.set 0 x := set_top M l 0 x
theorem take_topk (M l : List α) (k : Nat) : (M ++ l).take (M.length + k) = M ++ l.take k := by rw [List.take_append, List.take_of_length_le (by omega), Nat.add_sub_cancel_left]
theorem take_top (M l : List α) : (M ++ l).take M.length = M := by simp
end
theorem atI_get {α : Type} {xs : List α} {i : Int} {v : α} (h0 : 0 ≤ i) (h : xs[i.toNat]? = some v) : atI xs i = some v := by
  have := atI_nat h
  rwa [Int.toNat_of_nonneg h0] at this
theorem atI_ints {ns : List Int} {i : Int} (h0 : 0 ≤ i) (h1 : i < ns.length) : atI (ns.map D.int) i = some (.int (ns.getD i.toNat 0)) := by
  have hi : i.toNat < ns.length := by omega
  exact atI_get h0 (by simp [hi])
/-! ### first-order stepping -/
def opR (r : Op2) (eb : EvE) (b : Nat) (env : En) (x : Res Ex (Vl × Store)) : Res Ex (Vl × Store) := x.bind fun q => (eb b env q.2).bind fun u => Res.opt (r q.1 u.1 u.2)
def opR2 (r : Op2) (x : Vl) (y : Res Ex (Vl × Store)) : Res Ex (Vl × Store) := y.bind fun u => Res.opt (r x u.1 u.2)
theorem p_op {r : Op2} {ea eb : EvE} {b : Nat} {env : En} {M : Store} : eOp r ea eb b env M = opR r eb b env (ea b env M) := (rfl)
theorem p_op1 {r : Op2} {eb : EvE} {x : Vl} {b : Nat} {env : En} {M : Store} : opR r eb b env (.ok (x, M)) = opR2 r x (eb b env M) := (rfl)
theorem p_op1e {r : Op2} {eb : EvE} {e : Ex} {b : Nat} {env : En} : opR r eb b env (.exc e) = .exc e := (rfl)
theorem p_op2 {r : Op2} {x y : Vl} {M : Store} : opR2 r x (.ok (y, M)) = Res.opt (r x y M) := (rfl)
theorem p_op2e {r : Op2} {x : Vl} {e : Ex} : opR2 r x (.exc e) = .exc e := (rfl)
def unR (r : Op1) (x : Res Ex (Vl × Store)) : Res Ex (Vl × Store) := x.bind fun q => Res.opt (r q.1 q.2)
theorem p_un {r : Op1} {ea : EvE} {b : Nat} {env : En} {M : Store} : eUn r ea b env M = unR r (ea b env M) := (rfl)
theorem p_un1 {r : Op1} {x : Vl} {M : Store} : unR r (.ok (x, M)) = Res.opt (r x M) := (rfl)
def varR (o : Option (Option Vl)) (M : Store) : Res Ex (Vl × Store) := match o with
  | some (some x) => .ok (x, M)
  | _ => .bad
theorem p_var {i : Nat} {b : Nat} {env : En} {M : Store} : eVar i b env M = varR env[i]? M := (rfl)
theorem p_var1 {x : Vl} {M : Store} : varR (some (some x)) M = .ok (x, M) := (rfl)
theorem p_c {x : D} {b : Nat} {env : En} {M : Store} : eC x b env M = .ok (.d x, M) := (rfl)
def testR (x : Res Ex (Vl × Store)) : Res Ex (Bool × Store) := x.bind fun q => match q.1 with
  | .d (.bl k) => .ok (k, q.2)
  | _ => .bad
theorem p_test {e : EvE} {b : Nat} {env : En} {M : Store} : eTest e b env M = testR (e b env M) := (rfl)
theorem p_test1 {k : Bool} {M : Store} : testR (.ok (.d (.bl k), M)) = .ok (k, M) := (rfl)
theorem p_test2 {e : Ex} : testR (.exc e) = .exc e := (rfl)
def andR (u : EvT) (b : Nat) (env : En) (x : Res Ex (Bool × Store)) : Res Ex (Bool × Store) := x.bind fun q => if q.1 = true then u b env q.2 else .ok (false, q.2)
theorem p_and {s u : EvT} {b : Nat} {env : En} {M : Store} : eAnd s u b env M = andR u b env (s b env M) := (rfl)
theorem p_andT {u : EvT} {b : Nat} {env : En} {M : Store} : andR u b env (.ok (true, M)) = u b env M := (rfl)
theorem p_andF {u : EvT} {b : Nat} {env : En} {M : Store} : andR u b env (.ok (false, M)) = .ok (false, M) := (rfl)
def orR (u : EvT) (b : Nat) (env : En) (x : Res Ex (Bool × Store)) : Res Ex (Bool × Store) := x.bind fun q => if q.1 = true then .ok (true, q.2) else u b env q.2
theorem p_or {s u : EvT} {b : Nat} {env : En} {M : Store} : eOr s u b env M = orR u b env (s b env M) := (rfl)
theorem p_orT {u : EvT} {b : Nat} {env : En} {M : Store} : orR u b env (.ok (true, M)) = .ok (true, M) := (rfl)
theorem p_orF {u : EvT} {b : Nat} {env : En} {M : Store} : orR u b env (.ok (false, M)) = u b env M := (rfl)
def notR (x : Res Ex (Bool × Store)) : Res Ex (Bool × Store) := x.bind fun q => .ok (!q.1, q.2)
theorem p_not {s : EvT} {b : Nat} {env : En} {M : Store} : eNot s b env M = notR (s b env M) := (rfl)
theorem p_not1 {k : Bool} {M : Store} : notR (.ok (k, M)) = .ok (!k, M) := (rfl)
def truR (x : Res Ex (Vl × Store)) : Res Ex (Bool × Store) := x.bind fun q => match truO q.2 q.1 with
  | some k => .ok (k, q.2)
  | none => .bad
theorem p_tru {e : EvE} {b : Nat} {env : En} {M : Store} : eTru e b env M = truR (e b env M) := (rfl)
theorem p_truB {k : Bool} {M : Store} : truR (.ok (.d (.bl k), M)) = .ok (k, M) := (rfl)
theorem p_truI {k : Int} {M : Store} : truR (.ok (.d (.int k), M)) = .ok (k != 0, M) := (rfl)
theorem p_truN {M : Store} : truR (.ok (.d .non, M)) = .ok (false, M) := (rfl)
theorem p_truL {xs : List D} {M : Store} : truR (.ok (.d (.lst xs), M)) = .ok (!xs.isEmpty, M) := (rfl)
def andVR (eb : EvE) (b : Nat) (env : En) (x : Res Ex (Vl × Store)) : Res Ex (Vl × Store) := x.bind fun q => match q.1 with
  | .d (.bl true) => eb b env q.2
  | .d (.bl false) => .ok (.d (.bl false), q.2)
  | _ => .bad
theorem p_andV {ea eb : EvE} {b : Nat} {env : En} {M : Store} : eAndV ea eb b env M = andVR eb b env (ea b env M) := (rfl)
theorem p_andVT {eb : EvE} {b : Nat} {env : En} {M : Store} : andVR eb b env (.ok (.d (.bl true), M)) = eb b env M := (rfl)
theorem p_andVF {eb : EvE} {b : Nat} {env : En} {M : Store} : andVR eb b env (.ok (.d (.bl false), M)) = .ok (.d (.bl false), M) := (rfl)
def orVR (eb : EvE) (b : Nat) (env : En) (x : Res Ex (Vl × Store)) : Res Ex (Vl × Store) := x.bind fun q => match q.1 with
  | .d (.bl false) => eb b env q.2
  | .d (.bl true) => .ok (.d (.bl true), q.2)
  | _ => .bad
theorem p_orV {ea eb : EvE} {b : Nat} {env : En} {M : Store} : eOrV ea eb b env M = orVR eb b env (ea b env M) := (rfl)
theorem p_orVT {eb : EvE} {b : Nat} {env : En} {M : Store} : orVR eb b env (.ok (.d (.bl true), M)) = .ok (.d (.bl true), M) := (rfl)
theorem p_orVF {eb : EvE} {b : Nat} {env : En} {M : Store} : orVR eb b env (.ok (.d (.bl false), M)) = eb b env M := (rfl)
def notVR (x : Res Ex (Vl × Store)) : Res Ex (Vl × Store) := x.bind fun q => match q.1 with
  | .d (.bl k) => .ok (.d (.bl (!k)), q.2)
  | _ => .bad
theorem p_notV {ea : EvE} {b : Nat} {env : En} {M : Store} : eNotV ea b env M = notVR (ea b env M) := (rfl)
theorem p_notV1 {k : Bool} {M : Store} : notVR (.ok (.d (.bl k), M)) = .ok (.d (.bl (!k)), M) := (rfl)
def ifeR (ea eb : EvE) (b : Nat) (env : En) (x : Res Ex (Bool × Store)) : Res Ex (Vl × Store) := x.bind fun q => if q.1 = true then ea b env q.2 else eb b env q.2
theorem p_ife {s : EvT} {ea eb : EvE} {b : Nat} {env : En} {M : Store} : eIf s ea eb b env M = ifeR ea eb b env (s b env M) := (rfl)
theorem p_ifeT {ea eb : EvE} {b : Nat} {env : En} {M : Store} : ifeR ea eb b env (.ok (true, M)) = ea b env M := (rfl)
theorem p_ifeF {ea eb : EvE} {b : Nat} {env : En} {M : Store} : ifeR ea eb b env (.ok (false, M)) = eb b env M := (rfl)
def chR (r r2 : Op2) (eb ec : EvE) (b : Nat) (env : En) (x : Res Ex (Vl × Store)) : Res Ex (Vl × Store) := x.bind fun q => (eb b env q.2).bind fun u => match r q.1 u.1 u.2 with
  | some (.d (.bl true), M1) => (ec b env M1).bind fun w => Res.opt (r2 u.1 w.1 w.2)
  | some (.d (.bl false), M1) => .ok (.d (.bl false), M1)
  | _ => .bad
def chR2 (r r2 : Op2) (ec : EvE) (b : Nat) (env : En) (x : Vl) (y : Res Ex (Vl × Store)) : Res Ex (Vl × Store) := y.bind fun u => match r x u.1 u.2 with
  | some (.d (.bl true), M1) => (ec b env M1).bind fun w => Res.opt (r2 u.1 w.1 w.2)
  | some (.d (.bl false), M1) => .ok (.d (.bl false), M1)
  | _ => .bad
def chR3 (r2 : Op2) (ec : EvE) (b : Nat) (env : En) (y : Vl) (o : Option (Vl × Store)) : Res Ex (Vl × Store) := match o with
  | some (.d (.bl true), M1) => opR2 r2 y (ec b env M1)
  | some (.d (.bl false), M1) => .ok (.d (.bl false), M1)
  | _ => .bad
theorem p_ch {r r2 : Op2} {ea eb ec : EvE} {b : Nat} {env : En} {M : Store} : eChain r r2 ea eb ec b env M = chR r r2 eb ec b env (ea b env M) := (rfl)
theorem p_ch1 {r r2 : Op2} {eb ec : EvE} {x : Vl} {b : Nat} {env : En} {M : Store} : chR r r2 eb ec b env (.ok (x, M)) = chR2 r r2 ec b env x (eb b env M) := (rfl)
theorem p_ch2 {r r2 : Op2} {ec : EvE} {x y : Vl} {b : Nat} {env : En} {M : Store} : chR2 r r2 ec b env x (.ok (y, M)) = chR3 r2 ec b env y (r x y M) := (rfl)
theorem p_ch3 {r2 : Op2} {ec : EvE} {y : Vl} {b : Nat} {env : En} {M : Store} : chR3 r2 ec b env y (some (.d (.bl true), M)) = opR2 r2 y (ec b env M) := (rfl)
theorem p_ch4 {r2 : Op2} {ec : EvE} {y : Vl} {b : Nat} {env : En} {M : Store} : chR3 r2 ec b env y (some (.d (.bl false), M)) = .ok (.d (.bl false), M) := (rfl)
def acR (r : EvA) (b : Nat) (env : En) (x : Res Ex (Vl × Store)) : Res Ex (List Vl × Store) := x.bind fun q => (r b env q.2).bind fun u => .ok (q.1 :: u.1, u.2)
def acR2 (x : Vl) (y : Res Ex (List Vl × Store)) : Res Ex (List Vl × Store) := y.bind fun u => .ok (x :: u.1, u.2)
theorem p_an {b : Nat} {env : En} {M : Store} : aNil b env M = .ok ([], M) := (rfl)
theorem p_ac {e : EvE} {r : EvA} {b : Nat} {env : En} {M : Store} : aCons e r b env M = acR r b env (e b env M) := (rfl)
theorem p_ac1 {r : EvA} {x : Vl} {b : Nat} {env : En} {M : Store} : acR r b env (.ok (x, M)) = acR2 x (r b env M) := (rfl)
theorem p_ac1e {r : EvA} {e : Ex} {b : Nat} {env : En} : acR r b env (.exc e) = .exc e := (rfl)
theorem p_ac2 {x : Vl} {xs : List Vl} {M : Store} : acR2 x (.ok (xs, M)) = .ok (x :: xs, M) := (rfl)
theorem p_ac2e {x : Vl} {e : Ex} : acR2 x (.exc e) = .exc e := (rfl)
def lstR (own : Bool) (x : Res Ex (List Vl × Store)) : Res Ex (Vl × Store) := x.bind fun q => match ds? q.1 with
  | some ds => if ds.length ≤ LIM then .ok (mkL own ds q.2) else .bad
  | none => .bad
def lstO (own : Bool) (o : Option (List D)) (M : Store) : Res Ex (Vl × Store) := match o with
  | some ds => if ds.length ≤ LIM then .ok (mkL own ds M) else .bad
  | none => .bad
theorem p_lst {own : Bool} {r : EvA} {b : Nat} {env : En} {M : Store} : eLst own r b env M = lstR own (r b env M) := (rfl)
theorem p_lst1 {own : Bool} {xs : List Vl} {M : Store} : lstR own (.ok (xs, M)) = lstO own (ds? xs) M := (rfl)
theorem p_lst2 {own : Bool} {xs : List D} {M : Store} : lstO own (some xs) M = if xs.length ≤ LIM then .ok (mkL own xs M) else .bad := (rfl)
def tupR (x : Res Ex (List Vl × Store)) : Res Ex (Vl × Store) := x.bind fun q => match ds? q.1 with
  | some ds => if ds.length ≤ LIM then .ok (.d (.tup ds), q.2) else .bad
  | none => .bad
def tupO (o : Option (List D)) (M : Store) : Res Ex (Vl × Store) := match o with
  | some ds => if ds.length ≤ LIM then .ok (.d (.tup ds), M) else .bad
  | none => .bad
theorem p_tup {r : EvA} {b : Nat} {env : En} {M : Store} : eTup r b env M = tupR (r b env M) := (rfl)
theorem p_tup1 {xs : List Vl} {M : Store} : tupR (.ok (xs, M)) = tupO (ds? xs) M := (rfl)
theorem p_tup2 {xs : List D} {M : Store} : tupO (some xs) M = if xs.length ≤ LIM then .ok (.d (.tup xs), M) else .bad := (rfl)
def lscR (x : Res Ex (List Vl × Store)) : Res Ex (Vl × Store) := x.bind fun q => if q.1.length ≤ LIM then .ok (.c q.2.length, q.2 ++ [some (.lsc q.1)]) else .bad
theorem p_lsc {r : EvA} {b : Nat} {env : En} {M : Store} : eLsc r b env M = lscR (r b env M) := (rfl)
theorem p_lsc1 {xs : List Vl} {M : Store} : lscR (.ok (xs, M)) = if xs.length ≤ LIM then .ok (.c M.length, M ++ [some (.lsc xs)]) else .bad := (rfl)
def cbR (r : OpN) (x : Res Ex (List Vl × Store)) : Res Ex (Vl × Store) := x.bind fun q => Res.opt (r q.1 q.2)
theorem p_cb {r : OpN} {a : EvA} {b : Nat} {env : En} {M : Store} : eCB r a b env M = cbR r (a b env M) := (rfl)
theorem p_cb1 {r : OpN} {xs : List Vl} {M : Store} : cbR r (.ok (xs, M)) = Res.opt (r xs M) := (rfl)
theorem p_cb1e {r : OpN} {e : Ex} : cbR r (.exc e) = .exc e := (rfl)
def callR (F : EvF) (ds : List D) (b : Nat) (x : Res Ex (List Vl × Store)) : Res Ex (Vl × Store) := x.bind fun q => F (q.1 ++ ds.map .d) b q.2
theorem p_call {F : EvF} {a : EvA} {ds : List D} {b : Nat} {env : En} {M : Store} : eCall F a ds b env M = callR F ds b (a b env M) := (rfl)
theorem p_call1 {F : EvF} {ds : List D} {b : Nat} {xs : List Vl} {M : Store} : callR F ds b (.ok (xs, M)) = F (xs ++ ds.map .d) b M := (rfl)
theorem p_call1e {F : EvF} {ds : List D} {b : Nat} {e : Ex} : callR F ds b (.exc e) = .exc e := (rfl)
def methR (k : Nat) (F : EvF) (a : EvA) (ds : List D) (b : Nat) (env : En) (x : Res Ex (Vl × Store)) : Res Ex (Vl × Store) := x.bind fun q => if clsV q.1 q.2 = some k then (a b env q.2).bind fun u => F (q.1 :: (u.1 ++ ds.map .d)) b u.2 else .bad
def methR2 (F : EvF) (ds : List D) (b : Nat) (x : Vl) (y : Res Ex (List Vl × Store)) : Res Ex (Vl × Store) := y.bind fun u => F (x :: (u.1 ++ ds.map .d)) b u.2
theorem p_meth {k : Nat} {F : EvF} {eo : EvE} {a : EvA} {ds : List D} {b : Nat} {env : En} {M : Store} : eMeth k F eo a ds b env M = methR k F a ds b env (eo b env M) := (rfl)
theorem p_meth1 {k : Nat} {F : EvF} {a : EvA} {ds : List D} {x : Vl} {b : Nat} {env : En} {M : Store} : methR k F a ds b env (.ok (x, M)) = if clsV x M = some k then methR2 F ds b x (a b env M) else .bad := (rfl)
theorem p_meth2 {F : EvF} {ds : List D} {b : Nat} {x : Vl} {xs : List Vl} {M : Store} : methR2 F ds b x (.ok (xs, M)) = F (x :: (xs ++ ds.map .d)) b M := (rfl)
theorem p_meth2e {F : EvF} {ds : List D} {b : Nat} {x : Vl} {e : Ex} : methR2 F ds b x (.exc e) = .exc e := (rfl)
def bmR (f : OpM) (a : EvA) (b : Nat) (env : En) (x : Res Ex (Vl × Store)) : Res Ex (Vl × Store) := x.bind fun q => if isLc q.1 q.2 = true then (a b env q.2).bind fun u => Res.opt (f b q.1 u.1 u.2) else .bad
def bmR2 (f : OpM) (b : Nat) (x : Vl) (y : Res Ex (List Vl × Store)) : Res Ex (Vl × Store) := y.bind fun u => Res.opt (f b x u.1 u.2)
theorem p_bm {f : OpM} {eo : EvE} {a : EvA} {b : Nat} {env : En} {M : Store} : eBM f eo a b env M = bmR f a b env (eo b env M) := (rfl)
theorem p_bm1 {f : OpM} {a : EvA} {x : Vl} {b : Nat} {env : En} {M : Store} : bmR f a b env (.ok (x, M)) = if isLc x M = true then bmR2 f b x (a b env M) else .bad := (rfl)
theorem p_bm2 {f : OpM} {b : Nat} {x : Vl} {xs : List Vl} {M : Store} : bmR2 f b x (.ok (xs, M)) = Res.opt (f b x xs M) := (rfl)
def fldR (tb : Tb) (x : Res Ex (Vl × Store)) : Res Ex (Vl × Store) := x.bind fun q => match fldO tb q.1 q.2 with
  | some u => .ok (u, q.2)
  | none => .bad
def optM (o : Option Vl) (M : Store) : Res Ex (Vl × Store) := match o with
  | some u => .ok (u, M)
  | none => .bad
theorem p_fld {tb : Tb} {e : EvE} {b : Nat} {env : En} {M : Store} : eFld tb e b env M = fldR tb (e b env M) := (rfl)
theorem p_fld1 {tb : Tb} {x : Vl} {M : Store} : fldR tb (.ok (x, M)) = optM (fldO tb x M) M := (rfl)
theorem p_fld2 {x : Vl} {M : Store} : optM (some x) M = .ok (x, M) := (rfl)
def frzR (x : Res Ex (Vl × Store)) : Res Ex (Vl × Store) := x.bind fun q => match frzD q.2 q.1 with
  | some (d, M2) => .ok (.d d, M2)
  | none => .bad
def optF (o : Option (D × Store)) : Res Ex (Vl × Store) := match o with
  | some (d, M2) => .ok (.d d, M2)
  | none => .bad
theorem p_frz {e : EvE} {b : Nat} {env : En} {M : Store} : eFrz e b env M = frzR (e b env M) := (rfl)
theorem p_frz1 {x : Vl} {M : Store} : frzR (.ok (x, M)) = optF (frzD M x) := (rfl)
theorem p_frz2 {d : D} {M : Store} : optF (some (d, M)) = .ok (.d d, M) := (rfl)
def isiR (T : String) (x : Res Ex (Vl × Store)) : Res Ex (Vl × Store) := x.bind fun q => match tyN q.2 q.1 with
  | some a => (match kitB a T with
    | some k => .ok (.d (.bl k), q.2)
    | none => .bad)
  | none => .bad
theorem p_isi {T : String} {e : EvE} {b : Nat} {env : En} {M : Store} : eIsi T e b env M = isiR T (e b env M) := (rfl)
theorem p_isiII {i : Int} {M : Store} : isiR "int" (.ok (.d (.int i), M)) = .ok (.d (.bl true), M) := (rfl)
theorem p_isiBI {i : Int} {M : Store} : isiR "bool" (.ok (.d (.int i), M)) = .ok (.d (.bl false), M) := (rfl)
theorem p_isiLI {i : Int} {M : Store} : isiR "list" (.ok (.d (.int i), M)) = .ok (.d (.bl false), M) := (rfl)
theorem p_isiIB {i : Bool} {M : Store} : isiR "int" (.ok (.d (.bl i), M)) = .ok (.d (.bl true), M) := (rfl)
theorem p_isiBB {i : Bool} {M : Store} : isiR "bool" (.ok (.d (.bl i), M)) = .ok (.d (.bl true), M) := (rfl)
theorem p_isiLL {i : List D} {M : Store} : isiR "list" (.ok (.d (.lst i), M)) = .ok (.d (.bl true), M) := (rfl)
theorem p_isiTT {i : List D} {M : Store} : isiR "tuple" (.ok (.d (.tup i), M)) = .ok (.d (.bl true), M) := (rfl)
theorem p_isiBN {M : Store} : isiR "bool" (.ok (.d .non, M)) = .ok (.d (.bl false), M) := (rfl)
theorem p_isiBS {s : Str} {M : Store} : isiR "bool" (.ok (.d (.str s), M)) = .ok (.d (.bl false), M) := (rfl)
theorem p_isiBL {i : List D} {M : Store} : isiR "bool" (.ok (.d (.lst i), M)) = .ok (.d (.bl false), M) := (rfl)
theorem p_isiC {k : Nat} {xs : List D} {M : Store} (h : M[k]? = some (some (.lst xs))) : isiR "list" (.ok (.c k, M)) = .ok (.d (.bl true), M) := by
  show (match tyN M (.c k) with
  | some a => (match kitB a "list" with
    | some k => .ok (.d (.bl k), M)
    | none => .bad)
  | none => .bad : Res Ex (Vl × Store)) = _
  unfold tyN
  simp only [h]
  rfl
def slR (own : Bool) (lo hi : EvO) (b : Nat) (env : En) (x : Res Ex (Vl × Store)) : Res Ex (Vl × Store) := x.bind fun q => (lo b env q.2).bind fun u => (hi b env u.2).bind fun w => Res.opt (oSl own q.1 u.1 w.1 w.2)
def slR2 (own : Bool) (hi : EvO) (b : Nat) (env : En) (x : Vl) (y : Res Ex (Option Int × Store)) : Res Ex (Vl × Store) := y.bind fun u => (hi b env u.2).bind fun w => Res.opt (oSl own x u.1 w.1 w.2)
def slR3 (own : Bool) (x : Vl) (lo : Option Int) (y : Res Ex (Option Int × Store)) : Res Ex (Vl × Store) := y.bind fun w => Res.opt (oSl own x lo w.1 w.2)
def soR (x : Res Ex (Vl × Store)) : Res Ex (Option Int × Store) := x.bind fun q => match q.1 with
  | .d (.int i) => .ok (some i, q.2)
  | _ => .bad
theorem p_sl {own : Bool} {e : EvE} {lo hi : EvO} {b : Nat} {env : En} {M : Store} : eSl own e lo hi b env M = slR own lo hi b env (e b env M) := (rfl)
theorem p_sl1 {own : Bool} {lo hi : EvO} {x : Vl} {b : Nat} {env : En} {M : Store} : slR own lo hi b env (.ok (x, M)) = slR2 own hi b env x (lo b env M) := (rfl)
theorem p_sl2 {own : Bool} {hi : EvO} {x : Vl} {lo : Option Int} {b : Nat} {env : En} {M : Store} : slR2 own hi b env x (.ok (lo, M)) = slR3 own x lo (hi b env M) := (rfl)
theorem p_sl3 {own : Bool} {x : Vl} {lo hi : Option Int} {M : Store} : slR3 own x lo (.ok (hi, M)) = Res.opt (oSl own x lo hi M) := (rfl)
theorem p_on {b : Nat} {env : En} {M : Store} : oNone b env M = .ok (none, M) := (rfl)
theorem p_os {e : EvE} {b : Nat} {env : En} {M : Store} : oSome e b env M = soR (e b env M) := (rfl)
theorem p_os1 {i : Int} {M : Store} : soR (.ok (.d (.int i), M)) = .ok (some i, M) := (rfl)
def mkKR (cl m : Nat) (F : EvF) (ds : List D) (b : Nat) (x : Res Ex (List Vl × Store)) : Res Ex (Vl × Store) := x.bind fun q => match F (.c q.2.length :: (q.1 ++ ds.map .d)) b (q.2 ++ [some (.ins cl (List.replicate m (.d .no)))]) with
  | .ok (.d .non, M2) => .ok (.c q.2.length, M2)
  | _ => .bad
def mkKO (k : Nat) (r : Res Ex (Vl × Store)) : Res Ex (Vl × Store) := match r with
  | .ok (.d .non, M2) => .ok (.c k, M2)
  | _ => .bad
theorem p_mkK {cl m : Nat} {F : EvF} {a : EvA} {ds : List D} {b : Nat} {env : En} {M : Store} : eMakeK cl m F a ds b env M = mkKR cl m F ds b (a b env M) := (rfl)
theorem p_mkK1 {cl m : Nat} {F : EvF} {ds : List D} {b : Nat} {xs : List Vl} {M : Store} : mkKR cl m F ds b (.ok (xs, M)) = mkKO M.length (F (.c M.length :: (xs ++ ds.map .d)) b (M ++ [some (.ins cl (List.replicate m (.d .no)))])) := (rfl)
theorem p_mkK2 {k : Nat} {M : Store} : mkKO k (.ok (.d .non, M)) = .ok (.c k, M) := (rfl)
def mkFO (n : Nat) (r : Res Ex (Vl × Store)) : Res Ex (Vl × Store) := match r with
  | .ok (.d .non, M2) => (match M2[n]? with
    | some (some (.ins k fs)) => (match ds? fs with
      | some gs => .ok (.d (.ins k gs), M2.take n)
      | none => .bad)
    | _ => .bad)
  | _ => .bad
def mkFR (cl m : Nat) (F : EvF) (ds : List D) (x : Res Ex (List Vl × Store)) : Res Ex (Vl × Store) := x.bind fun q => mkFO q.2.length (F (.c q.2.length :: (q.1 ++ ds.map .d)) q.2.length (q.2 ++ [some (.ins cl (List.replicate m (.d .no)))]))
theorem p_mkF {cl m : Nat} {F : EvF} {a : EvA} {ds : List D} {b : Nat} {env : En} {M : Store} : eMakeF cl m F a ds b env M = mkFR cl m F ds (a b env M) := (rfl)
theorem p_mkF1 {cl m : Nat} {F : EvF} {ds : List D} {xs : List Vl} {M : Store} : mkFR cl m F ds (.ok (xs, M)) = mkFO M.length (F (.c M.length :: (xs ++ ds.map .d)) M.length (M ++ [some (.ins cl (List.replicate m (.d .no)))])) := (rfl)
theorem p_mkF2 {k cl : Nat} {fs : List Vl} {gs : List D} {M M2 : Store} (h : ds? fs = some gs) : mkFO M.length (.ok (.d .non, M ++ some (.ins cl fs) :: M2)) = .ok (.d (.ins cl gs), M) := by
  unfold mkFO
  simp [h]
def seqR (s : EvS) (b : Nat) (x : RS) : RS := x.bind fun q => match q.1 with
  | .nx => s b q.2.1 q.2.2
  | f => .ok (f, q.2.1, q.2.2)
theorem p_seq {s u : EvS} {b : Nat} {env : En} {M : Store} : sSeq s u b env M = seqR u b (s b env M) := (rfl)
theorem p_seqN {u : EvS} {b : Nat} {env : En} {M : Store} : seqR u b (.ok (.nx, env, M)) = u b env M := (rfl)
theorem p_seqR {u : EvS} {x : Vl} {b : Nat} {env : En} {M : Store} : seqR u b (.ok (.rt x, env, M)) = .ok (.rt x, env, M) := (rfl)
theorem p_seqB {u : EvS} {b : Nat} {env : En} {M : Store} : seqR u b (.ok (.bk, env, M)) = .ok (.bk, env, M) := (rfl)
theorem p_seqC {u : EvS} {b : Nat} {env : En} {M : Store} : seqR u b (.ok (.ct, env, M)) = .ok (.ct, env, M) := (rfl)
theorem p_seqE {u : EvS} {e : Ex × En} {b : Nat} : seqR u b (.exc e) = .exc e := (rfl)
theorem p_nil {b : Nat} {env : En} {M : Store} : sNil b env M = .ok (.nx, env, M) := (rfl)
theorem p_brk {b : Nat} {env : En} {M : Store} : sBrk b env M = .ok (.bk, env, M) := (rfl)
theorem p_cnt {b : Nat} {env : En} {M : Store} : sCnt b env M = .ok (.ct, env, M) := (rfl)
def retR (env : En) (x : Res Ex (Vl × Store)) : RS := (lift env x).bind fun q => .ok (.rt q.1, env, q.2)
theorem p_ret {e : EvE} {b : Nat} {env : En} {M : Store} : sRet e b env M = retR env (e b env M) := (rfl)
theorem p_ret1 {x : Vl} {env : En} {M : Store} : retR env (.ok (x, M)) = .ok (.rt x, env, M) := (rfl)
theorem p_ret1e {env : En} {e : Ex} : retR env (.exc e) = .exc (e, env) := (rfl)
theorem p_retN {b : Nat} {env : En} {M : Store} : sRetN b env M = .ok (.rt (.d .non), env, M) := (rfl)
def dropR (env : En) (x : Res Ex (Vl × Store)) : RS := (lift env x).bind fun q => .ok (.nx, env, q.2)
theorem p_drop {e : EvE} {b : Nat} {env : En} {M : Store} : sDrop e b env M = dropR env (e b env M) := (rfl)
theorem p_drop1 {x : Vl} {env : En} {M : Store} : dropR env (.ok (x, M)) = .ok (.nx, env, M) := (rfl)
theorem p_drop1e {env : En} {e : Ex} : dropR env (.exc e) = .exc (e, env) := (rfl)
def ifR (s u : EvS) (b : Nat) (env : En) (x : Res Ex (Bool × Store)) : RS := (lift env x).bind fun q => if q.1 = true then s b env q.2 else u b env q.2
theorem p_if {e : EvT} {s u : EvS} {b : Nat} {env : En} {M : Store} : sIf e s u b env M = ifR s u b env (e b env M) := (rfl)
theorem p_ifT {s u : EvS} {b : Nat} {env : En} {M : Store} : ifR s u b env (.ok (true, M)) = s b env M := (rfl)
theorem p_ifF {s u : EvS} {b : Nat} {env : En} {M : Store} : ifR s u b env (.ok (false, M)) = u b env M := (rfl)
theorem p_ifE {s u : EvS} {e : Ex} {b : Nat} {env : En} : ifR s u b env (.exc e) = .exc (e, env) := (rfl)
def asgR (g : EvG) (env : En) (x : Res Ex (Vl × Store)) : RS := (lift env x).bind fun q => match g q.1 env with
  | some env2 => .ok (.nx, env2, q.2)
  | none => .bad
theorem p_asg {e : EvE} {i : Nat} {b : Nat} {env : En} {M : Store} : sAsg e (gN i) b env M = asgR (gN i) env (e b env M) := (rfl)
theorem p_asg1 {i : Nat} {x : Vl} {env : En} {M : Store} : asgR (gN i) env (.ok (x, M)) = .ok (.nx, env.set i (some x), M) := (rfl)
theorem p_asg1e {g : EvG} {env : En} {e : Ex} : asgR g env (.exc e) = .exc (e, env) := (rfl)
def asgMR (g : EvGM) (b : Nat) (env : En) (x : Res Ex (Vl × Store)) : RS := (lift env x).bind fun q => match g b q.1 env q.2 with
  | some r => .ok (.nx, r.1, r.2)
  | none => .bad
def asgMO (o : Option (En × Store)) : RS := match o with
  | some r => .ok (.nx, r.1, r.2)
  | none => .bad
theorem p_asgM {e : EvE} {g : EvGM} {b : Nat} {env : En} {M : Store} : sAsgM e g b env M = asgMR g b env (e b env M) := (rfl)
theorem p_asgM1 {g : EvGM} {x : Vl} {b : Nat} {env : En} {M : Store} : asgMR g b env (.ok (x, M)) = asgMO (g b x env M) := (rfl)
theorem p_asgM1e {g : EvGM} {b : Nat} {env : En} {e : Ex} : asgMR g b env (.exc e) = .exc (e, env) := (rfl)
theorem p_asgM2 {r : En × Store} : asgMO (some r) = .ok (.nx, r.1, r.2) := (rfl)
theorem p_gq {gs : List EvGM} {xs : List D} {b : Nat} {env : En} {M : Store} : gmQ gs b (.d (.tup xs)) env M = gmL gs b xs env M := (rfl)
theorem p_gq2 {gs : List EvGM} {xs : List D} {b : Nat} {env : En} {M : Store} : gmQ gs b (.d (.lst xs)) env M = gmL gs b xs env M := (rfl)
theorem p_gl0 {b : Nat} {env : En} {M : Store} : gmL [] b [] env M = some (env, M) := (rfl)
def glR (gs : List EvGM) (b : Nat) (xs : List D) (o : Option (En × Store)) : Option (En × Store) := match o with
  | some r => gmL gs b xs r.1 r.2
  | none => none
theorem p_gl1 {g : EvGM} {gs : List EvGM} {x : D} {xs : List D} {b : Nat} {env : En} {M : Store} : gmL (g :: gs) b (x :: xs) env M = glR gs b xs (g b (.d x) env M) := (rfl)
theorem p_gl2 {gs : List EvGM} {b : Nat} {xs : List D} {r : En × Store} : glR gs b xs (some r) = gmL gs b xs r.1 r.2 := (rfl)
theorem p_gn {i : Nat} {x : Vl} {b : Nat} {env : En} {M : Store} : gmN i b x env M = some (env.set i (some x), M) := (rfl)
def gaR (tb : Tb) (b : Nat) (x : Vl) (env : En) (M : Store) (o : Option (Option Vl)) : Option (En × Store) := match o with
  | some (some o) => (match stO tb b o x M with
    | some M2 => some (env, M2)
    | none => none)
  | _ => none
def gaO (env : En) (o : Option Store) : Option (En × Store) := match o with
  | some M2 => some (env, M2)
  | none => none
theorem p_ga {i : Nat} {tb : Tb} {x : Vl} {b : Nat} {env : En} {M : Store} : gmA i tb b x env M = gaR tb b x env M env[i]? := (rfl)
theorem p_ga1 {tb : Tb} {x o : Vl} {b : Nat} {env : En} {M : Store} : gaR tb b x env M (some (some o)) = gaO env (stO tb b o x M) := (rfl)
theorem p_ga2 {env : En} {M : Store} : gaO env (some M) = some (env, M) := (rfl)
def augR (i : Nat) (r : Op2) (e : EvE) (b : Nat) (env : En) (M : Store) (o : Option (Option Vl)) : RS := match o with
  | some (some x) => (lift env (e b env M)).bind fun q => match r x q.1 q.2 with
    | some (y, M2) => .ok (.nx, env.set i (some y), M2)
    | none => .bad
  | _ => .bad
def augR2 (i : Nat) (r : Op2) (env : En) (x : Vl) (y : Res Ex (Vl × Store)) : RS := (lift env y).bind fun q => match r x q.1 q.2 with
    | some (y, M2) => .ok (.nx, env.set i (some y), M2)
    | none => .bad
def augO (i : Nat) (env : En) (o : Option (Vl × Store)) : RS := match o with
    | some (y, M2) => .ok (.nx, env.set i (some y), M2)
    | none => .bad
theorem p_aug {i : Nat} {r : Op2} {e : EvE} {b : Nat} {env : En} {M : Store} : sAug i r e b env M = augR i r e b env M env[i]? := (rfl)
theorem p_aug1 {i : Nat} {r : Op2} {e : EvE} {x : Vl} {b : Nat} {env : En} {M : Store} : augR i r e b env M (some (some x)) = augR2 i r env x (e b env M) := (rfl)
theorem p_aug2 {i : Nat} {r : Op2} {x y : Vl} {env : En} {M : Store} : augR2 i r env x (.ok (y, M)) = augO i env (r x y M) := (rfl)
theorem p_aug2e {i : Nat} {r : Op2} {x : Vl} {env : En} {e : Ex} : augR2 i r env x (.exc e) = .exc (e, env) := (rfl)
theorem p_aug3 {i : Nat} {y : Vl} {env : En} {M : Store} : augO i env (some (y, M)) = .ok (.nx, env.set i (some y), M) := (rfl)
def nxM (env : En) (o : Option Store) : RS := match o with
  | some M2 => .ok (.nx, env, M2)
  | none => .bad
theorem p_nxM {env : En} {M : Store} : nxM env (some M) = .ok (.nx, env, M) := (rfl)
def fsR (tb : Tb) (eo : EvE) (b : Nat) (env : En) (x : Res Ex (Vl × Store)) : RS := (lift env x).bind fun q => (lift env (eo b env q.2)).bind fun u => nxM env (stO tb b u.1 q.1 u.2)
def fsR2 (tb : Tb) (b : Nat) (env : En) (y : Vl) (x : Res Ex (Vl × Store)) : RS := (lift env x).bind fun u => nxM env (stO tb b u.1 y u.2)
theorem p_fs {tb : Tb} {eo ev : EvE} {b : Nat} {env : En} {M : Store} : sFldS tb eo ev b env M = fsR tb eo b env (ev b env M) := (rfl)
theorem p_fs1 {tb : Tb} {eo : EvE} {x : Vl} {b : Nat} {env : En} {M : Store} : fsR tb eo b env (.ok (x, M)) = fsR2 tb b env x (eo b env M) := (rfl)
theorem p_fs1e {tb : Tb} {eo : EvE} {e : Ex} {b : Nat} {env : En} : fsR tb eo b env (.exc e) = .exc (e, env) := (rfl)
theorem p_fs2 {tb : Tb} {x y : Vl} {b : Nat} {env : En} {M : Store} : fsR2 tb b env y (.ok (x, M)) = nxM env (stO tb b x y M) := (rfl)
def faR (tb : Tb) (r : Op2) (ev : EvE) (b : Nat) (env : En) (x : Res Ex (Vl × Store)) : RS := (lift env x).bind fun q => match fldO tb q.1 q.2 with
  | some x => (lift env (ev b env q.2)).bind fun u => (match r x u.1 u.2 with
    | some (y, M1) => if clsO q.1 M1 = clsO q.1 q.2 then (match stO tb b q.1 y M1 with
      | some M2 => .ok (.nx, env, M2)
      | none => .bad) else .bad
    | none => .bad)
  | none => .bad
def faR2 (tb : Tb) (r : Op2) (b : Nat) (env : En) (o : Vl) (M : Store) (x : Vl) (y : Res Ex (Vl × Store)) : RS := (lift env y).bind fun u => (match r x u.1 u.2 with
    | some (y, M1) => if clsO o M1 = clsO o M then (match stO tb b o y M1 with
      | some M2 => .ok (.nx, env, M2)
      | none => .bad) else .bad
    | none => .bad)
def faO (tb : Tb) (r : Op2) (ev : EvE) (b : Nat) (env : En) (o : Vl) (M : Store) (x : Option Vl) : RS := match x with
  | some x => faR2 tb r b env o M x (ev b env M)
  | none => .bad
def faO2 (tb : Tb) (b : Nat) (env : En) (o : Vl) (M : Store) (x : Option (Vl × Store)) : RS := match x with
    | some (y, M1) => if clsO o M1 = clsO o M then nxM env (stO tb b o y M1) else .bad
    | none => .bad
theorem p_fa {tb : Tb} {r : Op2} {eo ev : EvE} {b : Nat} {env : En} {M : Store} : sFldA tb r eo ev b env M = faR tb r ev b env (eo b env M) := (rfl)
theorem p_fa1 {tb : Tb} {r : Op2} {ev : EvE} {x : Vl} {b : Nat} {env : En} {M : Store} : faR tb r ev b env (.ok (x, M)) = faO tb r ev b env x M (fldO tb x M) := (rfl)
theorem p_fa2 {tb : Tb} {r : Op2} {ev : EvE} {o x : Vl} {b : Nat} {env : En} {M : Store} : faO tb r ev b env o M (some x) = faR2 tb r b env o M x (ev b env M) := (rfl)
theorem p_fa3 {tb : Tb} {r : Op2} {o x y : Vl} {M2 : Store} {b : Nat} {env : En} {M : Store} : faR2 tb r b env o M x (.ok (y, M2)) = faO2 tb b env o M (r x y M2) := (rfl)
theorem p_fa3e {tb : Tb} {r : Op2} {o x : Vl} {e : Ex} {b : Nat} {env : En} {M : Store} : faR2 tb r b env o M x (.exc e) = .exc (e, env) := (rfl)
theorem p_fa4 {tb : Tb} {o y : Vl} {M2 : Store} {b : Nat} {env : En} {M : Store} : faO2 tb b env o M (some (y, M2)) = if clsO o M2 = clsO o M then nxM env (stO tb b o y M2) else .bad := (rfl)
def ixR (eo ei : EvE) (b : Nat) (env : En) (x : Res Ex (Vl × Store)) : RS := (lift env x).bind fun q => (lift env (eo b env q.2)).bind fun u => (lift env (ei b env u.2)).bind fun w => nxM env (setO b u.1 w.1 q.1 w.2)
def ixR2 (ei : EvE) (b : Nat) (env : En) (y : Vl) (x : Res Ex (Vl × Store)) : RS := (lift env x).bind fun u => (lift env (ei b env u.2)).bind fun w => nxM env (setO b u.1 w.1 y w.2)
def ixR3 (b : Nat) (env : En) (y o : Vl) (x : Res Ex (Vl × Store)) : RS := (lift env x).bind fun w => nxM env (setO b o w.1 y w.2)
theorem p_ix {eo ei ev : EvE} {b : Nat} {env : En} {M : Store} : sIxS eo ei ev b env M = ixR eo ei b env (ev b env M) := (rfl)
theorem p_ix1 {eo ei : EvE} {x : Vl} {b : Nat} {env : En} {M : Store} : ixR eo ei b env (.ok (x, M)) = ixR2 ei b env x (eo b env M) := (rfl)
theorem p_ix1e {eo ei : EvE} {e : Ex} {b : Nat} {env : En} : ixR eo ei b env (.exc e) = .exc (e, env) := (rfl)
theorem p_ix2 {ei : EvE} {x y : Vl} {b : Nat} {env : En} {M : Store} : ixR2 ei b env y (.ok (x, M)) = ixR3 b env y x (ei b env M) := (rfl)
theorem p_ix3 {x y o : Vl} {b : Nat} {env : En} {M : Store} : ixR3 b env y o (.ok (x, M)) = nxM env (setO b o x y M) := (rfl)
def sfR (i : Nat) (s : EvS) (b : Nat) (env : En) (M : Store) (o : Option (Option Vl)) : RS := match o with
  | some (some x) => (match frzD M x with
    | some (d, M2) => s b (env.set i (some (.d d))) M2
    | none => .bad)
  | _ => .bad
def sfO (i : Nat) (s : EvS) (b : Nat) (env : En) (o : Option (D × Store)) : RS := match o with
    | some (d, M2) => s b (env.set i (some (.d d))) M2
    | none => .bad
theorem p_sf {i : Nat} {s : EvS} {b : Nat} {env : En} {M : Store} : sFrz i s b env M = sfR i s b env M env[i]? := (rfl)
theorem p_sf1 {i : Nat} {s : EvS} {x : Vl} {b : Nat} {env : En} {M : Store} : sfR i s b env M (some (some x)) = sfO i s b env (frzD M x) := (rfl)
theorem p_sf2 {i : Nat} {s : EvS} {d : D} {b : Nat} {env : En} {M : Store} : sfO i s b env (some (d, M)) = s b (env.set i (some (.d d))) M := (rfl)
def forR (g : EvG) (s : EvS) (b : Nat) (env : En) (x : Res Ex (List D × Store)) : RS := (lift env x).bind fun q => forL g s q.1 b env q.2
theorem p_for {it : EvI} {tg : Tg} {s : EvS} {b : Nat} {env : En} {M : Store} : sFor it tg s b env M = forR tg.g s b env (it b env M) := (rfl)
theorem p_for1 {g : EvG} {s : EvS} {xs : List D} {b : Nat} {env : En} {M : Store} : forR g s b env (.ok (xs, M)) = forL g s xs b env M := (rfl)
def ivR (x : Res Ex (Vl × Store)) : Res Ex (List D × Store) := x.bind fun q => match itD q.1 with
  | some xs => .ok (xs, q.2)
  | none => .bad
theorem p_iv {e : EvE} {b : Nat} {env : En} {M : Store} : itV e b env M = ivR (e b env M) := (rfl)
theorem p_ivL {xs : List D} {M : Store} : ivR (.ok (.d (.lst xs), M)) = .ok (xs, M) := (rfl)
theorem p_ivK {xs : List D} {M : Store} : ivR (.ok (.d (.lck xs), M)) = .ok (xs, M) := (rfl)
theorem p_ivT {xs : List D} {M : Store} : ivR (.ok (.d (.tup xs), M)) = .ok (xs, M) := (rfl)
def r1R (x : Res Ex (List Vl × Store)) : Res Ex (List D × Store) := x.bind fun q => match q.1 with
  | [.d (.int j)] => if bnd j then .ok (rng1 0 j.toNat, q.2) else .bad
  | _ => .bad
theorem p_r1 {a : EvA} {b : Nat} {env : En} {M : Store} : itR1 a b env M = r1R (a b env M) := (rfl)
theorem p_r11 {j : Int} {M : Store} : r1R (.ok ([.d (.int j)], M)) = if bnd j then .ok (rng1 0 j.toNat, M) else .bad := (rfl)
def r2R (x : Res Ex (List Vl × Store)) : Res Ex (List D × Store) := x.bind fun q => match q.1 with
  | [.d (.int i), .d (.int j)] => if bnd i && bnd j then .ok (rng1 i (j - i).toNat, q.2) else .bad
  | _ => .bad
theorem p_r2 {a : EvA} {b : Nat} {env : En} {M : Store} : itR2 a b env M = r2R (a b env M) := (rfl)
theorem p_r21 {i j : Int} {M : Store} : r2R (.ok ([.d (.int i), .d (.int j)], M)) = if bnd i && bnd j then .ok (rng1 i (j - i).toNat, M) else .bad := (rfl)
def enR (x : Res Ex (List Vl × Store)) : Res Ex (List D × Store) := x.bind fun q => match q.1 with
  | [x] => (match frL x with
    | some xs => .ok (enumD xs, q.2)
    | none => .bad)
  | _ => .bad
theorem p_en {a : EvA} {b : Nat} {env : En} {M : Store} : itEn a b env M = enR (a b env M) := (rfl)
theorem p_en1 {xs : List D} {M : Store} : enR (.ok ([.d (.lst xs)], M)) = .ok (enumD xs, M) := (rfl)
def zpR (x : Res Ex (List Vl × Store)) : Res Ex (List D × Store) := x.bind fun q => match q.1 with
  | [x, y] => (match frL x, frL y with
    | some xs, some ys => .ok (zipD xs ys, q.2)
    | _, _ => .bad)
  | _ => .bad
theorem p_zp {a : EvA} {b : Nat} {env : En} {M : Store} : itZp a b env M = zpR (a b env M) := (rfl)
theorem p_zp1 {xs ys : List D} {M : Store} : zpR (.ok ([.d (.lst xs), .d (.lst ys)], M)) = .ok (zipD xs ys, M) := (rfl)
theorem p_tgn {i : Nat} {x : Vl} {env : En} : (Tg.n i).g x env = some (env.set i (some x)) := (rfl)
theorem p_tgt {is : List Nat} {xs : List D} {env : En} : (Tg.t is).g (.d (.tup xs)) env = gNs is xs env := (rfl)
theorem p_gs0 {env : En} : gNs [] [] env = some env := (rfl)
theorem p_gs1 {i : Nat} {is : List Nat} {x : D} {xs : List D} {env : En} : gNs (i :: is) (x :: xs) env = gNs is xs (env.set i (some (.d x))) := (rfl)
def flR (g : EvG) (s : EvS) (xs : List D) (b : Nat) (M : Store) (o : Option En) : RS := match o with
  | none => .bad
  | some env1 => (s b env1 M).bind fun u => match u.1 with
      | .nx => forL g s xs b u.2.1 u.2.2
      | .ct => forL g s xs b u.2.1 u.2.2
      | .bk => .ok (.nx, u.2.1, u.2.2)
      | .rt x => .ok (.rt x, u.2.1, u.2.2)
def flS (g : EvG) (s : EvS) (xs : List D) (b : Nat) (r : RS) : RS := r.bind fun u => match u.1 with
      | .nx => forL g s xs b u.2.1 u.2.2
      | .ct => forL g s xs b u.2.1 u.2.2
      | .bk => .ok (.nx, u.2.1, u.2.2)
      | .rt x => .ok (.rt x, u.2.1, u.2.2)
theorem p_fl0 {g : EvG} {s : EvS} {b : Nat} {env : En} {M : Store} : forL g s [] b env M = .ok (.nx, env, M) := (rfl)
theorem p_fl1 {g : EvG} {s : EvS} {x : D} {xs : List D} {b : Nat} {env : En} {M : Store} : forL g s (x :: xs) b env M = flR g s xs b M (g (.d x) env) := (rfl)
theorem p_fl2 {g : EvG} {s : EvS} {xs : List D} {b : Nat} {env : En} {M : Store} : flR g s xs b M (some env) = flS g s xs b (s b env M) := (rfl)
theorem p_fl3 {g : EvG} {s : EvS} {xs : List D} {b : Nat} {env : En} {M : Store} : flS g s xs b (.ok (.nx, env, M)) = forL g s xs b env M := (rfl)
theorem p_fl4 {g : EvG} {s : EvS} {xs : List D} {b : Nat} {env : En} {M : Store} : flS g s xs b (.ok (.ct, env, M)) = forL g s xs b env M := (rfl)
theorem p_fl5 {g : EvG} {s : EvS} {xs : List D} {b : Nat} {env : En} {M : Store} : flS g s xs b (.ok (.bk, env, M)) = .ok (.nx, env, M) := (rfl)
theorem p_fl6 {g : EvG} {s : EvS} {xs : List D} {x : Vl} {b : Nat} {env : En} {M : Store} : flS g s xs b (.ok (.rt x, env, M)) = .ok (.rt x, env, M) := (rfl)
theorem p_fl7 {g : EvG} {s : EvS} {xs : List D} {b : Nat} {e : Ex × En} : flS g s xs b (.exc e) = .exc e := (rfl)
theorem p_wh {e : EvT} {s : EvS} {b : Nat} {env : En} {M : Store} : sWhile e s b env M = whileL e s 16000000 b env M := (rfl)
def rtT (M : Store) (r : RS) : Res Ex (Vl × Store) := match r with
  | .ok (.rt x, _, M2) => fin M.length x M2
  | .ok (.nx, _, M2) => fin M.length (.d .non) M2
  | .ok _ => .bad
  | .exc (e, _) => .exc ⟨e.c, e.fs, e.M.take M.length⟩
  | .bad => .bad
theorem p_ar {n : Nat} {F : EvF} {xs : List Vl} {b : Nat} {M : Store} : ar n F xs b M = if xs.length = n then F xs b M else .bad := (rfl)
theorem p_T {n : Nat} {s : EvS} {xs : List Vl} {b : Nat} {M : Store} : runT n s xs b M = rtT M (s M.length (envOf n xs) M) := (rfl)
theorem p_T1 {x : Vl} {env : En} {M M2 : Store} : rtT M (.ok (.rt x, env, M2)) = fin M.length x M2 := (rfl)
theorem p_T2 {env : En} {M M2 : Store} : rtT M (.ok (.nx, env, M2)) = fin M.length (.d .non) M2 := (rfl)
theorem p_T3 {env : En} {M : Store} {e : Ex} : rtT M (.exc (e, env)) = .exc ⟨e.c, e.fs, e.M.take M.length⟩ := (rfl)
theorem p_fin {n : Nat} {x : D} {M : Store} : fin n (.d x) M = .ok (.d x, M.take n) := (rfl)
def rtK (r : RS) : Res Ex (Vl × Store) := match r with
  | .ok (.rt x, _, M2) => .ok (x, M2)
  | .ok (.nx, _, M2) => .ok (.d .non, M2)
  | .ok _ => .bad
  | .exc (e, _) => .exc e
  | .bad => .bad
theorem p_K {n : Nat} {s : EvS} {xs : List Vl} {b : Nat} {M : Store} : runK n s xs b M = rtK (s b (envOf n xs) M) := (rfl)
theorem p_K1 {x : Vl} {env : En} {M : Store} : rtK (.ok (.rt x, env, M)) = .ok (x, M) := (rfl)
theorem p_K2 {env : En} {M : Store} : rtK (.ok (.nx, env, M)) = .ok (.d .non, M) := (rfl)
theorem p_K3 {env : En} {e : Ex} : rtK (.exc (e, env)) = .exc e := (rfl)
def rtR (M : Store) (r : RS) : Res Ex (Vl × Store) := match r with
  | .ok (.rt x, _, M2) => (match x with
    | .d y => .ok (.d y, M2.take M.length)
    | .c k => if k < M.length then .bad else (match M2[k]? with
      | some (some (.lst ys)) => .ok (.c M.length, M2.take M.length ++ [some (.lst ys)])
      | _ => .bad))
  | .exc (e, _) => .exc ⟨e.c, e.fs, e.M.take M.length⟩
  | _ => .bad
theorem p_R {n : Nat} {s : EvS} {xs : List Vl} {b : Nat} {M : Store} : runR n s xs b M = rtR M (s M.length (envOf n xs) M) := (rfl)
theorem p_R1 {x : D} {env : En} {M M2 : Store} : rtR M (.ok (.rt (.d x), env, M2)) = .ok (.d x, M2.take M.length) := (rfl)
theorem p_R2 {k : Nat} {env : En} {M M2 : Store} {ys : List D} (h : M2[M.length + k]? = some (some (.lst ys))) : rtR M (.ok (.rt (.c (M.length + k)), env, M2)) = .ok (.c M.length, M2.take M.length ++ [some (.lst ys)]) := by
  unfold rtR
  dsimp only
  rw [if_neg (by omega), h]
theorem p_bnd {i : Int} (h0 : -4611686018427387904 ≤ i) (h1 : i < 4611686018427387904) : bnd i = true := decide_eq_true ⟨h0, h1⟩
theorem p_R3 {env : En} {M M2 : Store} {ys : List D} (h : M2[M.length]? = some (some (.lst ys))) : rtR M (.ok (.rt (.c M.length), env, M2)) = .ok (.c M.length, M2.take M.length ++ [some (.lst ys)]) := p_R2 (k := 0) h
theorem ncast {n : Nat} : (((OfNat.ofNat n : Nat)) : Int) = (OfNat.ofNat n : Int) := rfl
theorem q_cat {xs ys : List D} {M : Store} (h : xs.length + ys.length ≤ 16000000) : oAdd false (.d (.lst xs)) (.d (.lst ys)) M = some (.d (.lst (xs ++ ys)), M) := by
  show (if xs.length + ys.length ≤ LIM then _ else _) = _
  rw [if_pos h] <;> rfl
theorem q_rep {xs : List D} {k : Int} {M : Store} (h0 : -16000000 < k) (h1 : k < 16000000) (h : xs.length * k.toNat ≤ 16000000) : oMul false (.d (.lst xs)) (.d (.int k)) M = some (.d (.lst (List.replicate k.toNat xs).flatten), M) := by
  show (if k < 16000000 ∧ xs.length * k.toNat ≤ LIM ∧ -16000000 < k then _ else _) = _
  rw [if_pos ⟨h1, h, h0⟩] <;> rfl
theorem q_sub {i j : Int} {M : Store}  : oSub (.d (.int i)) (.d (.int j)) M = some (.d (.int (i - j)), M) := (rfl)
theorem q_add {i j : Int} {M : Store}  : oAdd false (.d (.int i)) (.d (.int j)) M = some (.d (.int (i + j)), M) := (rfl)
theorem q_addT {i j : Int} {M : Store}  : oAdd true (.d (.int i)) (.d (.int j)) M = some (.d (.int (i + j)), M) := (rfl)
theorem q_iadd {i j : Int} {M : Store}  : iAdd (.d (.int i)) (.d (.int j)) M = some (.d (.int (i + j)), M) := (rfl)
theorem q_and {i j : Int} {M : Store}  : oAnd (.d (.int i)) (.d (.int j)) M = some (.d (.int (Builtin.bitAnd i j)), M) := (rfl)
theorem q_or {i j : Int} {M : Store}  : oOr (.d (.int i)) (.d (.int j)) M = some (.d (.int (Builtin.bitOr i j)), M) := (rfl)
theorem q_xor {i j : Int} {M : Store}  : oXor (.d (.int i)) (.d (.int j)) M = some (.d (.int (Builtin.bitXor i j)), M) := (rfl)
theorem q_lt {i j : Int} {M : Store}  : oLt (.d (.int i)) (.d (.int j)) M = some (.d (.bl (decide (i < j))), M) := (rfl)
theorem q_le {i j : Int} {M : Store}  : oLe (.d (.int i)) (.d (.int j)) M = some (.d (.bl (decide (i ≤ j))), M) := (rfl)
theorem q_gt {i j : Int} {M : Store}  : oGt (.d (.int i)) (.d (.int j)) M = some (.d (.bl (decide (j < i))), M) := (rfl)
theorem q_ge {i j : Int} {M : Store}  : oGe (.d (.int i)) (.d (.int j)) M = some (.d (.bl (decide (j ≤ i))), M) := (rfl)
theorem q_mod {i j : Int} {M : Store} (h : 0 < j) : oMod (.d (.int i)) (.d (.int j)) M = some (.d (.int (i % j)), M) := by
  show (if decide (0 < j) = true then _ else _) = _
  rw [if_pos (decide_eq_true h)]
theorem q_div {i j : Int} {M : Store} (h : 0 < j) (h2 : j < 1073741824) : oDiv (.d (.int i)) (.d (.int j)) M = some (.d (.int (i / j)), M) := by
  show (if decide (0 < j ∧ (j < 1073741824 ∨ j.natAbs.log2 < 9000)) = true then _ else _) = _
  rw [if_pos (decide_eq_true ⟨h, .inl h2⟩)]
theorem q_shr {i j : Int} {M : Store} (h : 0 ≤ j) : oShr (.d (.int i)) (.d (.int j)) M = some (.d (.int (i / ((2 ^ j.toNat : Nat) : Int))), M) := by
  show (if decide (0 ≤ j) = true then some (Vl.d (.int (i / 2 ^ j.toNat)), M) else _) = _
  rw [if_pos (decide_eq_true h), Int.natCast_pow] <;> rfl
theorem q_shl {i j : Int} {M : Store} (h : 0 ≤ j) (h2 : j ≤ 1000000) (h3 : -18446744073709551616 < i) (h4 : i < 18446744073709551616) : oShl (.d (.int i)) (.d (.int j)) M = some (.d (.int (i * ((2 ^ j.toNat : Nat) : Int))), M) := by
  show (if decide (CPow i j ∨ CShl i j) = true then some (Vl.d (.int (i * 2 ^ j.toNat)), M) else _) = _
  rw [if_pos (decide_eq_true (.inl ⟨h, h2, by omega⟩)), Int.natCast_pow] <;> rfl
theorem q_pow {i j : Int} {M : Store} (h : 0 ≤ j) (h2 : j ≤ 1000000) (h3 : -18446744073709551616 < i) (h4 : i < 18446744073709551616) : oPow (.d (.int i)) (.d (.int j)) M = some (.d (.int (i ^ j.toNat)), M) := by
  show (if decide (CPow i j) = true then _ else _) = _
  rw [if_pos (decide_eq_true ⟨h, h2, by omega⟩)]
theorem q_mulLf {i j : Int} {M : Store} (h3 : -18446744073709551616 < i) (h4 : i < 18446744073709551616) : oMul false (.d (.int i)) (.d (.int j)) M = some (.d (.int (i * j)), M) := by
  show (if (CMul i j ∨ CMulX i j) then _ else _) = _
  rw [if_pos (.inl (.inl ⟨by omega, by omega⟩))]
theorem q_mulRf {i j : Int} {M : Store} (h3 : -18446744073709551616 < j) (h4 : j < 18446744073709551616) : oMul false (.d (.int i)) (.d (.int j)) M = some (.d (.int (i * j)), M) := by
  show (if (CMul i j ∨ CMulX i j) then _ else _) = _
  rw [if_pos (.inl (.inr ⟨by omega, by omega⟩))]
theorem q_mulLt {i j : Int} {M : Store} (h3 : -18446744073709551616 < i) (h4 : i < 18446744073709551616) : oMul true (.d (.int i)) (.d (.int j)) M = some (.d (.int (i * j)), M) := by
  show (if (CMul i j ∨ CMulX i j) then _ else _) = _
  rw [if_pos (.inl (.inl ⟨by omega, by omega⟩))]
theorem q_mulRt {i j : Int} {M : Store} (h3 : -18446744073709551616 < j) (h4 : j < 18446744073709551616) : oMul true (.d (.int i)) (.d (.int j)) M = some (.d (.int (i * j)), M) := by
  show (if (CMul i j ∨ CMulX i j) then _ else _) = _
  rw [if_pos (.inl (.inr ⟨by omega, by omega⟩))]
theorem q_neg {i : Int} {M : Store} : oNeg (.d (.int i)) M = some (.d (.int (-i)), M) := (rfl)
theorem q_eqI {i j : Int} {M : Store} : oEq (.d (.int i)) (.d (.int j)) M = some (.d (.bl (decide (i = j))), M) := by
  show (if (SeqAt.shaped (.int i) && SeqAt.shaped (.int j)) = true then some (Vl.d (.bl (PyData.eqv (.int i) (.int j))), M) else none) = _
  rw [if_pos (by simp [SeqAt.shaped, PyData.canLay0, PyData.depth])]
  have e : (i == j) = decide (i = j) := by rw [Bool.eq_iff_iff]; simp
  simp [PyData.eqv, e]
theorem q_neI {i j : Int} {M : Store} : oNe (.d (.int i)) (.d (.int j)) M = some (.d (.bl (!decide (i = j))), M) := by
  show (if (SeqAt.shaped (.int i) && SeqAt.shaped (.int j)) = true then some (Vl.d (.bl (!PyData.eqv (.int i) (.int j))), M) else none) = _
  rw [if_pos (by simp [SeqAt.shaped, PyData.canLay0, PyData.depth])]
  have e : (i == j) = decide (i = j) := by rw [Bool.eq_iff_iff]; simp
  simp [PyData.eqv, e]
/-! ### loops -/
theorem forL_nil (g : EvG) (s : EvS) (b : Nat) (env : En) (M : Store) : forL g s [] b env M = .ok (.nx, env, M) := rfl
/-- every turn goes on -/
theorem forL_ok {g : EvG} {s : EvS} {b : Nat} (I : Nat → En → Store → Prop) : ∀ (xs : List D) (k : Nat) {env : En} {M : Store}, I k env M →
    (∀ i x env M, xs[i]? = some x → I (k + i) env M → ∃ env1 env2 M2, g (.d x) env = some env1 ∧ s b env1 M = .ok (.nx, env2, M2) ∧ I (k + i + 1) env2 M2) →
    ∃ env' M', forL g s xs b env M = .ok (.nx, env', M') ∧ I (k + xs.length) env' M'
  | [], k, env, M, h, _ => ⟨env, M, rfl, h⟩
  | x :: xs, k, env, M, h, hs => by
    obtain ⟨env1, env2, M2, h1, h2, h3⟩ := hs 0 x env M rfl h
    obtain ⟨env', M', e, q⟩ := forL_ok I xs (k + 1) h3 fun i y env M e q => by
      have := hs (i + 1) y env M (by simpa using e) (by rw [show k + (i + 1) = k + 1 + i from by omega]; exact q)
      rw [show k + (i + 1) = k + 1 + i from by omega] at this
      exact this
    refine ⟨env', M', ?_, by rw [List.length_cons, show k + (xs.length + 1) = k + 1 + xs.length from by omega]; exact q⟩
    unfold forL
    rw [h1]
    show (s b env1 M).bind _ = _
    rw [h2]
    exact e
/-- a while by a measure -/
theorem whileL_ok {e : EvT} {s : EvS} {b : Nat} (I : Nat → En → Store → Prop) : ∀ (m n : Nat) {env : En} {M : Store}, m < n → I m env M →
    (∀ m env M, I (m + 1) env M → ∃ M1 env2 M2, e b env M = .ok (true, M1) ∧ s b env M1 = .ok (.nx, env2, M2) ∧ I m env2 M2) →
    (∀ env M, I 0 env M → e b env M = .ok (false, M)) → ∃ env' M', whileL e s n b env M = .ok (.nx, env', M') ∧ I 0 env' M'
  | 0, n + 1, env, M, _, h, _, h0 => by
    refine ⟨env, M, ?_, h⟩
    unfold whileL
    rw [h0 _ _ h]
    rfl
  | m + 1, n + 1, env, M, hn, h, hs, h0 => by
    obtain ⟨M1, env2, M2, h1, h2, h3⟩ := hs m env M h
    obtain ⟨env', M', q, r⟩ := whileL_ok I m n (by omega) h3 hs h0
    refine ⟨env', M', ?_, r⟩
    unfold whileL
    rw [h1, lift_ok, bind_ok]
    dsimp only
    rw [if_pos rfl, h2, bind_ok]
    exact q
  | _, 0, _, _, hn, _, _, _ => absurd hn (Nat.not_lt_zero _)
/-- a comprehension as a map -/
theorem lcL_ok {g : EvG} {t : EvT} {e : EvE} {n b : Nat} {env : En} (f : D → D) : ∀ (xs : List D) (M : Store) (acc : List D), M[n]? = some (some (.lst acc)) → acc.length + xs.length ≤ LIM →
    (∀ x ∈ xs, ∀ M', ∃ env1, g (.d x) env = some env1 ∧ t b env1 M' = .ok (true, M') ∧ ((∃ a, M'= M.set n (some (.lst a))) → e b env1 M' = .ok (.d (f x), M'))) →
    lcL g t e n xs b env M = some (M.set n (some (.lst (acc ++ xs.map f))))
  | [], M, acc, h, _, _ => by
    have : M.set n (some (.lst (acc ++ []))) = M := by
      rw [List.append_nil]
      apply List.ext_getElem?
      intro j
      by_cases hj : n = j
      · subst hj
        rw [List.getElem?_set_self (List.getElem?_eq_some_iff.mp h).1, h]
      · rw [List.getElem?_set_ne hj]
    rw [List.map_nil, this]
    rfl
  | x :: xs, M, acc, h, hl, hs => by
    obtain ⟨env1, h1, h2, h3⟩ := hs x (List.mem_cons_self ..) M
    have hk := (List.getElem?_eq_some_iff.mp h).1
    have hM : M.set n (some (.lst acc)) = M := by
      apply List.ext_getElem?
      intro j
      by_cases hj : n = j
      · subst hj
        rw [List.getElem?_set_self hk, h]
      · rw [List.getElem?_set_ne hj]
    have h3 := h3 ⟨acc, hM.symm⟩
    unfold lcL
    rw [h1]
    dsimp only
    rw [h2]
    dsimp only
    rw [if_pos rfl, h3]
    dsimp only
    have ha : app n (.d (f x)) M = some (M.set n (some (.lst (acc ++ [f x])))) := by
      unfold app
      rw [h]
      dsimp only
      rw [if_pos (by simp at hl; omega)]
    rw [ha]
    dsimp only
    rw [lcL_ok f xs (M.set n (some (.lst (acc ++ [f x])))) (acc ++ [f x]) (List.getElem?_set_self hk) (by simp at hl ⊢; omega) fun y hy M' => by
      obtain ⟨env1, k1, k2, k3⟩ := hs y (List.mem_cons_of_mem _ hy) M'
      exact ⟨env1, k1, k2, fun ⟨a, ea⟩ => k3 ⟨a, by rw [ea, List.set_set]⟩⟩]
    rw [List.set_set, List.map_cons, List.append_assoc]
    rfl
theorem lcF_ok {it : EvI} {tg : Tg} {vs : List Nat} {t : EvT} {e : EvE} {b : Nat} {env : En} {M : Store} {xs : List D} (f : D → D) (hit : it b env M = .ok (xs, M)) (hl : xs.length ≤ LIM)
    (h : ∀ x ∈ xs, ∀ M', ∃ env1, tg.g (.d x) (wipeE env vs) = some env1 ∧ t M.length env1 M' = .ok (true, M') ∧ ((∃ a, M' = M ++ [some (.lst a)]) → e M.length env1 M' = .ok (.d (f x), M'))) : eLcF it tg vs t e b env M = .ok (.d (.lst (xs.map f)), M) := by
  unfold eLcF
  rw [hit]
  show (match lcL tg.g t e M.length xs M.length (wipeE env vs) (M ++ [some (.lst [])]) with
  | some M' => (match M'[M.length]? with
    | some (some (.lst ys)) => .ok (.d (.lst ys), M'.take M.length)
    | _ => .bad)
  | none => .bad : Res Ex (Vl × Store)) = _
  have q := lcL_ok (g := tg.g) (t := t) (e := e) (n := M.length) (b := M.length) (env := wipeE env vs) f xs (M ++ [some (.lst [])]) [] (by rw [get_top0]; rfl) (by simpa using hl) fun x hx M' => by
    obtain ⟨env1, k1, k2, k3⟩ := h x hx M'
    exact ⟨env1, k1, k2, fun ⟨a, ea⟩ => k3 ⟨a, by rw [ea, set_top0]; rfl⟩⟩
  rw [q]
  dsimp only
  rw [set_top0]
  simp [get_top0]
/-- kept as a cell -/
theorem lcK_ok {it : EvI} {tg : Tg} {vs : List Nat} {t : EvT} {e : EvE} {b : Nat} {env : En} {M : Store} {xs : List D} (f : D → D) (hit : it b env M = .ok (xs, M)) (hl : xs.length ≤ LIM)
    (h : ∀ x ∈ xs, ∀ M', ∃ env1, tg.g (.d x) (wipeE env vs) = some env1 ∧ t b env1 M' = .ok (true, M') ∧ ((∃ a, M' = M ++ [some (.lst a)]) → e b env1 M' = .ok (.d (f x), M'))) : eLcK (.lst []) it tg vs t e b env M = .ok (.c M.length, M ++ [some (.lst (xs.map f))]) := by
  unfold eLcK
  rw [hit]
  show (match lcL tg.g t e M.length xs b (wipeE env vs) (M ++ [some (.lst [])]) with
  | some M' => .ok (.c M.length, M')
  | none => .bad : Res Ex (Vl × Store)) = _
  have q := lcL_ok (g := tg.g) (t := t) (e := e) (n := M.length) (b := b) (env := wipeE env vs) f xs (M ++ [some (.lst [])]) [] (by rw [get_top0]; rfl) (by simpa using hl) fun x hx M' => by
    obtain ⟨env1, k1, k2, k3⟩ := h x hx M'
    exact ⟨env1, k1, k2, fun ⟨a, ea⟩ => k3 ⟨a, by rw [ea, set_top0]; rfl⟩⟩
  rw [q]
  dsimp only
  rw [set_top0]
  rfl
/-- two loops -/
theorem lcL2_ok {g g1 : EvG} {t t1 : EvT} {it1 : EvI} {vs1 : List Nat} {e : EvE} {n b : Nat} {env : En} (f : D → List D) : ∀ (xs : List D) (M : Store) (acc : List D), M[n]? = some (some (.lst acc)) → acc.length + (xs.flatMap f).length ≤ LIM →
    (∀ x ∈ xs, ∀ M', ∃ env1 ys h, g (.d x) env = some env1 ∧ t b env1 M' = .ok (true, M') ∧ it1 b env1 M' = .ok (ys, M') ∧ f x = ys.map h ∧ ∀ y ∈ ys, ∀ M'', ∃ env2, g1 (.d y) (wipeE env1 vs1) = some env2 ∧ t1 b env2 M'' = .ok (true, M'') ∧ e b env2 M'' = .ok (.d (h y), M'')) →
    lcL2 g t it1 g1 vs1 t1 e n xs b env M = some (M.set n (some (.lst (acc ++ xs.flatMap f))))
  | [], M, acc, h, _, _ => by
    have : M.set n (some (.lst (acc ++ []))) = M := by
      rw [List.append_nil]
      apply List.ext_getElem?
      intro j
      by_cases hj : n = j
      · subst hj
        rw [List.getElem?_set_self (List.getElem?_eq_some_iff.mp h).1, h]
      · rw [List.getElem?_set_ne hj]
    rw [List.flatMap_nil, this]
    rfl
  | x :: xs, M, acc, h, hl, hs => by
    obtain ⟨env1, ys, k, h1, h2, h3, h4, h5⟩ := hs x (List.mem_cons_self ..) M
    have hk := (List.getElem?_eq_some_iff.mp h).1
    rw [List.flatMap_cons, List.length_append] at hl
    unfold lcL2
    rw [h1]
    dsimp only
    rw [h2]
    dsimp only
    rw [if_pos rfl, h3]
    dsimp only
    rw [lcL_ok (g := g1) (t := t1) (e := e) (n := n) (b := b) (env := wipeE env1 vs1) k ys M acc h (by rw [h4, List.length_map] at hl; omega) fun y hy M'' => by
      obtain ⟨env2, k1, k2, k3⟩ := h5 y hy M''
      exact ⟨env2, k1, k2, fun _ => k3⟩]
    dsimp only
    rw [lcL2_ok f xs (M.set n (some (.lst (acc ++ ys.map k)))) (acc ++ ys.map k) (List.getElem?_set_self hk) (by rw [h4] at hl; rw [List.length_append]; omega) fun y hy => hs y (List.mem_cons_of_mem _ hy)]
    rw [List.set_set, List.flatMap_cons, h4, List.append_assoc]
theorem lc2K_ok {it it1 : EvI} {tg tg1 : Tg} {vs vs1 : List Nat} {t t1 : EvT} {e : EvE} {b : Nat} {env : En} {M : Store} {xs : List D} (f : D → List D) (hit : it b env M = .ok (xs, M)) (hl : (xs.flatMap f).length ≤ LIM)
    (hs : ∀ x ∈ xs, ∀ M', ∃ env1 ys h, tg.g (.d x) (wipeE env vs) = some env1 ∧ t b env1 M' = .ok (true, M') ∧ it1 b env1 M' = .ok (ys, M') ∧ f x = ys.map h ∧ ∀ y ∈ ys, ∀ M'', ∃ env2, tg1.g (.d y) (wipeE env1 vs1) = some env2 ∧ t1 b env2 M'' = .ok (true, M'') ∧ e b env2 M'' = .ok (.d (h y), M'')) :
    eLc2K (.lst []) it tg vs t it1 tg1 vs1 t1 e b env M = .ok (.c M.length, M ++ [some (.lst (xs.flatMap f))]) := by
  unfold eLc2K
  rw [hit]
  show (match lcL2 tg.g t it1 tg1.g vs1 t1 e M.length xs b (wipeE env vs) (M ++ [some (.lst [])]) with
  | some M' => .ok (.c M.length, M')
  | none => .bad : Res Ex (Vl × Store)) = _
  have q := lcL2_ok (n := M.length) f xs (M ++ [some (.lst [])]) [] (by rw [get_top0]; rfl) (by simpa using hl) hs
  rw [q]
  dsimp only
  rw [set_top0]
  rfl
theorem rep_flat {k : Nat} {i : Int} : (List.replicate k [D.int i]).flatten = (List.replicate k i).map D.int := by
  induction k with
  | zero => rfl
  | succ k ih => rw [List.replicate_succ, List.flatten_cons, ih, List.replicate_succ]; rfl
/-! ### equality of lists of ints -/
theorem toPs_ints : ∀ ns : List Int, toPs (ns.map D.int) = ns.map PyData.int
  | [] => rfl
  | i :: ns => by rw [List.map_cons, toPs, toPs_ints ns]; rfl
theorem canLay_ints : ∀ ns : List Int, PyData.canLayAll0 (ns.map PyData.int) = true
  | [] => rfl
  | i :: ns => by rw [List.map_cons]; show (true && PyData.canLayAll0 (ns.map PyData.int)) = true; rw [canLay_ints ns]; rfl
theorem depth_ints : ∀ ns : List Int, PyData.depthAll (ns.map PyData.int) ≤ 1
  | [] => by simp [PyData.depthAll, List.map_nil]
  | i :: ns => by
    have := depth_ints ns
    simp [PyData.depthAll, PyData.depth]
    omega
theorem ints_shaped (ns : List Int) : SeqAt.shaped (toP (.lst (ns.map D.int))) = true := by
  have e : toP (.lst (ns.map D.int)) = .list (ns.map PyData.int) := by rw [toP, toPs_ints]
  rw [e]
  have h := depth_ints ns
  simp [SeqAt.shaped, PyData.canLay0, PyData.depth, canLay_ints]
  omega
theorem q_neL {ns : List Int} {M : Store} : oNe (.d (.lst (ns.map D.int))) (.d (.lst (ns.map D.int))) M = some (.d (.bl false), M) := by
  have h := ints_shaped ns
  show (if (SeqAt.shaped (toP (.lst (ns.map D.int))) && SeqAt.shaped (toP (.lst (ns.map D.int)))) = true then some (Vl.d (.bl (!PyData.eqv (toP (.lst (ns.map D.int))) (toP (.lst (ns.map D.int))))), M) else none) = _
  rw [h, SeqAt.eqv_refl _ (SeqAt.canLay_of_shaped h)]
  rfl
theorem q_eqL {ns : List Int} {M : Store} : oEq (.d (.lst (ns.map D.int))) (.d (.lst (ns.map D.int))) M = some (.d (.bl true), M) := by
  have h := ints_shaped ns
  show (if (SeqAt.shaped (toP (.lst (ns.map D.int))) && SeqAt.shaped (toP (.lst (ns.map D.int)))) = true then some (Vl.d (.bl (PyData.eqv (toP (.lst (ns.map D.int))) (toP (.lst (ns.map D.int))))), M) else none) = _
  rw [h, SeqAt.eqv_refl _ (SeqAt.canLay_of_shaped h)]
  rfl
theorem ixN_0 {n : Nat} (h : 0 < n) : ixN n 0 = some 0 := by
  unfold ixN
  rw [if_pos (by omega)]
  rw [if_pos (by omega)]
  rfl
/-! ### bits -/
theorem or_shl {a y : Int} {k : Nat} (ha : 0 ≤ a) (hy : 0 ≤ y) (hk : y < 2 ^ k) : Builtin.bitOr (a * 2 ^ k) y = a * 2 ^ k + y := by
  have h1 : Builtin.bitAnd (a * 2 ^ k) y = 0 := by
    have hp : (0 : Int) ≤ a * 2 ^ k := Int.mul_nonneg ha (Int.le_of_lt (Int.pow_pos (by decide)))
    rw [bitAnd_pp hp hy]
    have e1 : (a * 2 ^ k).toNat = 2 ^ k * a.toNat := by
      obtain ⟨n, rfl⟩ := Int.eq_ofNat_of_zero_le ha
      have : ((n : Int) * 2 ^ k) = ((2 ^ k * n : Nat) : Int) := by push_cast; rw [Int.mul_comm]
      rw [this, Int.toNat_natCast, Int.toNat_natCast]
    have e2 : y.toNat < 2 ^ k := by
      have : ((2 : Int) ^ k) = ((2 ^ k : Nat) : Int) := by push_cast; rfl
      omega
    rw [e1]
    have h3 := Nat.two_pow_add_eq_or_of_lt e2 a.toNat
    have h4 : (2 ^ k * a.toNat &&& y.toNat) = 0 := by
      apply Nat.eq_of_testBit_eq
      intro j
      rw [Nat.testBit_and, Nat.zero_testBit, Nat.testBit_two_pow_mul]
      by_cases hj : j < k
      · simp [show ¬ j ≥ k from by omega]
      · have : y.toNat.testBit j = false := Nat.testBit_lt_two_pow (Nat.lt_of_lt_of_le e2 (Nat.pow_le_pow_right (by decide) (by omega)))
        simp [this]
    rw [h4]
    rfl
  rw [bitOr_and, h1]
  omega
theorem atI_l0 {α : Type} { x : α} {xs : List α} : atI (x :: xs) 0 = some x := atI_nat (j := 0) rfl
theorem atI_l1 {α : Type} {a0 x : α} {xs : List α} : atI (a0 :: x :: xs) 1 = some x := atI_nat (j := 1) rfl
theorem atI_l2 {α : Type} {a0 a1 x : α} {xs : List α} : atI (a0 :: a1 :: x :: xs) 2 = some x := atI_nat (j := 2) rfl
theorem atI_l3 {α : Type} {a0 a1 a2 x : α} {xs : List α} : atI (a0 :: a1 :: a2 :: x :: xs) 3 = some x := atI_nat (j := 3) rfl
theorem atI_l4 {α : Type} {a0 a1 a2 a3 x : α} {xs : List α} : atI (a0 :: a1 :: a2 :: a3 :: x :: xs) 4 = some x := atI_nat (j := 4) rfl
theorem atI_l5 {α : Type} {a0 a1 a2 a3 a4 x : α} {xs : List α} : atI (a0 :: a1 :: a2 :: a3 :: a4 :: x :: xs) 5 = some x := atI_nat (j := 5) rfl
theorem atI_l6 {α : Type} {a0 a1 a2 a3 a4 a5 x : α} {xs : List α} : atI (a0 :: a1 :: a2 :: a3 :: a4 :: a5 :: x :: xs) 6 = some x := atI_nat (j := 6) rfl
theorem atI_l7 {α : Type} {a0 a1 a2 a3 a4 a5 a6 x : α} {xs : List α} : atI (a0 :: a1 :: a2 :: a3 :: a4 :: a5 :: a6 :: x :: xs) 7 = some x := atI_nat (j := 7) rfl
theorem atI_l8 {α : Type} {a0 a1 a2 a3 a4 a5 a6 a7 x : α} {xs : List α} : atI (a0 :: a1 :: a2 :: a3 :: a4 :: a5 :: a6 :: a7 :: x :: xs) 8 = some x := atI_nat (j := 8) rfl
theorem atI_l9 {α : Type} {a0 a1 a2 a3 a4 a5 a6 a7 a8 x : α} {xs : List α} : atI (a0 :: a1 :: a2 :: a3 :: a4 :: a5 :: a6 :: a7 :: a8 :: x :: xs) 9 = some x := atI_nat (j := 9) rfl
theorem atI_l10 {α : Type} {a0 a1 a2 a3 a4 a5 a6 a7 a8 a9 x : α} {xs : List α} : atI (a0 :: a1 :: a2 :: a3 :: a4 :: a5 :: a6 :: a7 :: a8 :: a9 :: x :: xs) 10 = some x := atI_nat (j := 10) rfl
theorem atI_l11 {α : Type} {a0 a1 a2 a3 a4 a5 a6 a7 a8 a9 a10 x : α} {xs : List α} : atI (a0 :: a1 :: a2 :: a3 :: a4 :: a5 :: a6 :: a7 :: a8 :: a9 :: a10 :: x :: xs) 11 = some x := atI_nat (j := 11) rfl
theorem rng_in {lo : Int} {n : Nat} {x : D} (h : x ∈ rng1 lo n) : ∃ i : Nat, i < n ∧ x = .int (lo + i) := by
  unfold rng1 at h
  obtain ⟨i, hi, rfl⟩ := (List.mem_map).mp h
  exact ⟨i, List.mem_range.mp hi, rfl⟩
theorem rng_at {lo : Int} {n i : Nat} {x : D} (h : (rng1 lo n)[i]? = some x) : i < n ∧ x = .int (lo + i) := by
  unfold rng1 at h
  rw [List.getElem?_map] at h
  by_cases hi : i < n
  · rw [List.getElem?_range hi] at h
    cases h
    exact ⟨hi, rfl⟩
  · rw [List.getElem?_eq_none (by simpa using hi)] at h
    cases h
theorem rng_len (lo : Int) (n : Nat) : (rng1 lo n).length = n := by simp [rng1]
theorem cut_map {α β : Type} (f : α → β) (xs : List α) (lo hi : Option Int) : cutD (xs.map f) lo hi = (cutD xs lo hi).map f := by simp [cutD, List.map_take, List.map_drop]
theorem cut_ab {α : Type} {xs : List α} {a b : Int} (h0 : 0 ≤ a) (h1 : a ≤ b) (h2 : b ≤ xs.length) : cutD xs (some a) (some b) = (xs.drop a.toNat).take (b - a).toNat := by
  unfold cutD HT.sIx
  simp only
  rw [if_neg (by omega)]
  rw [if_neg (by omega)]
  rw [show min a.toNat xs.length = a.toNat from by omega, show min b.toNat xs.length - a.toNat = (b - a).toNat from by omega]
theorem cut_a {α : Type} {xs : List α} {a : Int} (h0 : 0 ≤ a) (h2 : a ≤ xs.length) : cutD xs (some a) none = xs.drop a.toNat := by
  unfold cutD HT.sIx
  simp only
  rw [if_neg (by omega)]
  rw [show min a.toNat xs.length = a.toNat from by omega]
  exact (List.take_of_length_le (by simp))
theorem rng1_4 : rng1 0 4 = [.int 0, .int 1, .int 2, .int 3] := rfl
theorem or_shl' {a y : Int} {k : Nat} (ha : 0 ≤ a) (hy : 0 ≤ y) (hk : y < 2 ^ k) : Builtin.bitOr y (a * 2 ^ k) = y + a * 2 ^ k := by
  have h := or_shl ha hy hk
  rw [bitOr_and] at h ⊢
  rw [bitAnd_comm]
  omega
end Mo

namespace Lk08
open PySem PySem.Spec PyProof.Rows L2 Mo
abbrev li (ns : List Int) : D := .lst (ns.map .int)
theorem e_isint (i : Int) (b : Nat) (M : Store) : F__law_is_integer [.d (.int i)] b M = .ok (.d (.bl true), M) := by
  simp only [F__law_is_integer, b__law_is_integer, Mo.p_op, Mo.p_op1, Mo.p_op1e, Mo.p_op2, Mo.p_op2e, Mo.p_un, Mo.p_un1, Mo.p_var, Mo.p_var1, Mo.p_c, Mo.p_test, Mo.p_test1, Mo.p_test2, Mo.p_and, Mo.p_andT, Mo.p_andF, Mo.p_or, Mo.p_orT, Mo.p_orF, Mo.p_not, Mo.p_not1, Mo.p_tru, Mo.p_truB, Mo.p_truI, Mo.p_truN, Mo.p_truL, Mo.p_andV, Mo.p_andVT, Mo.p_andVF, Mo.p_orV, Mo.p_orVT, Mo.p_orVF, Mo.p_notV, Mo.p_notV1, Mo.p_ife, Mo.p_ifeT, Mo.p_ifeF, Mo.p_ch, Mo.p_ch1, Mo.p_ch2, Mo.p_ch3, Mo.p_ch4, Mo.p_an, Mo.p_ac, Mo.p_ac1, Mo.p_ac1e, Mo.p_ac2, Mo.p_ac2e, Mo.p_lst, Mo.p_lst1, Mo.p_lst2, Mo.p_tup, Mo.p_tup1, Mo.p_tup2, Mo.p_lsc, Mo.p_lsc1, Mo.p_cb, Mo.p_cb1, Mo.p_cb1e, Mo.p_call, Mo.p_call1, Mo.p_call1e, Mo.p_meth, Mo.p_meth1, Mo.p_meth2, Mo.p_meth2e, Mo.p_bm, Mo.p_bm1, Mo.p_bm2, Mo.p_fld, Mo.p_fld1, Mo.p_fld2, Mo.p_frz, Mo.p_frz1, Mo.p_frz2, Mo.p_isi, Mo.p_isiII, Mo.p_isiBI, Mo.p_isiLI, Mo.p_isiIB, Mo.p_isiBB, Mo.p_isiLL, Mo.p_isiTT, Mo.p_isiBN, Mo.p_isiBS, Mo.p_isiBL, Mo.p_sl, Mo.p_sl1, Mo.p_sl2, Mo.p_sl3, Mo.p_on, Mo.p_os, Mo.p_os1, Mo.p_mkK, Mo.p_mkK1, Mo.p_mkK2, Mo.p_mkF, Mo.p_mkF1, Mo.p_seq, Mo.p_seqN, Mo.p_seqR, Mo.p_seqB, Mo.p_seqC, Mo.p_seqE, Mo.p_nil, Mo.p_brk, Mo.p_cnt, Mo.p_ret, Mo.p_ret1, Mo.p_ret1e, Mo.p_retN, Mo.p_drop, Mo.p_drop1, Mo.p_drop1e, Mo.p_if, Mo.p_ifT, Mo.p_ifF, Mo.p_ifE, Mo.p_asg, Mo.p_asg1, Mo.p_asg1e, Mo.p_asgM, Mo.p_asgM1, Mo.p_asgM1e, Mo.p_asgM2, Mo.p_gq, Mo.p_gq2, Mo.p_gl0, Mo.p_gl1, Mo.p_gl2, Mo.p_gn, Mo.p_ga, Mo.p_ga1, Mo.p_ga2, Mo.p_aug, Mo.p_aug1, Mo.p_aug2, Mo.p_aug2e, Mo.p_aug3, Mo.p_nxM, Mo.p_fs, Mo.p_fs1, Mo.p_fs1e, Mo.p_fs2, Mo.p_fa, Mo.p_fa1, Mo.p_fa2, Mo.p_fa3, Mo.p_fa3e, Mo.p_fa4, Mo.p_ix, Mo.p_ix1, Mo.p_ix1e, Mo.p_ix2, Mo.p_ix3, Mo.p_sf, Mo.p_sf1, Mo.p_sf2, Mo.p_for, Mo.p_for1, Mo.p_iv, Mo.p_ivL, Mo.p_ivK, Mo.p_ivT, Mo.p_r1, Mo.p_r11, Mo.p_r2, Mo.p_r21, Mo.p_en, Mo.p_en1, Mo.p_zp, Mo.p_zp1, Mo.p_tgn, Mo.p_tgt, Mo.p_gs0, Mo.p_gs1, Mo.p_fl0, Mo.p_fl1, Mo.p_fl2, Mo.p_fl3, Mo.p_fl4, Mo.p_fl5, Mo.p_fl6, Mo.p_fl7, Mo.p_wh, Mo.p_ar, Mo.p_T, Mo.p_T1, Mo.p_T2, Mo.p_T3, Mo.p_fin, Mo.p_K, Mo.p_K1, Mo.p_K2, Mo.p_K3, Mo.p_R, Mo.p_R1, Mo.p_bnd, Mo.q_cat, Mo.q_rep, Mo.q_sub, Mo.q_add, Mo.q_addT, Mo.q_iadd, Mo.q_and, Mo.q_or, Mo.q_xor, Mo.q_lt, Mo.q_le, Mo.q_gt, Mo.q_ge, Mo.q_mod, Mo.q_div, Mo.q_shr, Mo.q_shl, Mo.q_pow, Mo.q_mulLf, Mo.q_mulRf, Mo.q_mulLt, Mo.q_mulRt, Mo.q_neg, Mo.q_eqI, Mo.q_neI, Mo.LIM, Mo.opt_some, Mo.opt_none, Mo.ds?, Mo.mkL, Mo.oIx, Mo.oSl, Mo.oLen, Mo.lenO, Mo.oAbs, Mo.oInt, Mo.oList, Mo.oTupOf, Mo.oIsN, Mo.isN, Mo.rdP, Mo.rdL, Mo.rdT, Mo.clsV, Mo.clsO, Mo.isLc, Mo.mApp, Mo.appO, Mo.mExt, Mo.fldO, Mo.isNo, Mo.stO, Mo.frzD, Mo.frz, Mo.setO, Mo.envOf, List.map_cons, List.map_nil, List.length_cons, List.length_nil, List.replicate_succ, List.replicate_zero, List.cons_append, List.nil_append, List.append_nil, List.append_assoc, List.getElem?_cons_zero, List.getElem?_cons_succ, List.set_cons_zero, List.set_cons_succ, Nat.reduceAdd, Nat.reduceSub, Nat.reduceLeDiff, Nat.reduceLT, Nat.reduceEqDiff, if_true, if_false, reduceIte, decide_true, decide_false, Bool.false_eq_true, and_self, true_and, and_true, Bool.and_self, Bool.true_and, Bool.and_true, Bool.not_true, Bool.not_false, Int.reduceToNat, Nat.reducePow, Int.cast_ofNat_Int, Int.reduceMul, Int.reduceAdd, Int.reduceSub, Int.reduceNeg, Mo.atI_l0, Mo.atI_l1, Mo.atI_l2, Mo.atI_l3, Mo.atI_l4, Mo.atI_l5, Mo.atI_l6, Mo.atI_l7, Mo.atI_l8, Mo.atI_l9, Mo.atI_l10, Mo.atI_l11, List.length_map, Mo.cut_map, Mo.get_top, Mo.get_top0, Mo.set_top, Mo.set_top0, Mo.take_topk, Mo.take_top, List.take_length, List.take_succ_cons, List.take_zero, List.length_append, Nat.lt_irrefl, Mo.wipeE]
theorem xor_mask {x : Int} (h0 : 0 ≤ x) (h1 : x < 4294967296) : Builtin.bitXor 4294967295 x = 4294967295 - x := by
  rw [bitXor_and, bitAnd_m32']
  omega
/-! ### the mixing -/
def fM (s b c d : Int) : Int := if s < 16 then Builtin.bitOr (Builtin.bitAnd b c) (Builtin.bitAnd (4294967295 - b) d) else if s < 32 then Builtin.bitOr (Builtin.bitAnd d b) (Builtin.bitAnd (4294967295 - d) c) else
  if s < 48 then Builtin.bitXor (Builtin.bitXor b c) d else Builtin.bitXor c (Builtin.bitOr b (4294967295 - d))
def gI (s : Int) : Int := if s < 16 then s else if s < 32 then (5 * s + 1) % 16 else if s < 48 then (3 * s + 5) % 16 else 7 * s % 16
theorem e_mix (s b' c d : Int) (hb : 0 ≤ b' ∧ b' < 4294967296) (hd : 0 ≤ d ∧ d < 4294967296) (hs : 0 ≤ s ∧ s < 64) (b : Nat) (M : Store) : F__mix [.d (.int s), .d (.int b'), .d (.int c), .d (.int d)] b M = .ok (.d (.tup [.int (fM s b' c d), .int (gI s)]), M) := by
  have e1 := xor_mask hb.1 hb.2
  have e2 := xor_mask hd.1 hd.2
  unfold fM gI
  simp (disch := first | omega | (simp only [List.length_map, List.length_cons, List.length_nil, List.length_append, List.length_replicate]; omega)) only [F__mix, b__mix, Mo.p_op, Mo.p_op1, Mo.p_op1e, Mo.p_op2, Mo.p_op2e, Mo.p_un, Mo.p_un1, Mo.p_var, Mo.p_var1, Mo.p_c, Mo.p_test, Mo.p_test1, Mo.p_test2, Mo.p_and, Mo.p_andT, Mo.p_andF, Mo.p_or, Mo.p_orT, Mo.p_orF, Mo.p_not, Mo.p_not1, Mo.p_tru, Mo.p_truB, Mo.p_truI, Mo.p_truN, Mo.p_truL, Mo.p_andV, Mo.p_andVT, Mo.p_andVF, Mo.p_orV, Mo.p_orVT, Mo.p_orVF, Mo.p_notV, Mo.p_notV1, Mo.p_ife, Mo.p_ifeT, Mo.p_ifeF, Mo.p_ch, Mo.p_ch1, Mo.p_ch2, Mo.p_ch3, Mo.p_ch4, Mo.p_an, Mo.p_ac, Mo.p_ac1, Mo.p_ac1e, Mo.p_ac2, Mo.p_ac2e, Mo.p_lst, Mo.p_lst1, Mo.p_lst2, Mo.p_tup, Mo.p_tup1, Mo.p_tup2, Mo.p_lsc, Mo.p_lsc1, Mo.p_cb, Mo.p_cb1, Mo.p_cb1e, Mo.p_call, Mo.p_call1, Mo.p_call1e, Mo.p_meth, Mo.p_meth1, Mo.p_meth2, Mo.p_meth2e, Mo.p_bm, Mo.p_bm1, Mo.p_bm2, Mo.p_fld, Mo.p_fld1, Mo.p_fld2, Mo.p_frz, Mo.p_frz1, Mo.p_frz2, Mo.p_isi, Mo.p_isiII, Mo.p_isiBI, Mo.p_isiLI, Mo.p_isiIB, Mo.p_isiBB, Mo.p_isiLL, Mo.p_isiTT, Mo.p_isiBN, Mo.p_isiBS, Mo.p_isiBL, Mo.p_sl, Mo.p_sl1, Mo.p_sl2, Mo.p_sl3, Mo.p_on, Mo.p_os, Mo.p_os1, Mo.p_mkK, Mo.p_mkK1, Mo.p_mkK2, Mo.p_mkF, Mo.p_mkF1, Mo.p_seq, Mo.p_seqN, Mo.p_seqR, Mo.p_seqB, Mo.p_seqC, Mo.p_seqE, Mo.p_nil, Mo.p_brk, Mo.p_cnt, Mo.p_ret, Mo.p_ret1, Mo.p_ret1e, Mo.p_retN, Mo.p_drop, Mo.p_drop1, Mo.p_drop1e, Mo.p_if, Mo.p_ifT, Mo.p_ifF, Mo.p_ifE, Mo.p_asg, Mo.p_asg1, Mo.p_asg1e, Mo.p_asgM, Mo.p_asgM1, Mo.p_asgM1e, Mo.p_asgM2, Mo.p_gq, Mo.p_gq2, Mo.p_gl0, Mo.p_gl1, Mo.p_gl2, Mo.p_gn, Mo.p_ga, Mo.p_ga1, Mo.p_ga2, Mo.p_aug, Mo.p_aug1, Mo.p_aug2, Mo.p_aug2e, Mo.p_aug3, Mo.p_nxM, Mo.p_fs, Mo.p_fs1, Mo.p_fs1e, Mo.p_fs2, Mo.p_fa, Mo.p_fa1, Mo.p_fa2, Mo.p_fa3, Mo.p_fa3e, Mo.p_fa4, Mo.p_ix, Mo.p_ix1, Mo.p_ix1e, Mo.p_ix2, Mo.p_ix3, Mo.p_sf, Mo.p_sf1, Mo.p_sf2, Mo.p_for, Mo.p_for1, Mo.p_iv, Mo.p_ivL, Mo.p_ivK, Mo.p_ivT, Mo.p_r1, Mo.p_r11, Mo.p_r2, Mo.p_r21, Mo.p_en, Mo.p_en1, Mo.p_zp, Mo.p_zp1, Mo.p_tgn, Mo.p_tgt, Mo.p_gs0, Mo.p_gs1, Mo.p_fl0, Mo.p_fl1, Mo.p_fl2, Mo.p_fl3, Mo.p_fl4, Mo.p_fl5, Mo.p_fl6, Mo.p_fl7, Mo.p_wh, Mo.p_ar, Mo.p_T, Mo.p_T1, Mo.p_T2, Mo.p_T3, Mo.p_fin, Mo.p_K, Mo.p_K1, Mo.p_K2, Mo.p_K3, Mo.p_R, Mo.p_R1, Mo.p_bnd, Mo.q_cat, Mo.q_rep, Mo.q_sub, Mo.q_add, Mo.q_addT, Mo.q_iadd, Mo.q_and, Mo.q_or, Mo.q_xor, Mo.q_lt, Mo.q_le, Mo.q_gt, Mo.q_ge, Mo.q_mod, Mo.q_div, Mo.q_shr, Mo.q_shl, Mo.q_pow, Mo.q_mulLf, Mo.q_mulRf, Mo.q_mulLt, Mo.q_mulRt, Mo.q_neg, Mo.q_eqI, Mo.q_neI, Mo.LIM, Mo.opt_some, Mo.opt_none, Mo.ds?, Mo.mkL, Mo.oIx, Mo.oSl, Mo.oLen, Mo.lenO, Mo.oAbs, Mo.oInt, Mo.oList, Mo.oTupOf, Mo.oIsN, Mo.isN, Mo.rdP, Mo.rdL, Mo.rdT, Mo.clsV, Mo.clsO, Mo.isLc, Mo.mApp, Mo.appO, Mo.mExt, Mo.fldO, Mo.isNo, Mo.stO, Mo.frzD, Mo.frz, Mo.setO, Mo.envOf, List.map_cons, List.map_nil, List.length_cons, List.length_nil, List.replicate_succ, List.replicate_zero, List.cons_append, List.nil_append, List.append_nil, List.append_assoc, List.getElem?_cons_zero, List.getElem?_cons_succ, List.set_cons_zero, List.set_cons_succ, Nat.reduceAdd, Nat.reduceSub, Nat.reduceLeDiff, Nat.reduceLT, Nat.reduceEqDiff, if_true, if_false, reduceIte, decide_true, decide_false, Bool.false_eq_true, and_self, true_and, and_true, Bool.and_self, Bool.true_and, Bool.and_true, Bool.not_true, Bool.not_false, Int.reduceToNat, Nat.reducePow, Int.cast_ofNat_Int, Int.reduceMul, Int.reduceAdd, Int.reduceSub, Int.reduceNeg, Mo.atI_l0, Mo.atI_l1, Mo.atI_l2, Mo.atI_l3, Mo.atI_l4, Mo.atI_l5, Mo.atI_l6, Mo.atI_l7, Mo.atI_l8, Mo.atI_l9, Mo.atI_l10, Mo.atI_l11, List.length_map, Mo.cut_map, Mo.get_top, Mo.get_top0, Mo.set_top, Mo.set_top0, Mo.take_topk, Mo.take_top, List.take_length, List.take_succ_cons, List.take_zero, List.length_append, Nat.lt_irrefl, Mo.wipeE]
  by_cases h1 : s < 16
  · simp (disch := first | omega | (simp only [List.length_map, List.length_cons, List.length_nil, List.length_append, List.length_replicate]; omega)) only [h1, e1, e2, Mo.p_op, Mo.p_op1, Mo.p_op1e, Mo.p_op2, Mo.p_op2e, Mo.p_un, Mo.p_un1, Mo.p_var, Mo.p_var1, Mo.p_c, Mo.p_test, Mo.p_test1, Mo.p_test2, Mo.p_and, Mo.p_andT, Mo.p_andF, Mo.p_or, Mo.p_orT, Mo.p_orF, Mo.p_not, Mo.p_not1, Mo.p_tru, Mo.p_truB, Mo.p_truI, Mo.p_truN, Mo.p_truL, Mo.p_andV, Mo.p_andVT, Mo.p_andVF, Mo.p_orV, Mo.p_orVT, Mo.p_orVF, Mo.p_notV, Mo.p_notV1, Mo.p_ife, Mo.p_ifeT, Mo.p_ifeF, Mo.p_ch, Mo.p_ch1, Mo.p_ch2, Mo.p_ch3, Mo.p_ch4, Mo.p_an, Mo.p_ac, Mo.p_ac1, Mo.p_ac1e, Mo.p_ac2, Mo.p_ac2e, Mo.p_lst, Mo.p_lst1, Mo.p_lst2, Mo.p_tup, Mo.p_tup1, Mo.p_tup2, Mo.p_lsc, Mo.p_lsc1, Mo.p_cb, Mo.p_cb1, Mo.p_cb1e, Mo.p_call, Mo.p_call1, Mo.p_call1e, Mo.p_meth, Mo.p_meth1, Mo.p_meth2, Mo.p_meth2e, Mo.p_bm, Mo.p_bm1, Mo.p_bm2, Mo.p_fld, Mo.p_fld1, Mo.p_fld2, Mo.p_frz, Mo.p_frz1, Mo.p_frz2, Mo.p_isi, Mo.p_isiII, Mo.p_isiBI, Mo.p_isiLI, Mo.p_isiIB, Mo.p_isiBB, Mo.p_isiLL, Mo.p_isiTT, Mo.p_isiBN, Mo.p_isiBS, Mo.p_isiBL, Mo.p_sl, Mo.p_sl1, Mo.p_sl2, Mo.p_sl3, Mo.p_on, Mo.p_os, Mo.p_os1, Mo.p_mkK, Mo.p_mkK1, Mo.p_mkK2, Mo.p_mkF, Mo.p_mkF1, Mo.p_seq, Mo.p_seqN, Mo.p_seqR, Mo.p_seqB, Mo.p_seqC, Mo.p_seqE, Mo.p_nil, Mo.p_brk, Mo.p_cnt, Mo.p_ret, Mo.p_ret1, Mo.p_ret1e, Mo.p_retN, Mo.p_drop, Mo.p_drop1, Mo.p_drop1e, Mo.p_if, Mo.p_ifT, Mo.p_ifF, Mo.p_ifE, Mo.p_asg, Mo.p_asg1, Mo.p_asg1e, Mo.p_asgM, Mo.p_asgM1, Mo.p_asgM1e, Mo.p_asgM2, Mo.p_gq, Mo.p_gq2, Mo.p_gl0, Mo.p_gl1, Mo.p_gl2, Mo.p_gn, Mo.p_ga, Mo.p_ga1, Mo.p_ga2, Mo.p_aug, Mo.p_aug1, Mo.p_aug2, Mo.p_aug2e, Mo.p_aug3, Mo.p_nxM, Mo.p_fs, Mo.p_fs1, Mo.p_fs1e, Mo.p_fs2, Mo.p_fa, Mo.p_fa1, Mo.p_fa2, Mo.p_fa3, Mo.p_fa3e, Mo.p_fa4, Mo.p_ix, Mo.p_ix1, Mo.p_ix1e, Mo.p_ix2, Mo.p_ix3, Mo.p_sf, Mo.p_sf1, Mo.p_sf2, Mo.p_for, Mo.p_for1, Mo.p_iv, Mo.p_ivL, Mo.p_ivK, Mo.p_ivT, Mo.p_r1, Mo.p_r11, Mo.p_r2, Mo.p_r21, Mo.p_en, Mo.p_en1, Mo.p_zp, Mo.p_zp1, Mo.p_tgn, Mo.p_tgt, Mo.p_gs0, Mo.p_gs1, Mo.p_fl0, Mo.p_fl1, Mo.p_fl2, Mo.p_fl3, Mo.p_fl4, Mo.p_fl5, Mo.p_fl6, Mo.p_fl7, Mo.p_wh, Mo.p_ar, Mo.p_T, Mo.p_T1, Mo.p_T2, Mo.p_T3, Mo.p_fin, Mo.p_K, Mo.p_K1, Mo.p_K2, Mo.p_K3, Mo.p_R, Mo.p_R1, Mo.p_bnd, Mo.q_cat, Mo.q_rep, Mo.q_sub, Mo.q_add, Mo.q_addT, Mo.q_iadd, Mo.q_and, Mo.q_or, Mo.q_xor, Mo.q_lt, Mo.q_le, Mo.q_gt, Mo.q_ge, Mo.q_mod, Mo.q_div, Mo.q_shr, Mo.q_shl, Mo.q_pow, Mo.q_mulLf, Mo.q_mulRf, Mo.q_mulLt, Mo.q_mulRt, Mo.q_neg, Mo.q_eqI, Mo.q_neI, Mo.LIM, Mo.opt_some, Mo.opt_none, Mo.ds?, Mo.mkL, Mo.oIx, Mo.oSl, Mo.oLen, Mo.lenO, Mo.oAbs, Mo.oInt, Mo.oList, Mo.oTupOf, Mo.oIsN, Mo.isN, Mo.rdP, Mo.rdL, Mo.rdT, Mo.clsV, Mo.clsO, Mo.isLc, Mo.mApp, Mo.appO, Mo.mExt, Mo.fldO, Mo.isNo, Mo.stO, Mo.frzD, Mo.frz, Mo.setO, Mo.envOf, List.map_cons, List.map_nil, List.length_cons, List.length_nil, List.replicate_succ, List.replicate_zero, List.cons_append, List.nil_append, List.append_nil, List.append_assoc, List.getElem?_cons_zero, List.getElem?_cons_succ, List.set_cons_zero, List.set_cons_succ, Nat.reduceAdd, Nat.reduceSub, Nat.reduceLeDiff, Nat.reduceLT, Nat.reduceEqDiff, if_true, if_false, reduceIte, decide_true, decide_false, Bool.false_eq_true, and_self, true_and, and_true, Bool.and_self, Bool.true_and, Bool.and_true, Bool.not_true, Bool.not_false, Int.reduceToNat, Nat.reducePow, Int.cast_ofNat_Int, Int.reduceMul, Int.reduceAdd, Int.reduceSub, Int.reduceNeg, Mo.atI_l0, Mo.atI_l1, Mo.atI_l2, Mo.atI_l3, Mo.atI_l4, Mo.atI_l5, Mo.atI_l6, Mo.atI_l7, Mo.atI_l8, Mo.atI_l9, Mo.atI_l10, Mo.atI_l11, List.length_map, Mo.cut_map, Mo.get_top, Mo.get_top0, Mo.set_top, Mo.set_top0, Mo.take_topk, Mo.take_top, List.take_length, List.take_succ_cons, List.take_zero, List.length_append, Nat.lt_irrefl, Mo.wipeE]

  · simp (disch := first | omega | (simp only [List.length_map, List.length_cons, List.length_nil, List.length_append, List.length_replicate]; omega)) only [h1, Mo.p_op, Mo.p_op1, Mo.p_op1e, Mo.p_op2, Mo.p_op2e, Mo.p_un, Mo.p_un1, Mo.p_var, Mo.p_var1, Mo.p_c, Mo.p_test, Mo.p_test1, Mo.p_test2, Mo.p_and, Mo.p_andT, Mo.p_andF, Mo.p_or, Mo.p_orT, Mo.p_orF, Mo.p_not, Mo.p_not1, Mo.p_tru, Mo.p_truB, Mo.p_truI, Mo.p_truN, Mo.p_truL, Mo.p_andV, Mo.p_andVT, Mo.p_andVF, Mo.p_orV, Mo.p_orVT, Mo.p_orVF, Mo.p_notV, Mo.p_notV1, Mo.p_ife, Mo.p_ifeT, Mo.p_ifeF, Mo.p_ch, Mo.p_ch1, Mo.p_ch2, Mo.p_ch3, Mo.p_ch4, Mo.p_an, Mo.p_ac, Mo.p_ac1, Mo.p_ac1e, Mo.p_ac2, Mo.p_ac2e, Mo.p_lst, Mo.p_lst1, Mo.p_lst2, Mo.p_tup, Mo.p_tup1, Mo.p_tup2, Mo.p_lsc, Mo.p_lsc1, Mo.p_cb, Mo.p_cb1, Mo.p_cb1e, Mo.p_call, Mo.p_call1, Mo.p_call1e, Mo.p_meth, Mo.p_meth1, Mo.p_meth2, Mo.p_meth2e, Mo.p_bm, Mo.p_bm1, Mo.p_bm2, Mo.p_fld, Mo.p_fld1, Mo.p_fld2, Mo.p_frz, Mo.p_frz1, Mo.p_frz2, Mo.p_isi, Mo.p_isiII, Mo.p_isiBI, Mo.p_isiLI, Mo.p_isiIB, Mo.p_isiBB, Mo.p_isiLL, Mo.p_isiTT, Mo.p_isiBN, Mo.p_isiBS, Mo.p_isiBL, Mo.p_sl, Mo.p_sl1, Mo.p_sl2, Mo.p_sl3, Mo.p_on, Mo.p_os, Mo.p_os1, Mo.p_mkK, Mo.p_mkK1, Mo.p_mkK2, Mo.p_mkF, Mo.p_mkF1, Mo.p_seq, Mo.p_seqN, Mo.p_seqR, Mo.p_seqB, Mo.p_seqC, Mo.p_seqE, Mo.p_nil, Mo.p_brk, Mo.p_cnt, Mo.p_ret, Mo.p_ret1, Mo.p_ret1e, Mo.p_retN, Mo.p_drop, Mo.p_drop1, Mo.p_drop1e, Mo.p_if, Mo.p_ifT, Mo.p_ifF, Mo.p_ifE, Mo.p_asg, Mo.p_asg1, Mo.p_asg1e, Mo.p_asgM, Mo.p_asgM1, Mo.p_asgM1e, Mo.p_asgM2, Mo.p_gq, Mo.p_gq2, Mo.p_gl0, Mo.p_gl1, Mo.p_gl2, Mo.p_gn, Mo.p_ga, Mo.p_ga1, Mo.p_ga2, Mo.p_aug, Mo.p_aug1, Mo.p_aug2, Mo.p_aug2e, Mo.p_aug3, Mo.p_nxM, Mo.p_fs, Mo.p_fs1, Mo.p_fs1e, Mo.p_fs2, Mo.p_fa, Mo.p_fa1, Mo.p_fa2, Mo.p_fa3, Mo.p_fa3e, Mo.p_fa4, Mo.p_ix, Mo.p_ix1, Mo.p_ix1e, Mo.p_ix2, Mo.p_ix3, Mo.p_sf, Mo.p_sf1, Mo.p_sf2, Mo.p_for, Mo.p_for1, Mo.p_iv, Mo.p_ivL, Mo.p_ivK, Mo.p_ivT, Mo.p_r1, Mo.p_r11, Mo.p_r2, Mo.p_r21, Mo.p_en, Mo.p_en1, Mo.p_zp, Mo.p_zp1, Mo.p_tgn, Mo.p_tgt, Mo.p_gs0, Mo.p_gs1, Mo.p_fl0, Mo.p_fl1, Mo.p_fl2, Mo.p_fl3, Mo.p_fl4, Mo.p_fl5, Mo.p_fl6, Mo.p_fl7, Mo.p_wh, Mo.p_ar, Mo.p_T, Mo.p_T1, Mo.p_T2, Mo.p_T3, Mo.p_fin, Mo.p_K, Mo.p_K1, Mo.p_K2, Mo.p_K3, Mo.p_R, Mo.p_R1, Mo.p_bnd, Mo.q_cat, Mo.q_rep, Mo.q_sub, Mo.q_add, Mo.q_addT, Mo.q_iadd, Mo.q_and, Mo.q_or, Mo.q_xor, Mo.q_lt, Mo.q_le, Mo.q_gt, Mo.q_ge, Mo.q_mod, Mo.q_div, Mo.q_shr, Mo.q_shl, Mo.q_pow, Mo.q_mulLf, Mo.q_mulRf, Mo.q_mulLt, Mo.q_mulRt, Mo.q_neg, Mo.q_eqI, Mo.q_neI, Mo.LIM, Mo.opt_some, Mo.opt_none, Mo.ds?, Mo.mkL, Mo.oIx, Mo.oSl, Mo.oLen, Mo.lenO, Mo.oAbs, Mo.oInt, Mo.oList, Mo.oTupOf, Mo.oIsN, Mo.isN, Mo.rdP, Mo.rdL, Mo.rdT, Mo.clsV, Mo.clsO, Mo.isLc, Mo.mApp, Mo.appO, Mo.mExt, Mo.fldO, Mo.isNo, Mo.stO, Mo.frzD, Mo.frz, Mo.setO, Mo.envOf, List.map_cons, List.map_nil, List.length_cons, List.length_nil, List.replicate_succ, List.replicate_zero, List.cons_append, List.nil_append, List.append_nil, List.append_assoc, List.getElem?_cons_zero, List.getElem?_cons_succ, List.set_cons_zero, List.set_cons_succ, Nat.reduceAdd, Nat.reduceSub, Nat.reduceLeDiff, Nat.reduceLT, Nat.reduceEqDiff, if_true, if_false, reduceIte, decide_true, decide_false, Bool.false_eq_true, and_self, true_and, and_true, Bool.and_self, Bool.true_and, Bool.and_true, Bool.not_true, Bool.not_false, Int.reduceToNat, Nat.reducePow, Int.cast_ofNat_Int, Int.reduceMul, Int.reduceAdd, Int.reduceSub, Int.reduceNeg, Mo.atI_l0, Mo.atI_l1, Mo.atI_l2, Mo.atI_l3, Mo.atI_l4, Mo.atI_l5, Mo.atI_l6, Mo.atI_l7, Mo.atI_l8, Mo.atI_l9, Mo.atI_l10, Mo.atI_l11, List.length_map, Mo.cut_map, Mo.get_top, Mo.get_top0, Mo.set_top, Mo.set_top0, Mo.take_topk, Mo.take_top, List.take_length, List.take_succ_cons, List.take_zero, List.length_append, Nat.lt_irrefl, Mo.wipeE]
    by_cases h2 : s < 32
    · simp (disch := first | omega | (simp only [List.length_map, List.length_cons, List.length_nil, List.length_append, List.length_replicate]; omega)) only [h2, e1, e2, Mo.p_op, Mo.p_op1, Mo.p_op1e, Mo.p_op2, Mo.p_op2e, Mo.p_un, Mo.p_un1, Mo.p_var, Mo.p_var1, Mo.p_c, Mo.p_test, Mo.p_test1, Mo.p_test2, Mo.p_and, Mo.p_andT, Mo.p_andF, Mo.p_or, Mo.p_orT, Mo.p_orF, Mo.p_not, Mo.p_not1, Mo.p_tru, Mo.p_truB, Mo.p_truI, Mo.p_truN, Mo.p_truL, Mo.p_andV, Mo.p_andVT, Mo.p_andVF, Mo.p_orV, Mo.p_orVT, Mo.p_orVF, Mo.p_notV, Mo.p_notV1, Mo.p_ife, Mo.p_ifeT, Mo.p_ifeF, Mo.p_ch, Mo.p_ch1, Mo.p_ch2, Mo.p_ch3, Mo.p_ch4, Mo.p_an, Mo.p_ac, Mo.p_ac1, Mo.p_ac1e, Mo.p_ac2, Mo.p_ac2e, Mo.p_lst, Mo.p_lst1, Mo.p_lst2, Mo.p_tup, Mo.p_tup1, Mo.p_tup2, Mo.p_lsc, Mo.p_lsc1, Mo.p_cb, Mo.p_cb1, Mo.p_cb1e, Mo.p_call, Mo.p_call1, Mo.p_call1e, Mo.p_meth, Mo.p_meth1, Mo.p_meth2, Mo.p_meth2e, Mo.p_bm, Mo.p_bm1, Mo.p_bm2, Mo.p_fld, Mo.p_fld1, Mo.p_fld2, Mo.p_frz, Mo.p_frz1, Mo.p_frz2, Mo.p_isi, Mo.p_isiII, Mo.p_isiBI, Mo.p_isiLI, Mo.p_isiIB, Mo.p_isiBB, Mo.p_isiLL, Mo.p_isiTT, Mo.p_isiBN, Mo.p_isiBS, Mo.p_isiBL, Mo.p_sl, Mo.p_sl1, Mo.p_sl2, Mo.p_sl3, Mo.p_on, Mo.p_os, Mo.p_os1, Mo.p_mkK, Mo.p_mkK1, Mo.p_mkK2, Mo.p_mkF, Mo.p_mkF1, Mo.p_seq, Mo.p_seqN, Mo.p_seqR, Mo.p_seqB, Mo.p_seqC, Mo.p_seqE, Mo.p_nil, Mo.p_brk, Mo.p_cnt, Mo.p_ret, Mo.p_ret1, Mo.p_ret1e, Mo.p_retN, Mo.p_drop, Mo.p_drop1, Mo.p_drop1e, Mo.p_if, Mo.p_ifT, Mo.p_ifF, Mo.p_ifE, Mo.p_asg, Mo.p_asg1, Mo.p_asg1e, Mo.p_asgM, Mo.p_asgM1, Mo.p_asgM1e, Mo.p_asgM2, Mo.p_gq, Mo.p_gq2, Mo.p_gl0, Mo.p_gl1, Mo.p_gl2, Mo.p_gn, Mo.p_ga, Mo.p_ga1, Mo.p_ga2, Mo.p_aug, Mo.p_aug1, Mo.p_aug2, Mo.p_aug2e, Mo.p_aug3, Mo.p_nxM, Mo.p_fs, Mo.p_fs1, Mo.p_fs1e, Mo.p_fs2, Mo.p_fa, Mo.p_fa1, Mo.p_fa2, Mo.p_fa3, Mo.p_fa3e, Mo.p_fa4, Mo.p_ix, Mo.p_ix1, Mo.p_ix1e, Mo.p_ix2, Mo.p_ix3, Mo.p_sf, Mo.p_sf1, Mo.p_sf2, Mo.p_for, Mo.p_for1, Mo.p_iv, Mo.p_ivL, Mo.p_ivK, Mo.p_ivT, Mo.p_r1, Mo.p_r11, Mo.p_r2, Mo.p_r21, Mo.p_en, Mo.p_en1, Mo.p_zp, Mo.p_zp1, Mo.p_tgn, Mo.p_tgt, Mo.p_gs0, Mo.p_gs1, Mo.p_fl0, Mo.p_fl1, Mo.p_fl2, Mo.p_fl3, Mo.p_fl4, Mo.p_fl5, Mo.p_fl6, Mo.p_fl7, Mo.p_wh, Mo.p_ar, Mo.p_T, Mo.p_T1, Mo.p_T2, Mo.p_T3, Mo.p_fin, Mo.p_K, Mo.p_K1, Mo.p_K2, Mo.p_K3, Mo.p_R, Mo.p_R1, Mo.p_bnd, Mo.q_cat, Mo.q_rep, Mo.q_sub, Mo.q_add, Mo.q_addT, Mo.q_iadd, Mo.q_and, Mo.q_or, Mo.q_xor, Mo.q_lt, Mo.q_le, Mo.q_gt, Mo.q_ge, Mo.q_mod, Mo.q_div, Mo.q_shr, Mo.q_shl, Mo.q_pow, Mo.q_mulLf, Mo.q_mulRf, Mo.q_mulLt, Mo.q_mulRt, Mo.q_neg, Mo.q_eqI, Mo.q_neI, Mo.LIM, Mo.opt_some, Mo.opt_none, Mo.ds?, Mo.mkL, Mo.oIx, Mo.oSl, Mo.oLen, Mo.lenO, Mo.oAbs, Mo.oInt, Mo.oList, Mo.oTupOf, Mo.oIsN, Mo.isN, Mo.rdP, Mo.rdL, Mo.rdT, Mo.clsV, Mo.clsO, Mo.isLc, Mo.mApp, Mo.appO, Mo.mExt, Mo.fldO, Mo.isNo, Mo.stO, Mo.frzD, Mo.frz, Mo.setO, Mo.envOf, List.map_cons, List.map_nil, List.length_cons, List.length_nil, List.replicate_succ, List.replicate_zero, List.cons_append, List.nil_append, List.append_nil, List.append_assoc, List.getElem?_cons_zero, List.getElem?_cons_succ, List.set_cons_zero, List.set_cons_succ, Nat.reduceAdd, Nat.reduceSub, Nat.reduceLeDiff, Nat.reduceLT, Nat.reduceEqDiff, if_true, if_false, reduceIte, decide_true, decide_false, Bool.false_eq_true, and_self, true_and, and_true, Bool.and_self, Bool.true_and, Bool.and_true, Bool.not_true, Bool.not_false, Int.reduceToNat, Nat.reducePow, Int.cast_ofNat_Int, Int.reduceMul, Int.reduceAdd, Int.reduceSub, Int.reduceNeg, Mo.atI_l0, Mo.atI_l1, Mo.atI_l2, Mo.atI_l3, Mo.atI_l4, Mo.atI_l5, Mo.atI_l6, Mo.atI_l7, Mo.atI_l8, Mo.atI_l9, Mo.atI_l10, Mo.atI_l11, List.length_map, Mo.cut_map, Mo.get_top, Mo.get_top0, Mo.set_top, Mo.set_top0, Mo.take_topk, Mo.take_top, List.take_length, List.take_succ_cons, List.take_zero, List.length_append, Nat.lt_irrefl, Mo.wipeE]

    · simp (disch := first | omega | (simp only [List.length_map, List.length_cons, List.length_nil, List.length_append, List.length_replicate]; omega)) only [h2, Mo.p_op, Mo.p_op1, Mo.p_op1e, Mo.p_op2, Mo.p_op2e, Mo.p_un, Mo.p_un1, Mo.p_var, Mo.p_var1, Mo.p_c, Mo.p_test, Mo.p_test1, Mo.p_test2, Mo.p_and, Mo.p_andT, Mo.p_andF, Mo.p_or, Mo.p_orT, Mo.p_orF, Mo.p_not, Mo.p_not1, Mo.p_tru, Mo.p_truB, Mo.p_truI, Mo.p_truN, Mo.p_truL, Mo.p_andV, Mo.p_andVT, Mo.p_andVF, Mo.p_orV, Mo.p_orVT, Mo.p_orVF, Mo.p_notV, Mo.p_notV1, Mo.p_ife, Mo.p_ifeT, Mo.p_ifeF, Mo.p_ch, Mo.p_ch1, Mo.p_ch2, Mo.p_ch3, Mo.p_ch4, Mo.p_an, Mo.p_ac, Mo.p_ac1, Mo.p_ac1e, Mo.p_ac2, Mo.p_ac2e, Mo.p_lst, Mo.p_lst1, Mo.p_lst2, Mo.p_tup, Mo.p_tup1, Mo.p_tup2, Mo.p_lsc, Mo.p_lsc1, Mo.p_cb, Mo.p_cb1, Mo.p_cb1e, Mo.p_call, Mo.p_call1, Mo.p_call1e, Mo.p_meth, Mo.p_meth1, Mo.p_meth2, Mo.p_meth2e, Mo.p_bm, Mo.p_bm1, Mo.p_bm2, Mo.p_fld, Mo.p_fld1, Mo.p_fld2, Mo.p_frz, Mo.p_frz1, Mo.p_frz2, Mo.p_isi, Mo.p_isiII, Mo.p_isiBI, Mo.p_isiLI, Mo.p_isiIB, Mo.p_isiBB, Mo.p_isiLL, Mo.p_isiTT, Mo.p_isiBN, Mo.p_isiBS, Mo.p_isiBL, Mo.p_sl, Mo.p_sl1, Mo.p_sl2, Mo.p_sl3, Mo.p_on, Mo.p_os, Mo.p_os1, Mo.p_mkK, Mo.p_mkK1, Mo.p_mkK2, Mo.p_mkF, Mo.p_mkF1, Mo.p_seq, Mo.p_seqN, Mo.p_seqR, Mo.p_seqB, Mo.p_seqC, Mo.p_seqE, Mo.p_nil, Mo.p_brk, Mo.p_cnt, Mo.p_ret, Mo.p_ret1, Mo.p_ret1e, Mo.p_retN, Mo.p_drop, Mo.p_drop1, Mo.p_drop1e, Mo.p_if, Mo.p_ifT, Mo.p_ifF, Mo.p_ifE, Mo.p_asg, Mo.p_asg1, Mo.p_asg1e, Mo.p_asgM, Mo.p_asgM1, Mo.p_asgM1e, Mo.p_asgM2, Mo.p_gq, Mo.p_gq2, Mo.p_gl0, Mo.p_gl1, Mo.p_gl2, Mo.p_gn, Mo.p_ga, Mo.p_ga1, Mo.p_ga2, Mo.p_aug, Mo.p_aug1, Mo.p_aug2, Mo.p_aug2e, Mo.p_aug3, Mo.p_nxM, Mo.p_fs, Mo.p_fs1, Mo.p_fs1e, Mo.p_fs2, Mo.p_fa, Mo.p_fa1, Mo.p_fa2, Mo.p_fa3, Mo.p_fa3e, Mo.p_fa4, Mo.p_ix, Mo.p_ix1, Mo.p_ix1e, Mo.p_ix2, Mo.p_ix3, Mo.p_sf, Mo.p_sf1, Mo.p_sf2, Mo.p_for, Mo.p_for1, Mo.p_iv, Mo.p_ivL, Mo.p_ivK, Mo.p_ivT, Mo.p_r1, Mo.p_r11, Mo.p_r2, Mo.p_r21, Mo.p_en, Mo.p_en1, Mo.p_zp, Mo.p_zp1, Mo.p_tgn, Mo.p_tgt, Mo.p_gs0, Mo.p_gs1, Mo.p_fl0, Mo.p_fl1, Mo.p_fl2, Mo.p_fl3, Mo.p_fl4, Mo.p_fl5, Mo.p_fl6, Mo.p_fl7, Mo.p_wh, Mo.p_ar, Mo.p_T, Mo.p_T1, Mo.p_T2, Mo.p_T3, Mo.p_fin, Mo.p_K, Mo.p_K1, Mo.p_K2, Mo.p_K3, Mo.p_R, Mo.p_R1, Mo.p_bnd, Mo.q_cat, Mo.q_rep, Mo.q_sub, Mo.q_add, Mo.q_addT, Mo.q_iadd, Mo.q_and, Mo.q_or, Mo.q_xor, Mo.q_lt, Mo.q_le, Mo.q_gt, Mo.q_ge, Mo.q_mod, Mo.q_div, Mo.q_shr, Mo.q_shl, Mo.q_pow, Mo.q_mulLf, Mo.q_mulRf, Mo.q_mulLt, Mo.q_mulRt, Mo.q_neg, Mo.q_eqI, Mo.q_neI, Mo.LIM, Mo.opt_some, Mo.opt_none, Mo.ds?, Mo.mkL, Mo.oIx, Mo.oSl, Mo.oLen, Mo.lenO, Mo.oAbs, Mo.oInt, Mo.oList, Mo.oTupOf, Mo.oIsN, Mo.isN, Mo.rdP, Mo.rdL, Mo.rdT, Mo.clsV, Mo.clsO, Mo.isLc, Mo.mApp, Mo.appO, Mo.mExt, Mo.fldO, Mo.isNo, Mo.stO, Mo.frzD, Mo.frz, Mo.setO, Mo.envOf, List.map_cons, List.map_nil, List.length_cons, List.length_nil, List.replicate_succ, List.replicate_zero, List.cons_append, List.nil_append, List.append_nil, List.append_assoc, List.getElem?_cons_zero, List.getElem?_cons_succ, List.set_cons_zero, List.set_cons_succ, Nat.reduceAdd, Nat.reduceSub, Nat.reduceLeDiff, Nat.reduceLT, Nat.reduceEqDiff, if_true, if_false, reduceIte, decide_true, decide_false, Bool.false_eq_true, and_self, true_and, and_true, Bool.and_self, Bool.true_and, Bool.and_true, Bool.not_true, Bool.not_false, Int.reduceToNat, Nat.reducePow, Int.cast_ofNat_Int, Int.reduceMul, Int.reduceAdd, Int.reduceSub, Int.reduceNeg, Mo.atI_l0, Mo.atI_l1, Mo.atI_l2, Mo.atI_l3, Mo.atI_l4, Mo.atI_l5, Mo.atI_l6, Mo.atI_l7, Mo.atI_l8, Mo.atI_l9, Mo.atI_l10, Mo.atI_l11, List.length_map, Mo.cut_map, Mo.get_top, Mo.get_top0, Mo.set_top, Mo.set_top0, Mo.take_topk, Mo.take_top, List.take_length, List.take_succ_cons, List.take_zero, List.length_append, Nat.lt_irrefl, Mo.wipeE]
      by_cases h3 : s < 48
      · simp (disch := first | omega | (simp only [List.length_map, List.length_cons, List.length_nil, List.length_append, List.length_replicate]; omega)) only [h3, e1, e2, Mo.p_op, Mo.p_op1, Mo.p_op1e, Mo.p_op2, Mo.p_op2e, Mo.p_un, Mo.p_un1, Mo.p_var, Mo.p_var1, Mo.p_c, Mo.p_test, Mo.p_test1, Mo.p_test2, Mo.p_and, Mo.p_andT, Mo.p_andF, Mo.p_or, Mo.p_orT, Mo.p_orF, Mo.p_not, Mo.p_not1, Mo.p_tru, Mo.p_truB, Mo.p_truI, Mo.p_truN, Mo.p_truL, Mo.p_andV, Mo.p_andVT, Mo.p_andVF, Mo.p_orV, Mo.p_orVT, Mo.p_orVF, Mo.p_notV, Mo.p_notV1, Mo.p_ife, Mo.p_ifeT, Mo.p_ifeF, Mo.p_ch, Mo.p_ch1, Mo.p_ch2, Mo.p_ch3, Mo.p_ch4, Mo.p_an, Mo.p_ac, Mo.p_ac1, Mo.p_ac1e, Mo.p_ac2, Mo.p_ac2e, Mo.p_lst, Mo.p_lst1, Mo.p_lst2, Mo.p_tup, Mo.p_tup1, Mo.p_tup2, Mo.p_lsc, Mo.p_lsc1, Mo.p_cb, Mo.p_cb1, Mo.p_cb1e, Mo.p_call, Mo.p_call1, Mo.p_call1e, Mo.p_meth, Mo.p_meth1, Mo.p_meth2, Mo.p_meth2e, Mo.p_bm, Mo.p_bm1, Mo.p_bm2, Mo.p_fld, Mo.p_fld1, Mo.p_fld2, Mo.p_frz, Mo.p_frz1, Mo.p_frz2, Mo.p_isi, Mo.p_isiII, Mo.p_isiBI, Mo.p_isiLI, Mo.p_isiIB, Mo.p_isiBB, Mo.p_isiLL, Mo.p_isiTT, Mo.p_isiBN, Mo.p_isiBS, Mo.p_isiBL, Mo.p_sl, Mo.p_sl1, Mo.p_sl2, Mo.p_sl3, Mo.p_on, Mo.p_os, Mo.p_os1, Mo.p_mkK, Mo.p_mkK1, Mo.p_mkK2, Mo.p_mkF, Mo.p_mkF1, Mo.p_seq, Mo.p_seqN, Mo.p_seqR, Mo.p_seqB, Mo.p_seqC, Mo.p_seqE, Mo.p_nil, Mo.p_brk, Mo.p_cnt, Mo.p_ret, Mo.p_ret1, Mo.p_ret1e, Mo.p_retN, Mo.p_drop, Mo.p_drop1, Mo.p_drop1e, Mo.p_if, Mo.p_ifT, Mo.p_ifF, Mo.p_ifE, Mo.p_asg, Mo.p_asg1, Mo.p_asg1e, Mo.p_asgM, Mo.p_asgM1, Mo.p_asgM1e, Mo.p_asgM2, Mo.p_gq, Mo.p_gq2, Mo.p_gl0, Mo.p_gl1, Mo.p_gl2, Mo.p_gn, Mo.p_ga, Mo.p_ga1, Mo.p_ga2, Mo.p_aug, Mo.p_aug1, Mo.p_aug2, Mo.p_aug2e, Mo.p_aug3, Mo.p_nxM, Mo.p_fs, Mo.p_fs1, Mo.p_fs1e, Mo.p_fs2, Mo.p_fa, Mo.p_fa1, Mo.p_fa2, Mo.p_fa3, Mo.p_fa3e, Mo.p_fa4, Mo.p_ix, Mo.p_ix1, Mo.p_ix1e, Mo.p_ix2, Mo.p_ix3, Mo.p_sf, Mo.p_sf1, Mo.p_sf2, Mo.p_for, Mo.p_for1, Mo.p_iv, Mo.p_ivL, Mo.p_ivK, Mo.p_ivT, Mo.p_r1, Mo.p_r11, Mo.p_r2, Mo.p_r21, Mo.p_en, Mo.p_en1, Mo.p_zp, Mo.p_zp1, Mo.p_tgn, Mo.p_tgt, Mo.p_gs0, Mo.p_gs1, Mo.p_fl0, Mo.p_fl1, Mo.p_fl2, Mo.p_fl3, Mo.p_fl4, Mo.p_fl5, Mo.p_fl6, Mo.p_fl7, Mo.p_wh, Mo.p_ar, Mo.p_T, Mo.p_T1, Mo.p_T2, Mo.p_T3, Mo.p_fin, Mo.p_K, Mo.p_K1, Mo.p_K2, Mo.p_K3, Mo.p_R, Mo.p_R1, Mo.p_bnd, Mo.q_cat, Mo.q_rep, Mo.q_sub, Mo.q_add, Mo.q_addT, Mo.q_iadd, Mo.q_and, Mo.q_or, Mo.q_xor, Mo.q_lt, Mo.q_le, Mo.q_gt, Mo.q_ge, Mo.q_mod, Mo.q_div, Mo.q_shr, Mo.q_shl, Mo.q_pow, Mo.q_mulLf, Mo.q_mulRf, Mo.q_mulLt, Mo.q_mulRt, Mo.q_neg, Mo.q_eqI, Mo.q_neI, Mo.LIM, Mo.opt_some, Mo.opt_none, Mo.ds?, Mo.mkL, Mo.oIx, Mo.oSl, Mo.oLen, Mo.lenO, Mo.oAbs, Mo.oInt, Mo.oList, Mo.oTupOf, Mo.oIsN, Mo.isN, Mo.rdP, Mo.rdL, Mo.rdT, Mo.clsV, Mo.clsO, Mo.isLc, Mo.mApp, Mo.appO, Mo.mExt, Mo.fldO, Mo.isNo, Mo.stO, Mo.frzD, Mo.frz, Mo.setO, Mo.envOf, List.map_cons, List.map_nil, List.length_cons, List.length_nil, List.replicate_succ, List.replicate_zero, List.cons_append, List.nil_append, List.append_nil, List.append_assoc, List.getElem?_cons_zero, List.getElem?_cons_succ, List.set_cons_zero, List.set_cons_succ, Nat.reduceAdd, Nat.reduceSub, Nat.reduceLeDiff, Nat.reduceLT, Nat.reduceEqDiff, if_true, if_false, reduceIte, decide_true, decide_false, Bool.false_eq_true, and_self, true_and, and_true, Bool.and_self, Bool.true_and, Bool.and_true, Bool.not_true, Bool.not_false, Int.reduceToNat, Nat.reducePow, Int.cast_ofNat_Int, Int.reduceMul, Int.reduceAdd, Int.reduceSub, Int.reduceNeg, Mo.atI_l0, Mo.atI_l1, Mo.atI_l2, Mo.atI_l3, Mo.atI_l4, Mo.atI_l5, Mo.atI_l6, Mo.atI_l7, Mo.atI_l8, Mo.atI_l9, Mo.atI_l10, Mo.atI_l11, List.length_map, Mo.cut_map, Mo.get_top, Mo.get_top0, Mo.set_top, Mo.set_top0, Mo.take_topk, Mo.take_top, List.take_length, List.take_succ_cons, List.take_zero, List.length_append, Nat.lt_irrefl, Mo.wipeE]

      · simp (disch := first | omega | (simp only [List.length_map, List.length_cons, List.length_nil, List.length_append, List.length_replicate]; omega)) only [h3, e1, e2, Mo.p_op, Mo.p_op1, Mo.p_op1e, Mo.p_op2, Mo.p_op2e, Mo.p_un, Mo.p_un1, Mo.p_var, Mo.p_var1, Mo.p_c, Mo.p_test, Mo.p_test1, Mo.p_test2, Mo.p_and, Mo.p_andT, Mo.p_andF, Mo.p_or, Mo.p_orT, Mo.p_orF, Mo.p_not, Mo.p_not1, Mo.p_tru, Mo.p_truB, Mo.p_truI, Mo.p_truN, Mo.p_truL, Mo.p_andV, Mo.p_andVT, Mo.p_andVF, Mo.p_orV, Mo.p_orVT, Mo.p_orVF, Mo.p_notV, Mo.p_notV1, Mo.p_ife, Mo.p_ifeT, Mo.p_ifeF, Mo.p_ch, Mo.p_ch1, Mo.p_ch2, Mo.p_ch3, Mo.p_ch4, Mo.p_an, Mo.p_ac, Mo.p_ac1, Mo.p_ac1e, Mo.p_ac2, Mo.p_ac2e, Mo.p_lst, Mo.p_lst1, Mo.p_lst2, Mo.p_tup, Mo.p_tup1, Mo.p_tup2, Mo.p_lsc, Mo.p_lsc1, Mo.p_cb, Mo.p_cb1, Mo.p_cb1e, Mo.p_call, Mo.p_call1, Mo.p_call1e, Mo.p_meth, Mo.p_meth1, Mo.p_meth2, Mo.p_meth2e, Mo.p_bm, Mo.p_bm1, Mo.p_bm2, Mo.p_fld, Mo.p_fld1, Mo.p_fld2, Mo.p_frz, Mo.p_frz1, Mo.p_frz2, Mo.p_isi, Mo.p_isiII, Mo.p_isiBI, Mo.p_isiLI, Mo.p_isiIB, Mo.p_isiBB, Mo.p_isiLL, Mo.p_isiTT, Mo.p_isiBN, Mo.p_isiBS, Mo.p_isiBL, Mo.p_sl, Mo.p_sl1, Mo.p_sl2, Mo.p_sl3, Mo.p_on, Mo.p_os, Mo.p_os1, Mo.p_mkK, Mo.p_mkK1, Mo.p_mkK2, Mo.p_mkF, Mo.p_mkF1, Mo.p_seq, Mo.p_seqN, Mo.p_seqR, Mo.p_seqB, Mo.p_seqC, Mo.p_seqE, Mo.p_nil, Mo.p_brk, Mo.p_cnt, Mo.p_ret, Mo.p_ret1, Mo.p_ret1e, Mo.p_retN, Mo.p_drop, Mo.p_drop1, Mo.p_drop1e, Mo.p_if, Mo.p_ifT, Mo.p_ifF, Mo.p_ifE, Mo.p_asg, Mo.p_asg1, Mo.p_asg1e, Mo.p_asgM, Mo.p_asgM1, Mo.p_asgM1e, Mo.p_asgM2, Mo.p_gq, Mo.p_gq2, Mo.p_gl0, Mo.p_gl1, Mo.p_gl2, Mo.p_gn, Mo.p_ga, Mo.p_ga1, Mo.p_ga2, Mo.p_aug, Mo.p_aug1, Mo.p_aug2, Mo.p_aug2e, Mo.p_aug3, Mo.p_nxM, Mo.p_fs, Mo.p_fs1, Mo.p_fs1e, Mo.p_fs2, Mo.p_fa, Mo.p_fa1, Mo.p_fa2, Mo.p_fa3, Mo.p_fa3e, Mo.p_fa4, Mo.p_ix, Mo.p_ix1, Mo.p_ix1e, Mo.p_ix2, Mo.p_ix3, Mo.p_sf, Mo.p_sf1, Mo.p_sf2, Mo.p_for, Mo.p_for1, Mo.p_iv, Mo.p_ivL, Mo.p_ivK, Mo.p_ivT, Mo.p_r1, Mo.p_r11, Mo.p_r2, Mo.p_r21, Mo.p_en, Mo.p_en1, Mo.p_zp, Mo.p_zp1, Mo.p_tgn, Mo.p_tgt, Mo.p_gs0, Mo.p_gs1, Mo.p_fl0, Mo.p_fl1, Mo.p_fl2, Mo.p_fl3, Mo.p_fl4, Mo.p_fl5, Mo.p_fl6, Mo.p_fl7, Mo.p_wh, Mo.p_ar, Mo.p_T, Mo.p_T1, Mo.p_T2, Mo.p_T3, Mo.p_fin, Mo.p_K, Mo.p_K1, Mo.p_K2, Mo.p_K3, Mo.p_R, Mo.p_R1, Mo.p_bnd, Mo.q_cat, Mo.q_rep, Mo.q_sub, Mo.q_add, Mo.q_addT, Mo.q_iadd, Mo.q_and, Mo.q_or, Mo.q_xor, Mo.q_lt, Mo.q_le, Mo.q_gt, Mo.q_ge, Mo.q_mod, Mo.q_div, Mo.q_shr, Mo.q_shl, Mo.q_pow, Mo.q_mulLf, Mo.q_mulRf, Mo.q_mulLt, Mo.q_mulRt, Mo.q_neg, Mo.q_eqI, Mo.q_neI, Mo.LIM, Mo.opt_some, Mo.opt_none, Mo.ds?, Mo.mkL, Mo.oIx, Mo.oSl, Mo.oLen, Mo.lenO, Mo.oAbs, Mo.oInt, Mo.oList, Mo.oTupOf, Mo.oIsN, Mo.isN, Mo.rdP, Mo.rdL, Mo.rdT, Mo.clsV, Mo.clsO, Mo.isLc, Mo.mApp, Mo.appO, Mo.mExt, Mo.fldO, Mo.isNo, Mo.stO, Mo.frzD, Mo.frz, Mo.setO, Mo.envOf, List.map_cons, List.map_nil, List.length_cons, List.length_nil, List.replicate_succ, List.replicate_zero, List.cons_append, List.nil_append, List.append_nil, List.append_assoc, List.getElem?_cons_zero, List.getElem?_cons_succ, List.set_cons_zero, List.set_cons_succ, Nat.reduceAdd, Nat.reduceSub, Nat.reduceLeDiff, Nat.reduceLT, Nat.reduceEqDiff, if_true, if_false, reduceIte, decide_true, decide_false, Bool.false_eq_true, and_self, true_and, and_true, Bool.and_self, Bool.true_and, Bool.and_true, Bool.not_true, Bool.not_false, Int.reduceToNat, Nat.reducePow, Int.cast_ofNat_Int, Int.reduceMul, Int.reduceAdd, Int.reduceSub, Int.reduceNeg, Mo.atI_l0, Mo.atI_l1, Mo.atI_l2, Mo.atI_l3, Mo.atI_l4, Mo.atI_l5, Mo.atI_l6, Mo.atI_l7, Mo.atI_l8, Mo.atI_l9, Mo.atI_l10, Mo.atI_l11, List.length_map, Mo.cut_map, Mo.get_top, Mo.get_top0, Mo.set_top, Mo.set_top0, Mo.take_topk, Mo.take_top, List.take_length, List.take_succ_cons, List.take_zero, List.length_append, Nat.lt_irrefl, Mo.wipeE]

/-! ### tables -/
def rotL : List Int := [7, 12, 17, 22, 5, 9, 14, 20, 4, 11, 16, 23, 6, 10, 15, 21]
def cstL : List Int := [3614090360, 3905402710, 606105819, 3250441966, 4118548399, 1200080426, 2821735955, 4249261313, 1770035416, 2336552879, 4294925233, 2304563134, 1804603682, 4254626195, 2792965006, 1236535329, 4129170786, 3225465664, 643717713, 3921069994, 3593408605, 38016083, 3634488961, 3889429448, 568446438, 3275163606, 4107603335, 1163531501, 2850285829, 4243563512, 1735328473, 2368359562, 4294588738, 2272392833, 1839030562, 4259657740, 2763975236, 1272893353, 4139469664, 3200236656, 681279174, 3936430074, 3572445317, 76029189, 3654602809, 3873151461, 530742520, 3299628645, 4096336452, 1126891415, 2878612391, 4237533241, 1700485571, 2399980690, 4293915773, 2240044497, 1873313359, 4264355552, 2734768916, 1309151649, 4149444226, 3174756917, 718787259, 3951481745]
theorem k_rot : k_ROTATIONS = rotL.map D.int := rfl
theorem k_cst : k_CONSTANTS = cstL.map D.int := rfl
def rotI (s : Int) : Int := rotL.getD (4 * (s / 16) + s % 4).toNat 0
def cstI (s : Int) : Int := cstL.getD s.toNat 0
theorem rot_b : ∀ i : Nat, i < 16 → 0 < rotL.getD i 0 ∧ rotL.getD i 0 < 32 := by decide
theorem rotI_b {s : Int} (hs : 0 ≤ s ∧ s < 64) : 0 < rotI s ∧ rotI s < 32 := rot_b _ (by omega)
theorem cst_b : ∀ i : Nat, i < 64 → 0 ≤ cstL.getD i 0 ∧ cstL.getD i 0 < 4294967296 := by decide
theorem cstI_b {s : Int} (hs : 0 ≤ s ∧ s < 64) : 0 ≤ cstI s ∧ cstI s < 4294967296 := cst_b _ (by omega)
theorem at_rot {s : Int} (hs : 0 ≤ s ∧ s < 64) : atI (rotL.map D.int) (4 * (s / 16) + s % 4) = some (.int (rotI s)) := atI_ints (by omega) (by show _ < ((16 : Nat) : Int); omega)
theorem at_rot' {s : Int} (hs : 0 ≤ s ∧ s < 64) : atI (rotL.map D.int) (s / 16 * 4 + s % 4) = some (.int (rotI s)) := by
  rw [show s / 16 * 4 + s % 4 = 4 * (s / 16) + s % 4 from by omega]
  exact at_rot hs
theorem at_cst {s : Int} (hs : 0 ≤ s ∧ s < 64) : atI (cstL.map D.int) s = some (.int (cstI s)) := atI_ints (by omega) (by show _ < ((64 : Nat) : Int); omega)
theorem gI_b {s : Int} (hs : 0 ≤ s ∧ s < 64) : 0 ≤ gI s ∧ gI s < 16 := by
  unfold gI
  split
  · omega
  · split
    · omega
    · split <;> omega
/-! ### bytes -/
def By (ds : List Int) : Prop := ∀ x ∈ ds, 0 ≤ x ∧ x < 256
def g (ds : List Int) (i : Int) : Int := ds.getD i.toNat 0
theorem g_b {ds : List Int} (h : By ds) (i : Int) : 0 ≤ g ds i ∧ g ds i < 256 := by
  unfold g
  simp only [List.getD_eq_getElem?_getD]
  cases e : ds[i.toNat]? with
  | none => exact ⟨Int.le_refl _, by decide⟩
  | some x => exact h x (List.mem_of_getElem? e)
def w4 (ds : List Int) (s : Int) : Int := g ds s + g ds (s + 1) * 256 + g ds (s + 2) * 65536 + g ds (s + 3) * 16777216
theorem or_c {a y : Int} {k c : Nat} (hc : c = 2 ^ k) (ha : 0 ≤ a) (hy : 0 ≤ y) (hk : y < c) : Builtin.bitOr y (a * c) = y + a * c := by
  subst hc
  rw [Int.natCast_pow] at hk ⊢
  exact or_shl' ha hy hk
theorem or8 {a y : Int} (ha : 0 ≤ a) (hy : 0 ≤ y) (hk : y < 256) : Builtin.bitOr y (a * 256) = y + a * 256 := or_c (k := 8) (c := 256) (by decide) ha hy hk
theorem or16 {a y : Int} (ha : 0 ≤ a) (hy : 0 ≤ y) (hk : y < 65536) : Builtin.bitOr y (a * 65536) = y + a * 65536 := or_c (k := 16) (c := 65536) (by decide) ha hy hk
theorem or24 {a y : Int} (ha : 0 ≤ a) (hy : 0 ≤ y) (hk : y < 16777216) : Builtin.bitOr y (a * 16777216) = y + a * 16777216 := or_c (k := 24) (c := 16777216) (by decide) ha hy hk
theorem at_g {ds : List Int} {i : Int} (h0 : 0 ≤ i) (h1 : i < ds.length) : atI (ds.map D.int) i = some (.int (g ds i)) := atI_ints h0 h1
theorem e_numof (ds : List Int) (s : Int) (h0 : 0 ≤ s) (h1 : s + 4 ≤ ds.length) (hb : By ds) (b : Nat) (M : Store) : F_number_of [.d (li ds), .d (.int s), .d (.int 4)] b M = .ok (.d (.int (w4 ds s)), M) := by
  have a0 := at_g (ds := ds) (i := s + 0) (by omega) (by omega)
  have a1 := at_g (ds := ds) (i := s + 1) (by omega) (by omega)
  have a2 := at_g (ds := ds) (i := s + 2) (by omega) (by omega)
  have a3 := at_g (ds := ds) (i := s + 3) (by omega) (by omega)
  have b0 := g_b hb (s + 0)
  have b1 := g_b hb (s + 1)
  have b2 := g_b hb (s + 2)
  have b3 := g_b hb (s + 3)
  have o0 : Builtin.bitOr 0 (g ds (s + 0) * 1) = g ds (s + 0) := by
    rw [bitOr_and, Int.mul_one, bitAnd_comm, show Builtin.bitAnd (g ds (s + 0)) 0 = 0 from by rw [bitAnd_pp b0.1 (Int.le_refl 0)]; simp]
    omega
  simp (disch := first | omega | (simp only [List.length_map, List.length_cons, List.length_nil, List.length_append, List.length_replicate]; omega)) only [F_number_of, b_number_of, number_of_l2, Mo.p_op, Mo.p_op1, Mo.p_op1e, Mo.p_op2, Mo.p_op2e, Mo.p_un, Mo.p_un1, Mo.p_var, Mo.p_var1, Mo.p_c, Mo.p_test, Mo.p_test1, Mo.p_test2, Mo.p_and, Mo.p_andT, Mo.p_andF, Mo.p_or, Mo.p_orT, Mo.p_orF, Mo.p_not, Mo.p_not1, Mo.p_tru, Mo.p_truB, Mo.p_truI, Mo.p_truN, Mo.p_truL, Mo.p_andV, Mo.p_andVT, Mo.p_andVF, Mo.p_orV, Mo.p_orVT, Mo.p_orVF, Mo.p_notV, Mo.p_notV1, Mo.p_ife, Mo.p_ifeT, Mo.p_ifeF, Mo.p_ch, Mo.p_ch1, Mo.p_ch2, Mo.p_ch3, Mo.p_ch4, Mo.p_an, Mo.p_ac, Mo.p_ac1, Mo.p_ac1e, Mo.p_ac2, Mo.p_ac2e, Mo.p_lst, Mo.p_lst1, Mo.p_lst2, Mo.p_tup, Mo.p_tup1, Mo.p_tup2, Mo.p_lsc, Mo.p_lsc1, Mo.p_cb, Mo.p_cb1, Mo.p_cb1e, Mo.p_call, Mo.p_call1, Mo.p_call1e, Mo.p_meth, Mo.p_meth1, Mo.p_meth2, Mo.p_meth2e, Mo.p_bm, Mo.p_bm1, Mo.p_bm2, Mo.p_fld, Mo.p_fld1, Mo.p_fld2, Mo.p_frz, Mo.p_frz1, Mo.p_frz2, Mo.p_isi, Mo.p_isiII, Mo.p_isiBI, Mo.p_isiLI, Mo.p_isiIB, Mo.p_isiBB, Mo.p_isiLL, Mo.p_isiTT, Mo.p_isiBN, Mo.p_isiBS, Mo.p_isiBL, Mo.p_sl, Mo.p_sl1, Mo.p_sl2, Mo.p_sl3, Mo.p_on, Mo.p_os, Mo.p_os1, Mo.p_mkK, Mo.p_mkK1, Mo.p_mkK2, Mo.p_mkF, Mo.p_mkF1, Mo.p_seq, Mo.p_seqN, Mo.p_seqR, Mo.p_seqB, Mo.p_seqC, Mo.p_seqE, Mo.p_nil, Mo.p_brk, Mo.p_cnt, Mo.p_ret, Mo.p_ret1, Mo.p_ret1e, Mo.p_retN, Mo.p_drop, Mo.p_drop1, Mo.p_drop1e, Mo.p_if, Mo.p_ifT, Mo.p_ifF, Mo.p_ifE, Mo.p_asg, Mo.p_asg1, Mo.p_asg1e, Mo.p_asgM, Mo.p_asgM1, Mo.p_asgM1e, Mo.p_asgM2, Mo.p_gq, Mo.p_gq2, Mo.p_gl0, Mo.p_gl1, Mo.p_gl2, Mo.p_gn, Mo.p_ga, Mo.p_ga1, Mo.p_ga2, Mo.p_aug, Mo.p_aug1, Mo.p_aug2, Mo.p_aug2e, Mo.p_aug3, Mo.p_nxM, Mo.p_fs, Mo.p_fs1, Mo.p_fs1e, Mo.p_fs2, Mo.p_fa, Mo.p_fa1, Mo.p_fa2, Mo.p_fa3, Mo.p_fa3e, Mo.p_fa4, Mo.p_ix, Mo.p_ix1, Mo.p_ix1e, Mo.p_ix2, Mo.p_ix3, Mo.p_sf, Mo.p_sf1, Mo.p_sf2, Mo.p_for, Mo.p_for1, Mo.p_iv, Mo.p_ivL, Mo.p_ivK, Mo.p_ivT, Mo.p_r1, Mo.p_r11, Mo.p_r2, Mo.p_r21, Mo.p_en, Mo.p_en1, Mo.p_zp, Mo.p_zp1, Mo.p_tgn, Mo.p_tgt, Mo.p_gs0, Mo.p_gs1, Mo.p_fl0, Mo.p_fl1, Mo.p_fl2, Mo.p_fl3, Mo.p_fl4, Mo.p_fl5, Mo.p_fl6, Mo.p_fl7, Mo.p_wh, Mo.p_ar, Mo.p_T, Mo.p_T1, Mo.p_T2, Mo.p_T3, Mo.p_fin, Mo.p_K, Mo.p_K1, Mo.p_K2, Mo.p_K3, Mo.p_R, Mo.p_R1, Mo.p_bnd, Mo.q_cat, Mo.q_rep, Mo.q_sub, Mo.q_add, Mo.q_addT, Mo.q_iadd, Mo.q_and, Mo.q_or, Mo.q_xor, Mo.q_lt, Mo.q_le, Mo.q_gt, Mo.q_ge, Mo.q_mod, Mo.q_div, Mo.q_shr, Mo.q_shl, Mo.q_pow, Mo.q_mulLf, Mo.q_mulRf, Mo.q_mulLt, Mo.q_mulRt, Mo.q_neg, Mo.q_eqI, Mo.q_neI, Mo.LIM, Mo.opt_some, Mo.opt_none, Mo.ds?, Mo.mkL, Mo.oIx, Mo.oSl, Mo.oLen, Mo.lenO, Mo.oAbs, Mo.oInt, Mo.oList, Mo.oTupOf, Mo.oIsN, Mo.isN, Mo.rdP, Mo.rdL, Mo.rdT, Mo.clsV, Mo.clsO, Mo.isLc, Mo.mApp, Mo.appO, Mo.mExt, Mo.fldO, Mo.isNo, Mo.stO, Mo.frzD, Mo.frz, Mo.setO, Mo.envOf, List.map_cons, List.map_nil, List.length_cons, List.length_nil, List.replicate_succ, List.replicate_zero, List.cons_append, List.nil_append, List.append_nil, List.append_assoc, List.getElem?_cons_zero, List.getElem?_cons_succ, List.set_cons_zero, List.set_cons_succ, Nat.reduceAdd, Nat.reduceSub, Nat.reduceLeDiff, Nat.reduceLT, Nat.reduceEqDiff, if_true, if_false, reduceIte, decide_true, decide_false, Bool.false_eq_true, and_self, true_and, and_true, Bool.and_self, Bool.true_and, Bool.and_true, Bool.not_true, Bool.not_false, Int.reduceToNat, Nat.reducePow, Int.cast_ofNat_Int, Int.reduceMul, Int.reduceAdd, Int.reduceSub, Int.reduceNeg, Mo.atI_l0, Mo.atI_l1, Mo.atI_l2, Mo.atI_l3, Mo.atI_l4, Mo.atI_l5, Mo.atI_l6, Mo.atI_l7, Mo.atI_l8, Mo.atI_l9, Mo.atI_l10, Mo.atI_l11, List.length_map, Mo.cut_map, Mo.get_top, Mo.get_top0, Mo.set_top, Mo.set_top0, Mo.take_topk, Mo.take_top, List.take_length, List.take_succ_cons, List.take_zero, List.length_append, Nat.lt_irrefl, Mo.wipeE, li, rng1_4, a0, a1, a2, a3, o0, or8, or16, or24]
  unfold w4
  rw [Int.add_zero]
def bytesI (n : Int) (m : Nat) : List Int := (List.range m).map fun i => n / ((2 ^ (8 * i) : Nat) : Int) % 256
theorem e_bytes (n : Int) (m : Int) (h0 : 0 ≤ m) (h1 : m < 1000) (b : Nat) (M : Store) : F_bytes_of [.d (.int n), .d (.int m)] b M = .ok (.d (li (bytesI n m.toNat)), M) := by
  have q := lcF_ok (it := itR1 (aCons (eVar 1) aNil)) (tg := .n 2) (vs := [2]) (t := tYesE) (e := bytes_of_c1) (b := M.length) (env := [some (.d (.int n)), some (.d (.int m)), none]) (M := M) (xs := rng1 0 m.toNat)
    (fun x => match x with | .int i => .int (n / ((2 ^ (8 * i).toNat : Nat) : Int) % 256) | _ => .non) (by simp (disch := first | omega | (simp only [List.length_map, List.length_cons, List.length_nil, List.length_append, List.length_replicate]; omega)) only [Mo.p_op, Mo.p_op1, Mo.p_op1e, Mo.p_op2, Mo.p_op2e, Mo.p_un, Mo.p_un1, Mo.p_var, Mo.p_var1, Mo.p_c, Mo.p_test, Mo.p_test1, Mo.p_test2, Mo.p_and, Mo.p_andT, Mo.p_andF, Mo.p_or, Mo.p_orT, Mo.p_orF, Mo.p_not, Mo.p_not1, Mo.p_tru, Mo.p_truB, Mo.p_truI, Mo.p_truN, Mo.p_truL, Mo.p_andV, Mo.p_andVT, Mo.p_andVF, Mo.p_orV, Mo.p_orVT, Mo.p_orVF, Mo.p_notV, Mo.p_notV1, Mo.p_ife, Mo.p_ifeT, Mo.p_ifeF, Mo.p_ch, Mo.p_ch1, Mo.p_ch2, Mo.p_ch3, Mo.p_ch4, Mo.p_an, Mo.p_ac, Mo.p_ac1, Mo.p_ac1e, Mo.p_ac2, Mo.p_ac2e, Mo.p_lst, Mo.p_lst1, Mo.p_lst2, Mo.p_tup, Mo.p_tup1, Mo.p_tup2, Mo.p_lsc, Mo.p_lsc1, Mo.p_cb, Mo.p_cb1, Mo.p_cb1e, Mo.p_call, Mo.p_call1, Mo.p_call1e, Mo.p_meth, Mo.p_meth1, Mo.p_meth2, Mo.p_meth2e, Mo.p_bm, Mo.p_bm1, Mo.p_bm2, Mo.p_fld, Mo.p_fld1, Mo.p_fld2, Mo.p_frz, Mo.p_frz1, Mo.p_frz2, Mo.p_isi, Mo.p_isiII, Mo.p_isiBI, Mo.p_isiLI, Mo.p_isiIB, Mo.p_isiBB, Mo.p_isiLL, Mo.p_isiTT, Mo.p_isiBN, Mo.p_isiBS, Mo.p_isiBL, Mo.p_sl, Mo.p_sl1, Mo.p_sl2, Mo.p_sl3, Mo.p_on, Mo.p_os, Mo.p_os1, Mo.p_mkK, Mo.p_mkK1, Mo.p_mkK2, Mo.p_mkF, Mo.p_mkF1, Mo.p_seq, Mo.p_seqN, Mo.p_seqR, Mo.p_seqB, Mo.p_seqC, Mo.p_seqE, Mo.p_nil, Mo.p_brk, Mo.p_cnt, Mo.p_ret, Mo.p_ret1, Mo.p_ret1e, Mo.p_retN, Mo.p_drop, Mo.p_drop1, Mo.p_drop1e, Mo.p_if, Mo.p_ifT, Mo.p_ifF, Mo.p_ifE, Mo.p_asg, Mo.p_asg1, Mo.p_asg1e, Mo.p_asgM, Mo.p_asgM1, Mo.p_asgM1e, Mo.p_asgM2, Mo.p_gq, Mo.p_gq2, Mo.p_gl0, Mo.p_gl1, Mo.p_gl2, Mo.p_gn, Mo.p_ga, Mo.p_ga1, Mo.p_ga2, Mo.p_aug, Mo.p_aug1, Mo.p_aug2, Mo.p_aug2e, Mo.p_aug3, Mo.p_nxM, Mo.p_fs, Mo.p_fs1, Mo.p_fs1e, Mo.p_fs2, Mo.p_fa, Mo.p_fa1, Mo.p_fa2, Mo.p_fa3, Mo.p_fa3e, Mo.p_fa4, Mo.p_ix, Mo.p_ix1, Mo.p_ix1e, Mo.p_ix2, Mo.p_ix3, Mo.p_sf, Mo.p_sf1, Mo.p_sf2, Mo.p_for, Mo.p_for1, Mo.p_iv, Mo.p_ivL, Mo.p_ivK, Mo.p_ivT, Mo.p_r1, Mo.p_r11, Mo.p_r2, Mo.p_r21, Mo.p_en, Mo.p_en1, Mo.p_zp, Mo.p_zp1, Mo.p_tgn, Mo.p_tgt, Mo.p_gs0, Mo.p_gs1, Mo.p_fl0, Mo.p_fl1, Mo.p_fl2, Mo.p_fl3, Mo.p_fl4, Mo.p_fl5, Mo.p_fl6, Mo.p_fl7, Mo.p_wh, Mo.p_ar, Mo.p_T, Mo.p_T1, Mo.p_T2, Mo.p_T3, Mo.p_fin, Mo.p_K, Mo.p_K1, Mo.p_K2, Mo.p_K3, Mo.p_R, Mo.p_R1, Mo.p_bnd, Mo.q_cat, Mo.q_rep, Mo.q_sub, Mo.q_add, Mo.q_addT, Mo.q_iadd, Mo.q_and, Mo.q_or, Mo.q_xor, Mo.q_lt, Mo.q_le, Mo.q_gt, Mo.q_ge, Mo.q_mod, Mo.q_div, Mo.q_shr, Mo.q_shl, Mo.q_pow, Mo.q_mulLf, Mo.q_mulRf, Mo.q_mulLt, Mo.q_mulRt, Mo.q_neg, Mo.q_eqI, Mo.q_neI, Mo.LIM, Mo.opt_some, Mo.opt_none, Mo.ds?, Mo.mkL, Mo.oIx, Mo.oSl, Mo.oLen, Mo.lenO, Mo.oAbs, Mo.oInt, Mo.oList, Mo.oTupOf, Mo.oIsN, Mo.isN, Mo.rdP, Mo.rdL, Mo.rdT, Mo.clsV, Mo.clsO, Mo.isLc, Mo.mApp, Mo.appO, Mo.mExt, Mo.fldO, Mo.isNo, Mo.stO, Mo.frzD, Mo.frz, Mo.setO, Mo.envOf, List.map_cons, List.map_nil, List.length_cons, List.length_nil, List.replicate_succ, List.replicate_zero, List.cons_append, List.nil_append, List.append_nil, List.append_assoc, List.getElem?_cons_zero, List.getElem?_cons_succ, List.set_cons_zero, List.set_cons_succ, Nat.reduceAdd, Nat.reduceSub, Nat.reduceLeDiff, Nat.reduceLT, Nat.reduceEqDiff, if_true, if_false, reduceIte, decide_true, decide_false, Bool.false_eq_true, and_self, true_and, and_true, Bool.and_self, Bool.true_and, Bool.and_true, Bool.not_true, Bool.not_false, Int.reduceToNat, Nat.reducePow, Int.cast_ofNat_Int, Int.reduceMul, Int.reduceAdd, Int.reduceSub, Int.reduceNeg, Mo.atI_l0, Mo.atI_l1, Mo.atI_l2, Mo.atI_l3, Mo.atI_l4, Mo.atI_l5, Mo.atI_l6, Mo.atI_l7, Mo.atI_l8, Mo.atI_l9, Mo.atI_l10, Mo.atI_l11, List.length_map, Mo.cut_map, Mo.get_top, Mo.get_top0, Mo.set_top, Mo.set_top0, Mo.take_topk, Mo.take_top, List.take_length, List.take_succ_cons, List.take_zero, List.length_append, Nat.lt_irrefl, Mo.wipeE]) (by rw [rng_len]; show _ ≤ 16000000; omega) fun x hx M' => by
      obtain ⟨i, hi, rfl⟩ := rng_in hx
      refine ⟨_, rfl, rfl, fun _ => ?_⟩
      simp (disch := first | omega | (simp only [List.length_map, List.length_cons, List.length_nil, List.length_append, List.length_replicate]; omega)) only [bytes_of_c1, Mo.p_op, Mo.p_op1, Mo.p_op1e, Mo.p_op2, Mo.p_op2e, Mo.p_un, Mo.p_un1, Mo.p_var, Mo.p_var1, Mo.p_c, Mo.p_test, Mo.p_test1, Mo.p_test2, Mo.p_and, Mo.p_andT, Mo.p_andF, Mo.p_or, Mo.p_orT, Mo.p_orF, Mo.p_not, Mo.p_not1, Mo.p_tru, Mo.p_truB, Mo.p_truI, Mo.p_truN, Mo.p_truL, Mo.p_andV, Mo.p_andVT, Mo.p_andVF, Mo.p_orV, Mo.p_orVT, Mo.p_orVF, Mo.p_notV, Mo.p_notV1, Mo.p_ife, Mo.p_ifeT, Mo.p_ifeF, Mo.p_ch, Mo.p_ch1, Mo.p_ch2, Mo.p_ch3, Mo.p_ch4, Mo.p_an, Mo.p_ac, Mo.p_ac1, Mo.p_ac1e, Mo.p_ac2, Mo.p_ac2e, Mo.p_lst, Mo.p_lst1, Mo.p_lst2, Mo.p_tup, Mo.p_tup1, Mo.p_tup2, Mo.p_lsc, Mo.p_lsc1, Mo.p_cb, Mo.p_cb1, Mo.p_cb1e, Mo.p_call, Mo.p_call1, Mo.p_call1e, Mo.p_meth, Mo.p_meth1, Mo.p_meth2, Mo.p_meth2e, Mo.p_bm, Mo.p_bm1, Mo.p_bm2, Mo.p_fld, Mo.p_fld1, Mo.p_fld2, Mo.p_frz, Mo.p_frz1, Mo.p_frz2, Mo.p_isi, Mo.p_isiII, Mo.p_isiBI, Mo.p_isiLI, Mo.p_isiIB, Mo.p_isiBB, Mo.p_isiLL, Mo.p_isiTT, Mo.p_isiBN, Mo.p_isiBS, Mo.p_isiBL, Mo.p_sl, Mo.p_sl1, Mo.p_sl2, Mo.p_sl3, Mo.p_on, Mo.p_os, Mo.p_os1, Mo.p_mkK, Mo.p_mkK1, Mo.p_mkK2, Mo.p_mkF, Mo.p_mkF1, Mo.p_seq, Mo.p_seqN, Mo.p_seqR, Mo.p_seqB, Mo.p_seqC, Mo.p_seqE, Mo.p_nil, Mo.p_brk, Mo.p_cnt, Mo.p_ret, Mo.p_ret1, Mo.p_ret1e, Mo.p_retN, Mo.p_drop, Mo.p_drop1, Mo.p_drop1e, Mo.p_if, Mo.p_ifT, Mo.p_ifF, Mo.p_ifE, Mo.p_asg, Mo.p_asg1, Mo.p_asg1e, Mo.p_asgM, Mo.p_asgM1, Mo.p_asgM1e, Mo.p_asgM2, Mo.p_gq, Mo.p_gq2, Mo.p_gl0, Mo.p_gl1, Mo.p_gl2, Mo.p_gn, Mo.p_ga, Mo.p_ga1, Mo.p_ga2, Mo.p_aug, Mo.p_aug1, Mo.p_aug2, Mo.p_aug2e, Mo.p_aug3, Mo.p_nxM, Mo.p_fs, Mo.p_fs1, Mo.p_fs1e, Mo.p_fs2, Mo.p_fa, Mo.p_fa1, Mo.p_fa2, Mo.p_fa3, Mo.p_fa3e, Mo.p_fa4, Mo.p_ix, Mo.p_ix1, Mo.p_ix1e, Mo.p_ix2, Mo.p_ix3, Mo.p_sf, Mo.p_sf1, Mo.p_sf2, Mo.p_for, Mo.p_for1, Mo.p_iv, Mo.p_ivL, Mo.p_ivK, Mo.p_ivT, Mo.p_r1, Mo.p_r11, Mo.p_r2, Mo.p_r21, Mo.p_en, Mo.p_en1, Mo.p_zp, Mo.p_zp1, Mo.p_tgn, Mo.p_tgt, Mo.p_gs0, Mo.p_gs1, Mo.p_fl0, Mo.p_fl1, Mo.p_fl2, Mo.p_fl3, Mo.p_fl4, Mo.p_fl5, Mo.p_fl6, Mo.p_fl7, Mo.p_wh, Mo.p_ar, Mo.p_T, Mo.p_T1, Mo.p_T2, Mo.p_T3, Mo.p_fin, Mo.p_K, Mo.p_K1, Mo.p_K2, Mo.p_K3, Mo.p_R, Mo.p_R1, Mo.p_bnd, Mo.q_cat, Mo.q_rep, Mo.q_sub, Mo.q_add, Mo.q_addT, Mo.q_iadd, Mo.q_and, Mo.q_or, Mo.q_xor, Mo.q_lt, Mo.q_le, Mo.q_gt, Mo.q_ge, Mo.q_mod, Mo.q_div, Mo.q_shr, Mo.q_shl, Mo.q_pow, Mo.q_mulLf, Mo.q_mulRf, Mo.q_mulLt, Mo.q_mulRt, Mo.q_neg, Mo.q_eqI, Mo.q_neI, Mo.LIM, Mo.opt_some, Mo.opt_none, Mo.ds?, Mo.mkL, Mo.oIx, Mo.oSl, Mo.oLen, Mo.lenO, Mo.oAbs, Mo.oInt, Mo.oList, Mo.oTupOf, Mo.oIsN, Mo.isN, Mo.rdP, Mo.rdL, Mo.rdT, Mo.clsV, Mo.clsO, Mo.isLc, Mo.mApp, Mo.appO, Mo.mExt, Mo.fldO, Mo.isNo, Mo.stO, Mo.frzD, Mo.frz, Mo.setO, Mo.envOf, List.map_cons, List.map_nil, List.length_cons, List.length_nil, List.replicate_succ, List.replicate_zero, List.cons_append, List.nil_append, List.append_nil, List.append_assoc, List.getElem?_cons_zero, List.getElem?_cons_succ, List.set_cons_zero, List.set_cons_succ, Nat.reduceAdd, Nat.reduceSub, Nat.reduceLeDiff, Nat.reduceLT, Nat.reduceEqDiff, if_true, if_false, reduceIte, decide_true, decide_false, Bool.false_eq_true, and_self, true_and, and_true, Bool.and_self, Bool.true_and, Bool.and_true, Bool.not_true, Bool.not_false, Int.reduceToNat, Nat.reducePow, Int.cast_ofNat_Int, Int.reduceMul, Int.reduceAdd, Int.reduceSub, Int.reduceNeg, Mo.atI_l0, Mo.atI_l1, Mo.atI_l2, Mo.atI_l3, Mo.atI_l4, Mo.atI_l5, Mo.atI_l6, Mo.atI_l7, Mo.atI_l8, Mo.atI_l9, Mo.atI_l10, Mo.atI_l11, List.length_map, Mo.cut_map, Mo.get_top, Mo.get_top0, Mo.set_top, Mo.set_top0, Mo.take_topk, Mo.take_top, List.take_length, List.take_succ_cons, List.take_zero, List.length_append, Nat.lt_irrefl, Mo.wipeE, bitAnd_m8]
  simp (disch := first | omega | (simp only [List.length_map, List.length_cons, List.length_nil, List.length_append, List.length_replicate]; omega)) only [F_bytes_of, b_bytes_of, Mo.p_op, Mo.p_op1, Mo.p_op1e, Mo.p_op2, Mo.p_op2e, Mo.p_un, Mo.p_un1, Mo.p_var, Mo.p_var1, Mo.p_c, Mo.p_test, Mo.p_test1, Mo.p_test2, Mo.p_and, Mo.p_andT, Mo.p_andF, Mo.p_or, Mo.p_orT, Mo.p_orF, Mo.p_not, Mo.p_not1, Mo.p_tru, Mo.p_truB, Mo.p_truI, Mo.p_truN, Mo.p_truL, Mo.p_andV, Mo.p_andVT, Mo.p_andVF, Mo.p_orV, Mo.p_orVT, Mo.p_orVF, Mo.p_notV, Mo.p_notV1, Mo.p_ife, Mo.p_ifeT, Mo.p_ifeF, Mo.p_ch, Mo.p_ch1, Mo.p_ch2, Mo.p_ch3, Mo.p_ch4, Mo.p_an, Mo.p_ac, Mo.p_ac1, Mo.p_ac1e, Mo.p_ac2, Mo.p_ac2e, Mo.p_lst, Mo.p_lst1, Mo.p_lst2, Mo.p_tup, Mo.p_tup1, Mo.p_tup2, Mo.p_lsc, Mo.p_lsc1, Mo.p_cb, Mo.p_cb1, Mo.p_cb1e, Mo.p_call, Mo.p_call1, Mo.p_call1e, Mo.p_meth, Mo.p_meth1, Mo.p_meth2, Mo.p_meth2e, Mo.p_bm, Mo.p_bm1, Mo.p_bm2, Mo.p_fld, Mo.p_fld1, Mo.p_fld2, Mo.p_frz, Mo.p_frz1, Mo.p_frz2, Mo.p_isi, Mo.p_isiII, Mo.p_isiBI, Mo.p_isiLI, Mo.p_isiIB, Mo.p_isiBB, Mo.p_isiLL, Mo.p_isiTT, Mo.p_isiBN, Mo.p_isiBS, Mo.p_isiBL, Mo.p_sl, Mo.p_sl1, Mo.p_sl2, Mo.p_sl3, Mo.p_on, Mo.p_os, Mo.p_os1, Mo.p_mkK, Mo.p_mkK1, Mo.p_mkK2, Mo.p_mkF, Mo.p_mkF1, Mo.p_seq, Mo.p_seqN, Mo.p_seqR, Mo.p_seqB, Mo.p_seqC, Mo.p_seqE, Mo.p_nil, Mo.p_brk, Mo.p_cnt, Mo.p_ret, Mo.p_ret1, Mo.p_ret1e, Mo.p_retN, Mo.p_drop, Mo.p_drop1, Mo.p_drop1e, Mo.p_if, Mo.p_ifT, Mo.p_ifF, Mo.p_ifE, Mo.p_asg, Mo.p_asg1, Mo.p_asg1e, Mo.p_asgM, Mo.p_asgM1, Mo.p_asgM1e, Mo.p_asgM2, Mo.p_gq, Mo.p_gq2, Mo.p_gl0, Mo.p_gl1, Mo.p_gl2, Mo.p_gn, Mo.p_ga, Mo.p_ga1, Mo.p_ga2, Mo.p_aug, Mo.p_aug1, Mo.p_aug2, Mo.p_aug2e, Mo.p_aug3, Mo.p_nxM, Mo.p_fs, Mo.p_fs1, Mo.p_fs1e, Mo.p_fs2, Mo.p_fa, Mo.p_fa1, Mo.p_fa2, Mo.p_fa3, Mo.p_fa3e, Mo.p_fa4, Mo.p_ix, Mo.p_ix1, Mo.p_ix1e, Mo.p_ix2, Mo.p_ix3, Mo.p_sf, Mo.p_sf1, Mo.p_sf2, Mo.p_for, Mo.p_for1, Mo.p_iv, Mo.p_ivL, Mo.p_ivK, Mo.p_ivT, Mo.p_r1, Mo.p_r11, Mo.p_r2, Mo.p_r21, Mo.p_en, Mo.p_en1, Mo.p_zp, Mo.p_zp1, Mo.p_tgn, Mo.p_tgt, Mo.p_gs0, Mo.p_gs1, Mo.p_fl0, Mo.p_fl1, Mo.p_fl2, Mo.p_fl3, Mo.p_fl4, Mo.p_fl5, Mo.p_fl6, Mo.p_fl7, Mo.p_wh, Mo.p_ar, Mo.p_T, Mo.p_T1, Mo.p_T2, Mo.p_T3, Mo.p_fin, Mo.p_K, Mo.p_K1, Mo.p_K2, Mo.p_K3, Mo.p_R, Mo.p_R1, Mo.p_bnd, Mo.q_cat, Mo.q_rep, Mo.q_sub, Mo.q_add, Mo.q_addT, Mo.q_iadd, Mo.q_and, Mo.q_or, Mo.q_xor, Mo.q_lt, Mo.q_le, Mo.q_gt, Mo.q_ge, Mo.q_mod, Mo.q_div, Mo.q_shr, Mo.q_shl, Mo.q_pow, Mo.q_mulLf, Mo.q_mulRf, Mo.q_mulLt, Mo.q_mulRt, Mo.q_neg, Mo.q_eqI, Mo.q_neI, Mo.LIM, Mo.opt_some, Mo.opt_none, Mo.ds?, Mo.mkL, Mo.oIx, Mo.oSl, Mo.oLen, Mo.lenO, Mo.oAbs, Mo.oInt, Mo.oList, Mo.oTupOf, Mo.oIsN, Mo.isN, Mo.rdP, Mo.rdL, Mo.rdT, Mo.clsV, Mo.clsO, Mo.isLc, Mo.mApp, Mo.appO, Mo.mExt, Mo.fldO, Mo.isNo, Mo.stO, Mo.frzD, Mo.frz, Mo.setO, Mo.envOf, List.map_cons, List.map_nil, List.length_cons, List.length_nil, List.replicate_succ, List.replicate_zero, List.cons_append, List.nil_append, List.append_nil, List.append_assoc, List.getElem?_cons_zero, List.getElem?_cons_succ, List.set_cons_zero, List.set_cons_succ, Nat.reduceAdd, Nat.reduceSub, Nat.reduceLeDiff, Nat.reduceLT, Nat.reduceEqDiff, if_true, if_false, reduceIte, decide_true, decide_false, Bool.false_eq_true, and_self, true_and, and_true, Bool.and_self, Bool.true_and, Bool.and_true, Bool.not_true, Bool.not_false, Int.reduceToNat, Nat.reducePow, Int.cast_ofNat_Int, Int.reduceMul, Int.reduceAdd, Int.reduceSub, Int.reduceNeg, Mo.atI_l0, Mo.atI_l1, Mo.atI_l2, Mo.atI_l3, Mo.atI_l4, Mo.atI_l5, Mo.atI_l6, Mo.atI_l7, Mo.atI_l8, Mo.atI_l9, Mo.atI_l10, Mo.atI_l11, List.length_map, Mo.cut_map, Mo.get_top, Mo.get_top0, Mo.set_top, Mo.set_top0, Mo.take_topk, Mo.take_top, List.take_length, List.take_succ_cons, List.take_zero, List.length_append, Nat.lt_irrefl, Mo.wipeE, q]
  congr 3
  unfold li bytesI rng1
  rw [List.map_map]
  rw [List.map_map]
  congr 1
  apply List.map_congr_left
  intro i _
  show D.int _ = D.int _
  congr 5
  omega
abbrev Q4 := Int × Int × Int × Int
def R4 (q : Q4) : Prop := (0 ≤ q.1 ∧ q.1 < 4294967296) ∧ (0 ≤ q.2.1 ∧ q.2.1 < 4294967296) ∧ (0 ≤ q.2.2.1 ∧ q.2.2.1 < 4294967296) ∧ (0 ≤ q.2.2.2 ∧ q.2.2.2 < 4294967296)
def tI (ws : List Int) (s a b c d : Int) : Int := (a + fM s b c d + cstI s + ws.getD (gI s).toNat 0) % 4294967296
def rI (s t : Int) : Int := t * ((2 ^ (rotI s).toNat : Nat) : Int) + t / ((2 ^ (32 - rotI s).toNat : Nat) : Int)
def nx (ws : List Int) (s : Int) (q : Q4) : Q4 := (q.2.2.2, (q.2.1 + rI s (tI ws s q.1 q.2.1 q.2.2.1 q.2.2.2)) % 4294967296, q.2.1, q.2.2.1)
def itS (ws : List Int) (q : Q4) : Nat → Q4
  | 0 => q
  | k + 1 => nx ws (k : Int) (itS ws q k)
theorem nx_R {ws : List Int} {s : Int} {q : Q4} (h : R4 q) : R4 (nx ws s q) := by
  obtain ⟨h1, h2, h3, h4⟩ := h
  refine ⟨h4, ?_, h2, h3⟩
  show 0 ≤ _ % 4294967296 ∧ _ % 4294967296 < 4294967296
  omega
theorem it_R {ws : List Int} {q : Q4} (h : R4 q) : ∀ k, R4 (itS ws q k)
  | 0 => h
  | k + 1 => nx_R (it_R h k)
theorem or_rot {t r : Int} (ht : 0 ≤ t ∧ t < 4294967296) (hr : 0 < r ∧ r < 32) : Builtin.bitOr (t * ((2 ^ r.toNat : Nat) : Int)) (t / ((2 ^ (32 - r).toNat : Nat) : Int)) = t * ((2 ^ r.toNat : Nat) : Int) + t / ((2 ^ (32 - r).toNat : Nat) : Int) := by
  have e : (2 ^ r.toNat : Nat) * (2 ^ (32 - r).toNat) = 4294967296 := by
    rw [← Nat.pow_add, show r.toNat + (32 - r).toNat = 32 from by omega]
  have hp : 0 < ((2 ^ (32 - r).toNat : Nat) : Int) := Int.natCast_pos.mpr (Nat.two_pow_pos _)
  have e2 : ((2 ^ r.toNat : Nat) : Int) * ((2 ^ (32 - r).toNat : Nat) : Int) = 4294967296 := by rw [← Int.natCast_mul, e, Int.cast_ofNat_Int]
  have hlt : t / ((2 ^ (32 - r).toNat : Nat) : Int) < ((2 ^ r.toNat : Nat) : Int) := Int.ediv_lt_of_lt_mul hp (by rw [e2]; exact ht.2)
  have h0 : 0 ≤ t / ((2 ^ (32 - r).toNat : Nat) : Int) := Int.ediv_nonneg ht.1 (Int.le_of_lt hp)
  rw [Int.natCast_pow] at hlt ⊢
  exact or_shl ht.1 h0 hlt
theorem step_p (st bl : Option Vl) (ws : List Int) (hw : ws.length = 16) (q : Q4) (hq : R4 q) (s : Int) (hs : 0 ≤ s ∧ s < 64) (b : Nat) (M : Store) (x8 x9 x10 x11 : Option Vl) :
    ∃ y8 y9 y10 y11, _add_block_l3 b [st, bl, some (.d (li ws)), some (.d (.int q.1)), some (.d (.int q.2.1)), some (.d (.int q.2.2.1)), some (.d (.int q.2.2.2)), some (.d (.int s)), x8, x9, x10, x11, none, none, none] M =
      .ok (.nx, [st, bl, some (.d (li ws)), some (.d (.int (nx ws s q).1)), some (.d (.int (nx ws s q).2.1)), some (.d (.int (nx ws s q).2.2.1)), some (.d (.int (nx ws s q).2.2.2)), some (.d (.int s)), y8, y9, y10, y11, none, none, none], M) := by
  obtain ⟨h1, h2, h3, h4⟩ := hq
  have hm := fun M => e_mix s q.2.1 q.2.2.1 q.2.2.2 h2 h4 hs b M
  have hc := at_cst hs
  have hr := at_rot' hs
  have hg := gI_b hs
  have hrb := rotI_b hs
  have hww : atI (ws.map D.int) (gI s) = some (.int (ws.getD (gI s).toNat 0)) := atI_ints hg.1 (by omega)
  have ht : 0 ≤ tI ws s q.1 q.2.1 q.2.2.1 q.2.2.2 ∧ tI ws s q.1 q.2.1 q.2.2.1 q.2.2.2 < 4294967296 := by unfold tI; omega
  have ho := or_rot ht hrb
  have et : (q.1 + fM s q.2.1 q.2.2.1 q.2.2.2 + cstI s + ws.getD (gI s).toNat 0) % 4294967296 = tI ws s q.1 q.2.1 q.2.2.1 q.2.2.2 := rfl
  refine ⟨some (.d (.int (fM s q.2.1 q.2.2.1 q.2.2.2))), some (.d (.int (gI s))), some (.d (.int ((tI ws s q.1 q.2.1 q.2.2.1 q.2.2.2 * ((2 ^ (rotI s).toNat : Nat) : Int) + tI ws s q.1 q.2.1 q.2.2.1 q.2.2.2 / ((2 ^ (32 - rotI s).toNat : Nat) : Int)) % 4294967296))), some (.d (.int (rotI s))), ?_⟩
  simp (disch := first | omega | (simp only [List.length_map, List.length_cons, List.length_nil, List.length_append, List.length_replicate]; omega)) only [_add_block_l3, Mo.p_op, Mo.p_op1, Mo.p_op1e, Mo.p_op2, Mo.p_op2e, Mo.p_un, Mo.p_un1, Mo.p_var, Mo.p_var1, Mo.p_c, Mo.p_test, Mo.p_test1, Mo.p_test2, Mo.p_and, Mo.p_andT, Mo.p_andF, Mo.p_or, Mo.p_orT, Mo.p_orF, Mo.p_not, Mo.p_not1, Mo.p_tru, Mo.p_truB, Mo.p_truI, Mo.p_truN, Mo.p_truL, Mo.p_andV, Mo.p_andVT, Mo.p_andVF, Mo.p_orV, Mo.p_orVT, Mo.p_orVF, Mo.p_notV, Mo.p_notV1, Mo.p_ife, Mo.p_ifeT, Mo.p_ifeF, Mo.p_ch, Mo.p_ch1, Mo.p_ch2, Mo.p_ch3, Mo.p_ch4, Mo.p_an, Mo.p_ac, Mo.p_ac1, Mo.p_ac1e, Mo.p_ac2, Mo.p_ac2e, Mo.p_lst, Mo.p_lst1, Mo.p_lst2, Mo.p_tup, Mo.p_tup1, Mo.p_tup2, Mo.p_lsc, Mo.p_lsc1, Mo.p_cb, Mo.p_cb1, Mo.p_cb1e, Mo.p_call, Mo.p_call1, Mo.p_call1e, Mo.p_meth, Mo.p_meth1, Mo.p_meth2, Mo.p_meth2e, Mo.p_bm, Mo.p_bm1, Mo.p_bm2, Mo.p_fld, Mo.p_fld1, Mo.p_fld2, Mo.p_frz, Mo.p_frz1, Mo.p_frz2, Mo.p_isi, Mo.p_isiII, Mo.p_isiBI, Mo.p_isiLI, Mo.p_isiIB, Mo.p_isiBB, Mo.p_isiLL, Mo.p_isiTT, Mo.p_isiBN, Mo.p_isiBS, Mo.p_isiBL, Mo.p_sl, Mo.p_sl1, Mo.p_sl2, Mo.p_sl3, Mo.p_on, Mo.p_os, Mo.p_os1, Mo.p_mkK, Mo.p_mkK1, Mo.p_mkK2, Mo.p_mkF, Mo.p_mkF1, Mo.p_seq, Mo.p_seqN, Mo.p_seqR, Mo.p_seqB, Mo.p_seqC, Mo.p_seqE, Mo.p_nil, Mo.p_brk, Mo.p_cnt, Mo.p_ret, Mo.p_ret1, Mo.p_ret1e, Mo.p_retN, Mo.p_drop, Mo.p_drop1, Mo.p_drop1e, Mo.p_if, Mo.p_ifT, Mo.p_ifF, Mo.p_ifE, Mo.p_asg, Mo.p_asg1, Mo.p_asg1e, Mo.p_asgM, Mo.p_asgM1, Mo.p_asgM1e, Mo.p_asgM2, Mo.p_gq, Mo.p_gq2, Mo.p_gl0, Mo.p_gl1, Mo.p_gl2, Mo.p_gn, Mo.p_ga, Mo.p_ga1, Mo.p_ga2, Mo.p_aug, Mo.p_aug1, Mo.p_aug2, Mo.p_aug2e, Mo.p_aug3, Mo.p_nxM, Mo.p_fs, Mo.p_fs1, Mo.p_fs1e, Mo.p_fs2, Mo.p_fa, Mo.p_fa1, Mo.p_fa2, Mo.p_fa3, Mo.p_fa3e, Mo.p_fa4, Mo.p_ix, Mo.p_ix1, Mo.p_ix1e, Mo.p_ix2, Mo.p_ix3, Mo.p_sf, Mo.p_sf1, Mo.p_sf2, Mo.p_for, Mo.p_for1, Mo.p_iv, Mo.p_ivL, Mo.p_ivK, Mo.p_ivT, Mo.p_r1, Mo.p_r11, Mo.p_r2, Mo.p_r21, Mo.p_en, Mo.p_en1, Mo.p_zp, Mo.p_zp1, Mo.p_tgn, Mo.p_tgt, Mo.p_gs0, Mo.p_gs1, Mo.p_fl0, Mo.p_fl1, Mo.p_fl2, Mo.p_fl3, Mo.p_fl4, Mo.p_fl5, Mo.p_fl6, Mo.p_fl7, Mo.p_wh, Mo.p_ar, Mo.p_T, Mo.p_T1, Mo.p_T2, Mo.p_T3, Mo.p_fin, Mo.p_K, Mo.p_K1, Mo.p_K2, Mo.p_K3, Mo.p_R, Mo.p_R1, Mo.p_bnd, Mo.q_cat, Mo.q_rep, Mo.q_sub, Mo.q_add, Mo.q_addT, Mo.q_iadd, Mo.q_and, Mo.q_or, Mo.q_xor, Mo.q_lt, Mo.q_le, Mo.q_gt, Mo.q_ge, Mo.q_mod, Mo.q_div, Mo.q_shr, Mo.q_shl, Mo.q_pow, Mo.q_mulLf, Mo.q_mulRf, Mo.q_mulLt, Mo.q_mulRt, Mo.q_neg, Mo.q_eqI, Mo.q_neI, Mo.LIM, Mo.opt_some, Mo.opt_none, Mo.ds?, Mo.mkL, Mo.oIx, Mo.oSl, Mo.oLen, Mo.lenO, Mo.oAbs, Mo.oInt, Mo.oList, Mo.oTupOf, Mo.oIsN, Mo.isN, Mo.rdP, Mo.rdL, Mo.rdT, Mo.clsV, Mo.clsO, Mo.isLc, Mo.mApp, Mo.appO, Mo.mExt, Mo.fldO, Mo.isNo, Mo.stO, Mo.frzD, Mo.frz, Mo.setO, Mo.envOf, List.map_cons, List.map_nil, List.length_cons, List.length_nil, List.replicate_succ, List.replicate_zero, List.cons_append, List.nil_append, List.append_nil, List.append_assoc, List.getElem?_cons_zero, List.getElem?_cons_succ, List.set_cons_zero, List.set_cons_succ, Nat.reduceAdd, Nat.reduceSub, Nat.reduceLeDiff, Nat.reduceLT, Nat.reduceEqDiff, if_true, if_false, reduceIte, decide_true, decide_false, Bool.false_eq_true, and_self, true_and, and_true, Bool.and_self, Bool.true_and, Bool.and_true, Bool.not_true, Bool.not_false, Int.reduceToNat, Nat.reducePow, Int.cast_ofNat_Int, Int.reduceMul, Int.reduceAdd, Int.reduceSub, Int.reduceNeg, Mo.atI_l0, Mo.atI_l1, Mo.atI_l2, Mo.atI_l3, Mo.atI_l4, Mo.atI_l5, Mo.atI_l6, Mo.atI_l7, Mo.atI_l8, Mo.atI_l9, Mo.atI_l10, Mo.atI_l11, List.length_map, Mo.cut_map, Mo.get_top, Mo.get_top0, Mo.set_top, Mo.set_top0, Mo.take_topk, Mo.take_top, List.take_length, List.take_succ_cons, List.take_zero, List.length_append, Nat.lt_irrefl, Mo.wipeE, hm, k_cst, k_rot, hc, hr, hww, bitAnd_m32, et, ho, li]
  rw [show (q.2.1 + (tI ws s q.1 q.2.1 q.2.2.1 q.2.2.2 * ((2 ^ (rotI s).toNat : Nat) : Int) + tI ws s q.1 q.2.1 q.2.2.1 q.2.2.2 / ((2 ^ (32 - rotI s).toNat : Nat) : Int)) % 4294967296) % 4294967296 = (nx ws s q).2.1 from by
    show _ = (q.2.1 + rI s (tI ws s q.1 q.2.1 q.2.2.1 q.2.2.2)) % 4294967296
    unfold rI
    omega]
  rfl
def wds (ds : List Int) : List Int := (List.range 16).map fun i : Nat => w4 ds (4 * (i : Int))
theorem wds_len (ds : List Int) : (wds ds).length = 16 := by simp [wds]
theorem e_words (st : Vl) (ds : List Int) (hl : ds.length = 64) (hb : By ds) (b : Nat) (M : Store) (r : En) : eLcF (itR1 (aCons (eC (.int 16)) aNil)) (.n 12) [12] tYesE _add_block_c1 b (some st :: some (.d (li ds)) :: none :: none :: none :: none :: none :: none :: none :: none :: none :: none :: none :: r) M =
    .ok (.d (li (wds ds)), M) := by
  have q := lcF_ok (it := itR1 (aCons (eC (.int 16)) aNil)) (tg := .n 12) (vs := [12]) (t := tYesE) (e := _add_block_c1) (b := b) (env := some st :: some (.d (li ds)) :: none :: none :: none :: none :: none :: none :: none :: none :: none :: none :: none :: r) (M := M) (xs := rng1 0 16)
    (fun x => match x with | .int i => .int (w4 ds (4 * i)) | _ => .non) (by simp (disch := first | omega | (simp only [List.length_map, List.length_cons, List.length_nil, List.length_append, List.length_replicate]; omega)) only [Mo.p_op, Mo.p_op1, Mo.p_op1e, Mo.p_op2, Mo.p_op2e, Mo.p_un, Mo.p_un1, Mo.p_var, Mo.p_var1, Mo.p_c, Mo.p_test, Mo.p_test1, Mo.p_test2, Mo.p_and, Mo.p_andT, Mo.p_andF, Mo.p_or, Mo.p_orT, Mo.p_orF, Mo.p_not, Mo.p_not1, Mo.p_tru, Mo.p_truB, Mo.p_truI, Mo.p_truN, Mo.p_truL, Mo.p_andV, Mo.p_andVT, Mo.p_andVF, Mo.p_orV, Mo.p_orVT, Mo.p_orVF, Mo.p_notV, Mo.p_notV1, Mo.p_ife, Mo.p_ifeT, Mo.p_ifeF, Mo.p_ch, Mo.p_ch1, Mo.p_ch2, Mo.p_ch3, Mo.p_ch4, Mo.p_an, Mo.p_ac, Mo.p_ac1, Mo.p_ac1e, Mo.p_ac2, Mo.p_ac2e, Mo.p_lst, Mo.p_lst1, Mo.p_lst2, Mo.p_tup, Mo.p_tup1, Mo.p_tup2, Mo.p_lsc, Mo.p_lsc1, Mo.p_cb, Mo.p_cb1, Mo.p_cb1e, Mo.p_call, Mo.p_call1, Mo.p_call1e, Mo.p_meth, Mo.p_meth1, Mo.p_meth2, Mo.p_meth2e, Mo.p_bm, Mo.p_bm1, Mo.p_bm2, Mo.p_fld, Mo.p_fld1, Mo.p_fld2, Mo.p_frz, Mo.p_frz1, Mo.p_frz2, Mo.p_isi, Mo.p_isiII, Mo.p_isiBI, Mo.p_isiLI, Mo.p_isiIB, Mo.p_isiBB, Mo.p_isiLL, Mo.p_isiTT, Mo.p_isiBN, Mo.p_isiBS, Mo.p_isiBL, Mo.p_sl, Mo.p_sl1, Mo.p_sl2, Mo.p_sl3, Mo.p_on, Mo.p_os, Mo.p_os1, Mo.p_mkK, Mo.p_mkK1, Mo.p_mkK2, Mo.p_mkF, Mo.p_mkF1, Mo.p_seq, Mo.p_seqN, Mo.p_seqR, Mo.p_seqB, Mo.p_seqC, Mo.p_seqE, Mo.p_nil, Mo.p_brk, Mo.p_cnt, Mo.p_ret, Mo.p_ret1, Mo.p_ret1e, Mo.p_retN, Mo.p_drop, Mo.p_drop1, Mo.p_drop1e, Mo.p_if, Mo.p_ifT, Mo.p_ifF, Mo.p_ifE, Mo.p_asg, Mo.p_asg1, Mo.p_asg1e, Mo.p_asgM, Mo.p_asgM1, Mo.p_asgM1e, Mo.p_asgM2, Mo.p_gq, Mo.p_gq2, Mo.p_gl0, Mo.p_gl1, Mo.p_gl2, Mo.p_gn, Mo.p_ga, Mo.p_ga1, Mo.p_ga2, Mo.p_aug, Mo.p_aug1, Mo.p_aug2, Mo.p_aug2e, Mo.p_aug3, Mo.p_nxM, Mo.p_fs, Mo.p_fs1, Mo.p_fs1e, Mo.p_fs2, Mo.p_fa, Mo.p_fa1, Mo.p_fa2, Mo.p_fa3, Mo.p_fa3e, Mo.p_fa4, Mo.p_ix, Mo.p_ix1, Mo.p_ix1e, Mo.p_ix2, Mo.p_ix3, Mo.p_sf, Mo.p_sf1, Mo.p_sf2, Mo.p_for, Mo.p_for1, Mo.p_iv, Mo.p_ivL, Mo.p_ivK, Mo.p_ivT, Mo.p_r1, Mo.p_r11, Mo.p_r2, Mo.p_r21, Mo.p_en, Mo.p_en1, Mo.p_zp, Mo.p_zp1, Mo.p_tgn, Mo.p_tgt, Mo.p_gs0, Mo.p_gs1, Mo.p_fl0, Mo.p_fl1, Mo.p_fl2, Mo.p_fl3, Mo.p_fl4, Mo.p_fl5, Mo.p_fl6, Mo.p_fl7, Mo.p_wh, Mo.p_ar, Mo.p_T, Mo.p_T1, Mo.p_T2, Mo.p_T3, Mo.p_fin, Mo.p_K, Mo.p_K1, Mo.p_K2, Mo.p_K3, Mo.p_R, Mo.p_R1, Mo.p_bnd, Mo.q_cat, Mo.q_rep, Mo.q_sub, Mo.q_add, Mo.q_addT, Mo.q_iadd, Mo.q_and, Mo.q_or, Mo.q_xor, Mo.q_lt, Mo.q_le, Mo.q_gt, Mo.q_ge, Mo.q_mod, Mo.q_div, Mo.q_shr, Mo.q_shl, Mo.q_pow, Mo.q_mulLf, Mo.q_mulRf, Mo.q_mulLt, Mo.q_mulRt, Mo.q_neg, Mo.q_eqI, Mo.q_neI, Mo.LIM, Mo.opt_some, Mo.opt_none, Mo.ds?, Mo.mkL, Mo.oIx, Mo.oSl, Mo.oLen, Mo.lenO, Mo.oAbs, Mo.oInt, Mo.oList, Mo.oTupOf, Mo.oIsN, Mo.isN, Mo.rdP, Mo.rdL, Mo.rdT, Mo.clsV, Mo.clsO, Mo.isLc, Mo.mApp, Mo.appO, Mo.mExt, Mo.fldO, Mo.isNo, Mo.stO, Mo.frzD, Mo.frz, Mo.setO, Mo.envOf, List.map_cons, List.map_nil, List.length_cons, List.length_nil, List.replicate_succ, List.replicate_zero, List.cons_append, List.nil_append, List.append_nil, List.append_assoc, List.getElem?_cons_zero, List.getElem?_cons_succ, List.set_cons_zero, List.set_cons_succ, Nat.reduceAdd, Nat.reduceSub, Nat.reduceLeDiff, Nat.reduceLT, Nat.reduceEqDiff, if_true, if_false, reduceIte, decide_true, decide_false, Bool.false_eq_true, and_self, true_and, and_true, Bool.and_self, Bool.true_and, Bool.and_true, Bool.not_true, Bool.not_false, Int.reduceToNat, Nat.reducePow, Int.cast_ofNat_Int, Int.reduceMul, Int.reduceAdd, Int.reduceSub, Int.reduceNeg, Mo.atI_l0, Mo.atI_l1, Mo.atI_l2, Mo.atI_l3, Mo.atI_l4, Mo.atI_l5, Mo.atI_l6, Mo.atI_l7, Mo.atI_l8, Mo.atI_l9, Mo.atI_l10, Mo.atI_l11, List.length_map, Mo.cut_map, Mo.get_top, Mo.get_top0, Mo.set_top, Mo.set_top0, Mo.take_topk, Mo.take_top, List.take_length, List.take_succ_cons, List.take_zero, List.length_append, Nat.lt_irrefl, Mo.wipeE]) (by rw [rng_len]; show _ ≤ 16000000; omega) fun x hx M' => by
      obtain ⟨i, hi, rfl⟩ := rng_in hx
      refine ⟨_, rfl, rfl, fun _ => ?_⟩
      have e := fun b M => e_numof ds (4 * (0 + (i : Int))) (by omega) (by omega) hb b M
      simp (disch := first | omega | (simp only [List.length_map, List.length_cons, List.length_nil, List.length_append, List.length_replicate]; omega)) only [_add_block_c1, Mo.p_op, Mo.p_op1, Mo.p_op1e, Mo.p_op2, Mo.p_op2e, Mo.p_un, Mo.p_un1, Mo.p_var, Mo.p_var1, Mo.p_c, Mo.p_test, Mo.p_test1, Mo.p_test2, Mo.p_and, Mo.p_andT, Mo.p_andF, Mo.p_or, Mo.p_orT, Mo.p_orF, Mo.p_not, Mo.p_not1, Mo.p_tru, Mo.p_truB, Mo.p_truI, Mo.p_truN, Mo.p_truL, Mo.p_andV, Mo.p_andVT, Mo.p_andVF, Mo.p_orV, Mo.p_orVT, Mo.p_orVF, Mo.p_notV, Mo.p_notV1, Mo.p_ife, Mo.p_ifeT, Mo.p_ifeF, Mo.p_ch, Mo.p_ch1, Mo.p_ch2, Mo.p_ch3, Mo.p_ch4, Mo.p_an, Mo.p_ac, Mo.p_ac1, Mo.p_ac1e, Mo.p_ac2, Mo.p_ac2e, Mo.p_lst, Mo.p_lst1, Mo.p_lst2, Mo.p_tup, Mo.p_tup1, Mo.p_tup2, Mo.p_lsc, Mo.p_lsc1, Mo.p_cb, Mo.p_cb1, Mo.p_cb1e, Mo.p_call, Mo.p_call1, Mo.p_call1e, Mo.p_meth, Mo.p_meth1, Mo.p_meth2, Mo.p_meth2e, Mo.p_bm, Mo.p_bm1, Mo.p_bm2, Mo.p_fld, Mo.p_fld1, Mo.p_fld2, Mo.p_frz, Mo.p_frz1, Mo.p_frz2, Mo.p_isi, Mo.p_isiII, Mo.p_isiBI, Mo.p_isiLI, Mo.p_isiIB, Mo.p_isiBB, Mo.p_isiLL, Mo.p_isiTT, Mo.p_isiBN, Mo.p_isiBS, Mo.p_isiBL, Mo.p_sl, Mo.p_sl1, Mo.p_sl2, Mo.p_sl3, Mo.p_on, Mo.p_os, Mo.p_os1, Mo.p_mkK, Mo.p_mkK1, Mo.p_mkK2, Mo.p_mkF, Mo.p_mkF1, Mo.p_seq, Mo.p_seqN, Mo.p_seqR, Mo.p_seqB, Mo.p_seqC, Mo.p_seqE, Mo.p_nil, Mo.p_brk, Mo.p_cnt, Mo.p_ret, Mo.p_ret1, Mo.p_ret1e, Mo.p_retN, Mo.p_drop, Mo.p_drop1, Mo.p_drop1e, Mo.p_if, Mo.p_ifT, Mo.p_ifF, Mo.p_ifE, Mo.p_asg, Mo.p_asg1, Mo.p_asg1e, Mo.p_asgM, Mo.p_asgM1, Mo.p_asgM1e, Mo.p_asgM2, Mo.p_gq, Mo.p_gq2, Mo.p_gl0, Mo.p_gl1, Mo.p_gl2, Mo.p_gn, Mo.p_ga, Mo.p_ga1, Mo.p_ga2, Mo.p_aug, Mo.p_aug1, Mo.p_aug2, Mo.p_aug2e, Mo.p_aug3, Mo.p_nxM, Mo.p_fs, Mo.p_fs1, Mo.p_fs1e, Mo.p_fs2, Mo.p_fa, Mo.p_fa1, Mo.p_fa2, Mo.p_fa3, Mo.p_fa3e, Mo.p_fa4, Mo.p_ix, Mo.p_ix1, Mo.p_ix1e, Mo.p_ix2, Mo.p_ix3, Mo.p_sf, Mo.p_sf1, Mo.p_sf2, Mo.p_for, Mo.p_for1, Mo.p_iv, Mo.p_ivL, Mo.p_ivK, Mo.p_ivT, Mo.p_r1, Mo.p_r11, Mo.p_r2, Mo.p_r21, Mo.p_en, Mo.p_en1, Mo.p_zp, Mo.p_zp1, Mo.p_tgn, Mo.p_tgt, Mo.p_gs0, Mo.p_gs1, Mo.p_fl0, Mo.p_fl1, Mo.p_fl2, Mo.p_fl3, Mo.p_fl4, Mo.p_fl5, Mo.p_fl6, Mo.p_fl7, Mo.p_wh, Mo.p_ar, Mo.p_T, Mo.p_T1, Mo.p_T2, Mo.p_T3, Mo.p_fin, Mo.p_K, Mo.p_K1, Mo.p_K2, Mo.p_K3, Mo.p_R, Mo.p_R1, Mo.p_bnd, Mo.q_cat, Mo.q_rep, Mo.q_sub, Mo.q_add, Mo.q_addT, Mo.q_iadd, Mo.q_and, Mo.q_or, Mo.q_xor, Mo.q_lt, Mo.q_le, Mo.q_gt, Mo.q_ge, Mo.q_mod, Mo.q_div, Mo.q_shr, Mo.q_shl, Mo.q_pow, Mo.q_mulLf, Mo.q_mulRf, Mo.q_mulLt, Mo.q_mulRt, Mo.q_neg, Mo.q_eqI, Mo.q_neI, Mo.LIM, Mo.opt_some, Mo.opt_none, Mo.ds?, Mo.mkL, Mo.oIx, Mo.oSl, Mo.oLen, Mo.lenO, Mo.oAbs, Mo.oInt, Mo.oList, Mo.oTupOf, Mo.oIsN, Mo.isN, Mo.rdP, Mo.rdL, Mo.rdT, Mo.clsV, Mo.clsO, Mo.isLc, Mo.mApp, Mo.appO, Mo.mExt, Mo.fldO, Mo.isNo, Mo.stO, Mo.frzD, Mo.frz, Mo.setO, Mo.envOf, List.map_cons, List.map_nil, List.length_cons, List.length_nil, List.replicate_succ, List.replicate_zero, List.cons_append, List.nil_append, List.append_nil, List.append_assoc, List.getElem?_cons_zero, List.getElem?_cons_succ, List.set_cons_zero, List.set_cons_succ, Nat.reduceAdd, Nat.reduceSub, Nat.reduceLeDiff, Nat.reduceLT, Nat.reduceEqDiff, if_true, if_false, reduceIte, decide_true, decide_false, Bool.false_eq_true, and_self, true_and, and_true, Bool.and_self, Bool.true_and, Bool.and_true, Bool.not_true, Bool.not_false, Int.reduceToNat, Nat.reducePow, Int.cast_ofNat_Int, Int.reduceMul, Int.reduceAdd, Int.reduceSub, Int.reduceNeg, Mo.atI_l0, Mo.atI_l1, Mo.atI_l2, Mo.atI_l3, Mo.atI_l4, Mo.atI_l5, Mo.atI_l6, Mo.atI_l7, Mo.atI_l8, Mo.atI_l9, Mo.atI_l10, Mo.atI_l11, List.length_map, Mo.cut_map, Mo.get_top, Mo.get_top0, Mo.set_top, Mo.set_top0, Mo.take_topk, Mo.take_top, List.take_length, List.take_succ_cons, List.take_zero, List.length_append, Nat.lt_irrefl, Mo.wipeE, e]
  rw [q]
  congr 3
def sm (q r : Q4) : Q4 := ((q.1 + r.1) % 4294967296, (q.2.1 + r.2.1) % 4294967296, (q.2.2.1 + r.2.2.1) % 4294967296, (q.2.2.2 + r.2.2.2) % 4294967296)
def blk (q : Q4) (ds : List Int) : Q4 := sm q (itS (wds ds) q 64)
theorem blk_R (q : Q4) (ds : List Int) : R4 (blk q ds) := by
  unfold blk sm R4
  dsimp only
  omega
abbrev lq (q : Q4) : D := .lst [.int q.1, .int q.2.1, .int q.2.2.1, .int q.2.2.2]
theorem e_sum (q r : Q4) (b : Nat) (M : Store) (x1 x2 x7 x8 x9 x10 x11 : Option Vl) : eLcF (itZp (aCons (eVar 0) (aCons (eLst false (aCons (eVar 3) (aCons (eVar 4) (aCons (eVar 5) (aCons (eVar 6) aNil))))) aNil))) (.t [13, 14]) [13, 14] tYesE _add_block_c9 b [some (.d (lq q)), x1, x2, some (.d (.int r.1)), some (.d (.int r.2.1)), some (.d (.int r.2.2.1)), some (.d (.int r.2.2.2)), x7, x8, x9, x10, x11, none, none, none] M = .ok (.d (lq (sm q r)), M) := by
  have q := lcF_ok (it := itZp (aCons (eVar 0) (aCons (eLst false (aCons (eVar 3) (aCons (eVar 4) (aCons (eVar 5) (aCons (eVar 6) aNil))))) aNil))) (tg := .t [13, 14]) (vs := [13, 14]) (t := tYesE) (e := _add_block_c9) (b := b) (env := [some (.d (lq q)), x1, x2, some (.d (.int r.1)), some (.d (.int r.2.1)), some (.d (.int r.2.2.1)), some (.d (.int r.2.2.2)), x7, x8, x9, x10, x11, none, none, none]) (M := M)
    (xs := [.tup [.int q.1, .int r.1], .tup [.int q.2.1, .int r.2.1], .tup [.int q.2.2.1, .int r.2.2.1], .tup [.int q.2.2.2, .int r.2.2.2]])
    (fun x => match x with | .tup [.int x, .int y] => .int ((x + y) % 4294967296) | _ => .non) (by simp (disch := first | omega | (simp only [List.length_map, List.length_cons, List.length_nil, List.length_append, List.length_replicate]; omega)) only [Mo.p_op, Mo.p_op1, Mo.p_op1e, Mo.p_op2, Mo.p_op2e, Mo.p_un, Mo.p_un1, Mo.p_var, Mo.p_var1, Mo.p_c, Mo.p_test, Mo.p_test1, Mo.p_test2, Mo.p_and, Mo.p_andT, Mo.p_andF, Mo.p_or, Mo.p_orT, Mo.p_orF, Mo.p_not, Mo.p_not1, Mo.p_tru, Mo.p_truB, Mo.p_truI, Mo.p_truN, Mo.p_truL, Mo.p_andV, Mo.p_andVT, Mo.p_andVF, Mo.p_orV, Mo.p_orVT, Mo.p_orVF, Mo.p_notV, Mo.p_notV1, Mo.p_ife, Mo.p_ifeT, Mo.p_ifeF, Mo.p_ch, Mo.p_ch1, Mo.p_ch2, Mo.p_ch3, Mo.p_ch4, Mo.p_an, Mo.p_ac, Mo.p_ac1, Mo.p_ac1e, Mo.p_ac2, Mo.p_ac2e, Mo.p_lst, Mo.p_lst1, Mo.p_lst2, Mo.p_tup, Mo.p_tup1, Mo.p_tup2, Mo.p_lsc, Mo.p_lsc1, Mo.p_cb, Mo.p_cb1, Mo.p_cb1e, Mo.p_call, Mo.p_call1, Mo.p_call1e, Mo.p_meth, Mo.p_meth1, Mo.p_meth2, Mo.p_meth2e, Mo.p_bm, Mo.p_bm1, Mo.p_bm2, Mo.p_fld, Mo.p_fld1, Mo.p_fld2, Mo.p_frz, Mo.p_frz1, Mo.p_frz2, Mo.p_isi, Mo.p_isiII, Mo.p_isiBI, Mo.p_isiLI, Mo.p_isiIB, Mo.p_isiBB, Mo.p_isiLL, Mo.p_isiTT, Mo.p_isiBN, Mo.p_isiBS, Mo.p_isiBL, Mo.p_sl, Mo.p_sl1, Mo.p_sl2, Mo.p_sl3, Mo.p_on, Mo.p_os, Mo.p_os1, Mo.p_mkK, Mo.p_mkK1, Mo.p_mkK2, Mo.p_mkF, Mo.p_mkF1, Mo.p_seq, Mo.p_seqN, Mo.p_seqR, Mo.p_seqB, Mo.p_seqC, Mo.p_seqE, Mo.p_nil, Mo.p_brk, Mo.p_cnt, Mo.p_ret, Mo.p_ret1, Mo.p_ret1e, Mo.p_retN, Mo.p_drop, Mo.p_drop1, Mo.p_drop1e, Mo.p_if, Mo.p_ifT, Mo.p_ifF, Mo.p_ifE, Mo.p_asg, Mo.p_asg1, Mo.p_asg1e, Mo.p_asgM, Mo.p_asgM1, Mo.p_asgM1e, Mo.p_asgM2, Mo.p_gq, Mo.p_gq2, Mo.p_gl0, Mo.p_gl1, Mo.p_gl2, Mo.p_gn, Mo.p_ga, Mo.p_ga1, Mo.p_ga2, Mo.p_aug, Mo.p_aug1, Mo.p_aug2, Mo.p_aug2e, Mo.p_aug3, Mo.p_nxM, Mo.p_fs, Mo.p_fs1, Mo.p_fs1e, Mo.p_fs2, Mo.p_fa, Mo.p_fa1, Mo.p_fa2, Mo.p_fa3, Mo.p_fa3e, Mo.p_fa4, Mo.p_ix, Mo.p_ix1, Mo.p_ix1e, Mo.p_ix2, Mo.p_ix3, Mo.p_sf, Mo.p_sf1, Mo.p_sf2, Mo.p_for, Mo.p_for1, Mo.p_iv, Mo.p_ivL, Mo.p_ivK, Mo.p_ivT, Mo.p_r1, Mo.p_r11, Mo.p_r2, Mo.p_r21, Mo.p_en, Mo.p_en1, Mo.p_zp, Mo.p_zp1, Mo.p_tgn, Mo.p_tgt, Mo.p_gs0, Mo.p_gs1, Mo.p_fl0, Mo.p_fl1, Mo.p_fl2, Mo.p_fl3, Mo.p_fl4, Mo.p_fl5, Mo.p_fl6, Mo.p_fl7, Mo.p_wh, Mo.p_ar, Mo.p_T, Mo.p_T1, Mo.p_T2, Mo.p_T3, Mo.p_fin, Mo.p_K, Mo.p_K1, Mo.p_K2, Mo.p_K3, Mo.p_R, Mo.p_R1, Mo.p_bnd, Mo.q_cat, Mo.q_rep, Mo.q_sub, Mo.q_add, Mo.q_addT, Mo.q_iadd, Mo.q_and, Mo.q_or, Mo.q_xor, Mo.q_lt, Mo.q_le, Mo.q_gt, Mo.q_ge, Mo.q_mod, Mo.q_div, Mo.q_shr, Mo.q_shl, Mo.q_pow, Mo.q_mulLf, Mo.q_mulRf, Mo.q_mulLt, Mo.q_mulRt, Mo.q_neg, Mo.q_eqI, Mo.q_neI, Mo.LIM, Mo.opt_some, Mo.opt_none, Mo.ds?, Mo.mkL, Mo.oIx, Mo.oSl, Mo.oLen, Mo.lenO, Mo.oAbs, Mo.oInt, Mo.oList, Mo.oTupOf, Mo.oIsN, Mo.isN, Mo.rdP, Mo.rdL, Mo.rdT, Mo.clsV, Mo.clsO, Mo.isLc, Mo.mApp, Mo.appO, Mo.mExt, Mo.fldO, Mo.isNo, Mo.stO, Mo.frzD, Mo.frz, Mo.setO, Mo.envOf, List.map_cons, List.map_nil, List.length_cons, List.length_nil, List.replicate_succ, List.replicate_zero, List.cons_append, List.nil_append, List.append_nil, List.append_assoc, List.getElem?_cons_zero, List.getElem?_cons_succ, List.set_cons_zero, List.set_cons_succ, Nat.reduceAdd, Nat.reduceSub, Nat.reduceLeDiff, Nat.reduceLT, Nat.reduceEqDiff, if_true, if_false, reduceIte, decide_true, decide_false, Bool.false_eq_true, and_self, true_and, and_true, Bool.and_self, Bool.true_and, Bool.and_true, Bool.not_true, Bool.not_false, Int.reduceToNat, Nat.reducePow, Int.cast_ofNat_Int, Int.reduceMul, Int.reduceAdd, Int.reduceSub, Int.reduceNeg, Mo.atI_l0, Mo.atI_l1, Mo.atI_l2, Mo.atI_l3, Mo.atI_l4, Mo.atI_l5, Mo.atI_l6, Mo.atI_l7, Mo.atI_l8, Mo.atI_l9, Mo.atI_l10, Mo.atI_l11, List.length_map, Mo.cut_map, Mo.get_top, Mo.get_top0, Mo.set_top, Mo.set_top0, Mo.take_topk, Mo.take_top, List.take_length, List.take_succ_cons, List.take_zero, List.length_append, Nat.lt_irrefl, Mo.wipeE, lq]; rfl) (by show 4 ≤ 16000000; omega) fun x hx M' => by
      simp only [List.not_mem_nil, List.mem_cons, or_false] at hx
      rcases hx with rfl | rfl | rfl | rfl <;> (refine ⟨_, rfl, rfl, fun _ => ?_⟩; simp (disch := first | omega | (simp only [List.length_map, List.length_cons, List.length_nil, List.length_append, List.length_replicate]; omega)) only [_add_block_c9, Mo.p_op, Mo.p_op1, Mo.p_op1e, Mo.p_op2, Mo.p_op2e, Mo.p_un, Mo.p_un1, Mo.p_var, Mo.p_var1, Mo.p_c, Mo.p_test, Mo.p_test1, Mo.p_test2, Mo.p_and, Mo.p_andT, Mo.p_andF, Mo.p_or, Mo.p_orT, Mo.p_orF, Mo.p_not, Mo.p_not1, Mo.p_tru, Mo.p_truB, Mo.p_truI, Mo.p_truN, Mo.p_truL, Mo.p_andV, Mo.p_andVT, Mo.p_andVF, Mo.p_orV, Mo.p_orVT, Mo.p_orVF, Mo.p_notV, Mo.p_notV1, Mo.p_ife, Mo.p_ifeT, Mo.p_ifeF, Mo.p_ch, Mo.p_ch1, Mo.p_ch2, Mo.p_ch3, Mo.p_ch4, Mo.p_an, Mo.p_ac, Mo.p_ac1, Mo.p_ac1e, Mo.p_ac2, Mo.p_ac2e, Mo.p_lst, Mo.p_lst1, Mo.p_lst2, Mo.p_tup, Mo.p_tup1, Mo.p_tup2, Mo.p_lsc, Mo.p_lsc1, Mo.p_cb, Mo.p_cb1, Mo.p_cb1e, Mo.p_call, Mo.p_call1, Mo.p_call1e, Mo.p_meth, Mo.p_meth1, Mo.p_meth2, Mo.p_meth2e, Mo.p_bm, Mo.p_bm1, Mo.p_bm2, Mo.p_fld, Mo.p_fld1, Mo.p_fld2, Mo.p_frz, Mo.p_frz1, Mo.p_frz2, Mo.p_isi, Mo.p_isiII, Mo.p_isiBI, Mo.p_isiLI, Mo.p_isiIB, Mo.p_isiBB, Mo.p_isiLL, Mo.p_isiTT, Mo.p_isiBN, Mo.p_isiBS, Mo.p_isiBL, Mo.p_sl, Mo.p_sl1, Mo.p_sl2, Mo.p_sl3, Mo.p_on, Mo.p_os, Mo.p_os1, Mo.p_mkK, Mo.p_mkK1, Mo.p_mkK2, Mo.p_mkF, Mo.p_mkF1, Mo.p_seq, Mo.p_seqN, Mo.p_seqR, Mo.p_seqB, Mo.p_seqC, Mo.p_seqE, Mo.p_nil, Mo.p_brk, Mo.p_cnt, Mo.p_ret, Mo.p_ret1, Mo.p_ret1e, Mo.p_retN, Mo.p_drop, Mo.p_drop1, Mo.p_drop1e, Mo.p_if, Mo.p_ifT, Mo.p_ifF, Mo.p_ifE, Mo.p_asg, Mo.p_asg1, Mo.p_asg1e, Mo.p_asgM, Mo.p_asgM1, Mo.p_asgM1e, Mo.p_asgM2, Mo.p_gq, Mo.p_gq2, Mo.p_gl0, Mo.p_gl1, Mo.p_gl2, Mo.p_gn, Mo.p_ga, Mo.p_ga1, Mo.p_ga2, Mo.p_aug, Mo.p_aug1, Mo.p_aug2, Mo.p_aug2e, Mo.p_aug3, Mo.p_nxM, Mo.p_fs, Mo.p_fs1, Mo.p_fs1e, Mo.p_fs2, Mo.p_fa, Mo.p_fa1, Mo.p_fa2, Mo.p_fa3, Mo.p_fa3e, Mo.p_fa4, Mo.p_ix, Mo.p_ix1, Mo.p_ix1e, Mo.p_ix2, Mo.p_ix3, Mo.p_sf, Mo.p_sf1, Mo.p_sf2, Mo.p_for, Mo.p_for1, Mo.p_iv, Mo.p_ivL, Mo.p_ivK, Mo.p_ivT, Mo.p_r1, Mo.p_r11, Mo.p_r2, Mo.p_r21, Mo.p_en, Mo.p_en1, Mo.p_zp, Mo.p_zp1, Mo.p_tgn, Mo.p_tgt, Mo.p_gs0, Mo.p_gs1, Mo.p_fl0, Mo.p_fl1, Mo.p_fl2, Mo.p_fl3, Mo.p_fl4, Mo.p_fl5, Mo.p_fl6, Mo.p_fl7, Mo.p_wh, Mo.p_ar, Mo.p_T, Mo.p_T1, Mo.p_T2, Mo.p_T3, Mo.p_fin, Mo.p_K, Mo.p_K1, Mo.p_K2, Mo.p_K3, Mo.p_R, Mo.p_R1, Mo.p_bnd, Mo.q_cat, Mo.q_rep, Mo.q_sub, Mo.q_add, Mo.q_addT, Mo.q_iadd, Mo.q_and, Mo.q_or, Mo.q_xor, Mo.q_lt, Mo.q_le, Mo.q_gt, Mo.q_ge, Mo.q_mod, Mo.q_div, Mo.q_shr, Mo.q_shl, Mo.q_pow, Mo.q_mulLf, Mo.q_mulRf, Mo.q_mulLt, Mo.q_mulRt, Mo.q_neg, Mo.q_eqI, Mo.q_neI, Mo.LIM, Mo.opt_some, Mo.opt_none, Mo.ds?, Mo.mkL, Mo.oIx, Mo.oSl, Mo.oLen, Mo.lenO, Mo.oAbs, Mo.oInt, Mo.oList, Mo.oTupOf, Mo.oIsN, Mo.isN, Mo.rdP, Mo.rdL, Mo.rdT, Mo.clsV, Mo.clsO, Mo.isLc, Mo.mApp, Mo.appO, Mo.mExt, Mo.fldO, Mo.isNo, Mo.stO, Mo.frzD, Mo.frz, Mo.setO, Mo.envOf, List.map_cons, List.map_nil, List.length_cons, List.length_nil, List.replicate_succ, List.replicate_zero, List.cons_append, List.nil_append, List.append_nil, List.append_assoc, List.getElem?_cons_zero, List.getElem?_cons_succ, List.set_cons_zero, List.set_cons_succ, Nat.reduceAdd, Nat.reduceSub, Nat.reduceLeDiff, Nat.reduceLT, Nat.reduceEqDiff, if_true, if_false, reduceIte, decide_true, decide_false, Bool.false_eq_true, and_self, true_and, and_true, Bool.and_self, Bool.true_and, Bool.and_true, Bool.not_true, Bool.not_false, Int.reduceToNat, Nat.reducePow, Int.cast_ofNat_Int, Int.reduceMul, Int.reduceAdd, Int.reduceSub, Int.reduceNeg, Mo.atI_l0, Mo.atI_l1, Mo.atI_l2, Mo.atI_l3, Mo.atI_l4, Mo.atI_l5, Mo.atI_l6, Mo.atI_l7, Mo.atI_l8, Mo.atI_l9, Mo.atI_l10, Mo.atI_l11, List.length_map, Mo.cut_map, Mo.get_top, Mo.get_top0, Mo.set_top, Mo.set_top0, Mo.take_topk, Mo.take_top, List.take_length, List.take_succ_cons, List.take_zero, List.length_append, Nat.lt_irrefl, Mo.wipeE, bitAnd_m32])
  rw [q]
  rfl
theorem e_block (q : Q4) (hq : R4 q) (ds : List Int) (hl : ds.length = 64) (hb : By ds) (b : Nat) (M : Store) : F__add_block [.d (lq q), .d (li ds)] b M = .ok (.d (lq (blk q ds)), M) := by
  have hw := fun b M r => e_words (.d (lq q)) ds hl hb b M r
  simp (disch := first | omega | (simp only [List.length_map, List.length_cons, List.length_nil, List.length_append, List.length_replicate]; omega)) only [F__add_block, b__add_block, Mo.p_op, Mo.p_op1, Mo.p_op1e, Mo.p_op2, Mo.p_op2e, Mo.p_un, Mo.p_un1, Mo.p_var, Mo.p_var1, Mo.p_c, Mo.p_test, Mo.p_test1, Mo.p_test2, Mo.p_and, Mo.p_andT, Mo.p_andF, Mo.p_or, Mo.p_orT, Mo.p_orF, Mo.p_not, Mo.p_not1, Mo.p_tru, Mo.p_truB, Mo.p_truI, Mo.p_truN, Mo.p_truL, Mo.p_andV, Mo.p_andVT, Mo.p_andVF, Mo.p_orV, Mo.p_orVT, Mo.p_orVF, Mo.p_notV, Mo.p_notV1, Mo.p_ife, Mo.p_ifeT, Mo.p_ifeF, Mo.p_ch, Mo.p_ch1, Mo.p_ch2, Mo.p_ch3, Mo.p_ch4, Mo.p_an, Mo.p_ac, Mo.p_ac1, Mo.p_ac1e, Mo.p_ac2, Mo.p_ac2e, Mo.p_lst, Mo.p_lst1, Mo.p_lst2, Mo.p_tup, Mo.p_tup1, Mo.p_tup2, Mo.p_lsc, Mo.p_lsc1, Mo.p_cb, Mo.p_cb1, Mo.p_cb1e, Mo.p_call, Mo.p_call1, Mo.p_call1e, Mo.p_meth, Mo.p_meth1, Mo.p_meth2, Mo.p_meth2e, Mo.p_bm, Mo.p_bm1, Mo.p_bm2, Mo.p_fld, Mo.p_fld1, Mo.p_fld2, Mo.p_frz, Mo.p_frz1, Mo.p_frz2, Mo.p_isi, Mo.p_isiII, Mo.p_isiBI, Mo.p_isiLI, Mo.p_isiIB, Mo.p_isiBB, Mo.p_isiLL, Mo.p_isiTT, Mo.p_isiBN, Mo.p_isiBS, Mo.p_isiBL, Mo.p_sl, Mo.p_sl1, Mo.p_sl2, Mo.p_sl3, Mo.p_on, Mo.p_os, Mo.p_os1, Mo.p_mkK, Mo.p_mkK1, Mo.p_mkK2, Mo.p_mkF, Mo.p_mkF1, Mo.p_seq, Mo.p_seqN, Mo.p_seqR, Mo.p_seqB, Mo.p_seqC, Mo.p_seqE, Mo.p_nil, Mo.p_brk, Mo.p_cnt, Mo.p_ret, Mo.p_ret1, Mo.p_ret1e, Mo.p_retN, Mo.p_drop, Mo.p_drop1, Mo.p_drop1e, Mo.p_if, Mo.p_ifT, Mo.p_ifF, Mo.p_ifE, Mo.p_asg, Mo.p_asg1, Mo.p_asg1e, Mo.p_asgM, Mo.p_asgM1, Mo.p_asgM1e, Mo.p_asgM2, Mo.p_gq, Mo.p_gq2, Mo.p_gl0, Mo.p_gl1, Mo.p_gl2, Mo.p_gn, Mo.p_ga, Mo.p_ga1, Mo.p_ga2, Mo.p_aug, Mo.p_aug1, Mo.p_aug2, Mo.p_aug2e, Mo.p_aug3, Mo.p_nxM, Mo.p_fs, Mo.p_fs1, Mo.p_fs1e, Mo.p_fs2, Mo.p_fa, Mo.p_fa1, Mo.p_fa2, Mo.p_fa3, Mo.p_fa3e, Mo.p_fa4, Mo.p_ix, Mo.p_ix1, Mo.p_ix1e, Mo.p_ix2, Mo.p_ix3, Mo.p_sf, Mo.p_sf1, Mo.p_sf2, Mo.p_for, Mo.p_for1, Mo.p_iv, Mo.p_ivL, Mo.p_ivK, Mo.p_ivT, Mo.p_r1, Mo.p_r11, Mo.p_r2, Mo.p_r21, Mo.p_en, Mo.p_en1, Mo.p_zp, Mo.p_zp1, Mo.p_tgn, Mo.p_tgt, Mo.p_gs0, Mo.p_gs1, Mo.p_fl0, Mo.p_fl1, Mo.p_fl2, Mo.p_fl3, Mo.p_fl4, Mo.p_fl5, Mo.p_fl6, Mo.p_fl7, Mo.p_wh, Mo.p_ar, Mo.p_T, Mo.p_T1, Mo.p_T2, Mo.p_T3, Mo.p_fin, Mo.p_K, Mo.p_K1, Mo.p_K2, Mo.p_K3, Mo.p_R, Mo.p_R1, Mo.p_bnd, Mo.q_cat, Mo.q_rep, Mo.q_sub, Mo.q_add, Mo.q_addT, Mo.q_iadd, Mo.q_and, Mo.q_or, Mo.q_xor, Mo.q_lt, Mo.q_le, Mo.q_gt, Mo.q_ge, Mo.q_mod, Mo.q_div, Mo.q_shr, Mo.q_shl, Mo.q_pow, Mo.q_mulLf, Mo.q_mulRf, Mo.q_mulLt, Mo.q_mulRt, Mo.q_neg, Mo.q_eqI, Mo.q_neI, Mo.LIM, Mo.opt_some, Mo.opt_none, Mo.ds?, Mo.mkL, Mo.oIx, Mo.oSl, Mo.oLen, Mo.lenO, Mo.oAbs, Mo.oInt, Mo.oList, Mo.oTupOf, Mo.oIsN, Mo.isN, Mo.rdP, Mo.rdL, Mo.rdT, Mo.clsV, Mo.clsO, Mo.isLc, Mo.mApp, Mo.appO, Mo.mExt, Mo.fldO, Mo.isNo, Mo.stO, Mo.frzD, Mo.frz, Mo.setO, Mo.envOf, List.map_cons, List.map_nil, List.length_cons, List.length_nil, List.replicate_succ, List.replicate_zero, List.cons_append, List.nil_append, List.append_nil, List.append_assoc, List.getElem?_cons_zero, List.getElem?_cons_succ, List.set_cons_zero, List.set_cons_succ, Nat.reduceAdd, Nat.reduceSub, Nat.reduceLeDiff, Nat.reduceLT, Nat.reduceEqDiff, if_true, if_false, reduceIte, decide_true, decide_false, Bool.false_eq_true, and_self, true_and, and_true, Bool.and_self, Bool.true_and, Bool.and_true, Bool.not_true, Bool.not_false, Int.reduceToNat, Nat.reducePow, Int.cast_ofNat_Int, Int.reduceMul, Int.reduceAdd, Int.reduceSub, Int.reduceNeg, Mo.atI_l0, Mo.atI_l1, Mo.atI_l2, Mo.atI_l3, Mo.atI_l4, Mo.atI_l5, Mo.atI_l6, Mo.atI_l7, Mo.atI_l8, Mo.atI_l9, Mo.atI_l10, Mo.atI_l11, List.length_map, Mo.cut_map, Mo.get_top, Mo.get_top0, Mo.set_top, Mo.set_top0, Mo.take_topk, Mo.take_top, List.take_length, List.take_succ_cons, List.take_zero, List.length_append, Nat.lt_irrefl, Mo.wipeE, hw, lq]
  obtain ⟨env', M', e, hM, x7, x8, x9, x10, x11, hE⟩ := forL_ok (g := (Tg.n 7).g) (s := _add_block_l3) (b := M.length) (fun k env M' => M' = M ∧ ∃ x7 x8 x9 x10 x11, env = [some (.d (lq q)), some (.d (li ds)), some (.d (li (wds ds))), some (.d (.int (itS (wds ds) q k).1)), some (.d (.int (itS (wds ds) q k).2.1)), some (.d (.int (itS (wds ds) q k).2.2.1)), some (.d (.int (itS (wds ds) q k).2.2.2)), x7, x8, x9, x10, x11, none, none, none])
    (rng1 0 64) 0 (env := [some (.d (lq q)), some (.d (li ds)), some (.d (li (wds ds))), some (.d (.int q.1)), some (.d (.int q.2.1)), some (.d (.int q.2.2.1)), some (.d (.int q.2.2.2)), none, none, none, none, none, none, none, none]) (M := M) ⟨rfl, _, _, _, _, _, rfl⟩ (by
      intro i x env M' hx ⟨hM, x7, x8, x9, x10, x11, hE⟩
      subst hM; subst hE
      obtain ⟨hi, rfl⟩ := rng_at hx
      obtain ⟨y8, y9, y10, y11, h⟩ := step_p (some (.d (lq q))) (some (.d (li ds))) (wds ds) (wds_len ds) (itS (wds ds) q (0 + i)) (it_R hq _) (0 + (i : Int)) (by omega) M'.length M' x8 x9 x10 x11
      refine ⟨_, _, _, rfl, h, rfl, some (.d (.int (0 + (i : Int)))), y8, y9, y10, y11, ?_⟩
      rw [show itS (wds ds) q (0 + i + 1) = nx (wds ds) (0 + (i : Int)) (itS (wds ds) q (0 + i)) from by
        show nx _ ((0 + i : Nat) : Int) _ = _
        rw [show ((0 + i : Nat) : Int) = 0 + (i : Int) from by omega]])
  subst hM; subst hE
  simp (disch := first | omega | (simp only [List.length_map, List.length_cons, List.length_nil, List.length_append, List.length_replicate]; omega)) only [li, lq] at e
  have hz := fun b M x1 x2 x7 x8 x9 x10 x11 => e_sum q (itS (wds ds) q (0 + (rng1 0 64).length)) b M x1 x2 x7 x8 x9 x10 x11
  simp (disch := first | omega | (simp only [List.length_map, List.length_cons, List.length_nil, List.length_append, List.length_replicate]; omega)) only [lq] at hz
  simp (disch := first | omega | (simp only [List.length_map, List.length_cons, List.length_nil, List.length_append, List.length_replicate]; omega)) only [Mo.p_op, Mo.p_op1, Mo.p_op1e, Mo.p_op2, Mo.p_op2e, Mo.p_un, Mo.p_un1, Mo.p_var, Mo.p_var1, Mo.p_c, Mo.p_test, Mo.p_test1, Mo.p_test2, Mo.p_and, Mo.p_andT, Mo.p_andF, Mo.p_or, Mo.p_orT, Mo.p_orF, Mo.p_not, Mo.p_not1, Mo.p_tru, Mo.p_truB, Mo.p_truI, Mo.p_truN, Mo.p_truL, Mo.p_andV, Mo.p_andVT, Mo.p_andVF, Mo.p_orV, Mo.p_orVT, Mo.p_orVF, Mo.p_notV, Mo.p_notV1, Mo.p_ife, Mo.p_ifeT, Mo.p_ifeF, Mo.p_ch, Mo.p_ch1, Mo.p_ch2, Mo.p_ch3, Mo.p_ch4, Mo.p_an, Mo.p_ac, Mo.p_ac1, Mo.p_ac1e, Mo.p_ac2, Mo.p_ac2e, Mo.p_lst, Mo.p_lst1, Mo.p_lst2, Mo.p_tup, Mo.p_tup1, Mo.p_tup2, Mo.p_lsc, Mo.p_lsc1, Mo.p_cb, Mo.p_cb1, Mo.p_cb1e, Mo.p_call, Mo.p_call1, Mo.p_call1e, Mo.p_meth, Mo.p_meth1, Mo.p_meth2, Mo.p_meth2e, Mo.p_bm, Mo.p_bm1, Mo.p_bm2, Mo.p_fld, Mo.p_fld1, Mo.p_fld2, Mo.p_frz, Mo.p_frz1, Mo.p_frz2, Mo.p_isi, Mo.p_isiII, Mo.p_isiBI, Mo.p_isiLI, Mo.p_isiIB, Mo.p_isiBB, Mo.p_isiLL, Mo.p_isiTT, Mo.p_isiBN, Mo.p_isiBS, Mo.p_isiBL, Mo.p_sl, Mo.p_sl1, Mo.p_sl2, Mo.p_sl3, Mo.p_on, Mo.p_os, Mo.p_os1, Mo.p_mkK, Mo.p_mkK1, Mo.p_mkK2, Mo.p_mkF, Mo.p_mkF1, Mo.p_seq, Mo.p_seqN, Mo.p_seqR, Mo.p_seqB, Mo.p_seqC, Mo.p_seqE, Mo.p_nil, Mo.p_brk, Mo.p_cnt, Mo.p_ret, Mo.p_ret1, Mo.p_ret1e, Mo.p_retN, Mo.p_drop, Mo.p_drop1, Mo.p_drop1e, Mo.p_if, Mo.p_ifT, Mo.p_ifF, Mo.p_ifE, Mo.p_asg, Mo.p_asg1, Mo.p_asg1e, Mo.p_asgM, Mo.p_asgM1, Mo.p_asgM1e, Mo.p_asgM2, Mo.p_gq, Mo.p_gq2, Mo.p_gl0, Mo.p_gl1, Mo.p_gl2, Mo.p_gn, Mo.p_ga, Mo.p_ga1, Mo.p_ga2, Mo.p_aug, Mo.p_aug1, Mo.p_aug2, Mo.p_aug2e, Mo.p_aug3, Mo.p_nxM, Mo.p_fs, Mo.p_fs1, Mo.p_fs1e, Mo.p_fs2, Mo.p_fa, Mo.p_fa1, Mo.p_fa2, Mo.p_fa3, Mo.p_fa3e, Mo.p_fa4, Mo.p_ix, Mo.p_ix1, Mo.p_ix1e, Mo.p_ix2, Mo.p_ix3, Mo.p_sf, Mo.p_sf1, Mo.p_sf2, Mo.p_for, Mo.p_for1, Mo.p_iv, Mo.p_ivL, Mo.p_ivK, Mo.p_ivT, Mo.p_r1, Mo.p_r11, Mo.p_r2, Mo.p_r21, Mo.p_en, Mo.p_en1, Mo.p_zp, Mo.p_zp1, Mo.p_tgn, Mo.p_tgt, Mo.p_gs0, Mo.p_gs1, Mo.p_fl0, Mo.p_fl1, Mo.p_fl2, Mo.p_fl3, Mo.p_fl4, Mo.p_fl5, Mo.p_fl6, Mo.p_fl7, Mo.p_wh, Mo.p_ar, Mo.p_T, Mo.p_T1, Mo.p_T2, Mo.p_T3, Mo.p_fin, Mo.p_K, Mo.p_K1, Mo.p_K2, Mo.p_K3, Mo.p_R, Mo.p_R1, Mo.p_bnd, Mo.q_cat, Mo.q_rep, Mo.q_sub, Mo.q_add, Mo.q_addT, Mo.q_iadd, Mo.q_and, Mo.q_or, Mo.q_xor, Mo.q_lt, Mo.q_le, Mo.q_gt, Mo.q_ge, Mo.q_mod, Mo.q_div, Mo.q_shr, Mo.q_shl, Mo.q_pow, Mo.q_mulLf, Mo.q_mulRf, Mo.q_mulLt, Mo.q_mulRt, Mo.q_neg, Mo.q_eqI, Mo.q_neI, Mo.LIM, Mo.opt_some, Mo.opt_none, Mo.ds?, Mo.mkL, Mo.oIx, Mo.oSl, Mo.oLen, Mo.lenO, Mo.oAbs, Mo.oInt, Mo.oList, Mo.oTupOf, Mo.oIsN, Mo.isN, Mo.rdP, Mo.rdL, Mo.rdT, Mo.clsV, Mo.clsO, Mo.isLc, Mo.mApp, Mo.appO, Mo.mExt, Mo.fldO, Mo.isNo, Mo.stO, Mo.frzD, Mo.frz, Mo.setO, Mo.envOf, List.map_cons, List.map_nil, List.length_cons, List.length_nil, List.replicate_succ, List.replicate_zero, List.cons_append, List.nil_append, List.append_nil, List.append_assoc, List.getElem?_cons_zero, List.getElem?_cons_succ, List.set_cons_zero, List.set_cons_succ, Nat.reduceAdd, Nat.reduceSub, Nat.reduceLeDiff, Nat.reduceLT, Nat.reduceEqDiff, if_true, if_false, reduceIte, decide_true, decide_false, Bool.false_eq_true, and_self, true_and, and_true, Bool.and_self, Bool.true_and, Bool.and_true, Bool.not_true, Bool.not_false, Int.reduceToNat, Nat.reducePow, Int.cast_ofNat_Int, Int.reduceMul, Int.reduceAdd, Int.reduceSub, Int.reduceNeg, Mo.atI_l0, Mo.atI_l1, Mo.atI_l2, Mo.atI_l3, Mo.atI_l4, Mo.atI_l5, Mo.atI_l6, Mo.atI_l7, Mo.atI_l8, Mo.atI_l9, Mo.atI_l10, Mo.atI_l11, List.length_map, Mo.cut_map, Mo.get_top, Mo.get_top0, Mo.set_top, Mo.set_top0, Mo.take_topk, Mo.take_top, List.take_length, List.take_succ_cons, List.take_zero, List.length_append, Nat.lt_irrefl, Mo.wipeE, e, hz]
  rfl
theorem wds_get (ds : List Int) {i : Int} (h : 0 ≤ i ∧ i < 16) : (wds ds).getD i.toNat 0 = w4 ds (4 * i) := by
  unfold wds
  rw [List.getD_eq_getElem?_getD, List.getElem?_map, List.getElem?_range (by omega)]
  show w4 ds (4 * (i.toNat : Int)) = _
  rw [Int.toNat_of_nonneg h.1]
/-! ### blocks -/
def blks (q : Q4) (ds : List Int) : Nat → Q4
  | 0 => q
  | k + 1 => blk (blks q ds k) ((ds.drop (64 * k)).take 64)
theorem blks_R {q : Q4} (h : R4 q) (ds : List Int) : ∀ k, R4 (blks q ds k)
  | 0 => h
  | _ + 1 => blk_R _ _
theorem By.cut {ds : List Int} (h : By ds) (a n : Nat) : By ((ds.drop a).take n) := fun x hx => h x (List.mem_of_mem_drop (List.mem_of_mem_take hx))
theorem e_blocks (q : Q4) (hq : R4 q) (ds : List Int) (hl : ds.length < 100000) (hb : By ds) (b : Nat) (M : Store) : F__add_blocks [.d (lq q), .d (li ds)] b M = .ok (.d (.tup [lq (blks q ds (ds.length / 64)), li (ds.drop (64 * (ds.length / 64)))]), M) := by
  simp (disch := first | omega | (simp only [List.length_map, List.length_cons, List.length_nil, List.length_append, List.length_replicate]; omega)) only [F__add_blocks, b__add_blocks, Mo.p_op, Mo.p_op1, Mo.p_op1e, Mo.p_op2, Mo.p_op2e, Mo.p_un, Mo.p_un1, Mo.p_var, Mo.p_var1, Mo.p_c, Mo.p_test, Mo.p_test1, Mo.p_test2, Mo.p_and, Mo.p_andT, Mo.p_andF, Mo.p_or, Mo.p_orT, Mo.p_orF, Mo.p_not, Mo.p_not1, Mo.p_tru, Mo.p_truB, Mo.p_truI, Mo.p_truN, Mo.p_truL, Mo.p_andV, Mo.p_andVT, Mo.p_andVF, Mo.p_orV, Mo.p_orVT, Mo.p_orVF, Mo.p_notV, Mo.p_notV1, Mo.p_ife, Mo.p_ifeT, Mo.p_ifeF, Mo.p_ch, Mo.p_ch1, Mo.p_ch2, Mo.p_ch3, Mo.p_ch4, Mo.p_an, Mo.p_ac, Mo.p_ac1, Mo.p_ac1e, Mo.p_ac2, Mo.p_ac2e, Mo.p_lst, Mo.p_lst1, Mo.p_lst2, Mo.p_tup, Mo.p_tup1, Mo.p_tup2, Mo.p_lsc, Mo.p_lsc1, Mo.p_cb, Mo.p_cb1, Mo.p_cb1e, Mo.p_call, Mo.p_call1, Mo.p_call1e, Mo.p_meth, Mo.p_meth1, Mo.p_meth2, Mo.p_meth2e, Mo.p_bm, Mo.p_bm1, Mo.p_bm2, Mo.p_fld, Mo.p_fld1, Mo.p_fld2, Mo.p_frz, Mo.p_frz1, Mo.p_frz2, Mo.p_isi, Mo.p_isiII, Mo.p_isiBI, Mo.p_isiLI, Mo.p_isiIB, Mo.p_isiBB, Mo.p_isiLL, Mo.p_isiTT, Mo.p_isiBN, Mo.p_isiBS, Mo.p_isiBL, Mo.p_sl, Mo.p_sl1, Mo.p_sl2, Mo.p_sl3, Mo.p_on, Mo.p_os, Mo.p_os1, Mo.p_mkK, Mo.p_mkK1, Mo.p_mkK2, Mo.p_mkF, Mo.p_mkF1, Mo.p_seq, Mo.p_seqN, Mo.p_seqR, Mo.p_seqB, Mo.p_seqC, Mo.p_seqE, Mo.p_nil, Mo.p_brk, Mo.p_cnt, Mo.p_ret, Mo.p_ret1, Mo.p_ret1e, Mo.p_retN, Mo.p_drop, Mo.p_drop1, Mo.p_drop1e, Mo.p_if, Mo.p_ifT, Mo.p_ifF, Mo.p_ifE, Mo.p_asg, Mo.p_asg1, Mo.p_asg1e, Mo.p_asgM, Mo.p_asgM1, Mo.p_asgM1e, Mo.p_asgM2, Mo.p_gq, Mo.p_gq2, Mo.p_gl0, Mo.p_gl1, Mo.p_gl2, Mo.p_gn, Mo.p_ga, Mo.p_ga1, Mo.p_ga2, Mo.p_aug, Mo.p_aug1, Mo.p_aug2, Mo.p_aug2e, Mo.p_aug3, Mo.p_nxM, Mo.p_fs, Mo.p_fs1, Mo.p_fs1e, Mo.p_fs2, Mo.p_fa, Mo.p_fa1, Mo.p_fa2, Mo.p_fa3, Mo.p_fa3e, Mo.p_fa4, Mo.p_ix, Mo.p_ix1, Mo.p_ix1e, Mo.p_ix2, Mo.p_ix3, Mo.p_sf, Mo.p_sf1, Mo.p_sf2, Mo.p_for, Mo.p_for1, Mo.p_iv, Mo.p_ivL, Mo.p_ivK, Mo.p_ivT, Mo.p_r1, Mo.p_r11, Mo.p_r2, Mo.p_r21, Mo.p_en, Mo.p_en1, Mo.p_zp, Mo.p_zp1, Mo.p_tgn, Mo.p_tgt, Mo.p_gs0, Mo.p_gs1, Mo.p_fl0, Mo.p_fl1, Mo.p_fl2, Mo.p_fl3, Mo.p_fl4, Mo.p_fl5, Mo.p_fl6, Mo.p_fl7, Mo.p_wh, Mo.p_ar, Mo.p_T, Mo.p_T1, Mo.p_T2, Mo.p_T3, Mo.p_fin, Mo.p_K, Mo.p_K1, Mo.p_K2, Mo.p_K3, Mo.p_R, Mo.p_R1, Mo.p_bnd, Mo.q_cat, Mo.q_rep, Mo.q_sub, Mo.q_add, Mo.q_addT, Mo.q_iadd, Mo.q_and, Mo.q_or, Mo.q_xor, Mo.q_lt, Mo.q_le, Mo.q_gt, Mo.q_ge, Mo.q_mod, Mo.q_div, Mo.q_shr, Mo.q_shl, Mo.q_pow, Mo.q_mulLf, Mo.q_mulRf, Mo.q_mulLt, Mo.q_mulRt, Mo.q_neg, Mo.q_eqI, Mo.q_neI, Mo.LIM, Mo.opt_some, Mo.opt_none, Mo.ds?, Mo.mkL, Mo.oIx, Mo.oSl, Mo.oLen, Mo.lenO, Mo.oAbs, Mo.oInt, Mo.oList, Mo.oTupOf, Mo.oIsN, Mo.isN, Mo.rdP, Mo.rdL, Mo.rdT, Mo.clsV, Mo.clsO, Mo.isLc, Mo.mApp, Mo.appO, Mo.mExt, Mo.fldO, Mo.isNo, Mo.stO, Mo.frzD, Mo.frz, Mo.setO, Mo.envOf, List.map_cons, List.map_nil, List.length_cons, List.length_nil, List.replicate_succ, List.replicate_zero, List.cons_append, List.nil_append, List.append_nil, List.append_assoc, List.getElem?_cons_zero, List.getElem?_cons_succ, List.set_cons_zero, List.set_cons_succ, Nat.reduceAdd, Nat.reduceSub, Nat.reduceLeDiff, Nat.reduceLT, Nat.reduceEqDiff, if_true, if_false, reduceIte, decide_true, decide_false, Bool.false_eq_true, and_self, true_and, and_true, Bool.and_self, Bool.true_and, Bool.and_true, Bool.not_true, Bool.not_false, Int.reduceToNat, Nat.reducePow, Int.cast_ofNat_Int, Int.reduceMul, Int.reduceAdd, Int.reduceSub, Int.reduceNeg, Mo.atI_l0, Mo.atI_l1, Mo.atI_l2, Mo.atI_l3, Mo.atI_l4, Mo.atI_l5, Mo.atI_l6, Mo.atI_l7, Mo.atI_l8, Mo.atI_l9, Mo.atI_l10, Mo.atI_l11, List.length_map, Mo.cut_map, Mo.get_top, Mo.get_top0, Mo.set_top, Mo.set_top0, Mo.take_topk, Mo.take_top, List.take_length, List.take_succ_cons, List.take_zero, List.length_append, Nat.lt_irrefl, Mo.wipeE]
  obtain ⟨env', M', e, hM, k, hk, hE⟩ := whileL_ok (e := _add_blocks_w2) (s := _add_blocks_l2) (b := M.length) (fun m env M' => M' = M ∧ ∃ k, k + m = ds.length / 64 ∧ env = [some (.d (lq (blks q ds k))), some (.d (li ds)), some (.d (.int (64 * (k : Int))))])
    (ds.length / 64) 16000000 (env := [some (.d (lq q)), some (.d (li ds)), some (.d (.int 0))]) (M := M) (by omega) ⟨rfl, 0, by omega, rfl⟩ (by
      intro m env M' ⟨hM, k, hk, hE⟩
      subst hM; subst hE
      have hc := cut_ab (xs := ds) (a := 64 * (k : Int)) (b := 64 * (k : Int) + 64) (by omega) (by omega) (by omega)
      rw [show (64 * (k : Int)).toNat = 64 * k from by omega, show (64 * (k : Int) + 64 - 64 * (k : Int)).toNat = 64 from by omega] at hc
      have hB := fun b M => e_block (blks q ds k) (blks_R hq ds k) ((ds.drop (64 * k)).take 64) (by rw [List.length_take, List.length_drop]; omega) (hb.cut _ _) b M
      simp only [li] at hB
      refine ⟨M', _, _, ?_, ?_, rfl, k + 1, by omega, rfl⟩
      · simp (disch := first | omega | (simp only [List.length_map, List.length_cons, List.length_nil, List.length_append, List.length_replicate]; omega)) only [_add_blocks_w2, Mo.p_op, Mo.p_op1, Mo.p_op1e, Mo.p_op2, Mo.p_op2e, Mo.p_un, Mo.p_un1, Mo.p_var, Mo.p_var1, Mo.p_c, Mo.p_test, Mo.p_test1, Mo.p_test2, Mo.p_and, Mo.p_andT, Mo.p_andF, Mo.p_or, Mo.p_orT, Mo.p_orF, Mo.p_not, Mo.p_not1, Mo.p_tru, Mo.p_truB, Mo.p_truI, Mo.p_truN, Mo.p_truL, Mo.p_andV, Mo.p_andVT, Mo.p_andVF, Mo.p_orV, Mo.p_orVT, Mo.p_orVF, Mo.p_notV, Mo.p_notV1, Mo.p_ife, Mo.p_ifeT, Mo.p_ifeF, Mo.p_ch, Mo.p_ch1, Mo.p_ch2, Mo.p_ch3, Mo.p_ch4, Mo.p_an, Mo.p_ac, Mo.p_ac1, Mo.p_ac1e, Mo.p_ac2, Mo.p_ac2e, Mo.p_lst, Mo.p_lst1, Mo.p_lst2, Mo.p_tup, Mo.p_tup1, Mo.p_tup2, Mo.p_lsc, Mo.p_lsc1, Mo.p_cb, Mo.p_cb1, Mo.p_cb1e, Mo.p_call, Mo.p_call1, Mo.p_call1e, Mo.p_meth, Mo.p_meth1, Mo.p_meth2, Mo.p_meth2e, Mo.p_bm, Mo.p_bm1, Mo.p_bm2, Mo.p_fld, Mo.p_fld1, Mo.p_fld2, Mo.p_frz, Mo.p_frz1, Mo.p_frz2, Mo.p_isi, Mo.p_isiII, Mo.p_isiBI, Mo.p_isiLI, Mo.p_isiIB, Mo.p_isiBB, Mo.p_isiLL, Mo.p_isiTT, Mo.p_isiBN, Mo.p_isiBS, Mo.p_isiBL, Mo.p_sl, Mo.p_sl1, Mo.p_sl2, Mo.p_sl3, Mo.p_on, Mo.p_os, Mo.p_os1, Mo.p_mkK, Mo.p_mkK1, Mo.p_mkK2, Mo.p_mkF, Mo.p_mkF1, Mo.p_seq, Mo.p_seqN, Mo.p_seqR, Mo.p_seqB, Mo.p_seqC, Mo.p_seqE, Mo.p_nil, Mo.p_brk, Mo.p_cnt, Mo.p_ret, Mo.p_ret1, Mo.p_ret1e, Mo.p_retN, Mo.p_drop, Mo.p_drop1, Mo.p_drop1e, Mo.p_if, Mo.p_ifT, Mo.p_ifF, Mo.p_ifE, Mo.p_asg, Mo.p_asg1, Mo.p_asg1e, Mo.p_asgM, Mo.p_asgM1, Mo.p_asgM1e, Mo.p_asgM2, Mo.p_gq, Mo.p_gq2, Mo.p_gl0, Mo.p_gl1, Mo.p_gl2, Mo.p_gn, Mo.p_ga, Mo.p_ga1, Mo.p_ga2, Mo.p_aug, Mo.p_aug1, Mo.p_aug2, Mo.p_aug2e, Mo.p_aug3, Mo.p_nxM, Mo.p_fs, Mo.p_fs1, Mo.p_fs1e, Mo.p_fs2, Mo.p_fa, Mo.p_fa1, Mo.p_fa2, Mo.p_fa3, Mo.p_fa3e, Mo.p_fa4, Mo.p_ix, Mo.p_ix1, Mo.p_ix1e, Mo.p_ix2, Mo.p_ix3, Mo.p_sf, Mo.p_sf1, Mo.p_sf2, Mo.p_for, Mo.p_for1, Mo.p_iv, Mo.p_ivL, Mo.p_ivK, Mo.p_ivT, Mo.p_r1, Mo.p_r11, Mo.p_r2, Mo.p_r21, Mo.p_en, Mo.p_en1, Mo.p_zp, Mo.p_zp1, Mo.p_tgn, Mo.p_tgt, Mo.p_gs0, Mo.p_gs1, Mo.p_fl0, Mo.p_fl1, Mo.p_fl2, Mo.p_fl3, Mo.p_fl4, Mo.p_fl5, Mo.p_fl6, Mo.p_fl7, Mo.p_wh, Mo.p_ar, Mo.p_T, Mo.p_T1, Mo.p_T2, Mo.p_T3, Mo.p_fin, Mo.p_K, Mo.p_K1, Mo.p_K2, Mo.p_K3, Mo.p_R, Mo.p_R1, Mo.p_bnd, Mo.q_cat, Mo.q_rep, Mo.q_sub, Mo.q_add, Mo.q_addT, Mo.q_iadd, Mo.q_and, Mo.q_or, Mo.q_xor, Mo.q_lt, Mo.q_le, Mo.q_gt, Mo.q_ge, Mo.q_mod, Mo.q_div, Mo.q_shr, Mo.q_shl, Mo.q_pow, Mo.q_mulLf, Mo.q_mulRf, Mo.q_mulLt, Mo.q_mulRt, Mo.q_neg, Mo.q_eqI, Mo.q_neI, Mo.LIM, Mo.opt_some, Mo.opt_none, Mo.ds?, Mo.mkL, Mo.oIx, Mo.oSl, Mo.oLen, Mo.lenO, Mo.oAbs, Mo.oInt, Mo.oList, Mo.oTupOf, Mo.oIsN, Mo.isN, Mo.rdP, Mo.rdL, Mo.rdT, Mo.clsV, Mo.clsO, Mo.isLc, Mo.mApp, Mo.appO, Mo.mExt, Mo.fldO, Mo.isNo, Mo.stO, Mo.frzD, Mo.frz, Mo.setO, Mo.envOf, List.map_cons, List.map_nil, List.length_cons, List.length_nil, List.replicate_succ, List.replicate_zero, List.cons_append, List.nil_append, List.append_nil, List.append_assoc, List.getElem?_cons_zero, List.getElem?_cons_succ, List.set_cons_zero, List.set_cons_succ, Nat.reduceAdd, Nat.reduceSub, Nat.reduceLeDiff, Nat.reduceLT, Nat.reduceEqDiff, if_true, if_false, reduceIte, decide_true, decide_false, Bool.false_eq_true, and_self, true_and, and_true, Bool.and_self, Bool.true_and, Bool.and_true, Bool.not_true, Bool.not_false, Int.reduceToNat, Nat.reducePow, Int.cast_ofNat_Int, Int.reduceMul, Int.reduceAdd, Int.reduceSub, Int.reduceNeg, Mo.atI_l0, Mo.atI_l1, Mo.atI_l2, Mo.atI_l3, Mo.atI_l4, Mo.atI_l5, Mo.atI_l6, Mo.atI_l7, Mo.atI_l8, Mo.atI_l9, Mo.atI_l10, Mo.atI_l11, List.length_map, Mo.cut_map, Mo.get_top, Mo.get_top0, Mo.set_top, Mo.set_top0, Mo.take_topk, Mo.take_top, List.take_length, List.take_succ_cons, List.take_zero, List.length_append, Nat.lt_irrefl, Mo.wipeE, li]
        rw [(decide_eq_true (by omega))]
      · simp (disch := first | omega | (simp only [List.length_map, List.length_cons, List.length_nil, List.length_append, List.length_replicate]; omega)) only [_add_blocks_l2, Mo.p_op, Mo.p_op1, Mo.p_op1e, Mo.p_op2, Mo.p_op2e, Mo.p_un, Mo.p_un1, Mo.p_var, Mo.p_var1, Mo.p_c, Mo.p_test, Mo.p_test1, Mo.p_test2, Mo.p_and, Mo.p_andT, Mo.p_andF, Mo.p_or, Mo.p_orT, Mo.p_orF, Mo.p_not, Mo.p_not1, Mo.p_tru, Mo.p_truB, Mo.p_truI, Mo.p_truN, Mo.p_truL, Mo.p_andV, Mo.p_andVT, Mo.p_andVF, Mo.p_orV, Mo.p_orVT, Mo.p_orVF, Mo.p_notV, Mo.p_notV1, Mo.p_ife, Mo.p_ifeT, Mo.p_ifeF, Mo.p_ch, Mo.p_ch1, Mo.p_ch2, Mo.p_ch3, Mo.p_ch4, Mo.p_an, Mo.p_ac, Mo.p_ac1, Mo.p_ac1e, Mo.p_ac2, Mo.p_ac2e, Mo.p_lst, Mo.p_lst1, Mo.p_lst2, Mo.p_tup, Mo.p_tup1, Mo.p_tup2, Mo.p_lsc, Mo.p_lsc1, Mo.p_cb, Mo.p_cb1, Mo.p_cb1e, Mo.p_call, Mo.p_call1, Mo.p_call1e, Mo.p_meth, Mo.p_meth1, Mo.p_meth2, Mo.p_meth2e, Mo.p_bm, Mo.p_bm1, Mo.p_bm2, Mo.p_fld, Mo.p_fld1, Mo.p_fld2, Mo.p_frz, Mo.p_frz1, Mo.p_frz2, Mo.p_isi, Mo.p_isiII, Mo.p_isiBI, Mo.p_isiLI, Mo.p_isiIB, Mo.p_isiBB, Mo.p_isiLL, Mo.p_isiTT, Mo.p_isiBN, Mo.p_isiBS, Mo.p_isiBL, Mo.p_sl, Mo.p_sl1, Mo.p_sl2, Mo.p_sl3, Mo.p_on, Mo.p_os, Mo.p_os1, Mo.p_mkK, Mo.p_mkK1, Mo.p_mkK2, Mo.p_mkF, Mo.p_mkF1, Mo.p_seq, Mo.p_seqN, Mo.p_seqR, Mo.p_seqB, Mo.p_seqC, Mo.p_seqE, Mo.p_nil, Mo.p_brk, Mo.p_cnt, Mo.p_ret, Mo.p_ret1, Mo.p_ret1e, Mo.p_retN, Mo.p_drop, Mo.p_drop1, Mo.p_drop1e, Mo.p_if, Mo.p_ifT, Mo.p_ifF, Mo.p_ifE, Mo.p_asg, Mo.p_asg1, Mo.p_asg1e, Mo.p_asgM, Mo.p_asgM1, Mo.p_asgM1e, Mo.p_asgM2, Mo.p_gq, Mo.p_gq2, Mo.p_gl0, Mo.p_gl1, Mo.p_gl2, Mo.p_gn, Mo.p_ga, Mo.p_ga1, Mo.p_ga2, Mo.p_aug, Mo.p_aug1, Mo.p_aug2, Mo.p_aug2e, Mo.p_aug3, Mo.p_nxM, Mo.p_fs, Mo.p_fs1, Mo.p_fs1e, Mo.p_fs2, Mo.p_fa, Mo.p_fa1, Mo.p_fa2, Mo.p_fa3, Mo.p_fa3e, Mo.p_fa4, Mo.p_ix, Mo.p_ix1, Mo.p_ix1e, Mo.p_ix2, Mo.p_ix3, Mo.p_sf, Mo.p_sf1, Mo.p_sf2, Mo.p_for, Mo.p_for1, Mo.p_iv, Mo.p_ivL, Mo.p_ivK, Mo.p_ivT, Mo.p_r1, Mo.p_r11, Mo.p_r2, Mo.p_r21, Mo.p_en, Mo.p_en1, Mo.p_zp, Mo.p_zp1, Mo.p_tgn, Mo.p_tgt, Mo.p_gs0, Mo.p_gs1, Mo.p_fl0, Mo.p_fl1, Mo.p_fl2, Mo.p_fl3, Mo.p_fl4, Mo.p_fl5, Mo.p_fl6, Mo.p_fl7, Mo.p_wh, Mo.p_ar, Mo.p_T, Mo.p_T1, Mo.p_T2, Mo.p_T3, Mo.p_fin, Mo.p_K, Mo.p_K1, Mo.p_K2, Mo.p_K3, Mo.p_R, Mo.p_R1, Mo.p_bnd, Mo.q_cat, Mo.q_rep, Mo.q_sub, Mo.q_add, Mo.q_addT, Mo.q_iadd, Mo.q_and, Mo.q_or, Mo.q_xor, Mo.q_lt, Mo.q_le, Mo.q_gt, Mo.q_ge, Mo.q_mod, Mo.q_div, Mo.q_shr, Mo.q_shl, Mo.q_pow, Mo.q_mulLf, Mo.q_mulRf, Mo.q_mulLt, Mo.q_mulRt, Mo.q_neg, Mo.q_eqI, Mo.q_neI, Mo.LIM, Mo.opt_some, Mo.opt_none, Mo.ds?, Mo.mkL, Mo.oIx, Mo.oSl, Mo.oLen, Mo.lenO, Mo.oAbs, Mo.oInt, Mo.oList, Mo.oTupOf, Mo.oIsN, Mo.isN, Mo.rdP, Mo.rdL, Mo.rdT, Mo.clsV, Mo.clsO, Mo.isLc, Mo.mApp, Mo.appO, Mo.mExt, Mo.fldO, Mo.isNo, Mo.stO, Mo.frzD, Mo.frz, Mo.setO, Mo.envOf, List.map_cons, List.map_nil, List.length_cons, List.length_nil, List.replicate_succ, List.replicate_zero, List.cons_append, List.nil_append, List.append_nil, List.append_assoc, List.getElem?_cons_zero, List.getElem?_cons_succ, List.set_cons_zero, List.set_cons_succ, Nat.reduceAdd, Nat.reduceSub, Nat.reduceLeDiff, Nat.reduceLT, Nat.reduceEqDiff, if_true, if_false, reduceIte, decide_true, decide_false, Bool.false_eq_true, and_self, true_and, and_true, Bool.and_self, Bool.true_and, Bool.and_true, Bool.not_true, Bool.not_false, Int.reduceToNat, Nat.reducePow, Int.cast_ofNat_Int, Int.reduceMul, Int.reduceAdd, Int.reduceSub, Int.reduceNeg, Mo.atI_l0, Mo.atI_l1, Mo.atI_l2, Mo.atI_l3, Mo.atI_l4, Mo.atI_l5, Mo.atI_l6, Mo.atI_l7, Mo.atI_l8, Mo.atI_l9, Mo.atI_l10, Mo.atI_l11, List.length_map, Mo.cut_map, Mo.get_top, Mo.get_top0, Mo.set_top, Mo.set_top0, Mo.take_topk, Mo.take_top, List.take_length, List.take_succ_cons, List.take_zero, List.length_append, Nat.lt_irrefl, Mo.wipeE, li, hc, hB]
        rw [show 64 * ((k + 1 : Nat) : Int) = 64 * (k : Int) + 64 from by omega]
        rfl) (by
      intro env M' ⟨hM, k, hk, hE⟩
      subst hM; subst hE
      simp (disch := first | omega | (simp only [List.length_map, List.length_cons, List.length_nil, List.length_append, List.length_replicate]; omega)) only [_add_blocks_w2, Mo.p_op, Mo.p_op1, Mo.p_op1e, Mo.p_op2, Mo.p_op2e, Mo.p_un, Mo.p_un1, Mo.p_var, Mo.p_var1, Mo.p_c, Mo.p_test, Mo.p_test1, Mo.p_test2, Mo.p_and, Mo.p_andT, Mo.p_andF, Mo.p_or, Mo.p_orT, Mo.p_orF, Mo.p_not, Mo.p_not1, Mo.p_tru, Mo.p_truB, Mo.p_truI, Mo.p_truN, Mo.p_truL, Mo.p_andV, Mo.p_andVT, Mo.p_andVF, Mo.p_orV, Mo.p_orVT, Mo.p_orVF, Mo.p_notV, Mo.p_notV1, Mo.p_ife, Mo.p_ifeT, Mo.p_ifeF, Mo.p_ch, Mo.p_ch1, Mo.p_ch2, Mo.p_ch3, Mo.p_ch4, Mo.p_an, Mo.p_ac, Mo.p_ac1, Mo.p_ac1e, Mo.p_ac2, Mo.p_ac2e, Mo.p_lst, Mo.p_lst1, Mo.p_lst2, Mo.p_tup, Mo.p_tup1, Mo.p_tup2, Mo.p_lsc, Mo.p_lsc1, Mo.p_cb, Mo.p_cb1, Mo.p_cb1e, Mo.p_call, Mo.p_call1, Mo.p_call1e, Mo.p_meth, Mo.p_meth1, Mo.p_meth2, Mo.p_meth2e, Mo.p_bm, Mo.p_bm1, Mo.p_bm2, Mo.p_fld, Mo.p_fld1, Mo.p_fld2, Mo.p_frz, Mo.p_frz1, Mo.p_frz2, Mo.p_isi, Mo.p_isiII, Mo.p_isiBI, Mo.p_isiLI, Mo.p_isiIB, Mo.p_isiBB, Mo.p_isiLL, Mo.p_isiTT, Mo.p_isiBN, Mo.p_isiBS, Mo.p_isiBL, Mo.p_sl, Mo.p_sl1, Mo.p_sl2, Mo.p_sl3, Mo.p_on, Mo.p_os, Mo.p_os1, Mo.p_mkK, Mo.p_mkK1, Mo.p_mkK2, Mo.p_mkF, Mo.p_mkF1, Mo.p_seq, Mo.p_seqN, Mo.p_seqR, Mo.p_seqB, Mo.p_seqC, Mo.p_seqE, Mo.p_nil, Mo.p_brk, Mo.p_cnt, Mo.p_ret, Mo.p_ret1, Mo.p_ret1e, Mo.p_retN, Mo.p_drop, Mo.p_drop1, Mo.p_drop1e, Mo.p_if, Mo.p_ifT, Mo.p_ifF, Mo.p_ifE, Mo.p_asg, Mo.p_asg1, Mo.p_asg1e, Mo.p_asgM, Mo.p_asgM1, Mo.p_asgM1e, Mo.p_asgM2, Mo.p_gq, Mo.p_gq2, Mo.p_gl0, Mo.p_gl1, Mo.p_gl2, Mo.p_gn, Mo.p_ga, Mo.p_ga1, Mo.p_ga2, Mo.p_aug, Mo.p_aug1, Mo.p_aug2, Mo.p_aug2e, Mo.p_aug3, Mo.p_nxM, Mo.p_fs, Mo.p_fs1, Mo.p_fs1e, Mo.p_fs2, Mo.p_fa, Mo.p_fa1, Mo.p_fa2, Mo.p_fa3, Mo.p_fa3e, Mo.p_fa4, Mo.p_ix, Mo.p_ix1, Mo.p_ix1e, Mo.p_ix2, Mo.p_ix3, Mo.p_sf, Mo.p_sf1, Mo.p_sf2, Mo.p_for, Mo.p_for1, Mo.p_iv, Mo.p_ivL, Mo.p_ivK, Mo.p_ivT, Mo.p_r1, Mo.p_r11, Mo.p_r2, Mo.p_r21, Mo.p_en, Mo.p_en1, Mo.p_zp, Mo.p_zp1, Mo.p_tgn, Mo.p_tgt, Mo.p_gs0, Mo.p_gs1, Mo.p_fl0, Mo.p_fl1, Mo.p_fl2, Mo.p_fl3, Mo.p_fl4, Mo.p_fl5, Mo.p_fl6, Mo.p_fl7, Mo.p_wh, Mo.p_ar, Mo.p_T, Mo.p_T1, Mo.p_T2, Mo.p_T3, Mo.p_fin, Mo.p_K, Mo.p_K1, Mo.p_K2, Mo.p_K3, Mo.p_R, Mo.p_R1, Mo.p_bnd, Mo.q_cat, Mo.q_rep, Mo.q_sub, Mo.q_add, Mo.q_addT, Mo.q_iadd, Mo.q_and, Mo.q_or, Mo.q_xor, Mo.q_lt, Mo.q_le, Mo.q_gt, Mo.q_ge, Mo.q_mod, Mo.q_div, Mo.q_shr, Mo.q_shl, Mo.q_pow, Mo.q_mulLf, Mo.q_mulRf, Mo.q_mulLt, Mo.q_mulRt, Mo.q_neg, Mo.q_eqI, Mo.q_neI, Mo.LIM, Mo.opt_some, Mo.opt_none, Mo.ds?, Mo.mkL, Mo.oIx, Mo.oSl, Mo.oLen, Mo.lenO, Mo.oAbs, Mo.oInt, Mo.oList, Mo.oTupOf, Mo.oIsN, Mo.isN, Mo.rdP, Mo.rdL, Mo.rdT, Mo.clsV, Mo.clsO, Mo.isLc, Mo.mApp, Mo.appO, Mo.mExt, Mo.fldO, Mo.isNo, Mo.stO, Mo.frzD, Mo.frz, Mo.setO, Mo.envOf, List.map_cons, List.map_nil, List.length_cons, List.length_nil, List.replicate_succ, List.replicate_zero, List.cons_append, List.nil_append, List.append_nil, List.append_assoc, List.getElem?_cons_zero, List.getElem?_cons_succ, List.set_cons_zero, List.set_cons_succ, Nat.reduceAdd, Nat.reduceSub, Nat.reduceLeDiff, Nat.reduceLT, Nat.reduceEqDiff, if_true, if_false, reduceIte, decide_true, decide_false, Bool.false_eq_true, and_self, true_and, and_true, Bool.and_self, Bool.true_and, Bool.and_true, Bool.not_true, Bool.not_false, Int.reduceToNat, Nat.reducePow, Int.cast_ofNat_Int, Int.reduceMul, Int.reduceAdd, Int.reduceSub, Int.reduceNeg, Mo.atI_l0, Mo.atI_l1, Mo.atI_l2, Mo.atI_l3, Mo.atI_l4, Mo.atI_l5, Mo.atI_l6, Mo.atI_l7, Mo.atI_l8, Mo.atI_l9, Mo.atI_l10, Mo.atI_l11, List.length_map, Mo.cut_map, Mo.get_top, Mo.get_top0, Mo.set_top, Mo.set_top0, Mo.take_topk, Mo.take_top, List.take_length, List.take_succ_cons, List.take_zero, List.length_append, Nat.lt_irrefl, Mo.wipeE, li]
      rw [decide_eq_false (by omega)])
  subst hM; subst hE
  have hc := cut_a (xs := ds) (a := 64 * (k : Int)) (by omega) (by omega)
  rw [show (64 * (k : Int)).toNat = 64 * k from by omega] at hc
  simp only [li] at e
  simp (disch := first | omega | (simp only [List.length_map, List.length_cons, List.length_nil, List.length_append, List.length_replicate]; omega)) only [Mo.p_op, Mo.p_op1, Mo.p_op1e, Mo.p_op2, Mo.p_op2e, Mo.p_un, Mo.p_un1, Mo.p_var, Mo.p_var1, Mo.p_c, Mo.p_test, Mo.p_test1, Mo.p_test2, Mo.p_and, Mo.p_andT, Mo.p_andF, Mo.p_or, Mo.p_orT, Mo.p_orF, Mo.p_not, Mo.p_not1, Mo.p_tru, Mo.p_truB, Mo.p_truI, Mo.p_truN, Mo.p_truL, Mo.p_andV, Mo.p_andVT, Mo.p_andVF, Mo.p_orV, Mo.p_orVT, Mo.p_orVF, Mo.p_notV, Mo.p_notV1, Mo.p_ife, Mo.p_ifeT, Mo.p_ifeF, Mo.p_ch, Mo.p_ch1, Mo.p_ch2, Mo.p_ch3, Mo.p_ch4, Mo.p_an, Mo.p_ac, Mo.p_ac1, Mo.p_ac1e, Mo.p_ac2, Mo.p_ac2e, Mo.p_lst, Mo.p_lst1, Mo.p_lst2, Mo.p_tup, Mo.p_tup1, Mo.p_tup2, Mo.p_lsc, Mo.p_lsc1, Mo.p_cb, Mo.p_cb1, Mo.p_cb1e, Mo.p_call, Mo.p_call1, Mo.p_call1e, Mo.p_meth, Mo.p_meth1, Mo.p_meth2, Mo.p_meth2e, Mo.p_bm, Mo.p_bm1, Mo.p_bm2, Mo.p_fld, Mo.p_fld1, Mo.p_fld2, Mo.p_frz, Mo.p_frz1, Mo.p_frz2, Mo.p_isi, Mo.p_isiII, Mo.p_isiBI, Mo.p_isiLI, Mo.p_isiIB, Mo.p_isiBB, Mo.p_isiLL, Mo.p_isiTT, Mo.p_isiBN, Mo.p_isiBS, Mo.p_isiBL, Mo.p_sl, Mo.p_sl1, Mo.p_sl2, Mo.p_sl3, Mo.p_on, Mo.p_os, Mo.p_os1, Mo.p_mkK, Mo.p_mkK1, Mo.p_mkK2, Mo.p_mkF, Mo.p_mkF1, Mo.p_seq, Mo.p_seqN, Mo.p_seqR, Mo.p_seqB, Mo.p_seqC, Mo.p_seqE, Mo.p_nil, Mo.p_brk, Mo.p_cnt, Mo.p_ret, Mo.p_ret1, Mo.p_ret1e, Mo.p_retN, Mo.p_drop, Mo.p_drop1, Mo.p_drop1e, Mo.p_if, Mo.p_ifT, Mo.p_ifF, Mo.p_ifE, Mo.p_asg, Mo.p_asg1, Mo.p_asg1e, Mo.p_asgM, Mo.p_asgM1, Mo.p_asgM1e, Mo.p_asgM2, Mo.p_gq, Mo.p_gq2, Mo.p_gl0, Mo.p_gl1, Mo.p_gl2, Mo.p_gn, Mo.p_ga, Mo.p_ga1, Mo.p_ga2, Mo.p_aug, Mo.p_aug1, Mo.p_aug2, Mo.p_aug2e, Mo.p_aug3, Mo.p_nxM, Mo.p_fs, Mo.p_fs1, Mo.p_fs1e, Mo.p_fs2, Mo.p_fa, Mo.p_fa1, Mo.p_fa2, Mo.p_fa3, Mo.p_fa3e, Mo.p_fa4, Mo.p_ix, Mo.p_ix1, Mo.p_ix1e, Mo.p_ix2, Mo.p_ix3, Mo.p_sf, Mo.p_sf1, Mo.p_sf2, Mo.p_for, Mo.p_for1, Mo.p_iv, Mo.p_ivL, Mo.p_ivK, Mo.p_ivT, Mo.p_r1, Mo.p_r11, Mo.p_r2, Mo.p_r21, Mo.p_en, Mo.p_en1, Mo.p_zp, Mo.p_zp1, Mo.p_tgn, Mo.p_tgt, Mo.p_gs0, Mo.p_gs1, Mo.p_fl0, Mo.p_fl1, Mo.p_fl2, Mo.p_fl3, Mo.p_fl4, Mo.p_fl5, Mo.p_fl6, Mo.p_fl7, Mo.p_wh, Mo.p_ar, Mo.p_T, Mo.p_T1, Mo.p_T2, Mo.p_T3, Mo.p_fin, Mo.p_K, Mo.p_K1, Mo.p_K2, Mo.p_K3, Mo.p_R, Mo.p_R1, Mo.p_bnd, Mo.q_cat, Mo.q_rep, Mo.q_sub, Mo.q_add, Mo.q_addT, Mo.q_iadd, Mo.q_and, Mo.q_or, Mo.q_xor, Mo.q_lt, Mo.q_le, Mo.q_gt, Mo.q_ge, Mo.q_mod, Mo.q_div, Mo.q_shr, Mo.q_shl, Mo.q_pow, Mo.q_mulLf, Mo.q_mulRf, Mo.q_mulLt, Mo.q_mulRt, Mo.q_neg, Mo.q_eqI, Mo.q_neI, Mo.LIM, Mo.opt_some, Mo.opt_none, Mo.ds?, Mo.mkL, Mo.oIx, Mo.oSl, Mo.oLen, Mo.lenO, Mo.oAbs, Mo.oInt, Mo.oList, Mo.oTupOf, Mo.oIsN, Mo.isN, Mo.rdP, Mo.rdL, Mo.rdT, Mo.clsV, Mo.clsO, Mo.isLc, Mo.mApp, Mo.appO, Mo.mExt, Mo.fldO, Mo.isNo, Mo.stO, Mo.frzD, Mo.frz, Mo.setO, Mo.envOf, List.map_cons, List.map_nil, List.length_cons, List.length_nil, List.replicate_succ, List.replicate_zero, List.cons_append, List.nil_append, List.append_nil, List.append_assoc, List.getElem?_cons_zero, List.getElem?_cons_succ, List.set_cons_zero, List.set_cons_succ, Nat.reduceAdd, Nat.reduceSub, Nat.reduceLeDiff, Nat.reduceLT, Nat.reduceEqDiff, if_true, if_false, reduceIte, decide_true, decide_false, Bool.false_eq_true, and_self, true_and, and_true, Bool.and_self, Bool.true_and, Bool.and_true, Bool.not_true, Bool.not_false, Int.reduceToNat, Nat.reducePow, Int.cast_ofNat_Int, Int.reduceMul, Int.reduceAdd, Int.reduceSub, Int.reduceNeg, Mo.atI_l0, Mo.atI_l1, Mo.atI_l2, Mo.atI_l3, Mo.atI_l4, Mo.atI_l5, Mo.atI_l6, Mo.atI_l7, Mo.atI_l8, Mo.atI_l9, Mo.atI_l10, Mo.atI_l11, List.length_map, Mo.cut_map, Mo.get_top, Mo.get_top0, Mo.set_top, Mo.set_top0, Mo.take_topk, Mo.take_top, List.take_length, List.take_succ_cons, List.take_zero, List.length_append, Nat.lt_irrefl, Mo.wipeE, e, hc]
  rw [show k = ds.length / 64 from by omega]
def Q0 : Q4 := (1732584193, 4023233417, 2562383102, 271733878)
theorem Q0_R : R4 Q0 := by unfold R4 Q0; decide
def outB (q : Q4) : List Int := bytesI q.1 4 ++ (bytesI q.2.1 4 ++ (bytesI q.2.2.1 4 ++ bytesI q.2.2.2 4))
theorem bytes4 (w : Int) : bytesI w 4 = [w / 1 % 256, w / 256 % 256, w / 65536 % 256, w / 16777216 % 256] := rfl
theorem By.app {a b : List Int} (h : By a) (h' : By b) : By (a ++ b) := fun x hx => (List.mem_append.mp hx).elim (h x) (h' x)
theorem By.bytes (n : Int) (m : Nat) : By (bytesI n m) := fun x hx => by
  unfold bytesI at hx
  obtain ⟨i, _, rfl⟩ := List.mem_map.mp hx
  omega
theorem By.rep (k : Nat) : By (List.replicate k 0) := fun x hx => by
  rw [List.eq_of_mem_replicate hx]
  decide
def padB (n : Int) : List Int := (128 :: List.replicate ((55 - n) % 64).toNat 0) ++ bytesI (8 * n) 8
theorem By.pad (n : Int) : By (padB n) := By.app (fun x hx => by
  rcases List.mem_cons.mp hx with rfl | h
  · decide
  · exact By.rep _ x h) (By.bytes _ _)
theorem bytes_len (n : Int) (m : Nat) : (bytesI n m).length = m := by simp [bytesI]
theorem pad_len (n : Int) : (padB n).length = 9 + ((55 - n) % 64).toNat := by
  unfold padB
  rw [List.length_append, bytes_len, List.length_cons, List.length_replicate]
  omega
theorem li_rep (k : Nat) : (List.replicate k [D.int 0]).flatten = (List.replicate k 0).map D.int := rep_flat
/-! ### the law's digest -/
def whole (ds : List Int) : List Int := ds ++ padB ds.length
abbrev mdO (q : Q4) (t : List Int) (n : Int) : Option Ob := some (.ins 0 [.d (lq q), .d (li t), .d (.int n)])
theorem e_init (b : Nat) (M : Store) : F_Md5___init__ [.c M.length] b (M ++ [some (.ins 0 [.d .no, .d .no, .d .no])]) = .ok (.d .non, M ++ [mdO Q0 [] 0]) := by
  simp (disch := first | omega | (simp only [List.length_map, List.length_cons, List.length_nil, List.length_append, List.length_replicate]; omega)) only [F_Md5___init__, b_Md5___init__, Mo.p_op, Mo.p_op1, Mo.p_op1e, Mo.p_op2, Mo.p_op2e, Mo.p_un, Mo.p_un1, Mo.p_var, Mo.p_var1, Mo.p_c, Mo.p_test, Mo.p_test1, Mo.p_test2, Mo.p_and, Mo.p_andT, Mo.p_andF, Mo.p_or, Mo.p_orT, Mo.p_orF, Mo.p_not, Mo.p_not1, Mo.p_tru, Mo.p_truB, Mo.p_truI, Mo.p_truN, Mo.p_truL, Mo.p_andV, Mo.p_andVT, Mo.p_andVF, Mo.p_orV, Mo.p_orVT, Mo.p_orVF, Mo.p_notV, Mo.p_notV1, Mo.p_ife, Mo.p_ifeT, Mo.p_ifeF, Mo.p_ch, Mo.p_ch1, Mo.p_ch2, Mo.p_ch3, Mo.p_ch4, Mo.p_an, Mo.p_ac, Mo.p_ac1, Mo.p_ac1e, Mo.p_ac2, Mo.p_ac2e, Mo.p_lst, Mo.p_lst1, Mo.p_lst2, Mo.p_tup, Mo.p_tup1, Mo.p_tup2, Mo.p_lsc, Mo.p_lsc1, Mo.p_cb, Mo.p_cb1, Mo.p_cb1e, Mo.p_call, Mo.p_call1, Mo.p_call1e, Mo.p_meth, Mo.p_meth1, Mo.p_meth2, Mo.p_meth2e, Mo.p_bm, Mo.p_bm1, Mo.p_bm2, Mo.p_fld, Mo.p_fld1, Mo.p_fld2, Mo.p_frz, Mo.p_frz1, Mo.p_frz2, Mo.p_isi, Mo.p_isiII, Mo.p_isiBI, Mo.p_isiLI, Mo.p_isiIB, Mo.p_isiBB, Mo.p_isiLL, Mo.p_isiTT, Mo.p_isiBN, Mo.p_isiBS, Mo.p_isiBL, Mo.p_sl, Mo.p_sl1, Mo.p_sl2, Mo.p_sl3, Mo.p_on, Mo.p_os, Mo.p_os1, Mo.p_mkK, Mo.p_mkK1, Mo.p_mkK2, Mo.p_mkF, Mo.p_mkF1, Mo.p_seq, Mo.p_seqN, Mo.p_seqR, Mo.p_seqB, Mo.p_seqC, Mo.p_seqE, Mo.p_nil, Mo.p_brk, Mo.p_cnt, Mo.p_ret, Mo.p_ret1, Mo.p_ret1e, Mo.p_retN, Mo.p_drop, Mo.p_drop1, Mo.p_drop1e, Mo.p_if, Mo.p_ifT, Mo.p_ifF, Mo.p_ifE, Mo.p_asg, Mo.p_asg1, Mo.p_asg1e, Mo.p_asgM, Mo.p_asgM1, Mo.p_asgM1e, Mo.p_asgM2, Mo.p_gq, Mo.p_gq2, Mo.p_gl0, Mo.p_gl1, Mo.p_gl2, Mo.p_gn, Mo.p_ga, Mo.p_ga1, Mo.p_ga2, Mo.p_aug, Mo.p_aug1, Mo.p_aug2, Mo.p_aug2e, Mo.p_aug3, Mo.p_nxM, Mo.p_fs, Mo.p_fs1, Mo.p_fs1e, Mo.p_fs2, Mo.p_fa, Mo.p_fa1, Mo.p_fa2, Mo.p_fa3, Mo.p_fa3e, Mo.p_fa4, Mo.p_ix, Mo.p_ix1, Mo.p_ix1e, Mo.p_ix2, Mo.p_ix3, Mo.p_sf, Mo.p_sf1, Mo.p_sf2, Mo.p_for, Mo.p_for1, Mo.p_iv, Mo.p_ivL, Mo.p_ivK, Mo.p_ivT, Mo.p_r1, Mo.p_r11, Mo.p_r2, Mo.p_r21, Mo.p_en, Mo.p_en1, Mo.p_zp, Mo.p_zp1, Mo.p_tgn, Mo.p_tgt, Mo.p_gs0, Mo.p_gs1, Mo.p_fl0, Mo.p_fl1, Mo.p_fl2, Mo.p_fl3, Mo.p_fl4, Mo.p_fl5, Mo.p_fl6, Mo.p_fl7, Mo.p_wh, Mo.p_ar, Mo.p_T, Mo.p_T1, Mo.p_T2, Mo.p_T3, Mo.p_fin, Mo.p_K, Mo.p_K1, Mo.p_K2, Mo.p_K3, Mo.p_R, Mo.p_R1, Mo.p_bnd, Mo.q_cat, Mo.q_rep, Mo.q_sub, Mo.q_add, Mo.q_addT, Mo.q_iadd, Mo.q_and, Mo.q_or, Mo.q_xor, Mo.q_lt, Mo.q_le, Mo.q_gt, Mo.q_ge, Mo.q_mod, Mo.q_div, Mo.q_shr, Mo.q_shl, Mo.q_pow, Mo.q_mulLf, Mo.q_mulRf, Mo.q_mulLt, Mo.q_mulRt, Mo.q_neg, Mo.q_eqI, Mo.q_neI, Mo.LIM, Mo.opt_some, Mo.opt_none, Mo.ds?, Mo.mkL, Mo.oIx, Mo.oSl, Mo.oLen, Mo.lenO, Mo.oAbs, Mo.oInt, Mo.oList, Mo.oTupOf, Mo.oIsN, Mo.isN, Mo.rdP, Mo.rdL, Mo.rdT, Mo.clsV, Mo.clsO, Mo.isLc, Mo.mApp, Mo.appO, Mo.mExt, Mo.fldO, Mo.isNo, Mo.stO, Mo.frzD, Mo.frz, Mo.setO, Mo.envOf, List.map_cons, List.map_nil, List.length_cons, List.length_nil, List.replicate_succ, List.replicate_zero, List.cons_append, List.nil_append, List.append_nil, List.append_assoc, List.getElem?_cons_zero, List.getElem?_cons_succ, List.set_cons_zero, List.set_cons_succ, Nat.reduceAdd, Nat.reduceSub, Nat.reduceLeDiff, Nat.reduceLT, Nat.reduceEqDiff, if_true, if_false, reduceIte, decide_true, decide_false, Bool.false_eq_true, and_self, true_and, and_true, Bool.and_self, Bool.true_and, Bool.and_true, Bool.not_true, Bool.not_false, Int.reduceToNat, Nat.reducePow, Int.cast_ofNat_Int, Int.reduceMul, Int.reduceAdd, Int.reduceSub, Int.reduceNeg, Mo.atI_l0, Mo.atI_l1, Mo.atI_l2, Mo.atI_l3, Mo.atI_l4, Mo.atI_l5, Mo.atI_l6, Mo.atI_l7, Mo.atI_l8, Mo.atI_l9, Mo.atI_l10, Mo.atI_l11, List.length_map, Mo.cut_map, Mo.get_top, Mo.get_top0, Mo.set_top, Mo.set_top0, Mo.take_topk, Mo.take_top, List.take_length, List.take_succ_cons, List.take_zero, List.length_append, Nat.lt_irrefl, Mo.wipeE, tb_state, tb_tail, tb_length, List.lookup, beq_self_eq_true]
  rfl
theorem e_feed (q : Q4) (hq : R4 q) (t ds : List Int) (n : Int) (ht : By t) (hd : By ds) (hl : t.length + ds.length < 100000) (b : Nat) (M : Store) : F_Md5_feed [.c M.length, .d (li ds)] b (M ++ [mdO q t n]) =
    .ok (.d .non, M ++ [mdO (blks q (t ++ ds) ((t ++ ds).length / 64)) ((t ++ ds).drop (64 * ((t ++ ds).length / 64))) (n + ds.length)]) := by
  have hB := fun b M => e_blocks q hq (t ++ ds) (by rw [List.length_append]; exact hl) (ht.app hd) b M
  simp only [li, List.map_append, lq] at hB
  simp (disch := first | omega | (simp only [List.length_map, List.length_cons, List.length_nil, List.length_append, List.length_replicate]; omega)) only [F_Md5_feed, b_Md5_feed, Mo.p_op, Mo.p_op1, Mo.p_op1e, Mo.p_op2, Mo.p_op2e, Mo.p_un, Mo.p_un1, Mo.p_var, Mo.p_var1, Mo.p_c, Mo.p_test, Mo.p_test1, Mo.p_test2, Mo.p_and, Mo.p_andT, Mo.p_andF, Mo.p_or, Mo.p_orT, Mo.p_orF, Mo.p_not, Mo.p_not1, Mo.p_tru, Mo.p_truB, Mo.p_truI, Mo.p_truN, Mo.p_truL, Mo.p_andV, Mo.p_andVT, Mo.p_andVF, Mo.p_orV, Mo.p_orVT, Mo.p_orVF, Mo.p_notV, Mo.p_notV1, Mo.p_ife, Mo.p_ifeT, Mo.p_ifeF, Mo.p_ch, Mo.p_ch1, Mo.p_ch2, Mo.p_ch3, Mo.p_ch4, Mo.p_an, Mo.p_ac, Mo.p_ac1, Mo.p_ac1e, Mo.p_ac2, Mo.p_ac2e, Mo.p_lst, Mo.p_lst1, Mo.p_lst2, Mo.p_tup, Mo.p_tup1, Mo.p_tup2, Mo.p_lsc, Mo.p_lsc1, Mo.p_cb, Mo.p_cb1, Mo.p_cb1e, Mo.p_call, Mo.p_call1, Mo.p_call1e, Mo.p_meth, Mo.p_meth1, Mo.p_meth2, Mo.p_meth2e, Mo.p_bm, Mo.p_bm1, Mo.p_bm2, Mo.p_fld, Mo.p_fld1, Mo.p_fld2, Mo.p_frz, Mo.p_frz1, Mo.p_frz2, Mo.p_isi, Mo.p_isiII, Mo.p_isiBI, Mo.p_isiLI, Mo.p_isiIB, Mo.p_isiBB, Mo.p_isiLL, Mo.p_isiTT, Mo.p_isiBN, Mo.p_isiBS, Mo.p_isiBL, Mo.p_sl, Mo.p_sl1, Mo.p_sl2, Mo.p_sl3, Mo.p_on, Mo.p_os, Mo.p_os1, Mo.p_mkK, Mo.p_mkK1, Mo.p_mkK2, Mo.p_mkF, Mo.p_mkF1, Mo.p_seq, Mo.p_seqN, Mo.p_seqR, Mo.p_seqB, Mo.p_seqC, Mo.p_seqE, Mo.p_nil, Mo.p_brk, Mo.p_cnt, Mo.p_ret, Mo.p_ret1, Mo.p_ret1e, Mo.p_retN, Mo.p_drop, Mo.p_drop1, Mo.p_drop1e, Mo.p_if, Mo.p_ifT, Mo.p_ifF, Mo.p_ifE, Mo.p_asg, Mo.p_asg1, Mo.p_asg1e, Mo.p_asgM, Mo.p_asgM1, Mo.p_asgM1e, Mo.p_asgM2, Mo.p_gq, Mo.p_gq2, Mo.p_gl0, Mo.p_gl1, Mo.p_gl2, Mo.p_gn, Mo.p_ga, Mo.p_ga1, Mo.p_ga2, Mo.p_aug, Mo.p_aug1, Mo.p_aug2, Mo.p_aug2e, Mo.p_aug3, Mo.p_nxM, Mo.p_fs, Mo.p_fs1, Mo.p_fs1e, Mo.p_fs2, Mo.p_fa, Mo.p_fa1, Mo.p_fa2, Mo.p_fa3, Mo.p_fa3e, Mo.p_fa4, Mo.p_ix, Mo.p_ix1, Mo.p_ix1e, Mo.p_ix2, Mo.p_ix3, Mo.p_sf, Mo.p_sf1, Mo.p_sf2, Mo.p_for, Mo.p_for1, Mo.p_iv, Mo.p_ivL, Mo.p_ivK, Mo.p_ivT, Mo.p_r1, Mo.p_r11, Mo.p_r2, Mo.p_r21, Mo.p_en, Mo.p_en1, Mo.p_zp, Mo.p_zp1, Mo.p_tgn, Mo.p_tgt, Mo.p_gs0, Mo.p_gs1, Mo.p_fl0, Mo.p_fl1, Mo.p_fl2, Mo.p_fl3, Mo.p_fl4, Mo.p_fl5, Mo.p_fl6, Mo.p_fl7, Mo.p_wh, Mo.p_ar, Mo.p_T, Mo.p_T1, Mo.p_T2, Mo.p_T3, Mo.p_fin, Mo.p_K, Mo.p_K1, Mo.p_K2, Mo.p_K3, Mo.p_R, Mo.p_R1, Mo.p_bnd, Mo.q_cat, Mo.q_rep, Mo.q_sub, Mo.q_add, Mo.q_addT, Mo.q_iadd, Mo.q_and, Mo.q_or, Mo.q_xor, Mo.q_lt, Mo.q_le, Mo.q_gt, Mo.q_ge, Mo.q_mod, Mo.q_div, Mo.q_shr, Mo.q_shl, Mo.q_pow, Mo.q_mulLf, Mo.q_mulRf, Mo.q_mulLt, Mo.q_mulRt, Mo.q_neg, Mo.q_eqI, Mo.q_neI, Mo.LIM, Mo.opt_some, Mo.opt_none, Mo.ds?, Mo.mkL, Mo.oIx, Mo.oSl, Mo.oLen, Mo.lenO, Mo.oAbs, Mo.oInt, Mo.oList, Mo.oTupOf, Mo.oIsN, Mo.isN, Mo.rdP, Mo.rdL, Mo.rdT, Mo.clsV, Mo.clsO, Mo.isLc, Mo.mApp, Mo.appO, Mo.mExt, Mo.fldO, Mo.isNo, Mo.stO, Mo.frzD, Mo.frz, Mo.setO, Mo.envOf, List.map_cons, List.map_nil, List.length_cons, List.length_nil, List.replicate_succ, List.replicate_zero, List.cons_append, List.nil_append, List.append_nil, List.append_assoc, List.getElem?_cons_zero, List.getElem?_cons_succ, List.set_cons_zero, List.set_cons_succ, Nat.reduceAdd, Nat.reduceSub, Nat.reduceLeDiff, Nat.reduceLT, Nat.reduceEqDiff, if_true, if_false, reduceIte, decide_true, decide_false, Bool.false_eq_true, and_self, true_and, and_true, Bool.and_self, Bool.true_and, Bool.and_true, Bool.not_true, Bool.not_false, Int.reduceToNat, Nat.reducePow, Int.cast_ofNat_Int, Int.reduceMul, Int.reduceAdd, Int.reduceSub, Int.reduceNeg, Mo.atI_l0, Mo.atI_l1, Mo.atI_l2, Mo.atI_l3, Mo.atI_l4, Mo.atI_l5, Mo.atI_l6, Mo.atI_l7, Mo.atI_l8, Mo.atI_l9, Mo.atI_l10, Mo.atI_l11, List.length_map, Mo.cut_map, Mo.get_top, Mo.get_top0, Mo.set_top, Mo.set_top0, Mo.take_topk, Mo.take_top, List.take_length, List.take_succ_cons, List.take_zero, List.length_append, Nat.lt_irrefl, Mo.wipeE, tb_state, tb_tail, tb_length, List.lookup, beq_self_eq_true, li, lq, hB]
theorem e_outc (q : Q4) (b : Nat) (M : Store) (x0 x1 x2 x4 : Option Vl) : eLc2K (.lst []) (itV (eVar 3)) (.n 5) [5, 6] tYesE Md5_digest_i4 (.n 6) [6] tYesE Md5_digest_c4 b [x0, x1, x2, some (.d (lq q)), x4, none, none] M = .ok (.c M.length, M ++ [some (.lst ((outB q).map .int))]) := by
  rw [lc2K_ok (it := itV (eVar 3)) (tg := .n 5) (vs := [5, 6]) (t := tYesE) (it1 := Md5_digest_i4) (tg1 := .n 6) (vs1 := [6]) (e := Md5_digest_c4) (b := b) (env := [x0, x1, x2, some (.d (lq q)), x4, none, none]) (M := M) (xs := [.int q.1, .int q.2.1, .int q.2.2.1, .int q.2.2.2])
    (fun x => match x with | .int w => (bytesI w 4).map D.int | _ => []) (by simp (disch := first | omega | (simp only [List.length_map, List.length_cons, List.length_nil, List.length_append, List.length_replicate]; omega)) only [Mo.p_op, Mo.p_op1, Mo.p_op1e, Mo.p_op2, Mo.p_op2e, Mo.p_un, Mo.p_un1, Mo.p_var, Mo.p_var1, Mo.p_c, Mo.p_test, Mo.p_test1, Mo.p_test2, Mo.p_and, Mo.p_andT, Mo.p_andF, Mo.p_or, Mo.p_orT, Mo.p_orF, Mo.p_not, Mo.p_not1, Mo.p_tru, Mo.p_truB, Mo.p_truI, Mo.p_truN, Mo.p_truL, Mo.p_andV, Mo.p_andVT, Mo.p_andVF, Mo.p_orV, Mo.p_orVT, Mo.p_orVF, Mo.p_notV, Mo.p_notV1, Mo.p_ife, Mo.p_ifeT, Mo.p_ifeF, Mo.p_ch, Mo.p_ch1, Mo.p_ch2, Mo.p_ch3, Mo.p_ch4, Mo.p_an, Mo.p_ac, Mo.p_ac1, Mo.p_ac1e, Mo.p_ac2, Mo.p_ac2e, Mo.p_lst, Mo.p_lst1, Mo.p_lst2, Mo.p_tup, Mo.p_tup1, Mo.p_tup2, Mo.p_lsc, Mo.p_lsc1, Mo.p_cb, Mo.p_cb1, Mo.p_cb1e, Mo.p_call, Mo.p_call1, Mo.p_call1e, Mo.p_meth, Mo.p_meth1, Mo.p_meth2, Mo.p_meth2e, Mo.p_bm, Mo.p_bm1, Mo.p_bm2, Mo.p_fld, Mo.p_fld1, Mo.p_fld2, Mo.p_frz, Mo.p_frz1, Mo.p_frz2, Mo.p_isi, Mo.p_isiII, Mo.p_isiBI, Mo.p_isiLI, Mo.p_isiIB, Mo.p_isiBB, Mo.p_isiLL, Mo.p_isiTT, Mo.p_isiBN, Mo.p_isiBS, Mo.p_isiBL, Mo.p_sl, Mo.p_sl1, Mo.p_sl2, Mo.p_sl3, Mo.p_on, Mo.p_os, Mo.p_os1, Mo.p_mkK, Mo.p_mkK1, Mo.p_mkK2, Mo.p_mkF, Mo.p_mkF1, Mo.p_seq, Mo.p_seqN, Mo.p_seqR, Mo.p_seqB, Mo.p_seqC, Mo.p_seqE, Mo.p_nil, Mo.p_brk, Mo.p_cnt, Mo.p_ret, Mo.p_ret1, Mo.p_ret1e, Mo.p_retN, Mo.p_drop, Mo.p_drop1, Mo.p_drop1e, Mo.p_if, Mo.p_ifT, Mo.p_ifF, Mo.p_ifE, Mo.p_asg, Mo.p_asg1, Mo.p_asg1e, Mo.p_asgM, Mo.p_asgM1, Mo.p_asgM1e, Mo.p_asgM2, Mo.p_gq, Mo.p_gq2, Mo.p_gl0, Mo.p_gl1, Mo.p_gl2, Mo.p_gn, Mo.p_ga, Mo.p_ga1, Mo.p_ga2, Mo.p_aug, Mo.p_aug1, Mo.p_aug2, Mo.p_aug2e, Mo.p_aug3, Mo.p_nxM, Mo.p_fs, Mo.p_fs1, Mo.p_fs1e, Mo.p_fs2, Mo.p_fa, Mo.p_fa1, Mo.p_fa2, Mo.p_fa3, Mo.p_fa3e, Mo.p_fa4, Mo.p_ix, Mo.p_ix1, Mo.p_ix1e, Mo.p_ix2, Mo.p_ix3, Mo.p_sf, Mo.p_sf1, Mo.p_sf2, Mo.p_for, Mo.p_for1, Mo.p_iv, Mo.p_ivL, Mo.p_ivK, Mo.p_ivT, Mo.p_r1, Mo.p_r11, Mo.p_r2, Mo.p_r21, Mo.p_en, Mo.p_en1, Mo.p_zp, Mo.p_zp1, Mo.p_tgn, Mo.p_tgt, Mo.p_gs0, Mo.p_gs1, Mo.p_fl0, Mo.p_fl1, Mo.p_fl2, Mo.p_fl3, Mo.p_fl4, Mo.p_fl5, Mo.p_fl6, Mo.p_fl7, Mo.p_wh, Mo.p_ar, Mo.p_T, Mo.p_T1, Mo.p_T2, Mo.p_T3, Mo.p_fin, Mo.p_K, Mo.p_K1, Mo.p_K2, Mo.p_K3, Mo.p_R, Mo.p_R1, Mo.p_bnd, Mo.q_cat, Mo.q_rep, Mo.q_sub, Mo.q_add, Mo.q_addT, Mo.q_iadd, Mo.q_and, Mo.q_or, Mo.q_xor, Mo.q_lt, Mo.q_le, Mo.q_gt, Mo.q_ge, Mo.q_mod, Mo.q_div, Mo.q_shr, Mo.q_shl, Mo.q_pow, Mo.q_mulLf, Mo.q_mulRf, Mo.q_mulLt, Mo.q_mulRt, Mo.q_neg, Mo.q_eqI, Mo.q_neI, Mo.LIM, Mo.opt_some, Mo.opt_none, Mo.ds?, Mo.mkL, Mo.oIx, Mo.oSl, Mo.oLen, Mo.lenO, Mo.oAbs, Mo.oInt, Mo.oList, Mo.oTupOf, Mo.oIsN, Mo.isN, Mo.rdP, Mo.rdL, Mo.rdT, Mo.clsV, Mo.clsO, Mo.isLc, Mo.mApp, Mo.appO, Mo.mExt, Mo.fldO, Mo.isNo, Mo.stO, Mo.frzD, Mo.frz, Mo.setO, Mo.envOf, List.map_cons, List.map_nil, List.length_cons, List.length_nil, List.replicate_succ, List.replicate_zero, List.cons_append, List.nil_append, List.append_nil, List.append_assoc, List.getElem?_cons_zero, List.getElem?_cons_succ, List.set_cons_zero, List.set_cons_succ, Nat.reduceAdd, Nat.reduceSub, Nat.reduceLeDiff, Nat.reduceLT, Nat.reduceEqDiff, if_true, if_false, reduceIte, decide_true, decide_false, Bool.false_eq_true, and_self, true_and, and_true, Bool.and_self, Bool.true_and, Bool.and_true, Bool.not_true, Bool.not_false, Int.reduceToNat, Nat.reducePow, Int.cast_ofNat_Int, Int.reduceMul, Int.reduceAdd, Int.reduceSub, Int.reduceNeg, Mo.atI_l0, Mo.atI_l1, Mo.atI_l2, Mo.atI_l3, Mo.atI_l4, Mo.atI_l5, Mo.atI_l6, Mo.atI_l7, Mo.atI_l8, Mo.atI_l9, Mo.atI_l10, Mo.atI_l11, List.length_map, Mo.cut_map, Mo.get_top, Mo.get_top0, Mo.set_top, Mo.set_top0, Mo.take_topk, Mo.take_top, List.take_length, List.take_succ_cons, List.take_zero, List.length_append, Nat.lt_irrefl, Mo.wipeE, lq]) (by show 16 ≤ 16000000; omega) fun x hx M' => by
      have h : ∃ w, x = .int w := by
        simp only [List.not_mem_nil, List.mem_cons, or_false] at hx
        rcases hx with rfl | rfl | rfl | rfl <;> exact ⟨_, rfl⟩
      obtain ⟨w, rfl⟩ := h
      have hb := fun b M => e_bytes w 4 (by omega) (by omega) b M
      refine ⟨_, (bytesI w 4).map D.int, id, rfl, rfl, ?_, by simp, fun y hy M'' => ⟨_, rfl, rfl, ?_⟩⟩
      · simp (disch := first | omega | (simp only [List.length_map, List.length_cons, List.length_nil, List.length_append, List.length_replicate]; omega)) only [Md5_digest_i4, Mo.p_op, Mo.p_op1, Mo.p_op1e, Mo.p_op2, Mo.p_op2e, Mo.p_un, Mo.p_un1, Mo.p_var, Mo.p_var1, Mo.p_c, Mo.p_test, Mo.p_test1, Mo.p_test2, Mo.p_and, Mo.p_andT, Mo.p_andF, Mo.p_or, Mo.p_orT, Mo.p_orF, Mo.p_not, Mo.p_not1, Mo.p_tru, Mo.p_truB, Mo.p_truI, Mo.p_truN, Mo.p_truL, Mo.p_andV, Mo.p_andVT, Mo.p_andVF, Mo.p_orV, Mo.p_orVT, Mo.p_orVF, Mo.p_notV, Mo.p_notV1, Mo.p_ife, Mo.p_ifeT, Mo.p_ifeF, Mo.p_ch, Mo.p_ch1, Mo.p_ch2, Mo.p_ch3, Mo.p_ch4, Mo.p_an, Mo.p_ac, Mo.p_ac1, Mo.p_ac1e, Mo.p_ac2, Mo.p_ac2e, Mo.p_lst, Mo.p_lst1, Mo.p_lst2, Mo.p_tup, Mo.p_tup1, Mo.p_tup2, Mo.p_lsc, Mo.p_lsc1, Mo.p_cb, Mo.p_cb1, Mo.p_cb1e, Mo.p_call, Mo.p_call1, Mo.p_call1e, Mo.p_meth, Mo.p_meth1, Mo.p_meth2, Mo.p_meth2e, Mo.p_bm, Mo.p_bm1, Mo.p_bm2, Mo.p_fld, Mo.p_fld1, Mo.p_fld2, Mo.p_frz, Mo.p_frz1, Mo.p_frz2, Mo.p_isi, Mo.p_isiII, Mo.p_isiBI, Mo.p_isiLI, Mo.p_isiIB, Mo.p_isiBB, Mo.p_isiLL, Mo.p_isiTT, Mo.p_isiBN, Mo.p_isiBS, Mo.p_isiBL, Mo.p_sl, Mo.p_sl1, Mo.p_sl2, Mo.p_sl3, Mo.p_on, Mo.p_os, Mo.p_os1, Mo.p_mkK, Mo.p_mkK1, Mo.p_mkK2, Mo.p_mkF, Mo.p_mkF1, Mo.p_seq, Mo.p_seqN, Mo.p_seqR, Mo.p_seqB, Mo.p_seqC, Mo.p_seqE, Mo.p_nil, Mo.p_brk, Mo.p_cnt, Mo.p_ret, Mo.p_ret1, Mo.p_ret1e, Mo.p_retN, Mo.p_drop, Mo.p_drop1, Mo.p_drop1e, Mo.p_if, Mo.p_ifT, Mo.p_ifF, Mo.p_ifE, Mo.p_asg, Mo.p_asg1, Mo.p_asg1e, Mo.p_asgM, Mo.p_asgM1, Mo.p_asgM1e, Mo.p_asgM2, Mo.p_gq, Mo.p_gq2, Mo.p_gl0, Mo.p_gl1, Mo.p_gl2, Mo.p_gn, Mo.p_ga, Mo.p_ga1, Mo.p_ga2, Mo.p_aug, Mo.p_aug1, Mo.p_aug2, Mo.p_aug2e, Mo.p_aug3, Mo.p_nxM, Mo.p_fs, Mo.p_fs1, Mo.p_fs1e, Mo.p_fs2, Mo.p_fa, Mo.p_fa1, Mo.p_fa2, Mo.p_fa3, Mo.p_fa3e, Mo.p_fa4, Mo.p_ix, Mo.p_ix1, Mo.p_ix1e, Mo.p_ix2, Mo.p_ix3, Mo.p_sf, Mo.p_sf1, Mo.p_sf2, Mo.p_for, Mo.p_for1, Mo.p_iv, Mo.p_ivL, Mo.p_ivK, Mo.p_ivT, Mo.p_r1, Mo.p_r11, Mo.p_r2, Mo.p_r21, Mo.p_en, Mo.p_en1, Mo.p_zp, Mo.p_zp1, Mo.p_tgn, Mo.p_tgt, Mo.p_gs0, Mo.p_gs1, Mo.p_fl0, Mo.p_fl1, Mo.p_fl2, Mo.p_fl3, Mo.p_fl4, Mo.p_fl5, Mo.p_fl6, Mo.p_fl7, Mo.p_wh, Mo.p_ar, Mo.p_T, Mo.p_T1, Mo.p_T2, Mo.p_T3, Mo.p_fin, Mo.p_K, Mo.p_K1, Mo.p_K2, Mo.p_K3, Mo.p_R, Mo.p_R1, Mo.p_bnd, Mo.q_cat, Mo.q_rep, Mo.q_sub, Mo.q_add, Mo.q_addT, Mo.q_iadd, Mo.q_and, Mo.q_or, Mo.q_xor, Mo.q_lt, Mo.q_le, Mo.q_gt, Mo.q_ge, Mo.q_mod, Mo.q_div, Mo.q_shr, Mo.q_shl, Mo.q_pow, Mo.q_mulLf, Mo.q_mulRf, Mo.q_mulLt, Mo.q_mulRt, Mo.q_neg, Mo.q_eqI, Mo.q_neI, Mo.LIM, Mo.opt_some, Mo.opt_none, Mo.ds?, Mo.mkL, Mo.oIx, Mo.oSl, Mo.oLen, Mo.lenO, Mo.oAbs, Mo.oInt, Mo.oList, Mo.oTupOf, Mo.oIsN, Mo.isN, Mo.rdP, Mo.rdL, Mo.rdT, Mo.clsV, Mo.clsO, Mo.isLc, Mo.mApp, Mo.appO, Mo.mExt, Mo.fldO, Mo.isNo, Mo.stO, Mo.frzD, Mo.frz, Mo.setO, Mo.envOf, List.map_cons, List.map_nil, List.length_cons, List.length_nil, List.replicate_succ, List.replicate_zero, List.cons_append, List.nil_append, List.append_nil, List.append_assoc, List.getElem?_cons_zero, List.getElem?_cons_succ, List.set_cons_zero, List.set_cons_succ, Nat.reduceAdd, Nat.reduceSub, Nat.reduceLeDiff, Nat.reduceLT, Nat.reduceEqDiff, if_true, if_false, reduceIte, decide_true, decide_false, Bool.false_eq_true, and_self, true_and, and_true, Bool.and_self, Bool.true_and, Bool.and_true, Bool.not_true, Bool.not_false, Int.reduceToNat, Nat.reducePow, Int.cast_ofNat_Int, Int.reduceMul, Int.reduceAdd, Int.reduceSub, Int.reduceNeg, Mo.atI_l0, Mo.atI_l1, Mo.atI_l2, Mo.atI_l3, Mo.atI_l4, Mo.atI_l5, Mo.atI_l6, Mo.atI_l7, Mo.atI_l8, Mo.atI_l9, Mo.atI_l10, Mo.atI_l11, List.length_map, Mo.cut_map, Mo.get_top, Mo.get_top0, Mo.set_top, Mo.set_top0, Mo.take_topk, Mo.take_top, List.take_length, List.take_succ_cons, List.take_zero, List.length_append, Nat.lt_irrefl, Mo.wipeE, hb, li]
      · simp (disch := first | omega | (simp only [List.length_map, List.length_cons, List.length_nil, List.length_append, List.length_replicate]; omega)) only [Md5_digest_c4, Mo.p_op, Mo.p_op1, Mo.p_op1e, Mo.p_op2, Mo.p_op2e, Mo.p_un, Mo.p_un1, Mo.p_var, Mo.p_var1, Mo.p_c, Mo.p_test, Mo.p_test1, Mo.p_test2, Mo.p_and, Mo.p_andT, Mo.p_andF, Mo.p_or, Mo.p_orT, Mo.p_orF, Mo.p_not, Mo.p_not1, Mo.p_tru, Mo.p_truB, Mo.p_truI, Mo.p_truN, Mo.p_truL, Mo.p_andV, Mo.p_andVT, Mo.p_andVF, Mo.p_orV, Mo.p_orVT, Mo.p_orVF, Mo.p_notV, Mo.p_notV1, Mo.p_ife, Mo.p_ifeT, Mo.p_ifeF, Mo.p_ch, Mo.p_ch1, Mo.p_ch2, Mo.p_ch3, Mo.p_ch4, Mo.p_an, Mo.p_ac, Mo.p_ac1, Mo.p_ac1e, Mo.p_ac2, Mo.p_ac2e, Mo.p_lst, Mo.p_lst1, Mo.p_lst2, Mo.p_tup, Mo.p_tup1, Mo.p_tup2, Mo.p_lsc, Mo.p_lsc1, Mo.p_cb, Mo.p_cb1, Mo.p_cb1e, Mo.p_call, Mo.p_call1, Mo.p_call1e, Mo.p_meth, Mo.p_meth1, Mo.p_meth2, Mo.p_meth2e, Mo.p_bm, Mo.p_bm1, Mo.p_bm2, Mo.p_fld, Mo.p_fld1, Mo.p_fld2, Mo.p_frz, Mo.p_frz1, Mo.p_frz2, Mo.p_isi, Mo.p_isiII, Mo.p_isiBI, Mo.p_isiLI, Mo.p_isiIB, Mo.p_isiBB, Mo.p_isiLL, Mo.p_isiTT, Mo.p_isiBN, Mo.p_isiBS, Mo.p_isiBL, Mo.p_sl, Mo.p_sl1, Mo.p_sl2, Mo.p_sl3, Mo.p_on, Mo.p_os, Mo.p_os1, Mo.p_mkK, Mo.p_mkK1, Mo.p_mkK2, Mo.p_mkF, Mo.p_mkF1, Mo.p_seq, Mo.p_seqN, Mo.p_seqR, Mo.p_seqB, Mo.p_seqC, Mo.p_seqE, Mo.p_nil, Mo.p_brk, Mo.p_cnt, Mo.p_ret, Mo.p_ret1, Mo.p_ret1e, Mo.p_retN, Mo.p_drop, Mo.p_drop1, Mo.p_drop1e, Mo.p_if, Mo.p_ifT, Mo.p_ifF, Mo.p_ifE, Mo.p_asg, Mo.p_asg1, Mo.p_asg1e, Mo.p_asgM, Mo.p_asgM1, Mo.p_asgM1e, Mo.p_asgM2, Mo.p_gq, Mo.p_gq2, Mo.p_gl0, Mo.p_gl1, Mo.p_gl2, Mo.p_gn, Mo.p_ga, Mo.p_ga1, Mo.p_ga2, Mo.p_aug, Mo.p_aug1, Mo.p_aug2, Mo.p_aug2e, Mo.p_aug3, Mo.p_nxM, Mo.p_fs, Mo.p_fs1, Mo.p_fs1e, Mo.p_fs2, Mo.p_fa, Mo.p_fa1, Mo.p_fa2, Mo.p_fa3, Mo.p_fa3e, Mo.p_fa4, Mo.p_ix, Mo.p_ix1, Mo.p_ix1e, Mo.p_ix2, Mo.p_ix3, Mo.p_sf, Mo.p_sf1, Mo.p_sf2, Mo.p_for, Mo.p_for1, Mo.p_iv, Mo.p_ivL, Mo.p_ivK, Mo.p_ivT, Mo.p_r1, Mo.p_r11, Mo.p_r2, Mo.p_r21, Mo.p_en, Mo.p_en1, Mo.p_zp, Mo.p_zp1, Mo.p_tgn, Mo.p_tgt, Mo.p_gs0, Mo.p_gs1, Mo.p_fl0, Mo.p_fl1, Mo.p_fl2, Mo.p_fl3, Mo.p_fl4, Mo.p_fl5, Mo.p_fl6, Mo.p_fl7, Mo.p_wh, Mo.p_ar, Mo.p_T, Mo.p_T1, Mo.p_T2, Mo.p_T3, Mo.p_fin, Mo.p_K, Mo.p_K1, Mo.p_K2, Mo.p_K3, Mo.p_R, Mo.p_R1, Mo.p_bnd, Mo.q_cat, Mo.q_rep, Mo.q_sub, Mo.q_add, Mo.q_addT, Mo.q_iadd, Mo.q_and, Mo.q_or, Mo.q_xor, Mo.q_lt, Mo.q_le, Mo.q_gt, Mo.q_ge, Mo.q_mod, Mo.q_div, Mo.q_shr, Mo.q_shl, Mo.q_pow, Mo.q_mulLf, Mo.q_mulRf, Mo.q_mulLt, Mo.q_mulRt, Mo.q_neg, Mo.q_eqI, Mo.q_neI, Mo.LIM, Mo.opt_some, Mo.opt_none, Mo.ds?, Mo.mkL, Mo.oIx, Mo.oSl, Mo.oLen, Mo.lenO, Mo.oAbs, Mo.oInt, Mo.oList, Mo.oTupOf, Mo.oIsN, Mo.isN, Mo.rdP, Mo.rdL, Mo.rdT, Mo.clsV, Mo.clsO, Mo.isLc, Mo.mApp, Mo.appO, Mo.mExt, Mo.fldO, Mo.isNo, Mo.stO, Mo.frzD, Mo.frz, Mo.setO, Mo.envOf, List.map_cons, List.map_nil, List.length_cons, List.length_nil, List.replicate_succ, List.replicate_zero, List.cons_append, List.nil_append, List.append_nil, List.append_assoc, List.getElem?_cons_zero, List.getElem?_cons_succ, List.set_cons_zero, List.set_cons_succ, Nat.reduceAdd, Nat.reduceSub, Nat.reduceLeDiff, Nat.reduceLT, Nat.reduceEqDiff, if_true, if_false, reduceIte, decide_true, decide_false, Bool.false_eq_true, and_self, true_and, and_true, Bool.and_self, Bool.true_and, Bool.and_true, Bool.not_true, Bool.not_false, Int.reduceToNat, Nat.reducePow, Int.cast_ofNat_Int, Int.reduceMul, Int.reduceAdd, Int.reduceSub, Int.reduceNeg, Mo.atI_l0, Mo.atI_l1, Mo.atI_l2, Mo.atI_l3, Mo.atI_l4, Mo.atI_l5, Mo.atI_l6, Mo.atI_l7, Mo.atI_l8, Mo.atI_l9, Mo.atI_l10, Mo.atI_l11, List.length_map, Mo.cut_map, Mo.get_top, Mo.get_top0, Mo.set_top, Mo.set_top0, Mo.take_topk, Mo.take_top, List.take_length, List.take_succ_cons, List.take_zero, List.length_append, Nat.lt_irrefl, Mo.wipeE]
        rfl]
  simp [outB]
theorem e_digest (q : Q4) (hq : R4 q) (t : List Int) (n : Int) (ht : By t) (h0 : 0 ≤ n) (h1 : n < 100000) (hl : t.length < 90000) (b : Nat) (M : Store) : F_Md5_digest [.c M.length] b (M ++ [mdO q t n]) =
    .ok (.c (M.length + 1), M ++ [mdO q t n, some (.lst ((outB (blks q (t ++ padB n) ((t ++ padB n).length / 64))).map .int))]) := by
  have hp := pad_len n
  have hB := fun b M => e_blocks q hq (t ++ padB n) (by rw [List.length_append]; omega) (ht.app (By.pad _)) b M
  have hy := fun b M => e_bytes (8 * n) 8 (by omega) (by omega) b M
  have hbl := bytes_len (8 * n) 8
  have ho := e_outc (blks q (t ++ padB n) ((t ++ padB n).length / 64))
  have hW : List.map D.int t ++ (D.int 128 :: (List.map D.int (List.replicate ((55 - n) % 64).toNat 0) ++ List.map D.int (bytesI (8 * n) 8))) = List.map D.int (t ++ padB n) := by
    unfold padB
    simp
  simp only [li, lq, List.length_append] at hB hy ho
  simp (disch := first | omega | (simp only [List.length_map, List.length_cons, List.length_nil, List.length_append, List.length_replicate]; omega)) only [F_Md5_digest, b_Md5_digest, Mo.p_op, Mo.p_op1, Mo.p_op1e, Mo.p_op2, Mo.p_op2e, Mo.p_un, Mo.p_un1, Mo.p_var, Mo.p_var1, Mo.p_c, Mo.p_test, Mo.p_test1, Mo.p_test2, Mo.p_and, Mo.p_andT, Mo.p_andF, Mo.p_or, Mo.p_orT, Mo.p_orF, Mo.p_not, Mo.p_not1, Mo.p_tru, Mo.p_truB, Mo.p_truI, Mo.p_truN, Mo.p_truL, Mo.p_andV, Mo.p_andVT, Mo.p_andVF, Mo.p_orV, Mo.p_orVT, Mo.p_orVF, Mo.p_notV, Mo.p_notV1, Mo.p_ife, Mo.p_ifeT, Mo.p_ifeF, Mo.p_ch, Mo.p_ch1, Mo.p_ch2, Mo.p_ch3, Mo.p_ch4, Mo.p_an, Mo.p_ac, Mo.p_ac1, Mo.p_ac1e, Mo.p_ac2, Mo.p_ac2e, Mo.p_lst, Mo.p_lst1, Mo.p_lst2, Mo.p_tup, Mo.p_tup1, Mo.p_tup2, Mo.p_lsc, Mo.p_lsc1, Mo.p_cb, Mo.p_cb1, Mo.p_cb1e, Mo.p_call, Mo.p_call1, Mo.p_call1e, Mo.p_meth, Mo.p_meth1, Mo.p_meth2, Mo.p_meth2e, Mo.p_bm, Mo.p_bm1, Mo.p_bm2, Mo.p_fld, Mo.p_fld1, Mo.p_fld2, Mo.p_frz, Mo.p_frz1, Mo.p_frz2, Mo.p_isi, Mo.p_isiII, Mo.p_isiBI, Mo.p_isiLI, Mo.p_isiIB, Mo.p_isiBB, Mo.p_isiLL, Mo.p_isiTT, Mo.p_isiBN, Mo.p_isiBS, Mo.p_isiBL, Mo.p_sl, Mo.p_sl1, Mo.p_sl2, Mo.p_sl3, Mo.p_on, Mo.p_os, Mo.p_os1, Mo.p_mkK, Mo.p_mkK1, Mo.p_mkK2, Mo.p_mkF, Mo.p_mkF1, Mo.p_seq, Mo.p_seqN, Mo.p_seqR, Mo.p_seqB, Mo.p_seqC, Mo.p_seqE, Mo.p_nil, Mo.p_brk, Mo.p_cnt, Mo.p_ret, Mo.p_ret1, Mo.p_ret1e, Mo.p_retN, Mo.p_drop, Mo.p_drop1, Mo.p_drop1e, Mo.p_if, Mo.p_ifT, Mo.p_ifF, Mo.p_ifE, Mo.p_asg, Mo.p_asg1, Mo.p_asg1e, Mo.p_asgM, Mo.p_asgM1, Mo.p_asgM1e, Mo.p_asgM2, Mo.p_gq, Mo.p_gq2, Mo.p_gl0, Mo.p_gl1, Mo.p_gl2, Mo.p_gn, Mo.p_ga, Mo.p_ga1, Mo.p_ga2, Mo.p_aug, Mo.p_aug1, Mo.p_aug2, Mo.p_aug2e, Mo.p_aug3, Mo.p_nxM, Mo.p_fs, Mo.p_fs1, Mo.p_fs1e, Mo.p_fs2, Mo.p_fa, Mo.p_fa1, Mo.p_fa2, Mo.p_fa3, Mo.p_fa3e, Mo.p_fa4, Mo.p_ix, Mo.p_ix1, Mo.p_ix1e, Mo.p_ix2, Mo.p_ix3, Mo.p_sf, Mo.p_sf1, Mo.p_sf2, Mo.p_for, Mo.p_for1, Mo.p_iv, Mo.p_ivL, Mo.p_ivK, Mo.p_ivT, Mo.p_r1, Mo.p_r11, Mo.p_r2, Mo.p_r21, Mo.p_en, Mo.p_en1, Mo.p_zp, Mo.p_zp1, Mo.p_tgn, Mo.p_tgt, Mo.p_gs0, Mo.p_gs1, Mo.p_fl0, Mo.p_fl1, Mo.p_fl2, Mo.p_fl3, Mo.p_fl4, Mo.p_fl5, Mo.p_fl6, Mo.p_fl7, Mo.p_wh, Mo.p_ar, Mo.p_T, Mo.p_T1, Mo.p_T2, Mo.p_T3, Mo.p_fin, Mo.p_K, Mo.p_K1, Mo.p_K2, Mo.p_K3, Mo.p_R, Mo.p_R1, Mo.p_bnd, Mo.q_cat, Mo.q_rep, Mo.q_sub, Mo.q_add, Mo.q_addT, Mo.q_iadd, Mo.q_and, Mo.q_or, Mo.q_xor, Mo.q_lt, Mo.q_le, Mo.q_gt, Mo.q_ge, Mo.q_mod, Mo.q_div, Mo.q_shr, Mo.q_shl, Mo.q_pow, Mo.q_mulLf, Mo.q_mulRf, Mo.q_mulLt, Mo.q_mulRt, Mo.q_neg, Mo.q_eqI, Mo.q_neI, Mo.LIM, Mo.opt_some, Mo.opt_none, Mo.ds?, Mo.mkL, Mo.oIx, Mo.oSl, Mo.oLen, Mo.lenO, Mo.oAbs, Mo.oInt, Mo.oList, Mo.oTupOf, Mo.oIsN, Mo.isN, Mo.rdP, Mo.rdL, Mo.rdT, Mo.clsV, Mo.clsO, Mo.isLc, Mo.mApp, Mo.appO, Mo.mExt, Mo.fldO, Mo.isNo, Mo.stO, Mo.frzD, Mo.frz, Mo.setO, Mo.envOf, List.map_cons, List.map_nil, List.length_cons, List.length_nil, List.replicate_succ, List.replicate_zero, List.cons_append, List.nil_append, List.append_nil, List.append_assoc, List.getElem?_cons_zero, List.getElem?_cons_succ, List.set_cons_zero, List.set_cons_succ, Nat.reduceAdd, Nat.reduceSub, Nat.reduceLeDiff, Nat.reduceLT, Nat.reduceEqDiff, if_true, if_false, reduceIte, decide_true, decide_false, Bool.false_eq_true, and_self, true_and, and_true, Bool.and_self, Bool.true_and, Bool.and_true, Bool.not_true, Bool.not_false, Int.reduceToNat, Nat.reducePow, Int.cast_ofNat_Int, Int.reduceMul, Int.reduceAdd, Int.reduceSub, Int.reduceNeg, Mo.atI_l0, Mo.atI_l1, Mo.atI_l2, Mo.atI_l3, Mo.atI_l4, Mo.atI_l5, Mo.atI_l6, Mo.atI_l7, Mo.atI_l8, Mo.atI_l9, Mo.atI_l10, Mo.atI_l11, List.length_map, Mo.cut_map, Mo.get_top, Mo.get_top0, Mo.set_top, Mo.set_top0, Mo.take_topk, Mo.take_top, List.take_length, List.take_succ_cons, List.take_zero, List.length_append, Nat.lt_irrefl, Mo.wipeE, tb_state, tb_tail, tb_length, List.lookup, beq_self_eq_true, li, lq, li_rep, hy, hW, hB, ho]
  simp (disch := first | omega | (simp only [List.length_map, List.length_cons, List.length_nil, List.length_append, List.length_replicate]; omega)) only [rtR, Mo.p_op, Mo.p_op1, Mo.p_op1e, Mo.p_op2, Mo.p_op2e, Mo.p_un, Mo.p_un1, Mo.p_var, Mo.p_var1, Mo.p_c, Mo.p_test, Mo.p_test1, Mo.p_test2, Mo.p_and, Mo.p_andT, Mo.p_andF, Mo.p_or, Mo.p_orT, Mo.p_orF, Mo.p_not, Mo.p_not1, Mo.p_tru, Mo.p_truB, Mo.p_truI, Mo.p_truN, Mo.p_truL, Mo.p_andV, Mo.p_andVT, Mo.p_andVF, Mo.p_orV, Mo.p_orVT, Mo.p_orVF, Mo.p_notV, Mo.p_notV1, Mo.p_ife, Mo.p_ifeT, Mo.p_ifeF, Mo.p_ch, Mo.p_ch1, Mo.p_ch2, Mo.p_ch3, Mo.p_ch4, Mo.p_an, Mo.p_ac, Mo.p_ac1, Mo.p_ac1e, Mo.p_ac2, Mo.p_ac2e, Mo.p_lst, Mo.p_lst1, Mo.p_lst2, Mo.p_tup, Mo.p_tup1, Mo.p_tup2, Mo.p_lsc, Mo.p_lsc1, Mo.p_cb, Mo.p_cb1, Mo.p_cb1e, Mo.p_call, Mo.p_call1, Mo.p_call1e, Mo.p_meth, Mo.p_meth1, Mo.p_meth2, Mo.p_meth2e, Mo.p_bm, Mo.p_bm1, Mo.p_bm2, Mo.p_fld, Mo.p_fld1, Mo.p_fld2, Mo.p_frz, Mo.p_frz1, Mo.p_frz2, Mo.p_isi, Mo.p_isiII, Mo.p_isiBI, Mo.p_isiLI, Mo.p_isiIB, Mo.p_isiBB, Mo.p_isiLL, Mo.p_isiTT, Mo.p_isiBN, Mo.p_isiBS, Mo.p_isiBL, Mo.p_sl, Mo.p_sl1, Mo.p_sl2, Mo.p_sl3, Mo.p_on, Mo.p_os, Mo.p_os1, Mo.p_mkK, Mo.p_mkK1, Mo.p_mkK2, Mo.p_mkF, Mo.p_mkF1, Mo.p_seq, Mo.p_seqN, Mo.p_seqR, Mo.p_seqB, Mo.p_seqC, Mo.p_seqE, Mo.p_nil, Mo.p_brk, Mo.p_cnt, Mo.p_ret, Mo.p_ret1, Mo.p_ret1e, Mo.p_retN, Mo.p_drop, Mo.p_drop1, Mo.p_drop1e, Mo.p_if, Mo.p_ifT, Mo.p_ifF, Mo.p_ifE, Mo.p_asg, Mo.p_asg1, Mo.p_asg1e, Mo.p_asgM, Mo.p_asgM1, Mo.p_asgM1e, Mo.p_asgM2, Mo.p_gq, Mo.p_gq2, Mo.p_gl0, Mo.p_gl1, Mo.p_gl2, Mo.p_gn, Mo.p_ga, Mo.p_ga1, Mo.p_ga2, Mo.p_aug, Mo.p_aug1, Mo.p_aug2, Mo.p_aug2e, Mo.p_aug3, Mo.p_nxM, Mo.p_fs, Mo.p_fs1, Mo.p_fs1e, Mo.p_fs2, Mo.p_fa, Mo.p_fa1, Mo.p_fa2, Mo.p_fa3, Mo.p_fa3e, Mo.p_fa4, Mo.p_ix, Mo.p_ix1, Mo.p_ix1e, Mo.p_ix2, Mo.p_ix3, Mo.p_sf, Mo.p_sf1, Mo.p_sf2, Mo.p_for, Mo.p_for1, Mo.p_iv, Mo.p_ivL, Mo.p_ivK, Mo.p_ivT, Mo.p_r1, Mo.p_r11, Mo.p_r2, Mo.p_r21, Mo.p_en, Mo.p_en1, Mo.p_zp, Mo.p_zp1, Mo.p_tgn, Mo.p_tgt, Mo.p_gs0, Mo.p_gs1, Mo.p_fl0, Mo.p_fl1, Mo.p_fl2, Mo.p_fl3, Mo.p_fl4, Mo.p_fl5, Mo.p_fl6, Mo.p_fl7, Mo.p_wh, Mo.p_ar, Mo.p_T, Mo.p_T1, Mo.p_T2, Mo.p_T3, Mo.p_fin, Mo.p_K, Mo.p_K1, Mo.p_K2, Mo.p_K3, Mo.p_R, Mo.p_R1, Mo.p_bnd, Mo.q_cat, Mo.q_rep, Mo.q_sub, Mo.q_add, Mo.q_addT, Mo.q_iadd, Mo.q_and, Mo.q_or, Mo.q_xor, Mo.q_lt, Mo.q_le, Mo.q_gt, Mo.q_ge, Mo.q_mod, Mo.q_div, Mo.q_shr, Mo.q_shl, Mo.q_pow, Mo.q_mulLf, Mo.q_mulRf, Mo.q_mulLt, Mo.q_mulRt, Mo.q_neg, Mo.q_eqI, Mo.q_neI, Mo.LIM, Mo.opt_some, Mo.opt_none, Mo.ds?, Mo.mkL, Mo.oIx, Mo.oSl, Mo.oLen, Mo.lenO, Mo.oAbs, Mo.oInt, Mo.oList, Mo.oTupOf, Mo.oIsN, Mo.isN, Mo.rdP, Mo.rdL, Mo.rdT, Mo.clsV, Mo.clsO, Mo.isLc, Mo.mApp, Mo.appO, Mo.mExt, Mo.fldO, Mo.isNo, Mo.stO, Mo.frzD, Mo.frz, Mo.setO, Mo.envOf, List.map_cons, List.map_nil, List.length_cons, List.length_nil, List.replicate_succ, List.replicate_zero, List.cons_append, List.nil_append, List.append_nil, List.append_assoc, List.getElem?_cons_zero, List.getElem?_cons_succ, List.set_cons_zero, List.set_cons_succ, Nat.reduceAdd, Nat.reduceSub, Nat.reduceLeDiff, Nat.reduceLT, Nat.reduceEqDiff, if_true, if_false, reduceIte, decide_true, decide_false, Bool.false_eq_true, and_self, true_and, and_true, Bool.and_self, Bool.true_and, Bool.and_true, Bool.not_true, Bool.not_false, Int.reduceToNat, Nat.reducePow, Int.cast_ofNat_Int, Int.reduceMul, Int.reduceAdd, Int.reduceSub, Int.reduceNeg, Mo.atI_l0, Mo.atI_l1, Mo.atI_l2, Mo.atI_l3, Mo.atI_l4, Mo.atI_l5, Mo.atI_l6, Mo.atI_l7, Mo.atI_l8, Mo.atI_l9, Mo.atI_l10, Mo.atI_l11, List.length_map, Mo.cut_map, Mo.get_top, Mo.get_top0, Mo.set_top, Mo.set_top0, Mo.take_topk, Mo.take_top, List.take_length, List.take_succ_cons, List.take_zero, List.length_append, Nat.lt_irrefl, Mo.wipeE]
/-! ### md5 -/
theorem blks_pre {q : Q4} {ds p : List Int} : ∀ k, 64 * k ≤ ds.length → blks q (ds ++ p) k = blks q ds k
  | 0, _ => rfl
  | k + 1, h => by
    show blk (blks q (ds ++ p) k) (((ds ++ p).drop (64 * k)).take 64) = blk (blks q ds k) ((ds.drop (64 * k)).take 64)
    rw [blks_pre k (by omega), List.drop_append_of_le_length (by omega), List.take_append_of_le_length (by rw [List.length_drop]; omega)]
theorem blks_split {q : Q4} {ds p : List Int} {n : Nat} (h : 64 * n ≤ ds.length) : ∀ m, blks (blks q ds n) (ds.drop (64 * n) ++ p) m = blks q (ds ++ p) (n + m)
  | 0 => (blks_pre n h).symm
  | m + 1 => by
    show blk (blks (blks q ds n) (ds.drop (64 * n) ++ p) m) (((ds.drop (64 * n) ++ p).drop (64 * m)).take 64) = blk (blks q (ds ++ p) (n + m)) (((ds ++ p).drop (64 * (n + m))).take 64)
    rw [blks_split h m, ← List.drop_append_of_le_length h, List.drop_drop, show 64 * n + 64 * m = 64 * (n + m) from by omega]
theorem e_md5 (ds : List Int) (hl : ds.length < 10000) (hb : By ds) (b : Nat) (M : Store) : F_md5 [.d (li ds)] b M = .ok (.c M.length, M ++ [some (.lst ((outB (blks Q0 (whole ds) ((whole ds).length / 64))).map .int))]) := by
  have hi := e_init
  have hf := fun b M => e_feed Q0 Q0_R [] ds 0 (fun _ h => (nomatch h)) hb (by simp; omega) b M
  simp only [List.nil_append, Int.zero_add, li, lq] at hf
  have hd := fun b M => e_digest (blks Q0 ds (ds.length / 64)) (blks_R Q0_R _ _) (ds.drop (64 * (ds.length / 64))) ds.length (fun x h => hb x (List.mem_of_mem_drop h)) (by omega) (by omega) (by rw [List.length_drop]; omega) b M
  simp (disch := first | omega | (simp only [List.length_map, List.length_cons, List.length_nil, List.length_append, List.length_replicate]; omega)) only [F_md5, b_md5, Mo.p_op, Mo.p_op1, Mo.p_op1e, Mo.p_op2, Mo.p_op2e, Mo.p_un, Mo.p_un1, Mo.p_var, Mo.p_var1, Mo.p_c, Mo.p_test, Mo.p_test1, Mo.p_test2, Mo.p_and, Mo.p_andT, Mo.p_andF, Mo.p_or, Mo.p_orT, Mo.p_orF, Mo.p_not, Mo.p_not1, Mo.p_tru, Mo.p_truB, Mo.p_truI, Mo.p_truN, Mo.p_truL, Mo.p_andV, Mo.p_andVT, Mo.p_andVF, Mo.p_orV, Mo.p_orVT, Mo.p_orVF, Mo.p_notV, Mo.p_notV1, Mo.p_ife, Mo.p_ifeT, Mo.p_ifeF, Mo.p_ch, Mo.p_ch1, Mo.p_ch2, Mo.p_ch3, Mo.p_ch4, Mo.p_an, Mo.p_ac, Mo.p_ac1, Mo.p_ac1e, Mo.p_ac2, Mo.p_ac2e, Mo.p_lst, Mo.p_lst1, Mo.p_lst2, Mo.p_tup, Mo.p_tup1, Mo.p_tup2, Mo.p_lsc, Mo.p_lsc1, Mo.p_cb, Mo.p_cb1, Mo.p_cb1e, Mo.p_call, Mo.p_call1, Mo.p_call1e, Mo.p_meth, Mo.p_meth1, Mo.p_meth2, Mo.p_meth2e, Mo.p_bm, Mo.p_bm1, Mo.p_bm2, Mo.p_fld, Mo.p_fld1, Mo.p_fld2, Mo.p_frz, Mo.p_frz1, Mo.p_frz2, Mo.p_isi, Mo.p_isiII, Mo.p_isiBI, Mo.p_isiLI, Mo.p_isiIB, Mo.p_isiBB, Mo.p_isiLL, Mo.p_isiTT, Mo.p_isiBN, Mo.p_isiBS, Mo.p_isiBL, Mo.p_sl, Mo.p_sl1, Mo.p_sl2, Mo.p_sl3, Mo.p_on, Mo.p_os, Mo.p_os1, Mo.p_mkK, Mo.p_mkK1, Mo.p_mkK2, Mo.p_mkF, Mo.p_mkF1, Mo.p_seq, Mo.p_seqN, Mo.p_seqR, Mo.p_seqB, Mo.p_seqC, Mo.p_seqE, Mo.p_nil, Mo.p_brk, Mo.p_cnt, Mo.p_ret, Mo.p_ret1, Mo.p_ret1e, Mo.p_retN, Mo.p_drop, Mo.p_drop1, Mo.p_drop1e, Mo.p_if, Mo.p_ifT, Mo.p_ifF, Mo.p_ifE, Mo.p_asg, Mo.p_asg1, Mo.p_asg1e, Mo.p_asgM, Mo.p_asgM1, Mo.p_asgM1e, Mo.p_asgM2, Mo.p_gq, Mo.p_gq2, Mo.p_gl0, Mo.p_gl1, Mo.p_gl2, Mo.p_gn, Mo.p_ga, Mo.p_ga1, Mo.p_ga2, Mo.p_aug, Mo.p_aug1, Mo.p_aug2, Mo.p_aug2e, Mo.p_aug3, Mo.p_nxM, Mo.p_fs, Mo.p_fs1, Mo.p_fs1e, Mo.p_fs2, Mo.p_fa, Mo.p_fa1, Mo.p_fa2, Mo.p_fa3, Mo.p_fa3e, Mo.p_fa4, Mo.p_ix, Mo.p_ix1, Mo.p_ix1e, Mo.p_ix2, Mo.p_ix3, Mo.p_sf, Mo.p_sf1, Mo.p_sf2, Mo.p_for, Mo.p_for1, Mo.p_iv, Mo.p_ivL, Mo.p_ivK, Mo.p_ivT, Mo.p_r1, Mo.p_r11, Mo.p_r2, Mo.p_r21, Mo.p_en, Mo.p_en1, Mo.p_zp, Mo.p_zp1, Mo.p_tgn, Mo.p_tgt, Mo.p_gs0, Mo.p_gs1, Mo.p_fl0, Mo.p_fl1, Mo.p_fl2, Mo.p_fl3, Mo.p_fl4, Mo.p_fl5, Mo.p_fl6, Mo.p_fl7, Mo.p_wh, Mo.p_ar, Mo.p_T, Mo.p_T1, Mo.p_T2, Mo.p_T3, Mo.p_fin, Mo.p_K, Mo.p_K1, Mo.p_K2, Mo.p_K3, Mo.p_R, Mo.p_R1, Mo.p_bnd, Mo.q_cat, Mo.q_rep, Mo.q_sub, Mo.q_add, Mo.q_addT, Mo.q_iadd, Mo.q_and, Mo.q_or, Mo.q_xor, Mo.q_lt, Mo.q_le, Mo.q_gt, Mo.q_ge, Mo.q_mod, Mo.q_div, Mo.q_shr, Mo.q_shl, Mo.q_pow, Mo.q_mulLf, Mo.q_mulRf, Mo.q_mulLt, Mo.q_mulRt, Mo.q_neg, Mo.q_eqI, Mo.q_neI, Mo.LIM, Mo.opt_some, Mo.opt_none, Mo.ds?, Mo.mkL, Mo.oIx, Mo.oSl, Mo.oLen, Mo.lenO, Mo.oAbs, Mo.oInt, Mo.oList, Mo.oTupOf, Mo.oIsN, Mo.isN, Mo.rdP, Mo.rdL, Mo.rdT, Mo.clsV, Mo.clsO, Mo.isLc, Mo.mApp, Mo.appO, Mo.mExt, Mo.fldO, Mo.isNo, Mo.stO, Mo.frzD, Mo.frz, Mo.setO, Mo.envOf, List.map_cons, List.map_nil, List.length_cons, List.length_nil, List.replicate_succ, List.replicate_zero, List.cons_append, List.nil_append, List.append_nil, List.append_assoc, List.getElem?_cons_zero, List.getElem?_cons_succ, List.set_cons_zero, List.set_cons_succ, Nat.reduceAdd, Nat.reduceSub, Nat.reduceLeDiff, Nat.reduceLT, Nat.reduceEqDiff, if_true, if_false, reduceIte, decide_true, decide_false, Bool.false_eq_true, and_self, true_and, and_true, Bool.and_self, Bool.true_and, Bool.and_true, Bool.not_true, Bool.not_false, Int.reduceToNat, Nat.reducePow, Int.cast_ofNat_Int, Int.reduceMul, Int.reduceAdd, Int.reduceSub, Int.reduceNeg, Mo.atI_l0, Mo.atI_l1, Mo.atI_l2, Mo.atI_l3, Mo.atI_l4, Mo.atI_l5, Mo.atI_l6, Mo.atI_l7, Mo.atI_l8, Mo.atI_l9, Mo.atI_l10, Mo.atI_l11, List.length_map, Mo.cut_map, Mo.get_top, Mo.get_top0, Mo.set_top, Mo.set_top0, Mo.take_topk, Mo.take_top, List.take_length, List.take_succ_cons, List.take_zero, List.length_append, Nat.lt_irrefl, Mo.wipeE, hi, li, lq, hf, hd]
  have e : blks (blks Q0 ds (ds.length / 64)) (List.drop (64 * (ds.length / 64)) ds ++ padB ds.length) (((List.drop (64 * (ds.length / 64)) ds).length + (padB ds.length).length) / 64) = blks Q0 (whole ds) ((whole ds).length / 64) := by
    rw [blks_split (by omega)]
    unfold whole
    congr 1
    rw [List.length_append, List.length_drop]
    omega
  rw [e]
  simp (disch := first | omega | (simp only [List.length_map, List.length_cons, List.length_nil, List.length_append, List.length_replicate]; omega)) only [rtR, Mo.p_op, Mo.p_op1, Mo.p_op1e, Mo.p_op2, Mo.p_op2e, Mo.p_un, Mo.p_un1, Mo.p_var, Mo.p_var1, Mo.p_c, Mo.p_test, Mo.p_test1, Mo.p_test2, Mo.p_and, Mo.p_andT, Mo.p_andF, Mo.p_or, Mo.p_orT, Mo.p_orF, Mo.p_not, Mo.p_not1, Mo.p_tru, Mo.p_truB, Mo.p_truI, Mo.p_truN, Mo.p_truL, Mo.p_andV, Mo.p_andVT, Mo.p_andVF, Mo.p_orV, Mo.p_orVT, Mo.p_orVF, Mo.p_notV, Mo.p_notV1, Mo.p_ife, Mo.p_ifeT, Mo.p_ifeF, Mo.p_ch, Mo.p_ch1, Mo.p_ch2, Mo.p_ch3, Mo.p_ch4, Mo.p_an, Mo.p_ac, Mo.p_ac1, Mo.p_ac1e, Mo.p_ac2, Mo.p_ac2e, Mo.p_lst, Mo.p_lst1, Mo.p_lst2, Mo.p_tup, Mo.p_tup1, Mo.p_tup2, Mo.p_lsc, Mo.p_lsc1, Mo.p_cb, Mo.p_cb1, Mo.p_cb1e, Mo.p_call, Mo.p_call1, Mo.p_call1e, Mo.p_meth, Mo.p_meth1, Mo.p_meth2, Mo.p_meth2e, Mo.p_bm, Mo.p_bm1, Mo.p_bm2, Mo.p_fld, Mo.p_fld1, Mo.p_fld2, Mo.p_frz, Mo.p_frz1, Mo.p_frz2, Mo.p_isi, Mo.p_isiII, Mo.p_isiBI, Mo.p_isiLI, Mo.p_isiIB, Mo.p_isiBB, Mo.p_isiLL, Mo.p_isiTT, Mo.p_isiBN, Mo.p_isiBS, Mo.p_isiBL, Mo.p_sl, Mo.p_sl1, Mo.p_sl2, Mo.p_sl3, Mo.p_on, Mo.p_os, Mo.p_os1, Mo.p_mkK, Mo.p_mkK1, Mo.p_mkK2, Mo.p_mkF, Mo.p_mkF1, Mo.p_seq, Mo.p_seqN, Mo.p_seqR, Mo.p_seqB, Mo.p_seqC, Mo.p_seqE, Mo.p_nil, Mo.p_brk, Mo.p_cnt, Mo.p_ret, Mo.p_ret1, Mo.p_ret1e, Mo.p_retN, Mo.p_drop, Mo.p_drop1, Mo.p_drop1e, Mo.p_if, Mo.p_ifT, Mo.p_ifF, Mo.p_ifE, Mo.p_asg, Mo.p_asg1, Mo.p_asg1e, Mo.p_asgM, Mo.p_asgM1, Mo.p_asgM1e, Mo.p_asgM2, Mo.p_gq, Mo.p_gq2, Mo.p_gl0, Mo.p_gl1, Mo.p_gl2, Mo.p_gn, Mo.p_ga, Mo.p_ga1, Mo.p_ga2, Mo.p_aug, Mo.p_aug1, Mo.p_aug2, Mo.p_aug2e, Mo.p_aug3, Mo.p_nxM, Mo.p_fs, Mo.p_fs1, Mo.p_fs1e, Mo.p_fs2, Mo.p_fa, Mo.p_fa1, Mo.p_fa2, Mo.p_fa3, Mo.p_fa3e, Mo.p_fa4, Mo.p_ix, Mo.p_ix1, Mo.p_ix1e, Mo.p_ix2, Mo.p_ix3, Mo.p_sf, Mo.p_sf1, Mo.p_sf2, Mo.p_for, Mo.p_for1, Mo.p_iv, Mo.p_ivL, Mo.p_ivK, Mo.p_ivT, Mo.p_r1, Mo.p_r11, Mo.p_r2, Mo.p_r21, Mo.p_en, Mo.p_en1, Mo.p_zp, Mo.p_zp1, Mo.p_tgn, Mo.p_tgt, Mo.p_gs0, Mo.p_gs1, Mo.p_fl0, Mo.p_fl1, Mo.p_fl2, Mo.p_fl3, Mo.p_fl4, Mo.p_fl5, Mo.p_fl6, Mo.p_fl7, Mo.p_wh, Mo.p_ar, Mo.p_T, Mo.p_T1, Mo.p_T2, Mo.p_T3, Mo.p_fin, Mo.p_K, Mo.p_K1, Mo.p_K2, Mo.p_K3, Mo.p_R, Mo.p_R1, Mo.p_bnd, Mo.q_cat, Mo.q_rep, Mo.q_sub, Mo.q_add, Mo.q_addT, Mo.q_iadd, Mo.q_and, Mo.q_or, Mo.q_xor, Mo.q_lt, Mo.q_le, Mo.q_gt, Mo.q_ge, Mo.q_mod, Mo.q_div, Mo.q_shr, Mo.q_shl, Mo.q_pow, Mo.q_mulLf, Mo.q_mulRf, Mo.q_mulLt, Mo.q_mulRt, Mo.q_neg, Mo.q_eqI, Mo.q_neI, Mo.LIM, Mo.opt_some, Mo.opt_none, Mo.ds?, Mo.mkL, Mo.oIx, Mo.oSl, Mo.oLen, Mo.lenO, Mo.oAbs, Mo.oInt, Mo.oList, Mo.oTupOf, Mo.oIsN, Mo.isN, Mo.rdP, Mo.rdL, Mo.rdT, Mo.clsV, Mo.clsO, Mo.isLc, Mo.mApp, Mo.appO, Mo.mExt, Mo.fldO, Mo.isNo, Mo.stO, Mo.frzD, Mo.frz, Mo.setO, Mo.envOf, List.map_cons, List.map_nil, List.length_cons, List.length_nil, List.replicate_succ, List.replicate_zero, List.cons_append, List.nil_append, List.append_nil, List.append_assoc, List.getElem?_cons_zero, List.getElem?_cons_succ, List.set_cons_zero, List.set_cons_succ, Nat.reduceAdd, Nat.reduceSub, Nat.reduceLeDiff, Nat.reduceLT, Nat.reduceEqDiff, if_true, if_false, reduceIte, decide_true, decide_false, Bool.false_eq_true, and_self, true_and, and_true, Bool.and_self, Bool.true_and, Bool.and_true, Bool.not_true, Bool.not_false, Int.reduceToNat, Nat.reducePow, Int.cast_ofNat_Int, Int.reduceMul, Int.reduceAdd, Int.reduceSub, Int.reduceNeg, Mo.atI_l0, Mo.atI_l1, Mo.atI_l2, Mo.atI_l3, Mo.atI_l4, Mo.atI_l5, Mo.atI_l6, Mo.atI_l7, Mo.atI_l8, Mo.atI_l9, Mo.atI_l10, Mo.atI_l11, List.length_map, Mo.cut_map, Mo.get_top, Mo.get_top0, Mo.set_top, Mo.set_top0, Mo.take_topk, Mo.take_top, List.take_length, List.take_succ_cons, List.take_zero, List.length_append, Nat.lt_irrefl, Mo.wipeE, show ¬ (M.length + 1 < M.length) from by omega]
/-! ### the law's own -/
theorem e_same (ns : List Int) (hl : ns.length < 100000) (b : Nat) (M : Store) (k : Nat) (hk : M[k]? = some (some (.lst (ns.map .int)))) : F__law_same [.c k, .d (li ns)] b M = .ok (.d (.bl true), M) := by
  have hz := p_isiC hk
  simp (disch := first | omega | (simp only [List.length_map, List.length_cons, List.length_nil, List.length_append, List.length_replicate]; omega)) only [F__law_same, b__law_same, Mo.p_op, Mo.p_op1, Mo.p_op1e, Mo.p_op2, Mo.p_op2e, Mo.p_un, Mo.p_un1, Mo.p_var, Mo.p_var1, Mo.p_c, Mo.p_test, Mo.p_test1, Mo.p_test2, Mo.p_and, Mo.p_andT, Mo.p_andF, Mo.p_or, Mo.p_orT, Mo.p_orF, Mo.p_not, Mo.p_not1, Mo.p_tru, Mo.p_truB, Mo.p_truI, Mo.p_truN, Mo.p_truL, Mo.p_andV, Mo.p_andVT, Mo.p_andVF, Mo.p_orV, Mo.p_orVT, Mo.p_orVF, Mo.p_notV, Mo.p_notV1, Mo.p_ife, Mo.p_ifeT, Mo.p_ifeF, Mo.p_ch, Mo.p_ch1, Mo.p_ch2, Mo.p_ch3, Mo.p_ch4, Mo.p_an, Mo.p_ac, Mo.p_ac1, Mo.p_ac1e, Mo.p_ac2, Mo.p_ac2e, Mo.p_lst, Mo.p_lst1, Mo.p_lst2, Mo.p_tup, Mo.p_tup1, Mo.p_tup2, Mo.p_lsc, Mo.p_lsc1, Mo.p_cb, Mo.p_cb1, Mo.p_cb1e, Mo.p_call, Mo.p_call1, Mo.p_call1e, Mo.p_meth, Mo.p_meth1, Mo.p_meth2, Mo.p_meth2e, Mo.p_bm, Mo.p_bm1, Mo.p_bm2, Mo.p_fld, Mo.p_fld1, Mo.p_fld2, Mo.p_frz, Mo.p_frz1, Mo.p_frz2, Mo.p_isi, Mo.p_isiII, Mo.p_isiBI, Mo.p_isiLI, Mo.p_isiIB, Mo.p_isiBB, Mo.p_isiLL, Mo.p_isiTT, Mo.p_isiBN, Mo.p_isiBS, Mo.p_isiBL, Mo.p_sl, Mo.p_sl1, Mo.p_sl2, Mo.p_sl3, Mo.p_on, Mo.p_os, Mo.p_os1, Mo.p_mkK, Mo.p_mkK1, Mo.p_mkK2, Mo.p_mkF, Mo.p_mkF1, Mo.p_seq, Mo.p_seqN, Mo.p_seqR, Mo.p_seqB, Mo.p_seqC, Mo.p_seqE, Mo.p_nil, Mo.p_brk, Mo.p_cnt, Mo.p_ret, Mo.p_ret1, Mo.p_ret1e, Mo.p_retN, Mo.p_drop, Mo.p_drop1, Mo.p_drop1e, Mo.p_if, Mo.p_ifT, Mo.p_ifF, Mo.p_ifE, Mo.p_asg, Mo.p_asg1, Mo.p_asg1e, Mo.p_asgM, Mo.p_asgM1, Mo.p_asgM1e, Mo.p_asgM2, Mo.p_gq, Mo.p_gq2, Mo.p_gl0, Mo.p_gl1, Mo.p_gl2, Mo.p_gn, Mo.p_ga, Mo.p_ga1, Mo.p_ga2, Mo.p_aug, Mo.p_aug1, Mo.p_aug2, Mo.p_aug2e, Mo.p_aug3, Mo.p_nxM, Mo.p_fs, Mo.p_fs1, Mo.p_fs1e, Mo.p_fs2, Mo.p_fa, Mo.p_fa1, Mo.p_fa2, Mo.p_fa3, Mo.p_fa3e, Mo.p_fa4, Mo.p_ix, Mo.p_ix1, Mo.p_ix1e, Mo.p_ix2, Mo.p_ix3, Mo.p_sf, Mo.p_sf1, Mo.p_sf2, Mo.p_for, Mo.p_for1, Mo.p_iv, Mo.p_ivL, Mo.p_ivK, Mo.p_ivT, Mo.p_r1, Mo.p_r11, Mo.p_r2, Mo.p_r21, Mo.p_en, Mo.p_en1, Mo.p_zp, Mo.p_zp1, Mo.p_tgn, Mo.p_tgt, Mo.p_gs0, Mo.p_gs1, Mo.p_fl0, Mo.p_fl1, Mo.p_fl2, Mo.p_fl3, Mo.p_fl4, Mo.p_fl5, Mo.p_fl6, Mo.p_fl7, Mo.p_wh, Mo.p_ar, Mo.p_T, Mo.p_T1, Mo.p_T2, Mo.p_T3, Mo.p_fin, Mo.p_K, Mo.p_K1, Mo.p_K2, Mo.p_K3, Mo.p_R, Mo.p_R1, Mo.p_bnd, Mo.q_cat, Mo.q_rep, Mo.q_sub, Mo.q_add, Mo.q_addT, Mo.q_iadd, Mo.q_and, Mo.q_or, Mo.q_xor, Mo.q_lt, Mo.q_le, Mo.q_gt, Mo.q_ge, Mo.q_mod, Mo.q_div, Mo.q_shr, Mo.q_shl, Mo.q_pow, Mo.q_mulLf, Mo.q_mulRf, Mo.q_mulLt, Mo.q_mulRt, Mo.q_neg, Mo.q_eqI, Mo.q_neI, Mo.LIM, Mo.opt_some, Mo.opt_none, Mo.ds?, Mo.mkL, Mo.oIx, Mo.oSl, Mo.oLen, Mo.lenO, Mo.oAbs, Mo.oInt, Mo.oList, Mo.oTupOf, Mo.oIsN, Mo.isN, Mo.rdP, Mo.rdL, Mo.rdT, Mo.clsV, Mo.clsO, Mo.isLc, Mo.mApp, Mo.appO, Mo.mExt, Mo.fldO, Mo.isNo, Mo.stO, Mo.frzD, Mo.frz, Mo.setO, Mo.envOf, List.map_cons, List.map_nil, List.length_cons, List.length_nil, List.replicate_succ, List.replicate_zero, List.cons_append, List.nil_append, List.append_nil, List.append_assoc, List.getElem?_cons_zero, List.getElem?_cons_succ, List.set_cons_zero, List.set_cons_succ, Nat.reduceAdd, Nat.reduceSub, Nat.reduceLeDiff, Nat.reduceLT, Nat.reduceEqDiff, if_true, if_false, reduceIte, decide_true, decide_false, Bool.false_eq_true, and_self, true_and, and_true, Bool.and_self, Bool.true_and, Bool.and_true, Bool.not_true, Bool.not_false, Int.reduceToNat, Nat.reducePow, Int.cast_ofNat_Int, Int.reduceMul, Int.reduceAdd, Int.reduceSub, Int.reduceNeg, Mo.atI_l0, Mo.atI_l1, Mo.atI_l2, Mo.atI_l3, Mo.atI_l4, Mo.atI_l5, Mo.atI_l6, Mo.atI_l7, Mo.atI_l8, Mo.atI_l9, Mo.atI_l10, Mo.atI_l11, List.length_map, Mo.cut_map, Mo.get_top, Mo.get_top0, Mo.set_top, Mo.set_top0, Mo.take_topk, Mo.take_top, List.take_length, List.take_succ_cons, List.take_zero, List.length_append, Nat.lt_irrefl, Mo.wipeE, hz, hk]
  obtain ⟨env', M', e, hM, x2, hE⟩ := forL_ok (g := (Tg.n 2).g) (s := _law_same_l3) (b := M.length) (fun i env M' => M' = M ∧ ∃ x2, env = [some (.c k), some (.d (li ns)), x2])
    (rng1 0 (ns.length : Int).toNat) 0 (env := [some (.c k), some (.d (li ns)), none]) (M := M) ⟨rfl, _, rfl⟩ (by
      intro i x env M' hx ⟨hM, x2, hE⟩
      subst hM; subst hE
      obtain ⟨hi, rfl⟩ := rng_at hx
      have ha := atI_ints (ns := ns) (i := 0 + (i : Int)) (by omega) (by omega)
      have he := fun M => e_isint (ns.getD (0 + (i : Int)).toNat 0) M'.length M
      refine ⟨_, _, _, rfl, ?_, rfl, some (.d (.int (0 + (i : Int)))), rfl⟩
      simp (disch := first | omega | (simp only [List.length_map, List.length_cons, List.length_nil, List.length_append, List.length_replicate]; omega)) only [_law_same_l3, Mo.p_op, Mo.p_op1, Mo.p_op1e, Mo.p_op2, Mo.p_op2e, Mo.p_un, Mo.p_un1, Mo.p_var, Mo.p_var1, Mo.p_c, Mo.p_test, Mo.p_test1, Mo.p_test2, Mo.p_and, Mo.p_andT, Mo.p_andF, Mo.p_or, Mo.p_orT, Mo.p_orF, Mo.p_not, Mo.p_not1, Mo.p_tru, Mo.p_truB, Mo.p_truI, Mo.p_truN, Mo.p_truL, Mo.p_andV, Mo.p_andVT, Mo.p_andVF, Mo.p_orV, Mo.p_orVT, Mo.p_orVF, Mo.p_notV, Mo.p_notV1, Mo.p_ife, Mo.p_ifeT, Mo.p_ifeF, Mo.p_ch, Mo.p_ch1, Mo.p_ch2, Mo.p_ch3, Mo.p_ch4, Mo.p_an, Mo.p_ac, Mo.p_ac1, Mo.p_ac1e, Mo.p_ac2, Mo.p_ac2e, Mo.p_lst, Mo.p_lst1, Mo.p_lst2, Mo.p_tup, Mo.p_tup1, Mo.p_tup2, Mo.p_lsc, Mo.p_lsc1, Mo.p_cb, Mo.p_cb1, Mo.p_cb1e, Mo.p_call, Mo.p_call1, Mo.p_call1e, Mo.p_meth, Mo.p_meth1, Mo.p_meth2, Mo.p_meth2e, Mo.p_bm, Mo.p_bm1, Mo.p_bm2, Mo.p_fld, Mo.p_fld1, Mo.p_fld2, Mo.p_frz, Mo.p_frz1, Mo.p_frz2, Mo.p_isi, Mo.p_isiII, Mo.p_isiBI, Mo.p_isiLI, Mo.p_isiIB, Mo.p_isiBB, Mo.p_isiLL, Mo.p_isiTT, Mo.p_isiBN, Mo.p_isiBS, Mo.p_isiBL, Mo.p_sl, Mo.p_sl1, Mo.p_sl2, Mo.p_sl3, Mo.p_on, Mo.p_os, Mo.p_os1, Mo.p_mkK, Mo.p_mkK1, Mo.p_mkK2, Mo.p_mkF, Mo.p_mkF1, Mo.p_seq, Mo.p_seqN, Mo.p_seqR, Mo.p_seqB, Mo.p_seqC, Mo.p_seqE, Mo.p_nil, Mo.p_brk, Mo.p_cnt, Mo.p_ret, Mo.p_ret1, Mo.p_ret1e, Mo.p_retN, Mo.p_drop, Mo.p_drop1, Mo.p_drop1e, Mo.p_if, Mo.p_ifT, Mo.p_ifF, Mo.p_ifE, Mo.p_asg, Mo.p_asg1, Mo.p_asg1e, Mo.p_asgM, Mo.p_asgM1, Mo.p_asgM1e, Mo.p_asgM2, Mo.p_gq, Mo.p_gq2, Mo.p_gl0, Mo.p_gl1, Mo.p_gl2, Mo.p_gn, Mo.p_ga, Mo.p_ga1, Mo.p_ga2, Mo.p_aug, Mo.p_aug1, Mo.p_aug2, Mo.p_aug2e, Mo.p_aug3, Mo.p_nxM, Mo.p_fs, Mo.p_fs1, Mo.p_fs1e, Mo.p_fs2, Mo.p_fa, Mo.p_fa1, Mo.p_fa2, Mo.p_fa3, Mo.p_fa3e, Mo.p_fa4, Mo.p_ix, Mo.p_ix1, Mo.p_ix1e, Mo.p_ix2, Mo.p_ix3, Mo.p_sf, Mo.p_sf1, Mo.p_sf2, Mo.p_for, Mo.p_for1, Mo.p_iv, Mo.p_ivL, Mo.p_ivK, Mo.p_ivT, Mo.p_r1, Mo.p_r11, Mo.p_r2, Mo.p_r21, Mo.p_en, Mo.p_en1, Mo.p_zp, Mo.p_zp1, Mo.p_tgn, Mo.p_tgt, Mo.p_gs0, Mo.p_gs1, Mo.p_fl0, Mo.p_fl1, Mo.p_fl2, Mo.p_fl3, Mo.p_fl4, Mo.p_fl5, Mo.p_fl6, Mo.p_fl7, Mo.p_wh, Mo.p_ar, Mo.p_T, Mo.p_T1, Mo.p_T2, Mo.p_T3, Mo.p_fin, Mo.p_K, Mo.p_K1, Mo.p_K2, Mo.p_K3, Mo.p_R, Mo.p_R1, Mo.p_bnd, Mo.q_cat, Mo.q_rep, Mo.q_sub, Mo.q_add, Mo.q_addT, Mo.q_iadd, Mo.q_and, Mo.q_or, Mo.q_xor, Mo.q_lt, Mo.q_le, Mo.q_gt, Mo.q_ge, Mo.q_mod, Mo.q_div, Mo.q_shr, Mo.q_shl, Mo.q_pow, Mo.q_mulLf, Mo.q_mulRf, Mo.q_mulLt, Mo.q_mulRt, Mo.q_neg, Mo.q_eqI, Mo.q_neI, Mo.LIM, Mo.opt_some, Mo.opt_none, Mo.ds?, Mo.mkL, Mo.oIx, Mo.oSl, Mo.oLen, Mo.lenO, Mo.oAbs, Mo.oInt, Mo.oList, Mo.oTupOf, Mo.oIsN, Mo.isN, Mo.rdP, Mo.rdL, Mo.rdT, Mo.clsV, Mo.clsO, Mo.isLc, Mo.mApp, Mo.appO, Mo.mExt, Mo.fldO, Mo.isNo, Mo.stO, Mo.frzD, Mo.frz, Mo.setO, Mo.envOf, List.map_cons, List.map_nil, List.length_cons, List.length_nil, List.replicate_succ, List.replicate_zero, List.cons_append, List.nil_append, List.append_nil, List.append_assoc, List.getElem?_cons_zero, List.getElem?_cons_succ, List.set_cons_zero, List.set_cons_succ, Nat.reduceAdd, Nat.reduceSub, Nat.reduceLeDiff, Nat.reduceLT, Nat.reduceEqDiff, if_true, if_false, reduceIte, decide_true, decide_false, Bool.false_eq_true, and_self, true_and, and_true, Bool.and_self, Bool.true_and, Bool.and_true, Bool.not_true, Bool.not_false, Int.reduceToNat, Nat.reducePow, Int.cast_ofNat_Int, Int.reduceMul, Int.reduceAdd, Int.reduceSub, Int.reduceNeg, Mo.atI_l0, Mo.atI_l1, Mo.atI_l2, Mo.atI_l3, Mo.atI_l4, Mo.atI_l5, Mo.atI_l6, Mo.atI_l7, Mo.atI_l8, Mo.atI_l9, Mo.atI_l10, Mo.atI_l11, List.length_map, Mo.cut_map, Mo.get_top, Mo.get_top0, Mo.set_top, Mo.set_top0, Mo.take_topk, Mo.take_top, List.take_length, List.take_succ_cons, List.take_zero, List.length_append, Nat.lt_irrefl, Mo.wipeE, hk, ha, he])
  subst hM; subst hE
  rw [e]
  simp (disch := first | omega | (simp only [List.length_map, List.length_cons, List.length_nil, List.length_append, List.length_replicate]; omega)) only [Mo.p_op, Mo.p_op1, Mo.p_op1e, Mo.p_op2, Mo.p_op2e, Mo.p_un, Mo.p_un1, Mo.p_var, Mo.p_var1, Mo.p_c, Mo.p_test, Mo.p_test1, Mo.p_test2, Mo.p_and, Mo.p_andT, Mo.p_andF, Mo.p_or, Mo.p_orT, Mo.p_orF, Mo.p_not, Mo.p_not1, Mo.p_tru, Mo.p_truB, Mo.p_truI, Mo.p_truN, Mo.p_truL, Mo.p_andV, Mo.p_andVT, Mo.p_andVF, Mo.p_orV, Mo.p_orVT, Mo.p_orVF, Mo.p_notV, Mo.p_notV1, Mo.p_ife, Mo.p_ifeT, Mo.p_ifeF, Mo.p_ch, Mo.p_ch1, Mo.p_ch2, Mo.p_ch3, Mo.p_ch4, Mo.p_an, Mo.p_ac, Mo.p_ac1, Mo.p_ac1e, Mo.p_ac2, Mo.p_ac2e, Mo.p_lst, Mo.p_lst1, Mo.p_lst2, Mo.p_tup, Mo.p_tup1, Mo.p_tup2, Mo.p_lsc, Mo.p_lsc1, Mo.p_cb, Mo.p_cb1, Mo.p_cb1e, Mo.p_call, Mo.p_call1, Mo.p_call1e, Mo.p_meth, Mo.p_meth1, Mo.p_meth2, Mo.p_meth2e, Mo.p_bm, Mo.p_bm1, Mo.p_bm2, Mo.p_fld, Mo.p_fld1, Mo.p_fld2, Mo.p_frz, Mo.p_frz1, Mo.p_frz2, Mo.p_isi, Mo.p_isiII, Mo.p_isiBI, Mo.p_isiLI, Mo.p_isiIB, Mo.p_isiBB, Mo.p_isiLL, Mo.p_isiTT, Mo.p_isiBN, Mo.p_isiBS, Mo.p_isiBL, Mo.p_sl, Mo.p_sl1, Mo.p_sl2, Mo.p_sl3, Mo.p_on, Mo.p_os, Mo.p_os1, Mo.p_mkK, Mo.p_mkK1, Mo.p_mkK2, Mo.p_mkF, Mo.p_mkF1, Mo.p_seq, Mo.p_seqN, Mo.p_seqR, Mo.p_seqB, Mo.p_seqC, Mo.p_seqE, Mo.p_nil, Mo.p_brk, Mo.p_cnt, Mo.p_ret, Mo.p_ret1, Mo.p_ret1e, Mo.p_retN, Mo.p_drop, Mo.p_drop1, Mo.p_drop1e, Mo.p_if, Mo.p_ifT, Mo.p_ifF, Mo.p_ifE, Mo.p_asg, Mo.p_asg1, Mo.p_asg1e, Mo.p_asgM, Mo.p_asgM1, Mo.p_asgM1e, Mo.p_asgM2, Mo.p_gq, Mo.p_gq2, Mo.p_gl0, Mo.p_gl1, Mo.p_gl2, Mo.p_gn, Mo.p_ga, Mo.p_ga1, Mo.p_ga2, Mo.p_aug, Mo.p_aug1, Mo.p_aug2, Mo.p_aug2e, Mo.p_aug3, Mo.p_nxM, Mo.p_fs, Mo.p_fs1, Mo.p_fs1e, Mo.p_fs2, Mo.p_fa, Mo.p_fa1, Mo.p_fa2, Mo.p_fa3, Mo.p_fa3e, Mo.p_fa4, Mo.p_ix, Mo.p_ix1, Mo.p_ix1e, Mo.p_ix2, Mo.p_ix3, Mo.p_sf, Mo.p_sf1, Mo.p_sf2, Mo.p_for, Mo.p_for1, Mo.p_iv, Mo.p_ivL, Mo.p_ivK, Mo.p_ivT, Mo.p_r1, Mo.p_r11, Mo.p_r2, Mo.p_r21, Mo.p_en, Mo.p_en1, Mo.p_zp, Mo.p_zp1, Mo.p_tgn, Mo.p_tgt, Mo.p_gs0, Mo.p_gs1, Mo.p_fl0, Mo.p_fl1, Mo.p_fl2, Mo.p_fl3, Mo.p_fl4, Mo.p_fl5, Mo.p_fl6, Mo.p_fl7, Mo.p_wh, Mo.p_ar, Mo.p_T, Mo.p_T1, Mo.p_T2, Mo.p_T3, Mo.p_fin, Mo.p_K, Mo.p_K1, Mo.p_K2, Mo.p_K3, Mo.p_R, Mo.p_R1, Mo.p_bnd, Mo.q_cat, Mo.q_rep, Mo.q_sub, Mo.q_add, Mo.q_addT, Mo.q_iadd, Mo.q_and, Mo.q_or, Mo.q_xor, Mo.q_lt, Mo.q_le, Mo.q_gt, Mo.q_ge, Mo.q_mod, Mo.q_div, Mo.q_shr, Mo.q_shl, Mo.q_pow, Mo.q_mulLf, Mo.q_mulRf, Mo.q_mulLt, Mo.q_mulRt, Mo.q_neg, Mo.q_eqI, Mo.q_neI, Mo.LIM, Mo.opt_some, Mo.opt_none, Mo.ds?, Mo.mkL, Mo.oIx, Mo.oSl, Mo.oLen, Mo.lenO, Mo.oAbs, Mo.oInt, Mo.oList, Mo.oTupOf, Mo.oIsN, Mo.isN, Mo.rdP, Mo.rdL, Mo.rdT, Mo.clsV, Mo.clsO, Mo.isLc, Mo.mApp, Mo.appO, Mo.mExt, Mo.fldO, Mo.isNo, Mo.stO, Mo.frzD, Mo.frz, Mo.setO, Mo.envOf, List.map_cons, List.map_nil, List.length_cons, List.length_nil, List.replicate_succ, List.replicate_zero, List.cons_append, List.nil_append, List.append_nil, List.append_assoc, List.getElem?_cons_zero, List.getElem?_cons_succ, List.set_cons_zero, List.set_cons_succ, Nat.reduceAdd, Nat.reduceSub, Nat.reduceLeDiff, Nat.reduceLT, Nat.reduceEqDiff, if_true, if_false, reduceIte, decide_true, decide_false, Bool.false_eq_true, and_self, true_and, and_true, Bool.and_self, Bool.true_and, Bool.and_true, Bool.not_true, Bool.not_false, Int.reduceToNat, Nat.reducePow, Int.cast_ofNat_Int, Int.reduceMul, Int.reduceAdd, Int.reduceSub, Int.reduceNeg, Mo.atI_l0, Mo.atI_l1, Mo.atI_l2, Mo.atI_l3, Mo.atI_l4, Mo.atI_l5, Mo.atI_l6, Mo.atI_l7, Mo.atI_l8, Mo.atI_l9, Mo.atI_l10, Mo.atI_l11, List.length_map, Mo.cut_map, Mo.get_top, Mo.get_top0, Mo.set_top, Mo.set_top0, Mo.take_topk, Mo.take_top, List.take_length, List.take_succ_cons, List.take_zero, List.length_append, Nat.lt_irrefl, Mo.wipeE]
def Dr (ns : List Int) (bound : Int) : Prop := ∀ x ∈ ns, 0 ≤ x ∧ x < bound
theorem Dr.snoc {ns : List Int} {bound v : Int} (h : Dr ns bound) (h0 : 0 ≤ v ∧ v < bound) : Dr (ns ++ [v]) bound := fun x hx => by
  rcases (List.mem_append).mp hx with q | q
  · exact h x q
  · rw [List.mem_singleton.mp q]; exact h0
theorem e_draw (c many bound : Int) (hm : 0 ≤ many ∧ many < 100000) (hbd : 0 < bound ∧ bound < 1073741824) (b : Nat) (M : Store) : ∃ ns, ns.length = many.toNat ∧ Dr ns bound ∧ F__law_draw [.d (.int c), .d (.int many), .d (.int bound)] b M = .ok (.d (li ns), M) := by
  by_cases h : (10 : Int) ^ 18 ≤ c
  · obtain ⟨env', M', e, c', ns, x4, hE, hM, hl, hd⟩ := forL_ok (g := (Tg.n 4).g) (s := _law_draw_l3) (b := M.length) (fun k env M' => ∃ c' ns x4, env = [some (.d (.int c')), some (.d (.int many)), some (.d (.int bound)), some (.c M.length), x4, none, none] ∧ M' = M ++ [some (.lst (ns.map .int))] ∧ ns.length = k ∧ Dr ns bound)
      (rng1 0 many.toNat) 0 (env := [some (.d (.int c)), some (.d (.int many)), some (.d (.int bound)), some (.c M.length), none, none, none]) (M := M ++ [some (.lst [])]) ⟨_, [], _, rfl, rfl, rfl, fun _ h => (nomatch h)⟩ (by
        intro i x env M' hx ⟨c', ns, x4, hE, hM, hl, hd⟩
        subst hM; subst hE
        obtain ⟨hi, rfl⟩ := rng_at hx
        have hll : ns.length < 16000000 := by omega
        refine ⟨_, [some (.d (.int (c' / bound))), some (.d (.int many)), some (.d (.int bound)), some (.c M.length), some (.d (.int (0 + (i : Int)))), none, none], M ++ [some (.lst ((ns ++ [c' % bound]).map .int))], rfl, ?_, _, _, _, rfl, rfl, by rw [List.length_append]; simp; omega, hd.snoc ⟨Int.emod_nonneg _ (by omega), Int.emod_lt_of_pos _ hbd.1⟩⟩
        simp (disch := first | omega | (simp only [List.length_map, List.length_cons, List.length_nil, List.length_append, List.length_replicate]; omega)) only [_law_draw_l3, Mo.p_op, Mo.p_op1, Mo.p_op1e, Mo.p_op2, Mo.p_op2e, Mo.p_un, Mo.p_un1, Mo.p_var, Mo.p_var1, Mo.p_c, Mo.p_test, Mo.p_test1, Mo.p_test2, Mo.p_and, Mo.p_andT, Mo.p_andF, Mo.p_or, Mo.p_orT, Mo.p_orF, Mo.p_not, Mo.p_not1, Mo.p_tru, Mo.p_truB, Mo.p_truI, Mo.p_truN, Mo.p_truL, Mo.p_andV, Mo.p_andVT, Mo.p_andVF, Mo.p_orV, Mo.p_orVT, Mo.p_orVF, Mo.p_notV, Mo.p_notV1, Mo.p_ife, Mo.p_ifeT, Mo.p_ifeF, Mo.p_ch, Mo.p_ch1, Mo.p_ch2, Mo.p_ch3, Mo.p_ch4, Mo.p_an, Mo.p_ac, Mo.p_ac1, Mo.p_ac1e, Mo.p_ac2, Mo.p_ac2e, Mo.p_lst, Mo.p_lst1, Mo.p_lst2, Mo.p_tup, Mo.p_tup1, Mo.p_tup2, Mo.p_lsc, Mo.p_lsc1, Mo.p_cb, Mo.p_cb1, Mo.p_cb1e, Mo.p_call, Mo.p_call1, Mo.p_call1e, Mo.p_meth, Mo.p_meth1, Mo.p_meth2, Mo.p_meth2e, Mo.p_bm, Mo.p_bm1, Mo.p_bm2, Mo.p_fld, Mo.p_fld1, Mo.p_fld2, Mo.p_frz, Mo.p_frz1, Mo.p_frz2, Mo.p_isi, Mo.p_isiII, Mo.p_isiBI, Mo.p_isiLI, Mo.p_isiIB, Mo.p_isiBB, Mo.p_isiLL, Mo.p_isiTT, Mo.p_isiBN, Mo.p_isiBS, Mo.p_isiBL, Mo.p_sl, Mo.p_sl1, Mo.p_sl2, Mo.p_sl3, Mo.p_on, Mo.p_os, Mo.p_os1, Mo.p_mkK, Mo.p_mkK1, Mo.p_mkK2, Mo.p_mkF, Mo.p_mkF1, Mo.p_seq, Mo.p_seqN, Mo.p_seqR, Mo.p_seqB, Mo.p_seqC, Mo.p_seqE, Mo.p_nil, Mo.p_brk, Mo.p_cnt, Mo.p_ret, Mo.p_ret1, Mo.p_ret1e, Mo.p_retN, Mo.p_drop, Mo.p_drop1, Mo.p_drop1e, Mo.p_if, Mo.p_ifT, Mo.p_ifF, Mo.p_ifE, Mo.p_asg, Mo.p_asg1, Mo.p_asg1e, Mo.p_asgM, Mo.p_asgM1, Mo.p_asgM1e, Mo.p_asgM2, Mo.p_gq, Mo.p_gq2, Mo.p_gl0, Mo.p_gl1, Mo.p_gl2, Mo.p_gn, Mo.p_ga, Mo.p_ga1, Mo.p_ga2, Mo.p_aug, Mo.p_aug1, Mo.p_aug2, Mo.p_aug2e, Mo.p_aug3, Mo.p_nxM, Mo.p_fs, Mo.p_fs1, Mo.p_fs1e, Mo.p_fs2, Mo.p_fa, Mo.p_fa1, Mo.p_fa2, Mo.p_fa3, Mo.p_fa3e, Mo.p_fa4, Mo.p_ix, Mo.p_ix1, Mo.p_ix1e, Mo.p_ix2, Mo.p_ix3, Mo.p_sf, Mo.p_sf1, Mo.p_sf2, Mo.p_for, Mo.p_for1, Mo.p_iv, Mo.p_ivL, Mo.p_ivK, Mo.p_ivT, Mo.p_r1, Mo.p_r11, Mo.p_r2, Mo.p_r21, Mo.p_en, Mo.p_en1, Mo.p_zp, Mo.p_zp1, Mo.p_tgn, Mo.p_tgt, Mo.p_gs0, Mo.p_gs1, Mo.p_fl0, Mo.p_fl1, Mo.p_fl2, Mo.p_fl3, Mo.p_fl4, Mo.p_fl5, Mo.p_fl6, Mo.p_fl7, Mo.p_wh, Mo.p_ar, Mo.p_T, Mo.p_T1, Mo.p_T2, Mo.p_T3, Mo.p_fin, Mo.p_K, Mo.p_K1, Mo.p_K2, Mo.p_K3, Mo.p_R, Mo.p_R1, Mo.p_bnd, Mo.q_cat, Mo.q_rep, Mo.q_sub, Mo.q_add, Mo.q_addT, Mo.q_iadd, Mo.q_and, Mo.q_or, Mo.q_xor, Mo.q_lt, Mo.q_le, Mo.q_gt, Mo.q_ge, Mo.q_mod, Mo.q_div, Mo.q_shr, Mo.q_shl, Mo.q_pow, Mo.q_mulLf, Mo.q_mulRf, Mo.q_mulLt, Mo.q_mulRt, Mo.q_neg, Mo.q_eqI, Mo.q_neI, Mo.LIM, Mo.opt_some, Mo.opt_none, Mo.ds?, Mo.mkL, Mo.oIx, Mo.oSl, Mo.oLen, Mo.lenO, Mo.oAbs, Mo.oInt, Mo.oList, Mo.oTupOf, Mo.oIsN, Mo.isN, Mo.rdP, Mo.rdL, Mo.rdT, Mo.clsV, Mo.clsO, Mo.isLc, Mo.mApp, Mo.appO, Mo.mExt, Mo.fldO, Mo.isNo, Mo.stO, Mo.frzD, Mo.frz, Mo.setO, Mo.envOf, List.map_cons, List.map_nil, List.length_cons, List.length_nil, List.replicate_succ, List.replicate_zero, List.cons_append, List.nil_append, List.append_nil, List.append_assoc, List.getElem?_cons_zero, List.getElem?_cons_succ, List.set_cons_zero, List.set_cons_succ, Nat.reduceAdd, Nat.reduceSub, Nat.reduceLeDiff, Nat.reduceLT, Nat.reduceEqDiff, if_true, if_false, reduceIte, decide_true, decide_false, Bool.false_eq_true, and_self, true_and, and_true, Bool.and_self, Bool.true_and, Bool.and_true, Bool.not_true, Bool.not_false, Int.reduceToNat, Nat.reducePow, Int.cast_ofNat_Int, Int.reduceMul, Int.reduceAdd, Int.reduceSub, Int.reduceNeg, Mo.atI_l0, Mo.atI_l1, Mo.atI_l2, Mo.atI_l3, Mo.atI_l4, Mo.atI_l5, Mo.atI_l6, Mo.atI_l7, Mo.atI_l8, Mo.atI_l9, Mo.atI_l10, Mo.atI_l11, List.length_map, Mo.cut_map, Mo.get_top, Mo.get_top0, Mo.set_top, Mo.set_top0, Mo.take_topk, Mo.take_top, List.take_length, List.take_succ_cons, List.take_zero, List.length_append, Nat.lt_irrefl, Mo.wipeE, hll, List.map_append])
    refine ⟨ns, by rw [hl, rng_len, Nat.zero_add], hd, ?_⟩
    subst hM; subst hE
    simp (disch := first | omega | (simp only [List.length_map, List.length_cons, List.length_nil, List.length_append, List.length_replicate]; omega)) only [F__law_draw, b__law_draw, Mo.p_op, Mo.p_op1, Mo.p_op1e, Mo.p_op2, Mo.p_op2e, Mo.p_un, Mo.p_un1, Mo.p_var, Mo.p_var1, Mo.p_c, Mo.p_test, Mo.p_test1, Mo.p_test2, Mo.p_and, Mo.p_andT, Mo.p_andF, Mo.p_or, Mo.p_orT, Mo.p_orF, Mo.p_not, Mo.p_not1, Mo.p_tru, Mo.p_truB, Mo.p_truI, Mo.p_truN, Mo.p_truL, Mo.p_andV, Mo.p_andVT, Mo.p_andVF, Mo.p_orV, Mo.p_orVT, Mo.p_orVF, Mo.p_notV, Mo.p_notV1, Mo.p_ife, Mo.p_ifeT, Mo.p_ifeF, Mo.p_ch, Mo.p_ch1, Mo.p_ch2, Mo.p_ch3, Mo.p_ch4, Mo.p_an, Mo.p_ac, Mo.p_ac1, Mo.p_ac1e, Mo.p_ac2, Mo.p_ac2e, Mo.p_lst, Mo.p_lst1, Mo.p_lst2, Mo.p_tup, Mo.p_tup1, Mo.p_tup2, Mo.p_lsc, Mo.p_lsc1, Mo.p_cb, Mo.p_cb1, Mo.p_cb1e, Mo.p_call, Mo.p_call1, Mo.p_call1e, Mo.p_meth, Mo.p_meth1, Mo.p_meth2, Mo.p_meth2e, Mo.p_bm, Mo.p_bm1, Mo.p_bm2, Mo.p_fld, Mo.p_fld1, Mo.p_fld2, Mo.p_frz, Mo.p_frz1, Mo.p_frz2, Mo.p_isi, Mo.p_isiII, Mo.p_isiBI, Mo.p_isiLI, Mo.p_isiIB, Mo.p_isiBB, Mo.p_isiLL, Mo.p_isiTT, Mo.p_isiBN, Mo.p_isiBS, Mo.p_isiBL, Mo.p_sl, Mo.p_sl1, Mo.p_sl2, Mo.p_sl3, Mo.p_on, Mo.p_os, Mo.p_os1, Mo.p_mkK, Mo.p_mkK1, Mo.p_mkK2, Mo.p_mkF, Mo.p_mkF1, Mo.p_seq, Mo.p_seqN, Mo.p_seqR, Mo.p_seqB, Mo.p_seqC, Mo.p_seqE, Mo.p_nil, Mo.p_brk, Mo.p_cnt, Mo.p_ret, Mo.p_ret1, Mo.p_ret1e, Mo.p_retN, Mo.p_drop, Mo.p_drop1, Mo.p_drop1e, Mo.p_if, Mo.p_ifT, Mo.p_ifF, Mo.p_ifE, Mo.p_asg, Mo.p_asg1, Mo.p_asg1e, Mo.p_asgM, Mo.p_asgM1, Mo.p_asgM1e, Mo.p_asgM2, Mo.p_gq, Mo.p_gq2, Mo.p_gl0, Mo.p_gl1, Mo.p_gl2, Mo.p_gn, Mo.p_ga, Mo.p_ga1, Mo.p_ga2, Mo.p_aug, Mo.p_aug1, Mo.p_aug2, Mo.p_aug2e, Mo.p_aug3, Mo.p_nxM, Mo.p_fs, Mo.p_fs1, Mo.p_fs1e, Mo.p_fs2, Mo.p_fa, Mo.p_fa1, Mo.p_fa2, Mo.p_fa3, Mo.p_fa3e, Mo.p_fa4, Mo.p_ix, Mo.p_ix1, Mo.p_ix1e, Mo.p_ix2, Mo.p_ix3, Mo.p_sf, Mo.p_sf1, Mo.p_sf2, Mo.p_for, Mo.p_for1, Mo.p_iv, Mo.p_ivL, Mo.p_ivK, Mo.p_ivT, Mo.p_r1, Mo.p_r11, Mo.p_r2, Mo.p_r21, Mo.p_en, Mo.p_en1, Mo.p_zp, Mo.p_zp1, Mo.p_tgn, Mo.p_tgt, Mo.p_gs0, Mo.p_gs1, Mo.p_fl0, Mo.p_fl1, Mo.p_fl2, Mo.p_fl3, Mo.p_fl4, Mo.p_fl5, Mo.p_fl6, Mo.p_fl7, Mo.p_wh, Mo.p_ar, Mo.p_T, Mo.p_T1, Mo.p_T2, Mo.p_T3, Mo.p_fin, Mo.p_K, Mo.p_K1, Mo.p_K2, Mo.p_K3, Mo.p_R, Mo.p_R1, Mo.p_bnd, Mo.q_cat, Mo.q_rep, Mo.q_sub, Mo.q_add, Mo.q_addT, Mo.q_iadd, Mo.q_and, Mo.q_or, Mo.q_xor, Mo.q_lt, Mo.q_le, Mo.q_gt, Mo.q_ge, Mo.q_mod, Mo.q_div, Mo.q_shr, Mo.q_shl, Mo.q_pow, Mo.q_mulLf, Mo.q_mulRf, Mo.q_mulLt, Mo.q_mulRt, Mo.q_neg, Mo.q_eqI, Mo.q_neI, Mo.LIM, Mo.opt_some, Mo.opt_none, Mo.ds?, Mo.mkL, Mo.oIx, Mo.oSl, Mo.oLen, Mo.lenO, Mo.oAbs, Mo.oInt, Mo.oList, Mo.oTupOf, Mo.oIsN, Mo.isN, Mo.rdP, Mo.rdL, Mo.rdT, Mo.clsV, Mo.clsO, Mo.isLc, Mo.mApp, Mo.appO, Mo.mExt, Mo.fldO, Mo.isNo, Mo.stO, Mo.frzD, Mo.frz, Mo.setO, Mo.envOf, List.map_cons, List.map_nil, List.length_cons, List.length_nil, List.replicate_succ, List.replicate_zero, List.cons_append, List.nil_append, List.append_nil, List.append_assoc, List.getElem?_cons_zero, List.getElem?_cons_succ, List.set_cons_zero, List.set_cons_succ, Nat.reduceAdd, Nat.reduceSub, Nat.reduceLeDiff, Nat.reduceLT, Nat.reduceEqDiff, if_true, if_false, reduceIte, decide_true, decide_false, Bool.false_eq_true, and_self, true_and, and_true, Bool.and_self, Bool.true_and, Bool.and_true, Bool.not_true, Bool.not_false, Int.reduceToNat, Nat.reducePow, Int.cast_ofNat_Int, Int.reduceMul, Int.reduceAdd, Int.reduceSub, Int.reduceNeg, Mo.atI_l0, Mo.atI_l1, Mo.atI_l2, Mo.atI_l3, Mo.atI_l4, Mo.atI_l5, Mo.atI_l6, Mo.atI_l7, Mo.atI_l8, Mo.atI_l9, Mo.atI_l10, Mo.atI_l11, List.length_map, Mo.cut_map, Mo.get_top, Mo.get_top0, Mo.set_top, Mo.set_top0, Mo.take_topk, Mo.take_top, List.take_length, List.take_succ_cons, List.take_zero, List.length_append, Nat.lt_irrefl, Mo.wipeE, h, e]
  · have hs0 : 0 ≤ c % 2147483647 ∧ c % 2147483647 < 2147483647 := by omega
    obtain ⟨env', M', e, sd, ns, x4, x6, hE, hM, hl, hd, hsd⟩ := forL_ok (g := (Tg.n 4).g) (s := _law_draw_l8) (b := M.length) (fun k env M' => ∃ sd ns x4 x6, env = [some (.d (.int c)), some (.d (.int many)), some (.d (.int bound)), some (.c M.length), x4, some (.d (.int sd)), x6] ∧ M' = M ++ [some (.lst (ns.map .int))] ∧ ns.length = k ∧ Dr ns bound ∧ (0 ≤ sd ∧ sd < 2147483647))
      (rng1 0 many.toNat) 0 (env := [some (.d (.int c)), some (.d (.int many)), some (.d (.int bound)), some (.c M.length), none, some (.d (.int (c % 2147483647))), none]) (M := M ++ [some (.lst [])]) ⟨_, [], _, _, rfl, rfl, rfl, fun _ h => (nomatch h), hs0⟩ (by
        intro i x env M' hx ⟨sd, ns, x4, x6, hE, hM, hl, hd, hsd⟩
        subst hM; subst hE
        obtain ⟨hi, rfl⟩ := rng_at hx
        have hll : ns.length < 16000000 := by omega
        have h1 : 0 ≤ (sd * 48271 + 12345 + (0 + (i : Int))) % 2147483647 ∧ (sd * 48271 + 12345 + (0 + (i : Int))) % 2147483647 < 2147483647 := by omega
        refine ⟨_, [some (.d (.int c)), some (.d (.int many)), some (.d (.int bound)), some (.c M.length), some (.d (.int (0 + (i : Int)))), some (.d (.int ((sd * 48271 + 12345 + (0 + (i : Int))) % 2147483647))), some (.d (.int (((sd * 48271 + 12345 + (0 + (i : Int))) % 2147483647 * 69621 + 977 * (0 + (i : Int))) % 2147483629)))], M ++ [some (.lst ((ns ++ [((sd * 48271 + 12345 + (0 + (i : Int))) % 2147483647 * 69621 + 977 * (0 + (i : Int))) % 2147483629 / 3 % bound]).map .int))], rfl, ?_, _, _, _, _, rfl, rfl, by rw [List.length_append]; simp; omega, hd.snoc ⟨Int.emod_nonneg _ (by omega), Int.emod_lt_of_pos _ hbd.1⟩, h1⟩
        simp (disch := first | omega | (simp only [List.length_map, List.length_cons, List.length_nil, List.length_append, List.length_replicate]; omega)) only [_law_draw_l8, Mo.p_op, Mo.p_op1, Mo.p_op1e, Mo.p_op2, Mo.p_op2e, Mo.p_un, Mo.p_un1, Mo.p_var, Mo.p_var1, Mo.p_c, Mo.p_test, Mo.p_test1, Mo.p_test2, Mo.p_and, Mo.p_andT, Mo.p_andF, Mo.p_or, Mo.p_orT, Mo.p_orF, Mo.p_not, Mo.p_not1, Mo.p_tru, Mo.p_truB, Mo.p_truI, Mo.p_truN, Mo.p_truL, Mo.p_andV, Mo.p_andVT, Mo.p_andVF, Mo.p_orV, Mo.p_orVT, Mo.p_orVF, Mo.p_notV, Mo.p_notV1, Mo.p_ife, Mo.p_ifeT, Mo.p_ifeF, Mo.p_ch, Mo.p_ch1, Mo.p_ch2, Mo.p_ch3, Mo.p_ch4, Mo.p_an, Mo.p_ac, Mo.p_ac1, Mo.p_ac1e, Mo.p_ac2, Mo.p_ac2e, Mo.p_lst, Mo.p_lst1, Mo.p_lst2, Mo.p_tup, Mo.p_tup1, Mo.p_tup2, Mo.p_lsc, Mo.p_lsc1, Mo.p_cb, Mo.p_cb1, Mo.p_cb1e, Mo.p_call, Mo.p_call1, Mo.p_call1e, Mo.p_meth, Mo.p_meth1, Mo.p_meth2, Mo.p_meth2e, Mo.p_bm, Mo.p_bm1, Mo.p_bm2, Mo.p_fld, Mo.p_fld1, Mo.p_fld2, Mo.p_frz, Mo.p_frz1, Mo.p_frz2, Mo.p_isi, Mo.p_isiII, Mo.p_isiBI, Mo.p_isiLI, Mo.p_isiIB, Mo.p_isiBB, Mo.p_isiLL, Mo.p_isiTT, Mo.p_isiBN, Mo.p_isiBS, Mo.p_isiBL, Mo.p_sl, Mo.p_sl1, Mo.p_sl2, Mo.p_sl3, Mo.p_on, Mo.p_os, Mo.p_os1, Mo.p_mkK, Mo.p_mkK1, Mo.p_mkK2, Mo.p_mkF, Mo.p_mkF1, Mo.p_seq, Mo.p_seqN, Mo.p_seqR, Mo.p_seqB, Mo.p_seqC, Mo.p_seqE, Mo.p_nil, Mo.p_brk, Mo.p_cnt, Mo.p_ret, Mo.p_ret1, Mo.p_ret1e, Mo.p_retN, Mo.p_drop, Mo.p_drop1, Mo.p_drop1e, Mo.p_if, Mo.p_ifT, Mo.p_ifF, Mo.p_ifE, Mo.p_asg, Mo.p_asg1, Mo.p_asg1e, Mo.p_asgM, Mo.p_asgM1, Mo.p_asgM1e, Mo.p_asgM2, Mo.p_gq, Mo.p_gq2, Mo.p_gl0, Mo.p_gl1, Mo.p_gl2, Mo.p_gn, Mo.p_ga, Mo.p_ga1, Mo.p_ga2, Mo.p_aug, Mo.p_aug1, Mo.p_aug2, Mo.p_aug2e, Mo.p_aug3, Mo.p_nxM, Mo.p_fs, Mo.p_fs1, Mo.p_fs1e, Mo.p_fs2, Mo.p_fa, Mo.p_fa1, Mo.p_fa2, Mo.p_fa3, Mo.p_fa3e, Mo.p_fa4, Mo.p_ix, Mo.p_ix1, Mo.p_ix1e, Mo.p_ix2, Mo.p_ix3, Mo.p_sf, Mo.p_sf1, Mo.p_sf2, Mo.p_for, Mo.p_for1, Mo.p_iv, Mo.p_ivL, Mo.p_ivK, Mo.p_ivT, Mo.p_r1, Mo.p_r11, Mo.p_r2, Mo.p_r21, Mo.p_en, Mo.p_en1, Mo.p_zp, Mo.p_zp1, Mo.p_tgn, Mo.p_tgt, Mo.p_gs0, Mo.p_gs1, Mo.p_fl0, Mo.p_fl1, Mo.p_fl2, Mo.p_fl3, Mo.p_fl4, Mo.p_fl5, Mo.p_fl6, Mo.p_fl7, Mo.p_wh, Mo.p_ar, Mo.p_T, Mo.p_T1, Mo.p_T2, Mo.p_T3, Mo.p_fin, Mo.p_K, Mo.p_K1, Mo.p_K2, Mo.p_K3, Mo.p_R, Mo.p_R1, Mo.p_bnd, Mo.q_cat, Mo.q_rep, Mo.q_sub, Mo.q_add, Mo.q_addT, Mo.q_iadd, Mo.q_and, Mo.q_or, Mo.q_xor, Mo.q_lt, Mo.q_le, Mo.q_gt, Mo.q_ge, Mo.q_mod, Mo.q_div, Mo.q_shr, Mo.q_shl, Mo.q_pow, Mo.q_mulLf, Mo.q_mulRf, Mo.q_mulLt, Mo.q_mulRt, Mo.q_neg, Mo.q_eqI, Mo.q_neI, Mo.LIM, Mo.opt_some, Mo.opt_none, Mo.ds?, Mo.mkL, Mo.oIx, Mo.oSl, Mo.oLen, Mo.lenO, Mo.oAbs, Mo.oInt, Mo.oList, Mo.oTupOf, Mo.oIsN, Mo.isN, Mo.rdP, Mo.rdL, Mo.rdT, Mo.clsV, Mo.clsO, Mo.isLc, Mo.mApp, Mo.appO, Mo.mExt, Mo.fldO, Mo.isNo, Mo.stO, Mo.frzD, Mo.frz, Mo.setO, Mo.envOf, List.map_cons, List.map_nil, List.length_cons, List.length_nil, List.replicate_succ, List.replicate_zero, List.cons_append, List.nil_append, List.append_nil, List.append_assoc, List.getElem?_cons_zero, List.getElem?_cons_succ, List.set_cons_zero, List.set_cons_succ, Nat.reduceAdd, Nat.reduceSub, Nat.reduceLeDiff, Nat.reduceLT, Nat.reduceEqDiff, if_true, if_false, reduceIte, decide_true, decide_false, Bool.false_eq_true, and_self, true_and, and_true, Bool.and_self, Bool.true_and, Bool.and_true, Bool.not_true, Bool.not_false, Int.reduceToNat, Nat.reducePow, Int.cast_ofNat_Int, Int.reduceMul, Int.reduceAdd, Int.reduceSub, Int.reduceNeg, Mo.atI_l0, Mo.atI_l1, Mo.atI_l2, Mo.atI_l3, Mo.atI_l4, Mo.atI_l5, Mo.atI_l6, Mo.atI_l7, Mo.atI_l8, Mo.atI_l9, Mo.atI_l10, Mo.atI_l11, List.length_map, Mo.cut_map, Mo.get_top, Mo.get_top0, Mo.set_top, Mo.set_top0, Mo.take_topk, Mo.take_top, List.take_length, List.take_succ_cons, List.take_zero, List.length_append, Nat.lt_irrefl, Mo.wipeE, hll, List.map_append])
    refine ⟨ns, by rw [hl, rng_len, Nat.zero_add], hd, ?_⟩
    subst hM; subst hE
    simp (disch := first | omega | (simp only [List.length_map, List.length_cons, List.length_nil, List.length_append, List.length_replicate]; omega)) only [F__law_draw, b__law_draw, Mo.p_op, Mo.p_op1, Mo.p_op1e, Mo.p_op2, Mo.p_op2e, Mo.p_un, Mo.p_un1, Mo.p_var, Mo.p_var1, Mo.p_c, Mo.p_test, Mo.p_test1, Mo.p_test2, Mo.p_and, Mo.p_andT, Mo.p_andF, Mo.p_or, Mo.p_orT, Mo.p_orF, Mo.p_not, Mo.p_not1, Mo.p_tru, Mo.p_truB, Mo.p_truI, Mo.p_truN, Mo.p_truL, Mo.p_andV, Mo.p_andVT, Mo.p_andVF, Mo.p_orV, Mo.p_orVT, Mo.p_orVF, Mo.p_notV, Mo.p_notV1, Mo.p_ife, Mo.p_ifeT, Mo.p_ifeF, Mo.p_ch, Mo.p_ch1, Mo.p_ch2, Mo.p_ch3, Mo.p_ch4, Mo.p_an, Mo.p_ac, Mo.p_ac1, Mo.p_ac1e, Mo.p_ac2, Mo.p_ac2e, Mo.p_lst, Mo.p_lst1, Mo.p_lst2, Mo.p_tup, Mo.p_tup1, Mo.p_tup2, Mo.p_lsc, Mo.p_lsc1, Mo.p_cb, Mo.p_cb1, Mo.p_cb1e, Mo.p_call, Mo.p_call1, Mo.p_call1e, Mo.p_meth, Mo.p_meth1, Mo.p_meth2, Mo.p_meth2e, Mo.p_bm, Mo.p_bm1, Mo.p_bm2, Mo.p_fld, Mo.p_fld1, Mo.p_fld2, Mo.p_frz, Mo.p_frz1, Mo.p_frz2, Mo.p_isi, Mo.p_isiII, Mo.p_isiBI, Mo.p_isiLI, Mo.p_isiIB, Mo.p_isiBB, Mo.p_isiLL, Mo.p_isiTT, Mo.p_isiBN, Mo.p_isiBS, Mo.p_isiBL, Mo.p_sl, Mo.p_sl1, Mo.p_sl2, Mo.p_sl3, Mo.p_on, Mo.p_os, Mo.p_os1, Mo.p_mkK, Mo.p_mkK1, Mo.p_mkK2, Mo.p_mkF, Mo.p_mkF1, Mo.p_seq, Mo.p_seqN, Mo.p_seqR, Mo.p_seqB, Mo.p_seqC, Mo.p_seqE, Mo.p_nil, Mo.p_brk, Mo.p_cnt, Mo.p_ret, Mo.p_ret1, Mo.p_ret1e, Mo.p_retN, Mo.p_drop, Mo.p_drop1, Mo.p_drop1e, Mo.p_if, Mo.p_ifT, Mo.p_ifF, Mo.p_ifE, Mo.p_asg, Mo.p_asg1, Mo.p_asg1e, Mo.p_asgM, Mo.p_asgM1, Mo.p_asgM1e, Mo.p_asgM2, Mo.p_gq, Mo.p_gq2, Mo.p_gl0, Mo.p_gl1, Mo.p_gl2, Mo.p_gn, Mo.p_ga, Mo.p_ga1, Mo.p_ga2, Mo.p_aug, Mo.p_aug1, Mo.p_aug2, Mo.p_aug2e, Mo.p_aug3, Mo.p_nxM, Mo.p_fs, Mo.p_fs1, Mo.p_fs1e, Mo.p_fs2, Mo.p_fa, Mo.p_fa1, Mo.p_fa2, Mo.p_fa3, Mo.p_fa3e, Mo.p_fa4, Mo.p_ix, Mo.p_ix1, Mo.p_ix1e, Mo.p_ix2, Mo.p_ix3, Mo.p_sf, Mo.p_sf1, Mo.p_sf2, Mo.p_for, Mo.p_for1, Mo.p_iv, Mo.p_ivL, Mo.p_ivK, Mo.p_ivT, Mo.p_r1, Mo.p_r11, Mo.p_r2, Mo.p_r21, Mo.p_en, Mo.p_en1, Mo.p_zp, Mo.p_zp1, Mo.p_tgn, Mo.p_tgt, Mo.p_gs0, Mo.p_gs1, Mo.p_fl0, Mo.p_fl1, Mo.p_fl2, Mo.p_fl3, Mo.p_fl4, Mo.p_fl5, Mo.p_fl6, Mo.p_fl7, Mo.p_wh, Mo.p_ar, Mo.p_T, Mo.p_T1, Mo.p_T2, Mo.p_T3, Mo.p_fin, Mo.p_K, Mo.p_K1, Mo.p_K2, Mo.p_K3, Mo.p_R, Mo.p_R1, Mo.p_bnd, Mo.q_cat, Mo.q_rep, Mo.q_sub, Mo.q_add, Mo.q_addT, Mo.q_iadd, Mo.q_and, Mo.q_or, Mo.q_xor, Mo.q_lt, Mo.q_le, Mo.q_gt, Mo.q_ge, Mo.q_mod, Mo.q_div, Mo.q_shr, Mo.q_shl, Mo.q_pow, Mo.q_mulLf, Mo.q_mulRf, Mo.q_mulLt, Mo.q_mulRt, Mo.q_neg, Mo.q_eqI, Mo.q_neI, Mo.LIM, Mo.opt_some, Mo.opt_none, Mo.ds?, Mo.mkL, Mo.oIx, Mo.oSl, Mo.oLen, Mo.lenO, Mo.oAbs, Mo.oInt, Mo.oList, Mo.oTupOf, Mo.oIsN, Mo.isN, Mo.rdP, Mo.rdL, Mo.rdT, Mo.clsV, Mo.clsO, Mo.isLc, Mo.mApp, Mo.appO, Mo.mExt, Mo.fldO, Mo.isNo, Mo.stO, Mo.frzD, Mo.frz, Mo.setO, Mo.envOf, List.map_cons, List.map_nil, List.length_cons, List.length_nil, List.replicate_succ, List.replicate_zero, List.cons_append, List.nil_append, List.append_nil, List.append_assoc, List.getElem?_cons_zero, List.getElem?_cons_succ, List.set_cons_zero, List.set_cons_succ, Nat.reduceAdd, Nat.reduceSub, Nat.reduceLeDiff, Nat.reduceLT, Nat.reduceEqDiff, if_true, if_false, reduceIte, decide_true, decide_false, Bool.false_eq_true, and_self, true_and, and_true, Bool.and_self, Bool.true_and, Bool.and_true, Bool.not_true, Bool.not_false, Int.reduceToNat, Nat.reducePow, Int.cast_ofNat_Int, Int.reduceMul, Int.reduceAdd, Int.reduceSub, Int.reduceNeg, Mo.atI_l0, Mo.atI_l1, Mo.atI_l2, Mo.atI_l3, Mo.atI_l4, Mo.atI_l5, Mo.atI_l6, Mo.atI_l7, Mo.atI_l8, Mo.atI_l9, Mo.atI_l10, Mo.atI_l11, List.length_map, Mo.cut_map, Mo.get_top, Mo.get_top0, Mo.set_top, Mo.set_top0, Mo.take_topk, Mo.take_top, List.take_length, List.take_succ_cons, List.take_zero, List.length_append, Nat.lt_irrefl, Mo.wipeE, h, e]
end Lk08

namespace Lk08
open PySem PySem.Spec PyProof.Rows L2 Mo
theorem take_set {α : Type} (M : List α) (k : Nat) (x : α) : (M.set k x).take M.length = M.set k x := List.take_of_length_le (by simp)
theorem e_feedC (q : Q4) (hq : R4 q) (t ds : List Int) (n : Int) (ht : By t) (hd : By ds) (hl : t.length + ds.length < 100000) (b : Nat) (M : Store) (k j : Nat) (hne : k ≠ j) (hk : M[k]? = some (mdO q t n)) (hj : M[j]? = some (some (.lst (ds.map .int)))) : F_Md5_feed [.c k, .c j] b M =
    .ok (.d .non, M.set k (mdO (blks q (t ++ ds) ((t ++ ds).length / 64)) ((t ++ ds).drop (64 * ((t ++ ds).length / 64))) (n + ds.length))) := by
  have hB := fun b M => e_blocks q hq (t ++ ds) (by rw [List.length_append]; exact hl) (ht.app hd) b M
  have hkl : k < M.length := (List.getElem?_eq_some_iff.mp hk).1
  have h1 : ∀ x, (M.set k x)[k]? = some x := fun x => List.getElem?_set_self hkl
  have h2 : ∀ x, (M.set k x)[j]? = some (some (.lst (ds.map .int))) := fun x => by rw [List.getElem?_set_ne hne, hj]
  have hq2 : ∀ M : Store, M[j]? = some (some (.lst (ds.map .int))) → oAdd false (.d (.lst (t.map .int))) (.c j) M = some (.d (.lst (t.map .int ++ ds.map .int)), M) := fun M h => by
    show (match rdP M (.d (.lst (t.map .int))), rdP M (.c j) with
      | some xs, some ys => if xs.length + ys.length ≤ LIM then some (mkL false (xs ++ ys) M) else none
      | _, _ => none) = _
    simp only [rdP, h]
    rw [if_pos (by simp only [List.length_map]; show _ ≤ 16000000; omega)]
    rfl
  simp only [li, List.map_append, lq] at hB
  simp (disch := first | omega | (simp only [List.length_map, List.length_cons, List.length_nil, List.length_append, List.length_replicate]; omega)) only [F_Md5_feed, b_Md5_feed, Mo.p_op, Mo.p_op1, Mo.p_op1e, Mo.p_op2, Mo.p_op2e, Mo.p_un, Mo.p_un1, Mo.p_var, Mo.p_var1, Mo.p_c, Mo.p_test, Mo.p_test1, Mo.p_test2, Mo.p_and, Mo.p_andT, Mo.p_andF, Mo.p_or, Mo.p_orT, Mo.p_orF, Mo.p_not, Mo.p_not1, Mo.p_tru, Mo.p_truB, Mo.p_truI, Mo.p_truN, Mo.p_truL, Mo.p_andV, Mo.p_andVT, Mo.p_andVF, Mo.p_orV, Mo.p_orVT, Mo.p_orVF, Mo.p_notV, Mo.p_notV1, Mo.p_ife, Mo.p_ifeT, Mo.p_ifeF, Mo.p_ch, Mo.p_ch1, Mo.p_ch2, Mo.p_ch3, Mo.p_ch4, Mo.p_an, Mo.p_ac, Mo.p_ac1, Mo.p_ac1e, Mo.p_ac2, Mo.p_ac2e, Mo.p_lst, Mo.p_lst1, Mo.p_lst2, Mo.p_tup, Mo.p_tup1, Mo.p_tup2, Mo.p_lsc, Mo.p_lsc1, Mo.p_cb, Mo.p_cb1, Mo.p_cb1e, Mo.p_call, Mo.p_call1, Mo.p_call1e, Mo.p_meth, Mo.p_meth1, Mo.p_meth2, Mo.p_meth2e, Mo.p_bm, Mo.p_bm1, Mo.p_bm2, Mo.p_fld, Mo.p_fld1, Mo.p_fld2, Mo.p_frz, Mo.p_frz1, Mo.p_frz2, Mo.p_isi, Mo.p_isiII, Mo.p_isiBI, Mo.p_isiLI, Mo.p_isiIB, Mo.p_isiBB, Mo.p_isiLL, Mo.p_isiTT, Mo.p_isiBN, Mo.p_isiBS, Mo.p_isiBL, Mo.p_sl, Mo.p_sl1, Mo.p_sl2, Mo.p_sl3, Mo.p_on, Mo.p_os, Mo.p_os1, Mo.p_mkK, Mo.p_mkK1, Mo.p_mkK2, Mo.p_mkF, Mo.p_mkF1, Mo.p_seq, Mo.p_seqN, Mo.p_seqR, Mo.p_seqB, Mo.p_seqC, Mo.p_seqE, Mo.p_nil, Mo.p_brk, Mo.p_cnt, Mo.p_ret, Mo.p_ret1, Mo.p_ret1e, Mo.p_retN, Mo.p_drop, Mo.p_drop1, Mo.p_drop1e, Mo.p_if, Mo.p_ifT, Mo.p_ifF, Mo.p_ifE, Mo.p_asg, Mo.p_asg1, Mo.p_asg1e, Mo.p_asgM, Mo.p_asgM1, Mo.p_asgM1e, Mo.p_asgM2, Mo.p_gq, Mo.p_gq2, Mo.p_gl0, Mo.p_gl1, Mo.p_gl2, Mo.p_gn, Mo.p_ga, Mo.p_ga1, Mo.p_ga2, Mo.p_aug, Mo.p_aug1, Mo.p_aug2, Mo.p_aug2e, Mo.p_aug3, Mo.p_nxM, Mo.p_fs, Mo.p_fs1, Mo.p_fs1e, Mo.p_fs2, Mo.p_fa, Mo.p_fa1, Mo.p_fa2, Mo.p_fa3, Mo.p_fa3e, Mo.p_fa4, Mo.p_ix, Mo.p_ix1, Mo.p_ix1e, Mo.p_ix2, Mo.p_ix3, Mo.p_sf, Mo.p_sf1, Mo.p_sf2, Mo.p_for, Mo.p_for1, Mo.p_iv, Mo.p_ivL, Mo.p_ivK, Mo.p_ivT, Mo.p_r1, Mo.p_r11, Mo.p_r2, Mo.p_r21, Mo.p_en, Mo.p_en1, Mo.p_zp, Mo.p_zp1, Mo.p_tgn, Mo.p_tgt, Mo.p_gs0, Mo.p_gs1, Mo.p_fl0, Mo.p_fl1, Mo.p_fl2, Mo.p_fl3, Mo.p_fl4, Mo.p_fl5, Mo.p_fl6, Mo.p_fl7, Mo.p_wh, Mo.p_ar, Mo.p_T, Mo.p_T1, Mo.p_T2, Mo.p_T3, Mo.p_fin, Mo.p_K, Mo.p_K1, Mo.p_K2, Mo.p_K3, Mo.p_R, Mo.p_R1, Mo.p_bnd, Mo.q_cat, Mo.q_rep, Mo.q_sub, Mo.q_add, Mo.q_addT, Mo.q_iadd, Mo.q_and, Mo.q_or, Mo.q_xor, Mo.q_lt, Mo.q_le, Mo.q_gt, Mo.q_ge, Mo.q_mod, Mo.q_div, Mo.q_shr, Mo.q_shl, Mo.q_pow, Mo.q_mulLf, Mo.q_mulRf, Mo.q_mulLt, Mo.q_mulRt, Mo.q_neg, Mo.q_eqI, Mo.q_neI, Mo.LIM, Mo.opt_some, Mo.opt_none, Mo.ds?, Mo.mkL, Mo.oIx, Mo.oSl, Mo.oLen, Mo.lenO, Mo.oAbs, Mo.oInt, Mo.oList, Mo.oTupOf, Mo.oIsN, Mo.isN, Mo.rdP, Mo.rdL, Mo.rdT, Mo.clsV, Mo.clsO, Mo.isLc, Mo.mApp, Mo.appO, Mo.mExt, Mo.fldO, Mo.isNo, Mo.stO, Mo.frzD, Mo.frz, Mo.setO, Mo.envOf, List.map_cons, List.map_nil, List.length_cons, List.length_nil, List.replicate_succ, List.replicate_zero, List.cons_append, List.nil_append, List.append_nil, List.append_assoc, List.getElem?_cons_zero, List.getElem?_cons_succ, List.set_cons_zero, List.set_cons_succ, Nat.reduceAdd, Nat.reduceSub, Nat.reduceLeDiff, Nat.reduceLT, Nat.reduceEqDiff, if_true, if_false, reduceIte, decide_true, decide_false, Bool.false_eq_true, and_self, true_and, and_true, Bool.and_self, Bool.true_and, Bool.and_true, Bool.not_true, Bool.not_false, Int.reduceToNat, Nat.reducePow, Int.cast_ofNat_Int, Int.reduceMul, Int.reduceAdd, Int.reduceSub, Int.reduceNeg, Mo.atI_l0, Mo.atI_l1, Mo.atI_l2, Mo.atI_l3, Mo.atI_l4, Mo.atI_l5, Mo.atI_l6, Mo.atI_l7, Mo.atI_l8, Mo.atI_l9, Mo.atI_l10, Mo.atI_l11, List.length_map, Mo.cut_map, Mo.get_top, Mo.get_top0, Mo.set_top, Mo.set_top0, Mo.take_topk, Mo.take_top, List.take_length, List.take_succ_cons, List.take_zero, List.length_append, Nat.lt_irrefl, Mo.wipeE, tb_state, tb_tail, tb_length, List.lookup, beq_self_eq_true, li, lq, hB, hk, hj, h1, h2, fun x => hq2 _ (h2 x), List.set_set, take_set]
theorem e_digestK (q : Q4) (hq : R4 q) (t : List Int) (n : Int) (ht : By t) (h0 : 0 ≤ n) (h1 : n < 100000) (hl : t.length < 90000) (b : Nat) (M : Store) (k : Nat) (hk : M[k]? = some (mdO q t n)) : F_Md5_digest [.c k] b M =
    .ok (.c M.length, M ++ [some (.lst ((outB (blks q (t ++ padB n) ((t ++ padB n).length / 64))).map .int))]) := by
  have hp := pad_len n
  have hB := fun b M => e_blocks q hq (t ++ padB n) (by rw [List.length_append]; omega) (ht.app (By.pad _)) b M
  have hy := fun b M => e_bytes (8 * n) 8 (by omega) (by omega) b M
  have hbl := bytes_len (8 * n) 8
  have ho := e_outc (blks q (t ++ padB n) ((t ++ padB n).length / 64))
  have hW : List.map D.int t ++ (D.int 128 :: (List.map D.int (List.replicate ((55 - n) % 64).toNat 0) ++ List.map D.int (bytesI (8 * n) 8))) = List.map D.int (t ++ padB n) := by
    unfold padB
    simp
  simp only [li, lq, List.length_append] at hB hy ho
  simp (disch := first | omega | (simp only [List.length_map, List.length_cons, List.length_nil, List.length_append, List.length_replicate]; omega)) only [F_Md5_digest, b_Md5_digest, Mo.p_op, Mo.p_op1, Mo.p_op1e, Mo.p_op2, Mo.p_op2e, Mo.p_un, Mo.p_un1, Mo.p_var, Mo.p_var1, Mo.p_c, Mo.p_test, Mo.p_test1, Mo.p_test2, Mo.p_and, Mo.p_andT, Mo.p_andF, Mo.p_or, Mo.p_orT, Mo.p_orF, Mo.p_not, Mo.p_not1, Mo.p_tru, Mo.p_truB, Mo.p_truI, Mo.p_truN, Mo.p_truL, Mo.p_andV, Mo.p_andVT, Mo.p_andVF, Mo.p_orV, Mo.p_orVT, Mo.p_orVF, Mo.p_notV, Mo.p_notV1, Mo.p_ife, Mo.p_ifeT, Mo.p_ifeF, Mo.p_ch, Mo.p_ch1, Mo.p_ch2, Mo.p_ch3, Mo.p_ch4, Mo.p_an, Mo.p_ac, Mo.p_ac1, Mo.p_ac1e, Mo.p_ac2, Mo.p_ac2e, Mo.p_lst, Mo.p_lst1, Mo.p_lst2, Mo.p_tup, Mo.p_tup1, Mo.p_tup2, Mo.p_lsc, Mo.p_lsc1, Mo.p_cb, Mo.p_cb1, Mo.p_cb1e, Mo.p_call, Mo.p_call1, Mo.p_call1e, Mo.p_meth, Mo.p_meth1, Mo.p_meth2, Mo.p_meth2e, Mo.p_bm, Mo.p_bm1, Mo.p_bm2, Mo.p_fld, Mo.p_fld1, Mo.p_fld2, Mo.p_frz, Mo.p_frz1, Mo.p_frz2, Mo.p_isi, Mo.p_isiII, Mo.p_isiBI, Mo.p_isiLI, Mo.p_isiIB, Mo.p_isiBB, Mo.p_isiLL, Mo.p_isiTT, Mo.p_isiBN, Mo.p_isiBS, Mo.p_isiBL, Mo.p_sl, Mo.p_sl1, Mo.p_sl2, Mo.p_sl3, Mo.p_on, Mo.p_os, Mo.p_os1, Mo.p_mkK, Mo.p_mkK1, Mo.p_mkK2, Mo.p_mkF, Mo.p_mkF1, Mo.p_seq, Mo.p_seqN, Mo.p_seqR, Mo.p_seqB, Mo.p_seqC, Mo.p_seqE, Mo.p_nil, Mo.p_brk, Mo.p_cnt, Mo.p_ret, Mo.p_ret1, Mo.p_ret1e, Mo.p_retN, Mo.p_drop, Mo.p_drop1, Mo.p_drop1e, Mo.p_if, Mo.p_ifT, Mo.p_ifF, Mo.p_ifE, Mo.p_asg, Mo.p_asg1, Mo.p_asg1e, Mo.p_asgM, Mo.p_asgM1, Mo.p_asgM1e, Mo.p_asgM2, Mo.p_gq, Mo.p_gq2, Mo.p_gl0, Mo.p_gl1, Mo.p_gl2, Mo.p_gn, Mo.p_ga, Mo.p_ga1, Mo.p_ga2, Mo.p_aug, Mo.p_aug1, Mo.p_aug2, Mo.p_aug2e, Mo.p_aug3, Mo.p_nxM, Mo.p_fs, Mo.p_fs1, Mo.p_fs1e, Mo.p_fs2, Mo.p_fa, Mo.p_fa1, Mo.p_fa2, Mo.p_fa3, Mo.p_fa3e, Mo.p_fa4, Mo.p_ix, Mo.p_ix1, Mo.p_ix1e, Mo.p_ix2, Mo.p_ix3, Mo.p_sf, Mo.p_sf1, Mo.p_sf2, Mo.p_for, Mo.p_for1, Mo.p_iv, Mo.p_ivL, Mo.p_ivK, Mo.p_ivT, Mo.p_r1, Mo.p_r11, Mo.p_r2, Mo.p_r21, Mo.p_en, Mo.p_en1, Mo.p_zp, Mo.p_zp1, Mo.p_tgn, Mo.p_tgt, Mo.p_gs0, Mo.p_gs1, Mo.p_fl0, Mo.p_fl1, Mo.p_fl2, Mo.p_fl3, Mo.p_fl4, Mo.p_fl5, Mo.p_fl6, Mo.p_fl7, Mo.p_wh, Mo.p_ar, Mo.p_T, Mo.p_T1, Mo.p_T2, Mo.p_T3, Mo.p_fin, Mo.p_K, Mo.p_K1, Mo.p_K2, Mo.p_K3, Mo.p_R, Mo.p_R1, Mo.p_bnd, Mo.q_cat, Mo.q_rep, Mo.q_sub, Mo.q_add, Mo.q_addT, Mo.q_iadd, Mo.q_and, Mo.q_or, Mo.q_xor, Mo.q_lt, Mo.q_le, Mo.q_gt, Mo.q_ge, Mo.q_mod, Mo.q_div, Mo.q_shr, Mo.q_shl, Mo.q_pow, Mo.q_mulLf, Mo.q_mulRf, Mo.q_mulLt, Mo.q_mulRt, Mo.q_neg, Mo.q_eqI, Mo.q_neI, Mo.LIM, Mo.opt_some, Mo.opt_none, Mo.ds?, Mo.mkL, Mo.oIx, Mo.oSl, Mo.oLen, Mo.lenO, Mo.oAbs, Mo.oInt, Mo.oList, Mo.oTupOf, Mo.oIsN, Mo.isN, Mo.rdP, Mo.rdL, Mo.rdT, Mo.clsV, Mo.clsO, Mo.isLc, Mo.mApp, Mo.appO, Mo.mExt, Mo.fldO, Mo.isNo, Mo.stO, Mo.frzD, Mo.frz, Mo.setO, Mo.envOf, List.map_cons, List.map_nil, List.length_cons, List.length_nil, List.replicate_succ, List.replicate_zero, List.cons_append, List.nil_append, List.append_nil, List.append_assoc, List.getElem?_cons_zero, List.getElem?_cons_succ, List.set_cons_zero, List.set_cons_succ, Nat.reduceAdd, Nat.reduceSub, Nat.reduceLeDiff, Nat.reduceLT, Nat.reduceEqDiff, if_true, if_false, reduceIte, decide_true, decide_false, Bool.false_eq_true, and_self, true_and, and_true, Bool.and_self, Bool.true_and, Bool.and_true, Bool.not_true, Bool.not_false, Int.reduceToNat, Nat.reducePow, Int.cast_ofNat_Int, Int.reduceMul, Int.reduceAdd, Int.reduceSub, Int.reduceNeg, Mo.atI_l0, Mo.atI_l1, Mo.atI_l2, Mo.atI_l3, Mo.atI_l4, Mo.atI_l5, Mo.atI_l6, Mo.atI_l7, Mo.atI_l8, Mo.atI_l9, Mo.atI_l10, Mo.atI_l11, List.length_map, Mo.cut_map, Mo.get_top, Mo.get_top0, Mo.set_top, Mo.set_top0, Mo.take_topk, Mo.take_top, List.take_length, List.take_succ_cons, List.take_zero, List.length_append, Nat.lt_irrefl, Mo.wipeE, tb_state, tb_tail, tb_length, List.lookup, beq_self_eq_true, li, lq, li_rep, hy, hW, hB, ho, hk]
  simp (disch := first | omega | (simp only [List.length_map, List.length_cons, List.length_nil, List.length_append, List.length_replicate]; omega)) only [rtR, Mo.p_op, Mo.p_op1, Mo.p_op1e, Mo.p_op2, Mo.p_op2e, Mo.p_un, Mo.p_un1, Mo.p_var, Mo.p_var1, Mo.p_c, Mo.p_test, Mo.p_test1, Mo.p_test2, Mo.p_and, Mo.p_andT, Mo.p_andF, Mo.p_or, Mo.p_orT, Mo.p_orF, Mo.p_not, Mo.p_not1, Mo.p_tru, Mo.p_truB, Mo.p_truI, Mo.p_truN, Mo.p_truL, Mo.p_andV, Mo.p_andVT, Mo.p_andVF, Mo.p_orV, Mo.p_orVT, Mo.p_orVF, Mo.p_notV, Mo.p_notV1, Mo.p_ife, Mo.p_ifeT, Mo.p_ifeF, Mo.p_ch, Mo.p_ch1, Mo.p_ch2, Mo.p_ch3, Mo.p_ch4, Mo.p_an, Mo.p_ac, Mo.p_ac1, Mo.p_ac1e, Mo.p_ac2, Mo.p_ac2e, Mo.p_lst, Mo.p_lst1, Mo.p_lst2, Mo.p_tup, Mo.p_tup1, Mo.p_tup2, Mo.p_lsc, Mo.p_lsc1, Mo.p_cb, Mo.p_cb1, Mo.p_cb1e, Mo.p_call, Mo.p_call1, Mo.p_call1e, Mo.p_meth, Mo.p_meth1, Mo.p_meth2, Mo.p_meth2e, Mo.p_bm, Mo.p_bm1, Mo.p_bm2, Mo.p_fld, Mo.p_fld1, Mo.p_fld2, Mo.p_frz, Mo.p_frz1, Mo.p_frz2, Mo.p_isi, Mo.p_isiII, Mo.p_isiBI, Mo.p_isiLI, Mo.p_isiIB, Mo.p_isiBB, Mo.p_isiLL, Mo.p_isiTT, Mo.p_isiBN, Mo.p_isiBS, Mo.p_isiBL, Mo.p_sl, Mo.p_sl1, Mo.p_sl2, Mo.p_sl3, Mo.p_on, Mo.p_os, Mo.p_os1, Mo.p_mkK, Mo.p_mkK1, Mo.p_mkK2, Mo.p_mkF, Mo.p_mkF1, Mo.p_seq, Mo.p_seqN, Mo.p_seqR, Mo.p_seqB, Mo.p_seqC, Mo.p_seqE, Mo.p_nil, Mo.p_brk, Mo.p_cnt, Mo.p_ret, Mo.p_ret1, Mo.p_ret1e, Mo.p_retN, Mo.p_drop, Mo.p_drop1, Mo.p_drop1e, Mo.p_if, Mo.p_ifT, Mo.p_ifF, Mo.p_ifE, Mo.p_asg, Mo.p_asg1, Mo.p_asg1e, Mo.p_asgM, Mo.p_asgM1, Mo.p_asgM1e, Mo.p_asgM2, Mo.p_gq, Mo.p_gq2, Mo.p_gl0, Mo.p_gl1, Mo.p_gl2, Mo.p_gn, Mo.p_ga, Mo.p_ga1, Mo.p_ga2, Mo.p_aug, Mo.p_aug1, Mo.p_aug2, Mo.p_aug2e, Mo.p_aug3, Mo.p_nxM, Mo.p_fs, Mo.p_fs1, Mo.p_fs1e, Mo.p_fs2, Mo.p_fa, Mo.p_fa1, Mo.p_fa2, Mo.p_fa3, Mo.p_fa3e, Mo.p_fa4, Mo.p_ix, Mo.p_ix1, Mo.p_ix1e, Mo.p_ix2, Mo.p_ix3, Mo.p_sf, Mo.p_sf1, Mo.p_sf2, Mo.p_for, Mo.p_for1, Mo.p_iv, Mo.p_ivL, Mo.p_ivK, Mo.p_ivT, Mo.p_r1, Mo.p_r11, Mo.p_r2, Mo.p_r21, Mo.p_en, Mo.p_en1, Mo.p_zp, Mo.p_zp1, Mo.p_tgn, Mo.p_tgt, Mo.p_gs0, Mo.p_gs1, Mo.p_fl0, Mo.p_fl1, Mo.p_fl2, Mo.p_fl3, Mo.p_fl4, Mo.p_fl5, Mo.p_fl6, Mo.p_fl7, Mo.p_wh, Mo.p_ar, Mo.p_T, Mo.p_T1, Mo.p_T2, Mo.p_T3, Mo.p_fin, Mo.p_K, Mo.p_K1, Mo.p_K2, Mo.p_K3, Mo.p_R, Mo.p_R1, Mo.p_bnd, Mo.q_cat, Mo.q_rep, Mo.q_sub, Mo.q_add, Mo.q_addT, Mo.q_iadd, Mo.q_and, Mo.q_or, Mo.q_xor, Mo.q_lt, Mo.q_le, Mo.q_gt, Mo.q_ge, Mo.q_mod, Mo.q_div, Mo.q_shr, Mo.q_shl, Mo.q_pow, Mo.q_mulLf, Mo.q_mulRf, Mo.q_mulLt, Mo.q_mulRt, Mo.q_neg, Mo.q_eqI, Mo.q_neI, Mo.LIM, Mo.opt_some, Mo.opt_none, Mo.ds?, Mo.mkL, Mo.oIx, Mo.oSl, Mo.oLen, Mo.lenO, Mo.oAbs, Mo.oInt, Mo.oList, Mo.oTupOf, Mo.oIsN, Mo.isN, Mo.rdP, Mo.rdL, Mo.rdT, Mo.clsV, Mo.clsO, Mo.isLc, Mo.mApp, Mo.appO, Mo.mExt, Mo.fldO, Mo.isNo, Mo.stO, Mo.frzD, Mo.frz, Mo.setO, Mo.envOf, List.map_cons, List.map_nil, List.length_cons, List.length_nil, List.replicate_succ, List.replicate_zero, List.cons_append, List.nil_append, List.append_nil, List.append_assoc, List.getElem?_cons_zero, List.getElem?_cons_succ, List.set_cons_zero, List.set_cons_succ, Nat.reduceAdd, Nat.reduceSub, Nat.reduceLeDiff, Nat.reduceLT, Nat.reduceEqDiff, if_true, if_false, reduceIte, decide_true, decide_false, Bool.false_eq_true, and_self, true_and, and_true, Bool.and_self, Bool.true_and, Bool.and_true, Bool.not_true, Bool.not_false, Int.reduceToNat, Nat.reducePow, Int.cast_ofNat_Int, Int.reduceMul, Int.reduceAdd, Int.reduceSub, Int.reduceNeg, Mo.atI_l0, Mo.atI_l1, Mo.atI_l2, Mo.atI_l3, Mo.atI_l4, Mo.atI_l5, Mo.atI_l6, Mo.atI_l7, Mo.atI_l8, Mo.atI_l9, Mo.atI_l10, Mo.atI_l11, List.length_map, Mo.cut_map, Mo.get_top, Mo.get_top0, Mo.set_top, Mo.set_top0, Mo.take_topk, Mo.take_top, List.take_length, List.take_succ_cons, List.take_zero, List.length_append, Nat.lt_irrefl, Mo.wipeE]
theorem e_sameC (ns : List Int) (hl : ns.length < 100000) (b : Nat) (M : Store) (k j : Nat) (hk : M[k]? = some (some (.lst (ns.map .int)))) (hj : M[j]? = some (some (.lst (ns.map .int)))) : F__law_same [.c k, .c j] b M = .ok (.d (.bl true), M) := by
  have hz := p_isiC hk
  simp (disch := first | omega | (simp only [List.length_map, List.length_cons, List.length_nil, List.length_append, List.length_replicate]; omega)) only [F__law_same, b__law_same, Mo.p_op, Mo.p_op1, Mo.p_op1e, Mo.p_op2, Mo.p_op2e, Mo.p_un, Mo.p_un1, Mo.p_var, Mo.p_var1, Mo.p_c, Mo.p_test, Mo.p_test1, Mo.p_test2, Mo.p_and, Mo.p_andT, Mo.p_andF, Mo.p_or, Mo.p_orT, Mo.p_orF, Mo.p_not, Mo.p_not1, Mo.p_tru, Mo.p_truB, Mo.p_truI, Mo.p_truN, Mo.p_truL, Mo.p_andV, Mo.p_andVT, Mo.p_andVF, Mo.p_orV, Mo.p_orVT, Mo.p_orVF, Mo.p_notV, Mo.p_notV1, Mo.p_ife, Mo.p_ifeT, Mo.p_ifeF, Mo.p_ch, Mo.p_ch1, Mo.p_ch2, Mo.p_ch3, Mo.p_ch4, Mo.p_an, Mo.p_ac, Mo.p_ac1, Mo.p_ac1e, Mo.p_ac2, Mo.p_ac2e, Mo.p_lst, Mo.p_lst1, Mo.p_lst2, Mo.p_tup, Mo.p_tup1, Mo.p_tup2, Mo.p_lsc, Mo.p_lsc1, Mo.p_cb, Mo.p_cb1, Mo.p_cb1e, Mo.p_call, Mo.p_call1, Mo.p_call1e, Mo.p_meth, Mo.p_meth1, Mo.p_meth2, Mo.p_meth2e, Mo.p_bm, Mo.p_bm1, Mo.p_bm2, Mo.p_fld, Mo.p_fld1, Mo.p_fld2, Mo.p_frz, Mo.p_frz1, Mo.p_frz2, Mo.p_isi, Mo.p_isiII, Mo.p_isiBI, Mo.p_isiLI, Mo.p_isiIB, Mo.p_isiBB, Mo.p_isiLL, Mo.p_isiTT, Mo.p_isiBN, Mo.p_isiBS, Mo.p_isiBL, Mo.p_sl, Mo.p_sl1, Mo.p_sl2, Mo.p_sl3, Mo.p_on, Mo.p_os, Mo.p_os1, Mo.p_mkK, Mo.p_mkK1, Mo.p_mkK2, Mo.p_mkF, Mo.p_mkF1, Mo.p_seq, Mo.p_seqN, Mo.p_seqR, Mo.p_seqB, Mo.p_seqC, Mo.p_seqE, Mo.p_nil, Mo.p_brk, Mo.p_cnt, Mo.p_ret, Mo.p_ret1, Mo.p_ret1e, Mo.p_retN, Mo.p_drop, Mo.p_drop1, Mo.p_drop1e, Mo.p_if, Mo.p_ifT, Mo.p_ifF, Mo.p_ifE, Mo.p_asg, Mo.p_asg1, Mo.p_asg1e, Mo.p_asgM, Mo.p_asgM1, Mo.p_asgM1e, Mo.p_asgM2, Mo.p_gq, Mo.p_gq2, Mo.p_gl0, Mo.p_gl1, Mo.p_gl2, Mo.p_gn, Mo.p_ga, Mo.p_ga1, Mo.p_ga2, Mo.p_aug, Mo.p_aug1, Mo.p_aug2, Mo.p_aug2e, Mo.p_aug3, Mo.p_nxM, Mo.p_fs, Mo.p_fs1, Mo.p_fs1e, Mo.p_fs2, Mo.p_fa, Mo.p_fa1, Mo.p_fa2, Mo.p_fa3, Mo.p_fa3e, Mo.p_fa4, Mo.p_ix, Mo.p_ix1, Mo.p_ix1e, Mo.p_ix2, Mo.p_ix3, Mo.p_sf, Mo.p_sf1, Mo.p_sf2, Mo.p_for, Mo.p_for1, Mo.p_iv, Mo.p_ivL, Mo.p_ivK, Mo.p_ivT, Mo.p_r1, Mo.p_r11, Mo.p_r2, Mo.p_r21, Mo.p_en, Mo.p_en1, Mo.p_zp, Mo.p_zp1, Mo.p_tgn, Mo.p_tgt, Mo.p_gs0, Mo.p_gs1, Mo.p_fl0, Mo.p_fl1, Mo.p_fl2, Mo.p_fl3, Mo.p_fl4, Mo.p_fl5, Mo.p_fl6, Mo.p_fl7, Mo.p_wh, Mo.p_ar, Mo.p_T, Mo.p_T1, Mo.p_T2, Mo.p_T3, Mo.p_fin, Mo.p_K, Mo.p_K1, Mo.p_K2, Mo.p_K3, Mo.p_R, Mo.p_R1, Mo.p_bnd, Mo.q_cat, Mo.q_rep, Mo.q_sub, Mo.q_add, Mo.q_addT, Mo.q_iadd, Mo.q_and, Mo.q_or, Mo.q_xor, Mo.q_lt, Mo.q_le, Mo.q_gt, Mo.q_ge, Mo.q_mod, Mo.q_div, Mo.q_shr, Mo.q_shl, Mo.q_pow, Mo.q_mulLf, Mo.q_mulRf, Mo.q_mulLt, Mo.q_mulRt, Mo.q_neg, Mo.q_eqI, Mo.q_neI, Mo.LIM, Mo.opt_some, Mo.opt_none, Mo.ds?, Mo.mkL, Mo.oIx, Mo.oSl, Mo.oLen, Mo.lenO, Mo.oAbs, Mo.oInt, Mo.oList, Mo.oTupOf, Mo.oIsN, Mo.isN, Mo.rdP, Mo.rdL, Mo.rdT, Mo.clsV, Mo.clsO, Mo.isLc, Mo.mApp, Mo.appO, Mo.mExt, Mo.fldO, Mo.isNo, Mo.stO, Mo.frzD, Mo.frz, Mo.setO, Mo.envOf, List.map_cons, List.map_nil, List.length_cons, List.length_nil, List.replicate_succ, List.replicate_zero, List.cons_append, List.nil_append, List.append_nil, List.append_assoc, List.getElem?_cons_zero, List.getElem?_cons_succ, List.set_cons_zero, List.set_cons_succ, Nat.reduceAdd, Nat.reduceSub, Nat.reduceLeDiff, Nat.reduceLT, Nat.reduceEqDiff, if_true, if_false, reduceIte, decide_true, decide_false, Bool.false_eq_true, and_self, true_and, and_true, Bool.and_self, Bool.true_and, Bool.and_true, Bool.not_true, Bool.not_false, Int.reduceToNat, Nat.reducePow, Int.cast_ofNat_Int, Int.reduceMul, Int.reduceAdd, Int.reduceSub, Int.reduceNeg, Mo.atI_l0, Mo.atI_l1, Mo.atI_l2, Mo.atI_l3, Mo.atI_l4, Mo.atI_l5, Mo.atI_l6, Mo.atI_l7, Mo.atI_l8, Mo.atI_l9, Mo.atI_l10, Mo.atI_l11, List.length_map, Mo.cut_map, Mo.get_top, Mo.get_top0, Mo.set_top, Mo.set_top0, Mo.take_topk, Mo.take_top, List.take_length, List.take_succ_cons, List.take_zero, List.length_append, Nat.lt_irrefl, Mo.wipeE, hz, hk, hj]
  obtain ⟨env', M', e, hM, x2, hE⟩ := forL_ok (g := (Tg.n 2).g) (s := _law_same_l3) (b := M.length) (fun i env M' => M' = M ∧ ∃ x2, env = [some (.c k), some (.c j), x2])
    (rng1 0 (ns.length : Int).toNat) 0 (env := [some (.c k), some (.c j), none]) (M := M) ⟨rfl, _, rfl⟩ (by
      intro i x env M' hx ⟨hM, x2, hE⟩
      subst hM; subst hE
      obtain ⟨hi, rfl⟩ := rng_at hx
      have ha := atI_ints (ns := ns) (i := 0 + (i : Int)) (by omega) (by omega)
      have he := fun M => e_isint (ns.getD (0 + (i : Int)).toNat 0) M'.length M
      refine ⟨_, _, _, rfl, ?_, rfl, some (.d (.int (0 + (i : Int)))), rfl⟩
      simp (disch := first | omega | (simp only [List.length_map, List.length_cons, List.length_nil, List.length_append, List.length_replicate]; omega)) only [_law_same_l3, Mo.p_op, Mo.p_op1, Mo.p_op1e, Mo.p_op2, Mo.p_op2e, Mo.p_un, Mo.p_un1, Mo.p_var, Mo.p_var1, Mo.p_c, Mo.p_test, Mo.p_test1, Mo.p_test2, Mo.p_and, Mo.p_andT, Mo.p_andF, Mo.p_or, Mo.p_orT, Mo.p_orF, Mo.p_not, Mo.p_not1, Mo.p_tru, Mo.p_truB, Mo.p_truI, Mo.p_truN, Mo.p_truL, Mo.p_andV, Mo.p_andVT, Mo.p_andVF, Mo.p_orV, Mo.p_orVT, Mo.p_orVF, Mo.p_notV, Mo.p_notV1, Mo.p_ife, Mo.p_ifeT, Mo.p_ifeF, Mo.p_ch, Mo.p_ch1, Mo.p_ch2, Mo.p_ch3, Mo.p_ch4, Mo.p_an, Mo.p_ac, Mo.p_ac1, Mo.p_ac1e, Mo.p_ac2, Mo.p_ac2e, Mo.p_lst, Mo.p_lst1, Mo.p_lst2, Mo.p_tup, Mo.p_tup1, Mo.p_tup2, Mo.p_lsc, Mo.p_lsc1, Mo.p_cb, Mo.p_cb1, Mo.p_cb1e, Mo.p_call, Mo.p_call1, Mo.p_call1e, Mo.p_meth, Mo.p_meth1, Mo.p_meth2, Mo.p_meth2e, Mo.p_bm, Mo.p_bm1, Mo.p_bm2, Mo.p_fld, Mo.p_fld1, Mo.p_fld2, Mo.p_frz, Mo.p_frz1, Mo.p_frz2, Mo.p_isi, Mo.p_isiII, Mo.p_isiBI, Mo.p_isiLI, Mo.p_isiIB, Mo.p_isiBB, Mo.p_isiLL, Mo.p_isiTT, Mo.p_isiBN, Mo.p_isiBS, Mo.p_isiBL, Mo.p_sl, Mo.p_sl1, Mo.p_sl2, Mo.p_sl3, Mo.p_on, Mo.p_os, Mo.p_os1, Mo.p_mkK, Mo.p_mkK1, Mo.p_mkK2, Mo.p_mkF, Mo.p_mkF1, Mo.p_seq, Mo.p_seqN, Mo.p_seqR, Mo.p_seqB, Mo.p_seqC, Mo.p_seqE, Mo.p_nil, Mo.p_brk, Mo.p_cnt, Mo.p_ret, Mo.p_ret1, Mo.p_ret1e, Mo.p_retN, Mo.p_drop, Mo.p_drop1, Mo.p_drop1e, Mo.p_if, Mo.p_ifT, Mo.p_ifF, Mo.p_ifE, Mo.p_asg, Mo.p_asg1, Mo.p_asg1e, Mo.p_asgM, Mo.p_asgM1, Mo.p_asgM1e, Mo.p_asgM2, Mo.p_gq, Mo.p_gq2, Mo.p_gl0, Mo.p_gl1, Mo.p_gl2, Mo.p_gn, Mo.p_ga, Mo.p_ga1, Mo.p_ga2, Mo.p_aug, Mo.p_aug1, Mo.p_aug2, Mo.p_aug2e, Mo.p_aug3, Mo.p_nxM, Mo.p_fs, Mo.p_fs1, Mo.p_fs1e, Mo.p_fs2, Mo.p_fa, Mo.p_fa1, Mo.p_fa2, Mo.p_fa3, Mo.p_fa3e, Mo.p_fa4, Mo.p_ix, Mo.p_ix1, Mo.p_ix1e, Mo.p_ix2, Mo.p_ix3, Mo.p_sf, Mo.p_sf1, Mo.p_sf2, Mo.p_for, Mo.p_for1, Mo.p_iv, Mo.p_ivL, Mo.p_ivK, Mo.p_ivT, Mo.p_r1, Mo.p_r11, Mo.p_r2, Mo.p_r21, Mo.p_en, Mo.p_en1, Mo.p_zp, Mo.p_zp1, Mo.p_tgn, Mo.p_tgt, Mo.p_gs0, Mo.p_gs1, Mo.p_fl0, Mo.p_fl1, Mo.p_fl2, Mo.p_fl3, Mo.p_fl4, Mo.p_fl5, Mo.p_fl6, Mo.p_fl7, Mo.p_wh, Mo.p_ar, Mo.p_T, Mo.p_T1, Mo.p_T2, Mo.p_T3, Mo.p_fin, Mo.p_K, Mo.p_K1, Mo.p_K2, Mo.p_K3, Mo.p_R, Mo.p_R1, Mo.p_bnd, Mo.q_cat, Mo.q_rep, Mo.q_sub, Mo.q_add, Mo.q_addT, Mo.q_iadd, Mo.q_and, Mo.q_or, Mo.q_xor, Mo.q_lt, Mo.q_le, Mo.q_gt, Mo.q_ge, Mo.q_mod, Mo.q_div, Mo.q_shr, Mo.q_shl, Mo.q_pow, Mo.q_mulLf, Mo.q_mulRf, Mo.q_mulLt, Mo.q_mulRt, Mo.q_neg, Mo.q_eqI, Mo.q_neI, Mo.LIM, Mo.opt_some, Mo.opt_none, Mo.ds?, Mo.mkL, Mo.oIx, Mo.oSl, Mo.oLen, Mo.lenO, Mo.oAbs, Mo.oInt, Mo.oList, Mo.oTupOf, Mo.oIsN, Mo.isN, Mo.rdP, Mo.rdL, Mo.rdT, Mo.clsV, Mo.clsO, Mo.isLc, Mo.mApp, Mo.appO, Mo.mExt, Mo.fldO, Mo.isNo, Mo.stO, Mo.frzD, Mo.frz, Mo.setO, Mo.envOf, List.map_cons, List.map_nil, List.length_cons, List.length_nil, List.replicate_succ, List.replicate_zero, List.cons_append, List.nil_append, List.append_nil, List.append_assoc, List.getElem?_cons_zero, List.getElem?_cons_succ, List.set_cons_zero, List.set_cons_succ, Nat.reduceAdd, Nat.reduceSub, Nat.reduceLeDiff, Nat.reduceLT, Nat.reduceEqDiff, if_true, if_false, reduceIte, decide_true, decide_false, Bool.false_eq_true, and_self, true_and, and_true, Bool.and_self, Bool.true_and, Bool.and_true, Bool.not_true, Bool.not_false, Int.reduceToNat, Nat.reducePow, Int.cast_ofNat_Int, Int.reduceMul, Int.reduceAdd, Int.reduceSub, Int.reduceNeg, Mo.atI_l0, Mo.atI_l1, Mo.atI_l2, Mo.atI_l3, Mo.atI_l4, Mo.atI_l5, Mo.atI_l6, Mo.atI_l7, Mo.atI_l8, Mo.atI_l9, Mo.atI_l10, Mo.atI_l11, List.length_map, Mo.cut_map, Mo.get_top, Mo.get_top0, Mo.set_top, Mo.set_top0, Mo.take_topk, Mo.take_top, List.take_length, List.take_succ_cons, List.take_zero, List.length_append, Nat.lt_irrefl, Mo.wipeE, hk, hj, ha, he])
  subst hM; subst hE
  rw [e]
  simp (disch := first | omega | (simp only [List.length_map, List.length_cons, List.length_nil, List.length_append, List.length_replicate]; omega)) only [Mo.p_op, Mo.p_op1, Mo.p_op1e, Mo.p_op2, Mo.p_op2e, Mo.p_un, Mo.p_un1, Mo.p_var, Mo.p_var1, Mo.p_c, Mo.p_test, Mo.p_test1, Mo.p_test2, Mo.p_and, Mo.p_andT, Mo.p_andF, Mo.p_or, Mo.p_orT, Mo.p_orF, Mo.p_not, Mo.p_not1, Mo.p_tru, Mo.p_truB, Mo.p_truI, Mo.p_truN, Mo.p_truL, Mo.p_andV, Mo.p_andVT, Mo.p_andVF, Mo.p_orV, Mo.p_orVT, Mo.p_orVF, Mo.p_notV, Mo.p_notV1, Mo.p_ife, Mo.p_ifeT, Mo.p_ifeF, Mo.p_ch, Mo.p_ch1, Mo.p_ch2, Mo.p_ch3, Mo.p_ch4, Mo.p_an, Mo.p_ac, Mo.p_ac1, Mo.p_ac1e, Mo.p_ac2, Mo.p_ac2e, Mo.p_lst, Mo.p_lst1, Mo.p_lst2, Mo.p_tup, Mo.p_tup1, Mo.p_tup2, Mo.p_lsc, Mo.p_lsc1, Mo.p_cb, Mo.p_cb1, Mo.p_cb1e, Mo.p_call, Mo.p_call1, Mo.p_call1e, Mo.p_meth, Mo.p_meth1, Mo.p_meth2, Mo.p_meth2e, Mo.p_bm, Mo.p_bm1, Mo.p_bm2, Mo.p_fld, Mo.p_fld1, Mo.p_fld2, Mo.p_frz, Mo.p_frz1, Mo.p_frz2, Mo.p_isi, Mo.p_isiII, Mo.p_isiBI, Mo.p_isiLI, Mo.p_isiIB, Mo.p_isiBB, Mo.p_isiLL, Mo.p_isiTT, Mo.p_isiBN, Mo.p_isiBS, Mo.p_isiBL, Mo.p_sl, Mo.p_sl1, Mo.p_sl2, Mo.p_sl3, Mo.p_on, Mo.p_os, Mo.p_os1, Mo.p_mkK, Mo.p_mkK1, Mo.p_mkK2, Mo.p_mkF, Mo.p_mkF1, Mo.p_seq, Mo.p_seqN, Mo.p_seqR, Mo.p_seqB, Mo.p_seqC, Mo.p_seqE, Mo.p_nil, Mo.p_brk, Mo.p_cnt, Mo.p_ret, Mo.p_ret1, Mo.p_ret1e, Mo.p_retN, Mo.p_drop, Mo.p_drop1, Mo.p_drop1e, Mo.p_if, Mo.p_ifT, Mo.p_ifF, Mo.p_ifE, Mo.p_asg, Mo.p_asg1, Mo.p_asg1e, Mo.p_asgM, Mo.p_asgM1, Mo.p_asgM1e, Mo.p_asgM2, Mo.p_gq, Mo.p_gq2, Mo.p_gl0, Mo.p_gl1, Mo.p_gl2, Mo.p_gn, Mo.p_ga, Mo.p_ga1, Mo.p_ga2, Mo.p_aug, Mo.p_aug1, Mo.p_aug2, Mo.p_aug2e, Mo.p_aug3, Mo.p_nxM, Mo.p_fs, Mo.p_fs1, Mo.p_fs1e, Mo.p_fs2, Mo.p_fa, Mo.p_fa1, Mo.p_fa2, Mo.p_fa3, Mo.p_fa3e, Mo.p_fa4, Mo.p_ix, Mo.p_ix1, Mo.p_ix1e, Mo.p_ix2, Mo.p_ix3, Mo.p_sf, Mo.p_sf1, Mo.p_sf2, Mo.p_for, Mo.p_for1, Mo.p_iv, Mo.p_ivL, Mo.p_ivK, Mo.p_ivT, Mo.p_r1, Mo.p_r11, Mo.p_r2, Mo.p_r21, Mo.p_en, Mo.p_en1, Mo.p_zp, Mo.p_zp1, Mo.p_tgn, Mo.p_tgt, Mo.p_gs0, Mo.p_gs1, Mo.p_fl0, Mo.p_fl1, Mo.p_fl2, Mo.p_fl3, Mo.p_fl4, Mo.p_fl5, Mo.p_fl6, Mo.p_fl7, Mo.p_wh, Mo.p_ar, Mo.p_T, Mo.p_T1, Mo.p_T2, Mo.p_T3, Mo.p_fin, Mo.p_K, Mo.p_K1, Mo.p_K2, Mo.p_K3, Mo.p_R, Mo.p_R1, Mo.p_bnd, Mo.q_cat, Mo.q_rep, Mo.q_sub, Mo.q_add, Mo.q_addT, Mo.q_iadd, Mo.q_and, Mo.q_or, Mo.q_xor, Mo.q_lt, Mo.q_le, Mo.q_gt, Mo.q_ge, Mo.q_mod, Mo.q_div, Mo.q_shr, Mo.q_shl, Mo.q_pow, Mo.q_mulLf, Mo.q_mulRf, Mo.q_mulLt, Mo.q_mulRt, Mo.q_neg, Mo.q_eqI, Mo.q_neI, Mo.LIM, Mo.opt_some, Mo.opt_none, Mo.ds?, Mo.mkL, Mo.oIx, Mo.oSl, Mo.oLen, Mo.lenO, Mo.oAbs, Mo.oInt, Mo.oList, Mo.oTupOf, Mo.oIsN, Mo.isN, Mo.rdP, Mo.rdL, Mo.rdT, Mo.clsV, Mo.clsO, Mo.isLc, Mo.mApp, Mo.appO, Mo.mExt, Mo.fldO, Mo.isNo, Mo.stO, Mo.frzD, Mo.frz, Mo.setO, Mo.envOf, List.map_cons, List.map_nil, List.length_cons, List.length_nil, List.replicate_succ, List.replicate_zero, List.cons_append, List.nil_append, List.append_nil, List.append_assoc, List.getElem?_cons_zero, List.getElem?_cons_succ, List.set_cons_zero, List.set_cons_succ, Nat.reduceAdd, Nat.reduceSub, Nat.reduceLeDiff, Nat.reduceLT, Nat.reduceEqDiff, if_true, if_false, reduceIte, decide_true, decide_false, Bool.false_eq_true, and_self, true_and, and_true, Bool.and_self, Bool.true_and, Bool.and_true, Bool.not_true, Bool.not_false, Int.reduceToNat, Nat.reducePow, Int.cast_ofNat_Int, Int.reduceMul, Int.reduceAdd, Int.reduceSub, Int.reduceNeg, Mo.atI_l0, Mo.atI_l1, Mo.atI_l2, Mo.atI_l3, Mo.atI_l4, Mo.atI_l5, Mo.atI_l6, Mo.atI_l7, Mo.atI_l8, Mo.atI_l9, Mo.atI_l10, Mo.atI_l11, List.length_map, Mo.cut_map, Mo.get_top, Mo.get_top0, Mo.set_top, Mo.set_top0, Mo.take_topk, Mo.take_top, List.take_length, List.take_succ_cons, List.take_zero, List.length_append, Nat.lt_irrefl, Mo.wipeE]
/-- an object fed with these -/
def Fed (M : Store) (k : Nat) (ds : List Int) : Prop := M[k]? = some (mdO (blks Q0 ds (ds.length / 64)) (ds.drop (64 * (ds.length / 64))) ds.length)
theorem fed_split (ds : List Int) : blks (blks Q0 ds (ds.length / 64)) (List.drop (64 * (ds.length / 64)) ds ++ padB ds.length) ((List.drop (64 * (ds.length / 64)) ds ++ padB ds.length).length / 64) = blks Q0 (whole ds) ((whole ds).length / 64) := by
  rw [blks_split (by omega)]
  unfold whole
  congr 1
  rw [List.length_append, List.length_append, List.length_drop]
  omega
theorem e_dig (ds : List Int) (hl : ds.length < 10000) (hb : By ds) (b : Nat) (M : Store) (k : Nat) (hk : Fed M k ds) : F_Md5_digest [.c k] b M = .ok (.c M.length, M ++ [some (.lst ((outB (blks Q0 (whole ds) ((whole ds).length / 64))).map .int))]) := by
  rw [e_digestK _ (blks_R Q0_R _ _) _ _ (fun x h => hb x (List.mem_of_mem_drop h)) (by omega) (by omega) (by rw [List.length_drop]; omega) b M k hk, fed_split]
theorem Fed.app {M : Store} {k : Nat} {ds : List Int} (h : Fed M k ds) (l : Store) : Fed (M ++ l) k ds := by
  unfold Fed at h ⊢
  rw [List.getElem?_append_left (List.getElem?_eq_some_iff.mp h).1, h]
theorem outB_len (q : Q4) : (outB q).length = 16 := by simp [outB, bytes_len]
theorem e_asked (ds : List Int) (hl : ds.length < 10000) (hb : By ds) (b : Nat) (M : Store) (k : Nat) (hk : Fed M k ds) : F__law_asked [.c k, .d (li ds)] b M = .ok (.d (.bl true), M) := by
  have hR := outB_len (blks Q0 (whole ds) ((whole ds).length / 64))
  have d1 := fun b => e_dig ds hl hb b M k hk
  have d2 := fun b x y => e_dig ds hl hb b (M ++ [x, y]) k (hk.app _)
  have m1 := fun b M => e_md5 ds hl hb b M
  simp only [li] at m1
  generalize outB (blks Q0 (whole ds) ((whole ds).length / 64)) = R at *
  have s1 := fun b => e_sameC R (by omega) b (M ++ [some (.lst (R.map D.int)), some (.lst (R.map D.int))]) M.length (M.length + 1) (by rw [get_top0]; rfl) (by rw [get_top]; rfl)
  have s2 := fun b x => e_sameC R (by omega) b (M ++ [x, some (.lst (R.map D.int)), some (.lst (R.map D.int))]) (M.length + 2) (M.length + 1) (by rw [get_top]; rfl) (by rw [get_top]; rfl)
  have hk' : M[k]? = some (mdO _ _ _) := hk
  have hA : ∀ l : Store, (M ++ l)[k]? = M[k]? := fun l => List.getElem?_append_left (List.getElem?_eq_some_iff.mp hk').1
  simp (disch := first | omega | (simp only [List.length_map, List.length_cons, List.length_nil, List.length_append, List.length_replicate]; omega)) only [F__law_asked, b__law_asked, Mo.p_op, Mo.p_op1, Mo.p_op1e, Mo.p_op2, Mo.p_op2e, Mo.p_un, Mo.p_un1, Mo.p_var, Mo.p_var1, Mo.p_c, Mo.p_test, Mo.p_test1, Mo.p_test2, Mo.p_and, Mo.p_andT, Mo.p_andF, Mo.p_or, Mo.p_orT, Mo.p_orF, Mo.p_not, Mo.p_not1, Mo.p_tru, Mo.p_truB, Mo.p_truI, Mo.p_truN, Mo.p_truL, Mo.p_andV, Mo.p_andVT, Mo.p_andVF, Mo.p_orV, Mo.p_orVT, Mo.p_orVF, Mo.p_notV, Mo.p_notV1, Mo.p_ife, Mo.p_ifeT, Mo.p_ifeF, Mo.p_ch, Mo.p_ch1, Mo.p_ch2, Mo.p_ch3, Mo.p_ch4, Mo.p_an, Mo.p_ac, Mo.p_ac1, Mo.p_ac1e, Mo.p_ac2, Mo.p_ac2e, Mo.p_lst, Mo.p_lst1, Mo.p_lst2, Mo.p_tup, Mo.p_tup1, Mo.p_tup2, Mo.p_lsc, Mo.p_lsc1, Mo.p_cb, Mo.p_cb1, Mo.p_cb1e, Mo.p_call, Mo.p_call1, Mo.p_call1e, Mo.p_meth, Mo.p_meth1, Mo.p_meth2, Mo.p_meth2e, Mo.p_bm, Mo.p_bm1, Mo.p_bm2, Mo.p_fld, Mo.p_fld1, Mo.p_fld2, Mo.p_frz, Mo.p_frz1, Mo.p_frz2, Mo.p_isi, Mo.p_isiII, Mo.p_isiBI, Mo.p_isiLI, Mo.p_isiIB, Mo.p_isiBB, Mo.p_isiLL, Mo.p_isiTT, Mo.p_isiBN, Mo.p_isiBS, Mo.p_isiBL, Mo.p_sl, Mo.p_sl1, Mo.p_sl2, Mo.p_sl3, Mo.p_on, Mo.p_os, Mo.p_os1, Mo.p_mkK, Mo.p_mkK1, Mo.p_mkK2, Mo.p_mkF, Mo.p_mkF1, Mo.p_seq, Mo.p_seqN, Mo.p_seqR, Mo.p_seqB, Mo.p_seqC, Mo.p_seqE, Mo.p_nil, Mo.p_brk, Mo.p_cnt, Mo.p_ret, Mo.p_ret1, Mo.p_ret1e, Mo.p_retN, Mo.p_drop, Mo.p_drop1, Mo.p_drop1e, Mo.p_if, Mo.p_ifT, Mo.p_ifF, Mo.p_ifE, Mo.p_asg, Mo.p_asg1, Mo.p_asg1e, Mo.p_asgM, Mo.p_asgM1, Mo.p_asgM1e, Mo.p_asgM2, Mo.p_gq, Mo.p_gq2, Mo.p_gl0, Mo.p_gl1, Mo.p_gl2, Mo.p_gn, Mo.p_ga, Mo.p_ga1, Mo.p_ga2, Mo.p_aug, Mo.p_aug1, Mo.p_aug2, Mo.p_aug2e, Mo.p_aug3, Mo.p_nxM, Mo.p_fs, Mo.p_fs1, Mo.p_fs1e, Mo.p_fs2, Mo.p_fa, Mo.p_fa1, Mo.p_fa2, Mo.p_fa3, Mo.p_fa3e, Mo.p_fa4, Mo.p_ix, Mo.p_ix1, Mo.p_ix1e, Mo.p_ix2, Mo.p_ix3, Mo.p_sf, Mo.p_sf1, Mo.p_sf2, Mo.p_for, Mo.p_for1, Mo.p_iv, Mo.p_ivL, Mo.p_ivK, Mo.p_ivT, Mo.p_r1, Mo.p_r11, Mo.p_r2, Mo.p_r21, Mo.p_en, Mo.p_en1, Mo.p_zp, Mo.p_zp1, Mo.p_tgn, Mo.p_tgt, Mo.p_gs0, Mo.p_gs1, Mo.p_fl0, Mo.p_fl1, Mo.p_fl2, Mo.p_fl3, Mo.p_fl4, Mo.p_fl5, Mo.p_fl6, Mo.p_fl7, Mo.p_wh, Mo.p_ar, Mo.p_T, Mo.p_T1, Mo.p_T2, Mo.p_T3, Mo.p_fin, Mo.p_K, Mo.p_K1, Mo.p_K2, Mo.p_K3, Mo.p_R, Mo.p_R1, Mo.p_bnd, Mo.q_cat, Mo.q_rep, Mo.q_sub, Mo.q_add, Mo.q_addT, Mo.q_iadd, Mo.q_and, Mo.q_or, Mo.q_xor, Mo.q_lt, Mo.q_le, Mo.q_gt, Mo.q_ge, Mo.q_mod, Mo.q_div, Mo.q_shr, Mo.q_shl, Mo.q_pow, Mo.q_mulLf, Mo.q_mulRf, Mo.q_mulLt, Mo.q_mulRt, Mo.q_neg, Mo.q_eqI, Mo.q_neI, Mo.LIM, Mo.opt_some, Mo.opt_none, Mo.ds?, Mo.mkL, Mo.oIx, Mo.oSl, Mo.oLen, Mo.lenO, Mo.oAbs, Mo.oInt, Mo.oList, Mo.oTupOf, Mo.oIsN, Mo.isN, Mo.rdP, Mo.rdL, Mo.rdT, Mo.clsV, Mo.clsO, Mo.isLc, Mo.mApp, Mo.appO, Mo.mExt, Mo.fldO, Mo.isNo, Mo.stO, Mo.frzD, Mo.frz, Mo.setO, Mo.envOf, List.map_cons, List.map_nil, List.length_cons, List.length_nil, List.replicate_succ, List.replicate_zero, List.cons_append, List.nil_append, List.append_nil, List.append_assoc, List.getElem?_cons_zero, List.getElem?_cons_succ, List.set_cons_zero, List.set_cons_succ, Nat.reduceAdd, Nat.reduceSub, Nat.reduceLeDiff, Nat.reduceLT, Nat.reduceEqDiff, if_true, if_false, reduceIte, decide_true, decide_false, Bool.false_eq_true, and_self, true_and, and_true, Bool.and_self, Bool.true_and, Bool.and_true, Bool.not_true, Bool.not_false, Int.reduceToNat, Nat.reducePow, Int.cast_ofNat_Int, Int.reduceMul, Int.reduceAdd, Int.reduceSub, Int.reduceNeg, Mo.atI_l0, Mo.atI_l1, Mo.atI_l2, Mo.atI_l3, Mo.atI_l4, Mo.atI_l5, Mo.atI_l6, Mo.atI_l7, Mo.atI_l8, Mo.atI_l9, Mo.atI_l10, Mo.atI_l11, List.length_map, Mo.cut_map, Mo.get_top, Mo.get_top0, Mo.set_top, Mo.set_top0, Mo.take_topk, Mo.take_top, List.take_length, List.take_succ_cons, List.take_zero, List.length_append, Nat.lt_irrefl, Mo.wipeE, li, d1, d2, m1, s1, s2, hR, hA, hk']
end Lk08

namespace Lk08
open PySem PySem.Spec PyProof.Rows L2 Mo
abbrev mdS (f : List Int) : Option Ob := mdO (blks Q0 f (f.length / 64)) (f.drop (64 * (f.length / 64))) f.length
theorem e_feedF (f ds : List Int) (hf : By f) (hd : By ds) (hl : f.length < 10000) (hl2 : ds.length < 10000) (b : Nat) (M : Store) (k j : Nat) (hne : k ≠ j) (hk : M[k]? = some (mdS f)) (hj : M[j]? = some (some (.lst (ds.map .int)))) :
    F_Md5_feed [.c k, .c j] b M = .ok (.d .non, M.set k (mdS (f ++ ds))) := by
  rw [e_feedC _ (blks_R Q0_R _ _) _ ds _ (fun x h => hf x (List.mem_of_mem_drop h)) hd (by rw [List.length_drop]; omega) b M k j hne hk hj]
  have e : (List.drop (64 * (f.length / 64)) f ++ ds).length / 64 + f.length / 64 = (f ++ ds).length / 64 := by
    rw [List.length_append, List.length_append, List.length_drop]
    omega
  have e1 : blks (blks Q0 f (f.length / 64)) (List.drop (64 * (f.length / 64)) f ++ ds) ((List.drop (64 * (f.length / 64)) f ++ ds).length / 64) = blks Q0 (f ++ ds) ((f ++ ds).length / 64) := by
    rw [blks_split (by omega), ← e, Nat.add_comm]
  have e2 : List.drop (64 * ((List.drop (64 * (f.length / 64)) f ++ ds).length / 64)) (List.drop (64 * (f.length / 64)) f ++ ds) = List.drop (64 * ((f ++ ds).length / 64)) (f ++ ds) := by
    rw [← e, ← List.drop_append_of_le_length (by omega), List.drop_drop]
    congr 1
    omega
  rw [e1, e2]
  show Res.ok (Vl.d D.non, M.set k (some (.ins 0 [_, _, .d (.int ((f.length : Int) + (ds.length : Int)))]))) = Res.ok (Vl.d D.non, M.set k (some (.ins 0 [_, _, .d (.int ((f ++ ds).length : Int))])))
  rw [show (((f ++ ds).length : Nat) : Int) = (f.length : Int) + (ds.length : Int) from by rw [List.length_append]; omega]
theorem e_part (c : Int) (b : Nat) (M : Store) : ∃ n0 n1 n2 ds, 0 ≤ n2 ∧ By ds ∧ ds.length < 100 ∧ F__law_part [.d (.int c)] b M = .ok (.d (.tup [.lst [.int n0, .int n1, .int n2], li ds]), M) := by
  obtain ⟨ns, hl, hd, e⟩ := e_draw c 3 1048576 (by omega) (by omega) M.length M
  obtain ⟨n0, n1, n2, rfl⟩ : ∃ n0 n1 n2, ns = [n0, n1, n2] := by
    match ns, hl with
    | [n0, n1, n2], _ => exact ⟨_, _, _, rfl⟩
  have h0 := hd n0 (by simp)
  have h1 := hd n1 (by simp)
  have h2 := hd n2 (by simp)
  have e0 : (1 : Int) * ((2 ^ 20 : Nat) : Int) = 1048576 := by decide
  simp only [li, List.map_cons, List.map_nil] at e
  by_cases hc : n0 / 21 % 5 = 0
  · have g : decide (n0 / 21 % 5 = 0) = true := decide_eq_true hc
    obtain ⟨ds, hl2, hd2, e2⟩ := e_draw (c + 17) (n1 % 71) 256 (by omega) (by omega) M.length M
    refine ⟨n0, n1, n2, ds, h2.1, hd2, by omega, ?_⟩
    simp only [li] at e2
    simp (disch := first | omega | (simp only [List.length_map, List.length_cons, List.length_nil, List.length_append, List.length_replicate]; omega)) only [F__law_part, b__law_part, Mo.p_op, Mo.p_op1, Mo.p_op1e, Mo.p_op2, Mo.p_op2e, Mo.p_un, Mo.p_un1, Mo.p_var, Mo.p_var1, Mo.p_c, Mo.p_test, Mo.p_test1, Mo.p_test2, Mo.p_and, Mo.p_andT, Mo.p_andF, Mo.p_or, Mo.p_orT, Mo.p_orF, Mo.p_not, Mo.p_not1, Mo.p_tru, Mo.p_truB, Mo.p_truI, Mo.p_truN, Mo.p_truL, Mo.p_andV, Mo.p_andVT, Mo.p_andVF, Mo.p_orV, Mo.p_orVT, Mo.p_orVF, Mo.p_notV, Mo.p_notV1, Mo.p_ife, Mo.p_ifeT, Mo.p_ifeF, Mo.p_ch, Mo.p_ch1, Mo.p_ch2, Mo.p_ch3, Mo.p_ch4, Mo.p_an, Mo.p_ac, Mo.p_ac1, Mo.p_ac1e, Mo.p_ac2, Mo.p_ac2e, Mo.p_lst, Mo.p_lst1, Mo.p_lst2, Mo.p_tup, Mo.p_tup1, Mo.p_tup2, Mo.p_lsc, Mo.p_lsc1, Mo.p_cb, Mo.p_cb1, Mo.p_cb1e, Mo.p_call, Mo.p_call1, Mo.p_call1e, Mo.p_meth, Mo.p_meth1, Mo.p_meth2, Mo.p_meth2e, Mo.p_bm, Mo.p_bm1, Mo.p_bm2, Mo.p_fld, Mo.p_fld1, Mo.p_fld2, Mo.p_frz, Mo.p_frz1, Mo.p_frz2, Mo.p_isi, Mo.p_isiII, Mo.p_isiBI, Mo.p_isiLI, Mo.p_isiIB, Mo.p_isiBB, Mo.p_isiLL, Mo.p_isiTT, Mo.p_isiBN, Mo.p_isiBS, Mo.p_isiBL, Mo.p_sl, Mo.p_sl1, Mo.p_sl2, Mo.p_sl3, Mo.p_on, Mo.p_os, Mo.p_os1, Mo.p_mkK, Mo.p_mkK1, Mo.p_mkK2, Mo.p_mkF, Mo.p_mkF1, Mo.p_seq, Mo.p_seqN, Mo.p_seqR, Mo.p_seqB, Mo.p_seqC, Mo.p_seqE, Mo.p_nil, Mo.p_brk, Mo.p_cnt, Mo.p_ret, Mo.p_ret1, Mo.p_ret1e, Mo.p_retN, Mo.p_drop, Mo.p_drop1, Mo.p_drop1e, Mo.p_if, Mo.p_ifT, Mo.p_ifF, Mo.p_ifE, Mo.p_asg, Mo.p_asg1, Mo.p_asg1e, Mo.p_asgM, Mo.p_asgM1, Mo.p_asgM1e, Mo.p_asgM2, Mo.p_gq, Mo.p_gq2, Mo.p_gl0, Mo.p_gl1, Mo.p_gl2, Mo.p_gn, Mo.p_ga, Mo.p_ga1, Mo.p_ga2, Mo.p_aug, Mo.p_aug1, Mo.p_aug2, Mo.p_aug2e, Mo.p_aug3, Mo.p_nxM, Mo.p_fs, Mo.p_fs1, Mo.p_fs1e, Mo.p_fs2, Mo.p_fa, Mo.p_fa1, Mo.p_fa2, Mo.p_fa3, Mo.p_fa3e, Mo.p_fa4, Mo.p_ix, Mo.p_ix1, Mo.p_ix1e, Mo.p_ix2, Mo.p_ix3, Mo.p_sf, Mo.p_sf1, Mo.p_sf2, Mo.p_for, Mo.p_for1, Mo.p_iv, Mo.p_ivL, Mo.p_ivK, Mo.p_ivT, Mo.p_r1, Mo.p_r11, Mo.p_r2, Mo.p_r21, Mo.p_en, Mo.p_en1, Mo.p_zp, Mo.p_zp1, Mo.p_tgn, Mo.p_tgt, Mo.p_gs0, Mo.p_gs1, Mo.p_fl0, Mo.p_fl1, Mo.p_fl2, Mo.p_fl3, Mo.p_fl4, Mo.p_fl5, Mo.p_fl6, Mo.p_fl7, Mo.p_wh, Mo.p_ar, Mo.p_T, Mo.p_T1, Mo.p_T2, Mo.p_T3, Mo.p_fin, Mo.p_K, Mo.p_K1, Mo.p_K2, Mo.p_K3, Mo.p_R, Mo.p_R1, Mo.p_bnd, Mo.q_cat, Mo.q_rep, Mo.q_sub, Mo.q_add, Mo.q_addT, Mo.q_iadd, Mo.q_and, Mo.q_or, Mo.q_xor, Mo.q_lt, Mo.q_le, Mo.q_gt, Mo.q_ge, Mo.q_mod, Mo.q_div, Mo.q_shr, Mo.q_shl, Mo.q_pow, Mo.q_mulLf, Mo.q_mulRf, Mo.q_mulLt, Mo.q_mulRt, Mo.q_neg, Mo.q_eqI, Mo.q_neI, Mo.LIM, Mo.opt_some, Mo.opt_none, Mo.ds?, Mo.mkL, Mo.oIx, Mo.oSl, Mo.oLen, Mo.lenO, Mo.oAbs, Mo.oInt, Mo.oList, Mo.oTupOf, Mo.oIsN, Mo.isN, Mo.rdP, Mo.rdL, Mo.rdT, Mo.clsV, Mo.clsO, Mo.isLc, Mo.mApp, Mo.appO, Mo.mExt, Mo.fldO, Mo.isNo, Mo.stO, Mo.frzD, Mo.frz, Mo.setO, Mo.envOf, List.map_cons, List.map_nil, List.length_cons, List.length_nil, List.replicate_succ, List.replicate_zero, List.cons_append, List.nil_append, List.append_nil, List.append_assoc, List.getElem?_cons_zero, List.getElem?_cons_succ, List.set_cons_zero, List.set_cons_succ, Nat.reduceAdd, Nat.reduceSub, Nat.reduceLeDiff, Nat.reduceLT, Nat.reduceEqDiff, if_true, if_false, reduceIte, decide_true, decide_false, Bool.false_eq_true, and_self, true_and, and_true, Bool.and_self, Bool.true_and, Bool.and_true, Bool.not_true, Bool.not_false, Int.reduceToNat, Nat.reducePow, Int.cast_ofNat_Int, Int.reduceMul, Int.reduceAdd, Int.reduceSub, Int.reduceNeg, Mo.atI_l0, Mo.atI_l1, Mo.atI_l2, Mo.atI_l3, Mo.atI_l4, Mo.atI_l5, Mo.atI_l6, Mo.atI_l7, Mo.atI_l8, Mo.atI_l9, Mo.atI_l10, Mo.atI_l11, List.length_map, Mo.cut_map, Mo.get_top, Mo.get_top0, Mo.set_top, Mo.set_top0, Mo.take_topk, Mo.take_top, List.take_length, List.take_succ_cons, List.take_zero, List.length_append, Nat.lt_irrefl, Mo.wipeE, e, e2, g, li]
  · have g : decide (n0 / 21 % 5 = 0) = false := decide_eq_false hc
    obtain ⟨ds, hl2, hd2, e2⟩ := e_draw (c + 17) (n0 % 21) 256 (by omega) (by omega) M.length M
    refine ⟨n0, n1, n2, ds, h2.1, hd2, by omega, ?_⟩
    simp only [li] at e2
    simp (disch := first | omega | (simp only [List.length_map, List.length_cons, List.length_nil, List.length_append, List.length_replicate]; omega)) only [F__law_part, b__law_part, Mo.p_op, Mo.p_op1, Mo.p_op1e, Mo.p_op2, Mo.p_op2e, Mo.p_un, Mo.p_un1, Mo.p_var, Mo.p_var1, Mo.p_c, Mo.p_test, Mo.p_test1, Mo.p_test2, Mo.p_and, Mo.p_andT, Mo.p_andF, Mo.p_or, Mo.p_orT, Mo.p_orF, Mo.p_not, Mo.p_not1, Mo.p_tru, Mo.p_truB, Mo.p_truI, Mo.p_truN, Mo.p_truL, Mo.p_andV, Mo.p_andVT, Mo.p_andVF, Mo.p_orV, Mo.p_orVT, Mo.p_orVF, Mo.p_notV, Mo.p_notV1, Mo.p_ife, Mo.p_ifeT, Mo.p_ifeF, Mo.p_ch, Mo.p_ch1, Mo.p_ch2, Mo.p_ch3, Mo.p_ch4, Mo.p_an, Mo.p_ac, Mo.p_ac1, Mo.p_ac1e, Mo.p_ac2, Mo.p_ac2e, Mo.p_lst, Mo.p_lst1, Mo.p_lst2, Mo.p_tup, Mo.p_tup1, Mo.p_tup2, Mo.p_lsc, Mo.p_lsc1, Mo.p_cb, Mo.p_cb1, Mo.p_cb1e, Mo.p_call, Mo.p_call1, Mo.p_call1e, Mo.p_meth, Mo.p_meth1, Mo.p_meth2, Mo.p_meth2e, Mo.p_bm, Mo.p_bm1, Mo.p_bm2, Mo.p_fld, Mo.p_fld1, Mo.p_fld2, Mo.p_frz, Mo.p_frz1, Mo.p_frz2, Mo.p_isi, Mo.p_isiII, Mo.p_isiBI, Mo.p_isiLI, Mo.p_isiIB, Mo.p_isiBB, Mo.p_isiLL, Mo.p_isiTT, Mo.p_isiBN, Mo.p_isiBS, Mo.p_isiBL, Mo.p_sl, Mo.p_sl1, Mo.p_sl2, Mo.p_sl3, Mo.p_on, Mo.p_os, Mo.p_os1, Mo.p_mkK, Mo.p_mkK1, Mo.p_mkK2, Mo.p_mkF, Mo.p_mkF1, Mo.p_seq, Mo.p_seqN, Mo.p_seqR, Mo.p_seqB, Mo.p_seqC, Mo.p_seqE, Mo.p_nil, Mo.p_brk, Mo.p_cnt, Mo.p_ret, Mo.p_ret1, Mo.p_ret1e, Mo.p_retN, Mo.p_drop, Mo.p_drop1, Mo.p_drop1e, Mo.p_if, Mo.p_ifT, Mo.p_ifF, Mo.p_ifE, Mo.p_asg, Mo.p_asg1, Mo.p_asg1e, Mo.p_asgM, Mo.p_asgM1, Mo.p_asgM1e, Mo.p_asgM2, Mo.p_gq, Mo.p_gq2, Mo.p_gl0, Mo.p_gl1, Mo.p_gl2, Mo.p_gn, Mo.p_ga, Mo.p_ga1, Mo.p_ga2, Mo.p_aug, Mo.p_aug1, Mo.p_aug2, Mo.p_aug2e, Mo.p_aug3, Mo.p_nxM, Mo.p_fs, Mo.p_fs1, Mo.p_fs1e, Mo.p_fs2, Mo.p_fa, Mo.p_fa1, Mo.p_fa2, Mo.p_fa3, Mo.p_fa3e, Mo.p_fa4, Mo.p_ix, Mo.p_ix1, Mo.p_ix1e, Mo.p_ix2, Mo.p_ix3, Mo.p_sf, Mo.p_sf1, Mo.p_sf2, Mo.p_for, Mo.p_for1, Mo.p_iv, Mo.p_ivL, Mo.p_ivK, Mo.p_ivT, Mo.p_r1, Mo.p_r11, Mo.p_r2, Mo.p_r21, Mo.p_en, Mo.p_en1, Mo.p_zp, Mo.p_zp1, Mo.p_tgn, Mo.p_tgt, Mo.p_gs0, Mo.p_gs1, Mo.p_fl0, Mo.p_fl1, Mo.p_fl2, Mo.p_fl3, Mo.p_fl4, Mo.p_fl5, Mo.p_fl6, Mo.p_fl7, Mo.p_wh, Mo.p_ar, Mo.p_T, Mo.p_T1, Mo.p_T2, Mo.p_T3, Mo.p_fin, Mo.p_K, Mo.p_K1, Mo.p_K2, Mo.p_K3, Mo.p_R, Mo.p_R1, Mo.p_bnd, Mo.q_cat, Mo.q_rep, Mo.q_sub, Mo.q_add, Mo.q_addT, Mo.q_iadd, Mo.q_and, Mo.q_or, Mo.q_xor, Mo.q_lt, Mo.q_le, Mo.q_gt, Mo.q_ge, Mo.q_mod, Mo.q_div, Mo.q_shr, Mo.q_shl, Mo.q_pow, Mo.q_mulLf, Mo.q_mulRf, Mo.q_mulLt, Mo.q_mulRt, Mo.q_neg, Mo.q_eqI, Mo.q_neI, Mo.LIM, Mo.opt_some, Mo.opt_none, Mo.ds?, Mo.mkL, Mo.oIx, Mo.oSl, Mo.oLen, Mo.lenO, Mo.oAbs, Mo.oInt, Mo.oList, Mo.oTupOf, Mo.oIsN, Mo.isN, Mo.rdP, Mo.rdL, Mo.rdT, Mo.clsV, Mo.clsO, Mo.isLc, Mo.mApp, Mo.appO, Mo.mExt, Mo.fldO, Mo.isNo, Mo.stO, Mo.frzD, Mo.frz, Mo.setO, Mo.envOf, List.map_cons, List.map_nil, List.length_cons, List.length_nil, List.replicate_succ, List.replicate_zero, List.cons_append, List.nil_append, List.append_nil, List.append_assoc, List.getElem?_cons_zero, List.getElem?_cons_succ, List.set_cons_zero, List.set_cons_succ, Nat.reduceAdd, Nat.reduceSub, Nat.reduceLeDiff, Nat.reduceLT, Nat.reduceEqDiff, if_true, if_false, reduceIte, decide_true, decide_false, Bool.false_eq_true, and_self, true_and, and_true, Bool.and_self, Bool.true_and, Bool.and_true, Bool.not_true, Bool.not_false, Int.reduceToNat, Nat.reducePow, Int.cast_ofNat_Int, Int.reduceMul, Int.reduceAdd, Int.reduceSub, Int.reduceNeg, Mo.atI_l0, Mo.atI_l1, Mo.atI_l2, Mo.atI_l3, Mo.atI_l4, Mo.atI_l5, Mo.atI_l6, Mo.atI_l7, Mo.atI_l8, Mo.atI_l9, Mo.atI_l10, Mo.atI_l11, List.length_map, Mo.cut_map, Mo.get_top, Mo.get_top0, Mo.set_top, Mo.set_top0, Mo.take_topk, Mo.take_top, List.take_length, List.take_succ_cons, List.take_zero, List.length_append, Nat.lt_irrefl, Mo.wipeE, e, e2, g, li]
theorem q_neC {ns : List Int} {j : Nat} {M : Store} (h : M[j]? = some (some (.lst (ns.map D.int)))) : oNe (.c j) (.d (.lst (ns.map D.int))) M = some (.d (.bl false), M) := by
  have hs := ints_shaped ns
  show (match toD M (.c j), toD M (.d (.lst (ns.map D.int))) with
    | some a, some b => if SeqAt.shaped (toP a) && SeqAt.shaped (toP b) then some (Vl.d (.bl (!PyData.eqv (toP a) (toP b))), M) else none
    | _, _ => none) = _
  simp only [toD, h]
  rw [hs, SeqAt.eqv_refl _ (SeqAt.canLay_of_shaped hs)]
  rfl
end Lk08

namespace Lk08
open PySem PySem.Spec PyProof.Rows L2 Mo
abbrev stS (M : Store) (f0 f1 : List Int) (junk : Store) : Store := M ++ mdS f0 :: mdS f1 :: some (.lsc [.c M.length, .c (M.length + 1)]) :: some (.lst [li f0, li f1]) :: junk
theorem ix0 : ixN 2 0 = some 0 := by decide
theorem ix1 : ixN 2 1 = some 1 := by decide
theorem turn (M : Store) (f0 f1 : List Int) (junk : Store) (h0 : By f0) (h1 : By f1) (l0 : f0.length < 9000) (l1 : f1.length < 9000) (c : Int) (s0 x4 x5 x6 x7 : Option Vl) (hb : M.length = b) :
    ∃ g0 g1 junk' y4 y5 y6 y7, By g0 ∧ By g1 ∧ g0.length < f0.length + 100 ∧ g1.length < f1.length + 100 ∧
      law_l3 b [s0, some (.c (M.length + 2)), some (.c (M.length + 3)), some (.d (.int c)), x4, x5, x6, x7] (stS M f0 f1 junk) = .ok (.nx, [s0, some (.c (M.length + 2)), some (.c (M.length + 3)), some (.d (.int c)), y4, y5, y6, y7], stS M g0 g1 junk') := by
  subst hb
  obtain ⟨n0, n1, n2, ds, hn2, hd, hl, e⟩ := e_part c M.length (stS M f0 f1 junk)
  simp only [li] at e
  have ix0 := ix0
  have ix1 := ix1
  by_cases hw : n2 % 2 = 0
  · have hw' : n2 % 2 = 0 := by omega
    have F := fun b => e_feedF f0 ds h0 hd (by omega) (by omega) b (M ++ mdS f0 :: mdS f1 :: some (.lsc [.c M.length, .c (M.length + 1)]) :: some (.lst [li f0, li f1]) :: (junk ++ [some (.lst (ds.map .int))])) M.length (M.length + (junk.length + 1 + 1 + 1 + 1)) (by omega) (by rw [get_top0]; rfl) (by rw [get_top]; simp)
    have A := fun b => e_asked (f0 ++ ds) (by rw [List.length_append]; omega) (h0.app hd) b (M ++ mdS (f0 ++ ds) :: mdS f1 :: some (.lsc [.c M.length, .c (M.length + 1)]) :: some (.lst [li (f0 ++ ds), li f1]) :: (junk ++ [some (.lst (ds.map .int ++ [.int 9]))])) M.length (by show _ = _; rw [get_top0]; rfl)
    have hne := fun a1 a2 a3 a4 => q_neC (ns := ds) (j := M.length + (junk.length + 1 + 1 + 1 + 1)) (M := M ++ a1 :: a2 :: a3 :: a4 :: (junk ++ [some (.lst (ds.map .int))])) (by rw [get_top]; simp)
    have hds : ds.length < 16000000 := by omega
    simp only [mdS, li, List.map_append, List.length_append] at F A
    simp only [set_top, set_top0, List.set_cons_zero, List.set_cons_succ] at F
    by_cases hc : n2 / 2 % 3 = 0
    · have g : decide (n2 / 2 % 3 = 0) = true := decide_eq_true hc
      refine ⟨(f0 ++ ds), f1, junk ++ [some (.lst (ds.map .int ++ [.int 9]))], some (.d (.lst [.int n0, .int n1, .int n2])), some (.d (.lst (ds.map .int))), some (.d (.int 0)), some (.c (M.length + (junk.length + 1 + 1 + 1 + 1))), h0.app hd, h1, by first | (rw [List.length_append]; omega) | omega, by first | (rw [List.length_append]; omega) | omega, ?_⟩
      simp (disch := first | omega | (simp only [List.length_map, List.length_cons, List.length_nil, List.length_append, List.length_replicate]; omega)) only [law_l3, Mo.p_op, Mo.p_op1, Mo.p_op1e, Mo.p_op2, Mo.p_op2e, Mo.p_un, Mo.p_un1, Mo.p_var, Mo.p_var1, Mo.p_c, Mo.p_test, Mo.p_test1, Mo.p_test2, Mo.p_and, Mo.p_andT, Mo.p_andF, Mo.p_or, Mo.p_orT, Mo.p_orF, Mo.p_not, Mo.p_not1, Mo.p_tru, Mo.p_truB, Mo.p_truI, Mo.p_truN, Mo.p_truL, Mo.p_andV, Mo.p_andVT, Mo.p_andVF, Mo.p_orV, Mo.p_orVT, Mo.p_orVF, Mo.p_notV, Mo.p_notV1, Mo.p_ife, Mo.p_ifeT, Mo.p_ifeF, Mo.p_ch, Mo.p_ch1, Mo.p_ch2, Mo.p_ch3, Mo.p_ch4, Mo.p_an, Mo.p_ac, Mo.p_ac1, Mo.p_ac1e, Mo.p_ac2, Mo.p_ac2e, Mo.p_lst, Mo.p_lst1, Mo.p_lst2, Mo.p_tup, Mo.p_tup1, Mo.p_tup2, Mo.p_lsc, Mo.p_lsc1, Mo.p_cb, Mo.p_cb1, Mo.p_cb1e, Mo.p_call, Mo.p_call1, Mo.p_call1e, Mo.p_meth, Mo.p_meth1, Mo.p_meth2, Mo.p_meth2e, Mo.p_bm, Mo.p_bm1, Mo.p_bm2, Mo.p_fld, Mo.p_fld1, Mo.p_fld2, Mo.p_frz, Mo.p_frz1, Mo.p_frz2, Mo.p_isi, Mo.p_isiII, Mo.p_isiBI, Mo.p_isiLI, Mo.p_isiIB, Mo.p_isiBB, Mo.p_isiLL, Mo.p_isiTT, Mo.p_isiBN, Mo.p_isiBS, Mo.p_isiBL, Mo.p_sl, Mo.p_sl1, Mo.p_sl2, Mo.p_sl3, Mo.p_on, Mo.p_os, Mo.p_os1, Mo.p_mkK, Mo.p_mkK1, Mo.p_mkK2, Mo.p_mkF, Mo.p_mkF1, Mo.p_seq, Mo.p_seqN, Mo.p_seqR, Mo.p_seqB, Mo.p_seqC, Mo.p_seqE, Mo.p_nil, Mo.p_brk, Mo.p_cnt, Mo.p_ret, Mo.p_ret1, Mo.p_ret1e, Mo.p_retN, Mo.p_drop, Mo.p_drop1, Mo.p_drop1e, Mo.p_if, Mo.p_ifT, Mo.p_ifF, Mo.p_ifE, Mo.p_asg, Mo.p_asg1, Mo.p_asg1e, Mo.p_asgM, Mo.p_asgM1, Mo.p_asgM1e, Mo.p_asgM2, Mo.p_gq, Mo.p_gq2, Mo.p_gl0, Mo.p_gl1, Mo.p_gl2, Mo.p_gn, Mo.p_ga, Mo.p_ga1, Mo.p_ga2, Mo.p_aug, Mo.p_aug1, Mo.p_aug2, Mo.p_aug2e, Mo.p_aug3, Mo.p_nxM, Mo.p_fs, Mo.p_fs1, Mo.p_fs1e, Mo.p_fs2, Mo.p_fa, Mo.p_fa1, Mo.p_fa2, Mo.p_fa3, Mo.p_fa3e, Mo.p_fa4, Mo.p_ix, Mo.p_ix1, Mo.p_ix1e, Mo.p_ix2, Mo.p_ix3, Mo.p_sf, Mo.p_sf1, Mo.p_sf2, Mo.p_for, Mo.p_for1, Mo.p_iv, Mo.p_ivL, Mo.p_ivK, Mo.p_ivT, Mo.p_r1, Mo.p_r11, Mo.p_r2, Mo.p_r21, Mo.p_en, Mo.p_en1, Mo.p_zp, Mo.p_zp1, Mo.p_tgn, Mo.p_tgt, Mo.p_gs0, Mo.p_gs1, Mo.p_fl0, Mo.p_fl1, Mo.p_fl2, Mo.p_fl3, Mo.p_fl4, Mo.p_fl5, Mo.p_fl6, Mo.p_fl7, Mo.p_wh, Mo.p_ar, Mo.p_T, Mo.p_T1, Mo.p_T2, Mo.p_T3, Mo.p_fin, Mo.p_K, Mo.p_K1, Mo.p_K2, Mo.p_K3, Mo.p_R, Mo.p_R1, Mo.p_bnd, Mo.q_cat, Mo.q_rep, Mo.q_sub, Mo.q_add, Mo.q_addT, Mo.q_iadd, Mo.q_and, Mo.q_or, Mo.q_xor, Mo.q_lt, Mo.q_le, Mo.q_gt, Mo.q_ge, Mo.q_mod, Mo.q_div, Mo.q_shr, Mo.q_shl, Mo.q_pow, Mo.q_mulLf, Mo.q_mulRf, Mo.q_mulLt, Mo.q_mulRt, Mo.q_neg, Mo.q_eqI, Mo.q_neI, Mo.LIM, Mo.opt_some, Mo.opt_none, Mo.ds?, Mo.mkL, Mo.oIx, Mo.oSl, Mo.oLen, Mo.lenO, Mo.oAbs, Mo.oInt, Mo.oList, Mo.oTupOf, Mo.oIsN, Mo.isN, Mo.rdP, Mo.rdL, Mo.rdT, Mo.clsV, Mo.clsO, Mo.isLc, Mo.mApp, Mo.appO, Mo.mExt, Mo.fldO, Mo.isNo, Mo.stO, Mo.frzD, Mo.frz, Mo.setO, Mo.envOf, List.map_cons, List.map_nil, List.length_cons, List.length_nil, List.replicate_succ, List.replicate_zero, List.cons_append, List.nil_append, List.append_nil, List.append_assoc, List.getElem?_cons_zero, List.getElem?_cons_succ, List.set_cons_zero, List.set_cons_succ, Nat.reduceAdd, Nat.reduceSub, Nat.reduceLeDiff, Nat.reduceLT, Nat.reduceEqDiff, if_true, if_false, reduceIte, decide_true, decide_false, Bool.false_eq_true, and_self, true_and, and_true, Bool.and_self, Bool.true_and, Bool.and_true, Bool.not_true, Bool.not_false, Int.reduceToNat, Nat.reducePow, Int.cast_ofNat_Int, Int.reduceMul, Int.reduceAdd, Int.reduceSub, Int.reduceNeg, Mo.atI_l0, Mo.atI_l1, Mo.atI_l2, Mo.atI_l3, Mo.atI_l4, Mo.atI_l5, Mo.atI_l6, Mo.atI_l7, Mo.atI_l8, Mo.atI_l9, Mo.atI_l10, Mo.atI_l11, List.length_map, Mo.cut_map, Mo.get_top, Mo.get_top0, Mo.set_top, Mo.set_top0, Mo.take_topk, Mo.take_top, List.take_length, List.take_succ_cons, List.take_zero, List.length_append, Nat.lt_irrefl, Mo.wipeE, stS, mdS, e, hw', ix0, ix1, F, A, g, li, List.map_append, hne, hds]
    · have g : decide (n2 / 2 % 3 = 0) = false := decide_eq_false hc
      refine ⟨(f0 ++ ds), f1, junk ++ [some (.lst (ds.map .int ++ [.int 9]))], some (.d (.lst [.int n0, .int n1, .int n2])), some (.d (.lst (ds.map .int))), some (.d (.int 0)), some (.c (M.length + (junk.length + 1 + 1 + 1 + 1))), h0.app hd, h1, by first | (rw [List.length_append]; omega) | omega, by first | (rw [List.length_append]; omega) | omega, ?_⟩
      simp (disch := first | omega | (simp only [List.length_map, List.length_cons, List.length_nil, List.length_append, List.length_replicate]; omega)) only [law_l3, Mo.p_op, Mo.p_op1, Mo.p_op1e, Mo.p_op2, Mo.p_op2e, Mo.p_un, Mo.p_un1, Mo.p_var, Mo.p_var1, Mo.p_c, Mo.p_test, Mo.p_test1, Mo.p_test2, Mo.p_and, Mo.p_andT, Mo.p_andF, Mo.p_or, Mo.p_orT, Mo.p_orF, Mo.p_not, Mo.p_not1, Mo.p_tru, Mo.p_truB, Mo.p_truI, Mo.p_truN, Mo.p_truL, Mo.p_andV, Mo.p_andVT, Mo.p_andVF, Mo.p_orV, Mo.p_orVT, Mo.p_orVF, Mo.p_notV, Mo.p_notV1, Mo.p_ife, Mo.p_ifeT, Mo.p_ifeF, Mo.p_ch, Mo.p_ch1, Mo.p_ch2, Mo.p_ch3, Mo.p_ch4, Mo.p_an, Mo.p_ac, Mo.p_ac1, Mo.p_ac1e, Mo.p_ac2, Mo.p_ac2e, Mo.p_lst, Mo.p_lst1, Mo.p_lst2, Mo.p_tup, Mo.p_tup1, Mo.p_tup2, Mo.p_lsc, Mo.p_lsc1, Mo.p_cb, Mo.p_cb1, Mo.p_cb1e, Mo.p_call, Mo.p_call1, Mo.p_call1e, Mo.p_meth, Mo.p_meth1, Mo.p_meth2, Mo.p_meth2e, Mo.p_bm, Mo.p_bm1, Mo.p_bm2, Mo.p_fld, Mo.p_fld1, Mo.p_fld2, Mo.p_frz, Mo.p_frz1, Mo.p_frz2, Mo.p_isi, Mo.p_isiII, Mo.p_isiBI, Mo.p_isiLI, Mo.p_isiIB, Mo.p_isiBB, Mo.p_isiLL, Mo.p_isiTT, Mo.p_isiBN, Mo.p_isiBS, Mo.p_isiBL, Mo.p_sl, Mo.p_sl1, Mo.p_sl2, Mo.p_sl3, Mo.p_on, Mo.p_os, Mo.p_os1, Mo.p_mkK, Mo.p_mkK1, Mo.p_mkK2, Mo.p_mkF, Mo.p_mkF1, Mo.p_seq, Mo.p_seqN, Mo.p_seqR, Mo.p_seqB, Mo.p_seqC, Mo.p_seqE, Mo.p_nil, Mo.p_brk, Mo.p_cnt, Mo.p_ret, Mo.p_ret1, Mo.p_ret1e, Mo.p_retN, Mo.p_drop, Mo.p_drop1, Mo.p_drop1e, Mo.p_if, Mo.p_ifT, Mo.p_ifF, Mo.p_ifE, Mo.p_asg, Mo.p_asg1, Mo.p_asg1e, Mo.p_asgM, Mo.p_asgM1, Mo.p_asgM1e, Mo.p_asgM2, Mo.p_gq, Mo.p_gq2, Mo.p_gl0, Mo.p_gl1, Mo.p_gl2, Mo.p_gn, Mo.p_ga, Mo.p_ga1, Mo.p_ga2, Mo.p_aug, Mo.p_aug1, Mo.p_aug2, Mo.p_aug2e, Mo.p_aug3, Mo.p_nxM, Mo.p_fs, Mo.p_fs1, Mo.p_fs1e, Mo.p_fs2, Mo.p_fa, Mo.p_fa1, Mo.p_fa2, Mo.p_fa3, Mo.p_fa3e, Mo.p_fa4, Mo.p_ix, Mo.p_ix1, Mo.p_ix1e, Mo.p_ix2, Mo.p_ix3, Mo.p_sf, Mo.p_sf1, Mo.p_sf2, Mo.p_for, Mo.p_for1, Mo.p_iv, Mo.p_ivL, Mo.p_ivK, Mo.p_ivT, Mo.p_r1, Mo.p_r11, Mo.p_r2, Mo.p_r21, Mo.p_en, Mo.p_en1, Mo.p_zp, Mo.p_zp1, Mo.p_tgn, Mo.p_tgt, Mo.p_gs0, Mo.p_gs1, Mo.p_fl0, Mo.p_fl1, Mo.p_fl2, Mo.p_fl3, Mo.p_fl4, Mo.p_fl5, Mo.p_fl6, Mo.p_fl7, Mo.p_wh, Mo.p_ar, Mo.p_T, Mo.p_T1, Mo.p_T2, Mo.p_T3, Mo.p_fin, Mo.p_K, Mo.p_K1, Mo.p_K2, Mo.p_K3, Mo.p_R, Mo.p_R1, Mo.p_bnd, Mo.q_cat, Mo.q_rep, Mo.q_sub, Mo.q_add, Mo.q_addT, Mo.q_iadd, Mo.q_and, Mo.q_or, Mo.q_xor, Mo.q_lt, Mo.q_le, Mo.q_gt, Mo.q_ge, Mo.q_mod, Mo.q_div, Mo.q_shr, Mo.q_shl, Mo.q_pow, Mo.q_mulLf, Mo.q_mulRf, Mo.q_mulLt, Mo.q_mulRt, Mo.q_neg, Mo.q_eqI, Mo.q_neI, Mo.LIM, Mo.opt_some, Mo.opt_none, Mo.ds?, Mo.mkL, Mo.oIx, Mo.oSl, Mo.oLen, Mo.lenO, Mo.oAbs, Mo.oInt, Mo.oList, Mo.oTupOf, Mo.oIsN, Mo.isN, Mo.rdP, Mo.rdL, Mo.rdT, Mo.clsV, Mo.clsO, Mo.isLc, Mo.mApp, Mo.appO, Mo.mExt, Mo.fldO, Mo.isNo, Mo.stO, Mo.frzD, Mo.frz, Mo.setO, Mo.envOf, List.map_cons, List.map_nil, List.length_cons, List.length_nil, List.replicate_succ, List.replicate_zero, List.cons_append, List.nil_append, List.append_nil, List.append_assoc, List.getElem?_cons_zero, List.getElem?_cons_succ, List.set_cons_zero, List.set_cons_succ, Nat.reduceAdd, Nat.reduceSub, Nat.reduceLeDiff, Nat.reduceLT, Nat.reduceEqDiff, if_true, if_false, reduceIte, decide_true, decide_false, Bool.false_eq_true, and_self, true_and, and_true, Bool.and_self, Bool.true_and, Bool.and_true, Bool.not_true, Bool.not_false, Int.reduceToNat, Nat.reducePow, Int.cast_ofNat_Int, Int.reduceMul, Int.reduceAdd, Int.reduceSub, Int.reduceNeg, Mo.atI_l0, Mo.atI_l1, Mo.atI_l2, Mo.atI_l3, Mo.atI_l4, Mo.atI_l5, Mo.atI_l6, Mo.atI_l7, Mo.atI_l8, Mo.atI_l9, Mo.atI_l10, Mo.atI_l11, List.length_map, Mo.cut_map, Mo.get_top, Mo.get_top0, Mo.set_top, Mo.set_top0, Mo.take_topk, Mo.take_top, List.take_length, List.take_succ_cons, List.take_zero, List.length_append, Nat.lt_irrefl, Mo.wipeE, stS, mdS, e, hw', ix0, ix1, F, A, g, li, List.map_append, hne, hds]
  · have hw' : n2 % 2 = 1 := by omega
    have F := fun b => e_feedF f1 ds h1 hd (by omega) (by omega) b (M ++ mdS f0 :: mdS f1 :: some (.lsc [.c M.length, .c (M.length + 1)]) :: some (.lst [li f0, li f1]) :: (junk ++ [some (.lst (ds.map .int))])) (M.length + 1) (M.length + (junk.length + 1 + 1 + 1 + 1)) (by omega) (by rw [get_top]; rfl) (by rw [get_top]; simp)
    have A := fun b => e_asked (f1 ++ ds) (by rw [List.length_append]; omega) (h1.app hd) b (M ++ mdS f0 :: mdS (f1 ++ ds) :: some (.lsc [.c M.length, .c (M.length + 1)]) :: some (.lst [li f0, li (f1 ++ ds)]) :: (junk ++ [some (.lst (ds.map .int ++ [.int 9]))])) (M.length + 1) (by show _ = _; rw [get_top]; rfl)
    have hne := fun a1 a2 a3 a4 => q_neC (ns := ds) (j := M.length + (junk.length + 1 + 1 + 1 + 1)) (M := M ++ a1 :: a2 :: a3 :: a4 :: (junk ++ [some (.lst (ds.map .int))])) (by rw [get_top]; simp)
    have hds : ds.length < 16000000 := by omega
    simp only [mdS, li, List.map_append, List.length_append] at F A
    simp only [set_top, set_top0, List.set_cons_zero, List.set_cons_succ] at F
    by_cases hc : n2 / 2 % 3 = 0
    · have g : decide (n2 / 2 % 3 = 0) = true := decide_eq_true hc
      refine ⟨f0, (f1 ++ ds), junk ++ [some (.lst (ds.map .int ++ [.int 9]))], some (.d (.lst [.int n0, .int n1, .int n2])), some (.d (.lst (ds.map .int))), some (.d (.int 1)), some (.c (M.length + (junk.length + 1 + 1 + 1 + 1))), h0, h1.app hd, by first | (rw [List.length_append]; omega) | omega, by first | (rw [List.length_append]; omega) | omega, ?_⟩
      simp (disch := first | omega | (simp only [List.length_map, List.length_cons, List.length_nil, List.length_append, List.length_replicate]; omega)) only [law_l3, Mo.p_op, Mo.p_op1, Mo.p_op1e, Mo.p_op2, Mo.p_op2e, Mo.p_un, Mo.p_un1, Mo.p_var, Mo.p_var1, Mo.p_c, Mo.p_test, Mo.p_test1, Mo.p_test2, Mo.p_and, Mo.p_andT, Mo.p_andF, Mo.p_or, Mo.p_orT, Mo.p_orF, Mo.p_not, Mo.p_not1, Mo.p_tru, Mo.p_truB, Mo.p_truI, Mo.p_truN, Mo.p_truL, Mo.p_andV, Mo.p_andVT, Mo.p_andVF, Mo.p_orV, Mo.p_orVT, Mo.p_orVF, Mo.p_notV, Mo.p_notV1, Mo.p_ife, Mo.p_ifeT, Mo.p_ifeF, Mo.p_ch, Mo.p_ch1, Mo.p_ch2, Mo.p_ch3, Mo.p_ch4, Mo.p_an, Mo.p_ac, Mo.p_ac1, Mo.p_ac1e, Mo.p_ac2, Mo.p_ac2e, Mo.p_lst, Mo.p_lst1, Mo.p_lst2, Mo.p_tup, Mo.p_tup1, Mo.p_tup2, Mo.p_lsc, Mo.p_lsc1, Mo.p_cb, Mo.p_cb1, Mo.p_cb1e, Mo.p_call, Mo.p_call1, Mo.p_call1e, Mo.p_meth, Mo.p_meth1, Mo.p_meth2, Mo.p_meth2e, Mo.p_bm, Mo.p_bm1, Mo.p_bm2, Mo.p_fld, Mo.p_fld1, Mo.p_fld2, Mo.p_frz, Mo.p_frz1, Mo.p_frz2, Mo.p_isi, Mo.p_isiII, Mo.p_isiBI, Mo.p_isiLI, Mo.p_isiIB, Mo.p_isiBB, Mo.p_isiLL, Mo.p_isiTT, Mo.p_isiBN, Mo.p_isiBS, Mo.p_isiBL, Mo.p_sl, Mo.p_sl1, Mo.p_sl2, Mo.p_sl3, Mo.p_on, Mo.p_os, Mo.p_os1, Mo.p_mkK, Mo.p_mkK1, Mo.p_mkK2, Mo.p_mkF, Mo.p_mkF1, Mo.p_seq, Mo.p_seqN, Mo.p_seqR, Mo.p_seqB, Mo.p_seqC, Mo.p_seqE, Mo.p_nil, Mo.p_brk, Mo.p_cnt, Mo.p_ret, Mo.p_ret1, Mo.p_ret1e, Mo.p_retN, Mo.p_drop, Mo.p_drop1, Mo.p_drop1e, Mo.p_if, Mo.p_ifT, Mo.p_ifF, Mo.p_ifE, Mo.p_asg, Mo.p_asg1, Mo.p_asg1e, Mo.p_asgM, Mo.p_asgM1, Mo.p_asgM1e, Mo.p_asgM2, Mo.p_gq, Mo.p_gq2, Mo.p_gl0, Mo.p_gl1, Mo.p_gl2, Mo.p_gn, Mo.p_ga, Mo.p_ga1, Mo.p_ga2, Mo.p_aug, Mo.p_aug1, Mo.p_aug2, Mo.p_aug2e, Mo.p_aug3, Mo.p_nxM, Mo.p_fs, Mo.p_fs1, Mo.p_fs1e, Mo.p_fs2, Mo.p_fa, Mo.p_fa1, Mo.p_fa2, Mo.p_fa3, Mo.p_fa3e, Mo.p_fa4, Mo.p_ix, Mo.p_ix1, Mo.p_ix1e, Mo.p_ix2, Mo.p_ix3, Mo.p_sf, Mo.p_sf1, Mo.p_sf2, Mo.p_for, Mo.p_for1, Mo.p_iv, Mo.p_ivL, Mo.p_ivK, Mo.p_ivT, Mo.p_r1, Mo.p_r11, Mo.p_r2, Mo.p_r21, Mo.p_en, Mo.p_en1, Mo.p_zp, Mo.p_zp1, Mo.p_tgn, Mo.p_tgt, Mo.p_gs0, Mo.p_gs1, Mo.p_fl0, Mo.p_fl1, Mo.p_fl2, Mo.p_fl3, Mo.p_fl4, Mo.p_fl5, Mo.p_fl6, Mo.p_fl7, Mo.p_wh, Mo.p_ar, Mo.p_T, Mo.p_T1, Mo.p_T2, Mo.p_T3, Mo.p_fin, Mo.p_K, Mo.p_K1, Mo.p_K2, Mo.p_K3, Mo.p_R, Mo.p_R1, Mo.p_bnd, Mo.q_cat, Mo.q_rep, Mo.q_sub, Mo.q_add, Mo.q_addT, Mo.q_iadd, Mo.q_and, Mo.q_or, Mo.q_xor, Mo.q_lt, Mo.q_le, Mo.q_gt, Mo.q_ge, Mo.q_mod, Mo.q_div, Mo.q_shr, Mo.q_shl, Mo.q_pow, Mo.q_mulLf, Mo.q_mulRf, Mo.q_mulLt, Mo.q_mulRt, Mo.q_neg, Mo.q_eqI, Mo.q_neI, Mo.LIM, Mo.opt_some, Mo.opt_none, Mo.ds?, Mo.mkL, Mo.oIx, Mo.oSl, Mo.oLen, Mo.lenO, Mo.oAbs, Mo.oInt, Mo.oList, Mo.oTupOf, Mo.oIsN, Mo.isN, Mo.rdP, Mo.rdL, Mo.rdT, Mo.clsV, Mo.clsO, Mo.isLc, Mo.mApp, Mo.appO, Mo.mExt, Mo.fldO, Mo.isNo, Mo.stO, Mo.frzD, Mo.frz, Mo.setO, Mo.envOf, List.map_cons, List.map_nil, List.length_cons, List.length_nil, List.replicate_succ, List.replicate_zero, List.cons_append, List.nil_append, List.append_nil, List.append_assoc, List.getElem?_cons_zero, List.getElem?_cons_succ, List.set_cons_zero, List.set_cons_succ, Nat.reduceAdd, Nat.reduceSub, Nat.reduceLeDiff, Nat.reduceLT, Nat.reduceEqDiff, if_true, if_false, reduceIte, decide_true, decide_false, Bool.false_eq_true, and_self, true_and, and_true, Bool.and_self, Bool.true_and, Bool.and_true, Bool.not_true, Bool.not_false, Int.reduceToNat, Nat.reducePow, Int.cast_ofNat_Int, Int.reduceMul, Int.reduceAdd, Int.reduceSub, Int.reduceNeg, Mo.atI_l0, Mo.atI_l1, Mo.atI_l2, Mo.atI_l3, Mo.atI_l4, Mo.atI_l5, Mo.atI_l6, Mo.atI_l7, Mo.atI_l8, Mo.atI_l9, Mo.atI_l10, Mo.atI_l11, List.length_map, Mo.cut_map, Mo.get_top, Mo.get_top0, Mo.set_top, Mo.set_top0, Mo.take_topk, Mo.take_top, List.take_length, List.take_succ_cons, List.take_zero, List.length_append, Nat.lt_irrefl, Mo.wipeE, stS, mdS, e, hw', ix0, ix1, F, A, g, li, List.map_append, hne, hds]
    · have g : decide (n2 / 2 % 3 = 0) = false := decide_eq_false hc
      refine ⟨f0, (f1 ++ ds), junk ++ [some (.lst (ds.map .int ++ [.int 9]))], some (.d (.lst [.int n0, .int n1, .int n2])), some (.d (.lst (ds.map .int))), some (.d (.int 1)), some (.c (M.length + (junk.length + 1 + 1 + 1 + 1))), h0, h1.app hd, by first | (rw [List.length_append]; omega) | omega, by first | (rw [List.length_append]; omega) | omega, ?_⟩
      simp (disch := first | omega | (simp only [List.length_map, List.length_cons, List.length_nil, List.length_append, List.length_replicate]; omega)) only [law_l3, Mo.p_op, Mo.p_op1, Mo.p_op1e, Mo.p_op2, Mo.p_op2e, Mo.p_un, Mo.p_un1, Mo.p_var, Mo.p_var1, Mo.p_c, Mo.p_test, Mo.p_test1, Mo.p_test2, Mo.p_and, Mo.p_andT, Mo.p_andF, Mo.p_or, Mo.p_orT, Mo.p_orF, Mo.p_not, Mo.p_not1, Mo.p_tru, Mo.p_truB, Mo.p_truI, Mo.p_truN, Mo.p_truL, Mo.p_andV, Mo.p_andVT, Mo.p_andVF, Mo.p_orV, Mo.p_orVT, Mo.p_orVF, Mo.p_notV, Mo.p_notV1, Mo.p_ife, Mo.p_ifeT, Mo.p_ifeF, Mo.p_ch, Mo.p_ch1, Mo.p_ch2, Mo.p_ch3, Mo.p_ch4, Mo.p_an, Mo.p_ac, Mo.p_ac1, Mo.p_ac1e, Mo.p_ac2, Mo.p_ac2e, Mo.p_lst, Mo.p_lst1, Mo.p_lst2, Mo.p_tup, Mo.p_tup1, Mo.p_tup2, Mo.p_lsc, Mo.p_lsc1, Mo.p_cb, Mo.p_cb1, Mo.p_cb1e, Mo.p_call, Mo.p_call1, Mo.p_call1e, Mo.p_meth, Mo.p_meth1, Mo.p_meth2, Mo.p_meth2e, Mo.p_bm, Mo.p_bm1, Mo.p_bm2, Mo.p_fld, Mo.p_fld1, Mo.p_fld2, Mo.p_frz, Mo.p_frz1, Mo.p_frz2, Mo.p_isi, Mo.p_isiII, Mo.p_isiBI, Mo.p_isiLI, Mo.p_isiIB, Mo.p_isiBB, Mo.p_isiLL, Mo.p_isiTT, Mo.p_isiBN, Mo.p_isiBS, Mo.p_isiBL, Mo.p_sl, Mo.p_sl1, Mo.p_sl2, Mo.p_sl3, Mo.p_on, Mo.p_os, Mo.p_os1, Mo.p_mkK, Mo.p_mkK1, Mo.p_mkK2, Mo.p_mkF, Mo.p_mkF1, Mo.p_seq, Mo.p_seqN, Mo.p_seqR, Mo.p_seqB, Mo.p_seqC, Mo.p_seqE, Mo.p_nil, Mo.p_brk, Mo.p_cnt, Mo.p_ret, Mo.p_ret1, Mo.p_ret1e, Mo.p_retN, Mo.p_drop, Mo.p_drop1, Mo.p_drop1e, Mo.p_if, Mo.p_ifT, Mo.p_ifF, Mo.p_ifE, Mo.p_asg, Mo.p_asg1, Mo.p_asg1e, Mo.p_asgM, Mo.p_asgM1, Mo.p_asgM1e, Mo.p_asgM2, Mo.p_gq, Mo.p_gq2, Mo.p_gl0, Mo.p_gl1, Mo.p_gl2, Mo.p_gn, Mo.p_ga, Mo.p_ga1, Mo.p_ga2, Mo.p_aug, Mo.p_aug1, Mo.p_aug2, Mo.p_aug2e, Mo.p_aug3, Mo.p_nxM, Mo.p_fs, Mo.p_fs1, Mo.p_fs1e, Mo.p_fs2, Mo.p_fa, Mo.p_fa1, Mo.p_fa2, Mo.p_fa3, Mo.p_fa3e, Mo.p_fa4, Mo.p_ix, Mo.p_ix1, Mo.p_ix1e, Mo.p_ix2, Mo.p_ix3, Mo.p_sf, Mo.p_sf1, Mo.p_sf2, Mo.p_for, Mo.p_for1, Mo.p_iv, Mo.p_ivL, Mo.p_ivK, Mo.p_ivT, Mo.p_r1, Mo.p_r11, Mo.p_r2, Mo.p_r21, Mo.p_en, Mo.p_en1, Mo.p_zp, Mo.p_zp1, Mo.p_tgn, Mo.p_tgt, Mo.p_gs0, Mo.p_gs1, Mo.p_fl0, Mo.p_fl1, Mo.p_fl2, Mo.p_fl3, Mo.p_fl4, Mo.p_fl5, Mo.p_fl6, Mo.p_fl7, Mo.p_wh, Mo.p_ar, Mo.p_T, Mo.p_T1, Mo.p_T2, Mo.p_T3, Mo.p_fin, Mo.p_K, Mo.p_K1, Mo.p_K2, Mo.p_K3, Mo.p_R, Mo.p_R1, Mo.p_bnd, Mo.q_cat, Mo.q_rep, Mo.q_sub, Mo.q_add, Mo.q_addT, Mo.q_iadd, Mo.q_and, Mo.q_or, Mo.q_xor, Mo.q_lt, Mo.q_le, Mo.q_gt, Mo.q_ge, Mo.q_mod, Mo.q_div, Mo.q_shr, Mo.q_shl, Mo.q_pow, Mo.q_mulLf, Mo.q_mulRf, Mo.q_mulLt, Mo.q_mulRt, Mo.q_neg, Mo.q_eqI, Mo.q_neI, Mo.LIM, Mo.opt_some, Mo.opt_none, Mo.ds?, Mo.mkL, Mo.oIx, Mo.oSl, Mo.oLen, Mo.lenO, Mo.oAbs, Mo.oInt, Mo.oList, Mo.oTupOf, Mo.oIsN, Mo.isN, Mo.rdP, Mo.rdL, Mo.rdT, Mo.clsV, Mo.clsO, Mo.isLc, Mo.mApp, Mo.appO, Mo.mExt, Mo.fldO, Mo.isNo, Mo.stO, Mo.frzD, Mo.frz, Mo.setO, Mo.envOf, List.map_cons, List.map_nil, List.length_cons, List.length_nil, List.replicate_succ, List.replicate_zero, List.cons_append, List.nil_append, List.append_nil, List.append_assoc, List.getElem?_cons_zero, List.getElem?_cons_succ, List.set_cons_zero, List.set_cons_succ, Nat.reduceAdd, Nat.reduceSub, Nat.reduceLeDiff, Nat.reduceLT, Nat.reduceEqDiff, if_true, if_false, reduceIte, decide_true, decide_false, Bool.false_eq_true, and_self, true_and, and_true, Bool.and_self, Bool.true_and, Bool.and_true, Bool.not_true, Bool.not_false, Int.reduceToNat, Nat.reducePow, Int.cast_ofNat_Int, Int.reduceMul, Int.reduceAdd, Int.reduceSub, Int.reduceNeg, Mo.atI_l0, Mo.atI_l1, Mo.atI_l2, Mo.atI_l3, Mo.atI_l4, Mo.atI_l5, Mo.atI_l6, Mo.atI_l7, Mo.atI_l8, Mo.atI_l9, Mo.atI_l10, Mo.atI_l11, List.length_map, Mo.cut_map, Mo.get_top, Mo.get_top0, Mo.set_top, Mo.set_top0, Mo.take_topk, Mo.take_top, List.take_length, List.take_succ_cons, List.take_zero, List.length_append, Nat.lt_irrefl, Mo.wipeE, stS, mdS, e, hw', ix0, ix1, F, A, g, li, List.map_append, hne, hds]
end Lk08

namespace Lk08
open PySem PySem.Spec PyProof.Rows L2 Mo
theorem cut8 {α : Type} (xs : List α) : (cutD xs none (some 8)).length ≤ 8 := by
  unfold Mo.cutD HT.sIx
  simp only [List.length_take, List.length_drop]
  rw [if_neg (by omega)]
  have : (8 : Int).toNat = 8 := rfl
  omega
theorem e_law (ns : List Int) (b : Nat) (M : Store) : F_law [.d (.lck (ns.map .int))] b M = .ok (.d (.bl true), M) := by
  have i1 := fun b => e_init b M
  have i2 := fun b => e_init b (M ++ [mdS []])
  have em : mdO Q0 [] 0 = mdS [] := rfl
  simp only [List.length_append, List.length_cons, List.length_nil, List.append_assoc, List.cons_append, List.nil_append, Nat.zero_add] at i1 i2
  rw [em] at i2
  rw [em] at i1
  obtain ⟨env', M', e, f0, f1, junk, x3, x4, x5, x6, x7, hE, hM, b0, b1, l0, l1⟩ := forL_ok (g := (Tg.n 3).g) (s := law_l3) (b := M.length) (fun k env M' => ∃ f0 f1 junk x3 x4 x5 x6 x7, env = [some (.d (.lck (ns.map .int))), some (.c (M.length + 2)), some (.c (M.length + 3)), x3, x4, x5, x6, x7] ∧ M' = stS M f0 f1 junk ∧ By f0 ∧ By f1 ∧ f0.length ≤ 100 * k ∧ f1.length ≤ 100 * k)
    ((cutD ns none (some 8)).map D.int) 0 (env := [some (.d (.lck (ns.map .int))), some (.c (M.length + 2)), some (.c (M.length + 3)), none, none, none, none, none]) (M := stS M [] [] []) ⟨[], [], [], _, _, _, _, _, rfl, rfl, fun _ h => (nomatch h), fun _ h => (nomatch h), Nat.le_refl _, Nat.le_refl _⟩ (by
      intro i x env M' hx ⟨f0, f1, junk, x3, x4, x5, x6, x7, hE, hM, b0, b1, l0, l1⟩
      subst hM; subst hE
      rw [List.getElem?_map] at hx
      cases hq : (cutD ns none (some 8))[i]? with
      | none => rw [hq] at hx; cases hx
      | some c =>
        rw [hq] at hx
        cases hx
        have hi := (List.getElem?_eq_some_iff.mp hq).1
        have h8 := cut8 ns
        obtain ⟨g0, g1, junk', y4, y5, y6, y7, B0, B1, L0, L1, h⟩ := turn M f0 f1 junk b0 b1 (by omega) (by omega) c (some (.d (.lck (ns.map .int)))) x4 x5 x6 x7 rfl
        exact ⟨_, _, _, rfl, h, g0, g1, junk', some (.d (.int c)), y4, y5, y6, y7, rfl, rfl, B0, B1, by omega, by omega⟩)
  have h8 := cut8 ns
  rw [List.length_map] at l0 l1
  subst hM; subst hE
  have A0 := fun b => e_asked f0 (by omega) b0 b (M ++ mdS f0 :: mdS f1 :: some (.lsc [.c M.length, .c (M.length + 1)]) :: none :: junk) M.length (by show _ = _; rw [get_top0]; rfl)
  have A1 := fun b => e_asked f1 (by omega) b1 b (M ++ mdS f0 :: mdS f1 :: some (.lsc [.c M.length, .c (M.length + 1)]) :: none :: junk) (M.length + 1) (by show _ = _; rw [get_top]; rfl)
  simp only [li] at A0 A1
  simp only [stS, li, List.map_nil] at e
  have hl : (cutD (ns.map D.int) none (some 8)) = (cutD ns none (some 8)).map D.int := cut_map _ _ _ _
  have hini : ∀ l : Store, M ++ mdS [] :: mdS [] :: l = M ++ mdS [] :: mdS [] :: l := fun _ => rfl
  simp (disch := first | omega | (simp only [List.length_map, List.length_cons, List.length_nil, List.length_append, List.length_replicate]; omega)) only [F_law, b_law, Mo.p_op, Mo.p_op1, Mo.p_op1e, Mo.p_op2, Mo.p_op2e, Mo.p_un, Mo.p_un1, Mo.p_var, Mo.p_var1, Mo.p_c, Mo.p_test, Mo.p_test1, Mo.p_test2, Mo.p_and, Mo.p_andT, Mo.p_andF, Mo.p_or, Mo.p_orT, Mo.p_orF, Mo.p_not, Mo.p_not1, Mo.p_tru, Mo.p_truB, Mo.p_truI, Mo.p_truN, Mo.p_truL, Mo.p_andV, Mo.p_andVT, Mo.p_andVF, Mo.p_orV, Mo.p_orVT, Mo.p_orVF, Mo.p_notV, Mo.p_notV1, Mo.p_ife, Mo.p_ifeT, Mo.p_ifeF, Mo.p_ch, Mo.p_ch1, Mo.p_ch2, Mo.p_ch3, Mo.p_ch4, Mo.p_an, Mo.p_ac, Mo.p_ac1, Mo.p_ac1e, Mo.p_ac2, Mo.p_ac2e, Mo.p_lst, Mo.p_lst1, Mo.p_lst2, Mo.p_tup, Mo.p_tup1, Mo.p_tup2, Mo.p_lsc, Mo.p_lsc1, Mo.p_cb, Mo.p_cb1, Mo.p_cb1e, Mo.p_call, Mo.p_call1, Mo.p_call1e, Mo.p_meth, Mo.p_meth1, Mo.p_meth2, Mo.p_meth2e, Mo.p_bm, Mo.p_bm1, Mo.p_bm2, Mo.p_fld, Mo.p_fld1, Mo.p_fld2, Mo.p_frz, Mo.p_frz1, Mo.p_frz2, Mo.p_isi, Mo.p_isiII, Mo.p_isiBI, Mo.p_isiLI, Mo.p_isiIB, Mo.p_isiBB, Mo.p_isiLL, Mo.p_isiTT, Mo.p_isiBN, Mo.p_isiBS, Mo.p_isiBL, Mo.p_sl, Mo.p_sl1, Mo.p_sl2, Mo.p_sl3, Mo.p_on, Mo.p_os, Mo.p_os1, Mo.p_mkK, Mo.p_mkK1, Mo.p_mkK2, Mo.p_mkF, Mo.p_mkF1, Mo.p_seq, Mo.p_seqN, Mo.p_seqR, Mo.p_seqB, Mo.p_seqC, Mo.p_seqE, Mo.p_nil, Mo.p_brk, Mo.p_cnt, Mo.p_ret, Mo.p_ret1, Mo.p_ret1e, Mo.p_retN, Mo.p_drop, Mo.p_drop1, Mo.p_drop1e, Mo.p_if, Mo.p_ifT, Mo.p_ifF, Mo.p_ifE, Mo.p_asg, Mo.p_asg1, Mo.p_asg1e, Mo.p_asgM, Mo.p_asgM1, Mo.p_asgM1e, Mo.p_asgM2, Mo.p_gq, Mo.p_gq2, Mo.p_gl0, Mo.p_gl1, Mo.p_gl2, Mo.p_gn, Mo.p_ga, Mo.p_ga1, Mo.p_ga2, Mo.p_aug, Mo.p_aug1, Mo.p_aug2, Mo.p_aug2e, Mo.p_aug3, Mo.p_nxM, Mo.p_fs, Mo.p_fs1, Mo.p_fs1e, Mo.p_fs2, Mo.p_fa, Mo.p_fa1, Mo.p_fa2, Mo.p_fa3, Mo.p_fa3e, Mo.p_fa4, Mo.p_ix, Mo.p_ix1, Mo.p_ix1e, Mo.p_ix2, Mo.p_ix3, Mo.p_sf, Mo.p_sf1, Mo.p_sf2, Mo.p_for, Mo.p_for1, Mo.p_iv, Mo.p_ivL, Mo.p_ivK, Mo.p_ivT, Mo.p_r1, Mo.p_r11, Mo.p_r2, Mo.p_r21, Mo.p_en, Mo.p_en1, Mo.p_zp, Mo.p_zp1, Mo.p_tgn, Mo.p_tgt, Mo.p_gs0, Mo.p_gs1, Mo.p_fl0, Mo.p_fl1, Mo.p_fl2, Mo.p_fl3, Mo.p_fl4, Mo.p_fl5, Mo.p_fl6, Mo.p_fl7, Mo.p_wh, Mo.p_ar, Mo.p_T, Mo.p_T1, Mo.p_T2, Mo.p_T3, Mo.p_fin, Mo.p_K, Mo.p_K1, Mo.p_K2, Mo.p_K3, Mo.p_R, Mo.p_R1, Mo.p_bnd, Mo.q_cat, Mo.q_rep, Mo.q_sub, Mo.q_add, Mo.q_addT, Mo.q_iadd, Mo.q_and, Mo.q_or, Mo.q_xor, Mo.q_lt, Mo.q_le, Mo.q_gt, Mo.q_ge, Mo.q_mod, Mo.q_div, Mo.q_shr, Mo.q_shl, Mo.q_pow, Mo.q_mulLf, Mo.q_mulRf, Mo.q_mulLt, Mo.q_mulRt, Mo.q_neg, Mo.q_eqI, Mo.q_neI, Mo.LIM, Mo.opt_some, Mo.opt_none, Mo.ds?, Mo.mkL, Mo.oIx, Mo.oSl, Mo.oLen, Mo.lenO, Mo.oAbs, Mo.oInt, Mo.oList, Mo.oTupOf, Mo.oIsN, Mo.isN, Mo.rdP, Mo.rdL, Mo.rdT, Mo.clsV, Mo.clsO, Mo.isLc, Mo.mApp, Mo.appO, Mo.mExt, Mo.fldO, Mo.isNo, Mo.stO, Mo.frzD, Mo.frz, Mo.setO, Mo.envOf, List.map_cons, List.map_nil, List.length_cons, List.length_nil, List.replicate_succ, List.replicate_zero, List.cons_append, List.nil_append, List.append_nil, List.append_assoc, List.getElem?_cons_zero, List.getElem?_cons_succ, List.set_cons_zero, List.set_cons_succ, Nat.reduceAdd, Nat.reduceSub, Nat.reduceLeDiff, Nat.reduceLT, Nat.reduceEqDiff, if_true, if_false, reduceIte, decide_true, decide_false, Bool.false_eq_true, and_self, true_and, and_true, Bool.and_self, Bool.true_and, Bool.and_true, Bool.not_true, Bool.not_false, Int.reduceToNat, Nat.reducePow, Int.cast_ofNat_Int, Int.reduceMul, Int.reduceAdd, Int.reduceSub, Int.reduceNeg, Mo.atI_l0, Mo.atI_l1, Mo.atI_l2, Mo.atI_l3, Mo.atI_l4, Mo.atI_l5, Mo.atI_l6, Mo.atI_l7, Mo.atI_l8, Mo.atI_l9, Mo.atI_l10, Mo.atI_l11, List.length_map, Mo.cut_map, Mo.get_top, Mo.get_top0, Mo.set_top, Mo.set_top0, Mo.take_topk, Mo.take_top, List.take_length, List.take_succ_cons, List.take_zero, List.length_append, Nat.lt_irrefl, Mo.wipeE, i1, i2]
  rw [e]
  simp (disch := first | omega | (simp only [List.length_map, List.length_cons, List.length_nil, List.length_append, List.length_replicate]; omega)) only [Mo.p_op, Mo.p_op1, Mo.p_op1e, Mo.p_op2, Mo.p_op2e, Mo.p_un, Mo.p_un1, Mo.p_var, Mo.p_var1, Mo.p_c, Mo.p_test, Mo.p_test1, Mo.p_test2, Mo.p_and, Mo.p_andT, Mo.p_andF, Mo.p_or, Mo.p_orT, Mo.p_orF, Mo.p_not, Mo.p_not1, Mo.p_tru, Mo.p_truB, Mo.p_truI, Mo.p_truN, Mo.p_truL, Mo.p_andV, Mo.p_andVT, Mo.p_andVF, Mo.p_orV, Mo.p_orVT, Mo.p_orVF, Mo.p_notV, Mo.p_notV1, Mo.p_ife, Mo.p_ifeT, Mo.p_ifeF, Mo.p_ch, Mo.p_ch1, Mo.p_ch2, Mo.p_ch3, Mo.p_ch4, Mo.p_an, Mo.p_ac, Mo.p_ac1, Mo.p_ac1e, Mo.p_ac2, Mo.p_ac2e, Mo.p_lst, Mo.p_lst1, Mo.p_lst2, Mo.p_tup, Mo.p_tup1, Mo.p_tup2, Mo.p_lsc, Mo.p_lsc1, Mo.p_cb, Mo.p_cb1, Mo.p_cb1e, Mo.p_call, Mo.p_call1, Mo.p_call1e, Mo.p_meth, Mo.p_meth1, Mo.p_meth2, Mo.p_meth2e, Mo.p_bm, Mo.p_bm1, Mo.p_bm2, Mo.p_fld, Mo.p_fld1, Mo.p_fld2, Mo.p_frz, Mo.p_frz1, Mo.p_frz2, Mo.p_isi, Mo.p_isiII, Mo.p_isiBI, Mo.p_isiLI, Mo.p_isiIB, Mo.p_isiBB, Mo.p_isiLL, Mo.p_isiTT, Mo.p_isiBN, Mo.p_isiBS, Mo.p_isiBL, Mo.p_sl, Mo.p_sl1, Mo.p_sl2, Mo.p_sl3, Mo.p_on, Mo.p_os, Mo.p_os1, Mo.p_mkK, Mo.p_mkK1, Mo.p_mkK2, Mo.p_mkF, Mo.p_mkF1, Mo.p_seq, Mo.p_seqN, Mo.p_seqR, Mo.p_seqB, Mo.p_seqC, Mo.p_seqE, Mo.p_nil, Mo.p_brk, Mo.p_cnt, Mo.p_ret, Mo.p_ret1, Mo.p_ret1e, Mo.p_retN, Mo.p_drop, Mo.p_drop1, Mo.p_drop1e, Mo.p_if, Mo.p_ifT, Mo.p_ifF, Mo.p_ifE, Mo.p_asg, Mo.p_asg1, Mo.p_asg1e, Mo.p_asgM, Mo.p_asgM1, Mo.p_asgM1e, Mo.p_asgM2, Mo.p_gq, Mo.p_gq2, Mo.p_gl0, Mo.p_gl1, Mo.p_gl2, Mo.p_gn, Mo.p_ga, Mo.p_ga1, Mo.p_ga2, Mo.p_aug, Mo.p_aug1, Mo.p_aug2, Mo.p_aug2e, Mo.p_aug3, Mo.p_nxM, Mo.p_fs, Mo.p_fs1, Mo.p_fs1e, Mo.p_fs2, Mo.p_fa, Mo.p_fa1, Mo.p_fa2, Mo.p_fa3, Mo.p_fa3e, Mo.p_fa4, Mo.p_ix, Mo.p_ix1, Mo.p_ix1e, Mo.p_ix2, Mo.p_ix3, Mo.p_sf, Mo.p_sf1, Mo.p_sf2, Mo.p_for, Mo.p_for1, Mo.p_iv, Mo.p_ivL, Mo.p_ivK, Mo.p_ivT, Mo.p_r1, Mo.p_r11, Mo.p_r2, Mo.p_r21, Mo.p_en, Mo.p_en1, Mo.p_zp, Mo.p_zp1, Mo.p_tgn, Mo.p_tgt, Mo.p_gs0, Mo.p_gs1, Mo.p_fl0, Mo.p_fl1, Mo.p_fl2, Mo.p_fl3, Mo.p_fl4, Mo.p_fl5, Mo.p_fl6, Mo.p_fl7, Mo.p_wh, Mo.p_ar, Mo.p_T, Mo.p_T1, Mo.p_T2, Mo.p_T3, Mo.p_fin, Mo.p_K, Mo.p_K1, Mo.p_K2, Mo.p_K3, Mo.p_R, Mo.p_R1, Mo.p_bnd, Mo.q_cat, Mo.q_rep, Mo.q_sub, Mo.q_add, Mo.q_addT, Mo.q_iadd, Mo.q_and, Mo.q_or, Mo.q_xor, Mo.q_lt, Mo.q_le, Mo.q_gt, Mo.q_ge, Mo.q_mod, Mo.q_div, Mo.q_shr, Mo.q_shl, Mo.q_pow, Mo.q_mulLf, Mo.q_mulRf, Mo.q_mulLt, Mo.q_mulRt, Mo.q_neg, Mo.q_eqI, Mo.q_neI, Mo.LIM, Mo.opt_some, Mo.opt_none, Mo.ds?, Mo.mkL, Mo.oIx, Mo.oSl, Mo.oLen, Mo.lenO, Mo.oAbs, Mo.oInt, Mo.oList, Mo.oTupOf, Mo.oIsN, Mo.isN, Mo.rdP, Mo.rdL, Mo.rdT, Mo.clsV, Mo.clsO, Mo.isLc, Mo.mApp, Mo.appO, Mo.mExt, Mo.fldO, Mo.isNo, Mo.stO, Mo.frzD, Mo.frz, Mo.setO, Mo.envOf, List.map_cons, List.map_nil, List.length_cons, List.length_nil, List.replicate_succ, List.replicate_zero, List.cons_append, List.nil_append, List.append_nil, List.append_assoc, List.getElem?_cons_zero, List.getElem?_cons_succ, List.set_cons_zero, List.set_cons_succ, Nat.reduceAdd, Nat.reduceSub, Nat.reduceLeDiff, Nat.reduceLT, Nat.reduceEqDiff, if_true, if_false, reduceIte, decide_true, decide_false, Bool.false_eq_true, and_self, true_and, and_true, Bool.and_self, Bool.true_and, Bool.and_true, Bool.not_true, Bool.not_false, Int.reduceToNat, Nat.reducePow, Int.cast_ofNat_Int, Int.reduceMul, Int.reduceAdd, Int.reduceSub, Int.reduceNeg, Mo.atI_l0, Mo.atI_l1, Mo.atI_l2, Mo.atI_l3, Mo.atI_l4, Mo.atI_l5, Mo.atI_l6, Mo.atI_l7, Mo.atI_l8, Mo.atI_l9, Mo.atI_l10, Mo.atI_l11, List.length_map, Mo.cut_map, Mo.get_top, Mo.get_top0, Mo.set_top, Mo.set_top0, Mo.take_topk, Mo.take_top, List.take_length, List.take_succ_cons, List.take_zero, List.length_append, Nat.lt_irrefl, Mo.wipeE, A0, A1]
theorem pure_law (ns : List Int) (hl : ns.length ≤ 63) (hb : ∀ z ∈ ns, Builtin.Int.intBits z ≤ 1048576) : ∃ M', F_law [.d (.lck (ns.map .int))] 0 [] = .ok (.d (.bl true), M') := ⟨_, e_law ns 0 []⟩
end Lk08

namespace Lk08
open PySem PySem.Spec PyProof.Rows L2 Mo
theorem run (w : World) : HandSHeadRun.RunEq R (PySem.W.view R.prog [18]) hk ob 2000 ["number_of", "bytes_of", "MASK", "CONSTANTS", "ROTATIONS", "_mix", "_add_block", "Md5", "_add_blocks", "md5", "_law_draw", "_law_is_integer", "_law_same", "_law_part", "_law_asked"] w := by
  intro os
  kernel_rfl
end Lk08
open PySem PySem.W PySem.Calls PyProof.Rows
theorem PySem.Challenge.cw_monochord_k08_digests_in_parts_holds : PySem.Challenge.rw_monochord_k08_digests_in_parts.Holds := by
  w_on; o_law
  refine HandSHeadRun.head_any (r := OpenLaw.row PySem.Challenge.rw_monochord_k08_digests_in_parts) (q := view (OpenLaw.row PySem.Challenge.rw_monochord_k08_digests_in_parts).prog [18]) (H := Lk08.hk) (ob := Lk08.ob) (M := 2000) (loose := ["number_of", "bytes_of", "MASK", "CONSTANTS", "ROTATIONS", "_mix", "_add_block", "Md5", "_add_blocks", "md5", "_law_draw", "_law_is_integer", "_law_same", "_law_part", "_law_asked"]) (d := HandSHeadRun.topDef (OpenLaw.row PySem.Challenge.rw_monochord_k08_digests_in_parts).prog 18) (kwd := []) Lk08.ob_eq
    (by kernel_rfl) (fun s => by kernel_rfl) Lk08.run (by kernel_rfl) (by kernel_rfl) (by kernel_rfl) (by rfl) (by first | assumption | decide +kernel) (by decide +kernel) ⟨rfl, rfl, rfl, rfl, rfl, by decide +kernel⟩ ?hw ?hc
  case hw => w_witness2
  case hc =>
    refine Mo.walk_mo (l := PySem.Challenge.rw_monochord_k08_digests_in_parts) (n := 63) (k := 7) (x := "_law_script") rfl (by decide) (by kernel_rfl) ⟨rfl, by decide, by decide⟩ ?F
    intro w mg fa h Y G hmg0
    obtain ⟨K, KX, c⟩ := Y
    have hmg : mg ("law" : PySem.Str) = some (.ref fa) := by
      have e : (HandSHeadRun.topDef (OpenLaw.row PySem.Challenge.rw_monochord_k08_digests_in_parts).prog 18).name = ("law" : PySem.Str) := by kernel_rfl
      rw [← e]
      exact hmg0
    have x := Lk08.mkFx KX G c
    have e := hmg.symm.trans x.g_law
    cases e
    exact ⟨K, _, Lk08.cK K, Lk08.F_law, KX, rfl, fun s v => L2.FunD.bindsA (ps := ["_law_script"]) x.d_law (fun _ _ _ _ _ _ us hl => match us, hl with | [_], _ => rfl) s [v] rfl, fun base hk1 hk2 => Lk08.ok_law x, fun ns hl hb => Lk08.pure_law ns hl hb⟩
