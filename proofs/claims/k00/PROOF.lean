import PyProof.Rows.All
import Wide.All
import OpenK.AllK
import Wide.FinOn
import HandS.ForMost
import HandS.Walk
import HandS.Exc
import HandS.WordsExc
import HandS.Flow
import HandS.CallSlots
import HandS.ExcOwn
import HandS.Defaults
import HandS.TupAny
import HandS.TupMul
import HandS.IsInst
import HandS.Deep
import HandS.Wide
import HandS.StrMore
import HandS.Zip
import HandS.NoneIn
import HandS.ExcIs
import HandS.RaiseMore
import HandS.Style
import HandS.Conv
import HandS.HeadEnd
import HandS.HeadHook1
import HandS.HeadHook2
import HandS.HeadHook4
import HandS.Head0
import HandS.Head1
import HandS.Head2
import HandS.ExcInit
import KE.KExcSuper
import HandS.MakeKw
import KE.KExcIs
import HandS.ExcField
import PySem.Challenge.RW_gatekeys_k00_errors_made_by_hand
section S_TCore
set_option Elab.async false
set_option linter.all false
set_option maxRecDepth 100000
set_option maxHeartbeats 4000000
namespace T
open PySem L2

/-! ### data -/
inductive D where
  | non | bl (b : Bool) | int (i : Int) | str (x : Str)
  | tup (ds : List D) | lst (ds : List D) | rdl (ds : List D)
  | dk (kvs : List (Key × D))
  | obj (C : Str) (fs : List (Str × D))
  | exc (C : Str) (fs : List (Str × D))
  | cell (n : Nat)
  deriving Inhabited

inductive Cel where
  | lv (d : D)
  | fz (d : D)
abbrev Sto := List Cel
abbrev Env := List (Option D)

inductive Res (α : Type) where
  | ok (a : α) (S : Sto)
  | exc (C : Str) (fs : List (Str × D)) (S : Sto)
  | bad
def Res.bind {α β : Type} (r : Res α) (k : α → Sto → Res β) : Res β := match r with
  | .ok a S => k a S
  | .exc C fs S => .exc C fs S
  | .bad => .bad

abbrev SemE := Env → Sto → Res D
abbrev SemA := Env → Sto → Res (List D)
abbrev SemT := Env → Sto → Res Bool

/-- heap, frozen part of it, addresses of the cells, what the cells hold -/
structure Stt where
  H : Hp
  Hf : Hp
  ρ : List Addr
  S : Sto

/-- an exception's object, kept -/
def XO (cls : Value) (d : Option Addr) (a : Addr) : HO := .ext fun h => ∃ (oe : Obj) (vs : Array Value), h.get? a = some oe ∧ Zc cls d oe ∧ oe.data = .fields vs
def XD (Hf : Hp) (d : Option Addr) (vfs : List (Str × V)) : Prop := (d = none ∧ vfs = []) ∨ ∃ dd, d = some dd ∧ Hf dd = some (.xd vfs) ∧ vfs ≠ []

section
variable (K : PySem.W.Frag) (mg : Str → Option Value)
mutual
inductive Rp : Hp → List Addr → V → D → Prop
  | non {Hf ρ} : Rp Hf ρ .non .non
  | bl {Hf ρ b} : Rp Hf ρ (.bl b) (.bl b)
  | int {Hf ρ i} : Rp Hf ρ (.int i) (.int i)
  | str {Hf ρ x} : Rp Hf ρ (.str x) (.str x)
  | tup {Hf ρ a vs ds} : SqT K Hf a vs → RpL Hf ρ vs ds → Rp Hf ρ (.ref a) (.tup ds)
  | lst {Hf ρ a vs ds} : Hf a = some (.lst vs) → RpL Hf ρ vs ds → Rp Hf ρ (.ref a) (.lst ds)
  | rdl {Hf ρ a vs ds} : SqL K Hf a vs → RpL Hf ρ vs ds → Rp Hf ρ (.ref a) (.rdl ds)
  | dk {Hf ρ a kvs kds} : Hf a = some (.dK kvs) → RpK Hf ρ kvs kds → Rp Hf ρ (.ref a) (.dk kds)
  | obj {Hf ρ a C ca dx vfs fs} : mg C = some (.ref ca) → Hf a = some (.ins ca dx vfs) → RpF Hf ρ vfs fs → Rp Hf ρ (.ref a) (.obj C fs)
  | exc {Hf ρ a C ca d vfs fs} : mg C = some (.ref ca) → Hf a = some (XO (.ref ca) d a) → XD Hf d vfs → RpF Hf ρ vfs fs → Rp Hf ρ (.ref a) (.exc C fs)
  | cell {Hf ρ a n} : ρ[n]? = some a → Rp Hf ρ (.ref a) (.cell n)
inductive RpL : Hp → List Addr → List V → List D → Prop
  | nil {Hf ρ} : RpL Hf ρ [] []
  | cons {Hf ρ v vs d ds} : Rp Hf ρ v d → RpL Hf ρ vs ds → RpL Hf ρ (v :: vs) (d :: ds)
inductive RpF : Hp → List Addr → List (Str × V) → List (Str × D) → Prop
  | nil {Hf ρ} : RpF Hf ρ [] []
  | cons {Hf ρ k v vs d ds} : Rp Hf ρ v d → RpF Hf ρ vs ds → RpF Hf ρ ((k, v) :: vs) ((k, d) :: ds)
inductive RpK : Hp → List Addr → List (Key × V) → List (Key × D) → Prop
  | nil {Hf ρ} : RpK Hf ρ [] []
  | cons {Hf ρ k v vs d ds} : Rp Hf ρ v d → RpK Hf ρ vs ds → RpK Hf ρ ((k, v) :: vs) ((k, d) :: ds)
end

/-- what a cell holds, in the heap Hx -/
def CelOk (Hf : Hp) (ρ : List Addr) (Hx : Hp) (a : Addr) : D → Prop
  | .lst ds => ∃ vs, Hx a = some (.lst vs) ∧ RpL K mg Hf ρ vs ds
  | .dk kds => ∃ kvs, Hx a = some (.dK kvs) ∧ RpK K mg Hf ρ kvs kds
  | .obj C fs => ∃ ca dx vfs, mg C = some (.ref ca) ∧ Hx a = some (.ins ca dx vfs) ∧ RpF K mg Hf ρ vfs fs
  | _ => False
structure Ok (s : Stt) : Prop where
  len : s.ρ.length = s.S.length
  nd : s.ρ.Nodup
  same : Same s.Hf s.H
  lv : ∀ (n : Nat) (d : D) (a : Addr), s.S[n]? = some (.lv d) → s.ρ[n]? = some a → s.Hf a = none ∧ CelOk K mg s.Hf s.ρ s.H a d
  fz : ∀ (n : Nat) (d : D) (a : Addr), s.S[n]? = some (.fz d) → s.ρ[n]? = some a → CelOk K mg s.Hf s.ρ s.Hf a d
end
structure Le (s t : Stt) : Prop where
  same : Same s.Hf t.Hf
  pre : ∃ l, t.ρ = s.ρ ++ l
  prv : ∀ b o, s.H b = some o → s.Hf b = none → b ∉ s.ρ → t.H b = some o ∧ t.Hf b = none ∧ b ∉ t.ρ
theorem Le.refl (s : Stt) : Le s s := ⟨Same.refl _, ⟨[], by simp⟩, fun b o h1 h2 h3 => ⟨h1, h2, h3⟩⟩
theorem Le.trans {s t u : Stt} (a : Le s t) (b : Le t u) : Le s u := by
  obtain ⟨l, hl⟩ := a.pre
  obtain ⟨m, hm⟩ := b.pre
  refine ⟨a.same.trans b.same, ⟨l ++ m, by rw [hm, hl, List.append_assoc]⟩, fun x o h1 h2 h3 => ?_⟩
  obtain ⟨q1, q2, q3⟩ := a.prv x o h1 h2 h3
  exact b.prv x o q1 q2 q3

theorem sqT_same {K : PySem.W.Frag} {H H' : Hp} {a : Addr} {xs : List V} (e : Same H H') (h : SqT K H a xs) : SqT K H' a xs := by
  rcases h with (h | ⟨o, h⟩) | h
  · exact .inl (.inl (e _ _ h))
  · exact .inl (.inr ⟨o, e _ _ h⟩)
  · exact .inr h
theorem pre_get {ρ l : List Addr} {n : Nat} {a : Addr} (h : ρ[n]? = some a) : (ρ ++ l)[n]? = some a := by
  rw [List.getElem?_append_left (List.getElem?_eq_some_iff.mp h).1]
  exact h
theorem XD.mono {Hf Hf' : Hp} {d : Option Addr} {vfs : List (Str × V)} (e : Same Hf Hf') (h : XD Hf d vfs) : XD Hf' d vfs := by
  rcases h with h | ⟨dd, h1, h2, h3⟩
  · exact .inl h
  · exact .inr ⟨dd, h1, e _ _ h2, h3⟩
section
variable {K : PySem.W.Frag} {mg : Str → Option Value} {Hf Hf' : Hp} {ρ l : List Addr}
mutual
theorem Rp.mono (e : Same Hf Hf') {v : V} {d : D} (h : Rp K mg Hf ρ v d) : Rp K mg Hf' (ρ ++ l) v d := by
  cases h with
  | non => exact .non
  | bl => exact .bl
  | int => exact .int
  | str => exact .str
  | tup h1 h2 => exact .tup (sqT_same e h1) (RpL.mono e h2)
  | lst h1 h2 => exact .lst (e _ _ h1) (RpL.mono e h2)
  | rdl h1 h2 => exact .rdl (e.seq h1) (RpL.mono e h2)
  | dk h1 h2 => exact .dk (e _ _ h1) (RpK.mono e h2)
  | obj h1 h2 h3 => exact .obj h1 (e _ _ h2) (RpF.mono e h3)
  | exc h1 h2 h3 h4 => exact .exc h1 (e _ _ h2) (h3.mono e) (RpF.mono e h4)
  | cell h1 => exact .cell (pre_get h1)
theorem RpL.mono (e : Same Hf Hf') {v : List V} {d : List D} (h : RpL K mg Hf ρ v d) : RpL K mg Hf' (ρ ++ l) v d := by
  cases h with
  | nil => exact .nil
  | cons h1 h2 => exact .cons (Rp.mono e h1) (RpL.mono e h2)
theorem RpF.mono (e : Same Hf Hf') {v : List (Str × V)} {d : List (Str × D)} (h : RpF K mg Hf ρ v d) : RpF K mg Hf' (ρ ++ l) v d := by
  cases h with
  | nil => exact .nil
  | cons h1 h2 => exact .cons (Rp.mono e h1) (RpF.mono e h2)
theorem RpK.mono (e : Same Hf Hf') {v : List (Key × V)} {d : List (Key × D)} (h : RpK K mg Hf ρ v d) : RpK K mg Hf' (ρ ++ l) v d := by
  cases h with
  | nil => exact .nil
  | cons h1 h2 => exact .cons (Rp.mono e h1) (RpK.mono e h2)
end
theorem Rp.le {s t : Stt} (e : Le s t) {v : V} {d : D} (h : Rp K mg s.Hf s.ρ v d) : Rp K mg t.Hf t.ρ v d := by
  obtain ⟨l, hl⟩ := e.pre
  rw [hl]
  exact Rp.mono e.same h
theorem RpL.le {s t : Stt} (e : Le s t) {v : List V} {d : List D} (h : RpL K mg s.Hf s.ρ v d) : RpL K mg t.Hf t.ρ v d := by
  obtain ⟨l, hl⟩ := e.pre
  rw [hl]
  exact RpL.mono e.same h
theorem RpF.le {s t : Stt} (e : Le s t) {v : List (Str × V)} {d : List (Str × D)} (h : RpF K mg s.Hf s.ρ v d) : RpF K mg t.Hf t.ρ v d := by
  obtain ⟨l, hl⟩ := e.pre
  rw [hl]
  exact RpF.mono e.same h
theorem RpK.le {s t : Stt} (e : Le s t) {v : List (Key × V)} {d : List (Key × D)} (h : RpK K mg s.Hf s.ρ v d) : RpK K mg t.Hf t.ρ v d := by
  obtain ⟨l, hl⟩ := e.pre
  rw [hl]
  exact RpK.mono e.same h
theorem RpL.length {v : List V} {d : List D} (h : RpL K mg Hf ρ v d) : v.length = d.length := by
  induction v generalizing d with
  | nil => cases h; rfl
  | cons x xs ih => cases h with | cons h1 h2 => simp [ih h2]
theorem RpL.append {v v' : List V} {d d' : List D} (h : RpL K mg Hf ρ v d) (h' : RpL K mg Hf ρ v' d') : RpL K mg Hf ρ (v ++ v') (d ++ d') := by
  induction v generalizing d with
  | nil => cases h; exact h'
  | cons x xs ih => cases h with | cons h1 h2 => exact .cons h1 (ih h2)
theorem RpL.get {v : List V} {d : List D} (h : RpL K mg Hf ρ v d) {i : Nat} {x : V} (e : v[i]? = some x) : ∃ y, d[i]? = some y ∧ Rp K mg Hf ρ x y := by
  induction v generalizing d i with
  | nil => simp at e
  | cons a as ih =>
    cases h with
    | cons h1 h2 =>
      cases i with
      | zero => simp at e; subst e; exact ⟨_, rfl, h1⟩
      | succ i => simp at e; obtain ⟨y, e1, e2⟩ := ih h2 e; exact ⟨y, by simpa using e1, e2⟩
theorem RpL.get' {v : List V} {d : List D} (h : RpL K mg Hf ρ v d) {i : Nat} {y : D} (e : d[i]? = some y) : ∃ x, v[i]? = some x ∧ Rp K mg Hf ρ x y := by
  induction d generalizing v i with
  | nil => simp at e
  | cons a as ih =>
    cases h with
    | cons h1 h2 =>
      cases i with
      | zero => simp at e; subst e; exact ⟨_, rfl, h1⟩
      | succ i => simp at e; obtain ⟨y, e1, e2⟩ := ih h2 e; exact ⟨y, by simpa using e1, e2⟩
theorem RpL.take {v : List V} {d : List D} (h : RpL K mg Hf ρ v d) (n : Nat) : RpL K mg Hf ρ (v.take n) (d.take n) := by
  induction v generalizing d n with
  | nil => cases h; simp; exact .nil
  | cons a as ih =>
    cases h with
    | cons h1 h2 =>
      cases n with
      | zero => exact .nil
      | succ n => exact .cons h1 (ih h2 n)
theorem RpL.drop {v : List V} {d : List D} (h : RpL K mg Hf ρ v d) (n : Nat) : RpL K mg Hf ρ (v.drop n) (d.drop n) := by
  induction v generalizing d n with
  | nil => cases h; simp; exact .nil
  | cons a as ih =>
    cases n with
    | zero => exact h
    | succ n =>
      cases h with
      | cons h1 h2 => exact ih h2 n
theorem RpL.set {v : List V} {d : List D} (h : RpL K mg Hf ρ v d) {x : V} {y : D} (e : Rp K mg Hf ρ x y) (n : Nat) : RpL K mg Hf ρ (v.set n x) (d.set n y) := by
  induction v generalizing d n with
  | nil => cases h; exact .nil
  | cons a as ih =>
    cases h with
    | cons h1 h2 =>
      cases n with
      | zero => exact .cons e h2
      | succ n => exact .cons h1 (ih h2 n)
theorem RpL.reverse {v : List V} {d : List D} (h : RpL K mg Hf ρ v d) : RpL K mg Hf ρ v.reverse d.reverse := by
  induction v generalizing d with
  | nil => cases h; exact .nil
  | cons a as ih =>
    cases h with
    | cons h1 h2 =>
      rw [List.reverse_cons, List.reverse_cons]
      exact (ih h2).append (.cons h1 .nil)
end

/-! ### new states -/
/-- a new frozen object -/
def Stt.new (s : Stt) (p : Addr) (o : HO) : Stt := { s with H := upd s.H p o, Hf := upd s.Hf p o }
/-- a new cell -/
def Stt.cel (s : Stt) (p : Addr) (o : HO) (d : D) : Stt := { H := upd s.H p o, Hf := s.Hf, ρ := s.ρ ++ [p], S := s.S ++ [.lv d] }
section
variable {K : PySem.W.Frag} {mg : Str → Option Value} {s : Stt}
theorem same_new {H : Hp} {p : Addr} {o : HO} (h : H p = none) : Same H (upd H p o) := fun b u e => by
  rw [upd_ne (ne_of_none e h)]
  exact e
theorem CelOk.le {Hf Hf' : Hp} {ρ l : List Addr} {Hx Hx' : Hp} {a : Addr} {d : D} (e : Same Hf Hf') (ex : ∀ o, Hx a = some o → Hx' a = some o) (h : CelOk K mg Hf ρ Hx a d) : CelOk K mg Hf' (ρ ++ l) Hx' a d := by
  cases d with
  | lst ds => obtain ⟨vs, h1, h2⟩ := h; exact ⟨vs, ex _ h1, RpL.mono e h2⟩
  | dk ds => obtain ⟨vs, h1, h2⟩ := h; exact ⟨vs, ex _ h1, RpK.mono e h2⟩
  | obj C fs => obtain ⟨ca, dx, vs, h0, h1, h2⟩ := h; exact ⟨ca, dx, vs, h0, ex _ h1, RpF.mono e h2⟩
  | _ => exact h.elim
theorem CelOk.some {Hf : Hp} {ρ : List Addr} {Hx : Hp} {a : Addr} {d : D} (h : CelOk K mg Hf ρ Hx a d) : ∃ o, Hx a = some o := by
  cases d with
  | lst ds => obtain ⟨vs, h1, h2⟩ := h; exact ⟨_, h1⟩
  | dk ds => obtain ⟨vs, h1, h2⟩ := h; exact ⟨_, h1⟩
  | obj C fs => obtain ⟨ca, dx, vs, h0, h1, h2⟩ := h; exact ⟨_, h1⟩
  | _ => exact h.elim
theorem Ok.there (o : Ok K mg s) {n : Nat} {a : Addr} (h : s.ρ[n]? = some a) : ∃ u, s.H a = some u := by
  have hn : n < s.S.length := by rw [← o.len]; exact (List.getElem?_eq_some_iff.mp h).1
  have e : s.S[n]? = some s.S[n] := by simp [hn]
  cases q : s.S[n] with
  | lv d => rw [q] at e; exact (o.lv n d a e h).2.some
  | fz d => rw [q] at e; obtain ⟨u, hu⟩ := (o.fz n d a e h).some; exact ⟨u, o.same _ _ hu⟩
theorem Ok.fresh (o : Ok K mg s) {p : Addr} (h : s.H p = none) : p ∉ s.ρ ∧ s.Hf p = none := by
  refine ⟨fun m => ?_, o.same.free h⟩
  obtain ⟨n, hn⟩ := List.getElem?_of_mem m
  obtain ⟨u, hu⟩ := o.there hn
  rw [hu] at h
  cases h
theorem Ok.new (ok : Ok K mg s) {p : Addr} (h : s.H p = none) (u : HO) : Ok K mg (s.new p u) := by
  obtain ⟨h1, h2⟩ := ok.fresh h
  refine ⟨ok.len, ok.nd, fun b o e => ?_, fun n d a e1 e2 => ?_, fun n d a e1 e2 => ?_⟩
  · show upd s.H p u b = some o
    have e : upd s.Hf p u b = some o := e
    by_cases hb : b = p
    · subst hb; rw [upd_same] at e ⊢; exact e
    · rw [upd_ne hb] at e ⊢; exact ok.same _ _ e
  · have ne : a ≠ p := fun z => h1 (z ▸ List.mem_of_getElem? e2)
    obtain ⟨q1, q2⟩ := ok.lv n d a e1 e2
    refine ⟨by show upd s.Hf p u a = none; rw [upd_ne ne]; exact q1, ?_⟩
    have q3 := CelOk.le (l := []) (Hx' := upd s.H p u) (same_new (o := u) h2) (fun o e => by rw [upd_ne ne]; exact e) q2
    rw [List.append_nil] at q3
    exact q3
  · have q2 := ok.fz n d a e1 e2
    have q3 := CelOk.le (l := []) (Hx' := upd s.Hf p u) (same_new (o := u) h2) (fun o e => same_new h2 _ _ e) q2
    rw [List.append_nil] at q3
    exact q3
theorem Le.new (ok : Ok K mg s) {p : Addr} (h : s.H p = none) (u : HO) : Le s (s.new p u) := by
  obtain ⟨h1, h2⟩ := ok.fresh h
  refine ⟨same_new h2, ⟨[], (List.append_nil _).symm⟩, fun b o e1 e2 e3 => ?_⟩
  have ne : b ≠ p := ne_of_none e1 h
  refine ⟨?_, ?_, e3⟩
  · show upd s.H p u b = _; rw [upd_ne ne]; exact e1
  · show upd s.Hf p u b = _; rw [upd_ne ne]; exact e2
theorem Ok.cel (ok : Ok K mg s) {p : Addr} (h : s.H p = none) {u : HO} {d : D} (hc : CelOk K mg s.Hf s.ρ (upd s.H p u) p d) : Ok K mg (s.cel p u d) := by
  obtain ⟨h1, h2⟩ := ok.fresh h
  have hc' : CelOk K mg s.Hf (s.ρ ++ [p]) (upd s.H p u) p d := CelOk.le (Same.refl _) (fun o e => e) hc
  refine ⟨by show (s.ρ ++ [p]).length = (s.S ++ [Cel.lv d]).length; rw [List.length_append, List.length_append, ok.len]; rfl, ?_, fun b o e => ?_, fun n d' a e1 e2 => ?_, fun n d' a e1 e2 => ?_⟩
  · show (s.ρ ++ [p]).Nodup
    rw [List.nodup_append]
    refine ⟨ok.nd, by simp, fun a ha b hb => ?_⟩
    rw [List.mem_singleton] at hb
    subst hb
    exact fun z => h1 (z ▸ ha)
  · show upd s.H p u b = some o
    have e : s.Hf b = some o := e
    rw [upd_ne (ne_of_none e h2)]
    exact ok.same _ _ e
  · have e1 : (s.S ++ [Cel.lv d])[n]? = some (.lv d') := e1
    have e2 : (s.ρ ++ [p])[n]? = some a := e2
    by_cases hn : n < s.S.length
    · rw [List.getElem?_append_left hn] at e1
      rw [List.getElem?_append_left (by rw [ok.len]; exact hn)] at e2
      have ne : a ≠ p := fun z => h1 (z ▸ List.mem_of_getElem? e2)
      obtain ⟨q1, q2⟩ := ok.lv n d' a e1 e2
      exact ⟨q1, CelOk.le (Same.refl _) (fun o e => by show upd s.H p u a = _; rw [upd_ne ne]; exact e) q2⟩
    · rw [List.getElem?_append_right (by omega)] at e1
      rw [List.getElem?_append_right (by rw [ok.len]; omega), ok.len] at e2
      have z : n - s.S.length = 0 := by
        have := (List.getElem?_eq_some_iff.mp e1).1
        simp at this
        omega
      rw [z] at e1 e2
      simp at e1 e2
      subst e1 e2
      exact ⟨h2, hc'⟩
  · have e1 : (s.S ++ [Cel.lv d])[n]? = some (.fz d') := e1
    have e2 : (s.ρ ++ [p])[n]? = some a := e2
    by_cases hn : n < s.S.length
    · rw [List.getElem?_append_left hn] at e1
      rw [List.getElem?_append_left (by rw [ok.len]; exact hn)] at e2
      exact CelOk.le (Same.refl _) (fun o e => e) (ok.fz n d' a e1 e2)
    · rw [List.getElem?_append_right (by omega)] at e1
      have z : n - s.S.length = 0 := by
        have := (List.getElem?_eq_some_iff.mp e1).1
        simp at this
        omega
      rw [z] at e1
      simp at e1
theorem Le.cel (ok : Ok K mg s) {p : Addr} (h : s.H p = none) (u : HO) (d : D) : Le s (s.cel p u d) := by
  obtain ⟨h1, h2⟩ := ok.fresh h
  refine ⟨Same.refl _, ⟨[p], rfl⟩, fun b o e1 e2 e3 => ?_⟩
  have ne : b ≠ p := ne_of_none e1 h
  refine ⟨?_, e2, ?_⟩
  · show upd s.H p u b = _; rw [upd_ne ne]; exact e1
  · show b ∉ s.ρ ++ [p]
    rw [List.mem_append, List.mem_singleton]
    exact fun z => z.elim e3 ne
end
end T
end S_TCore
section S_TSem
set_option Elab.async false
set_option linter.all false
set_option maxRecDepth 100000
set_option maxHeartbeats 4000000
namespace T
open PySem L2
/-! ### a cell is changed; a cell is frozen -/
def Stt.put (s : Stt) (n : Nat) (a : Addr) (o : HO) (d : D) : Stt := { s with H := upd s.H a o, S := s.S.set n (.lv d) }
def Stt.frz (s : Stt) (n : Nat) (a : Addr) (o : HO) (d : D) : Stt := { s with Hf := upd s.Hf a o, S := s.S.set n (.fz d) }
section
variable {K : PySem.W.Frag} {mg : Str → Option Value} {s : Stt}
theorem nd_ne {ρ : List Addr} (nd : ρ.Nodup) {n m : Nat} {a b : Addr} (h1 : ρ[n]? = some a) (h2 : ρ[m]? = some b) (ne : m ≠ n) : b ≠ a := fun e => by
  subst e
  obtain ⟨l1, q1⟩ := List.getElem?_eq_some_iff.mp h1
  obtain ⟨l2, q2⟩ := List.getElem?_eq_some_iff.mp h2
  exact ne ((List.getElem_inj nd).mp (q2.trans q1.symm))
theorem Ok.put (ok : Ok K mg s) {n : Nat} {a : Addr} {d d' : D} {o : HO} (h1 : s.S[n]? = some (.lv d)) (h2 : s.ρ[n]? = some a) (hc : CelOk K mg s.Hf s.ρ (upd s.H a o) a d') : Ok K mg (s.put n a o d') := by
  obtain ⟨f0, f1⟩ := ok.lv n d a h1 h2
  refine ⟨by show s.ρ.length = (s.S.set n _).length; rw [List.length_set]; exact ok.len, ok.nd, fun b u e => ?_, fun m e b e1 e2 => ?_, fun m e b e1 e2 => ?_⟩
  · show upd s.H a o b = some u
    have e : s.Hf b = some u := e
    rw [upd_ne (ne_of_none e f0)]
    exact ok.same _ _ e
  · have e1 : (s.S.set n (.lv d'))[m]? = some (.lv e) := e1
    by_cases hm : m = n
    · subst hm
      rw [List.getElem?_set_self (List.getElem?_eq_some_iff.mp h1).1] at e1
      injection e1 with e1
      injection e1 with e1
      subst e1
      have z : b = a := by rw [show s.ρ[m]? = some b from e2] at h2; injection h2
      subst z
      exact ⟨f0, hc⟩
    · rw [List.getElem?_set_ne (Ne.symm hm)] at e1
      obtain ⟨q1, q2⟩ := ok.lv m e b e1 e2
      refine ⟨q1, ?_⟩
      have q3 := CelOk.le (l := []) (Hx' := upd s.H a o) (Same.refl s.Hf) (fun u hu => by rw [upd_ne (nd_ne ok.nd h2 e2 hm)]; exact hu) q2
      rw [List.append_nil] at q3
      exact q3
  · have e1 : (s.S.set n (.lv d'))[m]? = some (.fz e) := e1
    by_cases hm : m = n
    · subst hm
      rw [List.getElem?_set_self (List.getElem?_eq_some_iff.mp h1).1] at e1
      cases e1
    · rw [List.getElem?_set_ne (Ne.symm hm)] at e1
      exact ok.fz m e b e1 e2
theorem Le.put {n : Nat} {a : Addr} {d' : D} {o : HO} (h2 : s.ρ[n]? = some a) : Le s (s.put n a o d') := by
  refine ⟨Same.refl _, ⟨[], (List.append_nil _).symm⟩, fun b u e1 e2 e3 => ⟨?_, e2, e3⟩⟩
  show upd s.H a o b = _
  rw [upd_ne (show b ≠ a from fun z => e3 (z ▸ List.mem_of_getElem? h2))]
  exact e1
theorem Ok.frz (ok : Ok K mg s) {n : Nat} {a : Addr} {d : D} {o : HO} (h1 : s.S[n]? = some (.lv d)) (h2 : s.ρ[n]? = some a) (ho : s.H a = some o) : Ok K mg (s.frz n a o d) := by
  obtain ⟨f0, f1⟩ := ok.lv n d a h1 h2
  have sm : Same s.Hf (upd s.Hf a o) := same_new f0
  refine ⟨by show s.ρ.length = (s.S.set n _).length; rw [List.length_set]; exact ok.len, ok.nd, fun b u e => ?_, fun m e b e1 e2 => ?_, fun m e b e1 e2 => ?_⟩
  · have e : upd s.Hf a o b = some u := e
    by_cases hb : b = a
    · subst hb; rw [upd_same] at e; rw [← e]; exact ho
    · rw [upd_ne hb] at e; exact ok.same _ _ e
  · have e1 : (s.S.set n (.fz d))[m]? = some (.lv e) := e1
    by_cases hm : m = n
    · subst hm
      rw [List.getElem?_set_self (List.getElem?_eq_some_iff.mp h1).1] at e1
      cases e1
    · rw [List.getElem?_set_ne (Ne.symm hm)] at e1
      obtain ⟨q1, q2⟩ := ok.lv m e b e1 e2
      refine ⟨by show upd s.Hf a o b = none; rw [upd_ne (nd_ne ok.nd h2 e2 hm)]; exact q1, ?_⟩
      have q3 := CelOk.le (l := []) (Hx' := s.H) sm (fun u hu => hu) q2
      rw [List.append_nil] at q3
      exact q3
  · have e1 : (s.S.set n (.fz d))[m]? = some (.fz e) := e1
    by_cases hm : m = n
    · subst hm
      rw [List.getElem?_set_self (List.getElem?_eq_some_iff.mp h1).1] at e1
      injection e1 with e1
      injection e1 with e1
      subst e1
      have z : b = a := by rw [show s.ρ[m]? = some b from e2] at h2; injection h2
      subst z
      have q3 := CelOk.le (l := []) (Hx' := upd s.Hf b o) sm (fun u hu => by rw [upd_same, ← hu]; exact ho.symm) f1
      rw [List.append_nil] at q3
      exact q3
    · rw [List.getElem?_set_ne (Ne.symm hm)] at e1
      have q3 := CelOk.le (l := []) (Hx' := upd s.Hf a o) sm (fun u hu => sm _ _ hu) (ok.fz m e b e1 e2)
      rw [List.append_nil] at q3
      exact q3
theorem Le.frz (ok : Ok K mg s) {n : Nat} {a : Addr} {d : D} {o : HO} (h1 : s.S[n]? = some (.lv d)) (h2 : s.ρ[n]? = some a) : Le s (s.frz n a o d) := by
  refine ⟨same_new (ok.lv n d a h1 h2).1, ⟨[], (List.append_nil _).symm⟩, fun b u e1 e2 e3 => ⟨e1, ?_, e3⟩⟩
  show upd s.Hf a o b = _
  rw [upd_ne (show b ≠ a from fun z => e3 (z ▸ List.mem_of_getElem? h2))]
  exact e2
end

/-! ### slots; results -/
structure EnvOk (K : PySem.W.Frag) (mg : Str → Option Value) (s : Stt) (σ : St) (env : Env) : Prop where
  len : σ.length = env.length
  at_ : ∀ (i : Nat) (d : D), env[i]? = some (some d) → ∃ v, σ[i]? = some (some v) ∧ Rp K mg s.Hf s.ρ v d
def XRp (K : PySem.W.Frag) (mg : Str → Option Value) (t : Stt) (C : Str) (fs : List (Str × D)) (cls : Value) (x : Option Addr) : Prop :=
  ∃ (ca : Addr) (vfs : List (Str × V)), mg C = some (.ref ca) ∧ cls = .ref ca ∧ XD t.Hf x vfs ∧ RpF K mg t.Hf t.ρ vfs fs
section
variable {K : PySem.W.Frag} {mg : Str → Option Value} {s t : Stt} {σ : St} {env : Env}
theorem EnvOk.le (e : EnvOk K mg s σ env) (l : Le s t) : EnvOk K mg t σ env := ⟨e.len, fun i d h => by
  obtain ⟨v, h1, h2⟩ := e.at_ i d h
  exact ⟨v, h1, h2.le l⟩⟩
theorem EnvOk.set (e : EnvOk K mg s σ env) {v : V} {d : D} (h : Rp K mg s.Hf s.ρ v d) (i : Nat) : EnvOk K mg s (σ.set i (some v)) (env.set i (some d)) := by
  refine ⟨by rw [List.length_set, List.length_set]; exact e.len, fun j d' q => ?_⟩
  by_cases hj : i = j
  · subst hj
    have hl : i < env.length := by
      have := (List.getElem?_eq_some_iff.mp q).1
      rw [List.length_set] at this
      exact this
    rw [List.getElem?_set_self hl] at q
    injection q with q
    injection q with q
    subst q
    exact ⟨v, by rw [List.getElem?_set_self (by rw [e.len]; exact hl)], h⟩
  · rw [List.getElem?_set_ne hj] at q ⊢
    exact e.at_ j d' q
theorem EnvOk.clr (e : EnvOk K mg s σ env) (i : Nat) : EnvOk K mg s (σ.set i none) (env.set i none) := by
  refine ⟨by rw [List.length_set, List.length_set]; exact e.len, fun j d' q => ?_⟩
  by_cases hj : i = j
  · subst hj
    have hl : i < env.length := by
      have := (List.getElem?_eq_some_iff.mp q).1
      rw [List.length_set] at this
      exact this
    rw [List.getElem?_set_self hl] at q
    cases q
  · rw [List.getElem?_set_ne hj] at q ⊢
    exact e.at_ j d' q
end

section
variable (K : PySem.W.Frag) (mg : Str → Option Value)
/-- what is wanted of a result: W of an exception, at the slots σ -/
def RS {α β : Type} (R : Stt → β → α → Prop) (W : WX) (σ : St) (Q : β → Hp → Prop) (s : Stt) : Res α → Prop
  | .ok d S' => ∀ (v : β) (t : Stt), Ok K mg t → t.S = S' → Le s t → R t v d → Q v t.H
  | .exc C fs S' => ∀ (cls : Value) (x : Option Addr) (t : Stt), Ok K mg t → t.S = S' → Le s t → XRp K mg t C fs cls x → W cls x σ t.H
  | .bad => False
abbrev RE : Stt → V → D → Prop := fun t v d => Rp K mg t.Hf t.ρ v d
abbrev RA : Stt → List V → List D → Prop := fun t v d => RpL K mg t.Hf t.ρ v d
abbrev RT : Stt → Bool → Bool → Prop := fun _ v d => v = d
def tX {α β : Type} (R : Stt → β → α → Prop) (W : WX) (m : Env → Sto → Res α) : St → Hp → (β → Hp → Prop) → Prop := fun σ H Q =>
  ∃ (s : Stt) (env : Env), s.H = H ∧ Ok K mg s ∧ EnvOk K mg s σ env ∧ RS K mg R W σ Q s (m env s.S)
abbrev tE (W : WX) (m : SemE) : TE := tX K mg (RE K mg) W m
abbrev tA (W : WX) (m : SemA) : TA := tX K mg (RA K mg) W m
abbrev tT (W : WX) (m : SemT) : TT := tX K mg RT W m
end
section
variable {K : PySem.W.Frag} {mg : Str → Option Value} {W : WX} {σ : St} {s t : Stt} {H : Hp}
theorem RS.le {α β : Type} {R : Stt → β → α → Prop} {Q : β → Hp → Prop} {r : Res α} (l : Le s t) (h : RS K mg R W σ Q s r) : RS K mg R W σ Q t r := by
  cases r with
  | ok d S' => exact fun v u o e l2 q => h v u o e (l.trans l2) q
  | exc C fs S' => exact fun c x u o e l2 q => h c x u o e (l.trans l2) q
  | bad => exact h
/-- one behind another -/
theorem RS.bind {α β γ δ : Type} {R : Stt → β → α → Prop} {R2 : Stt → δ → γ → Prop} {Q : δ → Hp → Prop} {r : Res α} {k : α → Sto → Res γ} (h : RS K mg R2 W σ Q s (r.bind k)) :
    RS K mg R W σ (fun v H1 => ∃ (t : Stt) (d : α), t.H = H1 ∧ Ok K mg t ∧ Le s t ∧ R t v d ∧ RS K mg R2 W σ Q t (k d t.S)) s r := by
  cases r with
  | ok d S' =>
    intro v u o e l q
    refine ⟨u, d, rfl, o, l, q, ?_⟩
    rw [e]
    exact RS.le l h
  | exc C fs S' => exact h
  | bad => exact h
theorem RS.imp {α β : Type} {R : Stt → β → α → Prop} {Q Q' : β → Hp → Prop} {r : Res α} (h : RS K mg R W σ Q s r) (i : ∀ v H, Q v H → Q' v H) : RS K mg R W σ Q' s r := by
  cases r with
  | ok d S' => exact fun v u o e l q => i _ _ (h v u o e l q)
  | exc C fs S' => exact h
  | bad => exact h
theorem RS.ok {α β : Type} {R : Stt → β → α → Prop} {Q : β → Hp → Prop} {d : α} {S' : Sto} (h : RS K mg R W σ Q s (.ok d S')) {v : β} {t : Stt} (o : Ok K mg t) (e : t.S = S') (l : Le s t) (q : R t v d) : Q v t.H := h v t o e l q
/-- behind a part: the rest at the state reached -/
theorem RS.go {α β γ δ : Type} {R : Stt → β → α → Prop} {R2 : Stt → δ → γ → Prop} {Q : δ → Hp → Prop} {m : Env → Sto → Res α} {k : α → Sto → Res γ} {env : Env}
    (h : RS K mg R2 W σ Q s ((m env s.S).bind k)) (o : Ok K mg s) (eo : EnvOk K mg s σ env) {Q' : β → Hp → Prop}
    (hk : ∀ (v : β) (t : Stt) (d : α), Ok K mg t → Le s t → R t v d → RS K mg R2 W σ Q t (k d t.S) → Q' v t.H) : tX K mg R W m σ s.H Q' := by
  refine ⟨s, env, rfl, o, eo, (RS.bind (R := R) h).imp fun v H1 ⟨t, d, q1, q2, q3, q4, q5⟩ => ?_⟩
  rw [← q1]
  exact hk v t d q2 q3 q4 q5
theorem tX.mk {α β : Type} {R : Stt → β → α → Prop} {Q : β → Hp → Prop} {m : Env → Sto → Res α} {t : Stt} {env : Env} (o : Ok K mg t) (e : EnvOk K mg t σ env) (h : RS K mg R W σ Q t (m env t.S)) : tX K mg R W m σ t.H Q := ⟨t, env, rfl, o, e, h⟩
end
section
variable {X : Cx}
theorem _root_.L2.PE.mono {e : Expr} {t t' : TE} (h : PE X e t) (i : ∀ σ H Q, t' σ H Q → t σ H Q) : PE X e t' := ⟨fun pins s σ H Q I q => h.run pins s σ H Q I (i _ _ _ q)⟩
theorem _root_.L2.PT.mono {e : Expr} {t t' : TT} (h : PT X e t) (i : ∀ σ H Q, t' σ H Q → t σ H Q) : PT X e t' := ⟨fun pins s σ H Q I q => h.run pins s σ H Q I (i _ _ _ q)⟩
theorem _root_.L2.PW.mono {e : Expr} {t t' : TT} (h : PW X e t) (i : ∀ σ H Q, t' σ H Q → t σ H Q) : PW X e t' := ⟨fun wh pins s σ H Q I q => h.run wh pins s σ H Q I (i _ _ _ q)⟩
theorem _root_.L2.PA.mono {e : List Expr} {t t' : TA} (h : PA X e t) (i : ∀ σ H Q, t' σ H Q → t σ H Q) : PA X e t' := ⟨fun pos pins s σ H Q I q => h.run pos pins s σ H Q I (i _ _ _ q)⟩
theorem _root_.L2.PS.mono {e : Stmt} {t t' : TS} (h : PS X e t) (i : ∀ D σ H, t' D σ H → t D σ H) : PS X e t' := ⟨fun pins s σ H Q I q => h.run pins s σ H Q I (i _ _ _ q)⟩
theorem _root_.L2.PSs.mono {e : List Stmt} {t t' : TS} (h : PSs X e t) (i : ∀ D σ H, t' D σ H → t D σ H) : PSs X e t' := ⟨fun pins s σ H Q I q => h.run pins s σ H Q I (i _ _ _ q)⟩
end

/-! ### names, constants -/
def sV (i : Nat) : SemE := fun env S => match env[i]? with
  | some (some d) => .ok d S
  | _ => .bad
def sC (d : D) : SemE := fun _ S => .ok d S
section
variable {X : Cx} {W : WX}
theorem xV (i : Nat) {x : Str} {pos : Pos} (hN : X.N[i]? = some x) (hv : Vis X.env.scope x) (hd : (x == ("__debug__" : Str)) = false) (hcd : (x == ("__classdict__" : Str)) = false) : PE X (.Name x pos) (tE X.K X.mg W (sV i)) :=
  (pe_var hN hv hd hcd).mono fun σ H Q ⟨s, env, e1, e2, e3, e4⟩ => by
    subst e1
    unfold sV at e4
    split at e4
    · rename_i d hd
      obtain ⟨v, h1, h2⟩ := e3.at_ i d hd
      exact ⟨v, h1, e4 v s e2 rfl (Le.refl s) h2⟩
    · exact e4.elim
/-- a constant that needs no heap -/
theorem xC {e : Expr} {v : V} {d : D} (h : PE X e (tC v)) (r : ∀ Hf ρ, Rp X.K X.mg Hf ρ v d) : PE X e (tE X.K X.mg W (sC d)) :=
  h.mono fun σ H Q ⟨s, env, e1, e2, e3, e4⟩ => by
    subst e1
    exact e4 v s e2 rfl (Le.refl s) (r _ _)
theorem xInt {i : Int} {j pos} : PE X (.Constant (.int i) j pos) (tE X.K X.mg W (sC (.int i))) := xC pe_int fun _ _ => .int
theorem xStr {x : Str} {j pos} : PE X (.Constant (.str x) j pos) (tE X.K X.mg W (sC (.str x))) := xC pe_str fun _ _ => .str
theorem xBl {b : Bool} {j pos} : PE X (.Constant (.bool b) j pos) (tE X.K X.mg W (sC (.bl b))) := xC pe_bl fun _ _ => .bl
theorem xNon {j pos} : PE X (.Constant .none j pos) (tE X.K X.mg W (sC .non)) := xC pe_non fun _ _ => .non
end

/-! ### operators -/
abbrev Op2 := Sto → D → D → Res D
def sOp (f : Op2) (a b : SemE) : SemE := fun env S => (a env S).bind fun x S1 => (b env S1).bind fun y S2 => f S2 x y
/-- f tells what r asks -/
def OpS (K : PySem.W.Frag) (mg : Str → Option Value) (r : R2) (f : Op2) : Prop := ∀ (W : WX) (σ : St) (Q : VK) (s : Stt) (x y : V) (dx dy : D), Ok K mg s → Rp K mg s.Hf s.ρ x dx → Rp K mg s.Hf s.ρ y dy → RS K mg (RE K mg) W σ Q s (f s.S dx dy) → r x y s.H Q
section
variable {X : Cx} {W : WX} {a b : Expr} {ma mb : SemE}
theorem op_read {K : PySem.W.Frag} {mg : Str → Option Value} {r : R2} {f : Op2} (hf : OpS K mg r f) {σ : St} {H : Hp} {Q : VK} (h : tE K mg W (sOp f ma mb) σ H Q) : tOp r (tE K mg W ma) (tE K mg W mb) σ H Q := by
  obtain ⟨s, env, rfl, o, eo, h⟩ := h
  refine RS.go (R := RE K mg) h o eo fun x t dx ot lt rx h => ?_
  refine RS.go (R := RE K mg) h ot (eo.le lt) fun y u dy ou lu ry h => ?_
  exact hf W σ Q u x y dx dy ou (rx.le lu) ry h
theorem xOp {op : Operator} {r : R2} {f : Op2} {pos : Pos} (ho : OpR X (binaryOp op) r) (hf : OpS X.K X.mg r f) (ha : PE X a (tE X.K X.mg W ma)) (hb : PE X b (tE X.K X.mg W mb)) : PE X (.BinOp a op b pos) (tE X.K X.mg W (sOp f ma mb)) :=
  (pe_op ho ha hb).mono fun _ _ _ h => op_read hf h
theorem xCmp {op : CmpOp} {r : R2} {f : Op2} {pos : Pos} (ho : OpR X (compareOp op) r) (hf : OpS X.K X.mg r f) (hm : behindInMarks op b = false) (ha : PE X a (tE X.K X.mg W ma)) (hb : PE X b (tE X.K X.mg W mb)) : PE X (.Compare a [op] [b] pos) (tE X.K X.mg W (sOp f ma mb)) :=
  (pe_cmpR ho ha hb hm).mono fun _ _ _ h => op_read hf h
end
end T
end S_TSem
section S_TStm
set_option Elab.async false
set_option linter.all false
set_option maxRecDepth 100000
set_option maxHeartbeats 4000000
namespace T
open PySem L2
inductive ResS where
  | nx (env : Env) (S : Sto)
  | rt (d : D) (S : Sto)
  | bk (env : Env) (S : Sto)
  | ct (env : Env) (S : Sto)
  | exc (C : Str) (fs : List (Str × D)) (env : Env) (S : Sto)
  | bad
abbrev SemS := Env → Sto → ResS
def ofE {α : Type} (r : Res α) (env : Env) (k : α → Sto → ResS) : ResS := match r with
  | .ok a S => k a S
  | .exc C fs S => .exc C fs env S
  | .bad => .bad
section
variable (K : PySem.W.Frag) (mg : Str → Option Value)
def RSS (W : WX) (D : Ends) (s : Stt) : ResS → Prop
  | .nx env' S' => ∀ (σ' : St) (t : Stt), Ok K mg t → t.S = S' → Le s t → EnvOk K mg t σ' env' → D.nx σ' t.H
  | .bk env' S' => ∀ (σ' : St) (t : Stt), Ok K mg t → t.S = S' → Le s t → EnvOk K mg t σ' env' → D.bk σ' t.H
  | .ct env' S' => ∀ (σ' : St) (t : Stt), Ok K mg t → t.S = S' → Le s t → EnvOk K mg t σ' env' → D.ct σ' t.H
  | .rt d S' => ∀ (v : V) (t : Stt), Ok K mg t → t.S = S' → Le s t → Rp K mg t.Hf t.ρ v d → D.rt v t.H
  | .exc C fs env' S' => ∀ (cls : Value) (x : Option Addr) (σ' : St) (t : Stt), Ok K mg t → t.S = S' → Le s t → EnvOk K mg t σ' env' → XRp K mg t C fs cls x → W cls x σ' t.H
  | .bad => False
def tS (W : WX) (m : SemS) : TS := fun D σ H => ∃ (s : Stt) (env : Env), s.H = H ∧ Ok K mg s ∧ EnvOk K mg s σ env ∧ RSS K mg W D s (m env s.S)
end
section
variable {K : PySem.W.Frag} {mg : Str → Option Value} {W : WX} {σ : St} {s t : Stt} {H : Hp} {D : Ends}
theorem RSS.le {r : ResS} (l : Le s t) (h : RSS K mg W D s r) : RSS K mg W D t r := by
  cases r with
  | nx e S' => exact fun v u o e l2 q => h v u o e (l.trans l2) q
  | bk e S' => exact fun v u o e l2 q => h v u o e (l.trans l2) q
  | ct e S' => exact fun v u o e l2 q => h v u o e (l.trans l2) q
  | rt e S' => exact fun v u o e l2 q => h v u o e (l.trans l2) q
  | exc C fs e S' => exact fun c x v u o e l2 q => h c x v u o e (l.trans l2) q
  | bad => exact h
theorem RSS.go {α β : Type} {R : Stt → β → α → Prop} {m : Env → Sto → Res α} {k : α → Sto → ResS} {env : Env}
    (h : RSS K mg W D s (ofE (m env s.S) env k)) (o : Ok K mg s) (eo : EnvOk K mg s σ env) {Q' : β → Hp → Prop}
    (hk : ∀ (v : β) (t : Stt) (d : α), Ok K mg t → Le s t → R t v d → RSS K mg W D t (k d t.S) → Q' v t.H) : tX K mg R W m σ s.H Q' := by
  refine ⟨s, env, rfl, o, eo, ?_⟩
  cases e : m env s.S with
  | ok d S' =>
    rw [e] at h
    intro v t ot et lt rt
    refine hk v t d ot lt rt ?_
    rw [et]
    exact RSS.le lt h
  | exc C fs S' =>
    rw [e] at h
    exact fun c x t ot et lt xr => h c x σ t ot et lt (eo.le lt) xr
  | bad =>
    rw [e] at h
    exact h
end

/-! ### statements -/
def sNext : SemS := fun env S => .nx env S
def sSeq (a b : SemS) : SemS := fun env S => match a env S with
  | .nx env1 S1 => b env1 S1
  | r => r
def sRet (e : SemE) : SemS := fun env S => ofE (e env S) env fun d S1 => .rt d S1
def sRetN : SemS := fun env S => .rt .non S
def sIf (c : SemT) (a b : SemS) : SemS := fun env S => ofE (c env S) env fun t S1 => if t = true then a env S1 else b env S1
def sDo (e : SemE) : SemS := fun env S => ofE (e env S) env fun _ S1 => .nx env S1
/-- targets: what is stored where -/
abbrev SemG := D → Env → Sto → ResS
def gN (i : Nat) : SemG := fun d env S => .nx (env.set i (some d)) S
def sAsg (e : SemE) (g : SemG) : SemS := fun env S => ofE (e env S) env fun d S1 => g d env S1
def tG (K : PySem.W.Frag) (mg : Str → Option Value) (W : WX) (m : SemG) : TG := fun v σ H Q => ∃ (s : Stt) (env : Env) (d : D), s.H = H ∧ Ok K mg s ∧ EnvOk K mg s σ env ∧ Rp K mg s.Hf s.ρ v d ∧ RSS K mg W { nx := Q, rt := fun _ _ => False } s (m d env s.S)
section
variable {X : Cx} {W : WX}
theorem yNil : PSs X [] (tS X.K X.mg W sNext) := pss_nil.mono fun D σ H ⟨s, env, e1, e2, e3, e4⟩ => by
  subst e1
  exact e4 σ s e2 rfl (Le.refl s) e3
theorem seq_read {K : PySem.W.Frag} {mg : Str → Option Value} {a b : SemS} {D : Ends} {σ : St} {H : Hp} (h : tS K mg W (sSeq a b) D σ H) : tSeq (tS K mg W a) (tS K mg W b) D σ H := by
  obtain ⟨s, env, rfl, o, eo, h⟩ := h
  refine ⟨s, env, rfl, o, eo, ?_⟩
  unfold sSeq at h
  cases e : a env s.S with
  | nx env1 S1 =>
    rw [e] at h
    intro σ' t ot et lt et2
    refine ⟨t, env1, rfl, ot, et2, ?_⟩
    rw [et]
    exact RSS.le lt h
  | bk env1 S1 => rw [e] at h; exact h
  | ct env1 S1 => rw [e] at h; exact h
  | rt d S1 => rw [e] at h; exact h
  | exc C fs env1 S1 => rw [e] at h; exact h
  | bad => rw [e] at h; exact h
theorem yCons {st : Stmt} {r : List Stmt} {a b : SemS} (h1 : PS X st (tS X.K X.mg W a)) (h2 : PSs X r (tS X.K X.mg W b)) : PSs X (st :: r) (tS X.K X.mg W (sSeq a b)) := (pss_cons h1 h2).mono fun _ _ _ h => seq_read h
theorem yOne {st : Stmt} {a : SemS} (h1 : PS X st (tS X.K X.mg W a)) : PSs X [st] (tS X.K X.mg W a) := pss_one h1
theorem yPass {pos : Pos} : PS X (.Pass pos) (tS X.K X.mg W sNext) := ps_pass.mono fun D σ H ⟨s, env, e1, e2, e3, e4⟩ => by
  subst e1
  exact e4 σ s e2 rfl (Le.refl s) e3
theorem yRet {e : Expr} {pos : Pos} {m : SemE} (he : PE X e (tE X.K X.mg W m)) : PS X (.Return (some e) pos) (tS X.K X.mg W (sRet m)) := (ps_ret he).mono fun D σ H h => by
  obtain ⟨s, env, rfl, o, eo, h⟩ := h
  exact RSS.go (R := RE X.K X.mg) h o eo fun v t d ot lt rv h => h v t ot rfl (Le.refl t) rv
theorem yRetN {pos : Pos} : PS X (.Return none pos) (tS X.K X.mg W sRetN) := ps_retN.mono fun D σ H ⟨s, env, e1, e2, e3, e4⟩ => by
  subst e1
  exact e4 _ s e2 rfl (Le.refl s) .non
theorem yIf {c : Expr} {a b : List Stmt} {pos : Pos} {mc : SemT} {ma mb : SemS} (hc : PT X c (tT X.K X.mg W mc)) (ha : PSs X a (tS X.K X.mg W ma)) (hb : PSs X b (tS X.K X.mg W mb)) : PS X (.If c a b pos) (tS X.K X.mg W (sIf mc ma mb)) :=
  (ps_if hc ha hb).mono fun D σ H h => by
    obtain ⟨s, env, rfl, o, eo, h⟩ := h
    refine RSS.go (R := RT) h o eo fun v t d ot lt rv h => ?_
    subst rv
    cases v with
    | true => exact ⟨t, env, rfl, ot, eo.le lt, h⟩
    | false => exact ⟨t, env, rfl, ot, eo.le lt, h⟩
theorem yDo {e : Expr} {pos : Pos} {m : SemE} (he : PE X e (tE X.K X.mg W m)) (hs : swapsWith e none pos.line X.env = pure false) : PS X (.Expr e pos) (tS X.K X.mg W (sDo m)) := (ps_expr he hs).mono fun D σ H h => by
  obtain ⟨s, env, rfl, o, eo, h⟩ := h
  exact RSS.go (R := RE X.K X.mg) h o eo fun v t d ot lt rv h => h σ t ot rfl (Le.refl t) (eo.le lt)
/-- to a target -/
theorem gName_ok {x : Str} {pos : Pos} {i : Nat} (h : PG X (.Name x pos) (gName i)) : PG X (.Name x pos) (tG X.K X.mg W (gN i)) := ⟨fun pins s σ H v u Q I r q => h.run pins s σ H v u Q I r (by
  obtain ⟨t, env, d, rfl, o, eo, rv, q⟩ := q
  exact q _ t o rfl (Le.refl t) (eo.set rv i))⟩
theorem asg_read {K : PySem.W.Frag} {mg : Str → Option Value} {m : SemE} {g : SemG} (hgx : ∀ d env S, ∀ r, g d env S = r → (∃ env' S', r = .nx env' S') ∨ r = .bad ∨ ∃ C fs env' S', r = .exc C fs env' S') {D : Ends} {σ : St} {H : Hp} (h : tS K mg W (sAsg m g) D σ H) : tAsg (tE K mg W m) (tG K mg W g) D σ H := by
  obtain ⟨s, env, rfl, o, eo, h⟩ := h
  refine RSS.go (R := RE K mg) h o eo fun v t d ot lt rv h => ⟨t, env, d, rfl, ot, eo.le lt, rv, ?_⟩
  rcases hgx d env t.S _ rfl with ⟨env', S', e⟩ | e | ⟨C, fs, env', S', e⟩
  · rw [e] at h ⊢; exact h
  · rw [e] at h ⊢; exact h
  · rw [e] at h ⊢; exact h
theorem gN_x {i : Nat} : ∀ d env S, ∀ r, gN i d env S = r → (∃ env' S', r = .nx env' S') ∨ r = .bad ∨ ∃ C fs env' S', r = .exc C fs env' S' := fun d env S r h => .inl ⟨_, _, h.symm⟩
theorem ySet {i : Nat} {x : Str} {e : Expr} {m : SemE} {pos pos' : Pos} (hN : X.N.Nodup) (hi : X.N[i]? = some x) (hx : Loc X.env.scope x) (he : PE X e (tE X.K X.mg W m)) (hs : swapsWith e (some (.Name x pos')) pos.line X.env = pure false) (hf : X.fn x = true ∨ X.env.scope.names.lookup x = some .local) :
    PS X (.Assign [.Name x pos'] e pos) (tS X.K X.mg W (sAsg m (gN i))) := (ps_set hN hi hx he hs hf).mono fun D σ H h => by
  obtain ⟨s, env, rfl, o, eo, h⟩ := h
  exact RSS.go (R := RE X.K X.mg) h o eo fun v t d ot lt rv h => h _ t ot rfl (Le.refl t) ((eo.le lt).set rv i)
end

/-! ### defs -/
abbrev Fn := List D → Sto → Res D
def entry (n : Nat) (ds : List D) : Env := ds.map some ++ List.replicate (n - ds.length) none
/-- what a body hands back; no cell of its own may be left -/
def fin (n : Nat) (d : D) (S : Sto) : Res D := if S.length = n then .ok d S else .bad
def fnEnd (n : Nat) : ResS → Res D
  | .rt d S1 => fin n d S1
  | .nx _ S1 => fin n .non S1
  | .exc C fs _ S1 => if S1.length = n then .exc C fs S1 else .bad
  | _ => .bad
def fnOf (n N : Nat) (m : SemS) : Fn := fun ds S => if ds.length = n then fnEnd S.length (m (entry N ds) S) else .bad
def spF (φ : Fn) (K : PySem.W.Frag) (mg : Str → Option Value) : Sp := fun vs H Q E => ∃ (s : Stt) (ds : List D), s.H = H ∧ Ok K mg s ∧ RpL K mg s.Hf s.ρ vs ds ∧ RS K mg (RE K mg) (fun c x _ H' => E c x H') [] Q s (φ ds s.S)
theorem entry_ok {K : PySem.W.Frag} {mg : Str → Option Value} {s : Stt} {N : List Str} {vs : List V} {ds : List D} (h : RpL K mg s.Hf s.ρ vs ds) : EnvOk K mg s (L2.start N vs) (entry N.length ds) := by
  have hl := h.length
  refine ⟨by unfold L2.start entry; rw [List.length_append, List.length_append, List.length_map, List.length_map, List.length_replicate, List.length_replicate, hl], fun i d e => ?_⟩
  unfold entry at e
  by_cases hi : i < ds.length
  · rw [List.getElem?_append_left (by simpa using hi), List.getElem?_map] at e
    cases q : ds[i]? with
    | none => rw [q] at e; cases e
    | some y =>
      rw [q] at e
      injection e with e
      injection e with e
      subst e
      obtain ⟨x, e1, e2⟩ := h.get' q
      refine ⟨x, ?_, e2⟩
      unfold L2.start
      rw [List.getElem?_append_left (by rw [List.length_map, hl]; exact hi), List.getElem?_map, e1]
      rfl
  · rw [List.getElem?_append_right (by simpa using hi), List.getElem?_replicate] at e
    split at e <;> cases e
section
variable {P : Program} {w : World} {K : PySem.W.Frag} {mg : Str → Option Value} {base : Heap}
abbrev WE (E : XK) : WX := fun c x _ H' => E c x H'
/-- a def whose body's meaning is m -/
theorem fn_ok {x qual : Str} {params : Arguments} {body : List Stmt} {scope : Scope} {dvs : List V} {kws : List (Str × V)} {f : Addr} {fd : FuncData} {N ps : List Str} {k n : Nat} {m : SemS} (F : FunD K x qual params body scope dvs kws f fd) (S : FnScope N ps scope) (hn : ps.length = n)
    (hb : ∀ (cdv : Value) (A : Around) (outer : List PySem.Env) (s : Shared) (H : Hp) (E : XK), Room k (A.deeper (PyProof.Rows.envOfC qual scope s.heap.objs.size f cdv)) → Takes (cxOf (L2.CX P w) P w K mg base N qual scope f cdv A outer s H E) (WE E) →
      PSs (cxOf (L2.CX P w) P w K mg base N qual scope f cdv A outer s H E) body (tS K mg (WE E) m)) : FnOk P w K mg base (L2.CX P w) (k + 1) f fd ps (spF (fnOf n N.length m) K mg) := by
  refine FunD.ok F S (fun vs H Q E h => ?_) (fun cdv A outer s H vs Q E hr h => ⟨_, hb cdv A outer s H E hr (takes_of rfl rfl rfl rfl), ?_⟩)
  · obtain ⟨s, ds, _, _, r, e⟩ := h
    unfold fnOf at e
    split at e
    · rw [r.length, hn]; assumption
    · exact e.elim
  · obtain ⟨s, ds, rfl, o, r, h⟩ := h
    refine ⟨s, entry N.length ds, rfl, o, entry_ok r, ?_⟩
    unfold fnOf at h
    rw [if_pos (by split at h; assumption; exact h.elim)] at h
    cases q : m (entry N.length ds) s.S with
    | rt d S1 =>
      rw [q] at h
      intro v t ot et lt rv
      dsimp only [fnEnd, fin] at h
      split at h
      · exact h v t ot et lt rv
      · exact h.elim
    | nx env S1 =>
      rw [q] at h
      intro v t ot et lt rv
      dsimp only [fnEnd, fin] at h
      split at h
      · exact h .non t ot et lt .non
      · exact h.elim
    | exc C fs env S1 =>
      rw [q] at h
      intro c x σ' t ot et lt eo xr
      dsimp only [fnEnd] at h
      split at h
      · exact h c x t ot et lt xr
      · exact h.elim
    | bk env S1 => rw [q] at h; exact h.elim
    | ct env S1 => rw [q] at h; exact h.elim
    | bad => rw [q] at h; exact h.elim
end

/-! ### argument lists, calls of defs -/
def aNil : SemA := fun _ S => .ok [] S
def aCons (e : SemE) (r : SemA) : SemA := fun env S => (e env S).bind fun d S1 => (r env S1).bind fun ds S2 => .ok (d :: ds) S2
def sCall (φ : Fn) (a : SemA) : SemE := fun env S => (a env S).bind fun ds S1 => φ ds S1
section
variable {X : Cx} {W : WX} {e : Expr} {es : List Expr} {m : SemE} {ma : SemA}
theorem zNil : PA X [] (tA X.K X.mg W aNil) := pa_nil.mono fun σ H Q ⟨s, env, e1, e2, e3, e4⟩ => by
  subst e1
  exact e4 [] s e2 rfl (Le.refl s) .nil
theorem zCons (ha : PE X e (tE X.K X.mg W m)) (hr : PA X es (tA X.K X.mg W ma)) (hs : starEach (e :: es) X.env = (false, eval e X.env) :: starEach es X.env) : PA X (e :: es) (tA X.K X.mg W (aCons m ma)) := (pa_cons ha hr hs).mono fun σ H Q h => by
  obtain ⟨s, env, rfl, o, eo, h⟩ := h
  refine RS.go (R := RE X.K X.mg) h o eo fun x t dx ot lt rx h => ?_
  refine RS.go (R := RA X.K X.mg) h ot (eo.le lt) fun y u dy ou lu ry h => ?_
  exact h (x :: y) u ou rfl (Le.refl u) (.cons (rx.le lu) ry)
theorem xCall {x : Str} {p pos : Pos} {f : Addr} {fd : FuncData} {ps : List Str} {k : Nat} {φ : Fn} (F : FnOk X.prog X.w X.K X.mg X.base (L2.CX X.prog X.w) k f fd ps (spF φ X.K X.mg)) (hr : Room k X.A) (hg : Gl X x) (hm : X.mg x = some (.ref f)) (hk : PySem.W.keepIn X.K (.ref f) = true) (hb : Binds X.K fd ps []) (tk : Takes X W)
    (ha : PA X (e :: es) (tA X.K X.mg W ma)) (hdb : (x == ("__debug__" : Str)) = false) (he : starEach (e :: es) X.env = (false, eval e X.env) :: starEach es X.env) (hpl : (backTo pos (starEach es X.env)).any (·.1) = false) :
    PE X (.Call (.Name x p) (e :: es) [] pos) (tE X.K X.mg W (sCall φ ma)) :=
  (pe_callSD (E := fun σ c x H' => W c x σ H') F hr hg hm hk hb .nil (fun σ => passAt tk σ) ha hdb he hpl).mono fun σ H Q h => by
    obtain ⟨s, env, rfl, o, eo, h⟩ := h
    refine ⟨s, env, rfl, o, eo, ?_⟩
    unfold sCall at h
    cases q : ma env s.S with
    | ok ds S1 =>
      rw [q] at h
      intro vs t ot et lt rv
      refine ⟨t, ds, rfl, ot, by rw [List.append_nil]; exact rv, ?_⟩
      rw [et]
      have h := RS.le lt h
      cases r : φ ds S1 with
      | ok d S2 => dsimp only [Res.bind] at h; rw [r] at h; exact h
      | exc C fs S2 => dsimp only [Res.bind] at h; rw [r] at h; exact fun c x t2 a b c2 d => h c x t2 a b c2 d
      | bad => dsimp only [Res.bind] at h; rw [r] at h; exact h
    | exc C fs S1 => rw [q] at h; exact h
    | bad => rw [q] at h; exact h
end
end T
end S_TStm
section S_TOps
set_option Elab.async false
set_option linter.all false
set_option maxRecDepth 100000
set_option maxHeartbeats 4000000
namespace T
open PySem L2
/-! ### what is seen of a value -/
def cget (S : Sto) (n : Nat) : D := match S[n]? with
  | some (.lv d) => d
  | some (.fz d) => d
  | none => .non
/-- for reading -/
def rd (S : Sto) : D → D
  | .cell n => cget S n
  | .rdl ds => .lst ds
  | d => d
/-- tracked -/
def tk (S : Sto) : D → D
  | .cell n => cget S n
  | d => d
section
variable {K : PySem.W.Frag} {mg : Str → Option Value} {s : Stt} {x : V} {d : D} {ds : List D}
theorem cell_at (o : Ok K mg s) {n : Nat} {a : Addr} (h : s.ρ[n]? = some a) : CelOk K mg s.Hf s.ρ s.H a (cget s.S n) := by
  have hn : n < s.S.length := by rw [← o.len]; exact (List.getElem?_eq_some_iff.mp h).1
  have e : s.S[n]? = some s.S[n] := by simp [hn]
  unfold cget
  cases q : s.S[n] with
  | lv d => rw [q] at e; rw [e]; exact (o.lv n d a e h).2
  | fz d =>
    rw [q] at e; rw [e]
    have z := CelOk.le (l := []) (Hx' := s.H) (Same.refl s.Hf) (fun u hu => o.same _ _ hu) (o.fz n d a e h)
    rw [List.append_nil] at z
    exact z
theorem rd_lst (o : Ok K mg s) (r : Rp K mg s.Hf s.ρ x d) (h : rd s.S d = .lst ds) : ∃ a vs, x = .ref a ∧ SqL K s.H a vs ∧ RpL K mg s.Hf s.ρ vs ds := by
  cases r with
  | lst h1 h2 => simp only [rd] at h; injection h with h; subst h; exact ⟨_, _, rfl, SqL.of (o.same _ _ h1), h2⟩
  | rdl h1 h2 => simp only [rd] at h; injection h with h; subst h; exact ⟨_, _, rfl, o.same.seq h1, h2⟩
  | cell h1 =>
    simp only [rd] at h
    have z := cell_at o h1
    rw [h] at z
    obtain ⟨vs, z1, z2⟩ := z
    exact ⟨_, _, rfl, SqL.of z1, z2⟩
  | _ => simp only [rd] at h; cases h
theorem rd_tup (o : Ok K mg s) (r : Rp K mg s.Hf s.ρ x d) (h : rd s.S d = .tup ds) : ∃ a vs, x = .ref a ∧ SqT K s.H a vs ∧ RpL K mg s.Hf s.ρ vs ds := by
  cases r with
  | tup h1 h2 => simp only [rd] at h; injection h with h; subst h; exact ⟨_, _, rfl, sqT_same o.same h1, h2⟩
  | cell h1 =>
    simp only [rd] at h
    have z := cell_at o h1
    rw [h] at z
    exact z.elim
  | _ => simp only [rd] at h; cases h
theorem tk_lst (o : Ok K mg s) (r : Rp K mg s.Hf s.ρ x d) (h : tk s.S d = .lst ds) : ∃ a vs, x = .ref a ∧ s.H a = some (.lst vs) ∧ RpL K mg s.Hf s.ρ vs ds := by
  cases r with
  | lst h1 h2 => simp only [tk] at h; injection h with h; subst h; exact ⟨_, _, rfl, o.same _ _ h1, h2⟩
  | cell h1 =>
    simp only [tk] at h
    have z := cell_at o h1
    rw [h] at z
    obtain ⟨vs, z1, z2⟩ := z
    exact ⟨_, _, rfl, z1, z2⟩
  | _ => simp only [tk] at h; cases h
theorem rd_str (o : Ok K mg s) (r : Rp K mg s.Hf s.ρ x d) {z : Str} (h : rd s.S d = .str z) : x = .str z := by
  cases r with
  | str => simp only [rd] at h; injection h with h; subst h; rfl
  | cell h1 =>
    simp only [rd] at h
    have q := cell_at o h1
    rw [h] at q
    exact q.elim
  | _ => simp only [rd] at h; cases h
theorem rp_str {Hf : Hp} {ρ : List Addr} {z : Str} (r : Rp K mg Hf ρ x (.str z)) : x = .str z := by cases r; rfl
theorem rp_int {Hf : Hp} {ρ : List Addr} {z : Int} (r : Rp K mg Hf ρ x (.int z)) : x = .int z := by cases r; rfl
theorem rp_bl {Hf : Hp} {ρ : List Addr} {z : Bool} (r : Rp K mg Hf ρ x (.bl z)) : x = .bl z := by cases r; rfl
theorem rp_non {Hf : Hp} {ρ : List Addr} (r : Rp K mg Hf ρ x .non) : x = .non := by cases r; rfl
end

/-! ### operators by values -/
theorem OpR.or {X : Cx} {f : Value → Value → Sem Value} {r r' : R2} (h : OpR X f r) (h' : OpR X f r') : OpR X f (fun x y H Q => r x y H Q ∨ r' x y H Q) := by
  intro pins s σ H x y v u Q I rx ry q
  rcases q with q | q
  · exact h pins s σ H x y v u Q I rx ry q
  · exact h' pins s σ H x y v u Q I rx ry q
/-- a value without a heap -/
theorem RS.val {K : PySem.W.Frag} {mg : Str → Option Value} {W : WX} {σ : L2.St} {Q : VK} {s : Stt} {d : D} {v : V} (h : RS K mg (RE K mg) W σ Q s (.ok d s.S)) (o : Ok K mg s) (r : Rp K mg s.Hf s.ρ v d) : Q v s.H := h v s o rfl (Le.refl s) r
/-- a new frozen thing -/
theorem RS.made {K : PySem.W.Frag} {mg : Str → Option Value} {W : WX} {σ : L2.St} {Q : VK} {s : Stt} {d : D} {u : HO} (h : RS K mg (RE K mg) W σ Q s (.ok d s.S)) (o : Ok K mg s) {p : Addr} (hp : s.H p = none) (r : Rp K mg (upd s.Hf p u) s.ρ (.ref p) d) : Q (.ref p) (upd s.H p u) :=
  h (.ref p) (s.new p u) (o.new hp u) rfl (Le.new o hp u) r
theorem RpL.new {K : PySem.W.Frag} {mg : Str → Option Value} {s : Stt} {vs : List V} {ds : List D} (h : RpL K mg s.Hf s.ρ vs ds) (o : Ok K mg s) {p : Addr} (hp : s.H p = none) (u : HO) : RpL K mg (upd s.Hf p u) s.ρ vs ds := RpL.le (Le.new o hp u) h
theorem Rp.newL {K : PySem.W.Frag} {mg : Str → Option Value} {s : Stt} {vs : List V} {ds : List D} (h : RpL K mg s.Hf s.ρ vs ds) (o : Ok K mg s) {p : Addr} (hp : s.H p = none) : Rp K mg (upd s.Hf p (.lst vs)) s.ρ (.ref p) (.lst ds) := .lst upd_same (h.new o hp _)
theorem Rp.newT {K : PySem.W.Frag} {mg : Str → Option Value} {s : Stt} {vs : List V} {ds : List D} (h : RpL K mg s.Hf s.ρ vs ds) (o : Ok K mg s) {p : Addr} (hp : s.H p = none) : Rp K mg (upd s.Hf p (.tup vs)) s.ρ (.ref p) (.tup ds) := .tup (.inl (.inl upd_same)) (h.new o hp _)

def lim : Nat := 1000000
theorem lim_le {n : Nat} (h : n ≤ lim) : n ≤ sizeLine := Nat.le_trans h (by decide)
def fAdd : Op2 := fun S x y => match tk S x, tk S y with
  | .int i, .int j => .ok (.int (i + j)) S
  | .str a, .str b => if a.length + b.length ≤ lim then .ok (.str (a ++ b)) S else .bad
  | .lst a, .lst b => if a.length + b.length ≤ lim then .ok (.lst (a ++ b)) S else .bad
  | .tup a, .tup b => if a.length + b.length ≤ lim then .ok (.tup (a ++ b)) S else .bad
  | _, _ => .bad
def rAdd (K : PySem.W.Frag) : R2 := fun x y H Q => (rI0 (fun i j => .int (i + j)) x y H Q) ∨ (∃ i j, x = .str i ∧ y = .str j ∧ i.length + j.length ≤ sizeLine ∧ Q (.str (i ++ j)) H) ∨ rCat x y H Q ∨ rCatA K x y H Q
theorem opAdd {X : Cx} : OpR X (binaryOp .Add) (rAdd X.K) := op_add.or (op_add_str.or (op_cat.or op_catA))
section
variable {K : PySem.W.Frag} {mg : Str → Option Value}
theorem tk_str {s : Stt} {x : V} {d : D} (o : Ok K mg s) (r : Rp K mg s.Hf s.ρ x d) {z : Str} (h : tk s.S d = .str z) : x = .str z := by
  cases r with
  | str => simp only [tk] at h; injection h with h; subst h; rfl
  | cell h1 =>
    simp only [tk] at h
    have q := cell_at o h1
    rw [h] at q
    exact q.elim
  | _ => simp only [tk] at h; cases h
theorem tk_int {s : Stt} {x : V} {d : D} (o : Ok K mg s) (r : Rp K mg s.Hf s.ρ x d) {z : Int} (h : tk s.S d = .int z) : x = .int z := by
  cases r with
  | int => simp only [tk] at h; injection h with h; subst h; rfl
  | cell h1 =>
    simp only [tk] at h
    have q := cell_at o h1
    rw [h] at q
    exact q.elim
  | _ => simp only [tk] at h; cases h
theorem tk_tup {s : Stt} {x : V} {d : D} {ds : List D} (o : Ok K mg s) (r : Rp K mg s.Hf s.ρ x d) (h : tk s.S d = .tup ds) : ∃ a vs, x = .ref a ∧ SqT K s.H a vs ∧ SqT K s.Hf a vs ∧ RpL K mg s.Hf s.ρ vs ds := by
  cases r with
  | tup h1 h2 => simp only [tk] at h; injection h with h; subst h; exact ⟨_, _, rfl, sqT_same o.same h1, h1, h2⟩
  | cell h1 =>
    simp only [tk] at h
    have q := cell_at o h1
    rw [h] at q
    exact q.elim
  | _ => simp only [tk] at h; cases h
theorem fAdd_ok : OpS K mg (rAdd K) fAdd := by
  intro W σ Q s x y dx dy o rx ry h
  unfold fAdd at h
  split at h
  · rename_i i j e1 e2
    exact .inl ⟨i, j, tk_int o rx e1, tk_int o ry e2, h.val o .int⟩
  · rename_i a b e1 e2
    split at h
    · rename_i hl
      exact .inr (.inl ⟨a, b, tk_str o rx e1, tk_str o ry e2, lim_le hl, h.val o .str⟩)
    · exact h.elim
  · rename_i a b e1 e2
    split at h
    · rename_i hl
      obtain ⟨p, vs, rfl, h1, r1⟩ := tk_lst o rx e1
      obtain ⟨q, ws, rfl, h2, r2⟩ := tk_lst o ry e2
      exact .inr (.inr (.inl ⟨p, q, vs, ws, rfl, rfl, h1, h2, by rw [r1.length, r2.length]; exact lim_le hl, fun p hp => h.made o hp (Rp.newL (r1.append r2) o hp)⟩))
    · exact h.elim
  · rename_i a b e1 e2
    split at h
    · rename_i hl
      obtain ⟨p, vs, rfl, h1, f1, r1⟩ := tk_tup o rx e1
      obtain ⟨q, ws, rfl, h2, f2, r2⟩ := tk_tup o ry e2
      refine .inr (.inr (.inr ⟨p, q, vs, ws, rfl, rfl, h1, h2, by rw [r1.length, r2.length]; exact lim_le hl, fun z => ?_, fun z1 z => ?_, fun _ _ p hp => h.made o hp (Rp.newT (r1.append r2) o hp)⟩))
      · subst z
        cases r1
        exact h.val o (.tup f2 r2)
      · subst z
        cases r2
        refine h.val o (.tup f1 ?_)
        rw [List.append_nil]
        exact r1
    · exact h.elim
  · exact h.elim
def fSub : Op2 := fun S x y => match x, y with
  | .int i, .int j => .ok (.int (i - j)) S
  | _, _ => .bad
theorem fSub_ok : OpS K mg (rI0 fun i j => .int (i - j)) fSub := by
  intro W σ Q s x y dx dy o rx ry h
  unfold fSub at h
  split at h
  · exact ⟨_, _, rp_int rx, rp_int ry, h.val o .int⟩
  · exact h.elim
/-- products: one factor below 2 ^ 64 -/
def small64 (i : Int) : Bool := decide (-(2 ^ 64) < i ∧ i < 2 ^ 64)
def fMul : Op2 := fun S x y => match tk S x, tk S y with
  | .int i, .int j => if small64 i || small64 j then .ok (.int (i * j)) S else .bad
  | .lst a, .int k => if decide (0 ≤ k ∧ k ≤ 100000) && decide (a.length * k.toNat ≤ lim) then .ok (.lst ((List.replicate k.toNat a).flatten)) S else .bad
  | _, _ => .bad
def rMul : R2 := fun x y H Q => (rI CMul (fun i j => .int (i * j)) x y H Q) ∨ rRep x y H Q
theorem opMul {X : Cx} : OpR X (binaryOp .Mult) rMul := op_mul.or op_rep
end
end T
end S_TOps
section S_TOps2
set_option Elab.async false
set_option linter.all false
set_option maxRecDepth 100000
set_option maxHeartbeats 4000000
namespace T
open PySem L2
section
variable {K : PySem.W.Frag} {mg : Str → Option Value}
theorem RpL.rep {Hf : Hp} {ρ : List Addr} {vs : List V} {ds : List D} (h : RpL K mg Hf ρ vs ds) (n : Nat) : RpL K mg Hf ρ (List.replicate n vs).flatten (List.replicate n ds).flatten := by
  induction n with
  | zero => exact .nil
  | succ n ih =>
    rw [List.replicate_succ, List.replicate_succ, List.flatten_cons, List.flatten_cons]
    exact h.append ih
theorem fMul_ok : OpS K mg rMul fMul := by
  intro W σ Q s x y dx dy o rx ry h
  unfold fMul at h
  split at h
  · rename_i i j e1 e2
    split at h
    · rename_i hc
      refine .inl ⟨i, j, tk_int o rx e1, tk_int o ry e2, ?_, h.val o .int⟩
      rw [Bool.or_eq_true] at hc
      exact hc.imp of_decide_eq_true of_decide_eq_true
    · exact h.elim
  · rename_i a k e1 e2
    split at h
    · rename_i hc
      rw [Bool.and_eq_true, decide_eq_true_eq, decide_eq_true_eq] at hc
      obtain ⟨p, vs, rfl, h1, r1⟩ := tk_lst o rx e1
      refine .inr ⟨p, k, vs, rfl, tk_int o ry e2, h1, by omega, by omega, by rw [r1.length]; exact lim_le hc.2, fun p hp => h.made o hp (Rp.newL (r1.rep _) o hp)⟩
    · exact h.elim
  · exact h.elim
def fDiv : Op2 := fun S x y => match x, y with
  | .int i, .int j => if decide (0 < j ∧ j < 1073741824) then .ok (.int (i / j)) S else .bad
  | _, _ => .bad
theorem fDiv_ok : OpS K mg (rI CDiv fun i j => .int (i / j)) fDiv := by
  intro W σ Q s x y dx dy o rx ry h
  unfold fDiv at h
  split at h
  · split at h
    · rename_i hc
      rw [decide_eq_true_eq] at hc
      exact ⟨_, _, rp_int rx, rp_int ry, hc, h.val o .int⟩
    · exact h.elim
  · exact h.elim
def fMod : Op2 := fun S x y => match x, y with
  | .int i, .int j => if decide (0 < j) then .ok (.int (i % j)) S else .bad
  | _, _ => .bad
theorem fMod_ok : OpS K mg (rI (fun _ j => 0 < j) fun i j => .int (i % j)) fMod := by
  intro W σ Q s x y dx dy o rx ry h
  unfold fMod at h
  split at h
  · split at h
    · rename_i hc
      exact ⟨_, _, rp_int rx, rp_int ry, of_decide_eq_true hc, h.val o .int⟩
    · exact h.elim
  · exact h.elim
def fPow : Op2 := fun S x y => match x, y with
  | .int i, .int j => if decide (0 ≤ j ∧ j ≤ 1000) && decide (i.natAbs < 2 ^ 64) then .ok (.int (i ^ j.toNat)) S else .bad
  | _, _ => .bad
theorem fPow_ok : OpS K mg (rI CPow fun i j => .int (i ^ j.toNat)) fPow := by
  intro W σ Q s x y dx dy o rx ry h
  unfold fPow at h
  split at h
  · split at h
    · rename_i hc
      rw [Bool.and_eq_true, decide_eq_true_eq, decide_eq_true_eq] at hc
      exact ⟨_, _, rp_int rx, rp_int ry, ⟨hc.1.1, by omega, hc.2⟩, h.val o .int⟩
    · exact h.elim
  · exact h.elim

/-! ### order -/
abbrev sLt (a b : Str) : Bool := decide (a.cps.toList < b.cps.toList)
def fLt : Op2 := fun S x y => match x, y with
  | .int i, .int j => .ok (.bl (decide (i < j))) S
  | .str a, .str b => .ok (.bl (sLt a b)) S
  | _, _ => .bad
def fLe : Op2 := fun S x y => match x, y with
  | .int i, .int j => .ok (.bl (decide (i ≤ j))) S
  | .str a, .str b => .ok (.bl (!sLt b a)) S
  | _, _ => .bad
def fGt : Op2 := fun S x y => match x, y with
  | .int i, .int j => .ok (.bl (decide (j < i))) S
  | .str a, .str b => .ok (.bl (sLt b a)) S
  | _, _ => .bad
def fGe : Op2 := fun S x y => match x, y with
  | .int i, .int j => .ok (.bl (decide (j ≤ i))) S
  | .str a, .str b => .ok (.bl (!sLt a b)) S
  | _, _ => .bad
abbrev rOrd (f : Int → Int → V) (g : Str → Str → V) : R2 := fun x y H Q => rI0 f x y H Q ∨ ∃ i j, x = .str i ∧ y = .str j ∧ Q (g i j) H
theorem opLt {X : Cx} : OpR X (compareOp .Lt) (rOrd (fun i j => .bl (decide (i < j))) fun a b => .bl (sLt a b)) := op_lt.or op_lt_str
theorem opLe {X : Cx} : OpR X (compareOp .LtE) (rOrd (fun i j => .bl (decide (i ≤ j))) fun a b => .bl (!sLt b a)) := op_le.or op_le_str
theorem opGt {X : Cx} : OpR X (compareOp .Gt) (rOrd (fun i j => .bl (decide (j < i))) fun a b => .bl (sLt b a)) := op_gt.or op_gt_str
theorem opGe {X : Cx} : OpR X (compareOp .GtE) (rOrd (fun i j => .bl (decide (j ≤ i))) fun a b => .bl (!sLt a b)) := op_ge.or op_ge_str
theorem fLt_ok : OpS K mg (rOrd (fun i j => .bl (decide (i < j))) fun a b => .bl (sLt a b)) fLt := by
  intro W σ Q s x y dx dy o rx ry h
  unfold fLt at h
  split at h
  · exact .inl ⟨_, _, rp_int rx, rp_int ry, h.val o .bl⟩
  · exact .inr ⟨_, _, rp_str rx, rp_str ry, h.val o .bl⟩
  · exact h.elim
theorem fLe_ok : OpS K mg (rOrd (fun i j => .bl (decide (i ≤ j))) fun a b => .bl (!sLt b a)) fLe := by
  intro W σ Q s x y dx dy o rx ry h
  unfold fLe at h
  split at h
  · exact .inl ⟨_, _, rp_int rx, rp_int ry, h.val o .bl⟩
  · exact .inr ⟨_, _, rp_str rx, rp_str ry, h.val o .bl⟩
  · exact h.elim
theorem fGt_ok : OpS K mg (rOrd (fun i j => .bl (decide (j < i))) fun a b => .bl (sLt b a)) fGt := by
  intro W σ Q s x y dx dy o rx ry h
  unfold fGt at h
  split at h
  · exact .inl ⟨_, _, rp_int rx, rp_int ry, h.val o .bl⟩
  · exact .inr ⟨_, _, rp_str rx, rp_str ry, h.val o .bl⟩
  · exact h.elim
theorem fGe_ok : OpS K mg (rOrd (fun i j => .bl (decide (j ≤ i))) fun a b => .bl (!sLt a b)) fGe := by
  intro W σ Q s x y dx dy o rx ry h
  unfold fGe at h
  split at h
  · exact .inl ⟨_, _, rp_int rx, rp_int ry, h.val o .bl⟩
  · exact .inr ⟨_, _, rp_str rx, rp_str ry, h.val o .bl⟩
  · exact h.elim

/-! ### equality -/
mutual
/-- plain data, cells looked through -/
def toPy (S : Sto) : D → Option PyData
  | .non => some .none
  | .bl b => some (.bool b)
  | .int i => some (.int i)
  | .str x => some (.str x)
  | .tup ds => (toPyL S ds).map .tuple
  | .lst ds => (toPyL S ds).map .list
  | .rdl ds => (toPyL S ds).map .list
  | _ => none
def toPyL (S : Sto) : List D → Option (List PyData)
  | [] => some []
  | d :: ds => match toPy S d, toPyL S ds with
    | some p, some ps => some (p :: ps)
    | _, _ => none
end
mutual
theorem toPy_dp {s : Stt} (o : Ok K mg s) : ∀ (d : D) {x : V} {p : PyData}, Rp K mg s.Hf s.ρ x d → toPy s.S d = some p → Dp K s.H x p
  | .non, x, p, r, h => by cases r; simp only [toPy] at h; injection h with h; subst h; exact .non
  | .bl b, x, p, r, h => by cases r; simp only [toPy] at h; injection h with h; subst h; exact .bl b
  | .int b, x, p, r, h => by cases r; simp only [toPy] at h; injection h with h; subst h; exact .int b
  | .str b, x, p, r, h => by cases r; simp only [toPy] at h; injection h with h; subst h; exact .str b
  | .tup ds, x, p, r, h => by
    cases r with
    | tup h1 h2 =>
      simp only [toPy] at h
      cases q : toPyL s.S ds with
      | none => rw [q] at h; cases h
      | some ps => rw [q] at h; injection h with h; subst h; exact .tup (sqT_same o.same h1) (toPyL_dp o ds h2 q)
  | .lst ds, x, p, r, h => by
    cases r with
    | lst h1 h2 =>
      simp only [toPy] at h
      cases q : toPyL s.S ds with
      | none => rw [q] at h; cases h
      | some ps => rw [q] at h; injection h with h; subst h; exact .lst (SqL.of (o.same _ _ h1)) (toPyL_dp o ds h2 q)
  | .rdl ds, x, p, r, h => by
    cases r with
    | rdl h1 h2 =>
      simp only [toPy] at h
      cases q : toPyL s.S ds with
      | none => rw [q] at h; cases h
      | some ps => rw [q] at h; injection h with h; subst h; exact .lst (o.same.seq h1) (toPyL_dp o ds h2 q)
  | .dk _, x, p, r, h => by simp only [toPy] at h; cases h
  | .obj _ _, x, p, r, h => by simp only [toPy] at h; cases h
  | .exc _ _, x, p, r, h => by simp only [toPy] at h; cases h
  | .cell _, x, p, r, h => by simp only [toPy] at h; cases h
theorem toPyL_dp {s : Stt} (o : Ok K mg s) : ∀ (ds : List D) {xs : List V} {ps : List PyData}, RpL K mg s.Hf s.ρ xs ds → toPyL s.S ds = some ps → DpAll K s.H xs ps
  | [], xs, ps, r, h => by cases r; simp only [toPyL] at h; injection h with h; subst h; exact .nil
  | d :: ds, xs, ps, r, h => by
    cases r with
    | cons h1 h2 =>
      simp only [toPyL] at h
      split at h
      · rename_i p qs e1 e2
        injection h with h
        subst h
        exact .cons (toPy_dp o d h1 e1) (toPyL_dp o ds h2 e2)
      · cases h
end
/-- a list cell seen as data -/
theorem toPy_rd {s : Stt} (o : Ok K mg s) {d : D} {x : V} {p : PyData} (r : Rp K mg s.Hf s.ρ x d) (h : toPy s.S (rd s.S d) = some p) : Dp K s.H x p := by
  cases r with
  | cell h1 =>
    simp only [rd] at h
    have q := cell_at o h1
    cases e : cget s.S _ with
    | lst ds =>
      rw [e] at q h
      obtain ⟨vs, q1, q2⟩ := q
      simp only [toPy] at h
      cases z : toPyL s.S ds with
      | none => rw [z] at h; cases h
      | some ps => rw [z] at h; injection h with h; subst h; exact .lst (SqL.of q1) (toPyL_dp o ds q2 z)
    | _ => rw [e] at q h; first | exact q.elim | (simp only [toPy] at h; cases h)
  | rdl h1 h2 =>
    simp only [rd] at h
    rename_i ds
    simp only [toPy] at h
    cases z : toPyL s.S ds with
    | none => rw [z] at h; cases h
    | some ps => rw [z] at h; injection h with h; subst h; exact .lst (o.same.seq h1) (toPyL_dp o ds h2 z)
  | non => exact toPy_dp o _ .non h
  | bl => exact toPy_dp o _ .bl h
  | int => exact toPy_dp o _ .int h
  | str => exact toPy_dp o _ .str h
  | tup h1 h2 => exact toPy_dp o _ (.tup h1 h2) h
  | lst h1 h2 => exact toPy_dp o _ (.lst h1 h2) h
  | dk h1 h2 => simp only [rd, toPy] at h; cases h
  | obj h1 h2 => simp only [rd, toPy] at h; cases h
  | exc h1 h2 => simp only [rd, toPy] at h; cases h
/-- equality of plain things at once, deep for lists and tuples -/
def deq (S : Sto) (x y : D) : Option Bool := match x, y with
  | .int i, .int j => some (decide (i = j))
  | .str i, .str j => some (decide (i = j))
  | .bl i, .bl j => some (decide (i = j))
  | .non, .non => some true
  | .non, .int _ => some false | .int _, .non => some false
  | .non, .str _ => some false | .str _, .non => some false
  | .non, .bl _ => some false | .bl _, .non => some false
  | .int _, .str _ => some false | .str _, .int _ => some false
  | .bl _, .str _ => some false | .str _, .bl _ => some false
  | x, y => match toPy S (rd S x), toPy S (rd S y) with
    | some p, some q => if SeqAt.shaped p && SeqAt.shaped q then some (PyData.eqv p q) else none
    | _, _ => none
def fEq : Op2 := fun S x y => match deq S x y with
  | some b => .ok (.bl b) S
  | none => .bad
def fNe : Op2 := fun S x y => match deq S x y with
  | some b => .ok (.bl (!b)) S
  | none => .bad
theorem deq_ok {s : Stt} (o : Ok K mg s) {x y : V} {dx dy : D} (rx : Rp K mg s.Hf s.ρ x dx) (ry : Rp K mg s.Hf s.ρ y dy) {b : Bool} (h : deq s.S dx dy = some b) :
    (scal x y = true ∧ b = decide (x = y)) ∨ ∃ d e, Dp K s.H x d ∧ Dp K s.H y e ∧ SeqAt.shaped d = true ∧ SeqAt.shaped e = true ∧ b = PyData.eqv d e := by
  unfold deq at h
  split at h
  case h_15 =>
    split at h
    · rename_i p q e1 e2
      split at h
      · rename_i hs
        rw [Bool.and_eq_true] at hs
        injection h with h
        exact .inr ⟨p, q, toPy_rd o rx e1, toPy_rd o ry e2, hs.1, hs.2, h.symm⟩
      · cases h
    · cases h
  all_goals
    cases rx
    cases ry
    injection h with h
    subst h
    refine .inl ⟨rfl, ?_⟩
    simp
theorem fEq_ok : OpS K mg (fun x y H Q => rEq x y H Q ∨ rEqD K x y H Q) fEq := by
  intro W σ Q s x y dx dy o rx ry h
  unfold fEq at h
  split at h
  · rename_i b e
    rcases deq_ok o rx ry e with ⟨h1, h2⟩ | ⟨d, e2, h1, h2, h3, h4, h5⟩
    · subst h2; exact .inl ⟨h1, h.val o .bl⟩
    · subst h5; exact .inr ⟨d, e2, h1, h2, h3, h4, h.val o .bl⟩
  · exact h.elim
theorem fNe_ok : OpS K mg (fun x y H Q => rNe x y H Q ∨ rNeD K x y H Q) fNe := by
  intro W σ Q s x y dx dy o rx ry h
  unfold fNe at h
  split at h
  · rename_i b e
    rcases deq_ok o rx ry e with ⟨h1, h2⟩ | ⟨d, e2, h1, h2, h3, h4, h5⟩
    · subst h2; exact .inl ⟨h1, h.val o .bl⟩
    · subst h5; exact .inr ⟨d, e2, h1, h2, h3, h4, h.val o .bl⟩
  · exact h.elim
theorem opEq {X : Cx} (hu : X.A.units + 64 < cLine) : OpR X (compareOp .Eq) (fun x y H Q => rEq x y H Q ∨ rEqD X.K x y H Q) := op_eq.or (op_eqD hu)
theorem opNe {X : Cx} (hu : X.A.units + 64 < cLine) : OpR X (compareOp .NotEq) (fun x y H Q => rNe x y H Q ∨ rNeD X.K x y H Q) := op_ne.or (op_neD hu)
/-- is None -/
def fIsN : Op2 := fun S x y => match y with
  | .non => .ok (.bl (match x with | .non => true | _ => false)) S
  | _ => .bad
def fNotN : Op2 := fun S x y => match y with
  | .non => .ok (.bl (match x with | .non => false | _ => true)) S
  | _ => .bad
theorem fIsN_ok : OpS K mg (fun x y H Q => y = .non ∧ Q (.bl (decide (x = .non))) H) fIsN := by
  intro W σ Q s x y dx dy o rx ry h
  unfold fIsN at h
  split at h
  · refine ⟨rp_non ry, ?_⟩
    cases rx <;> exact h.val o .bl
  · exact h.elim
theorem fNotN_ok : OpS K mg (fun x y H Q => y = .non ∧ Q (.bl (!decide (x = .non))) H) fNotN := by
  intro W σ Q s x y dx dy o rx ry h
  unfold fNotN at h
  split at h
  · refine ⟨rp_non ry, ?_⟩
    cases rx <;> exact h.val o .bl
  · exact h.elim
end
end T
end S_TOps2
section S_TExp
set_option Elab.async false
set_option linter.all false
set_option maxRecDepth 100000
set_option maxHeartbeats 4000000
namespace T
open PySem L2
/-! ### truth -/
def isB (m : SemE) : SemT := fun env S => (m env S).bind fun x S1 => match x with
  | .bl b => .ok b S1
  | _ => .bad
def cAnd (a b : SemT) : SemT := fun env S => (a env S).bind fun x S1 => if x = true then b env S1 else .ok false S1
def cOr (a b : SemT) : SemT := fun env S => (a env S).bind fun x S1 => if x = true then .ok true S1 else b env S1
def cNot (a : SemT) : SemT := fun env S => (a env S).bind fun x S1 => .ok (!x) S1
def sAnd (a b : SemE) : SemE := fun env S => (a env S).bind fun x S1 => match x with
  | .bl true => b env S1
  | .bl false => .ok (.bl false) S1
  | _ => .bad
def sOr (a b : SemE) : SemE := fun env S => (a env S).bind fun x S1 => match x with
  | .bl true => .ok (.bl true) S1
  | .bl false => b env S1
  | _ => .bad
def sNot (a : SemE) : SemE := fun env S => (a env S).bind fun x S1 => match x with
  | .bl b => .ok (.bl (!b)) S1
  | _ => .bad
def sIfx (c : SemT) (a b : SemE) : SemE := fun env S => (c env S).bind fun x S1 => if x = true then a env S1 else b env S1
/-- xs or e, xs a list -/
def sOrL (a b : SemE) : SemE := fun env S => (a env S).bind fun x S1 => match rd S1 x with
  | .lst [] => b env S1
  | .lst _ => .ok x S1
  | _ => .bad
section
variable {X : Cx} {W : WX} {a b : Expr} {rest : List Expr} {pos : Pos} {m ma mb : SemE} {ca cb : SemT}
theorem isB_read {K : PySem.W.Frag} {mg : Str → Option Value} {σ : L2.St} {H : Hp} {Q : Bool → Hp → Prop} (h : tT K mg W (isB m) σ H Q) : tE K mg W m σ H fun x H1 => ∃ c, x = .bl c ∧ Q c H1 := by
  obtain ⟨s, env, rfl, o, eo, h⟩ := h
  refine RS.go (R := RE K mg) h o eo fun x t dx ot lt rx h => ?_
  split at h
  · rename_i b
    exact ⟨b, rp_bl rx, h b t ot rfl (Le.refl t) rfl⟩
  · exact h.elim
theorem wVal (he : PE X a (tE X.K X.mg W m)) (hw : ∀ whole, isTrue a X.env whole = (do let v ← whole; standAt a.pos; holding [v] (truthy v))) : PT X a (tT X.K X.mg W (isB m)) := (pt_val he hw).mono fun _ _ _ h => isB_read h
theorem wCmp {op : CmpOp} {r : R2} {f : Op2} (ho : OpR X (compareOp op) r) (hf : OpS X.K X.mg r f) (hm : behindInMarks op b = false) (ha : PE X a (tE X.K X.mg W ma)) (hb : PE X b (tE X.K X.mg W mb)) : PT X (.Compare a [op] [b] pos) (tT X.K X.mg W (isB (sOp f ma mb))) :=
  (pt_cmpR ho ha hb hm).mono fun σ H Q h => by
    obtain ⟨s, env, e1, o, eo, h⟩ := h
    have h2 : tE X.K X.mg W (sOp f ma mb) σ H fun x H1 => ∃ c, x = .bl c ∧ Q c H1 := isB_read ⟨s, env, e1, o, eo, h⟩
    exact op_read hf h2
theorem wAnd1 (ha : PT X a (tT X.K X.mg W ca)) : PW X (.BoolOp .And [a] pos) (tT X.K X.mg W ca) := pw_and1 ha
theorem wOr1 (ha : PT X a (tT X.K X.mg W ca)) : PW X (.BoolOp .Or [a] pos) (tT X.K X.mg W ca) := pw_or1 ha
theorem wAnd (ha : PT X a (tT X.K X.mg W ca)) (hb : PW X (.BoolOp .And (b :: rest) pos) (tT X.K X.mg W cb)) : PW X (.BoolOp .And (a :: b :: rest) pos) (tT X.K X.mg W (cAnd ca cb)) := (pw_and ha hb).mono fun σ H Q h => by
  obtain ⟨s, env, rfl, o, eo, h⟩ := h
  refine RS.go (R := RT) h o eo fun x t dx ot lt rx h => ?_
  subst rx
  cases x with
  | true => exact ⟨t, env, rfl, ot, eo.le lt, h⟩
  | false => exact h false t ot rfl (Le.refl t) rfl
theorem wOr (ha : PT X a (tT X.K X.mg W ca)) (hb : PW X (.BoolOp .Or (b :: rest) pos) (tT X.K X.mg W cb)) : PW X (.BoolOp .Or (a :: b :: rest) pos) (tT X.K X.mg W (cOr ca cb)) := (pw_or ha hb).mono fun σ H Q h => by
  obtain ⟨s, env, rfl, o, eo, h⟩ := h
  refine RS.go (R := RT) h o eo fun x t dx ot lt rx h => ?_
  subst rx
  cases x with
  | true => exact h true t ot rfl (Le.refl t) rfl
  | false => exact ⟨t, env, rfl, ot, eo.le lt, h⟩
theorem wPt (h : PW X a (tT X.K X.mg W ca)) : PT X a (tT X.K X.mg W ca) := h.pt
theorem wNot (ha : PT X a (tT X.K X.mg W ca)) : PT X (.UnaryOp .Not a pos) (tT X.K X.mg W (cNot ca)) := (pt_not ha).mono fun σ H Q h => by
  obtain ⟨s, env, rfl, o, eo, h⟩ := h
  refine RS.go (R := RT) h o eo fun x t dx ot lt rx h => ?_
  subst rx
  exact h _ t ot rfl (Le.refl t) rfl
theorem xOne {op : BoolOp} (ha : PE X a (tE X.K X.mg W m)) : PE X (.BoolOp op [a] pos) (tE X.K X.mg W m) := pe_one ha
theorem xAnd (ha : PE X a (tE X.K X.mg W ma)) (hb : PE X (.BoolOp .And (b :: rest) pos) (tE X.K X.mg W mb)) : PE X (.BoolOp .And (a :: b :: rest) pos) (tE X.K X.mg W (sAnd ma mb)) := (pe_and ha hb).mono fun σ H Q h => by
  obtain ⟨s, env, rfl, o, eo, h⟩ := h
  refine RS.go (R := RE X.K X.mg) h o eo fun x t dx ot lt rx h => ?_
  split at h
  · exact ⟨true, rp_bl rx, ⟨t, env, rfl, ot, eo.le lt, h⟩⟩
  · exact ⟨false, rp_bl rx, h.val ot .bl⟩
  · exact h.elim
theorem xOr (ha : PE X a (tE X.K X.mg W ma)) (hb : PE X (.BoolOp .Or (b :: rest) pos) (tE X.K X.mg W mb)) : PE X (.BoolOp .Or (a :: b :: rest) pos) (tE X.K X.mg W (sOr ma mb)) := (pe_or ha hb).mono fun σ H Q h => by
  obtain ⟨s, env, rfl, o, eo, h⟩ := h
  refine RS.go (R := RE X.K X.mg) h o eo fun x t dx ot lt rx h => ?_
  split at h
  · exact ⟨true, rp_bl rx, h.val ot .bl⟩
  · exact ⟨false, rp_bl rx, ⟨t, env, rfl, ot, eo.le lt, h⟩⟩
  · exact h.elim
theorem xNot (ha : PE X a (tE X.K X.mg W m)) : PE X (.UnaryOp .Not a pos) (tE X.K X.mg W (sNot m)) := (pe_not ha).mono fun σ H Q h => by
  obtain ⟨s, env, rfl, o, eo, h⟩ := h
  refine RS.go (R := RE X.K X.mg) h o eo fun x t dx ot lt rx h => ?_
  split at h
  · rename_i c
    exact ⟨c, rp_bl rx, h.val ot .bl⟩
  · exact h.elim
theorem xIf {c : Expr} (hc : PT X c (tT X.K X.mg W ca)) (ha : PE X a (tE X.K X.mg W ma)) (hb : PE X b (tE X.K X.mg W mb)) : PE X (.IfExp c a b pos) (tE X.K X.mg W (sIfx ca ma mb)) := (pe_ifExp hc ha hb).mono fun σ H Q h => by
  obtain ⟨s, env, rfl, o, eo, h⟩ := h
  refine RS.go (R := RT) h o eo fun x t dx ot lt rx h => ?_
  subst rx
  cases x with
  | true => exact ⟨t, env, rfl, ot, eo.le lt, h⟩
  | false => exact ⟨t, env, rfl, ot, eo.le lt, h⟩
theorem xOrL (ha : PE X a (tE X.K X.mg W ma)) (hb : PE X (.BoolOp .Or (b :: rest) pos) (tE X.K X.mg W mb)) : PE X (.BoolOp .Or (a :: b :: rest) pos) (tE X.K X.mg W (sOrL ma mb)) := (pe_orT ha hb).mono fun σ H Q h => by
  obtain ⟨s, env, rfl, o, eo, h⟩ := h
  refine RS.go (R := RE X.K X.mg) h o eo fun x t dx ot lt rx h => ?_
  split at h
  · rename_i e
    obtain ⟨p, vs, rfl, h1, r1⟩ := rd_lst ot rx e
    cases r1
    exact ⟨false, .inl ⟨[], h1, rfl⟩, ⟨t, env, rfl, ot, eo.le lt, h⟩⟩
  · rename_i ds ne e
    obtain ⟨p, vs, rfl, h1, r1⟩ := rd_lst ot rx e
    cases r1 with
    | nil => exact absurd rfl ne
    | cons q1 q2 => exact ⟨true, .inl ⟨_, h1, rfl⟩, h.val ot rx⟩
  · exact h.elim
/-! ### chains -/
def sChain (f g : Op2) (a b c : SemE) : SemE := fun env S => (a env S).bind fun x S1 => (b env S1).bind fun y S2 => (f S2 x y).bind fun z S3 => match z with
  | .bl true => (c env S3).bind fun w S4 => g S4 y w
  | .bl false => .ok (.bl false) S3
  | _ => .bad
theorem chain_read {K : PySem.W.Frag} {mg : Str → Option Value} {r r' : R2} {f g : Op2} {mc : SemE} (hf : OpS K mg r f) (hg : OpS K mg r' g) {σ : L2.St} {H : Hp} {Q : VK} (h : tE K mg W (sChain f g ma mb mc) σ H Q) : tChain r r' (tE K mg W ma) (tE K mg W mb) (tE K mg W mc) σ H Q := by
  obtain ⟨s, env, rfl, o, eo, h⟩ := h
  refine RS.go (R := RE K mg) h o eo fun x t dx ot lt rx h => ?_
  refine RS.go (R := RE K mg) h ot (eo.le lt) fun y u dy ou lu ry h => ?_
  refine hf W σ _ u x y dx dy ou (rx.le lu) ry ((RS.bind (R := RE K mg) h).imp fun z H1 ⟨v, dz, q1, ov, lv, rz, h⟩ => ?_)
  subst q1
  split at h
  · refine ⟨true, rp_bl rz, ?_⟩
    exact RS.go (R := RE K mg) h ov ((eo.le lt).le (lu.trans lv)) fun w t2 dw o2 l2 rw h => hg W σ Q t2 y w dy dw o2 ((ry.le lv).le l2) rw h
  · exact ⟨false, rp_bl rz, h.val ov .bl⟩
  · exact h.elim
theorem xChain {c : Expr} {op op' : CmpOp} {r r' : R2} {f g : Op2} {mc : SemE} (ho : OpR X (compareOp op) r) (hf : OpS X.K X.mg r f) (ho' : OpR X (compareOp op') r') (hg : OpS X.K X.mg r' g) (hm : lastMarks [op, op'] [b, c] = false) (ha : PE X a (tE X.K X.mg W ma)) (hb : PE X b (tE X.K X.mg W mb)) (hc : PE X c (tE X.K X.mg W mc)) :
    PE X (.Compare a [op, op'] [b, c] pos) (tE X.K X.mg W (sChain f g ma mb mc)) := (pe_chain ho ho' ha hb hc hm).mono fun _ _ _ h => chain_read hf hg h
theorem wChain {c : Expr} {op op' : CmpOp} {r r' : R2} {f g : Op2} {mc : SemE} (ho : OpR X (compareOp op) r) (hf : OpS X.K X.mg r f) (ho' : OpR X (compareOp op') r') (hg : OpS X.K X.mg r' g) (hm : lastMarks [op, op'] [b, c] = false) (ha : PE X a (tE X.K X.mg W ma)) (hb : PE X b (tE X.K X.mg W mb)) (hc : PE X c (tE X.K X.mg W mc)) :
    PT X (.Compare a [op, op'] [b, c] pos) (tT X.K X.mg W (isB (sChain f g ma mb mc))) := (pt_chain ho ho' ha hb hc hm).mono fun σ H Q h => by
  have h2 : tE X.K X.mg W (sChain f g ma mb mc) σ H fun x H1 => ∃ c, x = .bl c ∧ Q c H1 := isB_read h
  exact chain_read hf hg h2
end

/-! ### displays -/
def sTup (a : SemA) : SemE := fun env S => (a env S).bind fun ds S1 => if ds.length ≤ lim then .ok (.tup ds) S1 else .bad
def sLst (a : SemA) : SemE := fun env S => (a env S).bind fun ds S1 => if ds.length ≤ lim then .ok (.lst ds) S1 else .bad
/-- a list that may be changed -/
def sLstC (a : SemA) : SemE := fun env S => (a env S).bind fun ds S1 => if ds.length ≤ lim then .ok (.cell S1.length) (S1 ++ [.lv (.lst ds)]) else .bad
section
variable {X : Cx} {W : WX} {es : List Expr} {pos : Pos} {ma : SemA}
theorem xTup {k} (h : PA X es (tA X.K X.mg W ma)) : PE X (.Tuple es k pos) (tE X.K X.mg W (sTup ma)) := (pe_tup h).mono fun σ H Q h => by
  obtain ⟨s, env, rfl, o, eo, h⟩ := h
  refine RS.go (R := RA X.K X.mg) h o eo fun x t dx ot lt rx h => ?_
  split at h
  · rename_i hl
    exact ⟨by rw [rx.length]; exact lim_le hl, fun p hp => h.made ot hp (Rp.newT rx ot hp)⟩
  · exact h.elim
theorem xLst (h : PA X es (tA X.K X.mg W ma)) : PE X (.List es pos) (tE X.K X.mg W (sLst ma)) := (pe_lst h).mono fun σ H Q h => by
  obtain ⟨s, env, rfl, o, eo, h⟩ := h
  refine RS.go (R := RA X.K X.mg) h o eo fun x t dx ot lt rx h => ?_
  split at h
  · rename_i hl
    exact ⟨by rw [rx.length]; exact lim_le hl, fun p hp => h.made ot hp (Rp.newL rx ot hp)⟩
  · exact h.elim
theorem RS.madeC {K : PySem.W.Frag} {mg : Str → Option Value} {W : WX} {σ : L2.St} {Q : VK} {s : Stt} {d : D} {u : HO} (h : RS K mg (RE K mg) W σ Q s (.ok (.cell s.S.length) (s.S ++ [.lv d]))) (o : Ok K mg s) {p : Addr} (hp : s.H p = none) (hc : CelOk K mg s.Hf s.ρ (upd s.H p u) p d) : Q (.ref p) (upd s.H p u) :=
  h (.ref p) (s.cel p u d) (o.cel hp hc) rfl (Le.cel o hp u d) (.cell (by show (s.ρ ++ [p])[s.S.length]? = some p; rw [← o.len]; simp))
theorem xLstC (h : PA X es (tA X.K X.mg W ma)) : PE X (.List es pos) (tE X.K X.mg W (sLstC ma)) := (pe_lst h).mono fun σ H Q h => by
  obtain ⟨s, env, rfl, o, eo, h⟩ := h
  refine RS.go (R := RA X.K X.mg) h o eo fun x t dx ot lt rx h => ?_
  split at h
  · rename_i hl
    exact ⟨by rw [rx.length]; exact lim_le hl, fun p hp => h.madeC ot hp ⟨x, upd_same, rx⟩⟩
  · exact h.elim
end

/-! ### subscripts -/
def fIx : Op2 := fun S x y => match rd S x, y with
  | .lst ds, .int i => (match atI ds i with | some d => .ok d S | none => .bad)
  | .tup ds, .int i => (match atI ds i with | some d => .ok d S | none => .bad)
  | .str z, .int i => if z.length ≤ lim then (match atI z.cps.toList i with | some c => .ok (.str ⟨#[c]⟩) S | none => .bad) else .bad
  | _, _ => .bad
theorem atI_rp {K : PySem.W.Frag} {mg : Str → Option Value} {Hf : Hp} {ρ : List Addr} {vs : List V} {ds : List D} (h : RpL K mg Hf ρ vs ds) {i : Int} {d : D} (e : atI ds i = some d) : ∃ v, atI vs i = some v ∧ Rp K mg Hf ρ v d := by
  unfold atI at e ⊢
  rw [h.length]
  cases q : ixN ds.length i with
  | none => rw [q] at e; cases e
  | some j => rw [q] at e; exact h.get' e
theorem fIx_ok {K : PySem.W.Frag} {mg : Str → Option Value} : OpS K mg (rIx K) fIx := by
  intro W σ Q s x y dx dy o rx ry h
  unfold fIx at h
  split at h
  · rename_i ds i e
    split at h
    · rename_i d e2
      obtain ⟨p, vs, rfl, h1, r1⟩ := rd_lst o rx e
      obtain ⟨v, e3, r3⟩ := atI_rp r1 e2
      exact .inl ⟨p, vs, i, v, rfl, rp_int ry, h1, e3, h.val o r3⟩
    · exact h.elim
  · rename_i ds i e
    split at h
    · rename_i d e2
      obtain ⟨p, vs, rfl, h1, r1⟩ := rd_tup o rx e
      obtain ⟨v, e3, r3⟩ := atI_rp r1 e2
      exact .inr (.inl ⟨p, vs, i, v, rfl, rp_int ry, h1, e3, h.val o r3⟩)
    · exact h.elim
  · rename_i z i e
    split at h
    · rename_i hl
      split at h
      · rename_i c e2
        exact .inr (.inr ⟨z, i, c, rd_str o rx e, rp_int ry, lim_le hl, e2, h.val o .str⟩)
      · exact h.elim
    · exact h.elim
  · exact h.elim
section
variable {X : Cx} {W : WX} {a b : Expr} {pos : Pos} {ma mb : SemE}
theorem xIx (ha : PE X a (tE X.K X.mg W ma)) (hb : PE X b (tE X.K X.mg W mb)) (hs : PlainIx b) : PE X (.Subscript a b pos) (tE X.K X.mg W (sOp fIx ma mb)) := (pe_ix ix_seq ha hb hs).mono fun _ _ _ h => op_read fIx_ok h
end
theorem rd_tup2 {K : PySem.W.Frag} {mg : Str → Option Value} {s : Stt} {x : V} {d : D} {ds : List D} (o : Ok K mg s) (r : Rp K mg s.Hf s.ρ x d) (h : rd s.S d = .tup ds) : ∃ a vs, x = .ref a ∧ SqT K s.H a vs ∧ SqT K s.Hf a vs ∧ RpL K mg s.Hf s.ρ vs ds := by
  cases r with
  | tup h1 h2 => simp only [rd] at h; injection h with h; subst h; exact ⟨_, _, rfl, sqT_same o.same h1, h1, h2⟩
  | cell h1 =>
    simp only [rd] at h
    have q := cell_at o h1
    rw [h] at q
    exact q.elim
  | _ => simp only [rd] at h; cases h
/-! ### slices -/
abbrev SemO := Env → Sto → Res (Option Int)
def oNone : SemO := fun _ S => .ok none S
def oSome (m : SemE) : SemO := fun env S => (m env S).bind fun d S1 => match d with
  | .int i => .ok (some i) S1
  | _ => .bad
abbrev RO : Stt → Option Int → Option Int → Prop := fun _ v d => v = d
def cutD (xs : List D) (lo hi : Option Int) : List D := (xs.drop (HT.sIx xs.length 0 lo)).take (HT.sIx xs.length xs.length hi - HT.sIx xs.length 0 lo)
def sSl (a : SemE) (l u : SemO) : SemE := fun env S => (a env S).bind fun x S1 => (l env S1).bind fun lo S2 => (u env S2).bind fun hi S3 => match rd S3 x with
  | .lst ds => .ok (.lst (cutD ds lo hi)) S3
  | .tup ds => .ok (.tup (cutD ds lo hi)) S3
  | .str z => if z.length ≤ lim then .ok (.str (cutS z lo hi)) S3 else .bad
  | _ => .bad
theorem SlR.or {X : Cx} {r r' : V → Option Int → Option Int → Hp → VK → Prop} (h : SlR X r) (h' : SlR X r') : SlR X (fun x a b H Q => r x a b H Q ∨ r' x a b H Q) := by
  intro pins s σ H x v vl vu lo hi sl Q I rx hs pl pu q
  rcases q with q | q
  · exact h pins s σ H x v vl vu lo hi sl Q I rx hs pl pu q
  · exact h' pins s σ H x v vl vu lo hi sl Q I rx hs pl pu q
theorem cut_rp {K : PySem.W.Frag} {mg : Str → Option Value} {Hf : Hp} {ρ : List Addr} {vs : List V} {ds : List D} (h : RpL K mg Hf ρ vs ds) (lo hi : Option Int) : RpL K mg Hf ρ (cutV vs lo hi) (cutD ds lo hi) := by
  unfold cutV cutD
  rw [h.length]
  exact (h.drop _).take _
section
variable {X : Cx} {W : WX} {e : Expr} {pos p2 : Pos} {m : SemE} {lo hi : Option Expr} {ml mu : SemO}
theorem oNo : PO X none (tX X.K X.mg RO W oNone) := ⟨fun pins s σ H Q I h => po_none.run pins s σ H Q I (by
  obtain ⟨s, env, rfl, o, eo, h⟩ := h
  exact h none s o rfl (Le.refl s) rfl)⟩
theorem oYes (he : PE X e (tE X.K X.mg W m)) : PO X (some e) (tX X.K X.mg RO W (oSome m)) := ⟨fun pins s σ H Q I h => (po_some he).run pins s σ H Q I (by
  obtain ⟨s, env, rfl, o, eo, h⟩ := h
  refine RS.go (R := RE X.K X.mg) h o eo fun x t dx ot lt rx h => ?_
  split at h
  · rename_i i
    exact ⟨i, rp_int rx, h _ t ot rfl (Le.refl t) rfl⟩
  · exact h.elim)⟩
theorem xSl (he : PE X e (tE X.K X.mg W m)) (hl : PO X lo (tX X.K X.mg RO W ml)) (hu : PO X hi (tX X.K X.mg RO W mu)) : PE X (.Subscript e (.Slice lo hi none p2) pos) (tE X.K X.mg W (sSl m ml mu)) :=
  (pe_slice (sl_list.or (sl_tupA.or sl_str)) he hl hu).mono fun σ H Q h => by
    obtain ⟨s, env, rfl, o, eo, h⟩ := h
    refine RS.go (R := RE X.K X.mg) h o eo fun x t dx ot lt rx h => ?_
    refine RS.go (R := RO) h ot (eo.le lt) fun l t2 l' o2 l2 r2 h => ?_
    refine RS.go (R := RO) h o2 ((eo.le lt).le l2) fun u t3 u' o3 l3 r3 h => ?_
    subst r2 r3
    have rx := (rx.le l2).le l3
    split at h
    · rename_i ds e
      obtain ⟨p, vs, rfl, h1, r1⟩ := rd_lst o3 rx e
      exact .inl ⟨p, vs, rfl, h1, fun p hp => h.made o3 hp (Rp.newL (cut_rp r1 l u) o3 hp)⟩
    · rename_i ds e
      obtain ⟨p, vs, rfl, h1, f1, r1⟩ := rd_tup2 o3 rx e
      refine .inr (.inl ⟨p, vs, rfl, h1, fun hw => h.val o3 (.tup f1 ?_), fun _ p hp => h.made o3 hp (Rp.newT (cut_rp r1 l u) o3 hp)⟩)
      have e : cutD ds l u = ds := by
        unfold cutD
        rw [← r1.length, hw.1, hw.2, r1.length]
        simp
      rw [e]
      exact r1
    · rename_i z e
      split at h
      · rename_i hl
        exact .inr (.inr ⟨z, rd_str o3 rx e, lim_le hl, h.val o3 .str⟩)
      · exact h.elim
    · exact h.elim
end
end T
end S_TExp
section S_TFun
set_option Elab.async false
set_option linter.all false
set_option maxRecDepth 100000
set_option maxHeartbeats 4000000
namespace T
open PySem L2
/-! ### calls of built-ins -/
abbrev FnB := Sto → List D → Res D
def sF (f : FnB) (a : SemA) : SemE := fun env S => (a env S).bind fun ds S1 => f S1 ds
def CaS (K : PySem.W.Frag) (mg : Str → Option Value) (r : List V → Hp → VK → Prop) (f : FnB) : Prop := ∀ (W : WX) (σ : L2.St) (Q : VK) (s : Stt) (vs : List V) (ds : List D), Ok K mg s → RpL K mg s.Hf s.ρ vs ds → RS K mg (RE K mg) W σ Q s (f s.S ds) → r vs s.H Q
section
variable {X : Cx} {W : WX} {x : Str} {p pos : Pos} {e : Expr} {es : List Expr} {ma : SemA} {f : FnB} {id Ty : String} {r : List V → Hp → VK → Prop}
theorem cb_read {K : PySem.W.Frag} {mg : Str → Option Value} (hf : CaS K mg r f) {σ : L2.St} {H : Hp} {Q : VK} (h : tE K mg W (sF f ma) σ H Q) : tCB r (tA K mg W ma) σ H Q := by
  obtain ⟨s, env, rfl, o, eo, h⟩ := h
  exact RS.go (R := RA K mg) h o eo fun x t dx ot lt rx h => hf W σ Q t x dx ot rx h
theorem xFB (hc : CallR X (.builtin id) r) (hf : CaS X.K X.mg r f) (hv : bootBuiltins x = some (.builtin id)) (hn : x ≠ "__name__") (hdb : (x == ("__debug__" : Str)) = false) (hg : Gl X x) (hm : X.mg x = none) (ha : PA X (e :: es) (tA X.K X.mg W ma))
    (he : starEach (e :: es) X.env = (false, eval e X.env) :: starEach es X.env) (hpl : (backTo pos (starEach es X.env)).any (·.1) = false) : PE X (.Call (.Name x p) (e :: es) [] pos) (tE X.K X.mg W (sF f ma)) :=
  (pe_callB hc hg hm hv ha hn hdb he hpl).mono fun _ _ _ h => cb_read hf h
theorem xFT (hc : CallR X (.type Ty) r) (hf : CaS X.K X.mg r f) (hv : bootBuiltins x = some (.type Ty)) (hn : x ≠ "__name__") (hdb : (x == ("__debug__" : Str)) = false) (hg : Gl X x) (hm : X.mg x = none) (ha : PA X (e :: es) (tA X.K X.mg W ma))
    (he : starEach (e :: es) X.env = (false, eval e X.env) :: starEach es X.env) (hpl : (backTo pos (starEach es X.env)).any (·.1) = false) : PE X (.Call (.Name x p) (e :: es) [] pos) (tE X.K X.mg W (sF f ma)) :=
  (pe_callTy hc hg hm hv ha hn hdb he hpl).mono fun _ _ _ h => cb_read hf h
end
theorem CallR.or {X : Cx} {f : Value} {r r' : List V → Hp → VK → Prop} (h : CallR X f r) (h' : CallR X f r') : CallR X f (fun x H Q => r x H Q ∨ r' x H Q) := by
  intro pins s σ H xs us Q I rx q
  rcases q with q | q
  · exact h pins s σ H xs us Q I rx q
  · exact h' pins s σ H xs us Q I rx q
section
variable {K : PySem.W.Frag} {mg : Str → Option Value}
theorem one {Hf : Hp} {ρ : List Addr} {vs : List V} {d : D} (h : RpL K mg Hf ρ vs [d]) : ∃ v, vs = [v] ∧ Rp K mg Hf ρ v d := by
  cases h with
  | cons h1 h2 => cases h2; exact ⟨_, rfl, h1⟩
theorem two {Hf : Hp} {ρ : List Addr} {vs : List V} {d e : D} (h : RpL K mg Hf ρ vs [d, e]) : ∃ v w, vs = [v, w] ∧ Rp K mg Hf ρ v d ∧ Rp K mg Hf ρ w e := by
  cases h with
  | cons h1 h2 =>
    obtain ⟨w, rfl, h3⟩ := one h2
    exact ⟨_, _, rfl, h1, h3⟩
def bLen : FnB := fun S ds => match ds with
  | [d] => (match rd S d with
    | .lst xs => .ok (.int xs.length) S
    | .tup xs => .ok (.int xs.length) S
    | .str z => if z.length ≤ lim then .ok (.int z.length) S else .bad
    | _ => .bad)
  | _ => .bad
theorem bLen_ok : CaS K mg (fun xs H Q => ∃ x n, xs = [x] ∧ LenV K x H n ∧ Q (.int n) H) bLen := by
  intro W σ Q s vs ds o r h
  unfold bLen at h
  split at h
  · rename_i d
    obtain ⟨v, rfl, r1⟩ := one r
    split at h
    · rename_i xs e
      obtain ⟨a, vs, rfl, h1, r2⟩ := rd_lst o r1 e
      exact ⟨_, vs.length, rfl, .inl ⟨vs, h1, rfl⟩, by rw [r2.length]; exact h.val o .int⟩
    · rename_i xs e
      obtain ⟨a, vs, rfl, h1, r2⟩ := rd_tup o r1 e
      exact ⟨_, vs.length, rfl, .inr ⟨vs, h1, rfl⟩, by rw [r2.length]; exact h.val o .int⟩
    · rename_i z e
      split at h
      · rename_i hl
        have := rd_str o r1 e
        subst this
        exact ⟨_, z.length, rfl, ⟨lim_le hl, rfl⟩, h.val o .int⟩
      · exact h.elim
    · exact h.elim
  · exact h.elim
def bAbs : FnB := fun S ds => match ds with
  | [.int i] => .ok (.int (if i < 0 then -i else i)) S
  | _ => .bad
theorem bAbs_ok : CaS K mg (fun xs H Q => ∃ i, xs = [.int i] ∧ Q (.int (if i < 0 then -i else i)) H) bAbs := by
  intro W σ Q s vs ds o r h
  unfold bAbs at h
  split at h
  · obtain ⟨v, rfl, r1⟩ := one r
    cases r1
    exact ⟨_, rfl, h.val o .int⟩
  · exact h.elim
def bInt : FnB := fun S ds => match ds with
  | [.int i] => .ok (.int i) S
  | [.bl b] => .ok (.int (if b then 1 else 0)) S
  | [.str z] => if z.length ≤ 640 then (match PySem.intText? z with | some n => .ok (.int n) S | none => .bad) else .bad
  | _ => .bad
theorem bInt_ok : CaS K mg (fun xs H Q => ((∃ i, xs = [.int i] ∧ Q (.int i) H) ∨ ∃ k, xs = [.bl k] ∧ Q (.int (if k then 1 else 0)) H) ∨ ∃ a n, xs = [.str a] ∧ PySem.intText? a = some n ∧ a.length ≤ 640 ∧ Q (.int n) H) bInt := by
  intro W σ Q s vs ds o r h
  unfold bInt at h
  split at h
  · obtain ⟨v, rfl, r1⟩ := one r
    cases r1
    exact .inl (.inl ⟨_, rfl, h.val o .int⟩)
  · obtain ⟨v, rfl, r1⟩ := one r
    cases r1
    exact .inl (.inr ⟨_, rfl, h.val o .int⟩)
  · obtain ⟨v, rfl, r1⟩ := one r
    cases r1
    split at h
    · rename_i hl
      split at h
      · rename_i n e
        exact .inr ⟨_, n, rfl, e, hl, h.val o .int⟩
      · exact h.elim
    · exact h.elim
  · exact h.elim
def bMin2 : FnB := fun S ds => match ds with
  | [.int i, .int j] => .ok (.int (if j < i then j else i)) S
  | _ => .bad
theorem bMin2_ok : CaS K mg (fun xs H Q => ∃ i j, xs = [.int i, .int j] ∧ Q (.int (if j < i then j else i)) H) bMin2 := by
  intro W σ Q s vs ds o r h
  unfold bMin2 at h
  split at h
  · obtain ⟨v, w, rfl, r1, r2⟩ := two r
    cases r1
    cases r2
    exact ⟨_, _, rfl, h.val o .int⟩
  · exact h.elim
def bMax2 : FnB := fun S ds => match ds with
  | [.int i, .int j] => .ok (.int (if j > i then j else i)) S
  | _ => .bad
theorem bMax2_ok : CaS K mg (fun xs H Q => ∃ i j, xs = [.int i, .int j] ∧ Q (.int (if j > i then j else i)) H) bMax2 := by
  intro W σ Q s vs ds o r h
  unfold bMax2 at h
  split at h
  · obtain ⟨v, w, rfl, r1, r2⟩ := two r
    cases r1
    cases r2
    exact ⟨_, _, rfl, h.val o .int⟩
  · exact h.elim
def bList : FnB := fun S ds => match ds with
  | [d] => (match rd S d with
    | .lst xs => .ok (.lst xs) S
    | .tup xs => .ok (.lst xs) S
    | _ => .bad)
  | _ => .bad
theorem bList_ok : CaS K mg (fun xs H Q => ∃ p ys, xs = [.ref p] ∧ (SqL K H p ys ∨ SqT K H p ys) ∧ ∀ l, H l = none → Q (.ref l) (upd H l (.lst ys))) bList := by
  intro W σ Q s vs ds o r h
  unfold bList at h
  split at h
  · obtain ⟨v, rfl, r1⟩ := one r
    split at h
    · rename_i xs e
      obtain ⟨a, vs, rfl, h1, r2⟩ := rd_lst o r1 e
      exact ⟨a, vs, rfl, .inl h1, fun p hp => h.made o hp (Rp.newL r2 o hp)⟩
    · rename_i xs e
      obtain ⟨a, vs, rfl, h1, r2⟩ := rd_tup o r1 e
      exact ⟨a, vs, rfl, .inr h1, fun p hp => h.made o hp (Rp.newL r2 o hp)⟩
    · exact h.elim
  · exact h.elim
/-- list(xs), to be changed -/
def bListC : FnB := fun S ds => match ds with
  | [d] => (match rd S d with
    | .lst xs => .ok (.cell S.length) (S ++ [.lv (.lst xs)])
    | .tup xs => .ok (.cell S.length) (S ++ [.lv (.lst xs)])
    | _ => .bad)
  | _ => .bad
theorem bListC_ok : CaS K mg (fun xs H Q => ∃ p ys, xs = [.ref p] ∧ (SqL K H p ys ∨ SqT K H p ys) ∧ ∀ l, H l = none → Q (.ref l) (upd H l (.lst ys))) bListC := by
  intro W σ Q s vs ds o r h
  unfold bListC at h
  split at h
  · obtain ⟨v, rfl, r1⟩ := one r
    split at h
    · rename_i xs e
      obtain ⟨a, vs, rfl, h1, r2⟩ := rd_lst o r1 e
      exact ⟨a, vs, rfl, .inl h1, fun p hp => h.madeC o hp ⟨vs, upd_same, r2⟩⟩
    · rename_i xs e
      obtain ⟨a, vs, rfl, h1, r2⟩ := rd_tup o r1 e
      exact ⟨a, vs, rfl, .inr h1, fun p hp => h.madeC o hp ⟨vs, upd_same, r2⟩⟩
    · exact h.elim
  · exact h.elim
def bTuple : FnB := fun S ds => match ds with
  | [d] => (match rd S d with
    | .lst xs => .ok (.tup xs) S
    | .tup xs => .ok (.tup xs) S
    | _ => .bad)
  | _ => .bad
theorem bTuple_ok : CaS K mg (fun xs H Q => ∃ p ys, xs = [.ref p] ∧ ((SqL K H p ys ∧ ∀ l, H l = none → Q (.ref l) (upd H l (.tup ys))) ∨ (SqT K H p ys ∧ Q (.ref p) H))) bTuple := by
  intro W σ Q s vs ds o r h
  unfold bTuple at h
  split at h
  · obtain ⟨v, rfl, r1⟩ := one r
    split at h
    · rename_i xs e
      obtain ⟨a, vs, rfl, h1, r2⟩ := rd_lst o r1 e
      exact ⟨a, vs, rfl, .inl ⟨h1, fun p hp => h.made o hp (Rp.newT r2 o hp)⟩⟩
    · rename_i xs e
      obtain ⟨a, vs, rfl, h1, f1, r2⟩ := rd_tup2 o r1 e
      exact ⟨a, vs, rfl, .inr ⟨h1, h.val o (.tup f1 r2)⟩⟩
    · exact h.elim
  · exact h.elim
def blsOf : List D → Option (List Bool)
  | [] => some []
  | .bl b :: r => (blsOf r).map (b :: ·)
  | _ => none
theorem blsOf_rp {Hf : Hp} {ρ : List Addr} : ∀ {ds : List D} {bs : List Bool} {vs : List V}, blsOf ds = some bs → RpL K mg Hf ρ vs ds → vs = bs.map V.bl
  | [], bs, vs, h, r => by cases r; simp only [blsOf] at h; injection h with h; subst h; rfl
  | .bl b :: ds, bs, vs, h, r => by
    cases r with
    | cons h1 h2 =>
      simp only [blsOf] at h
      cases q : blsOf ds with
      | none => rw [q] at h; cases h
      | some cs =>
        rw [q] at h
        injection h with h
        subst h
        cases h1
        rw [blsOf_rp q h2]
        rfl
  | .non :: _, _, _, h, _ => by simp only [blsOf] at h; cases h
  | .int _ :: _, _, _, h, _ => by simp only [blsOf] at h; cases h
  | .str _ :: _, _, _, h, _ => by simp only [blsOf] at h; cases h
  | .tup _ :: _, _, _, h, _ => by simp only [blsOf] at h; cases h
  | .lst _ :: _, _, _, h, _ => by simp only [blsOf] at h; cases h
  | .rdl _ :: _, _, _, h, _ => by simp only [blsOf] at h; cases h
  | .dk _ :: _, _, _, h, _ => by simp only [blsOf] at h; cases h
  | .obj _ _ :: _, _, _, h, _ => by simp only [blsOf] at h; cases h
  | .exc _ _ :: _, _, _, h, _ => by simp only [blsOf] at h; cases h
  | .cell _ :: _, _, _, h, _ => by simp only [blsOf] at h; cases h
def bAll : FnB := fun S ds => match ds with
  | [d] => (match rd S d with
    | .lst xs => (match blsOf xs with | some bs => .ok (.bl (bs.all id)) S | none => .bad)
    | _ => .bad)
  | _ => .bad
theorem bAll_ok : CaS K mg (rAll K) bAll := by
  intro W σ Q s vs ds o r h
  unfold bAll at h
  split at h
  · obtain ⟨v, rfl, r1⟩ := one r
    split at h
    · rename_i xs e
      split at h
      · rename_i bs e2
        obtain ⟨a, vs, rfl, h1, r2⟩ := rd_lst o r1 e
        have := blsOf_rp e2 r2
        subst this
        exact ⟨a, bs, rfl, h1, h.val o .bl⟩
      · exact h.elim
    · exact h.elim
  · exact h.elim
def bAny : FnB := fun S ds => match ds with
  | [d] => (match rd S d with
    | .lst xs => (match blsOf xs with | some bs => .ok (.bl (bs.any id)) S | none => .bad)
    | _ => .bad)
  | _ => .bad
theorem bAny_ok : CaS K mg (rAny K) bAny := by
  intro W σ Q s vs ds o r h
  unfold bAny at h
  split at h
  · obtain ⟨v, rfl, r1⟩ := one r
    split at h
    · rename_i xs e
      split at h
      · rename_i bs e2
        obtain ⟨a, vs, rfl, h1, r2⟩ := rd_lst o r1 e
        have := blsOf_rp e2 r2
        subst this
        exact ⟨a, bs, rfl, h1, h.val o .bl⟩
      · exact h.elim
    · exact h.elim
  · exact h.elim
def bStr : FnB := fun S ds => match ds with
  | [.int i] => if i.natAbs.log2 < 1920 then .ok (.str (Str.ofString (toString i))) S else .bad
  | _ => .bad
theorem bStr_ok : CaS K mg (fun xs H Q => ∃ i, xs = [.int i] ∧ i.natAbs.log2 < 1920 ∧ Q (.str (Str.ofString (toString i))) H) bStr := by
  intro W σ Q s vs ds o r h
  unfold bStr at h
  split at h
  · obtain ⟨v, rfl, r1⟩ := one r
    cases r1
    split at h
    · rename_i hl
      exact ⟨_, rfl, hl, h.val o .str⟩
    · exact h.elim
  · exact h.elim
def strsOf : List D → Option (List Str)
  | [] => some []
  | .str b :: r => (strsOf r).map (b :: ·)
  | _ => none
theorem strsOf_rp {Hf : Hp} {ρ : List Addr} : ∀ {ds : List D} {bs : List Str} {vs : List V}, strsOf ds = some bs → RpL K mg Hf ρ vs ds → vs = bs.map V.str
  | [], bs, vs, h, r => by cases r; simp only [strsOf] at h; injection h with h; subst h; rfl
  | .str b :: ds, bs, vs, h, r => by
    cases r with
    | cons h1 h2 =>
      simp only [strsOf] at h
      cases q : strsOf ds with
      | none => rw [q] at h; cases h
      | some cs =>
        rw [q] at h
        injection h with h
        subst h
        cases h1
        rw [strsOf_rp q h2]
        rfl
  | .non :: _, _, _, h, _ => by simp only [strsOf] at h; cases h
  | .int _ :: _, _, _, h, _ => by simp only [strsOf] at h; cases h
  | .bl _ :: _, _, _, h, _ => by simp only [strsOf] at h; cases h
  | .tup _ :: _, _, _, h, _ => by simp only [strsOf] at h; cases h
  | .lst _ :: _, _, _, h, _ => by simp only [strsOf] at h; cases h
  | .rdl _ :: _, _, _, h, _ => by simp only [strsOf] at h; cases h
  | .dk _ :: _, _, _, h, _ => by simp only [strsOf] at h; cases h
  | .obj _ _ :: _, _, _, h, _ => by simp only [strsOf] at h; cases h
  | .exc _ _ :: _, _, _, h, _ => by simp only [strsOf] at h; cases h
  | .cell _ :: _, _, _, h, _ => by simp only [strsOf] at h; cases h
theorem strs_rp {Hf : Hp} {ρ : List Addr} : ∀ (bs : List Str), RpL K mg Hf ρ (bs.map V.str) (bs.map D.str)
  | [] => .nil
  | _ :: r => .cons .str (strs_rp r)
theorem ints_rp {Hf : Hp} {ρ : List Addr} : ∀ (bs : List Int), RpL K mg Hf ρ (bs.map V.int) (bs.map D.int)
  | [] => .nil
  | _ :: r => .cons .int (ints_rp r)
theorem bls_rp {Hf : Hp} {ρ : List Addr} : ∀ (bs : List Bool), RpL K mg Hf ρ (bs.map V.bl) (bs.map D.bl)
  | [] => .nil
  | _ :: r => .cons .bl (bls_rp r)
end
end T
end S_TFun
section S_TMeth
set_option Elab.async false
set_option linter.all false
set_option maxRecDepth 100000
set_option maxHeartbeats 4000000
namespace T
open PySem L2 TL
/-! ### methods of built-in types -/
abbrev FnM := Sto → D → List D → Res D
def tyIs (Ty : String) (S : Sto) (d : D) : Bool := match d, Ty with
  | .str _, "str" => true
  | d, "list" => (match rd S d with | .lst _ => true | _ => false)
  | _, _ => false
def sM (Ty : String) (f : FnM) (m : SemE) (a : SemA) : SemE := fun env S => (m env S).bind fun x S1 => if tyIs Ty S1 x then (a env S1).bind fun ds S2 => f S2 x ds else .bad
def MtS (K : PySem.W.Frag) (mg : Str → Option Value) (r : V → List V → Hp → VK → Prop) (f : FnM) : Prop := ∀ (W : WX) (σ : L2.St) (Q : VK) (s : Stt) (x : V) (dx : D) (vs : List V) (ds : List D), Ok K mg s → Rp K mg s.Hf s.ρ x dx → RpL K mg s.Hf s.ρ vs ds → RS K mg (RE K mg) W σ Q s (f s.S dx ds) → r x vs s.H Q
theorem tyIs_ok {K : PySem.W.Frag} {mg : Str → Option Value} {s : Stt} {Ty : String} {x : V} {d : D} (o : Ok K mg s) (r : Rp K mg s.Hf s.ρ x d) (h : tyIs Ty s.S d = true) : tyV K Ty x s.H := by
  unfold tyIs at h
  split at h
  · cases r; rfl
  · split at h
    · rename_i xs e
      obtain ⟨a, vs, rfl, h1, r2⟩ := rd_lst o r e
      exact .inl ⟨rfl, vs, h1⟩
    · cases h
  · cases h
section
variable {X : Cx} {W : WX} {ob e : Expr} {es : List Expr} {m : SemE} {ma : SemA} {name : Str} {apos cpos : Pos} {Ty id : String} {r : V → List V → Hp → VK → Prop} {f : FnM}
theorem xM (pa : PlainAttrs Ty) (slot : Slot Ty name id) (hty : typeOf (.builtin id) = pure (.type "method_descriptor")) (hm : MtR X id r) (hf : MtS X.K X.mg r f) (ho : PE X ob (tE X.K X.mg W m)) (ha : PA X (e :: es) (tA X.K X.mg W ma))
    (hbase : attributeBase ob name X.env (eval ob X.env) = eval ob X.env)
    (hfew : ((backTo cpos (starEach (e :: es) X.env)).all (fun x => !x.1) && (backToKw cpos (keywordEach [] X.env)).all (fun x => x.1.isSome) && decide ((e :: es).length + ([] : List Keyword).length + (if ([] : List Keyword).isEmpty then 0 else 1) < 30)) = true)
    (hline : (apos.endLine == cpos.line) = true) (hs : starEach (e :: es) X.env = (false, eval e X.env) :: starEach es X.env) (hplain : (backTo cpos (starEach es X.env)).any (·.1) = false) :
    PE X (.Call (.Attribute ob name apos) (e :: es) [] cpos) (tE X.K X.mg W (sM Ty f m ma)) := (pe_bm pa slot hty hm ho ha hbase hfew hline hs hplain).mono fun σ H Q h => by
  obtain ⟨s, env, rfl, o, eo, h⟩ := h
  refine RS.go (R := RE X.K X.mg) h o eo fun x t dx ot lt rx h => ?_
  split at h
  · rename_i hT
    refine ⟨tyIs_ok ot rx hT, ?_⟩
    exact RS.go (R := RA X.K X.mg) h ot (eo.le lt) fun y u dy ou lu ry h => hf W σ Q u x dx y dy ou (rx.le lu) ry h
  · exact h.elim
theorem xM0 (pa : PlainAttrs Ty) (slot : Slot Ty name id) (hty : typeOf (.builtin id) = pure (.type "method_descriptor")) (hm : MtR X id r) (hf : MtS X.K X.mg r f) (ho : PE X ob (tE X.K X.mg W m)) (hbase : attributeBase ob name X.env (eval ob X.env) = eval ob X.env) (hline : (apos.endLine == cpos.line) = true) :
    PE X (.Call (.Attribute ob name apos) [] [] cpos) (tE X.K X.mg W (sM Ty f m aNil)) := (pe_bm0 pa slot hty hm ho hbase hline).mono fun σ H Q h => by
  obtain ⟨s, env, rfl, o, eo, h⟩ := h
  refine RS.go (R := RE X.K X.mg) h o eo fun x t dx ot lt rx h => ?_
  split at h
  · rename_i hT
    exact ⟨tyIs_ok ot rx hT, hf W σ Q t x dx [] [] ot rx .nil h⟩
  · exact h.elim
end
section
variable {K : PySem.W.Frag} {mg : Str → Option Value}
/-- a change of a cell -/
theorem RS.put {W : WX} {σ : L2.St} {Q : VK} {s : Stt} {n : Nat} {a : Addr} {u : HO} {d d1 d' : D} {v : V} (h : RS K mg (RE K mg) W σ Q s (.ok d1 (s.S.set n (.lv d')))) (o : Ok K mg s) (h1 : s.S[n]? = some (.lv d)) (h2 : s.ρ[n]? = some a) (hc : CelOk K mg s.Hf s.ρ (upd s.H a u) a d') (r : Rp K mg s.Hf s.ρ v d1) : Q v (upd s.H a u) :=
  h v (s.put n a u d') (o.put h1 h2 hc) rfl (Le.put h2) r
theorem cell_lst {s : Stt} {n : Nat} {x : V} {ds : List D} (o : Ok K mg s) (r : Rp K mg s.Hf s.ρ x (.cell n)) (h : s.S[n]? = some (.lv (.lst ds))) : ∃ a vs, x = .ref a ∧ s.ρ[n]? = some a ∧ s.H a = some (.lst vs) ∧ RpL K mg s.Hf s.ρ vs ds := by
  cases r with
  | cell h1 =>
    obtain ⟨_, vs, q1, q2⟩ := o.lv n _ _ h h1
    exact ⟨_, vs, rfl, h1, q1, q2⟩
def mAppend : FnM := fun S x ds => match x, ds with
  | .cell n, [d] => (match S[n]? with
    | some (.lv (.lst xs)) => if xs.length < lim then .ok .non (S.set n (.lv (.lst (xs ++ [d])))) else .bad
    | _ => .bad)
  | _, _ => .bad
theorem mAppend_ok : MtS K mg rAppend mAppend := by
  intro W σ Q s x dx vs ds o rx r h
  unfold mAppend at h
  split at h
  · rename_i n d
    split at h
    · rename_i xs e
      split at h
      · rename_i hl
        obtain ⟨v, rfl, r1⟩ := one r
        obtain ⟨a, ws, rfl, h1, h2, r2⟩ := cell_lst o rx e
        exact ⟨a, ws, v, rfl, rfl, h2, by rw [r2.length]; exact Nat.lt_of_lt_of_le hl (by decide), h.put o e h1 ⟨ws ++ [v], upd_same, r2.append (.cons r1 .nil)⟩ .non⟩
      · exact h.elim
    · exact h.elim
  · exact h.elim
def mExtend : FnM := fun S x ds => match x, ds with
  | .cell n, [d] => (match S[n]?, tk S d with
    | some (.lv (.lst xs)), .lst ys => if xs.length + ys.length ≤ lim then .ok .non (S.set n (.lv (.lst (xs ++ ys)))) else .bad
    | _, _ => .bad)
  | _, _ => .bad
theorem mExtend_ok : MtS K mg rExtend mExtend := by
  intro W σ Q s x dx vs ds o rx r h
  unfold mExtend at h
  split at h
  · rename_i n d
    split at h
    · rename_i xs ys e e2
      split at h
      · rename_i hl
        obtain ⟨v, rfl, r1⟩ := one r
        obtain ⟨a, ws, rfl, h1, h2, r2⟩ := cell_lst o rx e
        obtain ⟨b, us, rfl, h3, r3⟩ := tk_lst o r1 e2
        exact ⟨a, b, ws, us, rfl, rfl, h2, h3, by rw [r2.length, r3.length]; exact lim_le hl, h.put o e h1 ⟨ws ++ us, upd_same, r2.append r3⟩ .non⟩
      · exact h.elim
    · exact h.elim
  · exact h.elim
theorem RpL.dropLast {Hf : Hp} {ρ : List Addr} {vs : List V} {ds : List D} (h : RpL K mg Hf ρ vs ds) : RpL K mg Hf ρ vs.dropLast ds.dropLast := by
  rw [List.dropLast_eq_take, List.dropLast_eq_take, h.length]
  exact h.take _
def mPop : FnM := fun S x ds => match x, ds with
  | .cell n, [] => (match S[n]? with
    | some (.lv (.lst xs)) => (match xs[xs.length - 1]? with
      | some d => .ok d (S.set n (.lv (.lst xs.dropLast)))
      | none => .bad)
    | _ => .bad)
  | _, _ => .bad
theorem mPop_ok : MtS K mg rPop mPop := by
  intro W σ Q s x dx vs ds o rx r h
  unfold mPop at h
  split at h
  · rename_i n
    split at h
    · rename_i xs e
      split at h
      · rename_i d e2
        cases r
        obtain ⟨a, ws, rfl, h1, h2, r2⟩ := cell_lst o rx e
        obtain ⟨v, e3, r3⟩ := r2.get' e2
        rw [← r2.length] at e3
        exact ⟨a, ws, v, rfl, rfl, h2, e3, h.put o e h1 ⟨ws.dropLast, upd_same, r2.dropLast⟩ r3⟩
      · exact h.elim
    · exact h.elim
  · exact h.elim
/-! texts -/
def mkS (l : List Nat) : Str := ⟨l.toArray⟩
theorem tl_mkS (l : List Nat) : (mkS l).cps.toList = l := rfl
theorem mkS_tl (x : Str) : mkS x.cps.toList = x := rfl
def splitS (x y : Str) : List Str := (TL.spl (tl y) 0 [] (tl x)).map mkS
theorem split_eq {x y : Str} (hy : tl y ≠ []) (hk : y.cps.all (· < 256) = true) : Txt.split x y = splitS x y := by
  apply map_tl_inj
  rw [split_spl x y hy (kind_ok hk)]
  unfold splitS
  rw [List.map_map]
  have : (tl ∘ mkS) = id := rfl
  rw [this, List.map_id]
def mSplit : FnM := fun S x ds => match x, ds with
  | .str a, [.str b] => if decide (a.length ≤ lim) && (decide (b.cps.toList ≠ []) && b.cps.all (· < 256)) then .ok (.lst ((splitS a b).map .str)) S else .bad
  | _, _ => .bad
theorem mSplit_ok : MtS K mg (fun x xs H Q => ∃ a b, x = .str a ∧ xs = [.str b] ∧ (b.length == 0) = false ∧ a.length + 2 ≤ sizeLine ∧ rNewStrs (Txt.split a b) H Q) mSplit := by
  intro W σ Q s x dx vs ds o rx r h
  unfold mSplit at h
  split at h
  · rename_i a b
    split at h
    · rename_i hc
      rw [Bool.and_eq_true, Bool.and_eq_true, decide_eq_true_eq, decide_eq_true_eq] at hc
      obtain ⟨v, rfl, r1⟩ := one r
      cases r1
      cases rx
      refine ⟨a, b, rfl, rfl, ?_, Nat.le_trans (Nat.add_le_add_right hc.1 2) (by decide), fun p hp => ?_⟩
      · have e := len_tl b
        rw [beq_eq_false_iff_ne, e]
        exact fun z => hc.2.1 (List.length_eq_zero_iff.mp z)
      · rw [split_eq hc.2.1 hc.2.2]
        exact h.made o hp (Rp.newL (strs_rp _) o hp)
    · exact h.elim
  · exact h.elim
def sumLen (ys : List Str) : Nat := (ys.map (·.length)).sum
def joinS (a : Str) (ys : List Str) : Str := mkS (joinL (tl a) (ys.map tl))
theorem join_is (a : Str) (ys : List Str) : Txt.join a ys = joinS a ys := by
  rw [join_eq]
  apply ext_tl
  rw [tl_join]
  rfl
def mJoin : FnM := fun S x ds => match x, ds with
  | .str a, [d] => (match rd S d with
    | .lst xs => (match strsOf xs with | some ys => if sumLen ys + ys.length * a.length ≤ lim then .ok (.str (joinS a ys)) S else .bad | none => .bad)
    | .tup xs => (match strsOf xs with | some ys => if sumLen ys + ys.length * a.length ≤ lim then .ok (.str (joinS a ys)) S else .bad | none => .bad)
    | _ => .bad)
  | _, _ => .bad
theorem mJoin_ok : MtS K mg (fun x xs H Q => ∃ a p, ∃ ys : List Str, x = .str a ∧ xs = [.ref p] ∧ (SqL K H p (ys.map V.str) ∨ SqT K H p (ys.map V.str)) ∧
      (ys.map (·.length)).sum + ys.length * a.length ≤ 16777216 ∧ Q (.str (Txt.join a ys)) H) mJoin := by
  intro W σ Q s x dx vs ds o rx r h
  unfold mJoin at h
  split at h
  · rename_i a d
    obtain ⟨v, rfl, r1⟩ := one r
    cases rx
    split at h
    · rename_i xs e
      split at h
      · rename_i ys e2
        split at h
        · rename_i hl
          obtain ⟨p, ws, rfl, h1, r2⟩ := rd_lst o r1 e
          have := strsOf_rp e2 r2
          subst this
          exact ⟨a, p, ys, rfl, rfl, .inl h1, Nat.le_trans hl (by decide), by rw [join_is]; exact h.val o .str⟩
        · exact h.elim
      · exact h.elim
    · rename_i xs e
      split at h
      · rename_i ys e2
        split at h
        · rename_i hl
          obtain ⟨p, ws, rfl, h1, r2⟩ := rd_tup o r1 e
          have := strsOf_rp e2 r2
          subst this
          exact ⟨a, p, ys, rfl, rfl, .inr h1, Nat.le_trans hl (by decide), by rw [join_is]; exact h.val o .str⟩
        · exact h.elim
      · exact h.elim
    · exact h.elim
  · exact h.elim
/-- signs at the end taken off -/
def rstripL (goes : Nat → Bool) (l : List Nat) : List Nat := l.take (l.length - (l.reverse.takeWhile goes).length)
def rstripS (x y : Str) : Str := mkS (rstripL (fun c => y.cps.contains c) x.cps.toList)
theorem rstrip_eq (x y : Str) : Txt.rstripChars x y = rstripS x y := by
  apply ext_tl
  show tl (if stripSame y.cps.contains false true x = true then x else stripped y.cps.contains false true x) = rstripL (fun c => y.cps.contains c) (tl x)
  have e1 : stripLo y.cps.contains false x = 0 := rfl
  have e2 : stripHi y.cps.contains true x 0 = (tl x).length - ((tl x).reverse.takeWhile fun c => y.cps.contains c).length := by
    show x.length - (((tl x).drop 0).reverse.takeWhile y.cps.contains).length = _
    rw [len_tl, List.drop_zero]
  split
  · rename_i h
    unfold stripSame at h
    rw [e1, e2, Bool.and_eq_true, beq_iff_eq, beq_iff_eq, len_tl] at h
    unfold rstripL
    rw [h.2, List.take_length]
  · unfold stripped
    rw [e1, e2, tl_strSub, List.drop_zero]
    rfl
def mRstrip : FnM := fun S x ds => match x, ds with
  | .str a, [.str b] => if a.length ≤ lim then .ok (.str (rstripS a b)) S else .bad
  | _, _ => .bad
theorem mRstrip_ok : MtS K mg (fun x xs H Q => ∃ a b, x = .str a ∧ xs = [.str b] ∧ a.length ≤ sizeLine ∧ Q (.str (Txt.rstripChars a b)) H) mRstrip := by
  intro W σ Q s x dx vs ds o rx r h
  unfold mRstrip at h
  split at h
  · rename_i a b
    split at h
    · rename_i hl
      obtain ⟨v, rfl, r1⟩ := one r
      cases r1
      cases rx
      exact ⟨a, b, rfl, rfl, lim_le hl, by rw [rstrip_eq]; exact h.val o .str⟩
    · exact h.elim
  · exact h.elim
/-! ### sorted texts -/
def insS (x : Str) : List Str → List Str
  | [] => [x]
  | y :: r => if sLt y x then y :: insS x r else x :: y :: r
def sortS : List Str → List Str
  | [] => []
  | x :: r => insS x (sortS r)
theorem insS_perm (x : Str) : ∀ l : List Str, (insS x l).Perm (x :: l)
  | [] => .refl _
  | y :: r => by
    unfold insS
    split
    · exact ((insS_perm x r).cons y).trans (.swap x y r)
    · exact .refl _
theorem sortS_perm : ∀ l : List Str, (sortS l).Perm l
  | [] => .refl _
  | x :: r => (insS_perm x (sortS r)).trans ((sortS_perm r).cons x)
/-- not greater -/
def leS (a b : Str) : Prop := ¬ b.cps.toList < a.cps.toList
theorem leS_trans {a b c : Str} (h1 : leS a b) (h2 : leS b c) : leS a c := by
  unfold leS at *
  rw [List.not_lt] at *
  exact List.le_trans h1 h2
theorem leS_antisymm {a b : Str} (h1 : leS a b) (h2 : leS b a) : a = b := by
  unfold leS at *
  rw [List.not_lt] at *
  exact ext_tl (List.le_antisymm h1 h2)
theorem insS_sorted (x : Str) : ∀ {l : List Str}, l.Pairwise leS → (insS x l).Pairwise leS
  | [], _ => by unfold insS; simp
  | y :: r, h => by
    rw [List.pairwise_cons] at h
    unfold insS
    split
    · rename_i hlt
      rw [List.pairwise_cons]
      refine ⟨fun z hz => ?_, insS_sorted x h.2⟩
      rcases List.mem_cons.mp ((insS_perm x r).mem_iff.mp hz) with e | e
      · subst e
        have := of_decide_eq_true hlt
        exact fun q => absurd (List.lt_trans q this) (List.lt_irrefl _)
      · exact h.1 z e
    · rename_i hlt
      have hxy : leS x y := fun q => hlt (decide_eq_true q)
      rw [List.pairwise_cons]
      refine ⟨fun z hz => ?_, by rw [List.pairwise_cons]; exact h⟩
      rcases List.mem_cons.mp hz with e | e
      · subst e; exact hxy
      · exact leS_trans hxy (h.1 z e)
theorem sortS_sorted : ∀ l : List Str, (sortS l).Pairwise leS
  | [] => .nil
  | x :: r => insS_sorted x (sortS_sorted r)
theorem sorted_uniq : ∀ {a b : List Str}, a.Perm b → a.Pairwise leS → b.Pairwise leS → a = b := by
  intro a
  induction a with
  | nil => intro b p _ _; exact (List.nil_perm.mp p).symm
  | cons x xs ih =>
    intro b p ha hb
    cases b with
    | nil => exact absurd p.length_eq (by simp)
    | cons y ys =>
      rw [List.pairwise_cons] at ha hb
      have exy : x = y := by
        have h1 : x ∈ y :: ys := p.mem_iff.mp (List.mem_cons_self ..)
        have h2 : y ∈ x :: xs := p.mem_iff.mpr (List.mem_cons_self ..)
        rcases List.mem_cons.mp h1 with e | e
        · exact e
        · rcases List.mem_cons.mp h2 with e2 | e2
          · exact e2.symm
          · exact leS_antisymm (ha.1 y e2) (hb.1 x e)
      subst exy
      rw [ih (List.Perm.cons_inv p) ha.2 hb.2]
theorem rising_pw : ∀ (r : List Str) (p : Str), PyProof.Rows.risingS p r = true → (p :: r).Pairwise leS
  | [], p, _ => by simp
  | x :: r, p, h => by
    unfold PyProof.Rows.risingS at h
    rw [Bool.and_eq_true, Bool.not_eq_true'] at h
    have h1 : leS p x := fun q => by
      have z := PyProof.Rows.ltCps_eq x.cps.toList p.cps.toList
      rw [h.1, decide_eq_true q] at z
      cases z
    have h2 := rising_pw r x h.2
    rw [List.pairwise_cons]
    refine ⟨fun z hz => ?_, h2⟩
    rcases List.mem_cons.mp hz with e | e
    · subst e; exact h1
    · rw [List.pairwise_cons] at h2; exact leS_trans h1 (h2.1 z e)
theorem sortedS_eq {ys xs : List Str} (p : ys.Perm xs) (h : PyProof.Rows.sortedS ys = true) : ys = sortS xs := by
  refine sorted_uniq (p.trans (sortS_perm xs).symm) ?_ (sortS_sorted xs)
  cases ys with
  | nil => exact .nil
  | cons x r => exact rising_pw r x h
/-- sorted(xs), a list of fewer than 64 texts -/
def bSortS : FnB := fun S ds => match ds with
  | [d] => (match rd S d with
    | .lst xs => (match strsOf xs with | some ys => if ys.length < 64 then .ok (.lst ((sortS ys).map .str)) S else .bad | none => .bad)
    | _ => .bad)
  | _ => .bad
theorem bSortS_ok : CaS K mg (rSortedS K) bSortS := by
  intro W σ Q s vs ds o r h
  unfold bSortS at h
  split at h
  · obtain ⟨v, rfl, r1⟩ := one r
    split at h
    · rename_i xs e
      split at h
      · rename_i ys e2
        split at h
        · rename_i hl
          obtain ⟨a, ws, rfl, h1, r2⟩ := rd_lst o r1 e
          have := strsOf_rp e2 r2
          subst this
          refine ⟨a, ys, rfl, h1, hl, fun zs p pm so hp => ?_⟩
          have e3 := sortedS_eq pm so
          subst e3
          exact h.made o hp (Rp.newL (strs_rp _) o hp)
        · exact h.elim
      · exact h.elim
    · exact h.elim
  · exact h.elim
end
end T
end S_TMeth
section S_TComp0
set_option Elab.async false
set_option linter.all false
set_option maxRecDepth 100000
set_option maxHeartbeats 4000000
namespace T
open PySem L2 PySem.Spec
/-! ### a comprehension out of which an exception may fly -/
def CPost (M : Model) (A : Around) (E : Value → Shared → Prop) (use : Option (Value → Sem Unit)) (Q : Value → Shared → Prop) (acc : Value) (ce : PySem.Env) (r : Result) (z : Shared) : Prop :=
  match r with
  | .ok f => compPost M A E use Q acc ce.locals (.ok f) z
  | .error x => ∃ m, z.heap.Ns ce.locals m ∧ ∀ h', Heap.SameBut ce.locals z.heap h' → wpAny M A (passOn "comprehension.variables-let-go" x ce : Sem Value) (fun _ _ => False) E { z with heap := h' }
theorem comp_free2 {M : Model} {A : Around} {E : Value → Shared → Prop} {s : Shared} {env : PySem.Env} {e : Expr} {scope : Scope} {pos : Pos} {newAcc first : Sem Value} {g : Comprehension} {gs : List Comprehension} {cl : List (Str × Addr)}
    {use : Option (Value → Sem Unit)} {Q : Value → Shared → Prop} (hcl : clausesOf e = g :: gs) (hs : ∀ x, foldedSetIterable g.iter env x = pure x) (hclos : closureFor scope env = pure cl)
    (hkind : scope.kind = .function) (hnames : ∀ x ∈ scope.names, x.2 = .local → scope.names.lookup x.1 = some .local)
    (h : wpAny M A first (fun x s1 => wpAny M A (pyIter x) (fun it s2 => wpAny M A newAcc (fun acc s3 =>
      wpAny M A (newFunctionEnv scope env.globals cl [] env.qual none .none (some env)) (fun ce s4 =>
        codeAny M A (.compStart e 0 it acc { ce with scope := relabel scope env }) (CPost M A E use Q acc { ce with scope := relabel scope env }) s4) E s3) E s2) E s1) E s) :
    wpAny M A (comprehension e scope env pos newAcc false first use) Q E s := by
  unfold comprehension
  rw [hclos, hcl]
  refine wpAny_bind (wpAny_mono h (fun x s1 k1 => ?_) fun _ _ q => q)
  refine wpAny_bind (wpAny_standAt (wpAny_bind (wpAny_of_eq (hs x) (wpAny_bind (wpAny_holding (wpAny_mono k1 (fun it s2 k2 => ?_) fun _ _ q => q))))))
  refine wpAny_standIf (wpAny_bind (wpAny_mono k2 (fun acc s3 k3 => ?_) fun _ _ q => q))
  refine wpAny_bind (wpAny_pure (wpAny_bind (wpAny_mono k3 (fun ce s4 k4 => ?_) fun _ _ q => q)))
  dsimp only
  have loc1 : ∀ x ∈ (scope.names.filter fun x => (x.2 == .local || x.2 == .cell) && x.1 != (".0" : Str)).reverse, x.2 = .local → Env.kindOf { ce with scope := relabel scope env } x.1 = some .local :=
    fun x hx hl => lookup_relabel_local (hnames x (List.mem_filter.mp (List.mem_reverse.mp hx)).1 hl)
  have loc2 : ∀ x ∈ (scope.names.filter fun x => (x.2 == .local || x.2 == .cell) && x.1 != (".0" : Str)).reverse.drop 1 ++ (scope.names.filter fun x => (x.2 == .local || x.2 == .cell) && x.1 != (".0" : Str)).reverse.take 1, x.2 = .local → Env.kindOf { ce with scope := relabel scope env } x.1 = some .local :=
    fun x hx hl => (List.mem_append.mp hx).elim (fun z => loc1 x (List.mem_of_mem_drop z) hl) fun z => loc1 x (List.mem_of_mem_take z) hl
  refine wpAny_holding (wpAny_bind (wpAny_attempt (wpAny_holding (wpAny_run (codeAny_mono k4 fun r z hr => ?_)))))
  cases r with
  | ok f =>
    cases use with
    | none =>
      obtain ⟨m, hn, hq⟩ := hr
      refine wpAny_bind (wpAny_holding (wpAny_comp_letGo (cenv := { ce with scope := relabel scope env }) hkind _ z m loc1 hn fun h' _ _ sb => ?_))
      exact wpAny_pure (hq h' sb)
    | some u =>
      refine wpAny_bind (wpAny_rule (wpAny_bind (wpAny_holding (wpAny_mono hr (fun _ z2 hr2 => ?_) fun _ _ q => q))))
      obtain ⟨m, hn, hq⟩ := hr2
      refine wpAny_bind (wpAny_comp_letGo (cenv := { ce with scope := relabel scope env }) hkind _ z2 m loc2 hn fun h' _ _ sb => ?_)
      exact wpAny_pure (hq h' sb)
  | error x =>
    obtain ⟨m, hn, hq⟩ := hr
    refine wpAny_bind (wpAny_holding (wpAny_comp_letGo (cenv := { ce with scope := relabel scope env }) hkind _ z m loc1 hn fun h' _ _ sb => ?_))
    exact wpAny_mono (hq h' sb) (fun _ _ f => f.elim) fun _ _ y => y

/-- what a callee lets out is taken, at the slots -/
def Psg (X : Cx) (W : WX) : Prop := ∀ (σ : L2.St), PassesAt (L2.CX X.prog X.w) X σ fun c x H' => W c x σ H'
theorem Psg.of {X : Cx} {W : WX} (tk : Takes X W) : Psg X W := fun σ => passAt tk σ
theorem note_env {e : Value} {env env' : PySem.Env} (h : env'.frame = env.frame) : noteFrame e env' = noteFrame e env := by
  unfold noteFrame frameOf
  rw [h]
/-- noted at the frame L -/
theorem sky_note {M : Model} {A : Around} {E1 : Value → Shared → Prop} {B : Heap} {s : Shared} {env : PySem.Env} {outer : List PySem.Env} {L a : Addr} {Z : Obj → Prop} {Q : Unit → Shared → Prop} (hZ : HandSPX.Steady Z) (hfr : A.frames = some (env :: outer)) (hf : env.frame = some L)
    (x : Sky B (env :: outer) a Z L s.heap) (hQ : ∀ h', HandSPX.HeldZ B (env :: outer) a Z L h' → s.heap.UpToSlots h' → Q () { s with heap := h' }) : wpAny M A (noteFrame (.ref a) env) Q E1 s := by
  rcases x with ⟨hB, hn, hl, oe, vs, he, hz, hd, h1⟩ | fl | hh
  · exact HandSPX.look_newZ hZ hfr hl hf he hB hn hd h1 hz hQ
  · exact HandSPX.looks_onZ hZ hfr hf fl hQ
  · exact HandSPX.againZ hf hh.2.2.2 (hQ s.heap hh (Heap.UpToSlots.refl _))
theorem funFrames_at {B h h' : Heap} : ∀ {l : List PySem.Env}, h.FunFrames B l → (∀ L ∈ frs l, h'.get? L = h.get? L) → h'.FunFrames B l
  | [], _, _ => trivial
  | env :: l, q, hn => by
    obtain ⟨hk, ⟨L, o, hf, hb, ho, hd⟩, hr⟩ := q
    refine ⟨hk, ⟨L, o, hf, hb, ?_, hd⟩, funFrames_at hr fun b hb => ?_⟩
    · rw [hn L (List.mem_filterMap.mpr ⟨env, List.mem_cons_self, hf⟩)]
      exact ho
    · obtain ⟨e, he, q⟩ := List.mem_filterMap.mp hb
      exact hn b (List.mem_filterMap.mpr ⟨e, List.mem_cons_of_mem _ he, q⟩)
section
variable {X : Cx} {W : WX} {pins : List (Addr × Obj)} {σ : L2.St} {H : Hp} {s z : Shared} {E : XK}
/-- an exception of a callee, noted; an object C of no matter let go; then handed on -/
theorem xe_block {u : Value} {C : Addr} {oc : Obj} {ce : PySem.Env} (hs : X.stack = X.env :: X.outer) (hf : X.env.frame = some X.env.locals) (I : Inv X pins σ H s) (fC : FpOk X pins H C) (hCs : C ∉ frs X.stack) (hoc : s.heap.get? C = some oc)
    (hce : ce.frame = X.env.frame) (c : L2.CX X.prog X.w X.stack H s E u z) (hW : ∀ cls d H', E cls d H' → W cls d σ H') (tk : Takes X W) {E1 : Value → Shared → Prop} :
    wpAny (model X.prog X.w) X.A (noteFrame u ce) (fun _ z2 => z2.heap.get? C = some oc ∧ ∀ h', Heap.SameBut C z2.heap h' → wpAny (model X.prog X.w) X.A (passOn "comprehension.variables-let-go" u ce : Sem Value) (fun _ _ => False) X.xe { z2 with heap := h' }) E1 z := by
  obtain ⟨a, B, H', cls, d, rfl, fl, hok, ub, na, os, ag, hE⟩ := c
  have hfr : X.A.frames = some (X.env :: X.outer) := by rw [I.ok.frames, hs]
  have bC : B.get? C = some oc := ub.keep C oc hoc fC.1 hCs
  have HC : H' C = none := ub.free C oc hoc fC.1
  have aC : a ≠ C := fun q => by
    have := fl.2.1
    rw [q, bC] at this
    cases this
  rw [hs] at fl
  rw [note_env hce]
  refine sky_note Zc.steady hfr hf (.inr (.inl fl)) fun h2 hh up => ⟨hh.1 C oc bC, ?_⟩
  intro h3 sb
  -- the ground without C
  obtain ⟨B', b1, b2⟩ := restrict B fun b => decide (b ≠ C)
  have bB : ∀ b o, B'.get? b = some o → B.get? b = some o ∧ b ≠ C := fun b o e => by
    by_cases q : b = C
    · rw [b2 b (by simp [q])] at e; cases e
    · rw [b1 b (by simp [q])] at e; exact ⟨e, q⟩
  have bb : ∀ b o, b ≠ C → B.get? b = some o → B'.get? b = some o := fun b o q e => by rw [b1 b (by simp [q])]; exact e
  have bn : ∀ b, B.get? b = none → B'.get? b = none := fun b e => by
    cases q : B'.get? b with
    | none => rfl
    | some o => rw [(bB b o q).1] at e; cases e
  obtain ⟨k1, k2, k3, oe, vs, T1, oT, ts, he, hz, hd, h1, hnT, hTe, hT, hdT, hts⟩ := hh
  have T1C : T1 ≠ C := fun q => by rw [q, bC] at hnT; cases hnT
  have fr0 : ∀ L ∈ frs (X.env :: X.outer), B'.get? L = none := fun L hL => by
    obtain ⟨q, _⟩ := k3.mem hL
    exact bn L q
  have ff3 : h3.FunFrames B' (X.env :: X.outer) := by
    refine funFrames_at (funFrames_none k3 fr0) fun L hL => sb.2 L fun q => hCs ?_
    rw [hs, ← q]
    exact hL
  have held : HandSPX.HeldZ B' (X.env :: X.outer) a (Zc cls d) X.env.locals h3 :=
    ⟨fun b o e => by obtain ⟨e1, e2⟩ := bB b o e; rw [sb.2 b e2]; exact k1 b o e1, bn a k2, ff3, oe, vs, T1, oT, ts, (sb.2 a aC).trans he, hz, hd, h1, bn T1 hnT, hTe, (sb.2 T1 T1C).trans hT, hdT, hts⟩
  -- the state without the exception and without C
  obtain ⟨G, g1, g2⟩ := restrict h3 fun b => (B'.get? b).isSome || decide (b ∈ frs X.stack)
  have gB : ∀ b o, B'.get? b = some o → G.get? b = some o := fun b o e => by
    rw [g1 b (by simp [e])]
    exact held.1 b o e
  have gF : ∀ b, b ∈ frs X.stack → G.get? b = h3.get? b := fun b hb => g1 b (by simp [hb])
  have og : ∀ b o, G.get? b = some o → h3.get? b = some o ∧ ((B'.get? b).isSome = true ∨ b ∈ frs X.stack) := fun b o e => by
    cases q : ((B'.get? b).isSome || decide (b ∈ frs X.stack)) with
    | false => rw [g2 b q] at e; cases e
    | true => rw [g1 b q] at e; exact ⟨e, by simpa [Bool.or_eq_true] using q⟩
  have frC : ∀ b, b ∈ frs X.stack → b ≠ C := fun b hb q => hCs (q ▸ hb)
  have slotF : ∀ b o, s.heap.get? b = some o → b ∈ frs X.stack → ∃ sl, G.get? b = some { o with slots := sl } := fun b o e hb => by
    obtain ⟨sl, q⟩ := ub.slot b o e hb
    have nf : ∀ vs, o.data ≠ .fields vs := by
      obtain ⟨_, o', e', hd'⟩ := I.stack.mem hb
      rw [e] at e'
      cases e'
      exact hd'
    obtain ⟨sl2, q2⟩ := up b _ q nf
    exact ⟨sl2, by rw [gF b hb, sb.2 b (frC b hb)]; exact q2⟩
  have okG : HOk X.prog X.w H' G := fun b o q => by
    refine (hok b o q).stay (fun c v hc e => gB c v (bb c v (fun w => ?_) e)) (fun _ q => q) fun _ _ q => q
    subst w
    rcases hc with hc | hc
    · subst hc; rw [HC] at q; cases q
    · rw [HC] at hc; cases hc
  have J : Inv X pins σ H' { s with heap := G, gens := z.gens, drawn := z.drawn, toks := z.toks } := by
    refine I.call (ch := [C]) ⟨fun b o e n hb hx => gB b o (bb b o (by simpa using hx) (ub.keep b o e n hb)), fun b o e n hb _ => slotF b o e hb, fun b o e n _ => ub.free b o e n, fun b o e hx => ?_, ub.tups, ub.frzs, ub.tbls⟩ okG ag (fun b hb => ?_)
    · by_cases hb : b ∈ frs X.stack
      · obtain ⟨sl, q⟩ := slotF b o e hb
        exact ⟨_, q⟩
      · obtain ⟨o', q⟩ := ub.there b o e hb
        exact ⟨o', gB b o' (bb b o' (by simpa using hx) q)⟩
    · rw [List.mem_singleton] at hb
      subst hb
      exact ⟨fC.2.2.2.1, fC.2.1, fC.2.2.2.2.1, fC.2.2.2.2.2⟩
  unfold PySem.passOn
  refine wpAny_bind (wpAny_field ((sb.2 a aC).trans he) hd h1 ?_)
  rw [if_neg (show ¬ ((Value.ref T1 == Value.none) = true) from by simp)]
  have fin : wpAny (model X.prog X.w) X.A (setFlight (.ref a) ce.frame) (fun _ z4 => wpAny (model X.prog X.w) X.A (throw (.ref a) : Sem Value) (fun _ _ => False) X.xe z4) X.xe { z with heap := h3 } := by
    rw [hce, hf]
    refine HandSPX.setFlight_onZ held fun h4 hh4 up4 => wpAny_throw (tk _ _ ?_)
    refine ⟨a, B', _, pins, σ, H', cls, d, rfl, J, fun b o e hb => ?_, ?_, .inr (.inr (by rw [hs]; exact hh4)), na, os, ag, hW _ _ _ hE⟩
    · obtain ⟨e', q⟩ := og b o e
      rcases q with q | q
      · obtain ⟨o', q'⟩ := Option.isSome_iff_exists.mp q
        have w := held.1 b o' q'
        rw [e'] at w
        cases w
        exact q'
      · exact absurd q hb
    · exact (Heap.UpToSlots.of_keeps fun b o e => (og b o e).1).trans up4
  first
    | exact wpAny_bind (wpAny_pure (wpAny_bind fin))
    | exact wpAny_bind fin
end
/-- [elt for target in iter if ..], W of what flies out -/
def tLcX (wi : TI) (g : WX → TG) (tt : WX → TT) (te : WX → TE) (vs : List Nat) (W : WX) : TE := fun σ H Q => wi σ H fun J H1 => ∀ L, H1 L = none → ∃ U : Nat → Nat → Hp → Prop, (∃ m, U 0 m (upd H1 L (.lst []))) ∧ ∀ i m H, U i m H →
  (J.stop i H ∧ Q (.ref L) H) ∨ (J.go i H ∧ ∃ Nx : Hp → Prop, (∀ H', Nx H' → ∃ m', m' < m ∧ U (i + 1) m' H') ∧ ∀ x H', J.yld i H x H' → g (fun c x _ H' => W c x σ H') x (wipe σ vs) H' fun σ2 H2 => wipe σ2 vs = wipe σ vs ∧ tt (fun c x _ H' => W c x σ H') σ2 H2 fun b H3 =>
    if b = true then te (fun c x _ H' => W c x σ H') σ2 H3 fun y H4 => ∃ acc, H4 L = some (.lst acc) ∧ acc.length < sizeLine ∧ Nx (upd H4 L (.lst (acc ++ [y]))) else Nx H3)
section
variable {X : Cx} {W : WX}
theorem lc_coreX {pins : List (Addr × Obj)} {s : Shared} {σ : L2.St} {H : Hp} {Q : VK} {elt tg iter : Expr} {ifs : List Expr} {scope : Scope} {own : List (Str × Nat)} {pos pos' : Pos} {wi : TI} {g : WX → TG} {tt : WX → TT} {te : WX → TE} {use : Option (Value → Sem Unit)} {Qf : Value → Shared → Prop}
    (hst : X.stack = X.env :: X.outer) (hfm : X.env.frame = some X.env.locals) (tk : Takes X W)
    (hc : X.calm = true) (hN : X.N.Nodup) (I : Inv X pins σ H s) (hi : PI X tg iter wi) (ok : BlkOk X.N X.env.scope scope own)
    (hg : ∀ (s : Shared) (H : Hp) (C : Addr) (cl : List (Str × Addr)) (fp : List Addr) (xe : Value → Shared → Prop) (Wb : WX), Psg ((X.blk s H scope (compEnvC scope cl C X.env) fp).wish xe) Wb → PG ((X.blk s H scope (compEnvC scope cl C X.env) fp).wish xe) tg (g Wb))
    (ht : ∀ (s : Shared) (H : Hp) (C : Addr) (cl : List (Str × Addr)) (fp : List Addr) (xe : Value → Shared → Prop) (Wb : WX), Psg ((X.blk s H scope (compEnvC scope cl C X.env) fp).wish xe) Wb → PTs ((X.blk s H scope (compEnvC scope cl C X.env) fp).wish xe) ifs (tt Wb))
    (he : ∀ (s : Shared) (H : Hp) (C : Addr) (cl : List (Str × Addr)) (fp : List Addr) (xe : Value → Shared → Prop) (Wb : WX), Psg ((X.blk s H scope (compEnvC scope cl C X.env) fp).wish xe) Wb → PE ((X.blk s H scope (compEnvC scope cl C X.env) fp).wish xe) elt (te Wb))
    (hs : ∀ x, foldedSetIterable iter X.env x = pure x) (h : tLcX wi g tt te (own.map (·.2)) W σ H Q)
    (hRR : ∀ L C z m H', Inv X pins σ H' z → Q (.ref L) H' → z.heap.Ns C m → FpOk X pins H' C → compPost (model X.prog X.w) X.A X.xe use Qf (.ref L) C (.ok .next) z) :
    wpAny (model X.prog X.w) X.A (comprehension (.ListComp elt [⟨tg, iter, ifs, 0⟩] scope pos) scope X.env pos' (newList []) false (eval iter X.env) use) Qf X.xe s := by
  have hfree : ∀ y ∈ scope.names, y.2 = .free → ∃ c, X.env.cells.lookup y.1 = some c := fun y hy e => (ok.free y hy e).elim (fun k => I.ok.has _ (.inl k)) fun k => I.ok.has _ (.inr k)
  refine comp_free2 (use := use) rfl hs (closure_ok hfree) ok.kind (fun y hy e => by rw [ok.uniq y hy, e]) (thn (hi.run pins s σ H _ I h) fun xv s1 hx => thn hx fun itv s2 h2 => ?_)
  obtain ⟨it, fp, tn, J, H2, rfl, I2, Tn, st2, f2, q⟩ := h2
  refine wpAny_newObj_type (newEnv_comp ?_) (by show 0 ≤ sizeLine; decide)
  generalize hL : s2.heap.objs.size = L
  have hLn : H2 L = none := I2.hok.fresh (Nat.le_of_eq hL)
  obtain ⟨U, ⟨m0, w0⟩, turn⟩ := q L hLn
  generalize hs3 : ({ s2 with heap := s2.heap.push { cls := .type "list", data := .seq ([] : List Value).toArray } } : Shared) = s3
  have h3 : s3.heap = s2.heap.push { cls := .type "list", data := .seq ([] : List Value).toArray } := by rw [← hs3]
  have I3 : Inv X pins σ (upd H2 L (.lst [])) s3 := by
    rw [← hs3]
    refine I2.laid (t' := s2.toks) (fun b o e => Heap.get?_push_of_some _ e) (Nat.le_of_eq hL) ⟨Nat.zero_le _, [], 0, .nil, ?_⟩
    rw [← hL]
    exact Heap.get?_push_size _ rfl
  have sz : ∀ b ∈ fp, b < s2.heap.objs.size := fun b hb => by
    obtain ⟨o, e, _⟩ := Tn.obj _ _ st2 b hb
    exact Heap.lt_size e
  have f3 : ∀ b ∈ fp, FpOk X pins (upd H2 L (.lst [])) b ∧ b < s3.heap.objs.size := fun b hb => by
    have hlt := sz b hb
    have nb : b ≠ L := by rw [← hL]; exact Nat.ne_of_lt hlt
    exact ⟨⟨by rw [upd_ne nb]; exact (f2 b hb).1, (f2 b hb).2⟩, by rw [h3, Heap.size_push]; exact Nat.lt_succ_of_lt hlt⟩
  have st3 : tn 0 s3.heap := Tn.keep _ _ _ st2 fun b _ o e => by rw [h3]; exact Heap.get?_push_of_some _ e
  have I4 := block_start I3 ok hN f3
  show codeAny _ _ (.compStart (.ListComp elt [⟨tg, iter, ifs, 0⟩] scope pos) 0 (.ref it) (.ref L) (compEnvC scope (cellsFrom (s3.heap.objs.size + 1) scope.names (cloFrom X.env.cells scope.names [])) s3.heap.objs.size X.env)) (CPost (model X.prog X.w) X.A X.xe use Qf (.ref L) (compEnvC scope (cellsFrom (s3.heap.objs.size + 1) scope.names (cloFrom X.env.cells scope.names [])) s3.heap.objs.size X.env)) { s3 with heap := pushCells (s3.heap.push { cls := .type "dict", data := .dict #[] }) scope.names }
  have nfp : ∀ b ∈ fp, (upd H2 L (.lst [])) b = none := fun b hb => (f3 b hb).1.1
  have pg := hg s3 (upd H2 L (.lst [])) s3.heap.objs.size (cellsFrom (s3.heap.objs.size + 1) scope.names (cloFrom X.env.cells scope.names [])) fp
  have pt := ht s3 (upd H2 L (.lst [])) s3.heap.objs.size (cellsFrom (s3.heap.objs.size + 1) scope.names (cloFrom X.env.cells scope.names [])) fp
  have pe := he s3 (upd H2 L (.lst [])) s3.heap.objs.size (cellsFrom (s3.heap.objs.size + 1) scope.names (cloFrom X.env.cells scope.names [])) fp
  generalize hce : compEnvC scope (cellsFrom (s3.heap.objs.size + 1) scope.names (cloFrom X.env.cells scope.names [])) s3.heap.objs.size X.env = ce at I4 pg pt pe ⊢
  have cL : ce.locals = s3.heap.objs.size := by subst hce; rfl
  have cF : ce.frame = X.env.frame := by subst hce; rfl
  generalize hH3 : upd H2 L (.lst []) = H3 at I3 I4 pg pt pe w0 nfp f3
  generalize hs4 : ({ s3 with heap := pushCells (s3.heap.push { cls := .type "dict", data := .dict #[] }) scope.names } : Shared) = s4 at I4 ⊢
  have st4 : tn 0 s4.heap := Tn.keep _ _ _ st3 fun b _ o e => by rw [← hs4]; exact pushCells_keeps _ _ _ _ (Heap.get?_push_of_some _ e)
  have stat : ∀ {σ' : L2.St} {H' : Hp} {z : Shared}, Inv (X.blk s3 H3 scope ce fp) [] σ' H' z → (∀ b ∈ fp, H' b = none) → ∀ b ∈ fp, FpOk (X.blk s3 H3 scope ce fp) [] H' b := fun {σ' H' z} I' hn b hb =>
    ⟨hn b hb, (I'.ok.exf b hb).1, I'.ok.exfs b hb, .inl hb, fun x c e => (I'.ok.exf b hb).2 x c e, fun p hp => absurd (show p ∈ ([] : List (Addr × Obj)) ++ [] from hp) (by simp)⟩
  -- back in the def's context, from any state of the block
  have home : ∀ {p : List (Addr × Obj)} {σ' : L2.St} {H' : Hp} {z : Shared}, Inv (X.blk s3 H3 scope ce fp) p σ' H' z → Inv X pins σ H' z := fun {p σ' H' z} I' =>
    I3.call' (ch := fp) I'.os I'.base I'.hok I'.bare fun b hb => ⟨(f3 b hb).1.2.2.2.1, (f3 b hb).1.2.1, (f3 b hb).1.2.2.2.2.1, (f3 b hb).1.2.2.2.2.2⟩
  have nC : ∀ {p : List (Addr × Obj)} {σ' : L2.St} {H' : Hp} {z : Shared}, Inv (X.blk s3 H3 scope ce fp) p σ' H' z → H' s3.heap.objs.size = none := fun {p σ' H' z} I' => by
    have w : H' ce.locals = none := I'.free
    rw [cL] at w
    exact w
  have Cst : s3.heap.objs.size ∉ frs X.stack := fun hm => by
    obtain ⟨_, o, ho, _⟩ := I3.stack.mem hm
    exact absurd (Heap.lt_size ho) (Nat.lt_irrefl _)
  generalize hxe : notedBy (model X.prog X.w) X.A ce (fun e z => CPost (model X.prog X.w) X.A X.xe use Qf (.ref L) ce (.error e) z) = xe
  have psg : Psg ((X.blk s3 H3 scope ce fp).wish xe) (fun c x _ H' => W c x σ H') := fun σ2 p H5 s5 e z I5 cx => by
    show xe e z
    rw [← hxe]
    have I5' : Inv (X.blk s3 H3 scope ce fp) p σ2 H5 s5 := I5.unwish
    obtain ⟨m, hn, _⟩ := I5'.loc
    have hn : s5.heap.Ns ce.locals m := hn
    rw [cL] at hn
    obtain ⟨oc, es, ep, ho, rest⟩ := hn
    refine wpAny_mono (xe_block (C := s3.heap.objs.size) (W := W) hst hfm (home I5') (I3.fpOk (Nat.le_refl _) (nC I5')) Cst ho cF cx (fun _ _ _ q => q) tk) (fun _ z2 hz => ?_) fun _ _ q => q
    refine ⟨m, ?_, ?_⟩
    · rw [cL]
      exact ⟨oc, es, ep, hz.1, rest⟩
    · rw [cL]
      exact hz.2
  have pg := pg xe _ psg
  have pt := pt xe _ psg
  have pe := pe xe _ psg
  have loop : codeAny (model X.prog X.w) X.A (.compLoop (.ListComp elt [⟨tg, iter, ifs, 0⟩] scope pos) 0 (.ref it) (.ref L) ce) (CPost (model X.prog X.w) X.A X.xe use Qf (.ref L) ce) s4 := by
    refine compLoop_any (fun n z => ∃ i H', Inv (X.blk s3 H3 scope ce fp) [] (wipe σ (own.map (·.2))) H' z ∧ tn i z.heap ∧ (∀ b ∈ fp, H' b = none) ∧ U i n H') ?_ m0 ⟨0, H3, I4, st4, nfp, w0⟩
    rintro n s5 ⟨i, H5, I5, st5, n5, w5⟩
    rw [hxe]
    rcases turn i n H5 w5 with ⟨stop, qq⟩ | ⟨go, Nx, hNx, step⟩
    · have td := Tn.done (X.blk s3 H3 scope ce fp) rfl rfl rfl hc i [] s5 _ H5 (fun _ _ => False) I5 (stat I5 n5) st5 stop
      refine thnF td fun r s6 ⟨hr, I6⟩ => ?_
      subst hr
      obtain ⟨m, hn, _⟩ := I6.loc
      have hn : s6.heap.Ns ce.locals m := hn
      show compPost _ _ _ _ _ _ ce.locals _ _
      rw [cL] at hn ⊢
      exact hRR L s3.heap.objs.size s6 m H5 (home I6) qq hn (I3.fpOk (Nat.le_refl _) (nC I6))
    · have ti := Tn.item (X.blk s3 H3 scope ce fp) rfl rfl rfl hc i [] s5 _ H5 (fun _ _ => False) I5 (stat I5 n5) st5 go
      refine thnF ti fun r s6 ⟨u, hr, h6⟩ => ?_
      subst hr
      refine thnF h6 fun _ s7 ⟨x, H7, I7, r7, y7, st7, n7⟩ => ?_
      have I7' := I7.pinned (stat I7 n7) (Tn.obj _ _ st7)
      refine thn (pg.run _ s7 _ H7 x u _ (I7'.wish xe) r7 (step x H7 y7)) fun _ s8 ⟨σ8, H8, I8, hw8, q8⟩ => ?_
      refine thn (pt.run _ s8 σ8 H8 _ I8 q8) fun b s9 ⟨H9, I9, q9⟩ => ?_
      have turnEnd : ∀ {z : Shared} {H' : Hp}, Inv (X.blk s3 H3 scope ce fp) ([] ++ pinsAt fp s7.heap) σ8 H' z → Nx H' → ∃ m, m < n ∧ ∃ i H', Inv (X.blk s3 H3 scope ce fp) [] (wipe σ (own.map (·.2))) H' z ∧ tn i z.heap ∧ (∀ b ∈ fp, H' b = none) ∧ U i m H' := fun {z H'} I' nx => by
        obtain ⟨m', hm, w'⟩ := hNx H' nx
        have pin2 : ∀ b ∈ fp, ∀ o, s7.heap.get? b = some o → z.heap.get? b = some o ∧ H' b = none := fun b hb o e =>
          let w := I'.pin (b, o) (List.mem_append_right _ (List.mem_append_right _ (mem_pinsAt hb e)))
          ⟨w.1, w.2.1⟩
        have hl : (wipe σ (own.map (·.2))).length = σ8.length := by rw [← hw8, wipe_length]
        refine ⟨m', hm, i + 1, H', (I'.unpinned (pins := [])).weak hl (fun j v e => ?_), Tn.keep _ _ _ st7 fun b hb o e => (pin2 b hb o e).1, fun b hb => ?_, w'⟩
        · rw [← hw8] at e
          exact (wipe_some e).1
        · obtain ⟨o, e, _⟩ := Tn.obj _ _ st7 b hb
          exact (pin2 b hb o e).2
      cases b with
      | false =>
        simp only [Bool.false_eq_true, if_false] at q9 ⊢
        exact turnEnd I9.unwish q9
      | true =>
        simp only [if_true] at q9 ⊢
        refine thn (pe.run _ s9 σ8 H9 _ I9 q9) fun v s10 ⟨yv, H10, I10, r10, acc, hD10, hz10, nx⟩ => ?_
        exact app_ok (X := X.blk s3 H3 scope ce fp) I10.unwish hD10 hz10 r10 fun s11 I11 => turnEnd I11 nx
  exact codeAny_compStart_list loop (Tn.self X.A 0 _ _ _ st4 loop)
end
end T
end S_TComp0
section S_TLoop
set_option Elab.async false
set_option linter.all false
set_option maxRecDepth 100000
set_option maxHeartbeats 4000000
namespace T
open PySem L2 RZ
/-! ### what is walked: the items one behind another -/
/-- from the state t on J gives just these -/
structure Wk (K : PySem.W.Frag) (mg : Str → Option Value) (t : Stt) (J : It) (ds : List D) : Prop where
  goes : ∀ i u, i < ds.length → Ok K mg u → Le t u → J.go i u.H
  stops : ∀ u, Ok K mg u → Le t u → J.stop ds.length u.H
  yields : ∀ i u x H' d, ds[i]? = some d → Ok K mg u → Le t u → J.yld i u.H x H' → ∃ u', u'.H = H' ∧ Ok K mg u' ∧ u'.S = u.S ∧ Le u u' ∧ Rp K mg u'.Hf u'.ρ x d
def tI (K : PySem.W.Frag) (mg : Str → Option Value) (W : WX) (m : SemA) : TI := fun σ H R =>
  ∃ (s : Stt) (env : Env), s.H = H ∧ Ok K mg s ∧ EnvOk K mg s σ env ∧ RS K mg (fun t J ds => Wk K mg t J ds) W σ R s (m env s.S)
/-- a list is frozen when it is walked -/
def frzD (S : Sto) : D → Sto
  | .cell n => (match S[n]? with
    | some (.lv d) => S.set n (.fz d)
    | _ => S)
  | _ => S
def iSeq (m : SemE) : SemA := fun env S => (m env S).bind fun x S1 => match rd S1 x with
  | .lst ds => .ok ds (frzD S1 x)
  | .tup ds => .ok ds S1
  | _ => .bad
def signs (z : Str) : List D := z.cps.toList.map fun c => D.str ⟨#[c]⟩
def iStrs (m : SemE) : SemA := fun env S => (m env S).bind fun x S1 => match x with
  | .str z => .ok (signs z) S1
  | _ => .bad
section
variable {K : PySem.W.Frag} {mg : Str → Option Value}
theorem wk_list {t : Stt} {a : Addr} {vs : List V} {ds : List D} (h : SqL K t.Hf a vs) (r : RpL K mg t.Hf t.ρ vs ds) : Wk K mg t (Itl K a) ds := by
  have up : ∀ u, Ok K mg u → Le t u → SqL K u.H a vs := fun u o l => o.same.seq (l.same.seq h)
  refine ⟨fun i u hi o l => ?_, fun u o l => ⟨vs, up u o l, by rw [r.length]; exact Nat.le_refl _⟩, fun i u x H' d e o l y => ?_⟩
  · have hi' : i < vs.length := by rw [r.length]; exact hi
    exact ⟨vs, vs[i], up u o l, by simp [hi']⟩
  · obtain ⟨rfl, y⟩ := y
    obtain ⟨v, e1, r1⟩ := r.get' e
    have e2 := y vs (up u o l)
    rw [e1] at e2
    cases e2
    exact ⟨u, rfl, o, rfl, Le.refl u, r1.le l⟩
theorem wk_tup {t : Stt} {a : Addr} {vs : List V} {ds : List D} (h : SqT K t.Hf a vs) (r : RpL K mg t.Hf t.ρ vs ds) : Wk K mg t (Itt K a) ds := by
  have up : ∀ u, Ok K mg u → Le t u → SqT K u.H a vs := fun u o l => sqT_same o.same (sqT_same l.same h)
  refine ⟨fun i u hi o l => ?_, fun u o l => ⟨vs, up u o l, by rw [r.length]; exact Nat.le_refl _⟩, fun i u x H' d e o l y => ?_⟩
  · have hi' : i < vs.length := by rw [r.length]; exact hi
    exact ⟨vs, vs[i], up u o l, by simp [hi']⟩
  · obtain ⟨rfl, y⟩ := y
    obtain ⟨v, e1, r1⟩ := r.get' e
    have e2 := y vs (up u o l)
    rw [e1] at e2
    cases e2
    exact ⟨u, rfl, o, rfl, Le.refl u, r1.le l⟩
theorem wk_str {t : Stt} {z : Str} : Wk K mg t (Its z) (signs z) := by
  have hl : (signs z).length = z.cps.size := by simp [signs]
  refine ⟨fun i u hi o l => by show i < z.cps.size; rw [← hl]; exact hi, fun u o l => by show z.cps.size ≤ _; rw [hl]; exact Nat.le_refl _, fun i u x H' d e o l y => ?_⟩
  obtain ⟨rfl, c, e1, rfl⟩ := y
  refine ⟨u, rfl, o, rfl, Le.refl u, ?_⟩
  unfold signs at e
  rw [List.getElem?_map, Array.getElem?_toList, e1] at e
  cases e
  exact .str
theorem wk_range {t : Stt} {lo : Int} {n : Nat} : Wk K mg t (Itr lo n) ((List.range n).map fun i => D.int (lo + (i : Nat))) := by
  have hl : ((List.range n).map fun (i : Nat) => D.int (lo + (i : Int))).length = n := by simp
  refine ⟨fun i u hi o l => by show i < n; rw [← hl]; exact hi, fun u o l => by show n ≤ _; rw [hl]; exact Nat.le_refl _, fun i u x H' d e o l y => ?_⟩
  obtain ⟨rfl, rfl⟩ := y
  refine ⟨u, rfl, o, rfl, Le.refl u, ?_⟩
  rw [List.getElem?_map] at e
  cases q : (List.range n)[i]? with
  | none => rw [q] at e; cases e
  | some j =>
    rw [q] at e
    cases e
    rw [List.getElem?_range (by
      have := (List.getElem?_eq_some_iff.mp q).1
      simpa using this)] at q
    cases q
    exact .int
/-- a new pair -/
theorem pair_new {u : Stt} {T1 : Addr} {x y : V} {dx dy : D} (o : Ok K mg u) (hT : u.H T1 = none) (rx : Rp K mg u.Hf u.ρ x dx) (ry : Rp K mg u.Hf u.ρ y dy) :
    ∃ u', u'.H = upd u.H T1 (.tup [x, y]) ∧ Ok K mg u' ∧ u'.S = u.S ∧ Le u u' ∧ Rp K mg u'.Hf u'.ρ (.ref T1) (.tup [dx, dy]) :=
  ⟨u.new T1 (.tup [x, y]), rfl, o.new hT _, rfl, Le.new o hT _, Rp.newT (.cons rx (.cons ry .nil)) o hT⟩
def enumD (ds : List D) : List D := (List.range ds.length).zipWith (fun i d => D.tup [.int (i : Nat), d]) ds
theorem enumD_get {ds : List D} {i : Nat} {e : D} (h : (enumD ds)[i]? = some e) : ∃ d, ds[i]? = some d ∧ e = .tup [.int (i : Nat), d] := by
  unfold enumD at h
  rw [List.getElem?_zipWith] at h
  cases q : ds[i]? with
  | none => rw [q] at h; cases r : (List.range ds.length)[i]? <;> rw [r] at h <;> cases h
  | some d =>
    have hi : i < ds.length := (List.getElem?_eq_some_iff.mp q).1
    rw [q, List.getElem?_range hi] at h
    cases h
    exact ⟨d, rfl, rfl⟩
theorem wk_enum {t : Stt} {a : Addr} {vs : List V} {ds : List D} (h : SqL K t.Hf a vs) (r : RpL K mg t.Hf t.ρ vs ds) : Wk K mg t (Ite K a) (enumD ds) := by
  have up : ∀ u, Ok K mg u → Le t u → SqL K u.H a vs := fun u o l => o.same.seq (l.same.seq h)
  have hl : (enumD ds).length = ds.length := by simp [enumD]
  refine ⟨fun i u hi o l => ?_, fun u o l => ⟨vs, up u o l, by rw [r.length, hl]; exact Nat.le_refl _⟩, fun i u x H' d e o l y => ?_⟩
  · have hi' : i < vs.length := by rw [r.length, ← hl]; exact hi
    exact ⟨vs, vs[i], up u o l, by simp [hi']⟩
  · obtain ⟨T1, x1, rfl, hT, rfl, y⟩ := y
    obtain ⟨d1, e1, rfl⟩ := enumD_get e
    obtain ⟨v, e2, r2⟩ := r.get' e1
    have e3 := y vs (up u o l)
    rw [e2] at e3
    cases e3
    exact pair_new o hT .int (r2.le l)
def zipD (xs ys : List D) : List D := xs.zipWith (fun a b => D.tup [a, b]) ys
theorem zipD_get {xs ys : List D} {i : Nat} {e : D} (h : (zipD xs ys)[i]? = some e) : ∃ a b, xs[i]? = some a ∧ ys[i]? = some b ∧ e = .tup [a, b] := by
  unfold zipD at h
  rw [List.getElem?_zipWith] at h
  cases q : xs[i]? with
  | none => rw [q] at h; cases h
  | some a =>
    cases q2 : ys[i]? with
    | none => rw [q, q2] at h; cases h
    | some b => rw [q, q2] at h; cases h; exact ⟨a, b, rfl, rfl, rfl⟩
theorem wk_zipL {t : Stt} {a b : Addr} {vs ws : List V} {ds es : List D} (h : SqL K t.Hf a vs) (r : RpL K mg t.Hf t.ρ vs ds) (h2 : SqL K t.Hf b ws) (r2 : RpL K mg t.Hf t.ρ ws es) : Wk K mg t (Itz K a b) (zipD ds es) := by
  have up : ∀ u, Ok K mg u → Le t u → SqL K u.H a vs ∧ SqL K u.H b ws := fun u o l => ⟨o.same.seq (l.same.seq h), o.same.seq (l.same.seq h2)⟩
  have hl : (zipD ds es).length = min ds.length es.length := by simp [zipD]
  refine ⟨fun i u hi o l => ?_, fun u o l => ⟨vs, ws, (up u o l).1, (up u o l).2, by rw [r.length, r2.length, hl]; omega⟩, fun i u x H' d e o l y => ?_⟩
  · have hi' : i < vs.length := by rw [r.length]; omega
    have hi2 : i < ws.length := by rw [r2.length]; omega
    exact ⟨vs, ws, vs[i], ws[i], (up u o l).1, (up u o l).2, by simp [hi'], by simp [hi2]⟩
  · obtain ⟨T1, x1, y1, rfl, hT, rfl, y, y2⟩ := y
    obtain ⟨d1, d2, e1, e2, rfl⟩ := zipD_get e
    obtain ⟨v, q1, p1⟩ := r.get' e1
    obtain ⟨v2, q2, p2⟩ := r2.get' e2
    have e3 := y vs (up u o l).1
    have e4 := y2 ws (up u o l).2
    rw [q1] at e3
    rw [q2] at e4
    cases e3
    cases e4
    exact pair_new o hT (p1.le l) (p2.le l)
theorem wk_zipT {t : Stt} {a b : Addr} {vs ws : List V} {ds es : List D} (h : SqT K t.Hf a vs) (r : RpL K mg t.Hf t.ρ vs ds) (h2 : SqT K t.Hf b ws) (r2 : RpL K mg t.Hf t.ρ ws es) : Wk K mg t (ItzT K a b) (zipD ds es) := by
  have up : ∀ u, Ok K mg u → Le t u → SqT K u.H a vs ∧ SqT K u.H b ws := fun u o l => ⟨sqT_same o.same (sqT_same l.same h), sqT_same o.same (sqT_same l.same h2)⟩
  have hl : (zipD ds es).length = min ds.length es.length := by simp [zipD]
  refine ⟨fun i u hi o l => ?_, fun u o l => ⟨vs, ws, (up u o l).1, (up u o l).2, by rw [r.length, r2.length, hl]; omega⟩, fun i u x H' d e o l y => ?_⟩
  · have hi' : i < vs.length := by rw [r.length]; omega
    have hi2 : i < ws.length := by rw [r2.length]; omega
    exact ⟨vs, ws, vs[i], ws[i], (up u o l).1, (up u o l).2, by simp [hi'], by simp [hi2]⟩
  · obtain ⟨T1, x1, y1, rfl, hT, rfl, y, y2⟩ := y
    obtain ⟨d1, d2, e1, e2, rfl⟩ := zipD_get e
    obtain ⟨v, q1, p1⟩ := r.get' e1
    obtain ⟨v2, q2, p2⟩ := r2.get' e2
    have e3 := y vs (up u o l).1
    have e4 := y2 ws (up u o l).2
    rw [q1] at e3
    rw [q2] at e4
    cases e3
    cases e4
    exact pair_new o hT (p1.le l) (p2.le l)
/-- a list seen for reading, frozen: the same heap -/
theorem frz_at {t : Stt} {x : V} {d : D} {ds : List D} (o : Ok K mg t) (r : Rp K mg t.Hf t.ρ x d) (h : rd t.S d = .lst ds) :
    ∃ (u : Stt) (a : Addr) (vs : List V), x = .ref a ∧ u.H = t.H ∧ Ok K mg u ∧ u.S = frzD t.S d ∧ Le t u ∧ SqL K u.Hf a vs ∧ RpL K mg u.Hf u.ρ vs ds := by
  cases r with
  | lst h1 h2 => simp only [rd] at h; injection h with h; subst h; exact ⟨t, _, _, rfl, rfl, o, rfl, Le.refl t, SqL.of h1, h2⟩
  | rdl h1 h2 => simp only [rd] at h; injection h with h; subst h; exact ⟨t, _, _, rfl, rfl, o, rfl, Le.refl t, h1, h2⟩
  | @cell a n h1 =>
    simp only [rd] at h
    have hn : n < t.S.length := by rw [← o.len]; exact (List.getElem?_eq_some_iff.mp h1).1
    have e : t.S[n]? = some t.S[n] := by simp [hn]
    unfold cget at h
    rw [e] at h
    cases q : t.S[n] with
    | lv d =>
      rw [q] at e h
      simp only at h
      subst h
      obtain ⟨f0, vs, g1, g2⟩ := o.lv n _ a e h1
      refine ⟨t.frz n a (.lst vs) (.lst ds), a, vs, rfl, rfl, o.frz e h1 g1, ?_, Le.frz o e h1, SqL.of upd_same, ?_⟩
      · show t.S.set n _ = frzD t.S (.cell n)
        simp only [frzD, e]
      · exact RpL.le (Le.frz (o := .lst vs) o e h1) g2
    | fz d =>
      rw [q] at e h
      simp only at h
      subst h
      obtain ⟨vs, g1, g2⟩ := o.fz n _ a e h1
      exact ⟨t, a, vs, rfl, rfl, o, by simp only [frzD, e], Le.refl t, SqL.of g1, g2⟩
  | _ => simp only [rd] at h; cases h
end
section
variable {X : Cx} {W : WX} {tg e e2 : Expr} {m : SemE} {ma : SemA} {p pos tpos : Pos}
theorem jSeq (he : PE X e (tE X.K X.mg W m)) : PI X tg e (tI X.K X.mg W (iSeq m)) := by
  refine ⟨fun pins s σ H R I h => ?_⟩
  obtain ⟨t, env, rfl, o, eo, h⟩ := h
  have h2 : tE X.K X.mg W m σ t.H (fun x H1 => ∃ (t2 : Stt) (d : D), t2.H = H1 ∧ Ok X.K X.mg t2 ∧ Rp X.K X.mg t2.Hf t2.ρ x d ∧ RS X.K X.mg (fun t J ds => Wk X.K X.mg t J ds) W σ R t2 (match rd t2.S d with
    | .lst ds => .ok ds (frzD t2.S d)
    | .tup ds => .ok ds t2.S
    | _ => .bad)) := RS.go (R := RE X.K X.mg) h o eo fun x t2 d o2 l2 r2 h => ⟨t2, d, rfl, o2, r2, h⟩
  refine thn (he.run pins s σ t.H _ I h2) fun v s1 ⟨x, H1, I1, r1, t2, d, e1, o2, r2, h⟩ => ?_
  subst e1
  split at h
  · rename_i ds eq
    obtain ⟨u, a, vs, rfl, eH, ou, eS, lu, sq, rl⟩ := frz_at o2 r2 eq
    cases r1
    have sq1 : SqL X.K t2.H a vs := by rw [← eH]; exact ou.same.seq sq
    obtain ⟨its, rv, pl, hz⟩ := I1.list sq1
    refine wpAny_pyIter_list pl.isList (pi_one I1 _ (turn_list a _) ⟨_, Heap.get?_push_size _ rfl, rfl, rfl⟩ ?_)
    rw [← eH]
    exact h (Itl X.K a) u ou eS lu (wk_list sq rl)
  · rename_i ds eq
    obtain ⟨a, vs, rfl, sq1, sq, rl⟩ := rd_tup2 o2 r2 eq
    cases r1
    obtain ⟨its, rv, pl, hz⟩ := I1.tuple sq1
    refine wpAny_pyIter_tuple (show s1.heap.IsTuple a its.toArray from pl) (pi_one I1 _ (turn_tuple a _) ⟨_, Heap.get?_push_size _ rfl, rfl, rfl⟩ ?_)
    exact h (Itt X.K a) t2 o2 rfl (Le.refl t2) (wk_tup sq rl)
  · exact h.elim
theorem jStrs (he : PE X e (tE X.K X.mg W m)) : PI X tg e (tI X.K X.mg W (iStrs m)) := by
  refine ⟨fun pins s σ H R I h => (pi_str he).run pins s σ H R I ?_⟩
  obtain ⟨t, env, rfl, o, eo, h⟩ := h
  refine RS.go (R := RE X.K X.mg) h o eo fun x t2 d o2 l2 r2 h => ?_
  split at h
  · rename_i z
    exact ⟨z, rp_str r2, h (Its z) t2 o2 rfl (Le.refl t2) wk_str⟩
  · exact h.elim
def rngD (lo : Int) (n : Nat) : List D := (List.range n).map fun (i : Nat) => D.int (lo + (i : Int))
def iRng1 (ma : SemA) : SemA := fun env S => (ma env S).bind fun ds S1 => match ds with
  | [.int j] => if decide (-1000000 ≤ j ∧ j ≤ 1000000) then .ok (rngD 0 j.toNat) S1 else .bad
  | _ => .bad
def iRng2 (ma : SemA) : SemA := fun env S => (ma env S).bind fun ds S1 => match ds with
  | [.int i, .int j] => if decide (-1000000 ≤ i ∧ i ≤ 1000000 ∧ -1000000 ≤ j ∧ j ≤ 1000000) then .ok (rngD i (j - i).toNat) S1 else .bad
  | _ => .bad
theorem jRng1 (hg : Gl X "range") (hm : X.mg "range" = none) (ha : PA X [e] (tA X.K X.mg W ma)) (hs : starEach [e] X.env = [(false, eval e X.env)]) : PI X tg (.Call (.Name "range" p) [e] [] pos) (tI X.K X.mg W (T.iRng1 ma)) := by
  refine ⟨fun pins s σ H R I h => (pi_range1 hg hm ha hs).run pins s σ H R I ?_⟩
  obtain ⟨t, env, rfl, o, eo, h⟩ := h
  refine RS.go (R := RA X.K X.mg) h o eo fun vs u ds ou lu rv h => ?_
  split at h
  · split at h
    · rename_i j hj
      rw [decide_eq_true_eq] at hj
      obtain ⟨v, rfl, r1⟩ := one rv
      cases r1
      exact ⟨_, rfl, by omega, by omega, h _ u ou rfl (Le.refl u) wk_range⟩
    · exact h.elim
  · exact h.elim
theorem jRng2 (hg : Gl X "range") (hm : X.mg "range" = none) (ha : PA X [e, e2] (tA X.K X.mg W ma)) (hs : starEach [e, e2] X.env = [(false, eval e X.env), (false, eval e2 X.env)]) (hs2 : starEach [e2] X.env = [(false, eval e2 X.env)]) : PI X tg (.Call (.Name "range" p) [e, e2] [] pos) (tI X.K X.mg W (T.iRng2 ma)) := by
  refine ⟨fun pins s σ H R I h => (pi_range2 hg hm ha hs hs2).run pins s σ H R I ?_⟩
  obtain ⟨t, env, rfl, o, eo, h⟩ := h
  refine RS.go (R := RA X.K X.mg) h o eo fun vs u ds ou lu rv h => ?_
  split at h
  · split at h
    · rename_i i j hj
      rw [decide_eq_true_eq] at hj
      obtain ⟨v, w, rfl, r1, r2⟩ := two rv
      cases r1
      cases r2
      exact ⟨_, _, rfl, ⟨by omega, by omega, by omega, by omega⟩, h _ u ou rfl (Le.refl u) wk_range⟩
    · exact h.elim
  · exact h.elim
def iEnumS (ma : SemA) : SemA := fun env S => (ma env S).bind fun ds S1 => match ds with
  | [d] => (match rd S1 d with
    | .lst xs => .ok (enumD xs) (frzD S1 d)
    | _ => .bad)
  | _ => .bad
theorem jEnum {elts : List Expr} {kk : Nat} (hg : Gl X "enumerate") (hm : X.mg "enumerate" = none) (ha : PA X [e] (tA X.K X.mg W ma)) (hs : starEach [e] X.env = [(false, eval e X.env)]) : PI X (.Tuple elts kk tpos) (.Call (.Name "enumerate" p) [e] [] pos) (tI X.K X.mg W (iEnumS ma)) := by
  refine ⟨fun pins s σ H R I h => (pi_enum hg hm ha hs).run pins s σ H R I ?_⟩
  obtain ⟨t, env, rfl, o, eo, h⟩ := h
  refine RS.go (R := RA X.K X.mg) h o eo fun vs u ds ou lu rv h => ?_
  split at h
  · obtain ⟨v, rfl, r1⟩ := one rv
    split at h
    · rename_i xs eq
      obtain ⟨u2, a, ws, rfl, eH, o2, eS, l2, sq, rl⟩ := frz_at ou r1 eq
      rw [← eH]
      exact ⟨a, ws, rfl, o2.same.seq sq, h _ u2 o2 eS l2 (wk_enum sq rl)⟩
    · exact h.elim
  · exact h.elim
def iZipS (ma : SemA) : SemA := fun env S => (ma env S).bind fun ds S1 => match ds with
  | [d, e] => (match rd S1 d, rd (frzD S1 d) e with
    | .lst xs, .lst ys => .ok (zipD xs ys) (frzD (frzD S1 d) e)
    | .tup xs, .tup ys => .ok (zipD xs ys) S1
    | _, _ => .bad)
  | _ => .bad
theorem frzD_tup {K : PySem.W.Frag} {mg : Str → Option Value} {s : Stt} {x : V} {d : D} {ds : List D} (o : Ok K mg s) (r : Rp K mg s.Hf s.ρ x d) (h : rd s.S d = .tup ds) : frzD s.S d = s.S := by
  cases r with
  | cell h1 =>
    simp only [rd] at h
    have q := cell_at o h1
    rw [h] at q
    exact q.elim
  | _ => rfl
theorem jZip {elts : List Expr} {kk : Nat} (hg : Gl X "zip") (hm : X.mg "zip" = none) (ha : PA X [e, e2] (tA X.K X.mg W ma)) (hs : starEach [e, e2] X.env = (false, eval e X.env) :: starEach [e2] X.env) (hpl : (backTo pos (starEach [e2] X.env)).any (·.1) = false) : PI X (.Tuple elts kk tpos) (.Call (.Name "zip" p) [e, e2] [] pos) (tI X.K X.mg W (iZipS ma)) := by
  refine ⟨fun pins s σ H R I h => (pi_zipA hg hm ha hs hpl).run pins s σ H R I ?_⟩
  obtain ⟨t, env, rfl, o, eo, h⟩ := h
  refine RS.go (R := RA X.K X.mg) h o eo fun vs u ds ou lu rv h => ?_
  split at h
  · obtain ⟨v, w, rfl, r1, r2⟩ := two rv
    split at h
    · rename_i xs ys q1 q2
      obtain ⟨u2, a, ws, rfl, eH, o2, eS, l2, sq, rl⟩ := frz_at ou r1 q1
      rw [← eS] at q2 h
      obtain ⟨u3, b, zs, rfl, eH3, o3, eS3, l3, sq3, rl3⟩ := frz_at o2 (r2.le l2) q2
      rw [← eH, ← eH3]
      have sqa : SqL X.K u3.Hf a ws := l3.same.seq sq
      exact ⟨a, b, ws, zs, rfl, .inl ⟨o3.same.seq sqa, o3.same.seq sq3, h _ u3 o3 eS3 (l2.trans l3) (wk_zipL sqa (rl.le l3) sq3 rl3)⟩⟩
    · rename_i xs ys q1 q2
      rw [frzD_tup ou r1 q1] at q2
      obtain ⟨a, ws, rfl, sq1, sq, rl⟩ := rd_tup2 ou r1 q1
      obtain ⟨b, zs, rfl, sq2, sqb, rl2⟩ := rd_tup2 ou r2 q2
      exact ⟨a, b, ws, zs, rfl, .inr ⟨sq1, sq2, h _ u ou rfl (Le.refl u) (wk_zipT sq rl sqb rl2)⟩⟩
    · exact h.elim
  · exact h.elim
end
end T
end S_TLoop
section S_TComp
set_option Elab.async false
set_option linter.all false
set_option maxRecDepth 100000
set_option maxHeartbeats 4000000
namespace T
open PySem L2 PySem.Spec
/-! ### list comprehensions -/
def wipeE (env : Env) : List Nat → Env
  | [] => env
  | v :: vs => (wipeE env vs).set v none
/-- targets: names and tuples of names; what they store -/
inductive Tg where
  | nm (i : Nat)
  | tp (ts : List Nat)
def tgE (env : Env) : Tg → D → Option Env
  | .nm i, d => some (env.set i (some d))
  | .tp ts, .tup ds => if ts.length = ds.length then some ((ts.zip ds).foldl (fun e p => e.set p.1 (some p.2)) env) else none
  | .tp ts, .lst ds => if ts.length = ds.length then some ((ts.zip ds).foldl (fun e p => e.set p.1 (some p.2)) env) else none
  | _, _ => none
/-- one turn behind another: what was made so far is acc -/
def lcGo (t : Tg) (c : SemT) (e : SemE) (env : Env) : List D → List D → Sto → Res (List D)
  | [], acc, S => .ok acc S
  | d :: ds, acc, S => match tgE env t d with
    | none => .bad
    | some env1 => (c env1 S).bind fun b S1 => if b = true then (e env1 S1).bind fun y S2 => if acc.length < lim then lcGo t c e env ds (acc ++ [y]) S2 else .bad else lcGo t c e env ds acc S1
def sLc (vs : List Nat) (i : SemA) (t : Tg) (c : SemT) (e : SemE) : SemE := fun env S => (i env S).bind fun ds S1 => (lcGo t c e (wipeE env vs) ds [] S1).bind fun ys S2 => .ok (.lst ys) S2
def cYes : SemT := fun _ S => .ok true S
section
variable {K : PySem.W.Frag} {mg : Str → Option Value}
theorem EnvOk.wipe {s : Stt} {σ : L2.St} {env : Env} (h : EnvOk K mg s σ env) : ∀ vs : List Nat, EnvOk K mg s (wipe σ vs) (wipeE env vs)
  | [] => h
  | v :: vs => (EnvOk.wipe h vs).clr v
/-- a private object -/
def Stt.prv (s : Stt) (p : Addr) (o : HO) : Stt := { s with H := upd s.H p o }
theorem Ok.prv {s : Stt} (ok : Ok K mg s) {p : Addr} (h1 : s.Hf p = none) (h2 : p ∉ s.ρ) (u : HO) : Ok K mg (s.prv p u) := by
  refine ⟨ok.len, ok.nd, fun b o e => ?_, fun n d a e1 e2 => ?_, ok.fz⟩
  · show upd s.H p u b = some o
    have e : s.Hf b = some o := e
    rw [upd_ne (ne_of_none e h1)]
    exact ok.same _ _ e
  · have ne : a ≠ p := fun z => h2 (z ▸ List.mem_of_getElem? e2)
    obtain ⟨q1, q2⟩ := ok.lv n d a e1 e2
    refine ⟨q1, ?_⟩
    have q3 := CelOk.le (l := []) (Hx' := upd s.H p u) (Same.refl s.Hf) (fun o e => by rw [upd_ne ne]; exact e) q2
    rw [List.append_nil] at q3
    exact q3
/-- from t0, which does not know p -/
theorem Le.prv' {t0 s : Stt} (l : Le t0 s) {p : Addr} (h : t0.H p = none) (u : HO) : Le t0 (s.prv p u) := by
  refine ⟨l.same, l.pre, fun b o e1 e2 e3 => ?_⟩
  obtain ⟨q1, q2, q3⟩ := l.prv b o e1 e2 e3
  refine ⟨?_, q2, q3⟩
  show upd s.H p u b = _
  rw [upd_ne (ne_of_none e1 h)]
  exact q1
/-- the private object is frozen -/
def Stt.pub (s : Stt) (p : Addr) (o : HO) : Stt := { s with Hf := upd s.Hf p o }
theorem Ok.pub {s : Stt} (ok : Ok K mg s) {p : Addr} (h1 : s.Hf p = none) (h2 : p ∉ s.ρ) {u : HO} (hu : s.H p = some u) : Ok K mg (s.pub p u) := by
  have sm : Same s.Hf (upd s.Hf p u) := same_new h1
  refine ⟨ok.len, ok.nd, fun b o e => ?_, fun n d a e1 e2 => ?_, fun n d a e1 e2 => ?_⟩
  · have e : upd s.Hf p u b = some o := e
    by_cases hb : b = p
    · subst hb; rw [upd_same] at e; rw [← e]; exact hu
    · rw [upd_ne hb] at e; exact ok.same _ _ e
  · have ne : a ≠ p := fun z => h2 (z ▸ List.mem_of_getElem? e2)
    obtain ⟨q1, q2⟩ := ok.lv n d a e1 e2
    refine ⟨by show upd s.Hf p u a = none; rw [upd_ne ne]; exact q1, ?_⟩
    have q3 := CelOk.le (l := []) (Hx' := s.H) sm (fun o e => e) q2
    rw [List.append_nil] at q3
    exact q3
  · have q3 := CelOk.le (l := []) (Hx' := upd s.Hf p u) sm (fun o e => sm _ _ e) (ok.fz n d a e1 e2)
    rw [List.append_nil] at q3
    exact q3
theorem Le.pub {t0 s : Stt} (l : Le t0 s) {p : Addr} (h : t0.H p = none) (h1 : s.Hf p = none) (u : HO) : Le t0 (s.pub p u) := by
  refine ⟨l.same.trans (same_new h1), l.pre, fun b o e1 e2 e3 => ?_⟩
  obtain ⟨q1, q2, q3⟩ := l.prv b o e1 e2 e3
  refine ⟨q1, ?_, q3⟩
  show upd s.Hf p u b = _
  rw [upd_ne (ne_of_none e1 h)]
  exact q2
/-! targets -/
def gNs : List Nat → TGs
  | [] => gNil
  | i :: r => gCons (gName i) (gNs r)
/-- (a, b, ..) = a tuple or a list of that length -/
def gTp (K : PySem.W.Frag) (n : Nat) (t : TGs) : TG := fun v σ H Q => gTup K n t v σ H Q ∨ gUnl K n t v σ H Q
theorem pg_tp {X : Cx} {pos : Pos} {es : List Expr} {k : Nat} {t : TGs} {n : Nat} (hc : X.calm = true) (h : PGs X es t)
    (hn : (assignEach es X.env).length = n := by rfl) (hst : (assignEach es X.env).findIdx? (·.1) = none := by rfl) : PG X (.Tuple es k pos) (gTp X.K n t) :=
  ⟨fun pins s σ H v u Q I r hw => hw.elim (fun w => (pg_tup hc h hn hst).run pins s σ H v u Q I r w) (fun w => (pg_unl hc h hn hst).run pins s σ H v u Q I r w)⟩
def gT (K : PySem.W.Frag) : Tg → TG
  | .nm i => gName i
  | .tp ts => gTp K ts.length (gNs ts)
def tgIn : Tg → List Nat → Bool
  | .nm i, vs => vs.contains i
  | .tp ts, vs => ts.all fun i => vs.contains i
theorem wipe_set {σ : L2.St} {i : Nat} {x : Option V} : ∀ {vs : List Nat}, i ∈ vs → wipe (σ.set i x) vs = wipe σ vs
  | v :: vs, h => by
    unfold wipe
    by_cases q : i ∈ vs
    · rw [wipe_set q]
    · have e : i = v := (List.mem_cons.mp h).resolve_right q
      subst e
      have z : wipe (σ.set i x) vs = (wipe σ vs).set i x := by
        clear h
        induction vs with
        | nil => rfl
        | cons w ws ih =>
          rw [List.mem_cons, not_or] at q
          unfold wipe
          rw [ih q.2, List.set_comm _ _ (Ne.symm q.1)]
      rw [z, List.set_set]
theorem wipe_wipe {σ : L2.St} {vs : List Nat} : ∀ {us : List Nat}, (∀ v ∈ us, v ∈ vs) → wipe (wipe σ us) vs = wipe σ vs
  | [], _ => rfl
  | v :: us, h => by
    show wipe ((wipe σ us).set v none) vs = _
    rw [wipe_set (h v (List.mem_cons_self ..)), wipe_wipe fun w hw => h w (List.mem_cons_of_mem _ hw)]
theorem bind_assoc {α β γ : Type} (r : Res α) (k : α → Sto → Res β) (j : β → Sto → Res γ) : (r.bind k).bind j = r.bind fun a S => (k a S).bind j := by cases r <;> rfl
theorem gNs_read {s : Stt} {vs0 : List Nat} {Q : L2.St → Hp → Prop} : ∀ {ts : List Nat} {xs : List V} {ds : List D} {σ : L2.St} {env : Env}, RpL K mg s.Hf s.ρ xs ds → ts.length = ds.length → EnvOk K mg s σ env → (∀ i ∈ ts, i ∈ vs0) →
    (∀ σ1, EnvOk K mg s σ1 ((ts.zip ds).foldl (fun e p => e.set p.1 (some p.2)) env) → wipe σ1 vs0 = wipe σ vs0 → Q σ1 s.H) → gNs ts xs σ s.H Q
  | [], xs, ds, σ, env, r, hl, eo, hv, h => by
    have : ds = [] := List.length_eq_zero_iff.mp hl.symm
    subst this
    cases r
    exact ⟨rfl, h σ eo rfl⟩
  | i :: ts, xs, ds, σ, env, r, hl, eo, hv, h => by
    cases r with
    | nil => cases hl
    | cons h1 h2 =>
      refine ⟨_, _, rfl, ?_⟩
      exact gNs_read h2 (by simpa using hl) (eo.set h1 i) (fun j hj => hv j (List.mem_cons_of_mem _ hj)) fun σ1 e1 w1 => h σ1 e1 (w1.trans (wipe_set (hv i (List.mem_cons_self ..))))
theorem gT_read {s : Stt} {vs0 : List Nat} {t : Tg} (ht : tgIn t vs0 = true) {Q : L2.St → Hp → Prop} {x : V} {d : D} {σ : L2.St} {env env1 : Env} (o : Ok K mg s) (r : Rp K mg s.Hf s.ρ x d) (eo : EnvOk K mg s σ env) (h : tgE env t d = some env1)
    (hq : ∀ σ1, EnvOk K mg s σ1 env1 → wipe σ1 vs0 = wipe σ vs0 → Q σ1 s.H) : gT K t x σ s.H Q := by
  cases t with
  | nm i =>
    simp only [tgE] at h
    injection h with h
    subst h
    exact hq _ (eo.set r i) (wipe_set (by simpa [tgIn] using ht))
  | tp ts =>
    cases d with
    | tup ds =>
      simp only [tgE] at h
      split at h
      · rename_i hl
        injection h with h
        subst h
        cases r with
        | tup h1 h2 =>
          refine .inl ⟨_, _, rfl, sqT_same o.same h1, by rw [h2.length, hl], ?_⟩
          exact gNs_read h2 hl eo (fun i hi => by simpa using (List.all_eq_true.mp ht) i hi) hq
      · cases h
    | lst ds =>
      simp only [tgE] at h
      split at h
      · rename_i hl
        injection h with h
        subst h
        obtain ⟨a, vs, rfl, h1, h2⟩ := rd_lst o r rfl
        refine .inr ⟨_, _, rfl, h1, by rw [h2.length, hl], ?_⟩
        exact gNs_read h2 hl eo (fun i hi => by simpa using (List.all_eq_true.mp ht) i hi) hq
      · cases h
    | _ => simp only [tgE] at h; cases h
end
section
variable {K : PySem.W.Frag} {mg : Str → Option Value} {W : WX}
/-- a part run at u, what is wanted being told from t0 on -/
theorem RS.sub {α β γ δ : Type} {R : Stt → β → α → Prop} {R2 : Stt → δ → γ → Prop} {σ σ2 : L2.St} {Q : δ → Hp → Prop} {t0 u : Stt} {r : Res α} {k : α → Sto → Res γ} {Q' : β → Hp → Prop} (l : Le t0 u) (h : RS K mg R2 W σ Q t0 (r.bind k))
    (hk : ∀ (v : β) (t : Stt) (d : α), Ok K mg t → Le u t → R t v d → RS K mg R2 W σ Q t0 (k d t.S) → Q' v t.H) : RS K mg R (fun c x _ H' => W c x σ H') σ2 Q' u r := by
  cases r with
  | ok d S' =>
    intro v t ot et lt rv
    refine hk v t d ot lt rv ?_
    rw [et]
    exact h
  | exc C fs S' => exact fun c x t ot et lt xr => h c x t ot et (l.trans lt) xr
  | bad => exact h
theorem lc_read {vs : List Nat} {mi : SemA} {t : Tg} (ht : tgIn t vs = true) {c : SemT} {e : SemE} {σ : L2.St} {H : Hp} {Q : VK} (h : tE K mg W (sLc vs mi t c e) σ H Q) :
    tLcX (tI K mg W mi) (fun _ => gT K t) (fun Wb => tT K mg Wb c) (fun Wb => tE K mg Wb e) vs W σ H Q := by
  obtain ⟨s, env, rfl, o, eo, h⟩ := h
  show tI K mg W mi σ s.H _
  refine ⟨s, env, rfl, o, eo, (RS.bind (R := fun t J ds => Wk K mg t J ds) h).imp fun J H1 ⟨t0, ds, e1, o0, l0, wk, h⟩ => ?_⟩
  subst e1
  intro L hL
  obtain ⟨fr1, fr2⟩ := o0.fresh hL
  have ew : EnvOk K mg t0 (wipe σ vs) (wipeE env vs) := (eo.le l0).wipe vs
  refine ⟨fun i m H => ∃ (u : Stt) (ws : List V) (acc rest : List D), u.H = H ∧ Ok K mg u ∧ Le t0 u ∧ u.H L = some (.lst ws) ∧ u.Hf L = none ∧ L ∉ u.ρ ∧ RpL K mg u.Hf u.ρ ws acc ∧ ds.drop i = rest ∧ m = rest.length ∧ i ≤ ds.length ∧
      RS K mg (RE K mg) W σ Q t0 ((lcGo t c e (wipeE env vs) rest acc u.S).bind fun ys S2 => .ok (.lst ys) S2), ⟨ds.length, t0.prv L (.lst []), [], [], ds, rfl, o0.prv fr2 fr1 _, Le.prv' (Le.refl t0) hL _, upd_same, fr2, fr1, .nil, rfl, rfl, Nat.zero_le _, h⟩, ?_⟩
  rintro i m H ⟨u, ws, acc, rest, rfl, ou, lu, hL1, hL2, hL3, rl, hd, rfl, hi, h⟩
  cases rest with
  | nil =>
    have ei : i = ds.length := by
      have := congrArg List.length hd
      simp at this
      omega
    subst ei
    refine .inl ⟨wk.stops u ou lu, ?_⟩
    have h : RS K mg (RE K mg) W σ Q t0 (.ok (.lst acc) u.S) := h
    have rl2 : RpL K mg (upd u.Hf L (.lst ws)) u.ρ ws acc := by
      have := RpL.mono (l := []) (same_new (o := .lst ws) hL2) rl
      rw [List.append_nil] at this
      exact this
    exact h (.ref L) (u.pub L (.lst ws)) (ou.pub hL2 hL3 hL1) rfl (lu.pub hL hL2 _) (.lst upd_same rl2)
  | cons d rest =>
    have hi' : i < ds.length := by
      have := congrArg List.length hd
      simp at this
      omega
    have ed : ds[i]? = some d := by
      have := congrArg (fun l => l[0]?) hd
      simpa using this
    have er : ds.drop (i + 1) = rest := by
      have := congrArg (fun l => l.drop 1) hd
      simpa [Nat.add_comm] using this
    refine .inr ⟨wk.goes i u hi' ou lu, fun H' => ∃ (u : Stt) (ws : List V) (acc : List D), u.H = H' ∧ Ok K mg u ∧ Le t0 u ∧ u.H L = some (.lst ws) ∧ u.Hf L = none ∧ L ∉ u.ρ ∧ RpL K mg u.Hf u.ρ ws acc ∧
      RS K mg (RE K mg) W σ Q t0 ((lcGo t c e (wipeE env vs) rest acc u.S).bind fun ys S2 => .ok (.lst ys) S2), fun H' ⟨u, ws, acc, a1, a2, a3, a4, a5, a6, a7, a8⟩ => ⟨rest.length, by simp, u, ws, acc, rest, a1, a2, a3, a4, a5, a6, a7, er, rfl, hi', a8⟩, fun x H' y => ?_⟩
    obtain ⟨u1, rfl, o1, s1, l1, r1⟩ := wk.yields i u x H' d ed ou lu y
    have k1 := l1.prv L _ hL1 hL2 hL3
    rw [← s1] at h
    unfold lcGo at h
    split at h
    · exact h.elim
    · rename_i env1 et
      refine gT_read (vs0 := vs) ht o1 r1 (ew.le (lu.trans l1)) et fun σ1 eo1 w1 => ⟨w1.trans (wipe_wipe fun _ q => q), ?_⟩
      rw [bind_assoc] at h
      refine ⟨u1, env1, rfl, o1, eo1, RS.sub (R := RT) (lu.trans l1) h fun b u2 b' o2 l2 rb h => ?_⟩
      subst rb
      have k2 := l2.prv L _ k1.1 k1.2.1 k1.2.2
      cases b with
      | false => exact ⟨u2, ws, acc, rfl, o2, (lu.trans l1).trans l2, k2.1, k2.2.1, k2.2.2, (rl.le l1).le l2, h⟩
      | true =>
        have h : RS K mg (RE K mg) W σ Q t0 (((e env1 u2.S).bind fun y S2 => if acc.length < lim then lcGo t c e (wipeE env vs) rest (acc ++ [y]) S2 else .bad).bind fun ys S2 => .ok (.lst ys) S2) := h
        rw [bind_assoc] at h
        refine ⟨u2, env1, rfl, o2, eo1.le l2, RS.sub (R := RE K mg) ((lu.trans l1).trans l2) h fun v u3 dv o3 l3 rv h => ?_⟩
        have k3 := l3.prv L _ k2.1 k2.2.1 k2.2.2
        split at h
        · rename_i hlt
          have rl3 := ((rl.le l1).le l2).le l3
          refine ⟨ws, k3.1, by rw [rl.length]; exact Nat.lt_of_lt_of_le hlt (by decide), u3.prv L (.lst (ws ++ [v])), ws ++ [v], acc ++ [dv], rfl, o3.prv k3.2.1 k3.2.2 _, Le.prv' (((lu.trans l1).trans l2).trans l3) hL _, upd_same, k3.2.1, k3.2.2, rl3.append (.cons rv .nil), h⟩
        · exact h.elim

/-- no exception is looked for -/
def noX {α : Type} : Res α → Res α
  | .exc _ _ _ => .bad
  | r => r
def lcGoB (t : Tg) (c : SemT) (e : SemE) (env : Env) : List D → List D → Sto → Res (List D)
  | [], acc, S => .ok acc S
  | d :: ds, acc, S => match tgE env t d with
    | none => .bad
    | some env1 => (noX (c env1 S)).bind fun b S1 => if b = true then (noX (e env1 S1)).bind fun y S2 => if acc.length < lim then lcGoB t c e env ds (acc ++ [y]) S2 else .bad else lcGoB t c e env ds acc S1
def sLcB (vs : List Nat) (i : SemA) (t : Tg) (c : SemT) (e : SemE) : SemE := fun env S => (i env S).bind fun ds S1 => (lcGoB t c e (wipeE env vs) ds [] S1).bind fun ys S2 => .ok (.lst ys) S2
theorem RS.subB {α β γ δ : Type} {R : Stt → β → α → Prop} {R2 : Stt → δ → γ → Prop} {σ σ2 : L2.St} {Q : δ → Hp → Prop} {t0 u : Stt} {r : Res α} {k : α → Sto → Res γ} {Q' : β → Hp → Prop} (l : Le t0 u) (h : RS K mg R2 W σ Q t0 ((noX r).bind k))
    (hk : ∀ (v : β) (t : Stt) (d : α), Ok K mg t → Le u t → R t v d → RS K mg R2 W σ Q t0 (k d t.S) → Q' v t.H) : RS K mg R (fun _ _ _ _ => False) σ2 Q' u r := by
  cases r with
  | ok d S' =>
    intro v t ot et lt rv
    refine hk v t d ot lt rv ?_
    rw [et]
    exact h
  | exc C fs S' => exact h.elim
  | bad => exact h
theorem lc_readB {vs : List Nat} {mi : SemA} {t : Tg} (ht : tgIn t vs = true) {c : SemT} {e : SemE} {σ : L2.St} {H : Hp} {Q : VK} (h : tE K mg W (sLcB vs mi t c e) σ H Q) :
    tLc (tI K mg W mi) (gT K t) (tT K mg (fun _ _ _ _ => False) c) (tE K mg (fun _ _ _ _ => False) e) vs σ H Q := by
  obtain ⟨s, env, rfl, o, eo, h⟩ := h
  show tI K mg W mi σ s.H _
  refine ⟨s, env, rfl, o, eo, (RS.bind (R := fun t J ds => Wk K mg t J ds) h).imp fun J H1 ⟨t0, ds, e1, o0, l0, wk, h⟩ => ?_⟩
  subst e1
  intro L hL
  obtain ⟨fr1, fr2⟩ := o0.fresh hL
  have ew : EnvOk K mg t0 (wipe σ vs) (wipeE env vs) := (eo.le l0).wipe vs
  refine ⟨fun i m H => ∃ (u : Stt) (ws : List V) (acc rest : List D), u.H = H ∧ Ok K mg u ∧ Le t0 u ∧ u.H L = some (.lst ws) ∧ u.Hf L = none ∧ L ∉ u.ρ ∧ RpL K mg u.Hf u.ρ ws acc ∧ ds.drop i = rest ∧ m = rest.length ∧ i ≤ ds.length ∧
      RS K mg (RE K mg) W σ Q t0 ((lcGoB t c e (wipeE env vs) rest acc u.S).bind fun ys S2 => .ok (.lst ys) S2), ⟨ds.length, t0.prv L (.lst []), [], [], ds, rfl, o0.prv fr2 fr1 _, Le.prv' (Le.refl t0) hL _, upd_same, fr2, fr1, .nil, rfl, rfl, Nat.zero_le _, h⟩, ?_⟩
  rintro i m H ⟨u, ws, acc, rest, rfl, ou, lu, hL1, hL2, hL3, rl, hd, rfl, hi, h⟩
  cases rest with
  | nil =>
    have ei : i = ds.length := by
      have := congrArg List.length hd
      simp at this
      omega
    subst ei
    refine .inl ⟨wk.stops u ou lu, ?_⟩
    have h : RS K mg (RE K mg) W σ Q t0 (.ok (.lst acc) u.S) := h
    have rl2 : RpL K mg (upd u.Hf L (.lst ws)) u.ρ ws acc := by
      have := RpL.mono (l := []) (same_new (o := .lst ws) hL2) rl
      rw [List.append_nil] at this
      exact this
    exact h (.ref L) (u.pub L (.lst ws)) (ou.pub hL2 hL3 hL1) rfl (lu.pub hL hL2 _) (.lst upd_same rl2)
  | cons d rest =>
    have hi' : i < ds.length := by
      have := congrArg List.length hd
      simp at this
      omega
    have ed : ds[i]? = some d := by
      have := congrArg (fun l => l[0]?) hd
      simpa using this
    have er : ds.drop (i + 1) = rest := by
      have := congrArg (fun l => l.drop 1) hd
      simpa [Nat.add_comm] using this
    refine .inr ⟨wk.goes i u hi' ou lu, fun H' => ∃ (u : Stt) (ws : List V) (acc : List D), u.H = H' ∧ Ok K mg u ∧ Le t0 u ∧ u.H L = some (.lst ws) ∧ u.Hf L = none ∧ L ∉ u.ρ ∧ RpL K mg u.Hf u.ρ ws acc ∧
      RS K mg (RE K mg) W σ Q t0 ((lcGoB t c e (wipeE env vs) rest acc u.S).bind fun ys S2 => .ok (.lst ys) S2), fun H' ⟨u, ws, acc, a1, a2, a3, a4, a5, a6, a7, a8⟩ => ⟨rest.length, by simp, u, ws, acc, rest, a1, a2, a3, a4, a5, a6, a7, er, rfl, hi', a8⟩, fun x H' y => ?_⟩
    obtain ⟨u1, rfl, o1, s1, l1, r1⟩ := wk.yields i u x H' d ed ou lu y
    have k1 := l1.prv L _ hL1 hL2 hL3
    rw [← s1] at h
    unfold lcGoB at h
    split at h
    · exact h.elim
    · rename_i env1 et
      refine gT_read (vs0 := vs) ht o1 r1 (ew.le (lu.trans l1)) et fun σ1 eo1 w1 => ⟨w1.trans (wipe_wipe fun _ q => q), ?_⟩
      rw [bind_assoc] at h
      refine ⟨u1, env1, rfl, o1, eo1, RS.subB (R := RT) (lu.trans l1) h fun b u2 b' o2 l2 rb h => ?_⟩
      subst rb
      have k2 := l2.prv L _ k1.1 k1.2.1 k1.2.2
      cases b with
      | false => exact ⟨u2, ws, acc, rfl, o2, (lu.trans l1).trans l2, k2.1, k2.2.1, k2.2.2, (rl.le l1).le l2, h⟩
      | true =>
        have h : RS K mg (RE K mg) W σ Q t0 (((noX (e env1 u2.S)).bind fun y S2 => if acc.length < lim then lcGoB t c e (wipeE env vs) rest (acc ++ [y]) S2 else .bad).bind fun ys S2 => .ok (.lst ys) S2) := h
        rw [bind_assoc] at h
        refine ⟨u2, env1, rfl, o2, eo1.le l2, RS.subB (R := RE K mg) ((lu.trans l1).trans l2) h fun v u3 dv o3 l3 rv h => ?_⟩
        have k3 := l3.prv L _ k2.1 k2.2.1 k2.2.2
        split at h
        · rename_i hlt
          have rl3 := ((rl.le l1).le l2).le l3
          refine ⟨ws, k3.1, by rw [rl.length]; exact Nat.lt_of_lt_of_le hlt (by decide), u3.prv L (.lst (ws ++ [v])), ws ++ [v], acc ++ [dv], rfl, o3.prv k3.2.1 k3.2.2 _, Le.prv' (((lu.trans l1).trans l2).trans l3) hL _, upd_same, k3.2.1, k3.2.2, rl3.append (.cons rv .nil), h⟩
        · exact h.elim
end
/-! the rules -/
section
variable {X : Cx} {W : WX} {elt tg iter : Expr} {ifs : List Expr} {scope : Scope} {own : List (Str × Nat)} {pos : Pos} {mi : SemA} {t : Tg} {c : SemT} {e : SemE}
theorem kNil : PTs X [] (tT X.K X.mg W cYes) := ⟨fun pins s σ H Q I h => pts_nil.run pins s σ H Q I (by
  obtain ⟨t, env, rfl, o, eo, h⟩ := h
  exact h true t o rfl (Le.refl t) rfl)⟩
theorem kOne {a : Expr} (h : PT X a (tT X.K X.mg W c)) : PTs X [a] (tT X.K X.mg W c) := pts_one h
theorem xLc (hst : X.stack = X.env :: X.outer) (hfm : X.env.frame = some X.env.locals) (tk : Takes X W) (hc : X.calm = true) (hN : X.N.Nodup) (hi : PI X tg iter (tI X.K X.mg W mi)) (ok : BlkOk X.N X.env.scope scope own) (hin : tgIn t (own.map (·.2)) = true)
    (hg : ∀ (s : Shared) (H : Hp) (C : Addr) (cl : List (Str × Addr)) (fp : List Addr) (xe : Value → Shared → Prop), PG ((X.blk s H scope (compEnvC scope cl C X.env) fp).wish xe) tg (gT X.K t))
    (ht : ∀ (s : Shared) (H : Hp) (C : Addr) (cl : List (Str × Addr)) (fp : List Addr) (xe : Value → Shared → Prop) (Wb : WX), Psg ((X.blk s H scope (compEnvC scope cl C X.env) fp).wish xe) Wb → PTs ((X.blk s H scope (compEnvC scope cl C X.env) fp).wish xe) ifs (tT X.K X.mg Wb c))
    (he : ∀ (s : Shared) (H : Hp) (C : Addr) (cl : List (Str × Addr)) (fp : List Addr) (xe : Value → Shared → Prop) (Wb : WX), Psg ((X.blk s H scope (compEnvC scope cl C X.env) fp).wish xe) Wb → PE ((X.blk s H scope (compEnvC scope cl C X.env) fp).wish xe) elt (tE X.K X.mg Wb e))
    (hs : ∀ x, foldedSetIterable iter X.env x = pure x) : PE X (.ListComp elt [⟨tg, iter, ifs, 0⟩] scope pos) (tE X.K X.mg W (sLc (own.map (·.2)) mi t c e)) := by
  refine ⟨fun pins s σ H Q I h => ?_⟩
  rw [eval_ListComp]
  refine lc_coreX hst hfm tk hc hN I hi ok (fun s H C cl fp xe _ _ => hg s H C cl fp xe) ht he hs (lc_read hin h) fun L C z m H' I' q hn f => ⟨m, hn, fun h'' sb => ?_⟩
  obtain ⟨f0, f1, f2, f3, f4, f5⟩ := f
  exact ⟨.ref L, H', I'.turned (t' := z.toks) (fun b o hb e => (sb.2 b hb).trans e) f0 f1 f3 f4 f5, rfl, q⟩
theorem psg0 {X : Cx} : Psg X (fun _ _ _ _ => False) := fun σ pins H s e z I c => by
  obtain ⟨_, _, _, _, _, _, _, _, _, _, _, _, q⟩ := c
  exact q.elim
theorem xLcB (hc : X.calm = true) (hN : X.N.Nodup) (hi : PI X tg iter (tI X.K X.mg W mi)) (ok : BlkOk X.N X.env.scope scope own) (hin : tgIn t (own.map (·.2)) = true)
    (hg : ∀ (s : Shared) (H : Hp) (C : Addr) (cl : List (Str × Addr)) (fp : List Addr), PG (X.blk s H scope (compEnvC scope cl C X.env) fp) tg (gT X.K t))
    (ht : ∀ (s : Shared) (H : Hp) (C : Addr) (cl : List (Str × Addr)) (fp : List Addr), Psg (X.blk s H scope (compEnvC scope cl C X.env) fp) (fun _ _ _ _ => False) → PTs (X.blk s H scope (compEnvC scope cl C X.env) fp) ifs (tT X.K X.mg (fun _ _ _ _ => False) c))
    (he : ∀ (s : Shared) (H : Hp) (C : Addr) (cl : List (Str × Addr)) (fp : List Addr), Psg (X.blk s H scope (compEnvC scope cl C X.env) fp) (fun _ _ _ _ => False) → PE (X.blk s H scope (compEnvC scope cl C X.env) fp) elt (tE X.K X.mg (fun _ _ _ _ => False) e))
    (hs : ∀ x, foldedSetIterable iter X.env x = pure x) : PE X (.ListComp elt [⟨tg, iter, ifs, 0⟩] scope pos) (tE X.K X.mg W (sLcB (own.map (·.2)) mi t c e)) :=
  (pe_lc hc hN hi ok hg (fun s H C cl fp => ht s H C cl fp psg0) (fun s H C cl fp => he s H C cl fp psg0) hs).mono fun σ H Q h => lc_readB hin h
/-- name = [..] -/
theorem ySetLc {i : Nat} {y : Str} {py spos : Pos} (hst : X.stack = X.env :: X.outer) (hfm : X.env.frame = some X.env.locals) (tk : Takes X W) (hc : X.calm = true) (hN : X.N.Nodup) (hy : X.N[i]? = some y) (hyl : X.env.scope.names.lookup y = some .local)
    (hsw : swapsWith (.ListComp elt [⟨tg, iter, ifs, 0⟩] scope pos) (some (.Name y py)) spos.line X.env = pure true) (hi : PI X tg iter (tI X.K X.mg W mi)) (ok : BlkOk X.N X.env.scope scope own) (hin : tgIn t (own.map (·.2)) = true)
    (hg : ∀ (s : Shared) (H : Hp) (C : Addr) (cl : List (Str × Addr)) (fp : List Addr) (xe : Value → Shared → Prop), PG ((X.blk s H scope (compEnvC scope cl C X.env) fp).wish xe) tg (gT X.K t))
    (ht : ∀ (s : Shared) (H : Hp) (C : Addr) (cl : List (Str × Addr)) (fp : List Addr) (xe : Value → Shared → Prop) (Wb : WX), Psg ((X.blk s H scope (compEnvC scope cl C X.env) fp).wish xe) Wb → PTs ((X.blk s H scope (compEnvC scope cl C X.env) fp).wish xe) ifs (tT X.K X.mg Wb c))
    (he : ∀ (s : Shared) (H : Hp) (C : Addr) (cl : List (Str × Addr)) (fp : List Addr) (xe : Value → Shared → Prop) (Wb : WX), Psg ((X.blk s H scope (compEnvC scope cl C X.env) fp).wish xe) Wb → PE ((X.blk s H scope (compEnvC scope cl C X.env) fp).wish xe) elt (tE X.K X.mg Wb e))
    (hs : ∀ x, foldedSetIterable iter X.env x = pure x) : PS X (.Assign [.Name y py] (.ListComp elt [⟨tg, iter, ifs, 0⟩] scope pos) spos) (tS X.K X.mg W (sAsg (sLc (own.map (·.2)) mi t c e) (gN i))) := by
  refine ⟨fun pins s σ H D I h => ?_⟩
  rw [exec_Assign_Name_used _ _ _ _ hsw]
  have h2 : tE X.K X.mg W (sLc (own.map (·.2)) mi t c e) σ H (fun x H1 => D.nx (σ.set i (some x)) H1) := by
    obtain ⟨u, env, rfl, o, eo, h⟩ := h
    exact RSS.go (R := RE X.K X.mg) h o eo fun v u2 d o2 l2 rv h => h _ u2 o2 rfl (Le.refl u2) ((eo.le l2).set rv i)
  refine wpAny_bind (wpAny_standAt (wpAny_bind ?_))
  show wpAny _ X.A (do let _ ← comprehension (.ListComp elt [⟨tg, iter, ifs, 0⟩] scope pos) scope X.env (firstIterPos [⟨tg, iter, ifs, 0⟩] pos) (newList []) false (eval iter X.env) (some (assign (.Name y py) X.env))) _ _ s
  refine wpAny_bind (thn (lc_coreX (Qf := fun _ z => SP X pins D .next z) hst hfm tk hc hN I hi ok (fun s H C cl fp xe _ _ => hg s H C cl fp xe) ht he hs (lc_read hin h2) fun L C z m H' I' q hn f => ?_) fun _ z hq => wpAny_pure (wpAny_pure hq))
  show wpAny _ _ (assign (.Name y py) X.env (.ref L)) _ _ _
  refine wpAny_assign_Name (store_ok2 (v := V.ref L) I' hN hy (.inl hyl) rfl (fun z2 I2 ⟨a, sb, ha⟩ => ?_) (.inr hyl))
  obtain ⟨f0, f1, f2, f3, f4, f5⟩ := f
  have hne : C ≠ a := by
    rcases ha with w | w
    · rw [w]; exact f1
    · exact fun q => f4 y a w q.symm
  refine ⟨m, hn.sameBut sb hne, fun h3 sb3 => ⟨_, H', I2.turned (t' := z2.toks) (fun b o hb q => (sb3.2 b hb).trans q) f0 f1 f3 f4 f5, q⟩⟩
end
end T
end S_TComp
section S_TFor
set_option Elab.async false
set_option linter.all false
set_option maxRecDepth 100000
set_option maxHeartbeats 4000000
namespace T
open PySem L2
def forGo (t : Tg) (b : SemS) : List D → Env → Sto → ResS
  | [], env, S => .nx env S
  | d :: ds, env, S => match tgE env t d with
    | none => .bad
    | some env1 => match b env1 S with
      | .nx env2 S2 => forGo t b ds env2 S2
      | .ct env2 S2 => forGo t b ds env2 S2
      | .bk env2 S2 => .nx env2 S2
      | .rt d S2 => .rt d S2
      | .exc C fs env2 S2 => .exc C fs env2 S2
      | .bad => .bad
def sFor (i : SemA) (t : Tg) (b : SemS) : SemS := fun env S => ofE (i env S) env fun ds S1 => forGo t b ds env S1
def whGo (c : SemT) (b : SemS) : Nat → Env → Sto → ResS
  | 0, _, _ => .bad
  | n + 1, env, S => ofE (c env S) env fun q S1 => if q = true then (match b env S1 with
      | .nx env2 S2 => whGo c b n env2 S2
      | .ct env2 S2 => whGo c b n env2 S2
      | .bk env2 S2 => .nx env2 S2
      | .rt d S2 => .rt d S2
      | .exc C fs env2 S2 => .exc C fs env2 S2
      | .bad => .bad) else .nx env S1
def sWhile (n : Nat) (c : SemT) (b : SemS) : SemS := whGo c b n
def gTg (t : Tg) : SemG := fun d env S => match tgE env t d with
  | some env1 => .nx env1 S
  | none => .bad
def tgSlots : Tg → List Nat
  | .nm i => [i]
  | .tp ts => ts
theorem tgIn_self (t : Tg) : tgIn t (tgSlots t) = true := by
  cases t with
  | nm i => simp [tgIn, tgSlots]
  | tp ts => simp [tgIn, tgSlots]
section
variable {K : PySem.W.Frag} {mg : Str → Option Value} {W : WX}
theorem for_read {mi : SemA} {t : Tg} {b : SemS} {D : Ends} {σ : L2.St} {H : Hp} (h : tS K mg W (sFor mi t b) D σ H) : tFor (tI K mg W mi) (gT K t) (tS K mg W b) D σ H := by
  obtain ⟨s, env, rfl, o, eo, h⟩ := h
  show tI K mg W mi σ s.H _
  refine RSS.go (R := fun t J ds => Wk K mg t J ds) h o eo fun J t0 ds o0 l0 wk h => ?_
  refine ⟨fun i m σ H => ∃ (u : Stt) (env : Env) (rest : List T.D), u.H = H ∧ Ok K mg u ∧ Le t0 u ∧ EnvOk K mg u σ env ∧ ds.drop i = rest ∧ m = rest.length ∧ i ≤ ds.length ∧ RSS K mg W D u (forGo t b rest env u.S), ⟨ds.length, t0, env, ds, rfl, o0, Le.refl t0, eo.le l0, rfl, rfl, Nat.zero_le _, h⟩, ?_⟩
  rintro i m σ H ⟨u, env, rest, rfl, ou, lu, eu, hd, rfl, hi, h⟩
  cases rest with
  | nil =>
    have ei : i = ds.length := by
      have := congrArg List.length hd
      simp at this
      omega
    subst ei
    exact .inl ⟨wk.stops u ou lu, h σ u ou rfl (Le.refl u) eu⟩
  | cons d rest =>
    have hi' : i < ds.length := by
      have := congrArg List.length hd
      simp at this
      omega
    have ed : ds[i]? = some d := by
      have := congrArg (fun l => l[0]?) hd
      simpa using this
    have er : ds.drop (i + 1) = rest := by
      have := congrArg (fun l => l.drop 1) hd
      simpa [Nat.add_comm] using this
    refine .inr ⟨wk.goes i u hi' ou lu, fun σ' H' => ∃ (u : Stt) (env : Env), u.H = H' ∧ Ok K mg u ∧ Le t0 u ∧ EnvOk K mg u σ' env ∧ RSS K mg W D u (forGo t b rest env u.S), fun σ' H' ⟨u, env, a1, a2, a3, a4, a5⟩ => ⟨rest.length, by simp, u, env, rest, a1, a2, a3, a4, er, rfl, hi', a5⟩, fun x H' y => ?_⟩
    obtain ⟨u1, rfl, o1, s1, l1, r1⟩ := wk.yields i u x H' d ed ou lu y
    rw [← s1] at h
    have h := RSS.le l1 h
    unfold forGo at h
    split at h
    · exact h.elim
    · rename_i env1 et
      refine gT_read (tgIn_self t) o1 r1 (eu.le l1) et fun σ1 eo1 _ => ⟨u1, env1, rfl, o1, eo1, ?_⟩
      cases q : b env1 u1.S with
      | nx env2 S2 =>
        rw [q] at h
        intro σ2 u2 o2 e2 l2 eo2
        refine ⟨u2, env2, rfl, o2, (lu.trans l1).trans l2, eo2, ?_⟩
        rw [e2]
        exact RSS.le l2 h
      | ct env2 S2 =>
        rw [q] at h
        intro σ2 u2 o2 e2 l2 eo2
        refine ⟨u2, env2, rfl, o2, (lu.trans l1).trans l2, eo2, ?_⟩
        rw [e2]
        exact RSS.le l2 h
      | bk env2 S2 => rw [q] at h; exact h
      | rt d S2 => rw [q] at h; exact h
      | exc C fs env2 S2 => rw [q] at h; exact h
      | bad => rw [q] at h; exact h
theorem while_read {n : Nat} {c : SemT} {b : SemS} {D : Ends} {σ : L2.St} {H : Hp} (h : tS K mg W (sWhile n c b) D σ H) : tWhile (tT K mg W c) (tS K mg W b) D σ H := by
  obtain ⟨s, env, rfl, o, eo, h⟩ := h
  refine ⟨fun m σ H => ∃ (u : Stt) (env : Env), u.H = H ∧ Ok K mg u ∧ EnvOk K mg u σ env ∧ RSS K mg W D u (whGo c b m env u.S), ⟨n, s, env, rfl, o, eo, h⟩, ?_⟩
  rintro m σ H ⟨u, env, rfl, ou, eu, h⟩
  cases m with
  | zero => exact h.elim
  | succ m =>
    refine RSS.go (R := RT) h ou eu fun v u1 d o1 l1 rv h => ?_
    subst rv
    cases v with
    | false => exact h σ u1 o1 rfl (Le.refl u1) (eu.le l1)
    | true =>
      refine ⟨fun σ' H' => ∃ (u : Stt) (env : Env), u.H = H' ∧ Ok K mg u ∧ EnvOk K mg u σ' env ∧ RSS K mg W D u (whGo c b m env u.S), fun σ' H' ⟨u, env, a⟩ => ⟨m, Nat.lt_succ_self m, u, env, a⟩, u1, env, rfl, o1, eu.le l1, ?_⟩
      rw [if_pos rfl] at h
      cases q : b env u1.S with
      | nx env2 S2 =>
        rw [q] at h
        intro σ2 u2 o2 e2 l2 eo2
        refine ⟨u2, env2, rfl, o2, eo2, ?_⟩
        rw [e2]
        exact RSS.le l2 h
      | ct env2 S2 =>
        rw [q] at h
        intro σ2 u2 o2 e2 l2 eo2
        refine ⟨u2, env2, rfl, o2, eo2, ?_⟩
        rw [e2]
        exact RSS.le l2 h
      | bk env2 S2 => rw [q] at h; exact h
      | rt d S2 => rw [q] at h; exact h
      | exc C fs env2 S2 => rw [q] at h; exact h
      | bad => rw [q] at h; exact h
end
section
variable {X : Cx} {W : WX} {tg iter c e : Expr} {body : List Stmt} {pos : Pos} {mi : SemA} {t : Tg} {mb : SemS} {mc : SemT} {m : SemE}
theorem yFor (hp : PassesOwn (model X.prog X.w) X.A X.env X.xe) (hc : X.calm = true) (hi : PI X tg iter (tI X.K X.mg W mi)) (hg : PG X tg (gT X.K t)) (hb : PSs X body (tS X.K X.mg W mb)) (hs : ∀ x, foldedSetIterable iter X.env x = pure x) :
    PS X (.For tg iter body [] pos) (tS X.K X.mg W (sFor mi t mb)) := (ps_for hp hc hi hg hb hs).mono fun _ _ _ h => for_read h
theorem yWhile {n : Nat} (hp : PassesOwn (model X.prog X.w) X.A X.env X.xe) (hc : PT X c (tT X.K X.mg W mc)) (hb : PSs X body (tS X.K X.mg W mb)) : PS X (.While c body [] pos) (tS X.K X.mg W (sWhile n mc mb)) := (ps_while hp hc hb).mono fun _ _ _ h => while_read h
theorem yBreak : PS X (.Break pos) (tS X.K X.mg W fun env S => .bk env S) := ps_break.mono fun D σ H ⟨s, env, e1, e2, e3, e4⟩ => by
  subst e1
  exact e4 σ s e2 rfl (Le.refl s) e3
theorem yCont : PS X (.Continue pos) (tS X.K X.mg W fun env S => .ct env S) := ps_continue.mono fun D σ H ⟨s, env, e1, e2, e3, e4⟩ => by
  subst e1
  exact e4 σ s e2 rfl (Le.refl s) e3
/-- any target of names -/
theorem yAsg (he : PE X e (tE X.K X.mg W m)) (hg : PG X tg (gT X.K t)) (hs : swapsWithSole [tg] e pos.line X.env = pure false) (hw : swappedStores [tg] e X.env = pure none) (h1 : (assignEach [tg] X.env).map (·.2) = [assign tg X.env]) :
    PS X (.Assign [tg] e pos) (tS X.K X.mg W (sAsg m (gTg t))) := (ps_asg he hg hs hw h1).mono fun D σ H h => by
  obtain ⟨s, env, rfl, o, eo, h⟩ := h
  refine RSS.go (R := RE X.K X.mg) h o eo fun v u d ou lu rv h => ?_
  unfold gTg at h
  split at h
  · rename_i env1 et
    exact gT_read (tgIn_self t) ou rv (eo.le lu) et fun σ1 e1 _ => h σ1 u ou rfl (Le.refl u) e1
  · exact h.elim
/-- a, b = e1, e2 of two local names -/
theorem yPar {i j : Nat} {x y : Str} {a b : Expr} {ma : SemA} {px py pt : Pos} {kt k2 pt2} (hc : X.calm = true) (hN : X.N.Nodup) (hi : X.N[i]? = some x) (hj : X.N[j]? = some y) (hij : i ≠ j)
    (hx : X.env.scope.names.lookup x = some .local) (hy : X.env.scope.names.lookup y = some .local) (ha : PA X [a, b] (tA X.K X.mg W ma))
    (hw : swappedStores [.Tuple [.Name x px, .Name y py] kt pt] (.Tuple [a, b] k2 pt2) X.env = pure (some [x, y])) (hs : swapsWithSole [.Tuple [.Name x px, .Name y py] kt pt] (.Tuple [a, b] k2 pt2) pos.line X.env = pure false) :
    PS X (.Assign [.Tuple [.Name x px, .Name y py] kt pt] (.Tuple [a, b] k2 pt2) pos) (tS X.K X.mg W (sAsg (sTup ma) (gTg (.tp [i, j])))) := (ps_par hc hN hi hj hij hx hy ha hw hs).mono fun D σ H h => by
  obtain ⟨s, env, rfl, o, eo, h⟩ := h
  refine ⟨s, env, rfl, o, eo, ?_⟩
  unfold sAsg sTup at h
  cases q : ma env s.S with
  | ok ds S1 =>
    rw [q] at h
    intro vs u ou eu lu rv
    have h := RSS.le lu h
    dsimp only [Res.bind, ofE] at h
    split at h
    · rename_i d S2 e2
      split at e2
      · injection e2 with e2 e3
        subst e2 e3
        unfold gTg at h
        split at h
        · rename_i env1 et
          simp only [tgE] at et
          split at et
          · rename_i hl
            injection et with et
            subst et
            match ds, hl, rv with
            | [d1, d2], _, rv =>
              obtain ⟨v, w, rfl, r1, r2⟩ := two rv
              exact ⟨v, w, rfl, h _ u ou eu (Le.refl u) (((eo.le lu).set r1 i).set r2 j)⟩
          · cases et
        · exact h.elim
      · cases e2
    · rename_i e2
      split at e2 <;> cases e2
    · exact h.elim
  | exc C fs S1 => rw [q] at h; exact fun c x u ou eu lu xr => h c x σ u ou eu lu (eo.le lu) xr
  | bad => rw [q] at h; exact h
/-- o[i] = e, a list's item -/
def gIx (o i : SemE) : SemG := fun d env S => ofE (o env S) env fun x S1 => ofE (i env S1) env fun k S2 => match x, k with
  | .cell n, .int j => (match S2[n]? with
    | some (.lv (.lst xs)) => (match ixN xs.length j with
      | some p => .nx env (S2.set n (.lv (.lst (xs.set p d))))
      | none => .bad)
    | _ => .bad)
  | _, _ => .bad
theorem yPut {o i : Expr} {mo mi : SemE} {p2 : Pos} (he : PE X e (tE X.K X.mg W m)) (ho : PE X o (tE X.K X.mg W mo)) (hi : PE X i (tE X.K X.mg W mi)) (hg : PG X (.Subscript o i p2) (gSub (tE X.K X.mg W mo) (tE X.K X.mg W mi) rSetL))
    (hs : swapsWithSole [.Subscript o i p2] e pos.line X.env = pure false) (hw : swappedStores [.Subscript o i p2] e X.env = pure none) (h1 : (assignEach [.Subscript o i p2] X.env).map (·.2) = [assign (.Subscript o i p2) X.env]) :
    PS X (.Assign [.Subscript o i p2] e pos) (tS X.K X.mg W (sAsg m (gIx mo mi))) := (ps_asg he hg hs hw h1).mono fun D σ H h => by
  obtain ⟨s, env, rfl, o, eo, h⟩ := h
  refine RSS.go (R := RE X.K X.mg) h o eo fun v u d ou lu rv h => ?_
  refine RSS.go (R := RE X.K X.mg) h ou (eo.le lu) fun x u2 dx o2 l2 rx h => ?_
  refine RSS.go (R := RE X.K X.mg) h o2 ((eo.le lu).le l2) fun k u3 dk o3 l3 rk h => ?_
  split at h
  · rename_i n j
    split at h
    · rename_i xs e1
      split at h
      · rename_i p e2
        obtain ⟨a, ws, rfl, h1, h2, r2⟩ := cell_lst o3 (rx.le l3) e1
        cases rk
        have rv3 := (rv.le l2).le l3
        refine ⟨a, ws, _, p, rfl, rfl, h2, by rw [r2.length]; exact e2, ?_⟩
        exact h σ (u3.put _ a (.lst (ws.set p v)) (.lst (xs.set p d))) (o3.put e1 h1 ⟨_, upd_same, r2.set rv3 p⟩) rfl (Le.put h1) (((eo.le (lu.trans l2)).le l3).le (Le.put h1))
      · exact h.elim
    · exact h.elim
  · exact h.elim
end
end T
end S_TFor
section S_TTry
set_option Elab.async false
set_option linter.all false
set_option maxRecDepth 100000
set_option maxHeartbeats 4000000
namespace T
open PySem L2 PySem.Spec
/-! ### an object that was not looked at is tracked -/
section
variable {X : Cx} {pins : List (Addr × Obj)} {σ : L2.St} {H : Hp} {s : Shared}
theorem inv_track {a : Addr} {φ : Heap → Prop} (I : Inv X pins σ H s) (ha : H a = none) (h0 : X.s_0.heap.get? a = none) (nL : a ≠ X.env.locals) (nC : ∀ x c, X.env.cells.lookup x = some c → c ≠ a) (nP : ∀ p ∈ X.pn ++ pins, p.1 ≠ a)
    (ok : ObjOk X.prog X.w (upd H a (.ext φ)) s.heap a (.ext φ)) : Inv X pins σ (upd H a (.ext φ)) s := by
  have keep : ∀ b o, H b = some o → upd H a (.ext φ) b = some o := fun b o e => by rw [upd_ne (ne_of_none e ha)]; exact e
  refine ⟨I.ok, I.os, I.bare, ⟨I.base.keep, I.base.slot, fun b o e n hx => ?_, I.base.there, fun b xs e => keep _ _ (I.base.tups b xs e), fun b o u e => keep _ _ (I.base.frzs b o u e), fun b ps e => ?_⟩, I.loc, I.cell, ?_, fun x c e => ?_, fun p hp => ?_, fun b o e => ?_, I.len⟩
  · have ne : b ≠ a := fun z => by rw [z, h0] at e; cases e
    rw [upd_ne ne]
    exact I.base.free b o e n hx
  · obtain ⟨more, q⟩ := I.base.tbls b ps e
    exact ⟨more, keep _ _ q⟩
  · rw [upd_ne (Ne.symm nL)]; exact I.free
  · rw [upd_ne (nC x c e)]; exact I.freeC x c e
  · obtain ⟨p1, p2, p3⟩ := I.pin p hp
    exact ⟨p1, by rw [upd_ne (nP p hp)]; exact p2, p3⟩
  · by_cases hb : b = a
    · subst hb
      rw [upd_same] at e
      cases e
      exact ok
    · rw [upd_ne hb] at e
      exact (I.hok b o e).stay (fun _ _ _ q => q) (fun c q => keep _ _ q) fun c xs q => keep _ _ q
end
/-- the suite of an except clause; the exception is tracked -/
abbrev _root_.L2.Cx.suiteK (X : Cx) (a : Addr) : Cx := { X with A := X.A.mark (some (.ref a)), calm := false, xe := fun _ _ => False }
def wAsK (K : PySem.W.Frag) (c : Value) (i : Nat) (ts : TS) (Wout : WX) (D : Ends) : WX := fun cls d σ H =>
  ∃ b, PySem.W.exmOne K cls c = some b ∧ (b = true → ∀ a, H a = none → ts { nx := fun σ' H' => D.nx (σ'.set i none) H', rt := D.rt, bk := fun σ' H' => D.bk (σ'.set i none) H', ct := fun σ' H' => D.ct (σ'.set i none) H' } (σ.set i (some (.ref a))) (upd H a (XO cls d a))) ∧
    (b = false → Wout cls d σ H)
section
variable {X : Cx} {x n : Str} {c : Value} {i : Nat} {body suite : List Stmt} {b0 : Stmt} {np pos pos' : Pos} {tb : WX → TS} {ts : TS} {Wout : WX}
theorem suiteK_ok (ok : X.Ok) (a : Addr) : (X.suiteK a).Ok :=
  ⟨ok.mod, ok.kind, ok.glob, ok.blt, ok.above, ok.inj, ok.has, ok.cab, (fun w => absurd (show false = true from w) Bool.false_ne_true), ok.frames, ok.stk, ok.exf, ok.bs, ok.bsz, ok.noex, ok.exfs, ok.funs, ok.frf⟩
theorem inv_suiteK {pins : List (Addr × Obj)} {σ : L2.St} {H : Hp} {s : Shared} (I : Inv X pins σ H s) (a : Addr) : Inv (X.suiteK a) pins σ H s := ⟨suiteK_ok I.ok a, I.os, I.bare, I.base, I.loc, I.cell, I.free, I.freeC, I.pin, I.hok, I.len⟩
theorem inv_unsuiteK {a : Addr} {pins : List (Addr × Obj)} {σ : L2.St} {H : Hp} {s : Shared} (I : Inv (X.suiteK a) pins σ H s) (ok : X.Ok) : Inv X pins σ H s := ⟨ok, I.os, I.bare, I.base, I.loc, I.cell, I.free, I.freeC, I.pin, I.hok, I.len⟩
theorem try_asK (hs : X.stack = X.env :: X.outer) (hf : X.env.frame = some X.env.locals) (hex : X.ex = []) (hN : X.N.Nodup) (hi : X.N[i]? = some n) (hln : X.env.kindOf n = some .local) (hc : Names X x c) (tk : Takes X Wout)
    (hb : ∀ (W : WX) (pn : List (Addr × Obj)) (xe : Value → Shared → Prop), Takes (X.tr pn xe) W → PassesOwn (model X.prog X.w) X.A X.env xe → PSs (X.tr pn xe) body (tb W))
    (hsu : ∀ (a : Addr), PSs (X.suiteK a) (b0 :: suite) ts) :
    PS X (.Try body [.ExceptHandler (some (.Name x np)) (some n) (b0 :: suite) pos'] [] [] pos) (fun D σ H => tb (wAsK X.K c i ts Wout D) D σ H) := by
  refine ⟨fun pins s σ H D I h => ?_⟩
  have ok := I.ok
  have hfr : X.A.frames = some (X.env :: X.outer) := by rw [ok.frames, hs]
  have hloc : Loc X.env.scope n := .inl hln
  refine wpAny_Try_except ?_
  refine wpAny_mono ((hb (wAsK X.K c i ts Wout D) (X.pn ++ pins) (fun e z1 => wpAny (model X.prog X.w) X.A (noteFrame e X.env) (fun _ z2 => wpAny (model X.prog X.w) X.A (setFlight e none) (fun _ z3 =>
    wpAny (model X.prog X.w) X.A (handleBy e X.env [.ExceptHandler (some (.Name x np)) (some n) (b0 :: suite) pos']) (SP X pins D) X.xe z3) X.xe z2) X.xe z1) (fun u z xx => ?_) PassesOwn.looking).run [] s σ H D (I.toTry _) h) (fun f s1 hsp => ?_) (fun e s1 he => he)
  · obtain ⟨a, B, sI, pins', σ', H', cls, d, rfl, J', nb, up, sky, na, os, ag, b, hb1, hyes, hno⟩ := xx
    have J : Inv X pins σ' H' sI := J'.ofTry ok
    have sky' : Sky B (X.env :: X.outer) a (Zc cls d) X.env.locals z.heap := by rw [← hs]; exact sky
    have aB : B.get? a = none := by
      rcases sky with q | q | q
      · exact q.2.1
      · exact q.2.1
      · exact q.2.1
    show wpAny (model X.prog X.w) X.A (noteFrame (.ref a) X.env) _ _ _
    refine Sky.land Zc.steady hfr hf sky' fun h3 fl3 up3 => ?_
    have J3 : Inv X pins σ' H' { z with heap := h3 } := J.landed nb fl3.1 (up.trans up3) os ag
    obtain ⟨oe3, vs3, he3, hz3, hd3⟩ := fl3.there
    have notFr : ∀ {h : Heap} {o : Obj} {vs : Array Value}, h.FunFrames B (X.env :: X.outer) → h.get? a = some o → o.data = .fields vs → a ∉ frs (X.env :: X.outer) := fun {h o vs} ff e dd hm => by
      obtain ⟨_, o', e', hnf⟩ := ff.mem hm
      rw [e] at e'
      cases e'
      exact hnf _ dd
    have nfr := notFr fl3.2.2.1 he3 hd3
    have nL : a ≠ X.env.locals := fun w => nfr (List.mem_filterMap.mpr ⟨X.env, List.mem_cons_self, by rw [hf, w]⟩)
    have aI : sI.heap.get? a = none := by
      cases q : sI.heap.get? a with
      | none => rfl
      | some o =>
        have w := nb a o q (by rw [hs]; exact nfr)
        rw [aB] at w
        cases w
    have a0 : X.s_0.heap.get? a = none := by
      cases q : X.s_0.heap.get? a with
      | none => rfl
      | some o =>
        obtain ⟨o', w⟩ := J.base.there a o q (by rw [hex]; simp)
        rw [aI] at w
        cases w
    have aC : ∀ y c, X.env.cells.lookup y = some c → c ≠ a := fun y c e w => by
      obtain ⟨v, _, q, _⟩ := J.cell y c e
      rw [w, aI] at q
      cases q
    have aP : ∀ p ∈ X.pn ++ pins, p.1 ≠ a := fun p hp w => by
      have := (J.pin p hp).1
      rw [w, aI] at this
      cases this
    have xok : ∀ {h : Heap} {oe : Obj} {vs : Array Value}, h.get? a = some oe → Zc cls d oe → oe.data = .fields vs → ObjOk X.prog X.w (upd H' a (XO cls d a)) h a (XO cls d a) := fun {h oe vs} e1 e2 e3 =>
      ⟨⟨oe, vs, e1, e2, e3⟩, ⟨oe, e1⟩, fun h1 h2 ⟨oe, vs, q1, q2, q3⟩ k => ⟨oe, vs, k _ q1, q2, q3⟩⟩
    have S3 := inv_suiteK J3 a
    refine wpAny_handleBy_cons (codeAny_handlers_test ?_) (by intro q; cases q)
    have LT : PySem.W.Looks (model X.prog X.w) h3 (typeOf (.ref a)) cls := fun A Q E s k q => wpAny_typeOf_ref (k _ _ he3) (by rw [hz3.1]; exact q)
    have LM := PySem.W.exm_one (M := model X.prog X.w) (J3.kIn) LT hb1
    have test : ∀ {Q : Value → Shared → Prop} {E : Value → Shared → Prop}, Q c { z with heap := h3 } → wpAny (model X.prog X.w) (X.A.mark (some (.ref a))) (eval (.Name x np) X.env) Q E { z with heap := h3 } := fun {Q E} q => by
      obtain ⟨hg, hdbg, hm | ⟨hm, hv, hnn⟩⟩ := hc
      · exact ld_glob (X := X.suiteK a) S3 hg hm q hdbg
      · exact ld_blt (X := X.suiteK a) S3 hg hm hv q hnn hdbg
    refine test (LM.here ?_)
    cases b with
    | true =>
      refine codeAny_handlers_suite_as ?_
      refine HandSPX.lands_againZ fl3 fun h4 fl4 up4 => ?_
      have J4 : Inv X pins σ' H' { z with heap := h4 } := J.landed nb fl4.1 ((up.trans up3).trans up4) os ag
      obtain ⟨oe4, vs4, he4, hz4, hd4⟩ := fl4.there
      have T4 : Inv X pins σ' (upd H' a (XO cls d a)) { z with heap := h4 } := inv_track J4 na a0 nL aC aP (xok he4 hz4 hd4)
      refine store_ok (X := X.suiteK a) (v := .ref a) (inv_suiteK T4 a) hN hi hloc rfl (fun s5 S5 => ?_) (.inr hln)
      refine wpAny_mono ((hsu a).run pins s5 _ _ _ S5 (hyes rfl a na)) (fun f s6 hsp => ?_) (fun _ _ w => False.elim w)
      have end_ : ∀ {σ6 : L2.St} {H6 : Hp} {Q : Shared → Prop}, Inv (X.suiteK a) pins σ6 H6 s6 → (∀ s7, Inv X pins (σ6.set i none) H6 s7 → Q s7) →
          wpAny (model X.prog X.w) X.A (do bindName X.env n .none; unbindBehindTheSuite X.env n pos') (fun _ s7 => Q s7) X.xe s6 := fun {σ6 H6 Q} S6 hq => gone_ok (inv_unsuiteK S6 ok) hN hi hln hq
      cases f with
      | next =>
        obtain ⟨σ6, H6, S6, q6⟩ := hsp
        exact end_ S6 fun s7 J7 => ⟨_, _, J7, q6⟩
      | brk =>
        obtain ⟨σ6, H6, S6, q6⟩ := hsp
        exact end_ S6 fun s7 J7 => ⟨_, _, J7, q6⟩
      | cont =>
        obtain ⟨σ6, H6, S6, q6⟩ := hsp
        exact end_ S6 fun s7 J7 => ⟨_, _, J7, q6⟩
      | ret u =>
        obtain ⟨v6, σ6, H6, S6, r6, q6⟩ := hsp
        exact end_ S6 fun s7 J7 => ⟨_, _, _, J7, r6, q6⟩
    | false =>
      show wpAny _ X.A (handleBy (.ref a) X.env []) _ _ _
      refine wpAny_handleBy_nil ?_
      obtain ⟨k1, k2, k3, oe, vs, T1, oT, ts', he, hz, hd, h1, hr⟩ := id fl3
      unfold PySem.passOn
      refine wpAny_bind (wpAny_field he hd h1 ?_)
      rw [if_neg (show ¬ ((Value.ref T1 == Value.none) = true) from by simp)]
      have fin : wpAny (model X.prog X.w) X.A (setFlight (.ref a) X.env.frame) (fun _ s4 => wpAny (model X.prog X.w) X.A (throw (.ref a) : Sem Flow) (SP X pins D) X.xe s4) X.xe { z with heap := h3 } := by
        rw [hf]
        refine HandSPX.setFlight_upZ fl3 fun h4 hh4 up4 => wpAny_throw (tk _ _ ?_)
        exact ⟨a, B, sI, pins, σ', H', cls, d, rfl, J, nb, (up.trans up3).trans up4, .inr (.inr (by rw [hs]; exact hh4)), na, os, ag, hno rfl⟩
      first
        | exact wpAny_bind (wpAny_pure (wpAny_bind fin))
        | exact wpAny_bind fin
  · cases f with
    | next =>
      obtain ⟨σ', H', J', q⟩ := hsp
      exact wpAny_execs_nil ⟨σ', H', J'.ofTry ok, q⟩
    | brk =>
      obtain ⟨σ', H', J', q⟩ := hsp
      exact ⟨σ', H', J'.ofTry ok, q⟩
    | cont =>
      obtain ⟨σ', H', J', q⟩ := hsp
      exact ⟨σ', H', J'.ofTry ok, q⟩
    | ret u =>
      obtain ⟨v, σ', H', J', r, q⟩ := hsp
      exact ⟨v, σ', H', J'.ofTry ok, r, q⟩
end
/-! ### raise, try -/
def sRaise (C : Str) : SemS := fun env S => .exc C [] env S
def clrS (i : Nat) : ResS → ResS
  | .nx env S => .nx (env.set i none) S
  | .bk env S => .bk (env.set i none) S
  | .ct env S => .ct (env.set i none) S
  | .rt d S => .rt d S
  | _ => .bad
def sTry (body : SemS) (xm : Str → Option Bool) (i : Nat) (suite : SemS) : SemS := fun env S => match body env S with
  | .exc C fs env1 S1 => (match xm C with
    | some true => clrS i (suite (env1.set i (some (.exc C fs))) S1)
    | some false => .exc C fs env1 S1
    | none => .bad)
  | r => r
section
variable {X : Cx} {W : WX}
theorem mk_own0 {C : Addr} {bmB : List Value} {B newId initId : String} {x : Str} {p pos : Pos} (F : ExcBaseFacts B newId initId bmB) (q : PySem.W.excIn X.K C bmB newId = true) (gC : X.mg x = some (.ref C)) (kC : PySem.W.keepIn X.K (.ref C) = true) (r : Raises X (.ref C)) (hg : Gl X x) (hdb : (x == ("__debug__" : Str)) = false) :
    PMk X (.Call (.Name x p) [] [] pos) (fun σ H Q => Q (.ref C) none H) := by
  intro pins s σ H Q I h
  refine wpAny_Call_Name_kw (ld_glob I hg gC ?_ hdb)
  refine PySem.W.callWith_K0 I.kIn kC ?_
  obtain ⟨bm, N, nm, qn, bs, hdct, sn, sub, ab, col, dd, k0, k1, k2, k3, k5, mN, hC, hN, hni, Tl⟩ := exc_obj I.kIn q
  refine wpAny_call_exc_subT F Tl hC hN hni (fun h' e hm => ?_) (by show 0 ≤ sizeLine; decide)
  exact mk_of I hm r h (I.hok.gone hm.new)
theorem yRaise0 {C : Addr} {bmB : List Value} {B newId initId : String} {x : Str} {p pos rpos : Pos} (F : ExcBaseFacts B newId initId bmB) (q : PySem.W.excIn X.K C bmB newId = true) (gC : X.mg x = some (.ref C)) (kC : PySem.W.keepIn X.K (.ref C) = true) (r : Raises X (.ref C)) (hg : Gl X x) (hdb : (x == ("__debug__" : Str)) = false)
    (hc : X.calm = true) (tk : Takes X W) : PS X (.Raise (some (.Call (.Name x p) [] [] pos)) none rpos) (tS X.K X.mg W (sRaise x)) := (ps_raise hc tk (mk_own0 F q gC kC r hg hdb)).mono fun D σ H h => by
  obtain ⟨s, env, rfl, o, eo, h⟩ := h
  exact h (.ref C) none σ s o rfl (Le.refl s) eo ⟨C, [], gC, rfl, .inl ⟨rfl, rfl⟩, .nil⟩
/-- the exception's object is tracked: a further frozen thing -/
theorem exc_new {K : PySem.W.Frag} {mg : Str → Option Value} {t : Stt} {C : Str} {fs : List (Str × D)} {cls : Value} {d : Option Addr} {a : Addr} (o : Ok K mg t) (xr : XRp K mg t C fs cls d) (ha : t.H a = none) :
    Rp K mg (t.new a (XO cls d a)).Hf (t.new a (XO cls d a)).ρ (.ref a) (.exc C fs) := by
  obtain ⟨ca, vfs, h1, rfl, h3, h4⟩ := xr
  have l := Le.new o ha (XO (.ref ca) d a)
  exact .exc h1 upd_same (h3.mono l.same) (RpF.le l h4)
theorem try_read {K : PySem.W.Frag} {mg : Str → Option Value} {c : Value} {i : Nat} {mb ms : SemS} {xm : Str → Option Bool} (hx : ∀ C ca b, xm C = some b → mg C = some (.ref ca) → PySem.W.exmOne K (.ref ca) c = some b) {D : Ends} {σ : L2.St} {H : Hp}
    (h : tS K mg W (sTry mb xm i ms) D σ H) : tS K mg (wAsK K c i (tS K mg (fun _ _ _ _ => False) ms) W D) mb D σ H := by
  obtain ⟨s, env, rfl, o, eo, h⟩ := h
  refine ⟨s, env, rfl, o, eo, ?_⟩
  unfold sTry at h
  cases q : mb env s.S with
  | nx env1 S1 => rw [q] at h; exact h
  | bk env1 S1 => rw [q] at h; exact h
  | ct env1 S1 => rw [q] at h; exact h
  | rt d S1 => rw [q] at h; exact h
  | bad => rw [q] at h; exact h
  | exc C fs env1 S1 =>
    rw [q] at h
    intro cls d σ' t ot et lt eot xr
    have xr0 := xr
    obtain ⟨ca, vfs, h1, rfl, h3, h4⟩ := xr
    dsimp only at h
    split at h
    · rename_i e
      refine ⟨true, hx C ca true e h1, fun _ a na => ?_, fun w => Bool.noConfusion w⟩
      have l2 := Le.new ot na (XO (.ref ca) d a)
      refine ⟨t.new a (XO (.ref ca) d a), env1.set i (some (.exc C fs)), rfl, ot.new na _, (eot.le l2).set (exc_new ot xr0 na) i, ?_⟩
      show RSS K mg _ _ _ (ms _ t.S)
      rw [et]
      have h := RSS.le (lt.trans l2) h
      cases r : ms (env1.set i (some (.exc C fs))) S1 with
      | nx env2 S2 => rw [r] at h; exact fun σ2 t2 o2 e2 l2 eo2 => h _ t2 o2 e2 l2 (eo2.clr i)
      | bk env2 S2 => rw [r] at h; exact fun σ2 t2 o2 e2 l2 eo2 => h _ t2 o2 e2 l2 (eo2.clr i)
      | ct env2 S2 => rw [r] at h; exact fun σ2 t2 o2 e2 l2 eo2 => h _ t2 o2 e2 l2 (eo2.clr i)
      | rt d S2 => rw [r] at h; exact h
      | exc C2 fs2 env2 S2 => rw [r] at h; exact h.elim
      | bad => rw [r] at h; exact h.elim
    · rename_i e
      exact ⟨false, hx C ca false e h1, fun w => Bool.noConfusion w, fun _ => h _ d σ' t ot et lt eot xr0⟩
    · exact h.elim
theorem yTry {x n : Str} {c : Value} {i : Nat} {body suite : List Stmt} {b0 : Stmt} {np pos pos' : Pos} {mb ms : SemS} {xm : Str → Option Bool} (hs : X.stack = X.env :: X.outer) (hf : X.env.frame = some X.env.locals) (hex : X.ex = []) (hN : X.N.Nodup) (hi : X.N[i]? = some n) (hln : X.env.kindOf n = some .local) (hc : Names X x c) (tk : Takes X W)
    (hx : ∀ C ca b, xm C = some b → X.mg C = some (.ref ca) → PySem.W.exmOne X.K (.ref ca) c = some b)
    (hb : ∀ (Wb : WX) (pn : List (Addr × Obj)) (xe : Value → Shared → Prop), Takes (X.tr pn xe) Wb → PassesOwn (model X.prog X.w) X.A X.env xe → PSs (X.tr pn xe) body (tS X.K X.mg Wb mb))
    (hsu : ∀ (a : Addr), PSs (X.suiteK a) (b0 :: suite) (tS X.K X.mg (fun _ _ _ _ => False) ms)) :
    PS X (.Try body [.ExceptHandler (some (.Name x np)) (some n) (b0 :: suite) pos'] [] [] pos) (tS X.K X.mg W (sTry mb xm i ms)) :=
  (try_asK hs hf hex hN hi hln hc tk hb hsu).mono fun D σ H h => try_read hx h
end
/-! ### isinstance -/
def tyName (S : Sto) (d : D) : Option String := match rd S d with
  | .non => some "NoneType"
  | .bl _ => some "bool"
  | .int _ => some "int"
  | .str _ => some "str"
  | .lst _ => some "list"
  | .tup _ => some "tuple"
  | _ => none
def knownTy : List String := ["NoneType", "bool", "int", "str", "list", "tuple"]
def askTy : List String := ["int", "str", "bool", "list", "tuple"]
def kitT (a b : String) : Bool := a == b || (a == "bool" && b == "int")
theorem kitT_ok : ∀ a ∈ knownTy, ∀ b ∈ askTy, kitB a b = some (kitT a b) := by decide +kernel
/-- what is told of a kept exception's class: xt -/
def isTy (xt : Str → String → Option Bool) (S : Sto) (d : D) (b : String) : Option Bool := match d with
  | .exc C [] => xt C b
  | d => if askTy.contains b then (match tyName S d with | some a => some (kitT a b) | none => none) else none
def sIsi (xt : Str → String → Option Bool) (b : String) (m : SemE) : SemE := fun env S => (m env S).bind fun d S1 => match isTy xt S1 d b with
  | some r => .ok (.bl r) S1
  | none => .bad
end T
end S_TTry
section S_TIsi
set_option Elab.async false
set_option linter.all false
set_option maxRecDepth 100000
set_option maxHeartbeats 4000000
namespace T
open PySem L2
section
variable {K : PySem.W.Frag} {mg : Str → Option Value}
theorem tyx_l {H : Hp} {a : Addr} {vs : List V} (h : SqL K H a vs) : TyX K H (.ref a) (.type "list") := by
  rcases h with (h | ⟨o, h⟩) | ⟨o, its, n, h1, h2, _⟩
  · exact .base (.lst h)
  · exact .base (.frz h)
  · exact .kList h1 h2
theorem tyx_t {H : Hp} {a : Addr} {vs : List V} (h : SqT K H a vs) : TyX K H (.ref a) (.type "tuple") := by
  rcases h with (h | ⟨o, h⟩) | ⟨o, its, n, h1, h2, _⟩
  · exact .base (.tup h)
  · exact .fTuple h
  · exact .kTuple h1 h2
theorem rd_plain {s : Stt} {x : V} {d e : D} (o : Ok K mg s) (r : Rp K mg s.Hf s.ρ x d) (h : rd s.S d = e) (h1 : ∀ ds, e ≠ .lst ds) (h2 : ∀ ds, e ≠ .dk ds) (h3 : ∀ C ds, e ≠ .obj C ds) : d = e := by
  cases r with
  | cell q =>
    simp only [rd] at h
    have z := cell_at o q
    rw [h] at z
    cases e with
    | lst ds => exact absurd rfl (h1 ds)
    | dk ds => exact absurd rfl (h2 ds)
    | obj C ds => exact absurd rfl (h3 C ds)
    | _ => exact z.elim
  | rdl => simp only [rd] at h; exact absurd h.symm (h1 _)
  | _ => exact h
theorem tyx {s : Stt} {x : V} {d : D} {a : String} (o : Ok K mg s) (r : Rp K mg s.Hf s.ρ x d) (h : tyName s.S d = some a) : TyX K s.H x (.type a) ∧ a ∈ knownTy := by
  unfold tyName at h
  split at h
  · rename_i e
    have := rd_plain o r e (by simp) (by simp) (by simp)
    subst this
    cases r
    injection h with h
    subst h
    exact ⟨.base .non, by decide⟩
  · rename_i e
    have := rd_plain o r e (by simp) (by simp) (by simp)
    subst this
    cases r
    injection h with h
    subst h
    exact ⟨.base (.bl _), by decide⟩
  · rename_i e
    have := rd_plain o r e (by simp) (by simp) (by simp)
    subst this
    cases r
    injection h with h
    subst h
    exact ⟨.base (.int _), by decide⟩
  · rename_i e
    have := rd_str o r e
    subst this
    injection h with h
    subst h
    exact ⟨.base (.str _), by decide⟩
  · rename_i e
    obtain ⟨p, vs, rfl, h1, _⟩ := rd_lst o r e
    injection h with h
    subst h
    exact ⟨tyx_l h1, by decide⟩
  · rename_i e
    obtain ⟨p, vs, rfl, h1, _⟩ := rd_tup o r e
    injection h with h
    subst h
    exact ⟨tyx_t h1, by decide⟩
  · cases h
/-- isinstance of a kept exception of an own class -/
def rIsX (K : PySem.W.Frag) : List V → Hp → VK → Prop := fun xs H Q => ∃ (a C : Addr) (c : V) (u : Value) (b : Bool), xs = [.ref a, c] ∧ H a = some (XO (.ref C) none a) ∧ ExcC K C ∧ ClsV c u ∧ PySem.W.kitOne K (.ref C) u = some b ∧ Q (.bl b) H
theorem call_isX {X : Cx} : CallR X (.builtin "isinstance") (rIsX X.K) := by
  intro pins s σ H xs us Q I r h
  obtain ⟨a, C, c, u, b, rfl, ha, E, k, e, q⟩ := h
  obtain ⟨u1, u2, rfl, r1, r2⟩ := vals2 r
  have e2 := k.eq r2
  subst e2
  cases r1
  obtain ⟨⟨oe, vs, hget, hz, hv⟩, _⟩ := I.hok a _ ha
  have J : PySem.W.InstAt s.heap a oe C none := by
    obtain ⟨oc, od, oda, osl⟩ := oe
    obtain ⟨h1, h2⟩ := hz
    dsimp only at h1 h2 hv
    subst h1 h2 hv
    exact ⟨hget, rfl, rfl, trivial⟩
  exact PySem.W.kia_one (PySem.W.handS_kitx_exc E.hg E.hk E.hs E.hd E.ha E.hn E.ht E.hm) I.kIn J e (fun w => nomatch w) fun tk => ⟨.bl b, H, I.kept (t' := tk) fun _ _ w => w, rfl, q⟩
/-- the table of kept exceptions' classes -/
def XTab (K : PySem.W.Frag) (mg : Str → Option Value) (xt : Str → String → Option Bool) : Prop := ∀ (C : Str) (ca : Addr) (n : String) (b : Bool), xt C n = some b → mg C = some (.ref ca) → ExcC K ca ∧ PySem.W.kitOne K (.ref ca) (.type n) = some b
end
section
variable {X : Cx} {W : WX} {e : Expr} {m : SemE} {p pos pt : Pos} {t : Str} {n : String} {xt : Str → String → Option Bool}
theorem isi_read {K : PySem.W.Frag} {mg : Str → Option Value} (hx : XTab K mg xt) {σ : L2.St} {H : Hp} {Q : VK} (h : tE K mg W (sIsi xt n m) σ H Q) : tE K mg W m σ H fun x H1 => rIsi K [x, .ty n] H1 Q ∨ rIsX K [x, .ty n] H1 Q := by
  obtain ⟨s, env, rfl, o, eo, h⟩ := h
  refine RS.go (R := RE K mg) h o eo fun x u d ou lu rx h => ?_
  split at h
  · rename_i r er
    unfold isTy at er
    split at er
    · cases rx with
      | exc h1 h2 h3 h4 =>
        cases h4
        rcases h3 with ⟨rfl, _⟩ | ⟨_, _, _, q⟩
        · obtain ⟨E, k⟩ := hx _ _ _ _ er h1
          exact .inr ⟨_, _, _, _, r, rfl, ou.same _ _ h2, E, .ty n, k, h.val ou .bl⟩
        · exact absurd rfl q
    · split at er
      · rename_i hn
        split at er
        · rename_i a ea
          injection er with er
          subst er
          obtain ⟨ty, ka⟩ := tyx ou rx ea
          exact .inl ⟨x, .ty n, _, _, _, rfl, .ty n, ty, kit_ty (kitT_ok a ka n (by simpa using hn)), h.val ou .bl⟩
        · cases er
      · cases er
  · exact h.elim
theorem xIsi (hx : XTab X.K X.mg xt) (hg : Gl X "isinstance") (hm : X.mg "isinstance" = none) (hgt : Gl X t) (hmt : X.mg t = none) (hvt : bootBuiltins t = some (.type n)) (hnt : t ≠ "__name__") (hdt : (t == ("__debug__" : Str)) = false) (he : PE X e (tE X.K X.mg W m))
    (hs : starEach [e, .Name t pt] X.env = (false, eval e X.env) :: starEach [.Name t pt] X.env) (hs2 : starEach [.Name t pt] X.env = (false, eval (.Name t pt) X.env) :: starEach [] X.env) (hpl : (backTo pos (starEach [.Name t pt] X.env)).any (·.1) = false) :
    PE X (.Call (.Name "isinstance" p) [e, .Name t pt] [] pos) (tE X.K X.mg W (sIsi xt n m)) :=
  (pe_callB (T.CallR.or call_isi call_isX) hg hm (by decide +kernel) (pa_cons he (pa_cons (pe_bltn (v := .ty n) hgt hmt hvt rfl hnt hdt) pa_nil hs2) hs) (by decide) (by decide) hs hpl).mono fun σ H Q h => isi_read hx h
/-- isinstance(e, (T1, T2)) -/
def sIsi2 (b c : String) (m : SemE) : SemE := fun env S => (m env S).bind fun d S1 => if askTy.contains b && askTy.contains c then (match tyName S1 d with
  | some a => .ok (.bl (kitT a b || kitT a c)) S1
  | none => .bad) else .bad
theorem xIsi2 {t2 : Str} {n2 : String} {pt2 ptt : Pos} {kk : Nat} (hg : Gl X "isinstance") (hm : X.mg "isinstance" = none) (hgt : Gl X t) (hmt : X.mg t = none) (hvt : bootBuiltins t = some (.type n)) (hnt : t ≠ "__name__") (hdt : (t == ("__debug__" : Str)) = false)
    (hgt2 : Gl X t2) (hmt2 : X.mg t2 = none) (hvt2 : bootBuiltins t2 = some (.type n2)) (hnt2 : t2 ≠ "__name__") (hdt2 : (t2 == ("__debug__" : Str)) = false) (he : PE X e (tE X.K X.mg W m))
    (hs : starEach [e, .Tuple [.Name t pt, .Name t2 pt2] kk ptt] X.env = (false, eval e X.env) :: starEach [.Tuple [.Name t pt, .Name t2 pt2] kk ptt] X.env) (hs2 : starEach [.Tuple [.Name t pt, .Name t2 pt2] kk ptt] X.env = (false, eval (.Tuple [.Name t pt, .Name t2 pt2] kk ptt) X.env) :: starEach [] X.env)
    (hs3 : starEach [.Name t pt, .Name t2 pt2] X.env = (false, eval (.Name t pt) X.env) :: starEach [.Name t2 pt2] X.env) (hs4 : starEach [.Name t2 pt2] X.env = (false, eval (.Name t2 pt2) X.env) :: starEach [] X.env)
    (hpl : (backTo pos (starEach [.Tuple [.Name t pt, .Name t2 pt2] kk ptt] X.env)).any (·.1) = false) :
    PE X (.Call (.Name "isinstance" p) [e, .Tuple [.Name t pt, .Name t2 pt2] kk ptt] [] pos) (tE X.K X.mg W (sIsi2 n n2 m)) :=
  (pe_callB call_isiT hg hm (by decide +kernel) (pa_cons he (pa_cons (pe_tup (pa_cons (pe_bltn (v := .ty n) hgt hmt hvt rfl hnt hdt) (pa_cons (pe_bltn (v := .ty n2) hgt2 hmt2 hvt2 rfl hnt2 hdt2) pa_nil hs4) hs3)) pa_nil hs2) hs) (by decide) (by decide) hs hpl).mono fun σ H Q h => by
    obtain ⟨s, env, rfl, o, eo, h⟩ := h
    refine RS.go (R := RE X.K X.mg) h o eo fun x u d ou lu rx h => ?_
    split at h
    · rename_i hc
      rw [Bool.and_eq_true] at hc
      split at h
      · rename_i a ea
        refine ⟨by show 2 ≤ sizeLine; decide, fun q hq => ?_⟩
        have l2 := Le.new ou hq (.tup [.ty n, .ty n2])
        have o2 := ou.new hq (.tup [.ty n, .ty n2])
        obtain ⟨ty, ka⟩ := tyx (s := u.new q (.tup [.ty n, .ty n2])) o2 (rx.le l2) ea
        have k1 := kitT_ok a ka n (by simpa using hc.1)
        have k2 := kitT_ok a ka n2 (by simpa using hc.2)
        refine ⟨x, q, _, _, _, kitT a n || kitT a n2, rfl, upd_same, .cons (.ty n) (.cons (.ty n2) .nil), ty, ?_, h _ (u.new q (.tup [.ty n, .ty n2])) o2 rfl l2 .bl⟩
        refine kitAny_cons (kit_ty k1) (fun w => ?_) fun w => by rw [w]; rfl
        rw [w]
        refine kitAny_cons (kit_ty k2) (fun w2 => ?_) fun w2 => by rw [w2]; rfl
        rw [w2]
        rfl
      · exact h.elim
    · exact h.elim
end
end T
end S_TIsi
section S_TMisc
set_option Elab.async false
set_option linter.all false
set_option maxRecDepth 100000
set_option maxHeartbeats 4000000
namespace T
open PySem L2
/-! ### list of a text -/
def signsV (z : Str) : List V := z.cps.toList.map fun c => V.str ⟨#[c]⟩
theorem signs_rp {K : PySem.W.Frag} {mg : Str → Option Value} {Hf : Hp} {ρ : List Addr} (z : Str) : RpL K mg Hf ρ (signsV z) (signs z) := by
  unfold signsV signs
  generalize z.cps.toList = l
  induction l with
  | nil => exact .nil
  | cons c r ih => exact .cons .str ih
theorem vals_signs {z : Str} {acc : Array Value} (h : ItemsOf (SignAt z) acc z.cps.size) : Vals (signsV z) acc.toList := by
  refine L2.vals_of_at ?_ ?_
  · unfold signsV
    rw [List.length_map, Array.length_toList, Array.length_toList, h.1]
  · intro j x u hx hu
    rw [Array.getElem?_toList] at hu
    obtain ⟨c, t, e1, rfl⟩ := h.2 j u hu
    unfold signsV at hx
    rw [List.getElem?_map, Array.getElem?_toList, e1] at hx
    cases hx
    exact ⟨t, rfl⟩
def rListStr : List V → Hp → VK → Prop := fun xs H Q => ∃ z, xs = [.str z] ∧ z.length ≤ lim ∧ ∀ p, H p = none → Q (.ref p) (upd H p (.lst (signsV z)))
theorem call_listStr {X : Cx} (hc : X.calm = true) : CallR X (.type "list") rListStr := by
  intro pins s σ H xs us Q I r h
  obtain ⟨z, rfl, hz, q⟩ := h
  obtain ⟨u, rfl, t, rfl⟩ := vals1 r
  have hz2 : z.cps.size ≤ sizeLine := lim_le hz
  refine PySem.call_list_str (I.ok.hd hc) z t (fun h' tk acc c hk hS hi => ?_) hz2
  refine ⟨.ref s.heap.objs.size, upd H s.heap.objs.size (.lst (signsV z)), I.laid (t' := tk) hk (Nat.le_refl _) ?_, rfl, q _ (I.hok.fresh (Nat.le_refl _))⟩
  refine ⟨by unfold signsV; rw [List.length_map, Array.length_toList]; exact hz2, acc.toList, c, vals_signs hi, ?_⟩
  rw [hS]
section
variable {K : PySem.W.Frag} {mg : Str → Option Value}
/-- list(x): a text, a list, a tuple; to be changed or not -/
def bListA : FnB := fun S ds => match ds with
  | [.str z] => if z.length ≤ lim then .ok (.lst (signs z)) S else .bad
  | ds => bList S ds
def bListAC : FnB := fun S ds => match ds with
  | [.str z] => if z.length ≤ lim then .ok (.cell S.length) (S ++ [.lv (.lst (signs z))]) else .bad
  | ds => bListC S ds
abbrev rListA (K : PySem.W.Frag) : List V → Hp → VK → Prop := fun xs H Q => rListStr xs H Q ∨ (∃ p ys, xs = [.ref p] ∧ (SqL K H p ys ∨ SqT K H p ys) ∧ ∀ l, H l = none → Q (.ref l) (upd H l (.lst ys)))
theorem callListA {X : Cx} (hc : X.calm = true) : CallR X (.type "list") (rListA X.K) := CallR.or (call_listStr hc) call_list_of
theorem bListA_ok : CaS K mg (rListA K) bListA := by
  intro W σ Q s vs ds o r h
  unfold bListA at h
  split at h
  · split at h
    · rename_i hl
      obtain ⟨v, rfl, r1⟩ := one r
      cases r1
      exact .inl ⟨_, rfl, hl, fun p hp => h.made o hp (Rp.newL (signs_rp _) o hp)⟩
    · exact h.elim
  · exact .inr (bList_ok W σ Q s vs ds o r h)
theorem bListAC_ok : CaS K mg (rListA K) bListAC := by
  intro W σ Q s vs ds o r h
  unfold bListAC at h
  split at h
  · split at h
    · rename_i hl
      obtain ⟨v, rfl, r1⟩ := one r
      cases r1
      exact .inl ⟨_, rfl, hl, fun p hp => h.madeC o hp ⟨_, upd_same, signs_rp _⟩⟩
    · exact h.elim
  · exact .inr (bListC_ok W σ Q s vs ds o r h)
/-! ### a text many times -/
def repS (z : Str) (n : Nat) : Str := mkS (List.replicate n z.cps.toList).flatten
theorem rep_fold (z : Str) (n : Nat) : (⟨(List.replicate n z.cps).foldl (· ++ ·) #[]⟩ : Str) = repS z n := by
  have h : ∀ (m : Nat) (a : Array Nat), ((List.replicate m z.cps).foldl (· ++ ·) a).toList = a.toList ++ (List.replicate m z.cps.toList).flatten := by
    intro m
    induction m with
    | zero => intro a; simp
    | succ m ih => intro a; rw [List.replicate_succ, List.foldl_cons, ih, List.replicate_succ, List.flatten_cons, Array.toList_append, List.append_assoc]
  apply TL.ext_tl
  show ((List.replicate n z.cps).foldl (· ++ ·) #[]).toList = _
  rw [h n #[]]
  rfl
def rMulS : R2 := fun x y H Q => ∃ z n, x = .str z ∧ y = .int n ∧ (1 < n ∧ n ≤ 10000) ∧ (0 < z.length ∧ z.length * n.toNat ≤ lim) ∧ Q (.str (repS z n.toNat)) H
theorem op_mulS {X : Cx} : OpR X (binaryOp .Mult) rMulS := by
  intro pins s σ H x y v u Q I rx ry h
  obtain ⟨z, n, rfl, rfl, hn, hz, q⟩ := h
  obtain ⟨t, rfl⟩ := rx
  obtain ⟨t2, rfl⟩ := ry
  have nz : (n == 1 || z.length == 0) = false := by
    rw [Bool.or_eq_false_iff]
    exact ⟨beq_false_of_ne (by omega), beq_false_of_ne (by omega)⟩
  have lz : z.length * n.toNat ≤ sizeLine := lim_le hz.2
  refine PySem.P.mul_str (by rw [decide_eq_false (by omega), decide_eq_false (by omega)]; rfl) (fun _ _ => ?_) (fun _ _ => decide_eq_false (by omega)) ?_
  · have h1 : (z.length : Int) ≤ 1000000 := by
      have : z.length * 1 ≤ z.length * n.toNat := Nat.mul_le_mul_left _ (by omega)
      have h2 : z.length * n.toNat ≤ 1000000 := hz.2
      omega
    have h2 : (2 ^ 63 - 1 : Int) / n ≥ 1000000 := by
      have : (1000000 : Int) * n ≤ 2 ^ 63 - 1 := by omega
      exact (Int.le_ediv_iff_mul_le (by omega)).mpr this
    omega
  · rw [if_neg (by omega), if_neg (by rw [nz]; decide), rep_fold]
    refine ⟨?_, .str _, H, I.tok _, ⟨_, rfl⟩, q⟩
    have e : (repS z n.toNat).length = z.length * n.toNat := by
      rw [TL.len_tl, TL.len_tl]
      show ((List.replicate n.toNat z.cps.toList).flatten).length = _
      generalize n.toNat = k
      induction k with
      | zero => simp
      | succ k ih => rw [List.replicate_succ, List.flatten_cons, List.length_append, ih, Nat.mul_succ, Nat.add_comm]
    rw [e]
    exact lz
def fMulA : Op2 := fun S x y => match x, y with
  | .str z, .int n => if decide (1 < n ∧ n ≤ 10000) && decide (0 < z.length ∧ z.length * n.toNat ≤ lim) then .ok (.str (repS z n.toNat)) S else .bad
  | x, y => fMul S x y
theorem opMulA {X : Cx} : OpR X (binaryOp .Mult) (fun x y H Q => rMulS x y H Q ∨ rMul x y H Q) := op_mulS.or opMul
theorem fMulA_ok : OpS K mg (fun x y H Q => rMulS x y H Q ∨ rMul x y H Q) fMulA := by
  intro W σ Q s x y dx dy o rx ry h
  unfold fMulA at h
  split at h
  · split at h
    · rename_i hc
      rw [Bool.and_eq_true, decide_eq_true_eq, decide_eq_true_eq] at hc
      exact .inl ⟨_, _, rp_str rx, rp_int ry, hc.1, hc.2, h.val o .str⟩
    · exact h.elim
  · exact .inr (fMul_ok W σ Q s x y _ _ o rx ry h)
/-! ### in -/
def eqF : D → D → Bool
  | .non, .non => true
  | .bl a, .bl b => a == b
  | .bl a, .int b => (if a then 1 else 0) == b
  | .int a, .bl b => a == (if b then 1 else 0)
  | .int a, .int b => a == b
  | .str a, .str b => a == b
  | _, _ => false
def flatD : D → Bool
  | .non => true
  | .bl _ => true
  | .int _ => true
  | .str _ => true
  | _ => false
theorem flat_rp {Hf : Hp} {ρ : List Addr} {x : V} {d : D} (r : Rp K mg Hf ρ x d) (h : flatD d = true) : flatV x = true := by
  cases r <;> first | rfl | (simp only [flatD] at h; cases h)
theorem flat_all {Hf : Hp} {ρ : List Addr} : ∀ {xs : List V} {ds : List D}, RpL K mg Hf ρ xs ds → ds.all flatD = true → xs.all flatV = true := by
  intro xs
  induction xs with
  | nil => intro ds r h; rfl
  | cons v vs ih =>
    intro ds r h
    cases r with
    | cons h1 h2 =>
      rw [List.all_cons, Bool.and_eq_true] at h ⊢
      exact ⟨flat_rp h1 h.1, ih h2 h.2⟩
theorem eqF_rp {Hf : Hp} {ρ : List Addr} {x y : V} {d e : D} (rx : Rp K mg Hf ρ x d) (ry : Rp K mg Hf ρ y e) (h1 : flatD d = true) (h2 : flatD e = true) : eqV x y = eqF d e := by
  cases rx <;> first | (simp only [flatD] at h1; cases h1; done) | (cases ry <;> first | rfl | (simp only [flatD] at h2; cases h2))
theorem inF_rp {Hf : Hp} {ρ : List Addr} {x : V} {d : D} (rx : Rp K mg Hf ρ x d) (h1 : flatD d = true) : ∀ {ys : List V} {es : List D}, RpL K mg Hf ρ ys es → es.all flatD = true → inV x ys = es.any fun e => eqF e d := by
  intro ys
  induction ys with
  | nil => intro es r h; cases r; rfl
  | cons v vs ih =>
    intro es r h
    cases r with
    | cons q1 q2 =>
      rw [List.all_cons, Bool.and_eq_true] at h
      unfold inV at ih ⊢
      rw [List.any_cons, List.any_cons, ih q2 h.2, eqF_rp q1 rx h.1 h1]
/-- x in y -/
def inD (S : Sto) (x y : D) : Option Bool := match x, rd S y with
  | .str a, .str z => (match a.cps.toList with | [c] => some (decide (c ∈ z.cps.toList)) | _ => none)
  | x, .lst ds => if flatD x && ds.all flatD then some (ds.any fun e => eqF e x) else (match toPy S (rd S x), toPyL S ds with
    | some p, some ps => if SeqAt.shaped p && SeqAt.shaped (.list ps) then some (ps.any fun w => PyData.eqv w p) else none
    | _, _ => none)
  | x, .tup ds => if flatD x && ds.all flatD then some (ds.any fun e => eqF e x) else none
  | _, _ => none
def fIn : Op2 := fun S x y => match inD S x y with
  | some b => .ok (.bl b) S
  | none => .bad
def fNotIn : Op2 := fun S x y => match inD S x y with
  | some b => .ok (.bl (!b)) S
  | none => .bad
theorem toPyL_rd {s : Stt} (o : Ok K mg s) {y : V} {d : D} {ds : List D} {ps : List PyData} (r : Rp K mg s.Hf s.ρ y d) (h : rd s.S d = .lst ds) (h2 : toPyL s.S ds = some ps) : Dp K s.H y (.list ps) := by
  obtain ⟨a, vs, rfl, h1, r1⟩ := rd_lst o r h
  exact .lst h1 (toPyL_dp o ds r1 h2)
theorem inD_ok {s : Stt} (o : Ok K mg s) {x y : V} {dx dy : D} (rx : Rp K mg s.Hf s.ρ x dx) (ry : Rp K mg s.Hf s.ρ y dy) {b : Bool} (h : inD s.S dx dy = some b) :
    (∃ (c : Nat) (z : Str), x = .str ⟨#[c]⟩ ∧ y = .str z ∧ b = decide (c ∈ z.cps.toList)) ∨ (∃ p xs, y = .ref p ∧ (SqL K s.H p xs ∨ SqT K s.H p xs) ∧ flatV x = true ∧ xs.all flatV = true ∧ b = inV x xs) ∨
      ∃ d ds, Dp K s.H x d ∧ Dp K s.H y (.list ds) ∧ SeqAt.shaped d = true ∧ SeqAt.shaped (.list ds) = true ∧ b = ds.any fun z => PyData.eqv z d := by
  unfold inD at h
  split at h
  · rename_i a z e
    split at h
    · rename_i c ec
      injection h with h
      have := rp_str rx
      subst this
      refine .inl ⟨c, z, ?_, rd_str o ry e, h.symm⟩
      have : a = ⟨#[c]⟩ := TL.ext_tl ec
      rw [this]
    · cases h
  · rename_i ds e
    split at h
    · rename_i hf
      rw [Bool.and_eq_true] at hf
      injection h with h
      obtain ⟨p, vs, rfl, h1, r1⟩ := rd_lst o ry e
      exact .inr (.inl ⟨p, vs, rfl, .inl h1, flat_rp rx hf.1, flat_all r1 hf.2, by rw [inF_rp rx hf.1 r1 hf.2]; exact h.symm⟩)
    · split at h
      · rename_i p ps e1 e2
        split at h
        · rename_i hs
          rw [Bool.and_eq_true] at hs
          injection h with h
          exact .inr (.inr ⟨p, ps, toPy_rd o rx e1, toPyL_rd o ry e e2, hs.1, hs.2, h.symm⟩)
        · cases h
      · cases h
  · rename_i ds e
    split at h
    · rename_i hf
      rw [Bool.and_eq_true] at hf
      injection h with h
      obtain ⟨p, vs, rfl, h1, r1⟩ := rd_tup o ry e
      exact .inr (.inl ⟨p, vs, rfl, .inr h1, flat_rp rx hf.1, flat_all r1 hf.2, by rw [inF_rp rx hf.1 r1 hf.2]; exact h.symm⟩)
    · cases h
  · cases h
def rInA (K : PySem.W.Frag) : R2 := fun x y H Q => (∃ (c : Nat) (z : Str), x = .str ⟨#[c]⟩ ∧ y = .str z ∧ Q (.bl (decide (c ∈ z.cps.toList))) H) ∨ rIn K false x y H Q ∨ rInD K x y H Q
def rNotInA (K : PySem.W.Frag) : R2 := fun x y H Q => (∃ (c : Nat) (z : Str), x = .str ⟨#[c]⟩ ∧ y = .str z ∧ Q (.bl (!decide (c ∈ z.cps.toList))) H) ∨ rIn K true x y H Q ∨ rNotInD K x y H Q
theorem opIn {X : Cx} (hu : X.A.units + 65 < cLine) : OpR X (compareOp .In) (rInA X.K) := op_in_sign.or (op_in_seq.or (op_inD hu))
theorem opNotIn {X : Cx} (hu : X.A.units + 65 < cLine) : OpR X (compareOp .NotIn) (rNotInA X.K) := op_notIn_sign.or (op_notIn_seq.or (op_notInD hu))
theorem fIn_ok : OpS K mg (rInA K) fIn := by
  intro W σ Q s x y dx dy o rx ry h
  unfold fIn at h
  split at h
  · rename_i b e
    rcases inD_ok o rx ry e with ⟨c, z, rfl, rfl, rfl⟩ | ⟨p, xs, rfl, h1, h2, h3, rfl⟩ | ⟨d, ds, h1, h2, h3, h4, rfl⟩
    · exact .inl ⟨c, z, rfl, rfl, h.val o .bl⟩
    · exact .inr (.inl ⟨p, xs, rfl, h1, h2, h3, h.val o .bl⟩)
    · exact .inr (.inr ⟨d, ds, h1, h2, h3, h4, h.val o .bl⟩)
  · exact h.elim
theorem fNotIn_ok : OpS K mg (rNotInA K) fNotIn := by
  intro W σ Q s x y dx dy o rx ry h
  unfold fNotIn at h
  split at h
  · rename_i b e
    rcases inD_ok o rx ry e with ⟨c, z, rfl, rfl, rfl⟩ | ⟨p, xs, rfl, h1, h2, h3, rfl⟩ | ⟨d, ds, h1, h2, h3, h4, rfl⟩
    · exact .inl ⟨c, z, rfl, rfl, h.val o .bl⟩
    · exact .inr (.inl ⟨p, xs, rfl, h1, h2, h3, h.val o .bl⟩)
    · exact .inr (.inr ⟨d, ds, h1, h2, h3, h4, h.val o .bl⟩)
  · exact h.elim
end
/-! ### backwards -/
def sRev (m : SemE) : SemE := fun env S => (m env S).bind fun x S1 => match rd S1 x with
  | .lst ds => .ok (.lst ds.reverse) S1
  | .str z => if z.length ≤ lim then .ok (.str (mkS z.cps.toList.reverse)) S1 else .bad
  | _ => .bad
section
variable {X : Cx} {W : WX}
theorem picked_rev (z : Str) (tk : Tok) : (PySem.slicePicked z none none (some (-1, tk))).filterMap (z.cps[·]?) = z.cps.toList.reverse := by
  show (Builtin.Str.strSliceIndices none none (-1) z.length).filterMap _ = _
  have e : Builtin.Str.strSliceIndices none none (-1) z.length = sliceRange ((z.length : Int) - 1) (-1) (-1) := rfl
  rw [e, PySem.W.krv_sliceRange, PySem.W.krv_range, List.filterMap_reverse]
  have := PySem.W.krv_all z.cps
  rw [show z.length = z.cps.size from rfl, this]
theorem xRev {e : Expr} {m : SemE} {k : Nat} {p1 p2 p3 pos : Pos} (he : PE X e (tE X.K X.mg W m)) : PE X (.Subscript e (.Slice none none (some (.UnaryOp .USub (.Constant (.int 1) k p1) p2)) p3) pos) (tE X.K X.mg W (sRev m)) := by
  refine ⟨fun pins s σ H Q I h => ?_⟩
  obtain ⟨t, env, rfl, o, eo, h⟩ := h
  have h0 : tE X.K X.mg W m σ t.H (fun x H1 => ∃ (t2 : Stt) (d : D), t2.H = H1 ∧ Ok X.K X.mg t2 ∧ Rp X.K X.mg t2.Hf t2.ρ x d ∧ RS X.K X.mg (RE X.K X.mg) W σ Q t2 (match rd t2.S d with
    | .lst ds => .ok (.lst ds.reverse) t2.S
    | .str z => if z.length ≤ lim then .ok (.str (mkS z.cps.toList.reverse)) t2.S else .bad
    | _ => .bad)) := RS.go (R := RE X.K X.mg) h o eo fun x t2 d o2 l2 r2 h => ⟨t2, d, rfl, o2, r2, h⟩
  refine PyProof.Rows.Subscript_ (thn (he.run pins s σ t.H _ I h0) fun v s1 ⟨x, H1, I1, r1, t2, d, e1, o2, r2, h⟩ => ?_)
  subst e1
  have hst : PO X (some (.UnaryOp .USub (.Constant (.int 1) k p1) p2)) (tPart (tUn (rU fun i => .int (-i)) (tC (.int 1)))) := po_some (pe_un un_neg pe_int)
  refine wpAny_Slice (thn (po_none.run pins s1 σ t2.H (fun o H2 => o = none ∧ H2 = t2.H) I1 ⟨rfl, rfl⟩) fun vl s2 ⟨l, H2, I2, pl, el, e2⟩ => ?_)
  subst el e2
  refine thn (po_none.run pins s2 σ _ (fun o H3 => o = none ∧ H3 = t2.H) I2 ⟨rfl, rfl⟩) fun vu s3 ⟨u, H3, I3, pu, eu, e3⟩ => ?_
  subst eu e3
  refine thn (hst.run pins s3 σ _ (fun o H4 => o = some (-1) ∧ H4 = t2.H) I3 ⟨1, rfl, -1, rfl, rfl, rfl⟩) fun vs s4 ⟨o, H4, I4, ps, eo, e4⟩ => ?_
  subst eo e4
  have I5 : Inv X pins σ t2.H { s4 with heap := s4.heap.push { cls := .type "slice", data := .fields #[vl, vu, vs] } } := I4.kept (t' := s4.toks) fun b ob q => Heap.get?_push_of_some _ q
  show wpAny (model X.prog X.w) X.A (PyProof.Rows.subscriptTail e (.Slice none none (some (.UnaryOp .USub (.Constant (.int 1) k p1) p2)) p3) v (.ref s4.heap.objs.size)) (EP X pins σ Q) X.xe { s4 with heap := s4.heap.push { cls := .type "slice", data := .fields #[vl, vu, vs] } }
  split at h
  · rename_i ds eq
    obtain ⟨a, ws, rfl, sq, rl⟩ := rd_lst o2 r2 eq
    cases r1
    obtain ⟨its, r, ht, hz⟩ := I5.list sq
    have hlen := r.length
    refine PyProof.Rows.tail_any (ops := [.ref a, .ref s4.heap.objs.size]) ht.isList.typeIs (PySem.slot_list_getitem.lookup) ?_ (by with_unfolding_all rfl)
    refine wpAny_getItem_list_slice ht.isList (Heap.IsSliceOf.new _ vl vu vs) pl pu ps (by decide) ?_ (by rw [List.size_toArray]; omega)
    rw [PySem.W.krv_pick]
    refine ⟨.ref _, _, I5.laid (t' := s4.toks) (o := .lst ws.reverse) (fun b ob q => Heap.get?_push_of_some _ q) (Nat.le_refl _) ?_, rfl, h.made o2 (I5.hok.fresh (Nat.le_refl _)) (Rp.newL rl.reverse o2 (I5.hok.fresh (Nat.le_refl _)))⟩
    exact ⟨by rw [List.length_reverse]; exact hz, _, 0, r.reverse, Heap.get?_push_size _ rfl⟩
  · rename_i z eq
    split at h
    · rename_i hl
      have := rd_str o2 r2 eq
      subst this
      obtain ⟨tz, rfl⟩ := r1
      obtain ⟨l, rfl, el⟩ := IsPart.raw pl
      obtain ⟨u, rfl, eu⟩ := IsPart.raw pu
      obtain ⟨w, rfl, ew⟩ := IsPart.raw ps
      cases l with
      | some _ => cases el
      | none =>
      cases u with
      | some _ => cases eu
      | none =>
      cases w with
      | none => cases ew
      | some w =>
      obtain ⟨wi, wt⟩ := w
      injection ew with ew
      simp only at ew
      subst ew
      refine PyProof.Rows.tail_any (ops := [.str z tz, .ref s4.heap.objs.size]) (typeIs_str _ _ _) F.slot_str_getitem.lookup ?_ (by with_unfolding_all rfl)
      refine wpAny_getItem_str_slice (l := none) (u := none) (st := some (-1, wt)) ⟨_, Heap.get?_push_size _ rfl, rfl, rfl⟩ rfl ?_
      show Made.post (if ((-1 : Int) == 1 && (PySem.slicePicked z none none (some (-1, wt))).length == z.length) = true then Made.val (.str z tz) else Made.str ⟨((PySem.slicePicked z none none (some (-1, wt))).filterMap (z.cps[·]?)).toArray⟩) _ _
      rw [if_neg (by simp), picked_rev]
      refine ⟨?_, .str _, t2.H, I5.tok _, ⟨_, rfl⟩, h.val o2 .str⟩
      show (z.cps.toList.reverse).toArray.size ≤ sizeLine
      rw [List.size_toArray, List.length_reverse, Array.length_toList]
      exact lim_le hl
    · exact h.elim
  · exact h.elim
end
end T
end S_TMisc
section S_TCall
set_option Elab.async false
set_option linter.all false
set_option maxRecDepth 100000
set_option maxHeartbeats 4000000
namespace T
open PySem L2
section
variable {X : Cx} {W : WX} {x : Str} {p pos : Pos} {f : Addr} {fd : FuncData} {ps : List Str} {k : Nat} {φ : Fn} {e : Expr} {es : List Expr} {ma mk : SemA}
theorem call_read {K : PySem.W.Frag} {mg : Str → Option Value} {σ : L2.St} {Q : VK} {t : Stt} {ds : List D} {vs : List V} (ot : Ok K mg t) (rv : RpL K mg t.Hf t.ρ vs ds) (h : RS K mg (RE K mg) W σ Q t (φ ds t.S)) : spF φ K mg vs t.H Q (fun c x H' => W c x σ H') := by
  refine ⟨t, ds, rfl, ot, rv, ?_⟩
  cases r : φ ds t.S with
  | ok d S2 => rw [r] at h; exact h
  | exc C fs S2 => rw [r] at h; exact fun c x t2 a b c2 d => h c x t2 a b c2 d
  | bad => rw [r] at h; exact h
theorem xCall' (F : FnOk X.prog X.w X.K X.mg X.base (L2.CX X.prog X.w) k f fd ps (spF φ X.K X.mg)) (hr : Room k X.A) (hg : Gl X x) (hm : X.mg x = some (.ref f)) (hk : PySem.W.keepIn X.K (.ref f) = true) (hb : Binds X.K fd ps []) (tk : Psg X W)
    (ha : PA X (e :: es) (tA X.K X.mg W ma)) (hdb : (x == ("__debug__" : Str)) = false) (he : starEach (e :: es) X.env = (false, eval e X.env) :: starEach es X.env) (hpl : (backTo pos (starEach es X.env)).any (·.1) = false) :
    PE X (.Call (.Name x p) (e :: es) [] pos) (tE X.K X.mg W (sCall φ ma)) :=
  (pe_callSD (E := fun σ c x H' => W c x σ H') F hr hg hm hk hb .nil tk ha hdb he hpl).mono fun σ H Q h => by
    obtain ⟨s, env, rfl, o, eo, h⟩ := h
    refine RS.go (R := RA X.K X.mg) h o eo fun vs t ds ot lt rv h => ?_
    rw [List.append_nil]
    exact call_read ot rv h
theorem xCall0 (F : FnOk X.prog X.w X.K X.mg X.base (L2.CX X.prog X.w) k f fd ps (spF φ X.K X.mg)) (hr : Room k X.A) (hg : Gl X x) (hm : X.mg x = some (.ref f)) (hk : PySem.W.keepIn X.K (.ref f) = true) (hb : Binds X.K fd ps []) (tk : Psg X W) (hdb : (x == ("__debug__" : Str)) = false) :
    PE X (.Call (.Name x p) [] [] pos) (tE X.K X.mg W (sCall φ aNil)) := by
  refine ⟨fun pins s σ H Q I h => ?_⟩
  obtain ⟨t, env, rfl, o, eo, h⟩ := h
  refine wpAny_Call_Name_kw (ld_glob I hg hm ?_ hdb)
  exact PySem.W.callWith_K0 I.kIn hk (run_fnSD (E := fun σ c x H' => W c x σ H') (us := []) (vs := []) F hr hb .nil (tk σ) I .nil (call_read o .nil h))
/-! keywords -/
def perm {α : Type} (π : List Nat) (l : List α) : List α := π.filterMap (l[·]?)
structure KwB (K : PySem.W.Frag) (fd : FuncData) (ps ks : List Str) (a b : Nat) (π : List Nat) : Prop where
  to : ∀ (s : Shared) (us ws : List Value), K.In s.heap → us.length = a → ws.length = b → BindsTo s fd ⟨us, ks.zip ws⟩ (ps.zip (perm π (us ++ ws)))
def sCallK (φ : Fn) (a b : Nat) (π : List Nat) (ma mk : SemA) : SemE := fun env S => (ma env S).bind fun ds S1 => (mk env S1).bind fun es S2 => if ds.length = a ∧ es.length = b then φ (perm π (ds ++ es)) S2 else .bad
theorem vals_perm {vs : List V} {us : List Value} (r : Vals vs us) : ∀ π : List Nat, Vals (perm π vs) (perm π us)
  | [] => .nil
  | i :: π => by
    unfold perm
    rw [List.filterMap_cons, List.filterMap_cons]
    cases e : vs[i]? with
    | none =>
      rw [r.none_of e]
      exact vals_perm r π
    | some v =>
      obtain ⟨u, h1, h2⟩ := r.get e
      rw [h1]
      exact .cons h2 (vals_perm r π)
theorem rp_perm {K : PySem.W.Frag} {mg : Str → Option Value} {Hf : Hp} {ρ : List Addr} {vs : List V} {ds : List D} (r : RpL K mg Hf ρ vs ds) : ∀ π : List Nat, RpL K mg Hf ρ (perm π vs) (perm π ds)
  | [] => .nil
  | i :: π => by
    unfold perm
    rw [List.filterMap_cons, List.filterMap_cons]
    cases e : vs[i]? with
    | none =>
      have : ds[i]? = none := by
        rw [List.getElem?_eq_none_iff] at e ⊢
        rw [← r.length]
        exact e
      rw [this]
      exact rp_perm r π
    | some v =>
      obtain ⟨u, h1, h2⟩ := r.get e
      rw [h1]
      exact .cons h2 (rp_perm r π)
theorem zKw0 : PK X [] (tA X.K X.mg W aNil) := ⟨fun ps pins s σ H Q I h => pk_nil.run ps pins s σ H Q I (by
  obtain ⟨t, env, rfl, o, eo, h⟩ := h
  exact h [] t o rfl (Le.refl t) .nil)⟩
theorem zKw {m : SemE} {nm : Option Str} {kpos : Pos} {kws : List Keyword} (ha : PE X e (tE X.K X.mg W m)) (hr : PK X kws (tA X.K X.mg W ma)) : PK X (⟨nm, e, kpos⟩ :: kws) (tA X.K X.mg W (aCons m ma)) := ⟨fun ps pins s σ H Q I h => (pk_cons ha hr).run ps pins s σ H Q I (by
  obtain ⟨t, env, rfl, o, eo, h⟩ := h
  refine RS.go (R := RE X.K X.mg) h o eo fun x t dx ot lt rx h => ?_
  refine RS.go (R := RA X.K X.mg) h ot (eo.le lt) fun y u dy ou lu ry h => ?_
  exact h (x :: y) u ou rfl (Le.refl u) (.cons (rx.le lu) ry))⟩
theorem run_kw {a b : Nat} {π : List Nat} {ks : List Str} {pins : List (Addr × Obj)} {σ : L2.St} {s : Shared} {Q : VK} {us ws : List Value} {vs zs : List V} {t : Stt} {ds es : List D} (F : FnOk X.prog X.w X.K X.mg X.base (L2.CX X.prog X.w) k f fd ps (spF φ X.K X.mg)) (hr : Room k X.A) (hb : KwB X.K fd ps ks a b π) (tk : Psg X W)
    (I : Inv X pins σ t.H s) (r : Vals vs us) (rz : Vals zs ws) (ot : Ok X.K X.mg t) (rv : RpL X.K X.mg t.Hf t.ρ vs ds) (rw' : RpL X.K X.mg t.Hf t.ρ zs es)
    (h : RS X.K X.mg (RE X.K X.mg) W σ Q t (if ds.length = a ∧ es.length = b then φ (perm π (ds ++ es)) t.S else .bad)) : wpAny (model X.prog X.w) X.A (call (.ref f) us (ks.zip ws)) (EP X pins σ Q) X.xe s := by
  split at h
  · rename_i hl
    have hl1 : us.length = a := by rw [← r.length, rv.length]; exact hl.1
    have hl2 : ws.length = b := by rw [← rz.length, rw'.length]; exact hl.2
    have sp := call_read (W := W) (σ := σ) (Q := Q) ot (rp_perm (rv.append rw') π) h
    refine wpAny_call (codeAny_mono (F.run X.A X.stack s t.H ⟨us, ks.zip ws⟩ (perm π (us ++ ws)) (perm π (vs ++ zs)) Q (fun c x H' => W c x σ H') hr I.env0 (hb.to s us ws I.kIn hl1 hl2) (vals_perm (r.append rz) π) sp) fun r z hq => ?_)
    cases r with
    | error e => exact tk σ pins t.H s e z I hq
    | ok fl =>
      cases fl with
      | ret u => exact I.after hq
      | next => exact False.elim hq
      | brk => exact False.elim hq
      | cont => exact False.elim hq
  · exact h.elim
theorem xCallK0 {b : Nat} {π : List Nat} {ks : List Str} {kws : List Keyword} (F : FnOk X.prog X.w X.K X.mg X.base (L2.CX X.prog X.w) k f fd ps (spF φ X.K X.mg)) (hr : Room k X.A) (hg : Gl X x) (hm : X.mg x = some (.ref f)) (hk : PySem.W.keepIn X.K (.ref f) = true) (hb : KwB X.K fd ps ks 0 b π) (tk : Psg X W)
    (hkw : PK X kws (tA X.K X.mg W mk)) (hall : (backToKw pos (keywordEach kws X.env)).all (·.1.isSome) = true) (hks : (backToKw pos (keywordEach kws X.env)).filterMap (·.1) = ks) (hdb : (x == ("__debug__" : Str)) = false)
    (hpl : ((backTo pos (starEach [] X.env)).any (·.1) || (backToKw pos (keywordEach kws X.env)).any (·.1.isNone)) = false) :
    PE X (.Call (.Name x p) [] kws pos) (tE X.K X.mg W (sCallK φ 0 b π aNil mk)) := by
  refine ⟨fun pins s σ H Q I h => ?_⟩
  obtain ⟨t, env, rfl, o, eo, h⟩ := h
  refine wpAny_Call_Name_kw (ld_glob I hg hm ?_ hdb)
  refine PySem.W.callWith_KW0 (h₀ := X.base) I.ok.mod.kin hk hall ?_ hpl
  have h2 : tA X.K X.mg W mk σ t.H (fun zs H2 => ∃ (u : Stt) (es : List D), u.H = H2 ∧ Ok X.K X.mg u ∧ RpL X.K X.mg u.Hf u.ρ zs es ∧ RS X.K X.mg (RE X.K X.mg) W σ Q u (if ([] : List D).length = 0 ∧ es.length = b then φ (perm π ([] ++ es)) u.S else .bad)) :=
    RS.go (R := RA X.K X.mg) (k := fun es S2 => if ([] : List D).length = 0 ∧ es.length = b then φ (perm π ([] ++ es)) S2 else .bad) h o eo fun zs u es ou lu rz h => ⟨u, es, rfl, ou, rz, h⟩
  refine thn (hkw.run pos pins s σ t.H _ I h2) fun ws s2 ⟨zs, H2, I2, rz, u, es, e1, ou, rw', h⟩ => ⟨I2.kIn, ?_⟩
  subst e1
  rw [hks]
  exact run_kw (us := []) (vs := []) (ds := []) F hr hb tk I2 .nil rz ou .nil rw' h
theorem xCallK {a b : Nat} {π : List Nat} {ks : List Str} {kws : List Keyword} (F : FnOk X.prog X.w X.K X.mg X.base (L2.CX X.prog X.w) k f fd ps (spF φ X.K X.mg)) (hr : Room k X.A) (hg : Gl X x) (hm : X.mg x = some (.ref f)) (hk : PySem.W.keepIn X.K (.ref f) = true) (hb : KwB X.K fd ps ks a b π) (tk : Psg X W)
    (ha : PA X (e :: es) (tA X.K X.mg W ma)) (hkw : PK X kws (tA X.K X.mg W mk)) (hall : (backToKw pos (keywordEach kws X.env)).all (·.1.isSome) = true) (hks : (backToKw pos (keywordEach kws X.env)).filterMap (·.1) = ks) (hdb : (x == ("__debug__" : Str)) = false) (he : starEach (e :: es) X.env = (false, eval e X.env) :: starEach es X.env)
    (hpl : ((backTo pos (starEach (e :: es) X.env)).any (·.1) || (backToKw pos (keywordEach kws X.env)).any (·.1.isNone)) = false) :
    PE X (.Call (.Name x p) (e :: es) kws pos) (tE X.K X.mg W (sCallK φ a b π ma mk)) := by
  refine ⟨fun pins s σ H Q I h => ?_⟩
  obtain ⟨t, env, rfl, o, eo, h⟩ := h
  refine wpAny_Call_Name_kw (ld_glob I hg hm ?_ hdb)
  have h1 : tA X.K X.mg W ma σ t.H (fun vs H1 => ∃ (u : Stt) (ds : List D), u.H = H1 ∧ Ok X.K X.mg u ∧ EnvOk X.K X.mg u σ env ∧ RpL X.K X.mg u.Hf u.ρ vs ds ∧ RS X.K X.mg (RE X.K X.mg) W σ Q u ((mk env u.S).bind fun es S2 => if ds.length = a ∧ es.length = b then φ (perm π (ds ++ es)) S2 else .bad)) :=
    RS.go (R := RA X.K X.mg) h o eo fun vs u ds ou lu rv h => ⟨u, ds, rfl, ou, eo.le lu, rv, h⟩
  refine PySem.W.callWith_KW (h₀ := X.base) I.ok.mod.kin hk hall (thn (ha.run pos pins s σ t.H _ I h1) fun us s1 ⟨vs, H1, I1, r, u, ds, e1, ou, eu, rv, h⟩ => ?_) hpl he
  subst e1
  have h2 : tA X.K X.mg W mk σ u.H (fun zs H2 => ∃ (u2 : Stt) (es : List D), u2.H = H2 ∧ Ok X.K X.mg u2 ∧ RpL X.K X.mg u2.Hf u2.ρ vs ds ∧ RpL X.K X.mg u2.Hf u2.ρ zs es ∧ RS X.K X.mg (RE X.K X.mg) W σ Q u2 (if ds.length = a ∧ es.length = b then φ (perm π (ds ++ es)) u2.S else .bad)) :=
    RS.go (R := RA X.K X.mg) h ou eu fun zs u2 es o2 l2 rz h => ⟨u2, es, rfl, o2, rv.le l2, rz, h⟩
  refine thn (hkw.run pos pins s1 σ u.H _ I1 h2) fun ws s2 ⟨zs, H2, I2, rz, u2, es, e2, o2, rv2, rw2, h⟩ => ⟨I2.kIn, ?_⟩
  subst e2
  rw [hks]
  exact run_kw F hr hb tk I2 r rz o2 rv2 rw2 h
/-- a module's constant -/
theorem xGlob {v : V} {u : Value} {d : D} (hg : Gl X x) (hm : X.mg x = some u) (r : RelV v u) (hd : (x == ("__debug__" : Str)) = false) (rp : ∀ Hf ρ, Rp X.K X.mg Hf ρ v d) : PE X (.Name x pos) (tE X.K X.mg W (sC d)) := xC (pe_glob hg hm r hd) rp
end
/-! ### a def's own cells go with it -/
mutual
def below (n : Nat) : D → Bool
  | .cell k => decide (k < n)
  | .tup ds => belowL n ds
  | .lst ds => belowL n ds
  | .rdl ds => belowL n ds
  | .dk kvs => belowK n kvs
  | .obj _ fs => belowF n fs
  | .exc _ fs => belowF n fs
  | _ => true
def belowL (n : Nat) : List D → Bool
  | [] => true
  | d :: ds => below n d && belowL n ds
def belowF (n : Nat) : List (Str × D) → Bool
  | [] => true
  | (_, d) :: ds => below n d && belowF n ds
def belowK (n : Nat) : List (Key × D) → Bool
  | [] => true
  | (_, d) :: ds => below n d && belowK n ds
end
def belowC (n : Nat) : Cel → Bool
  | .lv d => below n d
  | .fz d => below n d
section
variable {K : PySem.W.Frag} {mg : Str → Option Value} {Hf : Hp} {ρ : List Addr}
mutual
theorem Rp.cut (n : Nat) : ∀ (d : D) {v : V}, Rp K mg Hf ρ v d → below n d = true → Rp K mg Hf (ρ.take n) v d
  | .non, v, h, _ => by cases h; exact .non
  | .bl _, v, h, _ => by cases h; exact .bl
  | .int _, v, h, _ => by cases h; exact .int
  | .str _, v, h, _ => by cases h; exact .str
  | .tup ds, v, h, b => by cases h with | tup h1 h2 => exact .tup h1 (RpL.cut n ds h2 b)
  | .lst ds, v, h, b => by cases h with | lst h1 h2 => exact .lst h1 (RpL.cut n ds h2 b)
  | .rdl ds, v, h, b => by cases h with | rdl h1 h2 => exact .rdl h1 (RpL.cut n ds h2 b)
  | .dk ds, v, h, b => by cases h with | dk h1 h2 => exact .dk h1 (RpK.cut n ds h2 b)
  | .obj C ds, v, h, b => by cases h with | obj h1 h2 h3 => exact .obj h1 h2 (RpF.cut n ds h3 b)
  | .exc C ds, v, h, b => by cases h with | exc h1 h2 h3 h4 => exact .exc h1 h2 h3 (RpF.cut n ds h4 b)
  | .cell k, v, h, b => by
    cases h with
    | cell h1 =>
      refine .cell ?_
      have hk : k < n := by simpa [below] using b
      rw [List.getElem?_take_of_lt hk]
      exact h1
theorem RpL.cut (n : Nat) : ∀ (ds : List D) {vs : List V}, RpL K mg Hf ρ vs ds → belowL n ds = true → RpL K mg Hf (ρ.take n) vs ds
  | [], vs, h, _ => by cases h; exact .nil
  | d :: ds, vs, h, b => by
    simp only [belowL, Bool.and_eq_true] at b
    cases h with | cons h1 h2 => exact .cons (Rp.cut n d h1 b.1) (RpL.cut n ds h2 b.2)
theorem RpF.cut (n : Nat) : ∀ (ds : List (Str × D)) {vs : List (Str × V)}, RpF K mg Hf ρ vs ds → belowF n ds = true → RpF K mg Hf (ρ.take n) vs ds
  | [], vs, h, _ => by cases h; exact .nil
  | (_, d) :: ds, vs, h, b => by
    simp only [belowF, Bool.and_eq_true] at b
    cases h with | cons h1 h2 => exact .cons (Rp.cut n d h1 b.1) (RpF.cut n ds h2 b.2)
theorem RpK.cut (n : Nat) : ∀ (ds : List (Key × D)) {vs : List (Key × V)}, RpK K mg Hf ρ vs ds → belowK n ds = true → RpK K mg Hf (ρ.take n) vs ds
  | [], vs, h, _ => by cases h; exact .nil
  | (_, d) :: ds, vs, h, b => by
    simp only [belowK, Bool.and_eq_true] at b
    cases h with | cons h1 h2 => exact .cons (Rp.cut n d h1 b.1) (RpK.cut n ds h2 b.2)
end
theorem CelOk.cut {Hx : Hp} {a : Addr} {d : D} (n : Nat) (h : CelOk K mg Hf ρ Hx a d) (b : below n d = true) : CelOk K mg Hf (ρ.take n) Hx a d := by
  cases d with
  | lst ds => obtain ⟨vs, h1, h2⟩ := h; exact ⟨vs, h1, RpL.cut n ds h2 b⟩
  | dk ds => obtain ⟨vs, h1, h2⟩ := h; exact ⟨vs, h1, RpK.cut n ds h2 b⟩
  | obj C fs => obtain ⟨ca, dx, vs, h0, h1, h2⟩ := h; exact ⟨ca, dx, vs, h0, h1, RpF.cut n fs h2 b⟩
  | _ => exact h.elim
def Stt.cut (t : Stt) (n : Nat) : Stt := { t with ρ := t.ρ.take n, S := t.S.take n }
theorem Ok.cut {t : Stt} (ok : Ok K mg t) (n : Nat) (hb : (t.S.take n).all (belowC n) = true) : Ok K mg (t.cut n) := by
  have bel : ∀ m c, (t.S.take n)[m]? = some c → belowC n c = true := fun m c e => (List.all_eq_true.mp hb) c (List.mem_of_getElem? e)
  have lt : ∀ m (c : Cel), (t.S.take n)[m]? = some c → m < n ∧ t.S[m]? = some c := fun m c e => by
    have h1 : m < n := by
      have := (List.getElem?_eq_some_iff.mp e).1
      rw [List.length_take] at this
      omega
    rw [List.getElem?_take_of_lt h1] at e
    exact ⟨h1, e⟩
  refine ⟨by show (t.ρ.take n).length = (t.S.take n).length; rw [List.length_take, List.length_take, ok.len], List.Nodup.sublist (List.take_sublist _ _) ok.nd, ok.same, fun m d a e1 e2 => ?_, fun m d a e1 e2 => ?_⟩
  · obtain ⟨h1, h2⟩ := lt m _ e1
    have e2 : (t.ρ.take n)[m]? = some a := e2
    rw [List.getElem?_take_of_lt h1] at e2
    obtain ⟨q1, q2⟩ := ok.lv m d a h2 e2
    exact ⟨q1, q2.cut n (bel m _ e1)⟩
  · obtain ⟨h1, h2⟩ := lt m _ e1
    have e2 : (t.ρ.take n)[m]? = some a := e2
    rw [List.getElem?_take_of_lt h1] at e2
    exact (ok.fz m d a h2 e2).cut n (bel m _ e1)
theorem Le.cut {s t : Stt} (os : Ok K mg s) (l : Le s t) : Le s (t.cut s.S.length) := by
  obtain ⟨m, hm⟩ := l.pre
  have e : t.ρ.take s.S.length = s.ρ := by rw [hm, ← os.len, List.take_append_of_le_length (Nat.le_refl _), List.take_length]
  refine ⟨l.same, ⟨[], by show t.ρ.take s.S.length = s.ρ ++ []; rw [e, List.append_nil]⟩, fun b o e1 e2 e3 => ?_⟩
  obtain ⟨q1, q2, q3⟩ := l.prv b o e1 e2 e3
  exact ⟨q1, q2, fun w => q3 (List.mem_of_mem_take w)⟩
end
/-- hand back: a list of one's own is frozen, the rest of one's own cells is dropped -/
def finC (n : Nat) (d : D) (S : Sto) : Res D := match d with
  | .cell k => if k < n then (if (S.take n).all (belowC n) then .ok (.cell k) (S.take n) else .bad) else (match S[k]? with
    | some (.lv (.lst ds)) => if belowL n ds && (S.take n).all (belowC n) then .ok (.lst ds) (S.take n) else .bad
    | some (.fz (.lst ds)) => if belowL n ds && (S.take n).all (belowC n) then .ok (.lst ds) (S.take n) else .bad
    | _ => .bad)
  | d => if below n d && (S.take n).all (belowC n) then .ok d (S.take n) else .bad
def fnEndC (n : Nat) : ResS → Res D
  | .rt d S1 => finC n d S1
  | .nx _ S1 => finC n .non S1
  | .exc C fs _ S1 => if belowF n fs && (S1.take n).all (belowC n) then .exc C fs (S1.take n) else .bad
  | _ => .bad
/-- as fnOf, for a def with cells of its own -/
def fnCut (n N : Nat) (m : SemS) : Fn := fun ds S => if ds.length = n then fnEndC S.length (m (entry N ds) S) else .bad
/-- as fnOf, whatever is left of cells -/
def fnEndR : ResS → Res D
  | .rt d S1 => .ok d S1
  | .nx _ S1 => .ok .non S1
  | .exc C fs _ S1 => .exc C fs S1
  | _ => .bad
def fnRaw (n N : Nat) (m : SemS) : Fn := fun ds S => if ds.length = n then fnEndR (m (entry N ds) S) else .bad
section
variable {K : PySem.W.Frag} {mg : Str → Option Value}
theorem frz_same {t : Stt} {n : Nat} {S : Sto} (c : Cel) (k : Nat) (hk : n ≤ k) : (S.set k c).take n = S.take n := by
  rw [List.take_set, List.set_eq_of_length_le]
  rw [List.length_take]
  omega
theorem finC_ok {s t : Stt} {W : WX} {Q : VK} {v : V} {d : D} (os : Ok K mg s) (ot : Ok K mg t) (l : Le s t) (r : Rp K mg t.Hf t.ρ v d) (h : RS K mg (RE K mg) W [] Q s (finC s.S.length d t.S)) : Q v t.H := by
  unfold finC at h
  split at h
  · rename_i k
    split at h
    · rename_i hk
      split at h
      · rename_i hb
        exact h v (t.cut s.S.length) (ot.cut _ hb) rfl (Le.cut os l) (Rp.cut _ _ r (by simpa [below] using hk))
      · exact h.elim
    · rename_i hk
      split at h
      · rename_i ds e
        split at h
        · rename_i hb
          rw [Bool.and_eq_true] at hb
          obtain ⟨a, ws, rfl, h1, h2, r2⟩ := cell_lst ot r e
          have o2 := ot.frz e h1 h2
          have l2 := Le.frz (o := .lst ws) ot e h1
          have ec : ((t.frz k a (.lst ws) (.lst ds)).S).take s.S.length = t.S.take s.S.length := frz_same (t := t) _ k (by omega)
          have o3 := o2.cut s.S.length (by rw [ec]; exact hb.2)
          refine h (.ref a) ((t.frz k a (.lst ws) (.lst ds)).cut s.S.length) o3 ec (Le.cut os (l.trans l2)) ?_
          exact .lst upd_same (RpL.cut _ ds (r2.le l2) hb.1)
        · exact h.elim
      · rename_i ds e
        split at h
        · rename_i hb
          rw [Bool.and_eq_true] at hb
          cases r with
          | cell h1 =>
            obtain ⟨ws, g1, g2⟩ := ot.fz k _ _ e h1
            exact h _ (t.cut s.S.length) (ot.cut _ hb.2) rfl (Le.cut os l) (.lst g1 (RpL.cut _ ds g2 hb.1))
        · exact h.elim
      · exact h.elim
  · split at h
    · rename_i hb
      rw [Bool.and_eq_true] at hb
      exact h v (t.cut s.S.length) (ot.cut _ hb.2) rfl (Le.cut os l) (Rp.cut _ _ r hb.1)
    · exact h.elim
end
section
variable {P : Program} {w : World} {K : PySem.W.Frag} {mg : Str → Option Value} {base : Heap}
theorem fn_okC {x qual : Str} {params : Arguments} {body : List Stmt} {scope : Scope} {dvs : List V} {kws : List (Str × V)} {f : Addr} {fd : FuncData} {N ps : List Str} {k n : Nat} {m : SemS} (F : FunD K x qual params body scope dvs kws f fd) (S : FnScope N ps scope) (hn : ps.length = n)
    (hb : ∀ (cdv : Value) (A : Around) (outer : List PySem.Env) (s : Shared) (H : Hp) (E : XK), Room k (A.deeper (PyProof.Rows.envOfC qual scope s.heap.objs.size f cdv)) → Takes (cxOf (L2.CX P w) P w K mg base N qual scope f cdv A outer s H E) (WE E) →
      PSs (cxOf (L2.CX P w) P w K mg base N qual scope f cdv A outer s H E) body (tS K mg (WE E) m)) : FnOk P w K mg base (L2.CX P w) (k + 1) f fd ps (spF (fnCut n N.length m) K mg) := by
  refine FunD.ok F S (fun vs H Q E h => ?_) (fun cdv A outer s H vs Q E hr h => ⟨_, hb cdv A outer s H E hr (takes_of rfl rfl rfl rfl), ?_⟩)
  · obtain ⟨s, ds, _, _, r, e⟩ := h
    unfold fnCut at e
    split at e
    · rw [r.length, hn]; assumption
    · exact e.elim
  · obtain ⟨s, ds, rfl, o, r, h⟩ := h
    refine ⟨s, entry N.length ds, rfl, o, entry_ok r, ?_⟩
    unfold fnCut at h
    rw [if_pos (by split at h; assumption; exact h.elim)] at h
    cases q : m (entry N.length ds) s.S with
    | rt d S1 =>
      rw [q] at h
      intro v t ot et lt rv
      subst et
      exact finC_ok o ot lt rv h
    | nx env S1 =>
      rw [q] at h
      intro v t ot et lt rv
      subst et
      exact finC_ok o ot lt .non h
    | exc C fs env S1 =>
      rw [q] at h
      intro c x σ' t ot et lt eo xr
      subst et
      dsimp only [fnEndC] at h
      split at h
      · rename_i hb
        rw [Bool.and_eq_true] at hb
        obtain ⟨ca, vfs, h1, h2, h3, h4⟩ := xr
        exact h c x (t.cut s.S.length) (ot.cut _ hb.2) rfl (Le.cut o lt) ⟨ca, vfs, h1, h2, h3, RpF.cut _ fs h4 hb.1⟩
      · exact h.elim
    | bk env S1 => rw [q] at h; exact h.elim
    | ct env S1 => rw [q] at h; exact h.elim
    | bad => rw [q] at h; exact h.elim
theorem fn_okR {x qual : Str} {params : Arguments} {body : List Stmt} {scope : Scope} {dvs : List V} {kws : List (Str × V)} {f : Addr} {fd : FuncData} {N ps : List Str} {k n : Nat} {m : SemS} (F : FunD K x qual params body scope dvs kws f fd) (S : FnScope N ps scope) (hn : ps.length = n)
    (hb : ∀ (cdv : Value) (A : Around) (outer : List PySem.Env) (s : Shared) (H : Hp) (E : XK), Room k (A.deeper (PyProof.Rows.envOfC qual scope s.heap.objs.size f cdv)) → Takes (cxOf (L2.CX P w) P w K mg base N qual scope f cdv A outer s H E) (WE E) →
      PSs (cxOf (L2.CX P w) P w K mg base N qual scope f cdv A outer s H E) body (tS K mg (WE E) m)) : FnOk P w K mg base (L2.CX P w) (k + 1) f fd ps (spF (fnRaw n N.length m) K mg) := by
  refine FunD.ok F S (fun vs H Q E h => ?_) (fun cdv A outer s H vs Q E hr h => ⟨_, hb cdv A outer s H E hr (takes_of rfl rfl rfl rfl), ?_⟩)
  · obtain ⟨s, ds, _, _, r, e⟩ := h
    unfold fnRaw at e
    split at e
    · rw [r.length, hn]; assumption
    · exact e.elim
  · obtain ⟨s, ds, rfl, o, r, h⟩ := h
    refine ⟨s, entry N.length ds, rfl, o, entry_ok r, ?_⟩
    unfold fnRaw at h
    rw [if_pos (by split at h; assumption; exact h.elim)] at h
    cases q : m (entry N.length ds) s.S with
    | rt d S1 => rw [q] at h; exact h
    | nx env S1 => rw [q] at h; exact fun σ' t ot et lt _ => h .non t ot et lt .non
    | exc C fs env S1 => rw [q] at h; exact fun c x σ' t ot et lt eo xr => h c x t ot et lt xr
    | bk env S1 => rw [q] at h; exact h.elim
    | ct env S1 => rw [q] at h; exact h.elim
    | bad => rw [q] at h; exact h.elim
end
end T
end S_TCall
section S_TUse
set_option Elab.async false
set_option linter.all false
set_option maxRecDepth 100000
set_option maxHeartbeats 4000000
namespace T
open PySem L2
theorem u65 {k : Nat} {A : Around} (r : Room k A) : A.units + 65 < cLine := by have := r.un; omega
section
variable {X : Cx} {W : WX} {x : Str} {p pos : Pos} {e a b c : Expr} {es rest : List Expr} {m ma mb mc : SemE} {as ks : SemA}
theorem uV (i : Nat) (hN : X.N[i]? = some x := by rfl) (hv : Vis X.env.scope x := by first | exact Or.inl rfl | exact Or.inr (Or.inl rfl) | exact Or.inr (Or.inr rfl)) (hd : (x == ("__debug__" : Str)) = false := by decide) (hcd : (x == ("__classdict__" : Str)) = false := by decide) :
    PE X (.Name x pos) (tE X.K X.mg W (sV i)) := xV i hN hv hd hcd
theorem uCons (ha : PE X e (tE X.K X.mg W m)) (hr : PA X es (tA X.K X.mg W as)) (hs : starEach (e :: es) X.env = (false, eval e X.env) :: starEach es X.env := by rfl) : PA X (e :: es) (tA X.K X.mg W (aCons m as)) := zCons ha hr hs
theorem uAdd (ha : PE X a (tE X.K X.mg W ma)) (hb : PE X b (tE X.K X.mg W mb)) : PE X (.BinOp a .Add b pos) (tE X.K X.mg W (sOp fAdd ma mb)) := xOp opAdd fAdd_ok ha hb
theorem uSub (ha : PE X a (tE X.K X.mg W ma)) (hb : PE X b (tE X.K X.mg W mb)) : PE X (.BinOp a .Sub b pos) (tE X.K X.mg W (sOp fSub ma mb)) := xOp op_sub fSub_ok ha hb
theorem uMul (ha : PE X a (tE X.K X.mg W ma)) (hb : PE X b (tE X.K X.mg W mb)) : PE X (.BinOp a .Mult b pos) (tE X.K X.mg W (sOp fMulA ma mb)) := xOp opMulA fMulA_ok ha hb
theorem uDiv (ha : PE X a (tE X.K X.mg W ma)) (hb : PE X b (tE X.K X.mg W mb)) : PE X (.BinOp a .FloorDiv b pos) (tE X.K X.mg W (sOp fDiv ma mb)) := xOp op_fdiv fDiv_ok ha hb
theorem uMod (ha : PE X a (tE X.K X.mg W ma)) (hb : PE X b (tE X.K X.mg W mb)) : PE X (.BinOp a .Mod b pos) (tE X.K X.mg W (sOp fMod ma mb)) := xOp op_mod fMod_ok ha hb
theorem uPow (ha : PE X a (tE X.K X.mg W ma)) (hb : PE X b (tE X.K X.mg W mb)) : PE X (.BinOp a .Pow b pos) (tE X.K X.mg W (sOp fPow ma mb)) := xOp op_pow fPow_ok ha hb
theorem uEq {k : Nat} (hr : Room k X.A) (ha : PE X a (tE X.K X.mg W ma)) (hb : PE X b (tE X.K X.mg W mb)) : PE X (.Compare a [.Eq] [b] pos) (tE X.K X.mg W (sOp fEq ma mb)) := xCmp (opEq hr.units) fEq_ok (nomark _) ha hb
theorem uNe {k : Nat} (hr : Room k X.A) (ha : PE X a (tE X.K X.mg W ma)) (hb : PE X b (tE X.K X.mg W mb)) : PE X (.Compare a [.NotEq] [b] pos) (tE X.K X.mg W (sOp fNe ma mb)) := xCmp (opNe hr.units) fNe_ok (nomark _) ha hb
theorem uLt (ha : PE X a (tE X.K X.mg W ma)) (hb : PE X b (tE X.K X.mg W mb)) : PE X (.Compare a [.Lt] [b] pos) (tE X.K X.mg W (sOp fLt ma mb)) := xCmp opLt fLt_ok (nomark _) ha hb
theorem uLe (ha : PE X a (tE X.K X.mg W ma)) (hb : PE X b (tE X.K X.mg W mb)) : PE X (.Compare a [.LtE] [b] pos) (tE X.K X.mg W (sOp fLe ma mb)) := xCmp opLe fLe_ok (nomark _) ha hb
theorem uGt (ha : PE X a (tE X.K X.mg W ma)) (hb : PE X b (tE X.K X.mg W mb)) : PE X (.Compare a [.Gt] [b] pos) (tE X.K X.mg W (sOp fGt ma mb)) := xCmp opGt fGt_ok (nomark _) ha hb
theorem uGe (ha : PE X a (tE X.K X.mg W ma)) (hb : PE X b (tE X.K X.mg W mb)) : PE X (.Compare a [.GtE] [b] pos) (tE X.K X.mg W (sOp fGe ma mb)) := xCmp opGe fGe_ok (nomark _) ha hb
theorem uIsN (ha : PE X a (tE X.K X.mg W ma)) (hb : PE X b (tE X.K X.mg W mb)) : PE X (.Compare a [.Is] [b] pos) (tE X.K X.mg W (sOp fIsN ma mb)) := xCmp op_isN fIsN_ok (nomark _) ha hb
theorem uNotN (ha : PE X a (tE X.K X.mg W ma)) (hb : PE X b (tE X.K X.mg W mb)) : PE X (.Compare a [.IsNot] [b] pos) (tE X.K X.mg W (sOp fNotN ma mb)) := xCmp op_notN fNotN_ok (nomark _) ha hb
theorem uIn {k : Nat} (hr : Room k X.A) (ha : PE X a (tE X.K X.mg W ma)) (hb : PE X b (tE X.K X.mg W mb)) (hm : behindInMarks .In b = false := by with_unfolding_all rfl) : PE X (.Compare a [.In] [b] pos) (tE X.K X.mg W (sOp fIn ma mb)) := xCmp (opIn (u65 hr)) fIn_ok hm ha hb
theorem uNotIn {k : Nat} (hr : Room k X.A) (ha : PE X a (tE X.K X.mg W ma)) (hb : PE X b (tE X.K X.mg W mb)) (hm : behindInMarks .NotIn b = false := by with_unfolding_all rfl) : PE X (.Compare a [.NotIn] [b] pos) (tE X.K X.mg W (sOp fNotIn ma mb)) := xCmp (opNotIn (u65 hr)) fNotIn_ok hm ha hb
/-! as tests -/
theorem tEq_ {k : Nat} (hr : Room k X.A) (ha : PE X a (tE X.K X.mg W ma)) (hb : PE X b (tE X.K X.mg W mb)) : PT X (.Compare a [.Eq] [b] pos) (tT X.K X.mg W (isB (sOp fEq ma mb))) := wCmp (opEq hr.units) fEq_ok (nomark _) ha hb
theorem tNe_ {k : Nat} (hr : Room k X.A) (ha : PE X a (tE X.K X.mg W ma)) (hb : PE X b (tE X.K X.mg W mb)) : PT X (.Compare a [.NotEq] [b] pos) (tT X.K X.mg W (isB (sOp fNe ma mb))) := wCmp (opNe hr.units) fNe_ok (nomark _) ha hb
theorem tLt_ (ha : PE X a (tE X.K X.mg W ma)) (hb : PE X b (tE X.K X.mg W mb)) : PT X (.Compare a [.Lt] [b] pos) (tT X.K X.mg W (isB (sOp fLt ma mb))) := wCmp opLt fLt_ok (nomark _) ha hb
theorem tLe_ (ha : PE X a (tE X.K X.mg W ma)) (hb : PE X b (tE X.K X.mg W mb)) : PT X (.Compare a [.LtE] [b] pos) (tT X.K X.mg W (isB (sOp fLe ma mb))) := wCmp opLe fLe_ok (nomark _) ha hb
theorem tGt_ (ha : PE X a (tE X.K X.mg W ma)) (hb : PE X b (tE X.K X.mg W mb)) : PT X (.Compare a [.Gt] [b] pos) (tT X.K X.mg W (isB (sOp fGt ma mb))) := wCmp opGt fGt_ok (nomark _) ha hb
theorem tGe_ (ha : PE X a (tE X.K X.mg W ma)) (hb : PE X b (tE X.K X.mg W mb)) : PT X (.Compare a [.GtE] [b] pos) (tT X.K X.mg W (isB (sOp fGe ma mb))) := wCmp opGe fGe_ok (nomark _) ha hb
theorem tIsN_ (ha : PE X a (tE X.K X.mg W ma)) (hb : PE X b (tE X.K X.mg W mb)) : PT X (.Compare a [.Is] [b] pos) (tT X.K X.mg W (isB (sOp fIsN ma mb))) := wCmp op_isN fIsN_ok (nomark _) ha hb
theorem tNotN_ (ha : PE X a (tE X.K X.mg W ma)) (hb : PE X b (tE X.K X.mg W mb)) : PT X (.Compare a [.IsNot] [b] pos) (tT X.K X.mg W (isB (sOp fNotN ma mb))) := wCmp op_notN fNotN_ok (nomark _) ha hb
theorem tIn_ {k : Nat} (hr : Room k X.A) (ha : PE X a (tE X.K X.mg W ma)) (hb : PE X b (tE X.K X.mg W mb)) (hm : behindInMarks .In b = false := by with_unfolding_all rfl) : PT X (.Compare a [.In] [b] pos) (tT X.K X.mg W (isB (sOp fIn ma mb))) := wCmp (opIn (u65 hr)) fIn_ok hm ha hb
theorem tNotIn_ {k : Nat} (hr : Room k X.A) (ha : PE X a (tE X.K X.mg W ma)) (hb : PE X b (tE X.K X.mg W mb)) (hm : behindInMarks .NotIn b = false := by with_unfolding_all rfl) : PT X (.Compare a [.NotIn] [b] pos) (tT X.K X.mg W (isB (sOp fNotIn ma mb))) := wCmp (opNotIn (u65 hr)) fNotIn_ok hm ha hb
theorem tVal (he : PE X a (tE X.K X.mg W m)) (hw : ∀ whole, isTrue a X.env whole = (do let v ← whole; standAt a.pos; holding [v] (truthy v)) := by intro _; rfl) : PT X a (tT X.K X.mg W (isB m)) := wVal he hw
theorem uLeLe (ha : PE X a (tE X.K X.mg W ma)) (hb : PE X b (tE X.K X.mg W mb)) (hc : PE X c (tE X.K X.mg W mc)) (hm : lastMarks [.LtE, .LtE] [b, c] = false := by with_unfolding_all rfl) : PE X (.Compare a [.LtE, .LtE] [b, c] pos) (tE X.K X.mg W (sChain fLe fLe ma mb mc)) := xChain opLe fLe_ok opLe fLe_ok hm ha hb hc
theorem uLtLt (ha : PE X a (tE X.K X.mg W ma)) (hb : PE X b (tE X.K X.mg W mb)) (hc : PE X c (tE X.K X.mg W mc)) (hm : lastMarks [.Lt, .Lt] [b, c] = false := by with_unfolding_all rfl) : PE X (.Compare a [.Lt, .Lt] [b, c] pos) (tE X.K X.mg W (sChain fLt fLt ma mb mc)) := xChain opLt fLt_ok opLt fLt_ok hm ha hb hc
theorem tLeLe_ (ha : PE X a (tE X.K X.mg W ma)) (hb : PE X b (tE X.K X.mg W mb)) (hc : PE X c (tE X.K X.mg W mc)) (hm : lastMarks [.LtE, .LtE] [b, c] = false := by with_unfolding_all rfl) : PT X (.Compare a [.LtE, .LtE] [b, c] pos) (tT X.K X.mg W (isB (sChain fLe fLe ma mb mc))) := wChain opLe fLe_ok opLe fLe_ok hm ha hb hc
theorem tLtLt_ (ha : PE X a (tE X.K X.mg W ma)) (hb : PE X b (tE X.K X.mg W mb)) (hc : PE X c (tE X.K X.mg W mc)) (hm : lastMarks [.Lt, .Lt] [b, c] = false := by with_unfolding_all rfl) : PT X (.Compare a [.Lt, .Lt] [b, c] pos) (tT X.K X.mg W (isB (sChain fLt fLt ma mb mc))) := wChain opLt fLt_ok opLt fLt_ok hm ha hb hc
theorem uIx (ha : PE X a (tE X.K X.mg W ma)) (hb : PE X b (tE X.K X.mg W mb)) (hs : PlainIx b := by exact fun _ _ => rfl) : PE X (.Subscript a b pos) (tE X.K X.mg W (sOp fIx ma mb)) := xIx ha hb hs
/-! built-ins -/
theorem uLen (hm : X.mg "len" = none) (ha : PA X [e] (tA X.K X.mg W as)) (hg : Gl X "len" := by rfl) (he : starEach [e] X.env = (false, eval e X.env) :: starEach [] X.env := by rfl) (hpl : (backTo pos (starEach [] X.env)).any (·.1) = false := by rfl) : PE X (.Call (.Name "len" p) [e] [] pos) (tE X.K X.mg W (sF bLen as)) :=
  xFB call_len bLen_ok PySem.boot_len (by decide) (by decide) hg hm ha he hpl
theorem uAbs (hm : X.mg "abs" = none) (ha : PA X [e] (tA X.K X.mg W as)) (hg : Gl X "abs" := by rfl) (he : starEach [e] X.env = (false, eval e X.env) :: starEach [] X.env := by rfl) (hpl : (backTo pos (starEach [] X.env)).any (·.1) = false := by rfl) : PE X (.Call (.Name "abs" p) [e] [] pos) (tE X.K X.mg W (sF bAbs as)) :=
  xFB call_abs bAbs_ok (by decide +kernel) (by decide) (by decide) hg hm ha he hpl
theorem uAll (hm : X.mg "all" = none) (ha : PA X [e] (tA X.K X.mg W as)) (hc : X.calm = true := by rfl) (hg : Gl X "all" := by rfl) (he : starEach [e] X.env = (false, eval e X.env) :: starEach [] X.env := by rfl) (hpl : (backTo pos (starEach [] X.env)).any (·.1) = false := by rfl) : PE X (.Call (.Name "all" p) [e] [] pos) (tE X.K X.mg W (sF bAll as)) :=
  xFB (cr_all hc) bAll_ok (by decide +kernel) (by decide) (by decide) hg hm ha he hpl
theorem uAny (hm : X.mg "any" = none) (ha : PA X [e] (tA X.K X.mg W as)) (hc : X.calm = true := by rfl) (hg : Gl X "any" := by rfl) (he : starEach [e] X.env = (false, eval e X.env) :: starEach [] X.env := by rfl) (hpl : (backTo pos (starEach [] X.env)).any (·.1) = false := by rfl) : PE X (.Call (.Name "any" p) [e] [] pos) (tE X.K X.mg W (sF bAny as)) :=
  xFB (cr_any hc) bAny_ok (by decide +kernel) (by decide) (by decide) hg hm ha he hpl
theorem uMin2 (hm : X.mg "min" = none) (ha : PA X [e, a] (tA X.K X.mg W as)) (hc : X.calm = true := by rfl) (hg : Gl X "min" := by rfl) (he : starEach [e, a] X.env = (false, eval e X.env) :: starEach [a] X.env := by rfl) (hpl : (backTo pos (starEach [a] X.env)).any (·.1) = false := by rfl) : PE X (.Call (.Name "min" p) [e, a] [] pos) (tE X.K X.mg W (sF bMin2 as)) :=
  xFB (call_min2 hc) bMin2_ok (by decide +kernel) (by decide) (by decide) hg hm ha he hpl
theorem uMax2 (hm : X.mg "max" = none) (ha : PA X [e, a] (tA X.K X.mg W as)) (hc : X.calm = true := by rfl) (hg : Gl X "max" := by rfl) (he : starEach [e, a] X.env = (false, eval e X.env) :: starEach [a] X.env := by rfl) (hpl : (backTo pos (starEach [a] X.env)).any (·.1) = false := by rfl) : PE X (.Call (.Name "max" p) [e, a] [] pos) (tE X.K X.mg W (sF bMax2 as)) :=
  xFB (call_max2 hc) bMax2_ok (by decide +kernel) (by decide) (by decide) hg hm ha he hpl
theorem uSortS (hm : X.mg "sorted" = none) (ha : PA X [e] (tA X.K X.mg W as)) (hg : Gl X "sorted" := by rfl) (he : starEach [e] X.env = (false, eval e X.env) :: starEach [] X.env := by rfl) (hpl : (backTo pos (starEach [] X.env)).any (·.1) = false := by rfl) : PE X (.Call (.Name "sorted" p) [e] [] pos) (tE X.K X.mg W (sF bSortS as)) :=
  xFB cr_sortedS bSortS_ok (by decide +kernel) (by decide) (by decide) hg hm ha he hpl
theorem uInt (hm : X.mg "int" = none) (ha : PA X [e] (tA X.K X.mg W as)) (hg : Gl X "int" := by rfl) (he : starEach [e] X.env = (false, eval e X.env) :: starEach [] X.env := by rfl) (hpl : (backTo pos (starEach [] X.env)).any (·.1) = false := by rfl) : PE X (.Call (.Name "int" p) [e] [] pos) (tE X.K X.mg W (sF bInt as)) :=
  xFT (CallR.or call_int1 call_int_str) bInt_ok (by decide +kernel) (by decide) (by decide) hg hm ha he hpl
theorem uStr (hm : X.mg "str" = none) (ha : PA X [e] (tA X.K X.mg W as)) (hg : Gl X "str" := by rfl) (he : starEach [e] X.env = (false, eval e X.env) :: starEach [] X.env := by rfl) (hpl : (backTo pos (starEach [] X.env)).any (·.1) = false := by rfl) : PE X (.Call (.Name "str" p) [e] [] pos) (tE X.K X.mg W (sF bStr as)) :=
  xFT call_str_int bStr_ok (by decide +kernel) (by decide) (by decide) hg hm ha he hpl
theorem uTuple (hm : X.mg "tuple" = none) (ha : PA X [e] (tA X.K X.mg W as)) (hg : Gl X "tuple" := by rfl) (he : starEach [e] X.env = (false, eval e X.env) :: starEach [] X.env := by rfl) (hpl : (backTo pos (starEach [] X.env)).any (·.1) = false := by rfl) : PE X (.Call (.Name "tuple" p) [e] [] pos) (tE X.K X.mg W (sF bTuple as)) :=
  xFT call_tuple_of bTuple_ok (by decide +kernel) (by decide) (by decide) hg hm ha he hpl
theorem uList (hm : X.mg "list" = none) (ha : PA X [e] (tA X.K X.mg W as)) (hc : X.calm = true := by rfl) (hg : Gl X "list" := by rfl) (he : starEach [e] X.env = (false, eval e X.env) :: starEach [] X.env := by rfl) (hpl : (backTo pos (starEach [] X.env)).any (·.1) = false := by rfl) : PE X (.Call (.Name "list" p) [e] [] pos) (tE X.K X.mg W (sF bListA as)) :=
  xFT (callListA hc) bListA_ok (by decide +kernel) (by decide) (by decide) hg hm ha he hpl
theorem uListC (hm : X.mg "list" = none) (ha : PA X [e] (tA X.K X.mg W as)) (hc : X.calm = true := by rfl) (hg : Gl X "list" := by rfl) (he : starEach [e] X.env = (false, eval e X.env) :: starEach [] X.env := by rfl) (hpl : (backTo pos (starEach [] X.env)).any (·.1) = false := by rfl) : PE X (.Call (.Name "list" p) [e] [] pos) (tE X.K X.mg W (sF bListAC as)) :=
  xFT (callListA hc) bListAC_ok (by decide +kernel) (by decide) (by decide) hg hm ha he hpl
end
end T
end S_TUse
section S_TUse2
set_option Elab.async false
set_option linter.all false
set_option maxRecDepth 100000
set_option maxHeartbeats 4000000
namespace T
open PySem L2
/-- a def that may be called by its name -/
structure Cal (P : Program) (w : World) (K : PySem.W.Frag) (mg : Str → Option Value) (base : Heap) (x : Str) (st : Stmt) (k : Nat) (ps : List Str) (φ : Fn) : Prop where
  ex : ∃ (f : Addr) (fd : FuncData), FunD K x x (defArgs st) (defBody st) (defScope st) [] [] f fd ∧ FnOk P w K mg base (L2.CX P w) k f fd ps (spF φ K mg) ∧ mg x = some (.ref f) ∧ Binds K fd ps []
section
variable {X : Cx} {W : WX} {x : Str} {p pos cpos apos : Pos} {e a b c ob : Expr} {es rest : List Expr} {m ma mb mc : SemE} {as ks : SemA} {tc : SemT}
theorem uCall {st : Stmt} {k j : Nat} {ps : List Str} {φ : Fn} (c : Cal X.prog X.w X.K X.mg X.base x st k ps φ) (hr : Room j X.A) (tk : Psg X W) (ha : PA X (e :: es) (tA X.K X.mg W as)) (hk : k ≤ j := by decide) (hg : Gl X x := by rfl) (hdb : (x == ("__debug__" : Str)) = false := by decide)
    (he : starEach (e :: es) X.env = (false, eval e X.env) :: starEach es X.env := by rfl) (hpl : (backTo pos (starEach es X.env)).any (·.1) = false := by rfl) : PE X (.Call (.Name x p) (e :: es) [] pos) (tE X.K X.mg W (sCall φ as)) := by
  obtain ⟨f, fd, F, G, hm, hb⟩ := c.ex
  exact xCall' G (hr.mono hk) hg hm F.kp hb tk ha hdb he hpl
theorem uCall0 {st : Stmt} {k j : Nat} {ps : List Str} {φ : Fn} (c : Cal X.prog X.w X.K X.mg X.base x st k ps φ) (hr : Room j X.A) (tk : Psg X W) (hk : k ≤ j := by decide) (hg : Gl X x := by rfl) (hdb : (x == ("__debug__" : Str)) = false := by decide) : PE X (.Call (.Name x p) [] [] pos) (tE X.K X.mg W (sCall φ aNil)) := by
  obtain ⟨f, fd, F, G, hm, hb⟩ := c.ex
  exact xCall0 G (hr.mono hk) hg hm F.kp hb tk hdb
/-- f(k = v, ..): π tells where each parameter stands -/
theorem uCallK0 {st : Stmt} {k j b : Nat} {ps : List Str} {φ : Fn} {kws : List Keyword} (π : List Nat) (kn : List Str) (c : Cal X.prog X.w X.K X.mg X.base x st k ps φ) (hr : Room j X.A) (tk : Psg X W)
    (hb : ∀ (kV doc pm : Value) (an : Option Addr) (cdv ct : Value) (ws : List Value), ws.length = b → bindArgs (PySem.W.fnOf x x (defArgs st) (defBody st) (defScope st) .none kV doc pm an cdv ct) ⟨[], kn.zip ws⟩ = pure (ps.zip (perm π ws)))
    (hkw : PK X kws (tA X.K X.mg W ks)) (hall : (backToKw pos (keywordEach kws X.env)).all (·.1.isSome) = true := by rfl) (hks : (backToKw pos (keywordEach kws X.env)).filterMap (·.1) = kn := by rfl) (hk : k ≤ j := by decide) (hg : Gl X x := by rfl) (hdb : (x == ("__debug__" : Str)) = false := by decide)
    (hpl : ((backTo pos (starEach [] X.env)).any (·.1) || (backToKw pos (keywordEach kws X.env)).any (·.1.isNone)) = false := by rfl) : PE X (.Call (.Name x p) [] kws pos) (tE X.K X.mg W (sCallK φ 0 b π aNil ks)) := by
  obtain ⟨f, fd, F, G, hm, _⟩ := c.ex
  have B : KwB X.K fd ps kn 0 b π := by
    obtain ⟨oc, od, dV, kV, doc, pm, an, cdv, ct, osl, rfl, lk, hcd, hD, _⟩ := F.ex
    rcases hD with ⟨_, rfl⟩ | ⟨e, _⟩
    case inr => exact absurd rfl e
    refine ⟨fun s us ws _ h1 h2 => ?_⟩
    have : us = [] := List.length_eq_zero_iff.mp h1
    subst this
    exact .of_eq (hb kV doc pm an cdv ct ws h2)
  exact xCallK0 G (hr.mono hk) hg hm F.kp B tk hkw hall hks hdb hpl
theorem uIsi {t : Str} {n : String} {pt : Pos} {xt : Str → String → Option Bool} (hx : XTab X.K X.mg xt) (hm : X.mg "isinstance" = none) (hmt : X.mg t = none) (he : PE X e (tE X.K X.mg W m)) (hg : Gl X "isinstance" := by rfl) (hgt : Gl X t := by rfl) (hvt : bootBuiltins t = some (.type n) := by decide +kernel) (hnt : t ≠ "__name__" := by decide) (hdt : (t == ("__debug__" : Str)) = false := by decide)
    (hs : starEach [e, .Name t pt] X.env = (false, eval e X.env) :: starEach [.Name t pt] X.env := by rfl) (hs2 : starEach [.Name t pt] X.env = (false, eval (.Name t pt) X.env) :: starEach [] X.env := by rfl) (hpl : (backTo pos (starEach [.Name t pt] X.env)).any (·.1) = false := by rfl) :
    PE X (.Call (.Name "isinstance" p) [e, .Name t pt] [] pos) (tE X.K X.mg W (sIsi xt n m)) := xIsi hx hg hm hgt hmt hvt hnt hdt he hs hs2 hpl
theorem uIsi2 {t t2 : Str} {n n2 : String} {pt pt2 ptt : Pos} {kk : Nat} (hm : X.mg "isinstance" = none) (hmt : X.mg t = none) (hmt2 : X.mg t2 = none) (he : PE X e (tE X.K X.mg W m)) (hg : Gl X "isinstance" := by rfl) (hgt : Gl X t := by rfl) (hvt : bootBuiltins t = some (.type n) := by decide +kernel) (hnt : t ≠ "__name__" := by decide) (hdt : (t == ("__debug__" : Str)) = false := by decide)
    (hgt2 : Gl X t2 := by rfl) (hvt2 : bootBuiltins t2 = some (.type n2) := by decide +kernel) (hnt2 : t2 ≠ "__name__" := by decide) (hdt2 : (t2 == ("__debug__" : Str)) = false := by decide)
    (hs : starEach [e, .Tuple [.Name t pt, .Name t2 pt2] kk ptt] X.env = (false, eval e X.env) :: starEach [.Tuple [.Name t pt, .Name t2 pt2] kk ptt] X.env := by rfl) (hs2 : starEach [.Tuple [.Name t pt, .Name t2 pt2] kk ptt] X.env = (false, eval (.Tuple [.Name t pt, .Name t2 pt2] kk ptt) X.env) :: starEach [] X.env := by rfl)
    (hs3 : starEach [.Name t pt, .Name t2 pt2] X.env = (false, eval (.Name t pt) X.env) :: starEach [.Name t2 pt2] X.env := by rfl) (hs4 : starEach [.Name t2 pt2] X.env = (false, eval (.Name t2 pt2) X.env) :: starEach [] X.env := by rfl)
    (hpl : (backTo pos (starEach [.Tuple [.Name t pt, .Name t2 pt2] kk ptt] X.env)).any (·.1) = false := by rfl) :
    PE X (.Call (.Name "isinstance" p) [e, .Tuple [.Name t pt, .Name t2 pt2] kk ptt] [] pos) (tE X.K X.mg W (sIsi2 n n2 m)) := xIsi2 hg hm hgt hmt hvt hnt hdt hgt2 hmt2 hvt2 hnt2 hdt2 he hs hs2 hs3 hs4 hpl
theorem uStrC {z : Str} (hm : ∃ t, X.mg x = some (.str z t)) (hg : Gl X x := by rfl) (hd : (x == ("__debug__" : Str)) = false := by decide) : PE X (.Name x pos) (tE X.K X.mg W (sC (.str z))) := by
  obtain ⟨t, hm⟩ := hm
  exact xGlob (v := .str z) hg hm ⟨t, rfl⟩ hd fun _ _ => .str
theorem uIntC {z : Int} (hm : ∃ t, X.mg x = some (.int z t)) (hg : Gl X x := by rfl) (hd : (x == ("__debug__" : Str)) = false := by decide) : PE X (.Name x pos) (tE X.K X.mg W (sC (.int z))) := by
  obtain ⟨t, hm⟩ := hm
  exact xGlob (v := .int z) hg hm ⟨t, rfl⟩ hd fun _ _ => .int
/-! methods -/
theorem uMeth {name : Str} {Ty id : String} {r : V → List V → Hp → VK → Prop} {f : FnM} (pa : PlainAttrs Ty) (slot : Slot Ty name id) (hty : typeOf (.builtin id) = pure (.type "method_descriptor")) (hm : MtR X id r) (hf : MtS X.K X.mg r f) (ho : PE X ob (tE X.K X.mg W m)) (ha : PA X (e :: es) (tA X.K X.mg W as))
    (hbase : attributeBase ob name X.env (eval ob X.env) = eval ob X.env := by rfl)
    (hfew : ((backTo cpos (starEach (e :: es) X.env)).all (fun x => !x.1) && (backToKw cpos (keywordEach [] X.env)).all (fun x => x.1.isSome) && decide ((e :: es).length + ([] : List Keyword).length + (if ([] : List Keyword).isEmpty then 0 else 1) < 30)) = true := by rfl)
    (hline : (apos.endLine == cpos.line) = true := by rfl) (hs : starEach (e :: es) X.env = (false, eval e X.env) :: starEach es X.env := by rfl) (hplain : (backTo cpos (starEach es X.env)).any (·.1) = false := by rfl) :
    PE X (.Call (.Attribute ob name apos) (e :: es) [] cpos) (tE X.K X.mg W (sM Ty f m as)) := xM pa slot hty hm hf ho ha hbase hfew hline hs hplain
theorem uMeth0 {name : Str} {Ty id : String} {r : V → List V → Hp → VK → Prop} {f : FnM} (pa : PlainAttrs Ty) (slot : Slot Ty name id) (hty : typeOf (.builtin id) = pure (.type "method_descriptor")) (hm : MtR X id r) (hf : MtS X.K X.mg r f) (ho : PE X ob (tE X.K X.mg W m)) (hbase : attributeBase ob name X.env (eval ob X.env) = eval ob X.env := by rfl) (hline : (apos.endLine == cpos.line) = true := by rfl) :
    PE X (.Call (.Attribute ob name apos) [] [] cpos) (tE X.K X.mg W (sM Ty f m aNil)) := xM0 pa slot hty hm hf ho hbase hline
/-! statements -/
theorem uSet (i : Nat) {pos' : Pos} (hN : X.N.Nodup) (he : PE X e (tE X.K X.mg W m)) (hi : X.N[i]? = some x := by rfl) (hx : Loc X.env.scope x := by first | exact Or.inl rfl | exact Or.inr rfl) (hs : swapsWith e (some (.Name x pos')) pos.line X.env = pure false := by rfl) (hf : X.fn x = true ∨ X.env.scope.names.lookup x = some .local := by first | exact Or.inl rfl | exact Or.inr rfl) :
    PS X (.Assign [.Name x pos'] e pos) (tS X.K X.mg W (sAsg m (gN i))) := ySet hN hi hx he hs hf
theorem uDo (he : PE X e (tE X.K X.mg W m)) (hs : swapsWith e none pos.line X.env = pure false := by rfl) : PS X (.Expr e pos) (tS X.K X.mg W (sDo m)) := yDo he hs
theorem uAsg {tg : Expr} (t : Tg) (he : PE X e (tE X.K X.mg W m)) (hg : PG X tg (gT X.K t)) (hs : swapsWithSole [tg] e pos.line X.env = pure false := by rfl) (hw : swappedStores [tg] e X.env = pure none := by rfl) (h1 : (assignEach [tg] X.env).map (·.2) = [assign tg X.env] := by rfl) :
    PS X (.Assign [tg] e pos) (tS X.K X.mg W (sAsg m (gTg t))) := yAsg he hg hs hw h1
theorem uPar (i j : Nat) {y : Str} {px py pt : Pos} {kt k2 pt2} (hN : X.N.Nodup) (ha : PA X [a, b] (tA X.K X.mg W as)) (hc : X.calm = true := by rfl) (hi : X.N[i]? = some x := by rfl) (hj : X.N[j]? = some y := by rfl) (hij : i ≠ j := by decide)
    (hx : X.env.scope.names.lookup x = some .local := by rfl) (hy : X.env.scope.names.lookup y = some .local := by rfl)
    (hw : swappedStores [.Tuple [.Name x px, .Name y py] kt pt] (.Tuple [a, b] k2 pt2) X.env = pure (some [x, y]) := by rfl) (hs : swapsWithSole [.Tuple [.Name x px, .Name y py] kt pt] (.Tuple [a, b] k2 pt2) pos.line X.env = pure false := by rfl) :
    PS X (.Assign [.Tuple [.Name x px, .Name y py] kt pt] (.Tuple [a, b] k2 pt2) pos) (tS X.K X.mg W (sAsg (sTup as) (gTg (.tp [i, j])))) := yPar hc hN hi hj hij hx hy ha hw hs
theorem uPut {o i : Expr} {mo mi : SemE} {p2 : Pos} (he : PE X e (tE X.K X.mg W m)) (ho : PE X o (tE X.K X.mg W mo)) (hi : PE X i (tE X.K X.mg W mi)) (hs : swapsWithSole [.Subscript o i p2] e pos.line X.env = pure false := by rfl) (hw : swappedStores [.Subscript o i p2] e X.env = pure none := by rfl)
    (h1 : (assignEach [.Subscript o i p2] X.env).map (·.2) = [assign (.Subscript o i p2) X.env] := by rfl)
    (ha : ∀ v, assign (.Subscript o i p2) X.env v = (do
      let ov ← holding [v] (eval o X.env)
      let iv ← holding [v, ov] (eval i X.env)
      standAt p2
      holding [v, ov, iv] (setItem ov iv v)
      release [v, ov, iv] []) := by intro _; rfl) :
    PS X (.Assign [.Subscript o i p2] e pos) (tS X.K X.mg W (sAsg m (gIx mo mi))) := yPut he ho hi (pg_sub ho hi set_list ha) hs hw h1
theorem uFor {tg iter : Expr} {body : List Stmt} {mi : SemA} {mb : SemS} (t : Tg) (hp : PassesOwn (model X.prog X.w) X.A X.env X.xe) (hi : PI X tg iter (tI X.K X.mg W mi)) (hg : PG X tg (gT X.K t)) (hb : PSs X body (tS X.K X.mg W mb)) (hc : X.calm = true := by rfl) (hs : ∀ x, foldedSetIterable iter X.env x = pure x := by intro _; rfl) :
    PS X (.For tg iter body [] pos) (tS X.K X.mg W (sFor mi t mb)) := yFor hp hc hi hg hb hs
theorem uRng1 {tg : Expr} (hm : X.mg "range" = none) (ha : PA X [e] (tA X.K X.mg W as)) (hg : Gl X "range" := by rfl) (hs : starEach [e] X.env = [(false, eval e X.env)] := by rfl) : PI X tg (.Call (.Name "range" p) [e] [] pos) (tI X.K X.mg W (T.iRng1 as)) := jRng1 hg hm ha hs
theorem uRng2 {tg : Expr} (hm : X.mg "range" = none) (ha : PA X [e, a] (tA X.K X.mg W as)) (hg : Gl X "range" := by rfl) (hs : starEach [e, a] X.env = [(false, eval e X.env), (false, eval a X.env)] := by rfl) (hs2 : starEach [a] X.env = [(false, eval a X.env)] := by rfl) : PI X tg (.Call (.Name "range" p) [e, a] [] pos) (tI X.K X.mg W (T.iRng2 as)) := jRng2 hg hm ha hs hs2
theorem uEnum {elts : List Expr} {kk : Nat} {tpos : Pos} (hm : X.mg "enumerate" = none) (ha : PA X [e] (tA X.K X.mg W as)) (hg : Gl X "enumerate" := by rfl) (hs : starEach [e] X.env = [(false, eval e X.env)] := by rfl) : PI X (.Tuple elts kk tpos) (.Call (.Name "enumerate" p) [e] [] pos) (tI X.K X.mg W (iEnumS as)) := jEnum hg hm ha hs
theorem uZip {elts : List Expr} {kk : Nat} {tpos : Pos} (hm : X.mg "zip" = none) (ha : PA X [e, a] (tA X.K X.mg W as)) (hg : Gl X "zip" := by rfl) (hs : starEach [e, a] X.env = (false, eval e X.env) :: starEach [a] X.env := by rfl) (hpl : (backTo pos (starEach [a] X.env)).any (·.1) = false := by rfl) : PI X (.Tuple elts kk tpos) (.Call (.Name "zip" p) [e, a] [] pos) (tI X.K X.mg W (iZipS as)) := jZip hg hm ha hs hpl
/-- comprehensions -/
theorem uLc {elt tg iter : Expr} {ifs : List Expr} {scope : Scope} {mi : SemA} {me : SemE} (own : List (Str × Nat)) (t : Tg) (hN : X.N.Nodup) (tk : Takes X W) (hi : PI X tg iter (tI X.K X.mg W mi)) (ok : blkC X.N X.env.scope scope own = true)
    (hg : ∀ (s : Shared) (H : Hp) (C : Addr) (cl : List (Str × Addr)) (fp : List Addr) (xe : Value → Shared → Prop), PG ((X.blk s H scope (compEnvC scope cl C X.env) fp).wish xe) tg (gT X.K t))
    (ht : ∀ (s : Shared) (H : Hp) (C : Addr) (cl : List (Str × Addr)) (fp : List Addr) (xe : Value → Shared → Prop) (Wb : WX), Psg ((X.blk s H scope (compEnvC scope cl C X.env) fp).wish xe) Wb → PTs ((X.blk s H scope (compEnvC scope cl C X.env) fp).wish xe) ifs (tT X.K X.mg Wb tc))
    (he : ∀ (s : Shared) (H : Hp) (C : Addr) (cl : List (Str × Addr)) (fp : List Addr) (xe : Value → Shared → Prop) (Wb : WX), Psg ((X.blk s H scope (compEnvC scope cl C X.env) fp).wish xe) Wb → PE ((X.blk s H scope (compEnvC scope cl C X.env) fp).wish xe) elt (tE X.K X.mg Wb me))
    (hst : X.stack = X.env :: X.outer := by rfl) (hfm : X.env.frame = some X.env.locals := by rfl) (hc : X.calm = true := by rfl) (hin : tgIn t (own.map (·.2)) = true := by rfl) (hs : ∀ x, foldedSetIterable iter X.env x = pure x := by intro _; rfl) :
    PE X (.ListComp elt [⟨tg, iter, ifs, 0⟩] scope pos) (tE X.K X.mg W (sLc (own.map (·.2)) mi t tc me)) := xLc hst hfm tk hc hN hi (blkOk_by ok) hin hg ht he hs
theorem uLcB {elt tg iter : Expr} {ifs : List Expr} {scope : Scope} {mi : SemA} {me : SemE} (own : List (Str × Nat)) (t : Tg) (hN : X.N.Nodup) (hi : PI X tg iter (tI X.K X.mg W mi)) (ok : blkC X.N X.env.scope scope own = true)
    (hg : ∀ (s : Shared) (H : Hp) (C : Addr) (cl : List (Str × Addr)) (fp : List Addr), PG (X.blk s H scope (compEnvC scope cl C X.env) fp) tg (gT X.K t))
    (ht : ∀ (s : Shared) (H : Hp) (C : Addr) (cl : List (Str × Addr)) (fp : List Addr), Psg (X.blk s H scope (compEnvC scope cl C X.env) fp) (fun _ _ _ _ => False) → PTs (X.blk s H scope (compEnvC scope cl C X.env) fp) ifs (tT X.K X.mg (fun _ _ _ _ => False) tc))
    (he : ∀ (s : Shared) (H : Hp) (C : Addr) (cl : List (Str × Addr)) (fp : List Addr), Psg (X.blk s H scope (compEnvC scope cl C X.env) fp) (fun _ _ _ _ => False) → PE (X.blk s H scope (compEnvC scope cl C X.env) fp) elt (tE X.K X.mg (fun _ _ _ _ => False) me))
    (hc : X.calm = true := by rfl) (hin : tgIn t (own.map (·.2)) = true := by rfl) (hs : ∀ x, foldedSetIterable iter X.env x = pure x := by intro _; rfl) :
    PE X (.ListComp elt [⟨tg, iter, ifs, 0⟩] scope pos) (tE X.K X.mg W (sLcB (own.map (·.2)) mi t tc me)) := xLcB hc hN hi (blkOk_by ok) hin hg ht he hs
theorem uSetLc {elt tg iter : Expr} {ifs : List Expr} {scope : Scope} {mi : SemA} {me : SemE} {y : Str} {py spos : Pos} (i : Nat) (own : List (Str × Nat)) (t : Tg) (hN : X.N.Nodup) (tk : Takes X W) (hi : PI X tg iter (tI X.K X.mg W mi)) (ok : blkC X.N X.env.scope scope own = true)
    (hg : ∀ (s : Shared) (H : Hp) (C : Addr) (cl : List (Str × Addr)) (fp : List Addr) (xe : Value → Shared → Prop), PG ((X.blk s H scope (compEnvC scope cl C X.env) fp).wish xe) tg (gT X.K t))
    (ht : ∀ (s : Shared) (H : Hp) (C : Addr) (cl : List (Str × Addr)) (fp : List Addr) (xe : Value → Shared → Prop) (Wb : WX), Psg ((X.blk s H scope (compEnvC scope cl C X.env) fp).wish xe) Wb → PTs ((X.blk s H scope (compEnvC scope cl C X.env) fp).wish xe) ifs (tT X.K X.mg Wb tc))
    (he : ∀ (s : Shared) (H : Hp) (C : Addr) (cl : List (Str × Addr)) (fp : List Addr) (xe : Value → Shared → Prop) (Wb : WX), Psg ((X.blk s H scope (compEnvC scope cl C X.env) fp).wish xe) Wb → PE ((X.blk s H scope (compEnvC scope cl C X.env) fp).wish xe) elt (tE X.K X.mg Wb me))
    (hst : X.stack = X.env :: X.outer := by rfl) (hfm : X.env.frame = some X.env.locals := by rfl) (hc : X.calm = true := by rfl) (hin : tgIn t (own.map (·.2)) = true := by rfl) (hs : ∀ x, foldedSetIterable iter X.env x = pure x := by intro _; rfl)
    (hy : X.N[i]? = some y := by rfl) (hyl : X.env.scope.names.lookup y = some .local := by rfl) (hl : (py.line == pos.line) = true := by rfl) (hk : X.env.scope.kind = .function := by rfl) (ha : (scope.names.any fun (n, k) => n == y && (k == .local || k == .cell)) = false := by decide +kernel) :
    PS X (.Assign [.Name y py] (.ListComp elt [⟨tg, iter, ifs, 0⟩] scope pos) spos) (tS X.K X.mg W (sAsg (sLc (own.map (·.2)) mi t tc me) (gN i))) := ySetLc hst hfm tk hc hN hy hyl (sw_true hk hyl hl ha) hi (blkOk_by ok) hin hg ht he hs
end
end T
end S_TUse2
section S_TEnd
set_option Elab.async false
set_option linter.all false
set_option maxRecDepth 100000
set_option maxHeartbeats 4000000
namespace T
open PySem L2
/-- a def of the text that stands at its name -/
structure Dfd (K : PySem.W.Frag) (mg : Str → Option Value) (x : Str) (st : Stmt) : Prop where
  ex : ∃ (f : Addr) (fd : FuncData), FunD K x x (defArgs st) (defBody st) (defScope st) [] [] f fd ∧ mg x = some (.ref f)
theorem fn_bad {P : Program} {w : World} {K : PySem.W.Frag} {mg : Str → Option Value} {base : Heap} {CX : CXT} {k : Nat} {f : Addr} {fd : FuncData} {ps : List Str} : FnOk P w K mg base CX k f fd ps (spF (fun _ _ => .bad) K mg) :=
  ⟨fun vs H Q E ⟨_, _, _, _, _, h⟩ => h.elim, fun A outer s H args us vs Q E _ _ _ _ ⟨_, _, _, _, _, h⟩ => h.elim⟩
/-- an own exception class over ValueError -/
structure ExcT (K : PySem.W.Frag) (mg : Str → Option Value) (x : Str) : Prop where
  g : mg x = some (.ref (He.ga K x))
  q : PySem.W.excIn K (He.ga K x) He.veBase "ValueError.__new__" = true
  k : PySem.W.keepIn K (.ref (He.ga K x)) = true
  sub : PySem.W.subIn K (.ref (He.ga K x)) (.type "BaseException") = some true
  ty : PySem.W.typeIn K (.ref (He.ga K x)) = some (.type "type")
theorem ExcT.r {X : Cx} {x : Str} (h : ExcT X.K X.mg x) : Raises X (.ref (He.ga X.K x)) := raises_own h.sub h.ty
/-- the law's end: its def, handed the script, tells True -/
theorem law_true {P : Program} {w : World} {K : PySem.W.Frag} {mg : Str → Option Value} {base : Heap} {x : Str} {st : Stmt} {k : Nat} {ps : List Str} {φ : Fn} {f : Addr} (c : Cal P w K mg base x st k ps φ) (g : mg x = some (.ref f)) :
    ∃ fd : FuncData, FunD K x x (defArgs st) (defBody st) (defScope st) [] [] f fd ∧ FnOk P w K mg base CX0 k f fd ps (fun vs H Q _ => spF φ K mg vs H Q fun _ _ _ => False) := by
  obtain ⟨f', fd, F, G, g', _⟩ := c.ex
  rw [g] at g'
  cases g'
  refine ⟨fd, F, fun vs H Q E h => G.len vs H Q _ h, fun A outer s H args us vs Q E hr he hb hv hs => codeAny_mono (G.run A outer s H args us vs Q _ hr he hb hv hs) fun r z hq => ?_⟩
  cases r with
  | ok fl => cases fl <;> exact hq
  | error e =>
    obtain ⟨_, _, _, _, _, _, _, _, _, _, _, _, q⟩ := hq
    exact q.elim
theorem script_read {K : PySem.W.Frag} {mg : Str → Option Value} {φ : Fn} {H : Hp} {a : Addr} {ns : List Int} (hS : SqL K H a (ns.map V.int)) (h : ∃ S, φ [.rdl (ns.map D.int)] [] = .ok (.bl true) S) :
    spF φ K mg [.ref a] H (fun v _ => v = .bl true) fun _ _ _ => False := by
  obtain ⟨S, h⟩ := h
  refine ⟨⟨H, H, [], []⟩, [.rdl (ns.map D.int)], rfl, ⟨rfl, List.nodup_nil, Same.refl H, fun n d a e => by simp at e, fun n d a e => by simp at e⟩, .cons (.rdl hS (ints_rp ns)) .nil, ?_⟩
  show RS K mg _ _ _ _ _ (φ [.rdl (ns.map D.int)] [])
  rw [h]
  exact fun v t _ _ _ r => rp_bl r
end T
end S_TEnd
section S_TIni0
set_option Elab.async false
set_option linter.all false
set_option maxRecDepth 100000
set_option maxHeartbeats 4000000
namespace T
open PySem L2 PySem.Spec
/-! ### own exceptions over a built-in class whose __init__ says super().__init__ -/
structure XB (B newId initId : String) (bm : List Value) : Prop where
  f : ExcBaseFacts B newId initId bm
  k : PySem.W.KxsFacts B initId
  st : StoreFacts B bm "object.__setattr__" "object"
  ini : ∀ K : PySem.W.Frag, PySem.W.alongIn K "__init__" bm = some (some (.builtin initId))
  ob : bm.contains (.type "object") = true
  hasB : bm.contains (.type B) = true
abbrev bmV : List Value := [.type "ValueError", .type "Exception", .type "BaseException", .type "object"]
abbrev bmL : List Value := [.type "LookupError", .type "Exception", .type "BaseException", .type "object"]
theorem xb_V : XB "ValueError" "ValueError.__new__" "ValueError.__init__" bmV := ⟨F.excBase_ValueError, PySem.W.kxs_ValueError, F.store_ValueError, fun K => by kernel_rfl, by decide +kernel, by decide +kernel⟩
theorem xb_L : XB "LookupError" "LookupError.__new__" "LookupError.__init__" bmL := ⟨F.excBase_LookupError, PySem.W.kxs_LookupError, F.store_LookupError, fun K => by kernel_rfl, by decide +kernel, by decide +kernel⟩
/-- what the written part says of such a class -/
structure XC (K : PySem.W.Frag) (C : Addr) (newId : String) (bm : List Value) : Prop where
  cls : ∃ nm q N bs sn sub ab col dd k0 k1 k2 k3 k5, K.lookup C = some (excClassObj nm q C N bs bm true sn sub ab col dd k0 k1 k2 k3 k5 newId)
  sa : PySem.W.findIn K (.ref C) "__setattr__" = some (some (.builtin "object.__setattr__"))
  exC : PySem.W.subIn K (.ref C) (.type "BaseException") = some true
  tyC : PySem.W.typeIn K (.ref C) = some (.type "type")
  kC : PySem.W.keepIn K (.ref C) = true
theorem XC.data {K : PySem.W.Frag} {C : Addr} {newId : String} {bm : List Value} (T : XC K C newId bm) : ∃ cd : ClassData, PySem.W.clsIn K C = some cd ∧ cd.mro = .ref C :: bm ∧ cd.hasDict = true := by
  obtain ⟨nm, q, N, bs, sn, sub, ab, col, dd, k0, k1, k2, k3, k5, h⟩ := T.cls
  refine ⟨{ name := nm, bases := bs, mro := .ref C :: bm, ns := N, qualname := q, hasDict := true, slotNames := sn, subclasses := sub, abstract := ab, collection := col, hasDel := false }, ?_, rfl, rfl⟩
  unfold PySem.W.clsIn
  rw [h] <;> rfl
section
open PySem.W PySem.Calls PyProof.Rows Builtin Builtin.ObjectAttr
variable {prog : Program} {w : World} {A : Around} {E : Value → Shared → Prop} {R : Result → Shared → Prop} {hp : Heap} {g : Array GenState} {d : Drawn} {t : Nat} {os : OsState} {K : PySem.W.Frag} {name : Str} {tk : Tok} {v : Value} {x C : Addr} {B newId initId : String} {bm : List Value}
/-- x.name = v up to the own dict -/
theorem sto_open (hb : XB B newId initId bm) (T : XC K C newId bm) {ox : Obj} {od : Option Obj} (X : K.In hp) (I : InstAt hp x ox C od) (ha : findIn K (.ref C) name = some none)
    (hq : wpAny (model prog w) A.in1 (storeInOwnDict (.ref x) (.ref C) (.str name tk) name v false) (fun fin s' => match fin with | .done f => R (.ok f) s' | .again c' => c'.quiet = true ∧ codeAny (model prog w) A c' R s') (fun e s' => R (.error e) s') ⟨hp, g, d, t, os⟩) :
    codeAny (model prog w) A (.call (.builtin "object.__setattr__") ⟨[.ref x, .str name tk, v], []⟩) R ⟨hp, g, d, t, os⟩ := by
  obtain ⟨cd, hcd, hm, _⟩ := T.data
  have SF := F.store_object
  have hin : mroIn K C (.type "object") = some true := by
    unfold mroIn
    rw [hcd, Option.bind_some, hm, if_neg (show ¬ (List.isEmpty (Value.ref C :: bm) = true) from Bool.false_ne_true), List.contains_cons, hb.ob, Bool.or_true]
  have sub : Looks (model prog w) hp (isInstance (.ref x) (.type "object")) true := I.type.andThen (looks_mroIn X hin)
  have hmr : Looks (model prog w) hp (mroOf (.ref C)) cd.mro := (looks_clsIn X hcd).andThen .now
  have L3 : Looks (model prog w) hp (storeTaker? none) none := .now
  have hpass : refuseLoop (.ref x) "__setattr__" cd.mro = pure () := by
    rw [hm, refuseLoop_ref]
    exact hb.st.passes _
  refine codeAny_call_builtin SF.slot.plain SF.entry (@check_slot (model prog w) _ _ ⟨hp, g, d, t, os⟩ "object.__setattr__" "object" "__setattr__" (.ref x) [.str name tk, v] [] _ SF.kind SF.split sub (SF.args (.ref x) (.str name tk) v) ?_)
  rw [osa_eq, refuse_eq]
  refine wpAny_bind (wpAny_bind (I.type.at (wpAny_bind (hmr.at ?_))))
  rw [hpass]
  exact wpAny_pure (wpAny_bind (I.type.at (wpAny_bind ((looks_findIn X ha).at (wpAny_bind (L3.at hq))))))
/-- the first one: the dict is made -/
theorem sto_first (hb : XB B newId initId bm) (T : XC K C newId bm) {fv : Array Value} (X : K.In hp) (hx : hp.get? x = some { cls := .ref C, data := .fields fv }) (ha : findIn K (.ref C) name = some none)
    (hq : ∀ h' tk' dx, (∀ b o, b ≠ x → hp.get? b = some o → h'.get? b = some o) → hp.objs.size ≤ dx → dx ≠ x → h'.get? x = some { cls := .ref C, dict := some dx, data := .fields fv } → h'.Ns1 dx (fun y => if y = name then some v else none) → R (.ok (.ret .none)) ⟨h', g, d, tk', os⟩) :
    codeAny (model prog w) A (.call (.builtin "object.__setattr__") ⟨[.ref x, .str name tk, v], []⟩) R ⟨hp, g, d, t, os⟩ := by
  have I : InstAt hp x { cls := .ref C, data := .fields fv } C none := ⟨hx, rfl, rfl, trivial⟩
  have ne : x ≠ hp.objs.size := Nat.ne_of_lt (Heap.lt_size hx)
  refine sto_open hb T X I ha ?_
  obtain ⟨cd, hcd, _, hh⟩ := T.data
  have hcls : Looks (model prog w) hp (classData C) cd := looks_clsIn X hcd
  obtain ⟨nm, bs, mro, ns, qn, hd, sn, sb, ab, col, del⟩ := cd
  dsimp only at hh
  subst hh
  unfold storeInOwnDict ownDictForStores
  repeat (first | with_reducible refine HandSPX.store_in_new ?_ ?_ | with_reducible refine wpAny_loadPart_at hx ?_ | with_reducible refine hcls.at ?_ | wp_step)
  · exact ⟨_, #[], _, (Heap.get?_update_ne _ _ _ _ ne.symm).trans (Heap.get?_push_at rfl rfl), rfl, fun e he => absurd he (by simp), fun _ => rfl⟩
  · intro h' tk' hn' hs
    have hx1 : (hp.push { cls := .type "dict", data := .dict #[] }).get? x = some { cls := .ref C, data := .fields fv } := Heap.get?_push_of_some _ hx
    refine hq h' tk' hp.objs.size (fun b o hb ho => (hs.2 b (Nat.ne_of_lt (Heap.lt_size ho))).trans ((Heap.get?_update_ne _ _ _ _ hb).trans (Heap.get?_push_of_some _ ho))) (Nat.le_refl _) ne.symm ?_ hn'
    exact (hs.2 x ne).trans (Heap.get?_update_self _ hx1 rfl)
/-- a further one -/
theorem sto_next (hb : XB B newId initId bm) (T : XC K C newId bm) {dx : Addr} {fv : Array Value} {m0 : Str → Option Value} {nl : List Str} (X : K.In hp) (hx : hp.get? x = some { cls := .ref C, dict := some dx, data := .fields fv }) (hns : hp.Ns1 dx m0) (hw : Within m0 nl) (hz : nl.length ≤ 1000) (ha : findIn K (.ref C) name = some none)
    (hq : ∀ h' tk', (∀ b o, b ≠ dx → hp.get? b = some o → h'.get? b = some o) → h'.Ns1 dx (fun y => if y = name then some v else m0 y) → R (.ok (.ret .none)) ⟨h', g, d, tk', os⟩) :
    codeAny (model prog w) A (.call (.builtin "object.__setattr__") ⟨[.ref x, .str name tk, v], []⟩) R ⟨hp, g, d, t, os⟩ := by
  obtain ⟨oD, esD, epD, hoD, hdD, _⟩ := hns.count hw
  have I : InstAt hp x { cls := .ref C, dict := some dx, data := .fields fv } C (some oD) := ⟨hx, rfl, rfl, hoD⟩
  refine sto_open hb T X I ha ?_
  obtain ⟨cd, hcd, _, hh⟩ := T.data
  have hcls : Looks (model prog w) hp (classData C) cd := looks_clsIn X hcd
  obtain ⟨nm, bs, mro, ns, qn, hd, sn, sb, ab, col, del⟩ := cd
  dsimp only at hh
  subst hh
  unfold storeInOwnDict ownDictForStores
  repeat (first | with_reducible refine PySem.OEX.store_in_old hns hw hz ?_ | with_reducible refine wpAny_loadPart_at hx ?_ | with_reducible refine hcls.at ?_ | wp_step)
  intro h' tk' hn' hs
  exact hq h' tk' (fun b o hb ho => (hs.2 b hb).trans ho) hn'
end
end T
end S_TIni0
section S_TIni1
set_option Elab.async false
set_option linter.all false
set_option maxRecDepth 100000
set_option maxHeartbeats 4000000
namespace T
open PySem L2 PySem.Spec PyProof.Rows
section
variable {X : Cx} {pins : List (Addr × Obj)} {σ : L2.St} {H : Hp} {s : Shared} {a C dx : Addr} {f : Str} {y : V} {u : Value} {fs : List (Str × V)} {Q : Unit → Shared → Prop} {E : Value → Shared → Prop} {A : Around} {B newId initId : String} {bm : List Value}
theorem inv_first (hb : XB B newId initId bm) (T : XC X.K C newId bm) (I : Inv X pins σ H s) (e : H a = some (exo a C none)) (hno : PySem.W.findIn X.K (.ref C) f = some none) (ry : RelV y u)
    (h : ∀ dx s', H dx = none → dx ≠ a → Inv X pins σ (upd (upd H dx (exd dx [(f, y)])) a (exo a C (some dx))) s' → Q () s') : wpAny (model X.prog X.w) A (setAttr (.ref a) f u) Q E s := by
  obtain ⟨t1, ho⟩ := exo_at I.hok e
  obtain ⟨hp, g, d, t, os⟩ := s
  refine PySem.W.set_plain I.kIn (ox := { cls := .ref C, dict := none, data := .fields #[.ref t1, .none, .none, .none, .bool false, .none] }) (od := none) ⟨ho, rfl, rfl, trivial⟩ T.sa ?_
  refine sto_first hb T I.kIn ho hno fun h' tk' dx k dn dne hx hn => ?_
  have hnd : H dx = none := I.hok.fresh dn
  have nd : ∀ {b : Addr} {o : Obj}, hp.get? b = some o → b ≠ dx := fun {b o} q => Nat.ne_of_lt (Nat.lt_of_lt_of_le (Heap.lt_size q) dn)
  have na : ∀ {b : Addr}, H b = none → b ≠ a := fun {b} n z => by rw [z, e] at n; cases n
  have U : Un X.fs [] H (upd (upd H dx (exd dx [(f, y)])) a (exo a C (some dx))) hp h' := {
    keep := fun b o q n _ _ => k b o (na n) q
    slot := fun b o q n _ _ => ⟨o.slots, k b o (na n) q⟩
    free := fun b o q n _ => by rw [upd_ne (na n), upd_ne (nd q)]; exact n
    there := fun b o q _ => by
      by_cases z : b = a
      · subst z
        exact ⟨_, hx⟩
      · exact ⟨o, k b o z q⟩
    tups := fun b xs q => by rw [upd_ne (at_ne e q exo_tup), upd_ne (ne_of_none q hnd)]; exact q
    frzs := fun b o v q => by rw [upd_ne (at_ne e q exo_frz), upd_ne (ne_of_none q hnd)]; exact q
    tbls := fun b ps q => ⟨#[], by rw [upd_ne (at_ne e q exo_tbl), upd_ne (ne_of_none q hnd), q]; simp⟩ }
  refine h dx _ hnd dne (I.un (t' := tk') U fun b o q => ?_)
  by_cases hb : b = a
  · subst hb
    rw [upd_same] at q
    cases q
    exact exo_ok hx
  rw [upd_ne hb] at q
  by_cases hd : b = dx
  · subst hd
    rw [upd_same] at q
    cases q
    exact exd_ok hn (relO_put (fs := []) ry fun g => True.intro)
  rw [upd_ne hd] at q
  refine (I.hok b o q).stay (fun c v hc z => k c v ?_ z) (fun c hc => by rw [upd_ne (at_ne e hc exo_own), upd_ne (ne_of_none hc hnd)]; exact hc) (fun c xs hc => by rw [upd_ne (at_ne e hc exo_tup), upd_ne (ne_of_none hc hnd)]; exact hc)
  rcases hc with hc | hc
  · rw [hc]; exact hb
  · exact at_ne e hc exo_own
theorem inv_next (hb : XB B newId initId bm) (T : XC X.K C newId bm) (I : Inv X pins σ H s) (e : H a = some (exo a C (some dx))) (ed : H dx = some (exd dx fs)) (hl : fs.length ≤ 900) (hno : PySem.W.findIn X.K (.ref C) f = some none) (ry : RelV y u)
    (h : ∀ s', Inv X pins σ (upd H dx (exd dx ((f, y) :: fs))) s' → Q () s') : wpAny (model X.prog X.w) A (setAttr (.ref a) f u) Q E s := by
  obtain ⟨t1, ho⟩ := exo_at I.hok e
  obtain ⟨mA, hns, rel⟩ := exd_at I.hok ed
  have hw := within_of rel
  obtain ⟨hp, g, d, t, os⟩ := s
  obtain ⟨oD, _, _, hoD, _, _⟩ := hns.count hw
  refine PySem.W.set_plain I.kIn (ox := { cls := .ref C, dict := some dx, data := .fields #[.ref t1, .none, .none, .none, .bool false, .none] }) (od := some oD) ⟨ho, rfl, rfl, hoD⟩ T.sa ?_
  refine sto_next hb T I.kIn ho hns hw (by rw [List.length_map]; omega) hno fun h' tk' k hn => ?_
  have hd : ∃ o, h'.get? dx = some o := by
    obtain ⟨o, _, _, e', _⟩ := hn
    exact ⟨o, e'⟩
  exact h _ (I.write (t' := tk') (x := dx) (e := dx) (o := exd dx ((f, y) :: fs)) (by rw [ed]; exact True.intro) (.inl rfl) k hd (exd_ok hn (relO_put ry rel)))
/-- o.f = v on an exception that is being made -/
def gXf (C : Addr) (f : Str) (to : TE) : TG := fun v σ H Q => to σ H fun o H1 => ∃ a, o = .ref a ∧
  ((H1 a = some (exo a C none) ∧ ∀ dx, H1 dx = none → dx ≠ a → Q σ (upd (upd H1 dx (exd dx [(f, v)])) a (exo a C (some dx)))) ∨ ∃ (dx : Addr) (fs : List (Str × V)), H1 a = some (exo a C (some dx)) ∧ H1 dx = some (exd dx fs) ∧ fs.length ≤ 900 ∧ Q σ (upd H1 dx (exd dx ((f, v) :: fs))))
theorem pg_xf {o : Expr} {to : TE} {pos : Pos} (hb : XB B newId initId bm) (T : XC X.K C newId bm) (hno : PySem.W.findIn X.K (.ref C) f = some none) (ho : PE X o to) : PG X (.Attribute o f pos) (gXf C f to) := by
  refine ⟨fun pins s σ H v u Q I r h => ?_⟩
  rw [assign_Attribute]
  refine wpAny_bind (wpAny_holding (thn (ho.run pins s σ H _ I h) fun ov s1 ⟨x, H1, I1, r1, a, e1, q1⟩ => ?_))
  subst e1
  obtain rfl : ov = Value.ref a := r1
  refine wpAny_bind (wpAny_standAt (wpAny_bind (wpAny_holding ?_)))
  rcases q1 with ⟨ea, q⟩ | ⟨dx, fs, ea, ed, hl, q⟩
  · exact inv_first hb T I1 ea hno r fun dx s' n ne J => wpAny_release ⟨σ, _, J, q dx n ne⟩
  · exact inv_next hb T I1 ea ed hl hno r fun s' J => wpAny_release ⟨σ, _, J, q⟩
end
end T
end S_TIni1
section S_TIni2
set_option Elab.async false
set_option linter.all false
set_option maxRecDepth 100000
set_option maxHeartbeats 4000000
namespace T
open PySem L2 PySem.Spec PyProof.Rows
/-! ### super().__init__(..) -/
/-- what stands around a def that names super() in the class at C -/
structure SupX (X : Cx) (C f cda cc : Addr) (slf : Str) (B newId initId : String) (bm : List Value) : Prop where
  b : XB B newId initId bm
  c : XC X.K C newId bm
  env : ∃ qual scope, X.env = PySem.W.ksEnv qual scope X.env.locals f (.ref cda) cc
  fn : ∃ oc od fd osl ar, X.K.lookup f = some ⟨oc, od, .func fd, osl⟩ ∧ (fd.params.posonlyargs ++ fd.params.args).head? = some ar ∧ ar.arg = slf
  code : ∃ ccl cdd vs ccs file tf, X.K.lookup cda = some ⟨ccl, cdd, .fields vs, ccs⟩ ∧ vs[2]? = some (.str file tf) ∧ ((X.prog.main.file : Str) == file) = true
  cell : ∃ cl cld csl, X.K.lookup cc = some ⟨cl, cld, .cell (some (.ref C)), csl⟩
  mro : PySem.W.mroIn X.K C (.ref C) = some true
  subB : PySem.W.subIn X.K (.ref C) (.type B) = some true
  opq : PySem.W.nsIn X.K cStatics "thirdparty.any" = some none
  sup : X.mg "super" = none
  top : (X.prog.main.scope.names.lookup ("super" : Str)).isSome = false
  ks : X.env.kindOf "super" = some .globalImplicit
  kc : X.env.kindOf "__class__" = some .free
  ka : X.env.kindOf slf = some .local
section
variable {X : Cx} {C f cda cc : Addr} {slf : Str} {B newId initId : String} {bm : List Value}
theorem ld_raw {E : Value → Shared → Prop} {pins : List (Addr × Obj)} {s : Shared} {σ : L2.St} {H : Hp} {x : Str} {u : Value} {Q : Value → Shared → Prop} (I : Inv X pins σ H s) (hg : X.env.kindOf x = some .globalImplicit) (hm : X.mg x = none) (hv : bootBuiltins x = some u) (h : Q u s) (hn : x ≠ "__name__") : wpAny (model X.prog X.w) X.A (loadName X.env x) Q E s := by
  obtain ⟨mb, h1, h2⟩ := I.mod.blt
  exact PySem.W.ks_loadName_global I.ok.kind hg (Calls.loadGlobal_builtin (by rw [I.ok.glob]; exact I.mod.glob.keeps I.bk) hm (by rw [I.ok.blt]; exact h1.keeps I.bk) ((h2 x hn).trans hv) h)
/-- super().__init__(e, ..) is run: the args are laid anew, nothing of it is told -/
theorem wp_super (S : SupX X C f cda cc slf B newId initId bm) {body : List Stmt} {e : Expr} {es : List Expr} {ta : TA} {p0 p1 p2 p3 p4 : Pos} (ha : PA X (e :: es) ta) (hN : X.N[0]? = some slf) {s : Shared} {σ : L2.St} {H : Hp} {a : Addr} {Q : Hp → Prop} (I : Inv X [] σ H s) (hσ : σ[0]? = some (some (.ref a))) (eH : H a = some (exo a C none))
    (h : ta σ H fun ws H1 => ws.length ≤ 1000 ∧ H1 a = some (exo a C none) ∧ Q H1)
    (hev : ∃ pl : Sem Bool, eval (.Call (.Attribute (.Call (.Name "super" p0) [] [] p1) "__init__" p2) (e :: es) [] p3) X.env = (do
      let ov ← attributeBase (.Call (.Name "super" p0) [] [] p1) "__init__" X.env (eval (.Call (.Name "super" p0) [] [] p1) X.env)
      standAt p2.atName
      let (f, first) ← holding [ov] (getMethod ov "__init__" pl)
      callWith p3 f first (backTo p3 (starEach (e :: es) X.env)) []))
    (hs : swapsWith (.Call (.Attribute (.Call (.Name "super" p0) [] [] p1) "__init__" p2) (e :: es) [] p3) none p4.line X.env = pure false)
    (he : starEach (e :: es) X.env = (false, eval e X.env) :: starEach es X.env) (hpl : (backTo p3 (starEach es X.env)).any (·.1) = false) :
    PySem.wpAt (model X.prog X.w) X.A (.func body X.env) (exec (.Expr (.Call (.Attribute (.Call (.Name "super" p0) [] [] p1) "__init__" p2) (e :: es) [] p3) p4) X.env) (fun fl s' => fl = .next ∧ ∃ H1, Inv X [] σ H1 s' ∧ Q H1) X.xe s := by
  obtain ⟨pl, hev⟩ := hev
  obtain ⟨qual, scope, hE⟩ := S.env
  obtain ⟨oc, od, fd, osl, ar, lf, hp, har⟩ := S.fn
  obtain ⟨ccl, cdd, vs, ccs, file, tf, lc, hvs, hfile⟩ := S.code
  obtain ⟨cl, cld, csl, lcc⟩ := S.cell
  obtain ⟨cd, hcd, hm, hh⟩ := S.c.data
  obtain ⟨t1, ho⟩ := exo_at I.hok eH
  have KX : X.K.In s.heap := I.kIn
  have hD : ∃ oD, s.heap.get? C = some oD ∧ oD.data = .cls cd := by
    have hcd' := hcd
    unfold PySem.W.clsIn at hcd'
    split at hcd'
    · rename_i z
      cases hcd'
      exact ⟨_, KX _ _ z, rfl⟩
    · cases hcd'
  obtain ⟨oD, hD1, hD2⟩ := hD
  obtain ⟨m, hns, hlo⟩ := I.loc
  obtain ⟨u0, ru, lk⟩ := hlo 0 slf (.ref a) hN hσ (.inl S.ka)
  obtain rfl : u0 = Value.ref a := ru
  have hself : m slf = some (.ref a) := by
    rcases lk with ⟨_, z⟩ | ⟨z, _⟩
    · exact z
    · rw [S.ka] at z; rcases z with z | z <;> cases z
  have IA : PySem.W.InstAt s.heap a { cls := .ref C, dict := none, data := .fields #[.ref t1, .none, .none, .none, .bool false, .none] } C none := ⟨ho, rfl, rfl, trivial⟩
  have hne : a ≠ C := PySem.W.ks_ne KX IA hcd
  refine PySem.ks_wpAt_Expr_any ?_ I.quiet hs
  refine PySem.ks_wpAt_MethodCall (pl := pl) ?_ hev
  refine PySem.ks_wpAt_super_base S.ks S.kc (by decide) (by rw [hE]) (KX _ _ lf) rfl hp (by rw [hE]) (KX _ _ lc) rfl hvs hfile S.top ?_
  refine ld_raw I S.ks S.sup (by decide +kernel) ⟨rfl, ?_⟩ (by decide)
  refine wpAny_loadName_free I.ok.kind S.kc (c := cc) (by rw [hE]; rfl) ⟨_, KX _ _ lcc, rfl⟩ ?_
  refine wpAny_loadName_local I.ok.kind (by rw [har]; exact S.ka) hns (by rw [har]; exact hself) ?_
  obtain ⟨hp0, g, d, t, os⟩ := s
  refine PySem.ks_wpAny_isType_cls hD1 hD2 ⟨rfl, ?_⟩
  refine PySem.ks_wpAny_call_super hD1 hD2 ho rfl (fun c z => by cases z) (PySem.W.looks_mroIn KX S.mro) fun h' eso k => ?_
  have I1 : Inv X [] σ H ⟨h', g, d, t, os⟩ := I.kept (t' := t) (h' := h') k
  have KX1 : X.K.In h' := I1.kIn
  have IA1 : PySem.W.InstAt h' a { cls := .ref C, dict := none, data := .fields #[.ref t1, .none, .none, .none, .bool false, .none] } C none := ⟨k _ _ ho, rfl, rfl, trivial⟩
  refine PySem.W.kxs_getMethod S.b.k eso (PySem.W.looks_opaque KX1 S.opq) (l₀ := cd.mro) (fun A Q E s k q => wpAny_bind ((PySem.W.looks_clsIn KX1 hcd) A _ E s k (wpAny_pure q))) (l := bm) ?_ KX1 (S.b.ini _) (IA1.type.andThen (PySem.W.looks_subIn KX1 S.subB)) hne (by decide) ?_
  · rw [hm]
    simp [List.dropWhile_cons]
  have hu : h'.objs.size ≤ h'.objs.size := Nat.le_refl _
  have I2 : Inv X [] σ H ⟨h'.push (PySem.W.kxs_mw initId a), g, d, t + 1, os⟩ := I1.kept (t' := t + 1) (h' := h'.push (PySem.W.kxs_mw initId a)) fun b o z => Heap.get?_push_of_some _ z
  have I3 : Inv X [(h'.objs.size, PySem.W.kxs_mw initId a)] σ H ⟨h'.push (PySem.W.kxs_mw initId a), g, d, t + 1, os⟩ := I2.pins_of fun p hp => by
    have z : p ∈ X.pn ∨ p = (h'.objs.size, PySem.W.kxs_mw initId a) := by
      rcases List.mem_append.mp (show p ∈ X.pn ++ [(h'.objs.size, PySem.W.kxs_mw initId a)] from by first | exact hp | exact List.mem_append_right _ hp) with z | z
      · exact .inl z
      · exact .inr (List.mem_singleton.mp z)
    rcases z with z | rfl
    · exact I2.pin p (List.mem_append_left _ z)
    · exact ⟨Heap.get?_push_size _ rfl, I1.hok.fresh hu, Nat.ne_of_gt I1.lt, I1.nofs hu, fun v z => by cases z⟩
  show wpAny _ _ (callWith p3 (.ref h'.objs.size) [] (backTo p3 (starEach (e :: es) X.env)) []) _ _ _
  rw [he]
  refine PySem.W.kxs_callWith (i := initId) (x := a) (by show (false || (backTo p3 (starEach es X.env)).any (·.1)) = false; rw [hpl]; rfl) (Calls.evalArgs_plain ?_)
  have run := ha.run p3 _ _ σ H _ I3 h
  rw [he] at run
  refine thn run fun us s1 ⟨ws, H1, I4, r, hl, eH1, q⟩ => ?_
  have hmw : s1.heap.get? h'.objs.size = some (PySem.W.kxs_mw initId a) := (I4.pin _ (List.mem_append_right _ List.mem_cons_self)).1
  refine ⟨hmw, ?_⟩
  obtain ⟨t2, ho2⟩ := exo_at I4.hok eH1
  obtain ⟨nm, qn, N', bs, sn, sub, ab, col, dd, k0, k1, k2, k3, k5, hC⟩ := S.c.cls
  have hus : us.length ≤ sizeLine := by
    rw [← Paired.length r, sizeLine_eq]
    omega
  have KX4 : X.K.In s1.heap := I4.kIn
  obtain ⟨hh1, g1, d1, tk1, os1⟩ := s1
  show wpAny _ _ (call (.ref h'.objs.size) us) _ _ _
  refine wpAny_call (codeAny_of_tree ?_)
  show wpAny _ X.A.in1 (callAny (.ref h'.objs.size) ⟨us, []⟩) _ _ _
  simp only [callAny]
  refine wpAny_bind (wpAny_load hmw ?_)
  simp only [PySem.W.kxs_mw, show (Value.type "method-wrapper" == Value.type "method" || Value.type "method-wrapper" == Value.type "builtin_function_or_method" || Value.type "method-wrapper" == Value.type "method-wrapper") = true by decide, if_true]
  refine PySem.W.KFB.if_so (by decide) ?_
  refine wpAny_bind (PySem.W.check_bound_init S.b.f.toExcCallFacts (KX4 _ _ hC) ho2 rfl ?_)
  refine wpAny_bind (wpAny_pure (wpAny_pure ?_))
  refine ⟨plainId_quiet S.b.f.init.plain _, codeAny_builtin S.b.f.initEntry ?_⟩
  refine PySem.W.exc_init_tree (cls := .ref C) (t0 := t2) (dv := none) (c2 := .none) (c3 := .none) (b4 := .bool false) ho2 hus fun h2 k2 e2 _ => ?_
  have J := I4.write (t' := tk1) (x := a) (e := a) (o := exo a C none) (by rw [eH1]; exact True.intro) (.inl rfl) k2 ⟨_, e2⟩ (exo_ok e2)
  have eu : upd H1 a (exo a C none) = H1 := by
    funext b
    by_cases hb : b = a
    · rw [hb, upd_same, eH1]
    · rw [upd_ne hb]
  rw [eu] at J
  exact ⟨trivial, H1, J.pins_of (fun p hp => by cases hp), q⟩
end
end T
end S_TIni2
section S_TIni3
set_option Elab.async false
set_option linter.all false
set_option maxRecDepth 100000
set_option maxHeartbeats 4000000
namespace T
open PySem L2 PySem.Spec PyProof.Rows
/-! ### a def that closes over __class__ -/
structure InScope (N ps : List Str) (sc : Scope) : Prop where
  kind : sc.kind = .function
  co : sc.isCoroutine = false
  gen : sc.isGenerator = false
  nd : N.Nodup
  pre : N.take ps.length = ps
  par : ∀ x ∈ ps, sc.names.lookup x = some .local
  nocell : ∀ x ∈ sc.names, x.2 ≠ .cell
  fr : ∀ x ∈ sc.names, x.2 = .free → x.1 = ("__class__" : Str)
def cxI (CX : CXT) (P : Program) (w : World) (K : PySem.W.Frag) (mg : Str → Option Value) (base : Heap) (N : List Str) (qual : Str) (scope : Scope) (f : Addr) (cd : Value) (cc : Addr) (A : Around) (outer : List PySem.Env) (s : Shared) (H : Hp) (E : XK) : Cx where
  prog := P
  w := w
  K := K
  mg := mg
  base := base
  A := A.deeper (PySem.W.ksEnv qual scope s.heap.objs.size f cd cc)
  N := N
  s_0 := s
  H_0 := H
  env := PySem.W.ksEnv qual scope s.heap.objs.size f cd cc
  outer := outer
  stack := PySem.W.ksEnv qual scope s.heap.objs.size f cd cc :: outer
  ex := []
  calm := true
  fn := fun _ => false
  pn := []
  xe := fun e s' => wpAny (model P w) (A.deeper (PySem.W.ksEnv qual scope s.heap.objs.size f cd cc)) (leaving (PySem.W.ksEnv qual scope s.heap.objs.size f cd cc) e) (fun _ s'' => CX outer H s E e s'') (fun e' s'' => CX outer H s E e' s'') s'
theorem lookup_zip {x : Str} {v : Value} : ∀ {P : List Str} {vs : List Value} {i : Nat}, P.Nodup → P[i]? = some x → vs[i]? = some v → (P.zip vs).reverse.lookup x = some v := by
  intro P vs i nd h1 h2
  have key : ∀ {P : List Str} {vs : List Value} {i : Nat}, P.Nodup → P[i]? = some x → vs[i]? = some v → ∀ q ∈ P.zip vs, q.1 = x → q.2 = v := by
    intro P
    induction P with
    | nil => intro vs i _ h; simp at h
    | cons p P ih =>
      intro vs i nd h1 h2 q hq e
      cases vs with
      | nil => simp at hq
      | cons w vs =>
        rw [List.zip_cons_cons] at hq
        cases i with
        | zero =>
          simp at h1 h2
          subst h1 h2
          rcases List.mem_cons.mp hq with rfl | hq
          · rfl
          · exact absurd (e ▸ (List.of_mem_zip hq).1) (List.nodup_cons.mp nd).1
        | succ i =>
          simp at h1 h2
          rcases List.mem_cons.mp hq with rfl | hq
          · exact absurd (show p ∈ P from (show p = x from e) ▸ List.mem_of_getElem? h1) (List.nodup_cons.mp nd).1
          · exact ih (List.nodup_cons.mp nd).2 h1 h2 q hq e
  have mem : (x, v) ∈ (P.zip vs).reverse := by
    rw [List.mem_reverse]
    refine List.mem_of_getElem? (i := i) ?_
    rw [List.getElem?_zip_eq_some]
    exact ⟨h1, h2⟩
  have all : ∀ q ∈ (P.zip vs).reverse, q.1 = x → q.2 = v := fun q hq => key nd h1 h2 q (List.mem_reverse.mp hq)
  generalize (P.zip vs).reverse = l at mem all
  induction l with
  | nil => cases mem
  | cons q l ih =>
    obtain ⟨y, z⟩ := q
    by_cases hy : x = y
    · have := all (y, z) List.mem_cons_self hy.symm
      simp at this
      simp [List.lookup, hy, this]
    · have e : (x == y) = false := by simpa using hy
      simp only [List.lookup, e]
      refine ih ?_ fun q hq => all q (List.mem_cons_of_mem _ hq)
      rcases List.mem_cons.mp mem with z | z
      · cases z; exact absurd rfl hy
      · exact z
section
variable {CX : CXT} {P : Program} {w : World} {K : PySem.W.Frag} {mg : Str → Option Value} {base : Heap} {N ps : List Str} {qual : Str} {scope : Scope} {f cc : Addr} {cd : Value} {A : Around} {outer : List PySem.Env} {s : Shared} {H : Hp} {E : XK} {us : List Value} {vs : List V}
theorem inv_startI (S : InScope N ps scope) (hd : A.handled = none) (e0 : Env0 P w K mg base A outer s H) (hl : vs.length = ps.length) (r : Vals vs us) (hcc : ∃ cl cld v csl, K.lookup cc = some ⟨cl, cld, .cell v, csl⟩) {h1 : Heap} {tk : Nat} (hns : h1.Ns s.heap.objs.size (fun x => (ps.zip us).reverse.lookup x)) (hk : ∀ b o, s.heap.get? b = some o → h1.get? b = some o) :
    Inv (cxI CX P w K mg base N qual scope f cd cc A outer s H E) [] (L2.start N vs) H { s with heap := h1, toks := tk } := by
  have hpl : ps.length ≤ N.length := by have := congrArg List.length S.pre; rw [List.length_take] at this; omega
  have noA : ∀ b : Addr, b ∉ (cxI CX P w K mg base N qual scope f cd cc A outer s H E).ex := fun b z => absurd (show b ∈ ([] : List Addr) from z) (by simp)
  obtain ⟨cl, cld, cv, csl, lcc⟩ := hcc
  have bcc := e0.bs _ _ (e0.mod.kin _ _ lcc)
  have one : ∀ {x : Str} {c : Addr}, List.lookup x [(("__class__" : Str), cc)] = some c → x = "__class__" ∧ c = cc := fun {x c} h => by
    by_cases hx : x = ("__class__" : Str)
    · subst hx; simp [List.lookup] at h; exact ⟨rfl, h.symm⟩
    · have e : (x == ("__class__" : Str)) = false := by simpa using hx
      simp [List.lookup, e] at h
  refine ⟨⟨e0.mod, S.kind, rfl, rfl, Nat.le_refl _, fun y z c q1 q2 => (one q1).1.trans (one q2).1.symm, fun y hy => ?_, fun y c q _ => (by cases q), fun _ => hd, Around.frames_deeper e0.frames, .inr ⟨rfl, rfl⟩, fun b z => absurd z (noA b), e0.bs, e0.bsz, fun b _ _ => noA b, fun b z => absurd z (noA b), e0.funs, e0.frf⟩,
    rfl, e0.bare, Un.kept hk, ⟨_, hns, fun i y v q1 q2 q3 => ?_⟩, fun y c q => ?_, e0.hok.fresh (Nat.le_refl _), fun y c q => ?_, fun p hp => absurd (show p ∈ ([] : List (Addr × Obj)) from hp) (by simp), e0.hok.kept hk, ?_⟩
  · have hy : scope.names.lookup y = some .cell ∨ scope.names.lookup y = some .free := hy
    rcases hy with hy | hy
    · exact absurd rfl (S.nocell _ (PySem.mem_of_lookup hy))
    · have := S.fr _ (PySem.mem_of_lookup hy) rfl
      refine ⟨cc, ?_⟩
      show List.lookup y [(("__class__" : Str), cc)] = some cc
      rw [show y = ("__class__" : Str) from this]
      simp [List.lookup]
  · have hi : i < vs.length := by
      unfold L2.start at q2
      by_cases hi : i < vs.length
      · exact hi
      · rw [List.getElem?_append_right (by simpa using hi), List.getElem?_replicate] at q2
        split at q2 <;> cases q2
    have ha : vs[i]? = some v := by
      unfold L2.start at q2
      rw [List.getElem?_append_left (by simpa using hi), List.getElem?_map] at q2
      cases e : vs[i]? with
      | none => rw [e] at q2; cases q2
      | some a => rw [e] at q2; cases q2; rfl
    obtain ⟨u, hu, rv⟩ := r.get ha
    have hp : ps[i]? = some y := by
      rw [← S.pre, List.getElem?_take_of_lt (by omega)]
      exact q1
    have ndP : ps.Nodup := by rw [← S.pre]; exact S.nd.sublist (List.take_sublist _ _)
    exact ⟨u, rv, .inl ⟨S.par y (List.mem_of_getElem? hp), lookup_zip ndP hp hu⟩⟩
  · obtain ⟨_, rfl⟩ := one q
    exact ⟨_, _, hk _ _ bcc.1, rfl⟩
  · obtain ⟨_, rfl⟩ := one q
    exact bcc.2
  · unfold L2.start
    show _ = N.length
    rw [List.length_append, List.length_map, List.length_replicate]
    omega
/-- THE RULE for a def that closes over __class__ -/
theorem fn_ini {k : Nat} {name : Str} {params : Arguments} {body : List Stmt} {dV kV doc pm ct oc : Value} {an od : Option Addr} {osl : Array (Option Value)} {sp : Sp} (lk : K.lookup f = some ⟨oc, od, .func (PySem.W.ksFn name qual params body scope dV kV doc pm an cd ct cc), osl⟩) (hcd : PySem.W.codeIn K cd qual = true) (S : InScope N ps scope)
    (hcc : ∃ cl cld v csl, K.lookup cc = some ⟨cl, cld, .cell v, csl⟩) (len : ∀ vs H Q E, sp vs H Q E → vs.length = ps.length)
    (hbody : ∀ (A : Around) (outer : List PySem.Env) (s : Shared) (H : Hp) (vs : List V) (Q : VK) (E : XK) (s1 : Shared), Room k (A.deeper (PySem.W.ksEnv qual scope s.heap.objs.size f cd cc)) → sp vs H Q E → Inv (cxI CX P w K mg base N qual scope f cd cc A outer s H E) [] (L2.start N vs) H s1 →
      PySem.wpAt (model P w) (A.deeper (PySem.W.ksEnv qual scope s.heap.objs.size f cd cc)) (.func body (PySem.W.ksEnv qual scope s.heap.objs.size f cd cc)) (execs body (PySem.W.ksEnv qual scope s.heap.objs.size f cd cc))
        (SP (cxI CX P w K mg base N qual scope f cd cc A outer s H E) [] { nx := fun _ H' => Q .non H', rt := Q }) (cxI CX P w K mg base N qual scope f cd cc A outer s H E).xe s1) :
    FnOk P w K mg base CX (k + 1) f (PySem.W.ksFn name qual params body scope dV kV doc pm an cd ct cc) ps sp := by
  refine ⟨len, fun A outer s H args us vs Q E hr e0 hb r hsp => ?_⟩
  have hl := len _ _ _ _ hsp
  have KX : K.In s.heap := e0.mod.kin.keeps fun b o e => (e0.bs b o e).1
  have lim : s.heap.NoLimit := e0.mod.nolimit.keeps fun b o e => (e0.bs b o e).1
  refine PySem.ks_codeAny_call_defAt (fd := PySem.W.ksFn name qual params body scope dV kV doc pm an cd ct cc) (body := body) (binds := ps.zip us) hr.depth (KX _ _ lk) rfl lim (PySem.W.codeRec_of KX hcd) rfl hb S.nocell (fun x hx => S.par _ (List.of_mem_zip hx).1) (fun h1 hns hk => ?_) S.co S.gen S.kind
  have I : Inv (cxI CX P w K mg base N qual scope f cd cc A outer s H E) [] (L2.start N vs) H { s with heap := h1, toks := s.toks + (ps.zip us).length } := inv_startI S hr.hd e0 hl r hcc hns hk
  refine PySem.ks_wpAt_mono (hbody A outer s H vs Q E _ (hr.deeper _) hsp I) (fun fl s' hs => ?_) fun e s' hs => hs
  have fin : ∀ {σ' : L2.St} {H' : Hp} {v : V} {u : Value}, Inv (cxI CX P w K mg base N qual scope f cd cc A outer s H E) [] σ' H' s' → RelV v u → Q v H' → CE outer P w H s Q u s' :=
    fun {σ' H' v u} J rv q => ⟨v, H', J.os, J.bare, J.base, J.hok, rv, q⟩
  cases fl with
  | ret u => obtain ⟨v, σ', H', J, rv, q⟩ := hs; exact fin J rv q
  | next => obtain ⟨σ', H', J, q⟩ := hs; exact fin (v := V.non) (u := Value.none) J rfl q
  | brk => obtain ⟨_, _, _, q⟩ := hs; exact False.elim q
  | cont => obtain ⟨_, _, _, q⟩ := hs; exact False.elim q
end
end T
end S_TIni3
section S_TIni4
set_option Elab.async false
set_option linter.all false
set_option maxRecDepth 100000
set_option maxHeartbeats 4000000
namespace T
open PySem L2 PySem.Spec PyProof.Rows
/-! ### what an __init__ leaves: its fields, the last one first -/
abbrev FnI := List D → Sto → Res (List (Str × D))
def spI (C : Addr) (n : Nat) (φ : FnI) (K : PySem.W.Frag) (mg : Str → Option Value) : Sp := fun vs H Q _ => ∃ (s : Stt) (a : Addr) (ws : List V) (ds : List D), vs = .ref a :: ws ∧ ws.length = n ∧ s.H a = none ∧ H = upd s.H a (exo a C none) ∧ Ok K mg s ∧ RpL K mg s.Hf s.ρ ws ds ∧
  ∃ (fs : List (Str × D)) (S' : Sto), φ ds s.S = .ok fs S' ∧ ∀ (t : Stt) (dx : Addr) (vfs : List (Str × V)), Ok K mg t → t.S = S' → Le (s.prv a (exo a C none)) t → t.H dx = none → dx ≠ a → RpF K mg t.Hf t.ρ vfs fs → Q .non (upd (upd t.H dx (exd dx vfs)) a (exo a C (some dx)))
def ini1 (N : Nat) (ma : SemA) (f : Str) (me : SemE) : FnI := fun ds S => (ma (none :: entry N ds) S).bind fun as S1 => if as.length ≤ 1000 then (me (none :: entry N ds) S1).bind fun d S2 => .ok [(f, d)] S2 else .bad
def ini2 (N : Nat) (ma : SemA) (f f' : Str) (me : SemA) : FnI := fun ds S => (ma (none :: entry N ds) S).bind fun as S1 => if as.length ≤ 1000 then (sTup me (none :: entry N ds) S1).bind fun d S2 => match d with
  | .tup [x, y] => .ok [(f', y), (f, x)] S2
  | _ => .bad
 else .bad
theorem bind_is_ok {α β : Type} {r : Res α} {k : α → Sto → Res β} {b : β} {S' : Sto} (h : r.bind k = .ok b S') : ∃ a S1, r = .ok a S1 ∧ k a S1 = .ok b S' := by
  cases r with
  | ok a S1 => exact ⟨a, S1, rfl, h⟩
  | exc C fs S1 => cases h
  | bad => cases h
theorem tX.ok {K : PySem.W.Frag} {mg : Str → Option Value} {α β : Type} {R : Stt → β → α → Prop} {W : WX} {m : Env → Sto → Res α} {σ : L2.St} {t : Stt} {env : Env} {Q : β → Hp → Prop} {d : α} {S1 : Sto} (o : Ok K mg t) (e : EnvOk K mg t σ env) (h : m env t.S = .ok d S1)
    (q : ∀ (v : β) (u : Stt), Ok K mg u → u.S = S1 → Le t u → R u v d → Q v u.H) : tX K mg R W m σ t.H Q := by
  refine tX.mk o e ?_
  rw [h]
  exact q
theorem entry_okI {K : PySem.W.Frag} {mg : Str → Option Value} {s : Stt} {n : Str} {N : List Str} {v : V} {ws : List V} {ds : List D} (h : RpL K mg s.Hf s.ρ ws ds) : EnvOk K mg s (L2.start (n :: N) (v :: ws)) (none :: entry N.length ds) := by
  have e := entry_ok (N := N) h
  have z : L2.start (n :: N) (v :: ws) = some v :: L2.start N ws := by
    unfold L2.start
    simp
  rw [z]
  refine ⟨by simp [e.len], fun i d q => ?_⟩
  cases i with
  | zero => simp at q
  | succ i => simpa using e.at_ i d (by simpa using q)
section
variable {P : Program} {w : World} {K : PySem.W.Frag} {mg : Str → Option Value} {base : Heap} {N ps : List Str} {qual : Str} {scope : Scope} {f cc cda C : Addr} {slf name fn fn' : Str} {params : Arguments} {dV kV doc pm ct oc : Value} {an od : Option Addr} {osl : Array (Option Value)}
  {B newId initId : String} {bm : List Value} {k : Nat} {e e1 : Expr} {es : List Expr} {p0 p1 p2 p3 p4 q1 q2 q3 q4 q5 q6 q7 : Pos} {ma me' : SemA} {me : SemE} {k1 k2 : ExprCtx}
abbrev supS (p0 p1 p2 p3 p4 : Pos) (es : List Expr) : Stmt := .Expr (.Call (.Attribute (.Call (.Name "super" p0) [] [] p1) "__init__" p2) es [] p3) p4
abbrev CI (P : Program) (w : World) (K : PySem.W.Frag) (mg : Str → Option Value) (base : Heap) (N : List Str) (qual : Str) (scope : Scope) (f cda cc : Addr) (A : Around) (outer : List PySem.Env) (s : Shared) (H : Hp) (E : XK) : Cx := cxI (L2.CX P w) P w K mg base N qual scope f (.ref cda) cc A outer s H E
/-- the plain facts of the written text, at each context -/
structure SupE (X : Cx) (p0 p1 p2 p3 p4 : Pos) (e : Expr) (es : List Expr) : Prop where
  ev : ∃ pl : Sem Bool, eval (.Call (.Attribute (.Call (.Name "super" p0) [] [] p1) "__init__" p2) (e :: es) [] p3) X.env = (do
      let ov ← attributeBase (.Call (.Name "super" p0) [] [] p1) "__init__" X.env (eval (.Call (.Name "super" p0) [] [] p1) X.env)
      standAt p2.atName
      let (f, first) ← holding [ov] (getMethod ov "__init__" pl)
      callWith p3 f first (backTo p3 (starEach (e :: es) X.env)) [])
  sw : swapsWith (.Call (.Attribute (.Call (.Name "super" p0) [] [] p1) "__init__" p2) (e :: es) [] p3) none p4.line X.env = pure false
  st : starEach (e :: es) X.env = (false, eval e X.env) :: starEach es X.env
  pl : (backTo p3 (starEach es X.env)).any (·.1) = false
theorem ini1_ok (lk : K.lookup f = some ⟨oc, od, .func (PySem.W.ksFn name qual params [supS p0 p1 p2 p3 p4 (e :: es), .Assign [.Attribute (.Name slf q1) fn q2] e1 q3] scope dV kV doc pm an (.ref cda) ct cc), osl⟩) (hcd : PySem.W.codeIn K (.ref cda) qual = true) (S : InScope (slf :: N) (slf :: ps) scope)
    (hcc : ∃ cl cld v csl, K.lookup cc = some ⟨cl, cld, .cell v, csl⟩) (hno : PySem.W.findIn K (.ref C) fn = some none)
    (SX : ∀ A outer s H E, SupX (CI P w K mg base (slf :: N) qual scope f cda cc A outer s H E) C f cda cc slf B newId initId bm) (hd : (slf == ("__debug__" : Str)) = false) (hcl : (slf == ("__classdict__" : Str)) = false)
    (SE : ∀ A outer s H E, SupE (CI P w K mg base (slf :: N) qual scope f cda cc A outer s H E) p0 p1 p2 p3 p4 e es)
    (ha : ∀ A outer s H E, PA (CI P w K mg base (slf :: N) qual scope f cda cc A outer s H E) (e :: es) (tA K mg (WE E) ma)) (he : ∀ A outer s H E, PE (CI P w K mg base (slf :: N) qual scope f cda cc A outer s H E) e1 (tE K mg (WE E) me))
    (hs : ∀ A outer s H E, swapsWithSole [.Attribute (.Name slf q1) fn q2] e1 q3.line (CI P w K mg base (slf :: N) qual scope f cda cc A outer s H E).env = pure false) (hw : ∀ A outer s H E, swappedStores [.Attribute (.Name slf q1) fn q2] e1 (CI P w K mg base (slf :: N) qual scope f cda cc A outer s H E).env = pure none) :
    FnOk P w K mg base (L2.CX P w) (k + 1) f (PySem.W.ksFn name qual params [supS p0 p1 p2 p3 p4 (e :: es), .Assign [.Attribute (.Name slf q1) fn q2] e1 q3] scope dV kV doc pm an (.ref cda) ct cc) (slf :: ps) (spI C ps.length (ini1 N.length ma fn me) K mg) := by
  refine fn_ini lk hcd S hcc (fun vs H Q E h => ?_) fun A outer s H vs Q E s1 hr hsp I => ?_
  · obtain ⟨_, _, ws, _, rfl, hl, _⟩ := h
    simp [hl]
  obtain ⟨st, a, ws, ds, rfl, hl, hHa, rfl, ok, rl, fs, S', hφ, fin⟩ := hsp
  obtain ⟨as, S1, r1, hφ⟩ := bind_is_ok hφ
  split at hφ
  case isFalse => cases hφ
  rename_i has
  obtain ⟨d, S2, r2, hφ⟩ := bind_is_ok hφ
  cases hφ
  have X0 := SX A outer s (upd st.H a (exo a C none)) E
  have E0 := SE A outer s (upd st.H a (exo a C none)) E
  obtain ⟨fz, fr⟩ := ok.fresh hHa
  have oku : Ok K mg (st.prv a (exo a C none)) := ok.prv fr fz _
  have eo : EnvOk K mg (st.prv a (exo a C none)) (L2.start (slf :: N) (.ref a :: ws)) (none :: entry N.length ds) := entry_okI rl
  have hσ : (L2.start (slf :: N) (.ref a :: ws))[0]? = some (some (.ref a)) := by unfold L2.start; simp
  have mine : ∀ {t : Stt}, Le (st.prv a (exo a C none)) t → t.H a = some (exo a C none) := fun {t} l => (l.prv a _ upd_same fr fz).1
  refine PySem.ks_wpAt_execs_cons (PySem.ks_wpAt_mono (wp_super X0 (Q := fun H1 => ∃ t : Stt, t.H = H1 ∧ Ok K mg t ∧ t.S = S1 ∧ Le (st.prv a (exo a C none)) t) (ha A outer s _ E) rfl I hσ upd_same
    (tX.ok (t := st.prv a (exo a C none)) oku eo r1 fun v u ou eu lu ru => ⟨by rw [RpL.length ru]; exact has, mine lu, u, rfl, ou, eu, lu⟩) E0.ev E0.sw E0.st E0.pl) (fun fl s' hfl => ?_) fun _ _ x => x)
  obtain ⟨rfl, H1, I1, t, rfl, ot, et, lt⟩ := hfl
  show PySem.wpAt _ _ _ (execs _ _) _ _ _
  refine PySem.wpAt_of_wpAny ?_
  have hself : PE (CI P w K mg base (slf :: N) qual scope f cda cc A outer s (upd st.H a (exo a C none)) E) (.Name slf q1) (tVar 0) := pe_var rfl (.inl X0.ka) hd hcl
  refine (pss_one (ps_asg (he A outer s _ E) (pg_xf X0.b X0.c hno hself) (hs A outer s _ E) (hw A outer s _ E))).run [] s' _ t.H _ I1 ?_
  rw [← et] at r2
  refine tX.ok (t := t) ot (eo.le lt) r2 fun v u ou eu lu ru => ?_
  exact ⟨.ref a, hσ, a, rfl, .inl ⟨mine (lt.trans lu), fun dx hx hxa => fin u dx [(fn, v)] ou eu (lt.trans lu) hx hxa (.cons ru .nil)⟩⟩
end
end T
end S_TIni4
section S_TIni5
set_option Elab.async false
set_option linter.all false
set_option maxRecDepth 100000
set_option maxHeartbeats 4000000
namespace T
open PySem L2 PySem.Spec PyProof.Rows
theorem upd_swap {H : Hp} {x a : Addr} {o o' u : HO} (h : x ≠ a) : upd (upd (upd H x o) a u) x o' = upd (upd H x o') a u := by
  funext b
  by_cases h1 : b = x
  · subst h1
    rw [upd_same, upd_ne h, upd_same]
  · rw [upd_ne h1]
    by_cases h2 : b = a
    · subst h2
      rw [upd_same, upd_same]
    · rw [upd_ne h2, upd_ne h2, upd_ne h1, upd_ne h1]
section
variable {P : Program} {w : World} {K : PySem.W.Frag} {mg : Str → Option Value} {base : Heap} {N ps : List Str} {qual : Str} {scope : Scope} {f cc cda C : Addr} {slf name fn fn' : Str} {params : Arguments} {dV kV doc pm ct oc : Value} {an od : Option Addr} {osl : Array (Option Value)}
  {B newId initId : String} {bm : List Value} {k : Nat} {e e1 e2 : Expr} {es : List Expr} {p0 p1 p2 p3 p4 q1 q2 q3 q4 q5 q6 q7 : Pos} {ma me : SemA} {k1 k2 : Nat}
theorem ini2_ok (lk : K.lookup f = some ⟨oc, od, .func (PySem.W.ksFn name qual params [supS p0 p1 p2 p3 p4 (e :: es), .Assign [.Tuple [.Attribute (.Name slf q1) fn q2, .Attribute (.Name slf q4) fn' q5] k1 q6] (.Tuple [e1, e2] k2 q7) q3] scope dV kV doc pm an (.ref cda) ct cc), osl⟩) (hcd : PySem.W.codeIn K (.ref cda) qual = true) (S : InScope (slf :: N) (slf :: ps) scope)
    (hcc : ∃ cl cld v csl, K.lookup cc = some ⟨cl, cld, .cell v, csl⟩) (hno : PySem.W.findIn K (.ref C) fn = some none) (hno' : PySem.W.findIn K (.ref C) fn' = some none)
    (SX : ∀ A outer s H E, SupX (CI P w K mg base (slf :: N) qual scope f cda cc A outer s H E) C f cda cc slf B newId initId bm) (hd : (slf == ("__debug__" : Str)) = false) (hcl : (slf == ("__classdict__" : Str)) = false)
    (SE : ∀ A outer s H E, SupE (CI P w K mg base (slf :: N) qual scope f cda cc A outer s H E) p0 p1 p2 p3 p4 e es)
    (ha : ∀ A outer s H E, PA (CI P w K mg base (slf :: N) qual scope f cda cc A outer s H E) (e :: es) (tA K mg (WE E) ma)) (he : ∀ A outer s H E, PA (CI P w K mg base (slf :: N) qual scope f cda cc A outer s H E) [e1, e2] (tA K mg (WE E) me))
    (hs : ∀ A outer s H E, swapsWithSole [.Tuple [.Attribute (.Name slf q1) fn q2, .Attribute (.Name slf q4) fn' q5] k1 q6] (.Tuple [e1, e2] k2 q7) q3.line (CI P w K mg base (slf :: N) qual scope f cda cc A outer s H E).env = pure false) (hw : ∀ A outer s H E, swappedStores [.Tuple [.Attribute (.Name slf q1) fn q2, .Attribute (.Name slf q4) fn' q5] k1 q6] (.Tuple [e1, e2] k2 q7) (CI P w K mg base (slf :: N) qual scope f cda cc A outer s H E).env = pure none) :
    FnOk P w K mg base (L2.CX P w) (k + 1) f (PySem.W.ksFn name qual params [supS p0 p1 p2 p3 p4 (e :: es), .Assign [.Tuple [.Attribute (.Name slf q1) fn q2, .Attribute (.Name slf q4) fn' q5] k1 q6] (.Tuple [e1, e2] k2 q7) q3] scope dV kV doc pm an (.ref cda) ct cc) (slf :: ps) (spI C ps.length (ini2 N.length ma fn fn' me) K mg) := by
  refine fn_ini lk hcd S hcc (fun vs H Q E h => ?_) fun A outer s H vs Q E s1 hr hsp I => ?_
  · obtain ⟨_, _, ws, _, rfl, hl, _⟩ := h
    simp [hl]
  obtain ⟨st, a, ws, ds, rfl, hl, hHa, rfl, ok, rl, fs, S', hφ, fin⟩ := hsp
  obtain ⟨as, S1, r1, hφ⟩ := bind_is_ok hφ
  split at hφ
  case isFalse => cases hφ
  rename_i has
  obtain ⟨d, S2, r2, hφ⟩ := bind_is_ok hφ
  split at hφ
  case h_2 => cases hφ
  rename_i x y
  cases hφ
  have X0 := SX A outer s (upd st.H a (exo a C none)) E
  have E0 := SE A outer s (upd st.H a (exo a C none)) E
  obtain ⟨fz, fr⟩ := ok.fresh hHa
  have oku : Ok K mg (st.prv a (exo a C none)) := ok.prv fr fz _
  have eo : EnvOk K mg (st.prv a (exo a C none)) (L2.start (slf :: N) (.ref a :: ws)) (none :: entry N.length ds) := entry_okI rl
  have hσ : (L2.start (slf :: N) (.ref a :: ws))[0]? = some (some (.ref a)) := by unfold L2.start; simp
  have mine : ∀ {t : Stt}, Le (st.prv a (exo a C none)) t → t.H a = some (exo a C none) := fun {t} l => (l.prv a _ upd_same fr fz).1
  refine PySem.ks_wpAt_execs_cons (PySem.ks_wpAt_mono (wp_super X0 (Q := fun H1 => ∃ t : Stt, t.H = H1 ∧ Ok K mg t ∧ t.S = S1 ∧ Le (st.prv a (exo a C none)) t) (ha A outer s _ E) rfl I hσ upd_same
    (tX.ok (t := st.prv a (exo a C none)) oku eo r1 fun v u ou eu lu ru => ⟨by rw [RpL.length ru]; exact has, mine lu, u, rfl, ou, eu, lu⟩) E0.ev E0.sw E0.st E0.pl) (fun fl s' hfl => ?_) fun _ _ x => x)
  obtain ⟨rfl, H1, I1, t, rfl, ot, et, lt⟩ := hfl
  show PySem.wpAt _ _ _ (execs _ _) _ _ _
  refine PySem.wpAt_of_wpAny ?_
  have self1 : PE (CI P w K mg base (slf :: N) qual scope f cda cc A outer s (upd st.H a (exo a C none)) E) (.Name slf q1) (tVar 0) := pe_var rfl (.inl X0.ka) hd hcl
  have self2 : PE (CI P w K mg base (slf :: N) qual scope f cda cc A outer s (upd st.H a (exo a C none)) E) (.Name slf q4) (tVar 0) := pe_var rfl (.inl X0.ka) hd hcl
  refine (pss_one (ps_asg (xTup (he A outer s _ E)) (pg_tup rfl (pgs_cons (pg_xf X0.b X0.c hno self1) (pgs_cons (pg_xf X0.b X0.c hno' self2) pgs_nil))) (hs A outer s _ E) (hw A outer s _ E))).run [] s' _ t.H _ I1 ?_
  rw [← et] at r2
  refine tX.ok (t := t) ot (eo.le lt) r2 fun v u ou eu lu ru => ?_
  obtain ⟨b, vs, rfl, sq, _, rv⟩ := rd_tup2 ou ru rfl
  obtain ⟨v1, v2, rfl, w1, w2⟩ := two rv
  refine ⟨b, _, rfl, sq, rfl, v1, _, rfl, .ref a, hσ, a, rfl, .inl ⟨mine (lt.trans lu), fun dx hx hxa => ?_⟩⟩
  refine ⟨v2, _, rfl, .ref a, hσ, a, rfl, .inr ⟨dx, [(fn, v1)], upd_same, ?_, by simp, rfl, ?_⟩⟩
  · rw [upd_ne hxa, upd_same]
  · rw [upd_swap hxa]
    exact fin u dx [(fn', v2), (fn, v1)] ou eu (lt.trans lu) hx hxa (.cons w2 (.cons w1 .nil))
end
end T
end S_TIni5
section S_TIni6
set_option Elab.async false
set_option linter.all false
set_option maxRecDepth 100000
set_option maxHeartbeats 4000000
namespace T
open PySem L2 PySem.Spec PyProof.Rows PySem.HandSPX
/-! ### C(..) of such a class, with keywords -/
section
variable {prog : Program} {w : World} {M : Model} {A : Around} {E : Value → Shared → Prop} {R : Result → Shared → Prop} {h : Heap} {g : Array GenState} {d : Drawn} {t : Nat} {os : OsState}
variable {nm q : Str} {C N : Addr} {bs bm : List Value} {hdct : Bool} {sn : List Str} {sub : List Value} {ab : Bool} {col : Option Bool} {dd : Option Addr} {k0 k1 k2 k3 k5 : Option Value} {B newId initId : String} {rest : List Value} {kw : List (Str × Value)}
theorem chk_new (F : ExcBaseFacts B newId initId bm) {Q : Unit → Shared → Prop} (hC : h.get? C = some (excClassObj nm q C N bs bm hdct sn sub ab col dd k0 k1 k2 k3 k5 newId)) (hq : Q () ⟨h, g, d, t, os⟩) : wpAny M A (checkBuiltinCall newId ⟨.ref C :: rest, kw⟩) Q E ⟨h, g, d, t, os⟩ := by
  have hB : (Value.ref C :: bm).contains (.type B) = true := by rw [List.contains_cons, F.hasB, Bool.or_true]
  have hstar := F.noStar
  simp only [checkBuiltinCall, F.newKind, F.newSplit, F.newRow]
  repeat (first | refine wpAny_loadPart_at hC ?_ | (refine wpAny_isSubtype_exc hC ?_; rw [hB]) | refine wpAny_staticBase_exc hC ?_ | refine wpAny_madeBy_exc hC ?_ | simp only [bne_self_eq_false, Bool.false_eq_true, if_false] | wp_step)
  exact hq
theorem run_new (F : ExcBaseFacts B newId initId bm) (hC : h.get? C = some (excClassObj nm q C N bs bm hdct sn sub ab col dd k0 k1 k2 k3 k5 newId)) (hrest : rest.length ≤ sizeLine)
    (hq : R (.ok (.ret (.ref (h.objs.size + 1)))) ⟨(h.push { cls := .type "tuple", data := .seq rest.toArray }).push { cls := .ref C, data := .fields #[.ref h.objs.size, .none, .none, .none, .bool false, .none] }, g, d, t, os⟩) :
    codeAny (model prog w) A (.builtin newId ⟨.ref C :: rest, kw⟩) R ⟨h, g, d, t, os⟩ := by
  have hends := F.ends
  have hB : (Value.ref C :: bm).contains (.type B) = true := by rw [List.contains_cons, F.hasB, Bool.or_true]
  have hA : (Value.ref C :: bm).contains (.type "AttributeError") = false := by rw [List.contains_cons, F.noAttr]; rfl
  have hN : (Value.ref C :: bm).contains (.type "NameError") = false := by rw [List.contains_cons, F.noName]; rfl
  refine codeAny_builtinAt F.entry ?_
  unfold Builtin.«BaseException.__new__»
  refine PySem.wpAt_bind ?_
  show PySem.wpAt _ _ _ (stack >>= _) _ _ _
  refine PySem.wpAt_bind (PySem.wpAt_stack fun p below => PySem.wpAt_of_wpAny ?_)
  wp_walk
  refine PySem.wpAt_of_wpAny ?_
  rw [F.owner]
  repeat (first | with_reducible refine wpAny_madeHere_exc F.canon hC ?_ | with_reducible refine wpAny_loadPart_at hC ?_ | (with_reducible refine wpAny_isSubtype_exc hC ?_; first | rw [hB] | rw [hA] | rw [hN]) | wp_step)
  show R _ _
  rw [Heap.size_push]
  exact hq
theorem run_typeCall (F : ExcBaseFacts B newId initId bm) {fI : Addr} {Q : Fin → Shared → Prop} (hC : h.get? C = some (excClassObj nm q C N bs bm hdct sn sub ab col dd k0 k1 k2 k3 k5 newId))
    (hi : W.Looks (model prog w) h (typeLookup (.ref C) "__init__") (some (.ref fI))) (hb : ∀ self, W.Looks (model prog w) h (bindSpecial (.ref fI) self) (.ref fI, [self])) (hrest : rest.length ≤ sizeLine)
    (hq : codeAny (model prog w) A (.call (.ref fI) ⟨.ref (h.objs.size + 1) :: rest, kw⟩) (fun r s' => match r with | .ok (.ret v) => v = .none ∧ Q (.done (.ret (.ref (h.objs.size + 1)))) s' | .ok _ => False | .error e => E e s') ⟨(h.push (W.kdv_tup rest)).push (excO C h.objs.size), g, d, t, os⟩) :
    wpAny (model prog w) A (Builtin.«type.__call__» ⟨.ref C :: rest, kw⟩) Q E ⟨h, g, d, t, os⟩ := by
  repeat (first | with_reducible refine wpAny_loadPart_at hC ?_ | with_reducible refine wpAny_madeBy_exc hC ?_ | wp_step)
  refine codeAny_call_builtin_code (Code.quiet_builtin _ F.quiet) (chk_new F hC ?_)
  refine run_new F hC hrest ?_
  show wpAny _ _ _ _ _ _
  have k : ∀ b o, h.get? b = some o → ((h.push (W.kdv_tup rest)).push (excO C h.objs.size)).get? b = some o := fun b o e => Heap.get?_push_of_some _ (Heap.get?_push_of_some _ e)
  have hC1 := k _ _ hC
  have hget : ((h.push (W.kdv_tup rest)).push (excO C h.objs.size)).get? (h.objs.size + 1) = some (excO C h.objs.size) := by heap_get
  have hcC : (Value.ref C :: bm).contains (.ref C) = true := by simp
  have i1 := hi.keeps k
  have b1 := (hb (.ref (h.objs.size + 1))).keeps k
  unfold isInstance
  repeat (first | with_reducible refine wpAny_loadPart_at hget ?_ | (with_reducible refine wpAny_isSubtype_exc hC1 ?_; rw [hcC]) | wp_step)
  show wpAny _ _ (typeLookup (.ref C) _) _ _ _
  refine i1.at ?_
  refine wpAny_holding (wpAny_bind (b1.at ?_))
  refine wpAny_bind (wpAny_call (codeAny_mono hq fun r s' z => ?_))
  rcases r with e | (v | _ | _ | _) <;> first | exact z | exact z.elim | skip
  obtain ⟨rfl, z⟩ := z
  first | exact wpAny_pure (wpAny_pure z) | (wp_walk; exact z)
theorem chk_typeCall {Q : Unit → Shared → Prop} (hC : h.get? C = some (excClassObj nm q C N bs bm hdct sn sub ab col dd k0 k1 k2 k3 k5 newId)) (hq : Q () ⟨h, g, d, t, os⟩) : wpAny M A (checkBuiltinCall "type.__call__" ⟨.ref C :: rest, kw⟩) Q E ⟨h, g, d, t, os⟩ := by
  have f3 := tc_sub
  have hT : (⟨h, g, d, t, os⟩ : Shared).TypeIs (.ref C) "type" := ⟨_, hC, rfl⟩
  simp only [checkBuiltinCall, tc_kind, tc_split]
  repeat (any_goals (first | assumption | with_reducible refine wpAny_loadPart_at hC ?_ | with_reducible refine wpAny_onRaise ?_ | with_reducible refine wpAny_map ?_ | wp_step))
theorem run_make (F : ExcBaseFacts B newId initId bm) {fI : Addr} (hC : h.get? C = some (excClassObj nm q C N bs bm hdct sn sub ab col dd k0 k1 k2 k3 k5 newId))
    (hi : W.Looks (model prog w) h (typeLookup (.ref C) "__init__") (some (.ref fI))) (hb : ∀ self, W.Looks (model prog w) h (bindSpecial (.ref fI) self) (.ref fI, [self])) (hrest : rest.length ≤ sizeLine)
    (hq : codeAny (model prog w) (A.under (.builtin "type.__call__" ⟨.ref C :: rest, kw⟩)) (.call (.ref fI) ⟨.ref (h.objs.size + 1) :: rest, kw⟩) (W.InitBack (h.objs.size + 1) R) ⟨(h.push (W.kdv_tup rest)).push (excO C h.objs.size), g, d, t, os⟩) :
    codeAny (model prog w) A (.call (.ref C) ⟨rest, kw⟩) R ⟨h, g, d, t, os⟩ := by
  have f1 := tc_lookup
  have f2 := tc_bind (.ref C)
  have hTy : (⟨h, g, d, t, os⟩ : Shared).TypeIs (.ref C) "type" := ⟨_, hC, rfl⟩
  refine codeAny_of_tree ?_
  show wpAny _ _ (callAny (.ref C) _) _ _ _
  repeat (any_goals (first | assumption | with_reducible refine wpAny_loadPart_at hC ?_ | wp_step))
  refine ⟨rfl, ?_⟩
  refine codeAny_call_builtin_at (Code.quiet_builtin _ (by decide +kernel)) entry_typeCall (chk_typeCall hC (run_typeCall F hC hi hb hrest ?_))
  refine codeAny_mono hq fun r s' z => ?_
  rcases r with e | (v | _ | _ | _) <;> exact z
end
end T
end S_TIni6
section S_TIni7
set_option Elab.async false
set_option linter.all false
set_option maxRecDepth 100000
set_option maxHeartbeats 4000000
namespace T
open PySem L2 PySem.Spec PyProof.Rows
section
variable {K : PySem.W.Frag} {mg : Str → Option Value}
theorem Ok.gone {u : Stt} (ok : Ok K mg u) {a : Addr} (h1 : u.Hf a = none) (h2 : a ∉ u.ρ) : Ok K mg { u with H := del u.H a } := by
  refine ⟨ok.len, ok.nd, fun b o e => ?_, fun n d b e1 e2 => ?_, ok.fz⟩
  · show del u.H a b = some o
    have e : u.Hf b = some o := e
    rw [del_ne (ne_of_none e h1)]
    exact ok.same _ _ e
  · have ne : b ≠ a := fun z => h2 (z ▸ List.mem_of_getElem? e2)
    obtain ⟨q1, q2⟩ := ok.lv n d b e1 e2
    refine ⟨q1, ?_⟩
    have q3 := CelOk.le (l := []) (Hx' := del u.H a) (Same.refl u.Hf) (fun o e => by rw [del_ne ne]; exact e) q2
    rw [List.append_nil] at q3
    exact q3
/-- what is known stays known -/
theorem Le.keeps {t u : Stt} (ot : Ok K mg t) (ou : Ok K mg u) (l : Le t u) {b : Addr} (h : u.H b = none) : t.H b = none := by
  cases e : t.H b with
  | none => rfl
  | some o =>
    exfalso
    cases ef : t.Hf b with
    | some o' => have := ou.same _ _ (l.same _ _ ef); rw [h] at this; cases this
    | none =>
      by_cases m : b ∈ t.ρ
      · obtain ⟨n, hn⟩ := List.getElem?_of_mem m
        obtain ⟨x, hx⟩ := l.pre
        obtain ⟨v, hv⟩ := ou.there (n := n) (a := b) (by rw [hx]; exact pre_get hn)
        rw [h] at hv; cases hv
      · have := (l.prv b o e ef m).1; rw [h] at this; cases this
end
/-- a class of exceptions as the text has it: made by its own __init__, which leaves φ -/
structure XMk (P : Program) (w : World) (K : PySem.W.Frag) (mg : Str → Option Value) (base : Heap) (x : Str) (st : Stmt) (k : Nat) (ps : List Str) (φ : FnI) : Prop where
  ex : ∃ (C fI : Addr) (B newId initId : String) (bm : List Value) (nm qual : Str) (kV doc pm ct : Value) (an : Option Addr) (cda cc : Addr), XB B newId initId bm ∧ XC K C newId bm ∧ mg x = some (.ref C) ∧ PySem.W.findIn K (.ref C) "__init__" = some (some (.ref fI)) ∧ PySem.W.typeIn K (.ref fI) = some (.type "function") ∧
    FnOk P w K mg base (L2.CX P w) k fI (PySem.W.ksFn nm qual (defArgs st) (defBody st) (defScope st) .none kV doc pm an (.ref cda) ct cc) ps (spI C (ps.length - 1) φ K mg)
section
variable {X : Cx}
theorem make_run {C fI : Addr} {B newId initId : String} {bm : List Value} {x : Str} {k : Nat} {fd : FuncData} {ps : List Str} {φ : FnI} {pins : List (Addr × Obj)} {σ : L2.St} {s : Shared} {Q : XK} {us us' : List Value} {kw : List (Str × Value)} {vs : List V} {t : Stt} {ds : List D} {fs : List (Str × D)} {S' : Sto}
    (b : XB B newId initId bm) (c : XC X.K C newId bm) (gC : X.mg x = some (.ref C)) (iC : PySem.W.findIn X.K (.ref C) "__init__" = some (some (.ref fI))) (tI : PySem.W.typeIn X.K (.ref fI) = some (.type "function"))
    (F : FnOk X.prog X.w X.K X.mg X.base (L2.CX X.prog X.w) k fI fd ps (spI C (ps.length - 1) φ X.K X.mg)) (hr : Room (k + 1) X.A) (I : Inv X pins σ t.H s) (ot : Ok X.K X.mg t) (hb : ∀ (self : Value) (s : Shared), BindsTo s fd ⟨self :: us, kw⟩ (ps.zip (self :: us'))) (r : Vals vs us') (hus : us.length ≤ 1000) (rv : RpL X.K X.mg t.Hf t.ρ vs ds) (hl : vs.length = ps.length - 1)
    (hφ : φ ds t.S = .ok fs S') (hne : fs ≠ []) (hq : ∀ (u : Stt) (d : Option Addr), Ok X.K X.mg u → u.S = S' → Le t u → XRp X.K X.mg u x fs (.ref C) d → Q (.ref C) d u.H) :
    wpAny (model X.prog X.w) X.A (call (.ref C) us kw) (MkP X pins σ Q) X.xe s := by
  obtain ⟨nm, qn, N, bs, sn, sub, ab, col, dd, k0, k1, k2, k3, k5, hC⟩ := c.cls
  obtain ⟨hp, g, dr, tk, os⟩ := s
  have hsz : hp.objs.size ≤ hp.objs.size + 1 := Nat.le_succ _
  have hn : t.H (hp.objs.size + 1) = none := I.hok.fresh hsz
  have kk : ∀ b o, hp.get? b = some o → ((hp.push (PySem.W.kdv_tup us)).push (PySem.HandSPX.excO C hp.objs.size)).get? b = some o := fun b o e => Heap.get?_push_of_some _ (Heap.get?_push_of_some _ e)
  have hget : ((hp.push (PySem.W.kdv_tup us)).push (PySem.HandSPX.excO C hp.objs.size)).get? (hp.objs.size + 1) = some (PySem.HandSPX.excO C hp.objs.size) := by heap_get
  have I2 : Inv X pins σ (upd t.H (hp.objs.size + 1) (exo (hp.objs.size + 1) C none)) ⟨(hp.push (PySem.W.kdv_tup us)).push (PySem.HandSPX.excO C hp.objs.size), g, dr, tk, os⟩ :=
    I.laid (t' := tk) (a := hp.objs.size + 1) (o := exo (hp.objs.size + 1) C none) (h' := (hp.push (PySem.W.kdv_tup us)).push (PySem.HandSPX.excO C hp.objs.size)) kk hsz (exo_ok hget)
  have r2 : Vals (V.ref (hp.objs.size + 1) :: vs) (Value.ref (hp.objs.size + 1) :: us') := .cons rfl r
  have hz : us.length ≤ sizeLine := by rw [sizeLine_eq]; omega
  have sp : spI C (ps.length - 1) φ X.K X.mg (V.ref (hp.objs.size + 1) :: vs) (upd t.H (hp.objs.size + 1) (exo (hp.objs.size + 1) C none)) (fun v H2 => v = .non ∧ ∃ (u : Stt) (dx : Addr) (vfs : List (Str × V)), Ok X.K X.mg u ∧ u.S = S' ∧ Le (t.prv (hp.objs.size + 1) (exo (hp.objs.size + 1) C none)) u ∧ u.H dx = none ∧ dx ≠ hp.objs.size + 1 ∧ RpF X.K X.mg u.Hf u.ρ vfs fs ∧ H2 = upd (upd u.H dx (exd dx vfs)) (hp.objs.size + 1) (exo (hp.objs.size + 1) C (some dx))) (fun _ _ _ => False) :=
    ⟨t, _, vs, ds, rfl, hl, hn, rfl, ot, rv, fs, S', hφ, fun u dx vfs o1 o2 o3 o4 o5 o6 => ⟨rfl, u, dx, vfs, o1, o2, o3, o4, o5, o6, rfl⟩⟩
  refine wpAny_call (run_make b.f (I.kIn _ _ hC) (PySem.W.looks_findIn I.kIn iC) (fun self => PySem.W.bind_fn I.kIn self tI) hz
    (codeAny_mono (F.run _ X.stack _ _ ⟨Value.ref (hp.objs.size + 1) :: us, kw⟩ (Value.ref (hp.objs.size + 1) :: us') _ _ (fun _ _ _ => False) (hr.make C us kw) (I2.env0.make C us kw) (hb _ _) r2 sp) fun r s' hq' => ?_))
  cases r with
  | error er => exact psg0 (X := X) σ pins _ _ er s' I2 hq'
  | ok fl =>
    cases fl with
    | next => exact False.elim hq'
    | brk => exact False.elim hq'
    | cont => exact False.elim hq'
    | ret u0 =>
      obtain ⟨v, H2, os2, bare2, un2, hok2, rv', ev, u, dx, vfs, o1, o2, o3, o4, o5, o6, e2⟩ := hq'
      subst ev e2
      obtain ⟨h2, g2, d2, t2, os'⟩ := s'
      obtain ⟨fz, fr⟩ := ot.fresh hn
      obtain ⟨a1, a2, a3⟩ := o3.prv (hp.objs.size + 1) _ upd_same fr fz
      have od : Ok X.K X.mg { u with H := del u.H (hp.objs.size + 1) } := o1.gone a2 a3
      have ld : Le t { u with H := del u.H (hp.objs.size + 1) } := by
        refine ⟨o3.same, o3.pre, fun b o e1 e2 e3 => ?_⟩
        have ne : b ≠ hp.objs.size + 1 := ne_of_none e1 hn
        obtain ⟨q1, q2, q3⟩ := o3.prv b o (by show upd t.H _ _ b = _; rw [upd_ne ne]; exact e1) e2 e3
        exact ⟨by show del u.H _ b = _; rw [del_ne ne]; exact q1, q2, q3⟩
      have hx : del u.H (hp.objs.size + 1) dx = none := by rw [del_ne o5]; exact o4
      have on : Ok X.K X.mg (Stt.new { u with H := del u.H (hp.objs.size + 1) } dx (.xd vfs)) := od.new hx _
      have ln := Le.new od hx (.xd vfs)
      have hd1 : t.H dx = none := Le.keeps ot od ld hx
      have eH : upd (del (upd (upd u.H dx (exd dx vfs)) (hp.objs.size + 1) (exo (hp.objs.size + 1) C (some dx))) (hp.objs.size + 1)) dx (.xd vfs) = upd (del u.H (hp.objs.size + 1)) dx (.xd vfs) := by
        funext y
        by_cases y1 : y = dx
        · rw [y1, upd_same, upd_same]
        · rw [upd_ne y1, upd_ne y1]
          by_cases y2 : y = hp.objs.size + 1
          · rw [y2, del_same, del_same]
          · rw [del_ne y2, del_ne y2, upd_ne y2, upd_ne y1]
      have xr : XRp X.K X.mg (Stt.new { u with H := del u.H (hp.objs.size + 1) } dx (.xd vfs)) x fs (.ref C) (some dx) := by
        refine ⟨C, vfs, gC, rfl, .inr ⟨dx, rfl, upd_same, fun z => ?_⟩, RpF.le ln o6⟩
        subst z
        cases o6
        exact hne rfl
      have fin := hq _ (some dx) on o2 (ld.trans ln) xr
      refine ⟨rv', mk_end (raises_own c.exC c.tyC) I hsz kk un2 hok2 os2 bare2 upd_same (by rw [upd_ne o5, upd_same]) hd1 ?_⟩
      rw [eH]
      exact fin
end
end T
end S_TIni7
section S_TIni8
set_option Elab.async false
set_option linter.all false
set_option maxRecDepth 100000
set_option maxHeartbeats 4000000
namespace T
open PySem L2 PySem.Spec PyProof.Rows
/-! ### C(..): raised, or kept as a value -/
abbrev RX (K : PySem.W.Frag) (mg : Str → Option Value) (x : Str) : Stt → Value × Option Addr → List (Str × D) → Prop := fun t v fs => XRp K mg t x fs v.1 v.2
abbrev SemX := Env → Sto → Res (List (Str × D))
/-- the reading of an expression that makes an exception of the class x -/
def tMk (K : PySem.W.Frag) (mg : Str → Option Value) (W : WX) (x : Str) (m : SemX) : L2.St → Hp → XK → Prop := fun σ H Q => tX K mg (RX K mg x) W m σ H fun v H' => Q v.1 v.2 H'
def neF : List (Str × D) → Bool
  | [] => false
  | _ => true
def fsOf : Res (List (Str × D)) → Res (List (Str × D))
  | .ok fs S2 => if neF fs then .ok fs S2 else .bad
  | _ => .bad
def xMk (φ : FnI) (n : Nat) (ma : SemA) : SemX := fun env S => (ma env S).bind fun ds S1 => if ds.length = n then fsOf (φ ds S1) else .bad
def xMkK (φ : FnI) (n : Nat) (π : List Nat) (mk : SemA) : SemX := fun env S => (mk env S).bind fun ds S1 => if ds.length = n then fsOf (φ (perm π ds) S1) else .bad
def xMk0 : SemX := fun _ S => .ok [] S
def sMk (x : Str) (m : SemX) : SemE := fun env S => (m env S).bind fun fs S1 => .ok (.exc x fs) S1
def sRaiseX (x : Str) (m : SemX) : SemS := fun env S => ofE (m env S) env fun fs S1 => .exc x fs env S1
section
variable {X : Cx} {W : WX} {x : Str} {m : SemX} {e : Expr}
theorem mk_raise {pos : Pos} (tk : Takes X W) (he : PMk X e (tMk X.K X.mg W x m)) (hc : X.calm = true := by rfl) : PS X (.Raise (some e) none pos) (tS X.K X.mg W (sRaiseX x m)) := (ps_raise (W := W) hc tk he).mono fun D σ H h => by
  obtain ⟨s, env, rfl, o, eo, h⟩ := h
  refine ⟨s, env, rfl, o, eo, ?_⟩
  unfold sRaiseX at h
  cases q : m env s.S with
  | ok fs S1 =>
    rw [q] at h
    intro v t ot et lt r
    exact h v.1 v.2 σ t ot et lt (eo.le lt) r
  | exc C fs S1 =>
    rw [q] at h
    intro c d t ot et lt r
    exact h c d σ t ot et lt (eo.le lt) r
  | bad => rw [q] at h; exact h
/-- what was made is kept -/
theorem mk_value (he : PMk X e (tMk X.K X.mg W x m)) (hex : X.ex = [] := by rfl) : PE X e (tE X.K X.mg W (sMk x m)) := by
  refine ⟨fun pins s σ H Q I h => ?_⟩
  have h2 : tMk X.K X.mg W x m σ H (fun cls d H' => ∀ a, H' a = none → Q (.ref a) (upd H' a (XO cls d a))) := by
    obtain ⟨s, env, rfl, o, eo, h⟩ := h
    refine ⟨s, env, rfl, o, eo, ?_⟩
    unfold sMk at h
    cases q : m env s.S with
    | ok fs S1 =>
      rw [q] at h
      intro v t ot et lt r a ha
      exact h (.ref a) (t.new a (XO v.1 v.2 a)) (ot.new ha _) et (lt.trans (Le.new ot ha _)) (exc_new ot r ha)
    | exc C fs S1 => rw [q] at h; exact h
    | bad => rw [q] at h; exact h
  refine wpAny_mono (he pins s σ H _ I h2) (fun u s' hu => ?_) fun _ _ z => z
  obtain ⟨a, oe, vs, sI, H', cls, d, rfl, J, k, hne, ha, hz, hd, h1, na, os, ag, r, q⟩ := hu
  have J2 : Inv X pins σ H' s' := J.call' (ch := []) os (Un.kept k) (J.hok.kept k) ag (fun b z => absurd z (by simp))
  have h0 : X.s_0.heap.get? a = none := by
    cases z : X.s_0.heap.get? a with
    | none => rfl
    | some o =>
      obtain ⟨o', e'⟩ := J.base.there a o z (by rw [hex]; simp)
      rw [hne] at e'; cases e'
  refine ⟨.ref a, _, inv_track J2 na h0 ?_ ?_ ?_ ?_, rfl, q a na⟩
  · intro z
    obtain ⟨mm, ⟨o', es, ep, ho', _⟩, _⟩ := J.loc
    rw [← z, hne] at ho'; cases ho'
  · intro y c hc z
    obtain ⟨v, o', ho', _⟩ := J.cell y c hc
    rw [z, hne] at ho'; cases ho'
  · intro p hp z
    have := (J.pin p hp).1
    rw [z, hne] at this; cases this
  · exact ⟨⟨oe, vs, ha, hz, hd⟩, ⟨_, ha⟩, fun h1 h2 z k => by
      obtain ⟨oe', vs', q1, q2, q3⟩ := z
      exact ⟨oe', vs', k _ q1, q2, q3⟩⟩
theorem fsOf_ok {K : PySem.W.Frag} {mg : Str → Option Value} {β : Type} {R : Stt → β → List (Str × D) → Prop} {σ : L2.St} {Q : β → Hp → Prop} {u : Stt} {r : Res (List (Str × D))} (h : RS K mg R W σ Q u (fsOf r)) : ∃ fs S2, r = .ok fs S2 ∧ fs ≠ [] ∧ RS K mg R W σ Q u (.ok fs S2) := by
  cases r with
  | exc _ _ _ => exact h.elim
  | bad => exact h.elim
  | ok fs S2 =>
    have h : RS K mg R W σ Q u (if neF fs then .ok fs S2 else .bad) := h
    split at h
    case isFalse => exact h.elim
    rename_i hne
    exact ⟨fs, S2, rfl, (fun z => by subst z; cases hne), h⟩
theorem mk_own {st : Stmt} {k j n : Nat} {ps : List Str} {φ : FnI} {p pos : Pos} {es : List Expr} {ma : SemA} (M : XMk X.prog X.w X.K X.mg X.base x st k ps φ) (hr : Room j X.A) (hn : ps.length = n + 1)
    (hb : ∀ (nm qual : Str) (kV doc pm ct : Value) (an : Option Addr) (cda cc : Addr) (self : Value) (us : List Value), us.length = n → bindArgs (PySem.W.ksFn nm qual (defArgs st) (defBody st) (defScope st) .none kV doc pm an (.ref cda) ct cc) ⟨self :: us, []⟩ = pure (ps.zip (self :: us)))
    (ha : PA X (e :: es) (tA X.K X.mg W ma)) (hl : n ≤ 1000 := by decide) (hk : k + 1 ≤ j := by decide) (hg : Gl X x := by rfl) (hdb : (x == ("__debug__" : Str)) = false := by decide)
    (he : starEach (e :: es) X.env = (false, eval e X.env) :: starEach es X.env := by rfl) (hpl : (backTo pos (starEach es X.env)).any (·.1) = false := by rfl) : PMk X (.Call (.Name x p) (e :: es) [] pos) (tMk X.K X.mg W x (xMk φ n ma)) := by
  intro pins s σ H Q I h
  obtain ⟨C, fI, B, newId, initId, bm, nm, qual, kV, doc, pm, ct, an, cda, cc, b, c, gC, iC, tI, F⟩ := M.ex
  obtain ⟨t, env, rfl, o, eo, h⟩ := h
  refine wpAny_Call_Name_kw (ld_glob I hg gC ?_ hdb)
  have h1 : tA X.K X.mg W ma σ t.H (fun vs H1 => ∃ (u : Stt) (ds : List D), u.H = H1 ∧ Ok X.K X.mg u ∧ RpL X.K X.mg u.Hf u.ρ vs ds ∧ RS X.K X.mg (RX X.K X.mg x) W σ (fun v H' => Q v.1 v.2 H') u (if ds.length = n then fsOf (φ ds u.S) else .bad)) := RS.go (R := RA X.K X.mg) h o eo fun vs u ds ou lu rv h => ⟨u, ds, rfl, ou, rv, h⟩
  refine PySem.W.callWith_K (h₀ := X.base) I.ok.mod.kin c.kC (thn (ha.run pos pins s σ t.H _ I h1) fun us s1 ⟨vs, H1, I1, r1, u, ds, e1, ou, rv, h⟩ => ⟨I1.kIn, ?_⟩) he hpl
  subst e1
  split at h
  case isFalse => exact h.elim
  rename_i hds
  obtain ⟨fs, S2, q, hne, h⟩ := fsOf_ok h
  have hvs : vs.length = n := by rw [rv.length]; exact hds
  have hus : us.length = n := by rw [← r1.length]; exact hvs
  show wpAny _ _ (call (.ref C) us) _ _ _
  exact make_run b c gC iC tI F (hr.mono hk) I1 ou (fun self s => .of_eq (hb nm qual kV doc pm ct an cda cc self us hus)) r1 (by omega) rv (by omega) q hne fun u2 d o2 e2 l2 xr => h (.ref C, d) u2 o2 e2 l2 xr
theorem mk_ownK {st : Stmt} {k j n : Nat} {ps : List Str} {φ : FnI} {p pos : Pos} {kws : List Keyword} {mk : SemA} (π : List Nat) (kn : List Str) (M : XMk X.prog X.w X.K X.mg X.base x st k ps φ) (hr : Room j X.A) (hn : ps.length = n + 1) (hπ : ∀ {α : Type} (l : List α), l.length = n → (perm π l).length = n)
    (hb : ∀ (nm qual : Str) (kV doc pm ct : Value) (an : Option Addr) (cda cc : Addr) (self : Value) (ws : List Value), ws.length = n → bindArgs (PySem.W.ksFn nm qual (defArgs st) (defBody st) (defScope st) .none kV doc pm an (.ref cda) ct cc) ⟨[self], kn.zip ws⟩ = pure (ps.zip (self :: perm π ws)))
    (hkw : PK X kws (tA X.K X.mg W mk)) (hall : (backToKw pos (keywordEach kws X.env)).all (·.1.isSome) = true := by rfl) (hks : (backToKw pos (keywordEach kws X.env)).filterMap (·.1) = kn := by rfl) (hk : k + 1 ≤ j := by decide) (hg : Gl X x := by rfl) (hdb : (x == ("__debug__" : Str)) = false := by decide)
    (hpl : ((backTo pos (starEach [] X.env)).any (·.1) || (backToKw pos (keywordEach kws X.env)).any (·.1.isNone)) = false := by rfl) : PMk X (.Call (.Name x p) [] kws pos) (tMk X.K X.mg W x (xMkK φ n π mk)) := by
  intro pins s σ H Q I h
  obtain ⟨C, fI, B, newId, initId, bm, nm, qual, kV, doc, pm, ct, an, cda, cc, b, c, gC, iC, tI, F⟩ := M.ex
  obtain ⟨t, env, rfl, o, eo, h⟩ := h
  refine wpAny_Call_Name_kw (ld_glob I hg gC ?_ hdb)
  refine PySem.W.callWith_KW0 (h₀ := X.base) I.ok.mod.kin c.kC hall ?_ hpl
  have h1 : tA X.K X.mg W mk σ t.H (fun vs H1 => ∃ (u : Stt) (ds : List D), u.H = H1 ∧ Ok X.K X.mg u ∧ RpL X.K X.mg u.Hf u.ρ vs ds ∧ RS X.K X.mg (RX X.K X.mg x) W σ (fun v H' => Q v.1 v.2 H') u (if ds.length = n then fsOf (φ (perm π ds) u.S) else .bad)) := RS.go (R := RA X.K X.mg) h o eo fun vs u ds ou lu rv h => ⟨u, ds, rfl, ou, rv, h⟩
  refine thn (hkw.run pos pins s σ t.H _ I h1) fun ws s1 ⟨vs, H1, I1, r1, u, ds, e1, ou, rv, h⟩ => ⟨I1.kIn, ?_⟩
  subst e1
  rw [hks]
  split at h
  case isFalse => exact h.elim
  rename_i hds
  obtain ⟨fs, S2, q, hne, h⟩ := fsOf_ok h
  have hvs : vs.length = n := by rw [rv.length]; exact hds
  have hus : ws.length = n := by rw [← r1.length]; exact hvs
  exact make_run (us := []) b c gC iC tI F (hr.mono hk) I1 ou (fun self s => .of_eq (hb nm qual kV doc pm ct an cda cc self ws hus)) (vals_perm r1 π) (Nat.zero_le _) (rp_perm rv π) (by rw [hπ _ hvs]; omega) q hne fun u2 d o2 e2 l2 xr => h (.ref C, d) u2 o2 e2 l2 xr
/-- a class without an __init__ of its own -/
theorem mk_bare {C : Addr} {bmB : List Value} {B newId initId : String} {p pos : Pos} (F : ExcBaseFacts B newId initId bmB) (q : PySem.W.excIn X.K C bmB newId = true) (gC : X.mg x = some (.ref C)) (kC : PySem.W.keepIn X.K (.ref C) = true) (r : Raises X (.ref C)) (hg : Gl X x := by rfl) (hdb : (x == ("__debug__" : Str)) = false := by decide) :
    PMk X (.Call (.Name x p) [] [] pos) (tMk X.K X.mg W x xMk0) := fun pins s σ H Q I h => by
  obtain ⟨t, env, rfl, o, eo, h⟩ := h
  exact mk_own0 F q gC kC r hg hdb pins s σ _ Q I (h (.ref C, none) t o rfl (Le.refl t) ⟨C, [], gC, rfl, .inl ⟨rfl, rfl⟩, .nil⟩)
end
end T
end S_TIni8
section S_TIni9
set_option Elab.async false
set_option linter.all false
set_option maxRecDepth 100000
set_option maxHeartbeats 4000000
namespace T
open PySem L2 PySem.Spec PyProof.Rows
/-! ### e.f of a kept exception -/
def XFld (K : PySem.W.Frag) (mg : Str → Option Value) (xf : Str → Str → Bool) : Prop := ∀ (C n : Str) (ca : Addr), xf C n = true → mg C = some (.ref ca) → XfC K ca ∧ PySem.W.findIn K (.ref ca) n = some none
def fldX (xf : Str → Str → Bool) (n : Str) : D → Option D
  | .exc C fs => if xf C n then fs.lookup n else none
  | _ => none
def sFldX (xf : Str → Str → Bool) (n : Str) (m : SemE) : SemE := fun env S => (m env S).bind fun d S1 => match fldX xf n d with
  | some v => .ok v S1
  | none => .bad
theorem RpF.lookup {K : PySem.W.Frag} {mg : Str → Option Value} {Hf : Hp} {ρ : List Addr} {n : Str} {y : D} : ∀ {vfs : List (Str × V)} {fs : List (Str × D)}, RpF K mg Hf ρ vfs fs → fs.lookup n = some y → ∃ v, vfs.lookup n = some v ∧ Rp K mg Hf ρ v y
  | [], fs, h, e => by cases h; cases e
  | (k, v) :: vfs, fs, h, e => by
    cases h with
    | cons h1 h2 =>
      by_cases hk : n = k
      · subst hk
        simp [List.lookup] at e
        subst e
        exact ⟨v, by simp [List.lookup], h1⟩
      · have q : (n == k) = false := by simpa using hk
        simp only [List.lookup, q] at e ⊢
        exact RpF.lookup h2 e
section
variable {X : Cx} {W : WX} {e : Expr} {m : SemE} {n : Str} {pos : Pos} {xf : Str → Str → Bool}
theorem uFldX (hx : XFld X.K X.mg xf) (he : PE X e (tE X.K X.mg W m)) (hb : attributeBase e n X.env (eval e X.env) = eval e X.env := by rfl) : PE X (.Attribute e n pos) (tE X.K X.mg W (sFldX xf n m)) := by
  refine ⟨fun pins s σ H Q I h => ?_⟩
  obtain ⟨t, env, rfl, o, eo, h⟩ := h
  have h1 : tE X.K X.mg W m σ t.H (fun v H1 => ∃ (u : Stt) (d : D), u.H = H1 ∧ Ok X.K X.mg u ∧ Rp X.K X.mg u.Hf u.ρ v d ∧ RS X.K X.mg (RE X.K X.mg) W σ Q u (match fldX xf n d with
    | some v => .ok v u.S
    | none => .bad)) := RS.go (R := RE X.K X.mg) h o eo fun v u d ou lu rv h => ⟨u, d, rfl, ou, rv, h⟩
  refine attr_of hb (thn (he.run pins s σ t.H _ I h1) fun u0 s1 ⟨x, H1, I1, rx, u, d, e1, ou, rv, h⟩ => ?_)
  subst e1
  split at h
  case h_2 => exact h.elim
  rename_i y hy
  cases d with
  | exc C fs =>
    have hy : (if xf C n then fs.lookup n else none) = some y := hy
    split at hy
    case isFalse => cases hy
    rename_i hxf
    cases rv with
    | exc g1 g2 g3 g4 =>
      rename_i a ca dd vfs
      obtain ⟨T, hno⟩ := hx C n ca hxf g1
      obtain ⟨w, l, rw'⟩ := RpF.lookup g4 hy
      cases rx
      rcases g3 with ⟨_, rfl⟩ | ⟨d', rfl, g3, _⟩
      · cases l
      obtain ⟨⟨oe, vs, hget, hz, hd⟩, _⟩ := I1.hok a _ (ou.same _ _ g2)
      have hxd : ObjOk X.prog X.w u.H s1.heap d' (.xd vfs) := I1.hok d' _ (ou.same _ _ g3)
      obtain ⟨mA, hns, hr⟩ := hxd
      obtain ⟨od, ho, hl⟩ := lookIn_ns hns
      obtain ⟨z, hu, ru⟩ := RelO.some_of (v := w) (o := mA n) (by rw [← l]; exact hr n)
      have J : PySem.W.InstAt s1.heap a oe ca (some od) := ⟨hget, hz.1, by unfold PySem.W.notCls; rw [hd] <;> rfl, by rw [hz.2]; exact ho⟩
      exact HandSPX.exc_get I1.kIn J T.ga T.gg T.exC (PySem.W.findObj_own T.hdC hno rfl (by rw [hl, hu])) (handed_of ru) ⟨w, u.H, I1.tok _, ru, h.val ou rw'⟩
  | _ => cases hy
end
/-! ### isinstance of a kept exception -/
/-- the class that a name stands for -/
def ClsN (K : PySem.W.Frag) (mg : Str → Option Value) (b : Str) (u : Value) : Prop := (∃ cb, u = .ref cb ∧ mg b = some (.ref cb)) ∨ ∃ n, u = .type n ∧ mg b = none ∧ bootBuiltins b = some (.type n) ∧ b ≠ "__name__"
structure ExcK (K : PySem.W.Frag) (C : Addr) : Prop where
  e : ExcC K C
  c : (PySem.W.clsIn K C).isSome = true
def XIs (K : PySem.W.Frag) (mg : Str → Option Value) (xt : Str → Str → Option Bool) : Prop := ∀ (C b : Str) (ca : Addr) (r : Bool), xt C b = some r → mg C = some (.ref ca) → ExcK K ca ∧ ∃ u, ClsN K mg b u ∧ PySem.W.kitOne K (.ref ca) u = some r
def isX (xt : Str → Str → Option Bool) (b : Str) : D → Option Bool
  | .exc C _ => xt C b
  | _ => none
def sIsX (xt : Str → Str → Option Bool) (b : Str) (m : SemE) : SemE := fun env S => (m env S).bind fun d S1 => match isX xt b d with
  | some r => .ok (.bl r) S1
  | none => .bad
def sIsX2 (xt : Str → Str → Option Bool) (b c : Str) (m : SemE) : SemE := fun env S => (m env S).bind fun d S1 => match isX xt b d, isX xt c d with
  | some r, some r' => .ok (.bl (r || r')) S1
  | _, _ => .bad
section
variable {X : Cx} {W : WX} {e : Expr} {m : SemE} {xt : Str → Str → Option Bool}
/-- the instance at an exception's place -/
theorem exc_inst {K : PySem.W.Frag} {mg : Str → Option Value} {pins : List (Addr × Obj)} {σ : L2.St} {u : Stt} {s : Shared} {a ca : Addr} {d : Option Addr} {vfs : List (Str × V)} (I : Inv X pins σ u.H s) (ou : Ok K mg u) (g2 : u.Hf a = some (XO (.ref ca) d a)) (g3 : XD u.Hf d vfs) : ∃ ox od, PySem.W.InstAt s.heap a ox ca od := by
  obtain ⟨⟨oe, vs, hget, hz, hd⟩, _⟩ := I.hok a _ (ou.same _ _ g2)
  have hn : PySem.W.notCls oe = true := by unfold PySem.W.notCls; rw [hd] <;> rfl
  rcases g3 with ⟨rfl, _⟩ | ⟨d', rfl, g3, _⟩
  · exact ⟨oe, none, hget, hz.1, hn, by rw [hz.2]; trivial⟩
  · have hxd : ObjOk X.prog X.w u.H s.heap d' (.xd vfs) := I.hok d' _ (ou.same _ _ g3)
    obtain ⟨mA, hns, hr⟩ := hxd
    obtain ⟨od, ho, hl⟩ := lookIn_ns hns
    exact ⟨oe, some od, hget, hz.1, hn, by rw [hz.2]; exact ho⟩
def rX1 (K : PySem.W.Frag) (mg : Str → Option Value) : List V → Hp → VK → Prop := fun xs H Q => ∃ (u : Stt) (a ca : Addr) (d : Option Addr) (vfs : List (Str × V)) (c : V) (cv : Value) (r : Bool), u.H = H ∧ Ok K mg u ∧ xs = [.ref a, c] ∧ (∀ z, RelV c z → z = cv) ∧ u.Hf a = some (XO (.ref ca) d a) ∧ XD u.Hf d vfs ∧ ExcK K ca ∧ PySem.W.kitOne K (.ref ca) cv = some r ∧ Q (.bl r) H
theorem call_X1 : CallR X (.builtin "isinstance") (rX1 X.K X.mg) := by
  intro pins s σ H xs us Q I r h
  obtain ⟨u, a, ca, d, vfs, c, cv, b, rfl, ou, rfl, hc, g2, g3, E, k, q⟩ := h
  obtain ⟨u1, u2, rfl, r1, r2⟩ := vals2 r
  have e2 := hc _ r2
  subst e2
  cases r1
  obtain ⟨ox, od, J⟩ := exc_inst I ou g2 g3
  exact PySem.W.kia_one (PySem.W.kitx_exc E.c E.e.hg E.e.hk E.e.hs E.e.ha E.e.hn E.e.ht E.e.hm) I.kIn J k (fun w => nomatch w) fun tk => ⟨.bl b, u.H, I.kept (t' := tk) fun _ _ w => w, rfl, q⟩
def rX2 (K : PySem.W.Frag) (mg : Str → Option Value) : List V → Hp → VK → Prop := fun xs H Q => ∃ (u : Stt) (a ca tp : Addr) (d : Option Addr) (vfs : List (Str × V)) (n n2 : String) (r : Bool), u.H = H ∧ Ok K mg u ∧ xs = [.ref a, .ref tp] ∧ H tp = some (.tup [.ty n, .ty n2]) ∧ u.Hf a = some (XO (.ref ca) d a) ∧ XD u.Hf d vfs ∧ ExcK K ca ∧ PySem.W.kitAny K (.ref ca) [.type n, .type n2] = some r ∧ Q (.bl r) H
theorem call_X2 : CallR X (.builtin "isinstance") (rX2 X.K X.mg) := by
  intro pins s σ H xs us Q I r h
  obtain ⟨u, a, ca, tp, d, vfs, n, n2, b, rfl, ou, rfl, ht, g2, g3, E, k, q⟩ := h
  obtain ⟨u1, u2, rfl, r1, r2⟩ := vals2 r
  cases r1
  cases r2
  obtain ⟨ox, od, J⟩ := exc_inst I ou g2 g3
  obtain ⟨hz, its, rv, o, h1, h2, h3⟩ := (show ObjOk X.prog X.w u.H s.heap tp (.tup [.ty n, .ty n2]) from I.hok tp _ ht)
  obtain ⟨w1, w2, rfl, q1, q2⟩ := vals2 rv
  obtain rfl : w1 = Value.type n := q1
  obtain rfl : w2 = Value.type n2 := q2
  obtain ⟨oc, od', oda, osl⟩ := o
  dsimp only at h2 h3
  obtain ⟨n0, h3⟩ := h3
  subst h2 h3
  exact PySem.W.kia_tup (PySem.W.kitx_exc E.c E.e.hg E.e.hk E.e.hs E.e.ha E.e.hn E.e.ht E.e.hm) I.kIn J h1 k (fun w => nomatch w) fun tk => ⟨.bl b, u.H, I.kept (t' := tk) fun _ _ w => w, rfl, q⟩
end
end T
end S_TIni9
section S_TIni10
set_option Elab.async false
set_option linter.all false
set_option maxRecDepth 100000
set_option maxHeartbeats 4000000
namespace T
open PySem L2 PySem.Spec PyProof.Rows
section
variable {X : Cx} {W : WX} {e : Expr} {m : SemE} {xt : Str → Str → Option Bool} {b b2 : Str} {p pos pt pt2 ptt : Pos} {kk : Nat}
theorem isX_read {K : PySem.W.Frag} {mg : Str → Option Value} (hx : XIs K mg xt) {c : V} {cv : Value} (hc : ∀ z, RelV c z → z = cv) (hu : ∀ u, ClsN K mg b u → u = cv) {σ : L2.St} {H : Hp} {Q : VK} (h : tE K mg W (sIsX xt b m) σ H Q) : tE K mg W m σ H fun x H1 => rX1 K mg [x, c] H1 Q := by
  obtain ⟨s, env, rfl, o, eo, h⟩ := h
  refine RS.go (R := RE K mg) h o eo fun x u d ou lu rx h => ?_
  split at h
  case h_2 => exact h.elim
  rename_i r er
  cases d with
  | exc C fs =>
    cases rx with
    | exc g1 g2 g3 g4 =>
      obtain ⟨E, u', hn, k⟩ := hx _ _ _ _ er g1
      rw [hu u' hn] at k
      exact ⟨u, _, _, _, _, c, cv, r, rfl, ou, rfl, hc, g2, g3, E, k, h.val ou .bl⟩
  | _ => cases er
/-- isinstance(e, C), C a class of the text -/
theorem uIsX (hx : XIs X.K X.mg xt) (hm : X.mg "isinstance" = none) (hmb : ∃ cb, X.mg b = some (.ref cb)) (he : PE X e (tE X.K X.mg W m)) (hg : Gl X "isinstance" := by rfl) (hgb : Gl X b := by rfl) (hdb : (b == ("__debug__" : Str)) = false := by decide)
    (hs : starEach [e, .Name b pt] X.env = (false, eval e X.env) :: starEach [.Name b pt] X.env := by rfl) (hs2 : starEach [.Name b pt] X.env = (false, eval (.Name b pt) X.env) :: starEach [] X.env := by rfl) (hpl : (backTo pos (starEach [.Name b pt] X.env)).any (·.1) = false := by rfl) :
    PE X (.Call (.Name "isinstance" p) [e, .Name b pt] [] pos) (tE X.K X.mg W (sIsX xt b m)) := by
  obtain ⟨cb, hcb⟩ := hmb
  refine (pe_callB call_X1 hg hm (by decide +kernel) (pa_cons he (pa_cons (pe_glob (v := .ref cb) hgb hcb rfl hdb) pa_nil hs2) hs) (by decide) (by decide) hs hpl).mono fun σ H Q h => ?_
  refine isX_read hx (c := .ref cb) (cv := .ref cb) (fun z hz => hz) (fun u hu => ?_) h
  rcases hu with ⟨c2, rfl, q⟩ | ⟨n, _, q, _⟩
  · rw [hcb] at q; cases q; rfl
  · rw [hcb] at q; cases q
/-- isinstance(e, T), T a built-in class -/
theorem uIsXb {n : String} (hx : XIs X.K X.mg xt) (hm : X.mg "isinstance" = none) (hmb : X.mg b = none) (he : PE X e (tE X.K X.mg W m)) (hg : Gl X "isinstance" := by rfl) (hgb : Gl X b := by rfl) (hvb : bootBuiltins b = some (.type n) := by decide +kernel) (hnb : b ≠ "__name__" := by decide) (hdb : (b == ("__debug__" : Str)) = false := by decide)
    (hs : starEach [e, .Name b pt] X.env = (false, eval e X.env) :: starEach [.Name b pt] X.env := by rfl) (hs2 : starEach [.Name b pt] X.env = (false, eval (.Name b pt) X.env) :: starEach [] X.env := by rfl) (hpl : (backTo pos (starEach [.Name b pt] X.env)).any (·.1) = false := by rfl) :
    PE X (.Call (.Name "isinstance" p) [e, .Name b pt] [] pos) (tE X.K X.mg W (sIsX xt b m)) := by
  refine (pe_callB call_X1 hg hm (by decide +kernel) (pa_cons he (pa_cons (pe_bltn (v := .ty n) hgb hmb hvb rfl hnb hdb) pa_nil hs2) hs) (by decide) (by decide) hs hpl).mono fun σ H Q h => ?_
  refine isX_read hx (c := .ty n) (cv := .type n) (fun z hz => hz) (fun u hu => ?_) h
  rcases hu with ⟨c2, rfl, q⟩ | ⟨n', rfl, _, q, _⟩
  · rw [hmb] at q; cases q
  · rw [hvb] at q; cases q; rfl
/-- isinstance(e, (T1, T2)) of built-in classes -/
theorem uIsX2 {n n2 : String} (hx : XIs X.K X.mg xt) (hm : X.mg "isinstance" = none) (hmb : X.mg b = none) (hmb2 : X.mg b2 = none) (he : PE X e (tE X.K X.mg W m)) (hg : Gl X "isinstance" := by rfl) (hgb : Gl X b := by rfl) (hvb : bootBuiltins b = some (.type n) := by decide +kernel) (hnb : b ≠ "__name__" := by decide) (hdb : (b == ("__debug__" : Str)) = false := by decide)
    (hgb2 : Gl X b2 := by rfl) (hvb2 : bootBuiltins b2 = some (.type n2) := by decide +kernel) (hnb2 : b2 ≠ "__name__" := by decide) (hdb2 : (b2 == ("__debug__" : Str)) = false := by decide)
    (hs : starEach [e, .Tuple [.Name b pt, .Name b2 pt2] kk ptt] X.env = (false, eval e X.env) :: starEach [.Tuple [.Name b pt, .Name b2 pt2] kk ptt] X.env := by rfl) (hs2 : starEach [.Tuple [.Name b pt, .Name b2 pt2] kk ptt] X.env = (false, eval (.Tuple [.Name b pt, .Name b2 pt2] kk ptt) X.env) :: starEach [] X.env := by rfl)
    (hs3 : starEach [.Name b pt, .Name b2 pt2] X.env = (false, eval (.Name b pt) X.env) :: starEach [.Name b2 pt2] X.env := by rfl) (hs4 : starEach [.Name b2 pt2] X.env = (false, eval (.Name b2 pt2) X.env) :: starEach [] X.env := by rfl)
    (hpl : (backTo pos (starEach [.Tuple [.Name b pt, .Name b2 pt2] kk ptt] X.env)).any (·.1) = false := by rfl) :
    PE X (.Call (.Name "isinstance" p) [e, .Tuple [.Name b pt, .Name b2 pt2] kk ptt] [] pos) (tE X.K X.mg W (sIsX2 xt b b2 m)) :=
  (pe_callB call_X2 hg hm (by decide +kernel) (pa_cons he (pa_cons (pe_tup (pa_cons (pe_bltn (v := .ty n) hgb hmb hvb rfl hnb hdb) (pa_cons (pe_bltn (v := .ty n2) hgb2 hmb2 hvb2 rfl hnb2 hdb2) pa_nil hs4) hs3)) pa_nil hs2) hs) (by decide) (by decide) hs hpl).mono fun σ H Q h => by
    obtain ⟨s, env, rfl, o, eo, h⟩ := h
    refine RS.go (R := RE X.K X.mg) h o eo fun x u d ou lu rx h => ?_
    split at h
    case h_2 => exact h.elim
    rename_i r r' er er'
    cases d with
    | exc C fs =>
      cases rx with
      | exc g1 g2 g3 g4 =>
        obtain ⟨E, u1, hn1, k1⟩ := hx _ _ _ _ er g1
        obtain ⟨_, u2, hn2, k2⟩ := hx _ _ _ _ er' g1
        have z1 : u1 = .type n := by
          rcases hn1 with ⟨c2, rfl, q⟩ | ⟨n', rfl, _, q, _⟩
          · rw [hmb] at q; cases q
          · rw [hvb] at q; cases q; rfl
        have z2 : u2 = .type n2 := by
          rcases hn2 with ⟨c2, rfl, q⟩ | ⟨n', rfl, _, q, _⟩
          · rw [hmb2] at q; cases q
          · rw [hvb2] at q; cases q; rfl
        subst z1 z2
        refine ⟨by show 2 ≤ sizeLine; decide, fun q hq => ?_⟩
        have l2 := Le.new ou hq (.tup [.ty n, .ty n2])
        have o2 := ou.new hq (.tup [.ty n, .ty n2])
        refine ⟨u.new q (.tup [.ty n, .ty n2]), _, _, q, _, _, n, n2, r || r', rfl, o2, rfl, upd_same, l2.same _ _ g2, g3.mono l2.same, E, ?_, h _ (u.new q (.tup [.ty n, .ty n2])) o2 rfl l2 .bl⟩
        show (match PySem.W.kitOne X.K _ (.type n) with | some true => some true | some false => PySem.W.kitAny X.K _ [.type n2] | none => none) = _
        rw [k1]
        cases r with
        | true => rfl
        | false =>
          show (match PySem.W.kitOne X.K _ (.type n2) with | some true => some true | some false => PySem.W.kitAny X.K _ [] | none => none) = _
          rw [k2]
          cases r' <;> rfl
    | _ => cases er
end
end T
end S_TIni10
section S_THead
set_option Elab.async false
set_option linter.all false
set_option maxRecDepth 100000
set_option maxHeartbeats 4000000
namespace T
open PySem L2
def excB (K : PySem.W.Frag) (D : Addr) : Bool := decide (PySem.W.findIn K (.ref D) "__getattribute__" = some (some (.builtin "BaseException.__getattribute__"))) && (decide (PySem.W.findIn K (.ref D) "__getattr__" = some none) && (decide (PySem.W.subIn K (.ref D) (.type "BaseException") = some true) &&
  (PySem.W.hasDictIn K D && (decide (PySem.W.findIn K (.ref D) "__class__" = some (some (.builtin "object.__class__"))) && (decide (PySem.W.specialIn K (.builtin "object.__class__") "__get__" = some (some (.builtin "getset_descriptor.__get__"))) && (decide (PySem.W.takesIn K (.builtin "object.__class__") = some true) && decide (PySem.W.mroIn K D (.type "object") = some true)))))))
theorem excB_ok {K : PySem.W.Frag} {D : Addr} (h : excB K D = true) : ExcC K D := by
  obtain ⟨h1, h⟩ := He.ba h
  obtain ⟨h2, h⟩ := He.ba h
  obtain ⟨h3, h⟩ := He.ba h
  obtain ⟨h4, h⟩ := He.ba h
  obtain ⟨h5, h⟩ := He.ba h
  obtain ⟨h6, h⟩ := He.ba h
  obtain ⟨h7, h8⟩ := He.ba h
  exact ⟨of_decide_eq_true h1, of_decide_eq_true h2, of_decide_eq_true h3, h4, of_decide_eq_true h5, of_decide_eq_true h6, of_decide_eq_true h7, of_decide_eq_true h8⟩
def xkB (K : PySem.W.Frag) (q : Str × String × Bool) : Bool := excB K (He.ga K q.1) && decide (PySem.W.kitOne K (.ref (He.ga K q.1)) (.type q.2.1) = some q.2.2)
theorem xkB_ok {K : PySem.W.Frag} {q : Str × String × Bool} (h : xkB K q = true) : ExcC K (He.ga K q.1) ∧ PySem.W.kitOne K (.ref (He.ga K q.1)) (.type q.2.1) = some q.2.2 := by
  obtain ⟨h1, h2⟩ := He.ba h
  exact ⟨excB_ok h1, of_decide_eq_true h2⟩
section
variable {fa : List He.Fa} {fn : List He.DefD} {K : PySem.W.Frag} {h : Heap} {mg : Str → Option Value}
theorem dfd_of (X : K.In h) (G : h.Ns mainGlobals mg) (c : He.SaysD fa fn K) {x : Str} {st : Stmt} (i j : Nat) (h1 : fn[i]? = some ⟨(x, none), x, x, defArgs st, defBody st, defScope st, [], []⟩) (h2 : fa[j]? = some (.glo x)) : Dfd K mg x st := by
  obtain ⟨fd, F⟩ := c.def_ i h1
  exact ⟨_, fd, F, He.glo_ok X G (c.fact j h2)⟩
theorem free_of (X : K.In h) (G : h.Ns mainGlobals mg) (c : He.SaysD fa fn K) {x : Str} (j : Nat) (h2 : fa[j]? = some (.free x)) : mg x = none := He.free_ok X G (c.fact j h2)
theorem str_of (X : K.In h) (G : h.Ns mainGlobals mg) (c : He.SaysD fa fn K) {x z : Str} (j : Nat) (h2 : fa[j]? = some (.str x z)) : ∃ t, mg x = some (.str z t) := He.str_ok X G (c.fact j h2)
theorem int_of (X : K.In h) (G : h.Ns mainGlobals mg) (c : He.SaysD fa fn K) {x : Str} {z : Int} (j : Nat) (h2 : fa[j]? = some (.int x z)) : ∃ t, mg x = some (.int z t) := He.int_ok X G (c.fact j h2)
theorem exc_of (X : K.In h) (G : h.Ns mainGlobals mg) (c : He.SaysD fa fn K) {x : Str} (j k : Nat) (h1 : fa[j]? = some (.glo x)) (h2 : fa[k]? = some (.exc x)) : ExcT K mg x := by
  obtain ⟨a, b, d, e⟩ := He.exc_ok (c.fact k h2)
  exact ⟨He.glo_ok X G (c.fact j h1), a, b, d, e⟩
end
theorem fd_one {K : PySem.W.Frag} {x qual x' qual' : Str} {params params' : Arguments} {body body' : List Stmt} {scope scope' : Scope} {dvs dvs' : List V} {kws kws' : List (Str × V)} {f : Addr} {fd fd' : FuncData} (F : FunD K x qual params body scope dvs kws f fd) (F' : FunD K x' qual' params' body' scope' dvs' kws' f fd') : fd = fd' := by
  obtain ⟨_, _, _, _, _, _, _, _, _, _, _, h, _, _, _⟩ := F.ex
  obtain ⟨_, _, _, _, _, _, _, _, _, _, _, h', _, _, _⟩ := F'.ex
  rw [h] at h'
  cases h'
  rfl
end T
end S_THead
section S_TIniH
set_option Elab.async false
set_option linter.all false
set_option maxRecDepth 100000
set_option maxHeartbeats 4000000
namespace T
open PySem L2 PySem.Spec PyProof.Rows
/-! ### what the top leaves: own exceptions with an __init__ -/
def clsB (K : PySem.W.Frag) (C : Addr) (newId : String) (bm : List Value) : Bool := match K.lookup C with
  | some ⟨.type ty, _, .cls cd, sl⟩ => ty == "type" && (decide (cd.mro = .ref C :: bm) && (cd.hasDict && (!cd.hasDel && (match sl.toList with
    | [_, _, _, _, some (.builtin n), _] => n == newId
    | _ => false))))
  | _ => false
def cellB (K : PySem.W.Frag) (cc C : Addr) : Bool := match K.lookup cc with
  | some ⟨_, _, .cell (some (.ref D)), _⟩ => D == C
  | _ => false
def fileB (K : PySem.W.Frag) (cda : Addr) (file : Str) : Bool := match K.lookup cda with
  | some ⟨_, _, .fields vs, _⟩ => (match (vs[2]? : Option Value) with
    | some (.str z _) => file == z
    | _ => false)
  | _ => false
def funB (K : PySem.W.Frag) (f C : Addr) (file : Str) : Bool := match K.lookup f with
  | some ⟨_, _, .func fd, _⟩ => fd.globals == mainGlobals && (fd.builtins == builtinsNs && (decide (fd.defaults = .none) && ((match fd.closure with
    | [(n, cc)] => n == ("__class__" : Str) && cellB K cc C
    | _ => false) && (match fd.code with
    | .ref cda => PySem.W.codeIn K (.ref cda) fd.qualname && fileB K cda file
    | _ => false))))
  | _ => false
/-- all that is asked of a class at x -/
def iniB (file : Str) (K : PySem.W.Frag) (x : Str) (B newId : String) (bm : List Value) (flds : List Str) : Bool :=
  clsB K (He.ga K x) newId bm && (decide (PySem.W.findIn K (.ref (He.ga K x)) "__setattr__" = some (some (.builtin "object.__setattr__"))) && (decide (PySem.W.subIn K (.ref (He.ga K x)) (.type "BaseException") = some true) && (decide (PySem.W.typeIn K (.ref (He.ga K x)) = some (.type "type")) && (PySem.W.keepIn K (.ref (He.ga K x)) &&
  (decide (PySem.W.findIn K (.ref (He.ga K x)) "__init__" = some (some (.ref (He.ma K (He.ga K x) "__init__")))) && (decide (PySem.W.typeIn K (.ref (He.ma K (He.ga K x) "__init__")) = some (.type "function")) && (funB K (He.ma K (He.ga K x) "__init__") (He.ga K x) file && (flds.all (fun n => decide (PySem.W.findIn K (.ref (He.ga K x)) n = some none)) &&
  (decide (PySem.W.mroIn K (He.ga K x) (.ref (He.ga K x)) = some true) && (decide (PySem.W.subIn K (.ref (He.ga K x)) (.type B) = some true) && decide (PySem.W.nsIn K cStatics "thirdparty.any" = some none)))))))))))
abbrev FnT := Option (Arguments × FuncBody × Scope)
def iniW (K : PySem.W.Frag) (x : Str) : FnT := match K.lookup (He.ma K (He.ga K x) "__init__") with
  | some ⟨_, _, .func fd, _⟩ => some (fd.params, fd.body, fd.scope)
  | _ => none
/-- the facts of such a class -/
structure IniF (P : Program) (K : PySem.W.Frag) (mg : Str → Option Value) (x : Str) (st : Stmt) (B newId : String) (bm : List Value) (flds : List Str) : Prop where
  ex : ∃ (C f cda cc : Addr) (nm qual : Str) (oc kV doc pm ct : Value) (od an : Option Addr) (osl : Array (Option Value)), XC K C newId bm ∧ mg x = some (.ref C) ∧ PySem.W.findIn K (.ref C) "__init__" = some (some (.ref f)) ∧ PySem.W.typeIn K (.ref f) = some (.type "function") ∧
    K.lookup f = some ⟨oc, od, .func (PySem.W.ksFn nm qual (defArgs st) (defBody st) (defScope st) .none kV doc pm an (.ref cda) ct cc), osl⟩ ∧ PySem.W.codeIn K (.ref cda) qual = true ∧
    (∃ ccl cdd vs ccs file tf, K.lookup cda = some ⟨ccl, cdd, .fields vs, ccs⟩ ∧ vs[2]? = some (.str file tf) ∧ ((P.main.file : Str) == file) = true) ∧ (∃ cl cld csl, K.lookup cc = some ⟨cl, cld, .cell (some (.ref C)), csl⟩) ∧
    PySem.W.mroIn K C (.ref C) = some true ∧ PySem.W.subIn K (.ref C) (.type B) = some true ∧ PySem.W.nsIn K cStatics "thirdparty.any" = some none ∧ ∀ n ∈ flds, PySem.W.findIn K (.ref C) n = some none
  top : (P.main.scope.names.lookup ("super" : Str)).isSome = false
  sup : mg "super" = none
theorem ba2 {a b : Bool} (h : (a && b) = true) : a = true ∧ b = true := by rw [Bool.and_eq_true] at h; exact h
theorem ini_of {P : Program} {K : PySem.W.Frag} {h : Heap} {mg : Str → Option Value} {fa : List He.Fa} {fn : List He.DefD} (X : K.In h) (G : h.Ns mainGlobals mg) (c : He.SaysD fa fn K) {x : Str} {st : Stmt} {B newId : String} {bm : List Value} {flds : List Str} (j k : Nat) (h1 : fa[j]? = some (.glo x)) (h2 : fa[k]? = some (.free "super"))
    (hb : iniB P.main.file K x B newId bm flds = true) (hw : iniW K x = some (defArgs st, .stmts (defBody st), defScope st)) (top : (P.main.scope.names.lookup ("super" : Str)).isSome = false) : IniF P K mg x st B newId bm flds := by
  refine ⟨?_, top, free_of X G c k h2⟩
  have g := He.glo_ok X G (c.fact j h1)
  unfold iniB at hb
  obtain ⟨b1, hb⟩ := ba2 hb
  obtain ⟨b2, hb⟩ := ba2 hb
  obtain ⟨b3, hb⟩ := ba2 hb
  obtain ⟨b4, hb⟩ := ba2 hb
  obtain ⟨b5, hb⟩ := ba2 hb
  obtain ⟨b6, hb⟩ := ba2 hb
  obtain ⟨b7, hb⟩ := ba2 hb
  obtain ⟨b8, hb⟩ := ba2 hb
  obtain ⟨b9, hb⟩ := ba2 hb
  obtain ⟨b10, hb⟩ := ba2 hb
  obtain ⟨b11, b12⟩ := ba2 hb
  unfold iniW at hw
  unfold funB at b8
  generalize He.ga K x = C at *
  generalize He.ma K C "__init__" = f at *
  unfold clsB at b1
  split at b1
  case h_2 => cases b1
  rename_i ty dd cd sl hC
  obtain ⟨c1, b1⟩ := ba2 b1
  obtain ⟨c2, b1⟩ := ba2 b1
  obtain ⟨c3, b1⟩ := ba2 b1
  obtain ⟨c4, b1⟩ := ba2 b1
  split at b1
  case h_2 => cases b1
  rename_i k0 k1 k2 k3 n k5 hsl
  have e1 : ty = "type" := by simpa using c1
  have e2 : cd.mro = .ref C :: bm := by simpa using c2
  have e5 : n = newId := by simpa using b1
  subst e1 e5
  split at b8
  case h_2 => cases b8
  rename_i oc od fd osl hf
  obtain ⟨d1, b8⟩ := ba2 b8
  obtain ⟨d2, b8⟩ := ba2 b8
  obtain ⟨d3, b8⟩ := ba2 b8
  obtain ⟨d4, d5⟩ := ba2 b8
  split at d4
  case h_2 => cases d4
  rename_i nn cc hcl
  obtain ⟨d4, d6⟩ := ba2 d4
  split at d5
  case h_2 => cases d5
  rename_i cda hcode
  obtain ⟨d5, d7⟩ := ba2 d5
  rw [hf] at hw
  have hw : some (fd.params, fd.body, fd.scope) = some (defArgs st, FuncBody.stmts (defBody st), defScope st) := hw
  have hsl' : sl = #[k0, k1, k2, k3, some (.builtin n), k5] := by
    have := congrArg List.toArray hsl
    simpa using this
  obtain ⟨nm, qual, params, body, scope, glb, clo, dfl, kwd, doc, pm, an, code, ct, bl⟩ := fd
  dsimp only at *
  have q1 : glb = mainGlobals := by simpa using d1
  have q2 : bl = builtinsNs := by simpa using d2
  have q3 : dfl = .none := by simpa using d3
  have q4 : nn = ("__class__" : Str) := by simpa using d4
  cases hw
  subst q1 q2 q3 q4 hcl hcode hsl'
  unfold cellB at d6
  split at d6
  case h_2 => cases d6
  rename_i cl cld D csl hcell
  have d6 : D = C := by simpa using d6
  subst d6
  unfold fileB at d7
  split at d7
  case h_2 => cases d7
  rename_i ccl cdd vs ccs hcda
  split at d7
  case h_2 => cases d7
  rename_i z tf hz
  obtain ⟨cnm, cbs, cmro, cns, cqn, chd, csn, csub, cab, ccol, cdel⟩ := cd
  dsimp only at e2 c3 c4
  subst e2
  have c3 : chd = true := c3
  have c4 : cdel = false := by simpa using c4
  subst c3 c4
  exact ⟨D, f, cda, cc, nm, qual, oc, kwd, doc, pm, ct, od, an, osl, ⟨⟨_, _, _, _, _, _, _, _, _, _, _, _, _, _, hC⟩, of_decide_eq_true b2, of_decide_eq_true b3, of_decide_eq_true b4, b5⟩, g, of_decide_eq_true b6, of_decide_eq_true b7, hf, d5, ⟨ccl, cdd, vs, ccs, z, tf, hcda, hz, d7⟩, ⟨cl, cld, csl, hcell⟩, of_decide_eq_true b10, of_decide_eq_true b11, of_decide_eq_true b12,
    fun n hn => of_decide_eq_true (List.all_eq_true.mp b9 n hn)⟩
/-! ### the hook -/
def asI (g : Addr → Option Obj) (n : Nat) : List Addr := He.asD g n ++ (cStatics :: (He.asD g n).flatMap fun a => match g a with
  | some ⟨_, _, .func fd, _⟩ => fd.closure.map (·.2)
  | _ => [])
abbrev AlI : Type := He.AlD × (Bool × List FnT)
def obsI (n : Nat) (fa : List He.Fa) (fn : List He.DefD) (ex : PySem.W.Frag → Bool) (ini : List (Str × FnT)) (g : Addr → Option Obj) : AlI := (He.obsD fa fn (He.frG g (asI g n)), (ex (He.frG g (asI g n)), ini.map fun q => iniW (He.frG g (asI g n)) q.1))
structure SaysI (fa : List He.Fa) (fn : List He.DefD) (ex : PySem.W.Frag → Bool) (ini : List (Str × FnT)) (K : PySem.W.Frag) : Prop where
  d : He.SaysD fa fn K
  more : ex K = true
  ini : ∀ (j : Nat) (x : Str) (t : FnT), ini[j]? = some (x, t) → iniW K x = t
def hookI (n : Nat) (fa : List He.Fa) (fn : List He.DefD) (ex : PySem.W.Frag → Bool) (ini : List (Str × FnT)) : PySem.W.Hook where
  α := AlI
  obs := fun s => obsI n fa fn ex ini s.heap.get?
  val := fun _ => (He.valD fn, (true, ini.map (·.2)))
  says := fun _ h => ∃ K : PySem.W.Frag, K.In h ∧ SaysI fa fn ex ini K
  of := fun _ _ e => ⟨_, He.frG_in, congrArg (fun z : AlI => z.1) e, congrArg (fun z : AlI => z.2.1) e, fun j x t hj => by
    have z := congrArg (fun z : AlI => z.2.2[j]?) e
    simpa [obsI, hj] using z⟩
  keeps := fun _ _ _ ⟨K, hK, c⟩ k => ⟨K, PySem.W.Frag.In.keeps hK k, c⟩
theorem obsI_eq {n : Nat} {fa : List He.Fa} {fn : List He.DefD} {ex : PySem.W.Frag → Bool} {ini : List (Str × FnT)} {g : Addr → Option Obj} {s : Shared} (h : ∀ a, g a = s.heap.get? a) : obsI n fa fn ex ini g = (hookI n fa fn ex ini).obs s := by
  have e : g = s.heap.get? := funext h
  rw [e] <;> rfl
end T
end S_TIniH
section S_TIniT
set_option Elab.async false
set_option linter.all false
set_option maxRecDepth 100000
set_option maxHeartbeats 4000000
namespace T
open PySem L2 PySem.Spec PyProof.Rows
/-! ### tables over the own exceptions -/
abbrev Tb (α : Type) := List (Str × List (Str × α))
def Tb.get {α : Type} (L : Tb α) (C b : Str) : Option α := (L.lookup C).bind (·.lookup b)
theorem lookup_mem {α : Type} {x : Str} {y : α} : ∀ {l : List (Str × α)}, l.lookup x = some y → (x, y) ∈ l
  | [], h => by cases h
  | (k, v) :: l, h => by
    by_cases hk : x = k
    · subst hk
      simp [List.lookup] at h
      subst h
      exact List.mem_cons_self
    · have q : (x == k) = false := by simpa using hk
      simp only [List.lookup, q] at h
      exact List.mem_cons_of_mem _ (lookup_mem h)
def Tb.all {α : Type} (L : Tb α) (p : Str → Str → α → Bool) : Bool := List.all L fun q => q.2.all fun r => p q.1 r.1 r.2
theorem Tb.of {α : Type} {L : Tb α} {p : Str → Str → α → Bool} (h : L.all p = true) {C b : Str} {y : α} (e : L.get C b = some y) : p C b y = true := by
  unfold Tb.get at e
  cases q : List.lookup C L with
  | none => rw [q] at e; cases e
  | some l =>
    rw [q] at e
    exact List.all_eq_true.mp (List.all_eq_true.mp h _ (lookup_mem q)) _ (lookup_mem e)
def gloB (K : PySem.W.Frag) (x : Str) : Bool := decide (PySem.W.nsIn K mainGlobals x = some (some (.ref (He.ga K x))))
def xisB (bi : List (Str × String)) (K : PySem.W.Frag) (C b : Str) (r : Bool) : Bool := gloB K C && (excB K (He.ga K C) && ((PySem.W.clsIn K (He.ga K C)).isSome && (match bi.lookup b with
  | some n => decide (PySem.W.nsIn K mainGlobals b = some none) && (decide (bootBuiltins b = some (.type n)) && (decide (b ≠ "__name__") && decide (PySem.W.kitOne K (.ref (He.ga K C)) (.type n) = some r)))
  | none => gloB K b && decide (PySem.W.kitOne K (.ref (He.ga K C)) (.ref (He.ga K b)) = some r))))
def xfB' (K : PySem.W.Frag) (C n : Str) (_ : Unit) : Bool := gloB K C && (xfB K (He.ga K C) && decide (PySem.W.findIn K (.ref (He.ga K C)) n = some none))
def xmB (K : PySem.W.Frag) (C b : Str) (r : Bool) : Bool := gloB K C && (gloB K b && decide (PySem.W.exmOne K (.ref (He.ga K C)) (.ref (He.ga K b)) = some r))
section
variable {K : PySem.W.Frag} {h : Heap} {mg : Str → Option Value} {bi : List (Str × String)}
theorem glo_at (X : K.In h) (G : h.Ns mainGlobals mg) {x : Str} (b : gloB K x = true) : mg x = some (.ref (He.ga K x)) := PySem.W.mg_of X G (of_decide_eq_true b)
theorem xis_of (X : K.In h) (G : h.Ns mainGlobals mg) {L : Tb Bool} (hb : L.all (xisB bi K) = true) : XIs K mg L.get := fun C b ca r e g => by
  obtain ⟨b1, b2⟩ := ba2 (Tb.of hb e)
  obtain ⟨b2, b3⟩ := ba2 b2
  obtain ⟨b3, b4⟩ := ba2 b3
  rw [glo_at X G b1] at g
  cases g
  refine ⟨⟨excB_ok b2, b3⟩, ?_⟩
  split at b4
  · rename_i n hn
    obtain ⟨c1, c2⟩ := ba2 b4
    obtain ⟨c2, c3⟩ := ba2 c2
    obtain ⟨c3, c4⟩ := ba2 c3
    exact ⟨.type n, .inr ⟨n, rfl, PySem.W.mg_none_of X G (of_decide_eq_true c1), of_decide_eq_true c2, of_decide_eq_true c3⟩, of_decide_eq_true c4⟩
  · obtain ⟨c1, c2⟩ := ba2 b4
    exact ⟨.ref (He.ga K b), .inl ⟨_, rfl, glo_at X G c1⟩, of_decide_eq_true c2⟩
def Tb.has (L : Tb Unit) (C b : Str) : Bool := (L.get C b).isSome
theorem xfld_of (X : K.In h) (G : h.Ns mainGlobals mg) {L : Tb Unit} (hb : L.all (xfB' K) = true) : XFld K mg L.has := fun C n ca e g => by
  obtain ⟨u, e⟩ := Option.isSome_iff_exists.mp e
  obtain ⟨b1, b2⟩ := ba2 (Tb.of hb e)
  obtain ⟨b2, b3⟩ := ba2 b2
  rw [glo_at X G b1] at g
  cases g
  exact ⟨xfB_ok b2, of_decide_eq_true b3⟩
/-- which except clause takes which class -/
def XMa (K : PySem.W.Frag) (mg : Str → Option Value) (xm : Str → Str → Option Bool) : Prop := ∀ (C b : Str) (ca cb : Addr) (r : Bool), xm C b = some r → mg C = some (.ref ca) → mg b = some (.ref cb) → PySem.W.exmOne K (.ref ca) (.ref cb) = some r
theorem xma_of (X : K.In h) (G : h.Ns mainGlobals mg) {L : Tb Bool} (hb : L.all (xmB K) = true) : XMa K mg L.get := fun C b ca cb r e g g2 => by
  obtain ⟨b1, b2⟩ := ba2 (Tb.of hb e)
  obtain ⟨b2, b3⟩ := ba2 b2
  rw [glo_at X G b1] at g
  rw [glo_at X G b2] at g2
  cases g
  cases g2
  exact of_decide_eq_true b3
end
/-! ### the makers -/
section
variable {P : Program} {w : World} {K : PySem.W.Frag} {mg : Str → Option Value} {base : Heap} {x : Str} {st : Stmt} {B newId initId : String} {bm : List Value} {flds N ps : List Str} {slf fn fn' : Str} {e e1 e2 : Expr} {es : List Expr} {p0 p1 p2 p3 p4 q1 q2 q3 q4 q5 q6 q7 : Pos} {ma me' : SemA} {me : SemE} {k1 k2 : Nat}
/-- the text of the def is so; all of it is plain to see (rfl) -/
structure IniT (st : Stmt) (N ps : List Str) (slf : Str) : Prop where
  sc : InScope (slf :: N) (slf :: ps) (defScope st)
  ks : (defScope st).names.lookup ("super" : Str) = some .globalImplicit
  kc : (defScope st).names.lookup ("__class__" : Str) = some .free
  ka : (defScope st).names.lookup slf = some .local
  ar : ∃ ar, ((defArgs st).posonlyargs ++ (defArgs st).args).head? = some ar ∧ ar.arg = slf
theorem xmk1 (b : XB B newId initId bm) (F : IniF P K mg x st B newId bm [fn]) (T : IniT st N ps slf) (hbody : defBody st = [supS p0 p1 p2 p3 p4 (e :: es), .Assign [.Attribute (.Name slf q1) fn q2] e1 q3]) (hd : (slf == ("__debug__" : Str)) = false) (hcl : (slf == ("__classdict__" : Str)) = false)
    (SE : ∀ qual f cda cc A outer s H E, SupE (CI P w K mg base (slf :: N) qual (defScope st) f cda cc A outer s H E) p0 p1 p2 p3 p4 e es)
    (ha : ∀ qual f cda cc A outer s H E, PA (CI P w K mg base (slf :: N) qual (defScope st) f cda cc A outer s H E) (e :: es) (tA K mg (WE E) ma)) (he : ∀ qual f cda cc A outer s H E, PE (CI P w K mg base (slf :: N) qual (defScope st) f cda cc A outer s H E) e1 (tE K mg (WE E) me))
    (hs : ∀ qual f cda cc A outer s H E, swapsWithSole [.Attribute (.Name slf q1) fn q2] e1 q3.line (CI P w K mg base (slf :: N) qual (defScope st) f cda cc A outer s H E).env = pure false) (hw : ∀ qual f cda cc A outer s H E, swappedStores [.Attribute (.Name slf q1) fn q2] e1 (CI P w K mg base (slf :: N) qual (defScope st) f cda cc A outer s H E).env = pure none) :
    XMk P w K mg base x st 1 (slf :: ps) (ini1 N.length ma fn me) := by
  obtain ⟨C, f, cda, cc, nm, qual, oc, kV, doc, pm, ct, od, an, osl, c, g, iC, tI, lk, hcd, code, cell, mro, subB, opq, fl⟩ := F.ex
  obtain ⟨ar, har, hsl⟩ := T.ar
  refine ⟨C, f, B, newId, initId, bm, nm, qual, kV, doc, pm, ct, an, cda, cc, b, c, g, iC, tI, ?_⟩
  have lk0 := lk
  rw [hbody] at lk ⊢
  exact ini1_ok (k := 0) lk hcd T.sc (by obtain ⟨cl, cld, csl, z⟩ := cell; exact ⟨cl, cld, _, csl, z⟩) (fl fn (by simp))
    (fun A outer s H E => ⟨b, c, ⟨qual, defScope st, rfl⟩, ⟨_, _, _, _, ar, lk0, har, hsl⟩, code, cell, mro, subB, opq, F.sup, F.top, T.ks, T.kc, T.ka⟩) hd hcl
    (SE qual f cda cc) (ha qual f cda cc) (he qual f cda cc) (hs qual f cda cc) (hw qual f cda cc)
theorem xmk2 (b : XB B newId initId bm) (F : IniF P K mg x st B newId bm [fn, fn']) (T : IniT st N ps slf) (hbody : defBody st = [supS p0 p1 p2 p3 p4 (e :: es), .Assign [.Tuple [.Attribute (.Name slf q1) fn q2, .Attribute (.Name slf q4) fn' q5] k1 q6] (.Tuple [e1, e2] k2 q7) q3]) (hd : (slf == ("__debug__" : Str)) = false) (hcl : (slf == ("__classdict__" : Str)) = false)
    (SE : ∀ qual f cda cc A outer s H E, SupE (CI P w K mg base (slf :: N) qual (defScope st) f cda cc A outer s H E) p0 p1 p2 p3 p4 e es)
    (ha : ∀ qual f cda cc A outer s H E, PA (CI P w K mg base (slf :: N) qual (defScope st) f cda cc A outer s H E) (e :: es) (tA K mg (WE E) ma)) (he : ∀ qual f cda cc A outer s H E, PA (CI P w K mg base (slf :: N) qual (defScope st) f cda cc A outer s H E) [e1, e2] (tA K mg (WE E) me'))
    (hs : ∀ qual f cda cc A outer s H E, swapsWithSole [.Tuple [.Attribute (.Name slf q1) fn q2, .Attribute (.Name slf q4) fn' q5] k1 q6] (.Tuple [e1, e2] k2 q7) q3.line (CI P w K mg base (slf :: N) qual (defScope st) f cda cc A outer s H E).env = pure false) (hw : ∀ qual f cda cc A outer s H E, swappedStores [.Tuple [.Attribute (.Name slf q1) fn q2, .Attribute (.Name slf q4) fn' q5] k1 q6] (.Tuple [e1, e2] k2 q7) (CI P w K mg base (slf :: N) qual (defScope st) f cda cc A outer s H E).env = pure none) :
    XMk P w K mg base x st 1 (slf :: ps) (ini2 N.length ma fn fn' me') := by
  obtain ⟨C, f, cda, cc, nm, qual, oc, kV, doc, pm, ct, od, an, osl, c, g, iC, tI, lk, hcd, code, cell, mro, subB, opq, fl⟩ := F.ex
  obtain ⟨ar, har, hsl⟩ := T.ar
  refine ⟨C, f, B, newId, initId, bm, nm, qual, kV, doc, pm, ct, an, cda, cc, b, c, g, iC, tI, ?_⟩
  have lk0 := lk
  rw [hbody] at lk ⊢
  exact ini2_ok (k := 0) lk hcd T.sc (by obtain ⟨cl, cld, csl, z⟩ := cell; exact ⟨cl, cld, _, csl, z⟩) (fl fn (by simp)) (fl fn' (by simp))
    (fun A outer s H E => ⟨b, c, ⟨qual, defScope st, rfl⟩, ⟨_, _, _, _, ar, lk0, har, hsl⟩, code, cell, mro, subB, opq, F.sup, F.top, T.ks, T.kc, T.ka⟩) hd hcl
    (SE qual f cda cc) (ha qual f cda cc) (he qual f cda cc) (hs qual f cda cc) (hw qual f cda cc)
end
end T
end S_TIniT
section S_TEv
set_option Elab.async false
set_option linter.all false
set_option maxRecDepth 100000
set_option maxHeartbeats 4000000
namespace T
open PySem L2
theorem sV_at {i : Nat} {env : Env} {S : Sto} {d : D} (h : env[i]? = some (some d)) : sV i env S = .ok d S := by unfold sV; rw [h]
theorem bind_ok {α β : Type} {a : α} {S : Sto} {k : α → Sto → Res β} : (Res.ok a S).bind k = k a S := rfl
theorem bind_exc {α β : Type} {C : Str} {fs : List (Str × D)} {S : Sto} {k : α → Sto → Res β} : (Res.exc C fs S : Res α).bind k = .exc C fs S := rfl
theorem bind_bad {α β : Type} {k : α → Sto → Res β} : (Res.bad : Res α).bind k = .bad := rfl
theorem ofE_ok {α : Type} {a : α} {S : Sto} {env : Env} {k : α → Sto → ResS} : ofE (.ok a S) env k = k a S := rfl
theorem ofE_exc {α : Type} {C : Str} {fs : List (Str × D)} {S : Sto} {env : Env} {k : α → Sto → ResS} : ofE (.exc C fs S) env k = .exc C fs env S := rfl
theorem fin_ok {n : Nat} {d : D} {S : Sto} (h : S.length = n) : fin n d S = .ok d S := by unfold fin; rw [if_pos h]
/-- the box of draws -/
def bx (a b c : Int) : Cel := .lv (.lst [.int a, .int b, .int c])
theorem ix_bx {S : Sto} {n : Nat} {a b c : Int} (h : S[n]? = some (bx a b c)) : fIx S (.cell n) (.int 0) = .ok (.int a) S ∧ fIx S (.cell n) (.int 1) = .ok (.int b) S ∧ fIx S (.cell n) (.int 2) = .ok (.int c) S := by
  have e : rd S (.cell n) = .lst [.int a, .int b, .int c] := by
    show cget S n = _
    unfold cget
    rw [h]
    rfl
  unfold fIx
  rw [e]
  exact ⟨rfl, rfl, rfl⟩
theorem set_bx {S : Sto} {n : Nat} {x y : Cel} (h : S[n]? = some x) : (S.set n y)[n]? = some y := by
  rw [List.getElem?_set_self (List.getElem?_eq_some_iff.mp h).1]
section
variable {S : Sto} {x k : Int} {a b : Str}
theorem e_gt : fGt S (.int x) (.int k) = .ok (.bl (decide (k < x))) S := rfl
theorem e_lt : fLt S (.int x) (.int k) = .ok (.bl (decide (x < k))) S := rfl
theorem e_le : fLe S (.int x) (.int k) = .ok (.bl (decide (x ≤ k))) S := rfl
theorem e_ge : fGe S (.int x) (.int k) = .ok (.bl (decide (k ≤ x))) S := rfl
theorem e_add : fAdd S (.int x) (.int k) = .ok (.int (x + k)) S := rfl
theorem e_sub : fSub S (.int x) (.int k) = .ok (.int (x - k)) S := rfl
theorem e_int : bInt S [.int x] = .ok (.int x) S := rfl
theorem e_intB {b : Bool} : bInt S [.bl b] = .ok (.int (if b then 1 else 0)) S := rfl
theorem e_abs : bAbs S [.int x] = .ok (.int (if x < 0 then -x else x)) S := rfl
theorem e_mod (h : 0 < k) : fMod S (.int x) (.int k) = .ok (.int (x % k)) S := if_pos (decide_eq_true h)
theorem e_div (h : 0 < k ∧ k < 1073741824) : fDiv S (.int x) (.int k) = .ok (.int (x / k)) S := if_pos (decide_eq_true h)
theorem e_mulR (h : -(2 ^ 64) < k ∧ k < 2 ^ 64) : fMulA S (.int x) (.int k) = .ok (.int (x * k)) S := if_pos (by rw [Bool.or_eq_true]; exact .inr (decide_eq_true h))
theorem e_mulL (h : -(2 ^ 64) < x ∧ x < 2 ^ 64) : fMulA S (.int x) (.int k) = .ok (.int (x * k)) S := if_pos (by rw [Bool.or_eq_true]; exact .inl (decide_eq_true h))
theorem e_gIx2 {env : Env} {n : Nat} {a b c y : Int} (h : S[n]? = some (bx a b c)) : gIx (sV 0) (sC (.int 2)) (.int y) (some (.cell n) :: env) S = .nx (some (.cell n) :: env) (S.set n (bx a b y)) := by
  simp only [gIx, ofE_ok, sC, sV, List.getElem?_cons_zero, h, bx]
  rfl
theorem e_gIx0 {env : Env} {n : Nat} {a b c y : Int} (h : S[n]? = some (bx a b c)) : gIx (sV 0) (sC (.int 0)) (.int y) (some (.cell n) :: env) S = .nx (some (.cell n) :: env) (S.set n (bx y b c)) := by
  simp only [gIx, ofE_ok, sC, sV, List.getElem?_cons_zero, h, bx]
  rfl
end
inductive All2 {α β : Type} (R : α → β → Prop) : List α → List β → Prop
  | nil : All2 R [] []
  | cons {a : α} {b : β} {as : List α} {bs : List β} : R a b → All2 R as bs → All2 R (a :: as) (b :: bs)
/-! ### comprehensions -/
theorem lc_fil {α : Type} {t : Tg} {c : SemT} {e : SemE} {env : Env} {S : Sto} {f : α → D} {p : α → Bool} {g : α → D} : ∀ (l : List α) (acc : List D), (∀ a ∈ l, ∃ env1, tgE env t (f a) = some env1 ∧ c env1 S = .ok (p a) S ∧ (p a = true → e env1 S = .ok (g a) S)) → acc.length + l.length ≤ lim → lcGo t c e env (l.map f) acc S = .ok (acc ++ (l.filter p).map g) S
  | [], acc, _, _ => by simp [lcGo]
  | a :: l, acc, h, hl => by
    obtain ⟨env1, h1, h2, h3⟩ := h a List.mem_cons_self
    rw [List.length_cons] at hl
    rw [List.map_cons]
    simp only [lcGo, h1, h2, bind_ok]
    by_cases hp : p a = true
    · rw [if_pos hp, h3 hp, bind_ok, if_pos (by omega), lc_fil l _ (fun b hb => h b (List.mem_cons_of_mem _ hb)) (by rw [List.length_append, List.length_singleton]; omega), List.filter_cons_of_pos hp, List.map_cons, List.append_assoc]
      rfl
    · rw [if_neg hp, lc_fil l _ (fun b hb => h b (List.mem_cons_of_mem _ hb)) (by omega), List.filter_cons_of_neg hp]
theorem lc_map {α : Type} {t : Tg} {c : SemT} {e : SemE} {env : Env} {S : Sto} {f : α → D} {g : α → D} (l : List α) (h : ∀ a ∈ l, ∃ env1, tgE env t (f a) = some env1 ∧ c env1 S = .ok true S ∧ e env1 S = .ok (g a) S) (hl : l.length ≤ lim) : lcGo t c e env (l.map f) [] S = .ok (l.map g) S := by
  rw [lc_fil (p := fun _ => true) (g := g) l [] (fun a ha => by
    obtain ⟨e1, h1, h2, h3⟩ := h a ha
    exact ⟨e1, h1, h2, fun _ => h3⟩) (by simpa using hl)]
  rw [List.filter_eq_self.mpr (fun _ _ => rfl)]
  rfl
/-- a comprehension out of which the first bad item's error flies -/
theorem lc_exc {α : Type} {t : Tg} {c : SemT} {e : SemE} {env : Env} {S : Sto} {f : α → D} {g : α → Option D} {C : Str} : ∀ (l : List α) (acc : List D), (∀ a ∈ l, ∃ env1, tgE env t (f a) = some env1 ∧ c env1 S = .ok true S ∧ e env1 S = (match g a with | some y => .ok y S | none => .exc C [] S)) → acc.length + l.length ≤ lim →
    lcGo t c e env (l.map f) acc S = if l.all (fun a => (g a).isSome) then .ok (acc ++ l.filterMap g) S else .exc C [] S
  | [], acc, _, _ => by simp [lcGo]
  | a :: l, acc, h, hl => by
    obtain ⟨env1, h1, h2, h3⟩ := h a List.mem_cons_self
    rw [List.length_cons] at hl
    rw [List.map_cons]
    cases q : g a with
    | none =>
      rw [q] at h3
      simp only [lcGo, h1, h2, h3, bind_ok, bind_exc, if_true]
      simp [q]
    | some y =>
      rw [q] at h3
      simp only [lcGo, h1, h2, h3, bind_ok, if_true]
      rw [if_pos (by omega), lc_exc l _ (fun b hb => h b (List.mem_cons_of_mem _ hb)) (by rw [List.length_append, List.length_singleton]; omega)]
      simp [q]
/-- a comprehension whose items are drawn -/
theorem lc_rel {t : Tg} {c : SemT} {e : SemE} {env : Env} {I : Nat → Sto → Prop} {R : D → D → Prop} : ∀ (l : List D) (i : Nat) (acc : List D) (S : Sto), (∀ d ∈ l, ∀ i S, I i S → ∃ env1 y S1, tgE env t d = some env1 ∧ c env1 S = .ok true S ∧ e env1 S = .ok y S1 ∧ I (i + 1) S1 ∧ R d y) → acc.length + l.length ≤ lim → I i S →
    ∃ ys S', lcGo t c e env l acc S = .ok (acc ++ ys) S' ∧ I (i + l.length) S' ∧ All2 R l ys
  | [], i, acc, S, _, _, h0 => ⟨[], S, by simp [lcGo], h0, .nil⟩
  | d :: l, i, acc, S, h, hl, h0 => by
    obtain ⟨env1, y, S1, h1, h2, h3, h4, h5⟩ := h d List.mem_cons_self i S h0
    rw [List.length_cons] at hl
    obtain ⟨ys, S', e1, e2, e3⟩ := lc_rel l (i + 1) (acc ++ [y]) S1 (fun b hb => h b (List.mem_cons_of_mem _ hb)) (by rw [List.length_append, List.length_singleton]; omega) h4
    refine ⟨y :: ys, S', ?_, by rw [List.length_cons, show i + (l.length + 1) = i + 1 + l.length by omega]; exact e2, .cons h5 e3⟩
    simp only [lcGo, h1, h2, h3, bind_ok, if_true]
    rw [if_pos (by omega), e1, List.append_assoc]
    rfl
theorem sIsi_ok {xt : Str → String → Option Bool} {b : String} {m : SemE} {env : Env} {S S1 : Sto} {d : D} {r : Bool} (h : m env S = .ok d S1) (ht : isTy xt S1 d b = some r) : sIsi xt b m env S = .ok (.bl r) S1 := by
  unfold sIsi
  rw [h, bind_ok, ht]
theorem sIsi2_ok {b c : String} {m : SemE} {env : Env} {S S1 : Sto} {d : D} {a : String} (hb : (askTy.contains b && askTy.contains c) = true) (h : m env S = .ok d S1) (ht : tyName S1 d = some a) : sIsi2 b c m env S = .ok (.bl (kitT a b || kitT a c)) S1 := by
  unfold sIsi2
  rw [h, bind_ok, if_pos hb, ht]
theorem sLc_ok {vs : List Nat} {i : SemA} {t : Tg} {c : SemT} {e : SemE} {env : Env} {S S1 S2 : Sto} {ds ys : List D} (h1 : i env S = .ok ds S1) (h2 : lcGo t c e (wipeE env vs) ds [] S1 = .ok ys S2) : sLc vs i t c e env S = .ok (.lst ys) S2 := by
  unfold sLc
  rw [h1, bind_ok, h2, bind_ok]
theorem bls_map {α : Type} (q : α → Bool) : ∀ l : List α, blsOf (l.map fun a => D.bl (q a)) = some (l.map q)
  | [] => rfl
  | a :: l => by simp only [List.map_cons, blsOf, bls_map q l, Option.map_some]
theorem all_map {α : Type} {S : Sto} (q : α → Bool) (l : List α) : bAll S [.lst (l.map fun a => D.bl (q a))] = .ok (.bl (l.all q)) S := by
  show (match blsOf (l.map fun a => D.bl (q a)) with | some bs => Res.ok (D.bl (bs.all id)) S | none => .bad) = _
  rw [bls_map]
  simp
theorem strs_map : ∀ l : List Str, strsOf (l.map D.str) = some l
  | [] => rfl
  | a :: l => by simp only [List.map_cons, strsOf, strs_map l, Option.map_some]
theorem len_str {S : Sto} {x : Str} (h : x.length ≤ lim) : bLen S [.str x] = .ok (.int x.length) S := if_pos h
theorem len_lst {S : Sto} {l : List D} : bLen S [.lst l] = .ok (.int l.length) S := rfl
theorem len_tup {S : Sto} {l : List D} : bLen S [.tup l] = .ok (.int l.length) S := rfl
theorem in_sign {S : Sto} {c : Nat} {z : Str} : fIn S (.str ⟨#[c]⟩) (.str z) = .ok (.bl (decide (c ∈ z.cps.toList))) S := rfl
theorem notin_sign {S : Sto} {c : Nat} {z : Str} : fNotIn S (.str ⟨#[c]⟩) (.str z) = .ok (.bl (!decide (c ∈ z.cps.toList))) S := rfl
end T
end S_TEv
section S_TEv2
set_option Elab.async false
set_option linter.all false
set_option maxRecDepth 100000
set_option maxHeartbeats 4000000
namespace T
open PySem L2
theorem sSeq_nx {a b : SemS} {env env1 : Env} {S S1 : Sto} (h : a env S = .nx env1 S1) : sSeq a b env S = b env1 S1 := by
  unfold sSeq
  rw [h]
theorem sAsg_gN {m : SemE} {i : Nat} {env : Env} {S S1 : Sto} {d : D} (h : m env S = .ok d S1) : sAsg m (gN i) env S = .nx (env.set i (some d)) S1 := by
  unfold sAsg
  rw [h]
  rfl
theorem fnOf_eq {n N : Nat} {m : SemS} {ds : List D} {S : Sto} (h : ds.length = n) : fnOf n N m ds S = fnEnd S.length (m (entry N ds) S) := if_pos h
theorem call1 {φ : Fn} {m : SemE} {env : Env} {S S1 : Sto} {d : D} (h : m env S = .ok d S1) : sCall φ (aCons m aNil) env S = φ [d] S1 := by
  unfold sCall aCons
  rw [h]
  rfl
theorem call2 {φ : Fn} {m n : SemE} {env : Env} {S S1 S2 : Sto} {d e : D} (h : m env S = .ok d S1) (h2 : n env S1 = .ok e S2) : sCall φ (aCons m (aCons n aNil)) env S = φ [d, e] S2 := by
  unfold sCall aCons
  rw [h, bind_ok, h2]
  rfl
theorem callK1 {φ : Fn} {m : SemE} {env : Env} {S S1 : Sto} {d : D} (h : m env S = .ok d S1) : sCallK φ 0 1 [0] aNil (aCons m aNil) env S = φ [d] S1 := by
  unfold sCallK aCons
  show (((m env S).bind _).bind _) = _
  rw [h]
  rfl
theorem sF1 {f : FnB} {m : SemE} {env : Env} {S S1 : Sto} {d : D} (h : m env S = .ok d S1) : sF f (aCons m aNil) env S = f S1 [d] := by
  unfold sF aCons
  rw [h]
  rfl
/-! ### plain data -/
def Pla (S : Sto) (k : Nat) (d : D) : Prop := ∃ p, toPy S d = some p ∧ p.canLay0 = true ∧ p.depth ≤ k
section
variable {S : Sto} {k : Nat}
theorem Pla.non : Pla S k .non := ⟨.none, rfl, rfl, Nat.zero_le _⟩
theorem Pla.bl {b : Bool} : Pla S k (.bl b) := ⟨.bool b, rfl, rfl, Nat.zero_le _⟩
theorem Pla.int {i : Int} : Pla S k (.int i) := ⟨.int i, rfl, rfl, Nat.zero_le _⟩
theorem Pla.str {x : Str} (h : PyData.strOk x = true) : Pla S k (.str x) := ⟨.str x, rfl, by simpa [PyData.canLay0] using h, Nat.zero_le _⟩
theorem plaL : ∀ {ds : List D}, (∀ d ∈ ds, Pla S k d) → ∃ ps, toPyL S ds = some ps ∧ PyData.canLayAll0 ps = true ∧ PyData.depthAll ps ≤ k ∧ ps.length = ds.length
  | [], _ => ⟨[], rfl, rfl, Nat.zero_le _, rfl⟩
  | d :: ds, h => by
    obtain ⟨p, h1, h2, h3⟩ := h d List.mem_cons_self
    obtain ⟨ps, q1, q2, q3, q4⟩ := plaL (ds := ds) fun e he => h e (List.mem_cons_of_mem _ he)
    refine ⟨p :: ps, by simp only [toPyL, h1, q1], by simp only [PyData.canLayAll0, h2, q2]; rfl, by simp only [PyData.depthAll]; omega, by simp [q4]⟩
theorem Pla.tup {ds : List D} (h : ∀ d ∈ ds, Pla S k d) : Pla S (k + 1) (.tup ds) := by
  obtain ⟨ps, q1, q2, q3, _⟩ := plaL h
  exact ⟨.tuple ps, by simp only [toPy, q1, Option.map_some], by simpa only [PyData.canLay0] using q2, by simp only [PyData.depth]; omega⟩
theorem Pla.lst {ds : List D} (h : ∀ d ∈ ds, Pla S k d) : Pla S (k + 1) (.lst ds) := by
  obtain ⟨ps, q1, q2, q3, _⟩ := plaL h
  exact ⟨.list ps, by simp only [toPy, q1, Option.map_some], by simpa only [PyData.canLay0] using q2, by simp only [PyData.depth]; omega⟩
theorem eqvAll_nil (ps : List PyData) : PyData.eqvAll ps [] = ps.isEmpty := by cases ps <;> rfl
theorem sh_l : SeqAt.shaped (.list []) = true := by decide +kernel
theorem sh_t : SeqAt.shaped (.tuple []) = true := by decide +kernel
theorem sh_n : SeqAt.shaped .none = true := by decide +kernel
theorem deq_nilL {ds : List D} (h : ∀ d ∈ ds, Pla S 20 d) : deq S (.lst ds) (.lst []) = some ds.isEmpty := by
  obtain ⟨ps, q1, q2, q3, q4⟩ := plaL h
  show (match (toPyL S ds).map PyData.list, some (PyData.list []) with
    | some p, some q => if SeqAt.shaped p && SeqAt.shaped q then some (PyData.eqv p q) else none
    | _, _ => none) = _
  rw [q1]
  have e : SeqAt.shaped (.list ps) = true := by
    unfold SeqAt.shaped
    rw [Bool.and_eq_true, decide_eq_true_eq]
    exact ⟨by simpa only [PyData.canLay0] using q2, by simp only [PyData.depth]; omega⟩
  show (if SeqAt.shaped (.list ps) && SeqAt.shaped (.list []) then some (PyData.eqvAll ps []) else none) = _
  rw [e, sh_l, eqvAll_nil, Bool.and_self, if_pos rfl]
  cases ps <;> cases ds <;> simp_all
theorem deq_nilT {ds : List D} (h : ∀ d ∈ ds, Pla S 20 d) : deq S (.tup ds) (.tup []) = some ds.isEmpty := by
  obtain ⟨ps, q1, q2, q3, q4⟩ := plaL h
  show (match (toPyL S ds).map PyData.tuple, some (PyData.tuple []) with
    | some p, some q => if SeqAt.shaped p && SeqAt.shaped q then some (PyData.eqv p q) else none
    | _, _ => none) = _
  rw [q1]
  have e : SeqAt.shaped (.tuple ps) = true := by
    unfold SeqAt.shaped
    rw [Bool.and_eq_true, decide_eq_true_eq]
    exact ⟨by simpa only [PyData.canLay0] using q2, by simp only [PyData.depth]; omega⟩
  show (if SeqAt.shaped (.tuple ps) && SeqAt.shaped (.tuple []) then some (PyData.eqvAll ps []) else none) = _
  rw [e, sh_t, eqvAll_nil, Bool.and_self, if_pos rfl]
  cases ps <;> cases ds <;> simp_all
theorem eq_nil {ds : List D} (h : ∀ d ∈ ds, Pla S 20 d) : fEq S (.lst ds) (.lst []) = .ok (.bl ds.isEmpty) S := by unfold fEq; rw [deq_nilL h]
theorem ne_nil {ds : List D} (h : ∀ d ∈ ds, Pla S 20 d) : fNe S (.lst ds) (.lst []) = .ok (.bl (!ds.isEmpty)) S := by unfold fNe; rw [deq_nilL h]
theorem ne_nilT {ds : List D} (h : ∀ d ∈ ds, Pla S 20 d) : fNe S (.tup ds) (.tup []) = .ok (.bl (!ds.isEmpty)) S := by unfold fNe; rw [deq_nilT h]
def isNon : D → Bool
  | .non => true
  | _ => false
theorem flat_non : ∀ ds : List D, ds.any (fun e => eqF e .non) = ds.any isNon
  | [] => rfl
  | d :: ds => by rw [List.any_cons, List.any_cons, flat_non ds]; cases d <;> rfl
theorem eqv_non {d : D} {p : PyData} (h : toPy S d = some p) : PyData.eqv p .none = isNon d := by
  cases d with
  | non => simp only [toPy] at h; cases h; rfl
  | bl b => simp only [toPy] at h; cases h; rfl
  | int b => simp only [toPy] at h; cases h; rfl
  | str b => simp only [toPy] at h; cases h; rfl
  | tup ds => simp only [toPy] at h; cases q : toPyL S ds with
    | none => rw [q] at h; cases h
    | some ps => rw [q] at h; cases h; rfl
  | lst ds => simp only [toPy] at h; cases q : toPyL S ds with
    | none => rw [q] at h; cases h
    | some ps => rw [q] at h; cases h; rfl
  | rdl ds => simp only [toPy] at h; cases q : toPyL S ds with
    | none => rw [q] at h; cases h
    | some ps => rw [q] at h; cases h; rfl
  | _ => simp only [toPy] at h; cases h
theorem any_non : ∀ {ds : List D} {ps : List PyData}, toPyL S ds = some ps → ps.any (fun w => PyData.eqv w .none) = ds.any isNon
  | [], ps, h => by simp only [toPyL] at h; cases h; rfl
  | d :: ds, ps, h => by
    simp only [toPyL] at h
    cases q : toPy S d with
    | none => rw [q] at h; cases h
    | some p =>
      cases q2 : toPyL S ds with
      | none => rw [q, q2] at h; cases h
      | some qs =>
        rw [q, q2] at h
        cases h
        rw [List.any_cons, List.any_cons, any_non q2, eqv_non q]
theorem non_in {ds : List D} (h : ∀ d ∈ ds, Pla S 20 d) : fIn S .non (.lst ds) = .ok (.bl (ds.any isNon)) S := by
  obtain ⟨ps, q1, q2, q3, q4⟩ := plaL h
  have e : SeqAt.shaped (.list ps) = true := by
    unfold SeqAt.shaped
    rw [Bool.and_eq_true, decide_eq_true_eq]
    exact ⟨by simpa only [PyData.canLay0] using q2, by simp only [PyData.depth]; omega⟩
  have z : inD S .non (.lst ds) = some (ds.any isNon) := by
    show (if flatD .non && ds.all flatD then some (ds.any fun e => eqF e .non) else (match toPy S (rd S .non), toPyL S ds with
      | some p, some ps => if SeqAt.shaped p && SeqAt.shaped (.list ps) then some (ps.any fun w => PyData.eqv w p) else none
      | _, _ => none)) = _
    rw [flat_non]
    split
    · rfl
    · rw [q1]
      show (if SeqAt.shaped .none && SeqAt.shaped (.list ps) then some (ps.any fun w => PyData.eqv w .none) else none) = _
      rw [e, sh_n, Bool.and_self, if_pos rfl, any_non q1]
  unfold fIn
  rw [z]
end
end T
end S_TEv2
section S_TEv3
set_option Elab.async false
set_option linter.all false
set_option maxRecDepth 100000
set_option maxHeartbeats 4000000
namespace T
open PySem L2
section
variable {m n a b : SemE} {ma mb : SemA} {c : SemT} {g : SemG} {p q : SemS} {env env1 env2 : Env} {S S1 S2 S3 : Sto} {d e : D} {ds es : List D}
theorem aNil_ok : aNil env S = .ok [] S := rfl
theorem aCons_ok (h1 : m env S = .ok d S1) (h2 : ma env S1 = .ok ds S2) : aCons m ma env S = .ok (d :: ds) S2 := by unfold aCons; rw [h1, bind_ok, h2]; rfl
theorem sTup_ok (h : ma env S = .ok ds S1) (hl : ds.length ≤ lim) : sTup ma env S = .ok (.tup ds) S1 := by unfold sTup; rw [h, bind_ok, if_pos hl]
theorem sLst_ok (h : ma env S = .ok ds S1) (hl : ds.length ≤ lim) : sLst ma env S = .ok (.lst ds) S1 := by unfold sLst; rw [h, bind_ok, if_pos hl]
theorem sLstC_ok (h : ma env S = .ok ds S1) (hl : ds.length ≤ lim) : sLstC ma env S = .ok (.cell S1.length) (S1 ++ [.lv (.lst ds)]) := by unfold sLstC; rw [h, bind_ok, if_pos hl]
theorem sF_ok {f : FnB} (h : ma env S = .ok ds S1) : sF f ma env S = f S1 ds := by unfold sF; rw [h, bind_ok]
theorem sCall_ok {φ : Fn} (h : ma env S = .ok ds S1) : sCall φ ma env S = φ ds S1 := by unfold sCall; rw [h, bind_ok]
theorem sOp_ok {f : Op2} (h1 : m env S = .ok d S1) (h2 : n env S1 = .ok e S2) : sOp f m n env S = f S2 d e := by unfold sOp; rw [h1, bind_ok, h2, bind_ok]
theorem sAsg_ok (h : m env S = .ok d S1) : sAsg m g env S = g d env S1 := by unfold sAsg; rw [h, ofE_ok]
theorem sRet_ok (h : m env S = .ok d S1) : sRet m env S = .rt d S1 := by unfold sRet; rw [h, ofE_ok]
theorem sDo_ok (h : m env S = .ok d S1) : sDo m env S = .nx env S1 := by unfold sDo; rw [h, ofE_ok]
theorem isB_ok {r : Bool} (h : m env S = .ok (.bl r) S1) : isB m env S = .ok r S1 := by unfold isB; rw [h, bind_ok]
theorem cNot_ok {r : Bool} (h : c env S = .ok r S1) : cNot c env S = .ok (!r) S1 := by unfold cNot; rw [h, bind_ok]
theorem sIf_t (h : c env S = .ok true S1) : sIf c p q env S = p env S1 := by unfold sIf; rw [h, ofE_ok, if_pos rfl]
theorem sIf_f (h : c env S = .ok false S1) : sIf c p q env S = q env S1 := by unfold sIf; rw [h, ofE_ok, if_neg (by decide)]
theorem sIfx_t (h : c env S = .ok true S1) : sIfx c m n env S = m env S1 := by unfold sIfx; rw [h, bind_ok, if_pos rfl]
theorem sIfx_f (h : c env S = .ok false S1) : sIfx c m n env S = n env S1 := by unfold sIfx; rw [h, bind_ok, if_neg (by decide)]
theorem sSeq_rt (h : p env S = .rt d S1) : sSeq p q env S = .rt d S1 := by unfold sSeq; rw [h]
theorem gTg_ok {t : Tg} (h : tgE env t d = some env1) : gTg t d env S = .nx env1 S := by unfold gTg; rw [h]
theorem sM_ok {Ty : String} {f : FnM} (h1 : m env S = .ok d S1) (ty : tyIs Ty S1 d = true) (h2 : ma env S1 = .ok ds S2) : sM Ty f m ma env S = f S2 d ds := by unfold sM; rw [h1, bind_ok, if_pos ty, h2, bind_ok]
theorem iRng1_ok {j : Int} {k : Nat} (h : ma env S = .ok [.int j] S1) (hj : j = k) (hk : k ≤ 1000000) : T.iRng1 ma env S = .ok (rngD 0 k) S1 := by
  unfold T.iRng1
  rw [h, bind_ok]
  subst hj
  show (if decide (-1000000 ≤ (k : Int) ∧ (k : Int) ≤ 1000000) then Res.ok (rngD 0 (k : Int).toNat) S1 else .bad) = _
  rw [if_pos (by rw [decide_eq_true_eq]; omega), Int.toNat_natCast]
theorem rngD_len {i : Int} {n : Nat} : (rngD i n).length = n := by unfold rngD; simp
theorem forGo_nx {t : Tg} {b : SemS} (h1 : tgE env t d = some env1) (h2 : b env1 S = .nx env2 S2) : forGo t b (d :: ds) env S = forGo t b ds env2 S2 := by
  conv => lhs; unfold forGo
  simp only [h1, h2]
theorem forGo_rt {t : Tg} {b : SemS} (h1 : tgE env t d = some env1) (h2 : b env1 S = .rt e S2) : forGo t b (d :: ds) env S = .rt e S2 := by
  conv => lhs; unfold forGo
  simp only [h1, h2]
theorem sFor_ok {i : SemA} {t : Tg} {b : SemS} (h : i env S = .ok ds S1) : sFor i t b env S = forGo t b ds env S1 := by
  unfold sFor
  rw [h]
  rfl
end
/-- a comprehension whose items are drawn, of at most M -/
theorem lc_rel' {t : Tg} {c : SemT} {e : SemE} {env : Env} {I : Nat → Sto → Prop} {R : D → D → Prop} {M : Nat} : ∀ (l : List D) (i : Nat) (acc : List D) (S : Sto), (∀ d ∈ l, ∀ i S, i < M → I i S → ∃ env1 y S1, tgE env t d = some env1 ∧ c env1 S = .ok true S ∧ e env1 S = .ok y S1 ∧ I (i + 1) S1 ∧ R d y) → i + l.length ≤ M → acc.length + l.length ≤ lim → I i S →
    ∃ ys S', lcGo t c e env l acc S = .ok (acc ++ ys) S' ∧ I (i + l.length) S' ∧ All2 R l ys
  | [], i, acc, S, _, _, _, h0 => ⟨[], S, by simp [lcGo], h0, .nil⟩
  | d :: l, i, acc, S, h, hM, hl, h0 => by
    rw [List.length_cons] at hl hM
    obtain ⟨env1, y, S1, h1, h2, h3, h4, h5⟩ := h d List.mem_cons_self i S (by omega) h0
    obtain ⟨ys, S', e1, e2, e3⟩ := lc_rel' l (i + 1) (acc ++ [y]) S1 (fun b hb => h b (List.mem_cons_of_mem _ hb)) (by omega) (by rw [List.length_append, List.length_singleton]; omega) h4
    refine ⟨y :: ys, S', ?_, by rw [List.length_cons, show i + (l.length + 1) = i + 1 + l.length by omega]; exact e2, .cons h5 e3⟩
    simp only [lcGo, h1, h2, h3, bind_ok, if_true]
    rw [if_pos (by omega), e1, List.append_assoc]
    rfl
theorem All2.len {α β : Type} {R : α → β → Prop} {l : List α} {ys : List β} (h : All2 R l ys) : ys.length = l.length := by
  induction h with
  | nil => rfl
  | cons _ _ ih => simp [ih]
theorem All2.right {α β : Type} {R : α → β → Prop} {P : β → Prop} {l : List α} {ys : List β} (h : All2 R l ys) (i : ∀ a b, R a b → P b) : ∀ y ∈ ys, P y := by
  induction h with
  | nil => intro y hy; cases hy
  | cons h1 _ ih =>
    intro y hy
    rcases List.mem_cons.mp hy with rfl | hy
    · exact i _ _ h1
    · exact ih y hy
theorem rngD_mem {lo : Int} {n : Nat} {d : D} (h : d ∈ rngD lo n) : ∃ i : Nat, i < n ∧ d = .int (lo + i) := by
  unfold rngD at h
  obtain ⟨i, hi, rfl⟩ := List.mem_map.mp h
  exact ⟨i, List.mem_range.mp hi, rfl⟩
theorem perm_cut {α : Type} (l : List α) (v : Nat) (hv : v < l.length) : l.Perm (l[v] :: (l.take v ++ l.drop (v + 1))) := by
  have e : l = l.take v ++ l[v] :: l.drop (v + 1) := by rw [List.getElem_cons_drop, List.take_append_drop]
  conv => lhs; rw [e]
  exact List.perm_middle
end T
end S_TEv3
section S_LSem
set_option Elab.async false
set_option linter.all false
set_option maxRecDepth 100000
set_option maxHeartbeats 8000000
namespace T
open PySem L2
def xt0 : Str → String → Option Bool := fun _ _ => none
theorem xtab0 {K : PySem.W.Frag} {mg : Str → Option Value} : XTab K mg xt0 := fun _ _ _ _ h => by cases h
end T
namespace LW
open PySem L2 T
def i_Twice : FnI := ini1 1 (aCons (sV 1) (aNil)) "name" (sV 1)
def i_Loop : FnI := ini1 1 (aCons (sV 1) (aNil)) "name" (sV 1)
def i_SameGate : FnI := ini2 2 (aCons (sV 1) (aCons (sV 2) (aNil))) "one" "other" (aCons (sV 1) (aCons (sV 2) (aNil)))
def i_Waits : FnI := ini2 2 (aCons (sV 1) (aCons (sV 2) (aNil))) "name" "other" (aCons (sV 1) (aCons (sV 2) (aNil)))
def i_Away : FnI := ini1 1 (aCons (sV 1) (aNil)) "name" (sV 1)
def i_Here : FnI := ini1 1 (aCons (sV 1) (aNil)) "name" (sV 1)
def i_Endless : FnI := ini1 1 (aCons (sV 1) (aNil)) "name" (sV 1)
def i_TooMany : FnI := ini1 1 (aCons (sV 1) (aNil)) "most" (sV 1)
def i_BadLine : FnI := ini1 1 (aCons (sV 1) (aNil)) "number" (sV 1)
def i_NoGarden : FnI := ini1 1 (aCons (sV 1) (aNil)) "name" (sV 1)
def i_NoGate : FnI := ini2 2 (aCons (sV 1) (aCons (sV 2) (aNil))) "one" "other" (aCons (sV 1) (aCons (sV 2) (aNil)))
def i_NoRing : FnI := ini1 1 (aCons (sV 1) (aNil)) "ring" (sF bTuple (aCons (sV 1) aNil))
def i_NoNumber : FnI := ini1 1 (aCons (sV 1) (aNil)) "number" (sV 1)
def m_law_take : SemS :=
  sSeq (sIf (isB (sOp fGt (sOp fIx (sV 0) (sC (.int 0))) (sC (.int 0)))) (sSeq (sAsg (sOp fMod (sF bInt (aCons (sOp fIx (sV 0) (sC (.int 0))) (aNil))) (sV 1)) (gN 2))
  (sSeq (sAsg (sOp fDiv (sOp fIx (sV 0) (sC (.int 0))) (sV 1)) (gIx (sV 0) (sC (.int 0))))
  (sRet (sV 2)))) (sNext))
  (sSeq (sAsg (sOp fAdd (sOp fIx (sV 0) (sC (.int 2))) (sC (.int 1))) (gIx (sV 0) (sC (.int 2))))
  (sSeq (sAsg (sOp fMod (sF bInt (aCons (sOp fMulA (sOp fAdd (sOp fIx (sV 0) (sC (.int 1))) (sOp fMulA (sC (.int 48271)) (sOp fIx (sV 0) (sC (.int 2))))) (sOp fAdd (sC (.int 39373)) (sOp fIx (sV 0) (sC (.int 2))))) (aNil))) (sC (.int 2147483647))) (gN 3))
  (sSeq (sAsg (sOp fAdd (sOp fMod (sF bInt (aCons (sV 3) (aNil))) (sC (.int 40009))) (sC (.int 7))) (gN 4))
  (sSeq (sAsg (sOp fMod (sF bInt (aCons (sOp fMulA (sOp fAdd (sOp fAdd (sV 3) (sOp fIx (sV 0) (sC (.int 2)))) (sOp fDiv (sOp fIx (sV 0) (sC (.int 1))) (sC (.int 1000003)))) (sV 4)) (aNil))) (sC (.int 2147483629))) (gN 5))
  (sRet (sOp fMod (sF bInt (aCons (sOp fDiv (sOp fMod (sF bInt (aCons (sOp fAdd (sOp fMulA (sV 5) (sC (.int 48271))) (sV 3)) (aNil))) (sC (.int 2147483587))) (sC (.int 64))) (aNil))) (sV 1)))))))
def f_law_take : Fn := fnOf 2 6 m_law_take
def b_law_cells_1 : SemS :=
  sSeq (sAsg (sOp fMod (sF bInt (aCons (sV 3) (aNil))) (sV 1)) (gN 5))
  (sAsg (sOp fAdd (sOp fIx (sV 2) (sV 5)) (sOp fMulA (sV 4) (sOp fAdd (sV 3) (sC (.int 2))))) (gIx (sV 2) (sV 5)))
def m_law_cells : SemS :=
  sSeq (sAsg (sOrL (sF bListAC (aCons (sSl (sV 0) (oNone) (oSome (sV 1))) (aNil))) (sLstC (aCons (sC (.int 0)) (aNil)))) (gN 2))
  (sSeq (sFor (iEnumS (aCons (sSl (sV 0) (oSome (sV 1)) (oSome (sC (.int 63)))) (aNil))) (.tp [3, 4]) (b_law_cells_1))
  (sRet (sV 2)))
def f_law_cells : Fn := fnCut 2 6 m_law_cells
def m_law_of : SemS :=
  sRet (sOp fIx (sV 1) (sCall (f_law_take) (aCons (sV 0) (aCons (sF bLen (aCons (sV 1) (aNil))) (aNil)))))
def f_law_of : Fn := fnOf 2 2 m_law_of
def m_law_same (φ : Fn) : SemS :=
  sSeq (sIf (isB (sIsi2 "list" "tuple" (sV 1))) (sSeq (sIf (cOr (isB (sOp fNe (sIsi xt0 "list" (sV 0)) (sIsi xt0 "list" (sV 1)))) (isB (sOp fNe (sIsi xt0 "tuple" (sV 0)) (sIsi xt0 "tuple" (sV 1))))) (sRet (sC (.bl false))) (sNext))
  (sRet (sAnd (sOp fEq (sF bLen (aCons (sV 0) (aNil))) (sF bLen (aCons (sV 1) (aNil)))) (sF bAll (aCons (sLc [3, 2] (iZipS (aCons (sV 0) (aCons (sV 1) (aNil)))) (.tp [3, 2]) (cYes) (sCall (φ) (aCons (sV 3) (aCons (sV 2) (aNil))))) (aNil)))))) (sNext))
  (sSeq (sIf (cOr (isB (sOp fIsN (sV 1) (sC .non))) (isB (sIsi2 "bool" "str" (sV 1)))) (sRet (sAnd (sOp fEq (sV 0) (sV 1)) (sAnd (sOp fEq (sIsi xt0 "bool" (sV 0)) (sIsi xt0 "bool" (sV 1))) (sOp fEq (sOp fIsN (sV 0) (sC .non)) (sOp fIsN (sV 1) (sC .non)))))) (sNext))
  (sRet (sAnd (sIsi xt0 "int" (sV 0)) (sAnd (sNot (sIsi xt0 "bool" (sV 0))) (sOp fEq (sV 0) (sV 1))))))
def f_law_same : Nat → Fn
  | 0 => fun _ _ => .bad
  | k + 1 => fnOf 2 4 (m_law_same (f_law_same k))
def b_law_mixed_1 : SemS :=
  sSeq (sAsg (sCall (f_law_take) (aCons (sV 0) (aCons (sF bLen (aCons (sV 2) (aNil))) (aNil)))) (gN 5))
  (sSeq (sDo (sM "list" mAppend (sV 3) (aCons (sOp fIx (sV 2) (sV 5)) (aNil))))
  (sAsg (sOp fAdd (sSl (sV 2) (oNone) (oSome (sV 5))) (sSl (sV 2) (oSome (sOp fAdd (sV 5) (sC (.int 1)))) (oNone))) (gN 2)))
def m_law_mixed : SemS :=
  sSeq (sAsg (sTup (aCons (sF bListA (aCons (sV 1) (aNil))) (aCons (sLstC (aNil)) (aNil)))) (gTg (.tp [2, 3])))
  (sSeq (sFor (T.iRng1 (aCons (sF bLen (aCons (sV 1) (aNil))) (aNil))) (.nm 4) (b_law_mixed_1))
  (sRet (sV 3)))
def f_law_mixed : Fn := fnCut 2 6 m_law_mixed
def m_law_tags : SemS :=
  sSeq (sAsg (sCall (f_law_mixed) (aCons (sV 0) (aCons (sC (.str "abcdefghijklmnopqrstuvwxyz")) (aNil)))) (gN 2))
  (sSeq (sAsg (sCall (f_law_take) (aCons (sV 0) (aCons (sC (.int 4)) (aNil)))) (gN 3))
  (sSeq (sAsg (sTup (aCons (sOp fIx (sLst (aCons (sC (.str "")) (aCons (sC (.str "")) (aCons (sC (.str "gate")) (aCons (sC (.str "z")) (aNil)))))) (sV 3)) (aCons (sOp fIx (sLst (aCons (sC (.str "")) (aCons (sC (.str "")) (aCons (sC (.str "")) (aCons (sC (.str "yyyyyy")) (aNil)))))) (sV 3)) (aNil)))) (gTg (.tp [4, 5])))
  (sSeq (sAsg (sLc [7] (iSeq (sSl (sV 2) (oNone) (oSome (sF bMin2 (aCons (sV 1) (aCons (sC (.int 26)) (aNil))))))) (.nm 7) (cYes) (sOp fAdd (sOp fAdd (sV 4) (sV 7)) (sV 5))) (gN 6))
  (sRet (sOp fAdd (sV 6) (sLc [8] (T.iRng1 (aCons (sOp fSub (sV 1) (sF bLen (aCons (sV 6) (aNil)))) (aNil))) (.nm 8) (cYes) (sOp fAdd (sOp fAdd (sC (.str "more")) (sOp fIx (sV 2) (sOp fDiv (sV 8) (sC (.int 26))))) (sOp fIx (sV 2) (sOp fMod (sF bInt (aCons (sV 8) (aNil))) (sC (.int 26)))))))))))
def f_law_tags : Fn := fnOf 2 9 m_law_tags
end LW
end S_LSem
section S_LM1
set_option Elab.async false
set_option linter.all false
set_option maxRecDepth 100000
set_option maxHeartbeats 4000000
namespace LW
open PySem L2 T
def isL (c : Nat) : Bool := decide (c ∈ ("abcdefghijklmnopqrstuvwxyz" : Str).cps.toList)
def nmB (x : Str) : Bool := decide ((1 : Int) ≤ x.length) && (decide ((x.length : Int) ≤ 8) && x.cps.toList.all isL)
abbrev sts (l : List Str) : List D := l.map D.str
abbrev nums (l : List Int) : List D := l.map D.int
theorem atI_nat {α : Type} {xs : List α} {j : Int} {k : Nat} (hj : j = (k : Int)) (hk : k < xs.length) : atI xs j = some xs[k] := by
  subst hj
  unfold atI ixN
  rw [if_pos (by omega), if_pos (by omega)]
  show xs[(k : Int).toNat]? = _
  rw [Int.toNat_natCast, List.getElem?_eq_getElem hk]
theorem take_ok {S : Sto} {n : Nat} {a b c m : Int} (h : S[n]? = some (bx a b c)) (c0 : 0 ≤ c) (c1 : c < 2 ^ 62) (m0 : 0 < m) (m1 : m < 1073741824) :
   ∃ v a' c' : Int, f_law_take [.cell n, .int m] S = .ok (.int v) (S.set n (bx a' b c')) ∧ 0 ≤ v ∧ v < m ∧ c ≤ c' ∧ c' ≤ c + 1 := by
  unfold f_law_take m_law_take
  have e0 := (ix_bx h).1
  have ix0 : ixN (0+1+1+1) 0 = some 0 := rfl
  have ix2 : ixN (0+1+1+1) 2 = some 2 := rfl
  by_cases ha : 0 < a
  · refine ⟨a % m, a / m, c, ?_, Int.emod_nonneg _ (by omega), Int.emod_lt_of_pos _ m0, Int.le_refl _, by omega⟩
    (simp only [fnOf, fnEnd, sSeq, sIf, sRet, sRetN, sNext, sDo, sAsg, gN, gTg, tgE, isB, cAnd, cOr, cNot, sAnd, sOr, sNot, sIfx, sTup, sLst, sChain, sOp, sV, sC, aNil, aCons, sCall, sF, sCallK, perm, bind_ok, bind_exc, bind_bad, ofE_ok, ofE_exc, entry, List.length_cons, List.length_nil, List.map_cons, List.map_nil, Nat.reduceAdd, Nat.reduceSub, Nat.zero_add, List.reduceReplicate, List.cons_append, List.nil_append, List.getElem?_cons_zero, List.getElem?_cons_succ, List.set_cons_zero, List.set_cons_succ, if_true, if_false, ite_true, ite_false, reduceIte, List.zip_cons_cons, List.zip_nil_left, List.zip_nil_right, List.foldl_cons, List.foldl_nil, ↓reduceIte])
    simp only [e0, h, e_gt, decide_eq_true ha, bind_ok, ofE_ok, if_true, e_int, e_mod m0, e_div (And.intro m0 m1), List.getElem?_cons_zero, List.getElem?_cons_succ, List.set_cons_zero, e_gIx0 h, List.set_cons_succ]
    rw [fin_ok (List.length_set ..)]
  · have h2 := set_bx (y := bx a b (c + 1)) h
    have e1 := ix_bx h2
    have w1 : ∀ x, fMulA (S.set n (bx a b (c+1))) (.int x) (.int (39373 + (c + 1))) = .ok (.int (x * (39373 + (c + 1)))) (S.set n (bx a b (c+1))) := fun x => e_mulR ⟨by omega, by omega⟩
    have w2 : ∀ x, fMulA (S.set n (bx a b (c+1))) (.int 48271) (.int x) = .ok (.int (48271 * x)) (S.set n (bx a b (c+1))) := fun x => e_mulL ⟨by decide, by decide⟩
    have w3 : ∀ x, fMulA (S.set n (bx a b (c+1))) (.int x) (.int 48271) = .ok (.int (x * 48271)) (S.set n (bx a b (c+1))) := fun x => e_mulR ⟨by decide, by decide⟩
    have w4 : ∀ x y, fMulA (S.set n (bx a b (c+1))) (.int x) (.int (y % 40009 + 7)) = .ok (.int (x * (y % 40009 + 7))) (S.set n (bx a b (c+1))) := fun x y => e_mulR ⟨by omega, by omega⟩
    suffices z : ∃ z : Int, f_law_take [.cell n, .int m] S = .ok (.int (z % m)) (S.set n (bx a b (c + 1))) by
      obtain ⟨z, e⟩ := z
      exact ⟨_, a, c + 1, e, Int.emod_nonneg _ (by omega), Int.emod_lt_of_pos _ m0, by omega, Int.le_refl _⟩
    unfold f_law_take m_law_take
    apply Exists.intro
    (simp only [fnOf, fnEnd, sSeq, sIf, sRet, sRetN, sNext, sDo, sAsg, gN, gTg, tgE, isB, cAnd, cOr, cNot, sAnd, sOr, sNot, sIfx, sTup, sLst, sChain, sOp, sV, sC, aNil, aCons, sCall, sF, sCallK, perm, bind_ok, bind_exc, bind_bad, ofE_ok, ofE_exc, entry, List.length_cons, List.length_nil, List.map_cons, List.map_nil, Nat.reduceAdd, Nat.reduceSub, Nat.zero_add, List.reduceReplicate, List.cons_append, List.nil_append, List.getElem?_cons_zero, List.getElem?_cons_succ, List.set_cons_zero, List.set_cons_succ, if_true, if_false, ite_true, ite_false, reduceIte, List.zip_cons_cons, List.zip_nil_left, List.zip_nil_right, List.foldl_cons, List.foldl_nil, ↓reduceIte])
    simp only [e0, (ix_bx h).2.2, e_gt, decide_eq_false ha, bind_ok, ofE_ok, if_false, Bool.false_eq_true, e_int, e_add, List.getElem?_cons_zero, List.getElem?_cons_succ, e_gIx2 h, e1.1, e1.2.1, e1.2.2, w1, w2, w3, w4, e_mod (show (0:Int) < 2147483647 by decide), e_mod (show (0:Int) < 40009 by decide), List.set_cons_zero, List.set_cons_succ, e_div (show (0:Int) < 1000003 ∧ (1000003 : Int) < 1073741824 by decide), e_mod (show (0:Int) < 2147483629 by decide), e_mod (show (0:Int) < 2147483587 by decide), e_div (show (0:Int) < 64 ∧ (64 : Int) < 1073741824 by decide), e_mod m0, List.length_set, fin_ok]
    exact rfl
/-- the store in the draws: closed, a box at n -/
structure Bx (L n : Nat) (k : Int) (S : Sto) : Prop where
  len : S.length = L
  all : S.all (belowC L) = true
  at_ : ∃ a b c, S[n]? = some (bx a b c) ∧ 0 ≤ c ∧ c ≤ k
theorem Bx.up {L n : Nat} {k k' : Int} {S : Sto} (h : Bx L n k S) (e : k ≤ k') : Bx L n k' S := by
  obtain ⟨a, b, c, h1, h2, h3⟩ := h.at_
  exact ⟨h.len, h.all, a, b, c, h1, h2, by omega⟩
theorem all_set {S : Sto} {L n : Nat} {a b c : Int} (h : S.all (belowC L) = true) : (S.set n (bx a b c)).all (belowC L) = true := List.all_eq_true.mpr fun x hx => by
  rcases List.mem_or_eq_of_mem_set hx with z | z
  · exact List.all_eq_true.mp h x z
  · rw [z]; rfl
theorem take_bx {L n : Nat} {k m : Int} {S : Sto} (h : Bx L n k S) (hk : k < 2 ^ 61) (m0 : 0 < m) (m1 : m < 1073741824) : ∃ v S', f_law_take [.cell n, .int m] S = .ok (.int v) S' ∧ 0 ≤ v ∧ v < m ∧ Bx L n (k + 1) S' := by
  obtain ⟨a, b, c, h1, h2, h3⟩ := h.at_
  obtain ⟨v, a', c', e, v0, v1, c1, c2⟩ := take_ok h1 h2 (by omega) m0 m1
  exact ⟨v, _, e, v0, v1, by rw [List.length_set]; exact h.len, all_set h.all, a', b, c', set_bx h1, by omega, by omega⟩
theorem of_bx {L n : Nat} {k : Int} {S : Sto} {ds : List D} (h : Bx L n k S) (hk : k < 2 ^ 61) (h0 : ds ≠ []) (h1 : ds.length < 1073741824) : ∃ d S', f_law_of [.cell n, .lst ds] S = .ok d S' ∧ d ∈ ds ∧ Bx L n (k + 1) S' := by
  have pos : 0 < ds.length := List.length_pos_iff.mpr h0
  obtain ⟨v, S', e, v0, v1, B⟩ := take_bx (m := (ds.length : Int)) h hk (by omega) (by omega)
  have hv : v.toNat < ds.length := by omega
  refine ⟨ds[v.toNat], S', ?_, List.getElem_mem hv, B⟩
  unfold f_law_of m_law_of
  refine (fnOf_eq (by rfl)).trans ?_
  show fnEnd S.length (sRet (sOp fIx (sV 1) (sCall f_law_take (aCons (sV 0) (aCons (sF bLen (aCons (sV 1) aNil)) aNil)))) [some (.cell n), some (.lst ds)] S) = _
  have e2 : sCall f_law_take (aCons (sV 0) (aCons (sF bLen (aCons (sV 1) aNil)) aNil)) [some (.cell n), some (.lst ds)] S = .ok (.int v) S' := (call2 (d := .cell n) (e := .int ds.length) (S1 := S) (S2 := S) rfl rfl).trans e
  have e3 : sOp fIx (sV 1) (sCall f_law_take (aCons (sV 0) (aCons (sF bLen (aCons (sV 1) aNil)) aNil))) [some (.cell n), some (.lst ds)] S = .ok ds[v.toNat] S' := by
    unfold sOp
    rw [show sV 1 [some (.cell n), some (.lst ds)] S = .ok (.lst ds) S from rfl, bind_ok, e2, bind_ok]
    show (match atI ds v with | some d => Res.ok d S' | none => .bad) = _
    rw [atI_nat (k := v.toNat) (by omega) hv]
  unfold sRet
  rw [e3]
  exact fin_ok (B.len.trans h.len.symm)
end LW
end S_LM1
section S_LM2
set_option Elab.async false
set_option linter.all false
set_option maxRecDepth 100000
set_option maxHeartbeats 4000000
namespace LW
open PySem L2 T
theorem cutD_to {ds : List D} {k : Nat} (h : k ≤ ds.length) : cutD ds none (some (k : Int)) = ds.take k := by
  unfold cutD
  rw [HT.sIx_nat, HT.sIx_none, Nat.min_eq_left h, List.drop_zero, Nat.sub_zero]
theorem cutD_from {ds : List D} {k : Nat} : cutD ds (some (k : Int)) none = ds.drop k := by
  unfold cutD
  rw [HT.sIx_nat, HT.sIx_none]
  by_cases h : k ≤ ds.length
  · rw [Nat.min_eq_left h, List.take_of_length_le (by rw [List.length_drop]; exact Nat.le_refl _)]
  · rw [Nat.min_eq_right (by omega), List.drop_of_length_le (Nat.le_refl _), List.drop_of_length_le (by omega), List.take_nil]
theorem belowL_all {n : Nat} : ∀ {ds : List D}, (∀ d ∈ ds, below n d = true) → belowL n ds = true
  | [], _ => rfl
  | d :: ds, h => by
    unfold belowL
    rw [h d List.mem_cons_self, belowL_all fun e he => h e (List.mem_cons_of_mem _ he)]
    rfl
def mixB : SemS := sSeq (sAsg (sCall f_law_take (aCons (sV 0) (aCons (sF bLen (aCons (sV 2) aNil)) aNil))) (gN 5))
  (sSeq (sDo (sM "list" mAppend (sV 3) (aCons (sOp fIx (sV 2) (sV 5)) aNil)))
  (sAsg (sOp fAdd (sSl (sV 2) oNone (oSome (sV 5))) (sSl (sV 2) (oSome (sOp fAdd (sV 5) (sC (.int 1)))) oNone)) (gN 2)))
/-- one turn of the loop -/
theorem mix_step {L n : Nat} {k : Int} {S : Sto} {rest found : List D} {z : D} {w5 : Option D} {t : D} (h : Bx L n k S) (hk : k < 2 ^ 61) (h0 : rest ≠ []) (h1 : rest.length ≤ 1000) (h2 : found.length ≤ 1000) :
    ∃ (v : Nat) (S' : Sto), ∃ hv : v < rest.length, mixB [some (.cell n), some z, some (.lst rest), some (.cell L), some t, w5] (S ++ [.lv (.lst found)]) = .nx [some (.cell n), some z, some (.lst (rest.take v ++ rest.drop (v + 1))), some (.cell L), some t, some (.int (v : Int))] (S' ++ [.lv (.lst (found ++ [rest[v]]))]) ∧ Bx L n (k + 1) S' := by
  have pos : 0 < rest.length := List.length_pos_iff.mpr h0
  obtain ⟨a, b, c, q1, q2, q3⟩ := h.at_
  have nl : n < S.length := (List.getElem?_eq_some_iff.mp q1).1
  have q1' : (S ++ [Cel.lv (.lst found)])[n]? = some (bx a b c) := by rw [List.getElem?_append_left nl]; exact q1
  obtain ⟨v, a', c', e, v0, v1, c1, c2⟩ := take_ok (m := (rest.length : Int)) q1' q2 (by omega) (by omega) (by omega)
  have es : (S ++ [Cel.lv (.lst found)]).set n (bx a' b c') = S.set n (bx a' b c') ++ [Cel.lv (.lst found)] := List.set_append_left _ _ nl
  rw [es] at e
  obtain ⟨vn, rfl⟩ : ∃ vn : Nat, v = (vn : Int) := ⟨v.toNat, by omega⟩
  have hv : vn < rest.length := by omega
  refine ⟨vn, S.set n (bx a' b c'), hv, ?_, by rw [List.length_set]; exact h.len, all_set h.all, a', b, c', set_bx q1, by omega, by omega⟩
  generalize hS : S.set n (bx a' b c') = S' at e
  have lS : S'.length = L := by rw [← hS, List.length_set]; exact h.len
  unfold mixB
  rw [sSeq_nx (sAsg_gN (d := .int (vn : Int)) (S1 := S' ++ [.lv (.lst found)]) ((call2 (d := .cell n) (e := .int rest.length) rfl rfl).trans e))]
  show sSeq _ _ [some (.cell n), some z, some (.lst rest), some (.cell L), some t, some (.int (vn : Int))] (S' ++ [.lv (.lst found)]) = _
  have gl : (S' ++ [Cel.lv (.lst found)])[L]? = some (.lv (.lst found)) := by
    rw [List.getElem?_append_right (by omega), lS, Nat.sub_self]
    rfl
  have sl : (S' ++ [Cel.lv (.lst found)]).set L (.lv (.lst (found ++ [rest[vn]]))) = S' ++ [.lv (.lst (found ++ [rest[vn]]))] := by
    rw [List.set_append_right _ _ (by omega), lS, Nat.sub_self]
    rfl
  have ix : fIx (S' ++ [.lv (.lst found)]) (.lst rest) (.int (vn : Int)) = .ok rest[vn] (S' ++ [.lv (.lst found)]) := by
    show (match atI rest (vn : Int) with | some d => Res.ok d _ | none => .bad) = _
    rw [atI_nat rfl hv]
  have st : sDo (sM "list" mAppend (sV 3) (aCons (sOp fIx (sV 2) (sV 5)) aNil)) [some (.cell n), some z, some (.lst rest), some (.cell L), some t, some (.int (vn : Int))] (S' ++ [.lv (.lst found)]) = .nx [some (.cell n), some z, some (.lst rest), some (.cell L), some t, some (.int (vn : Int))] (S' ++ [.lv (.lst (found ++ [rest[vn]]))]) := by
    have ty : tyIs "list" (S' ++ [.lv (.lst found)]) (.cell L) = true := by
      have r : rd (S' ++ [Cel.lv (.lst found)]) (.cell L) = .lst found := by
        show cget _ L = _
        unfold cget
        rw [gl]
      unfold tyIs
      simp only [r]
    have ap : mAppend (S' ++ [.lv (.lst found)]) (.cell L) [rest[vn]] = .ok .non (S' ++ [.lv (.lst (found ++ [rest[vn]]))]) := by
      unfold mAppend
      simp only [gl]
      rw [if_pos (by unfold lim; omega), sl]
    have ar : aCons (sOp fIx (sV 2) (sV 5)) aNil [some (.cell n), some z, some (.lst rest), some (.cell L), some t, some (.int (vn : Int))] (S' ++ [.lv (.lst found)]) = .ok [rest[vn]] (S' ++ [.lv (.lst found)]) := by
      unfold aCons
      show Res.bind (fIx (S' ++ [.lv (.lst found)]) (.lst rest) (.int (vn : Int))) _ = _
      rw [ix]
      rfl
    unfold sDo sM
    show ofE (Res.bind (Res.ok (D.cell L) (S' ++ [.lv (.lst found)])) _) _ _ = _
    rw [bind_ok, if_pos ty, ar, bind_ok, ap]
    rfl
  rw [sSeq_nx st]
  have c1 : sSl (sV 2) oNone (oSome (sV 5)) [some (.cell n), some z, some (.lst rest), some (.cell L), some t, some (.int (vn : Int))] (S' ++ [.lv (.lst (found ++ [rest[vn]]))]) = .ok (.lst (rest.take vn)) (S' ++ [.lv (.lst (found ++ [rest[vn]]))]) := by
    rw [← cutD_to (Nat.le_of_lt hv)]
    rfl
  have c2 : sSl (sV 2) (oSome (sOp fAdd (sV 5) (sC (.int 1)))) oNone [some (.cell n), some z, some (.lst rest), some (.cell L), some t, some (.int (vn : Int))] (S' ++ [.lv (.lst (found ++ [rest[vn]]))]) = .ok (.lst (rest.drop (vn + 1))) (S' ++ [.lv (.lst (found ++ [rest[vn]]))]) := by
    rw [← cutD_from (k := vn + 1), show (((vn + 1 : Nat)) : Int) = (vn : Int) + 1 from by omega]
    rfl
  refine sAsg_gN (d := .lst (rest.take vn ++ rest.drop (vn + 1))) ?_
  rw [sOp_ok c1 c2]
  show (if (rest.take vn).length + (rest.drop (vn + 1)).length ≤ lim then Res.ok (D.lst (rest.take vn ++ rest.drop (vn + 1))) _ else .bad) = _
  rw [if_pos (by rw [List.length_take, List.length_drop]; unfold lim; omega)]
theorem mix_loop {L n : Nat} {z : D} : ∀ (ts : List D) (k : Int) (S : Sto) (rest found : List D) (w4 w5 : Option D), Bx L n k S → k + ts.length < 2 ^ 61 → rest.length = ts.length → rest.length ≤ 1000 → found.length + rest.length ≤ 1000 →
    ∃ (ys : List D) (S' : Sto) (env' : T.Env), forGo (.nm 4) mixB ts [some (.cell n), some z, some (.lst rest), some (.cell L), w4, w5] (S ++ [.lv (.lst found)]) = .nx env' (S' ++ [.lv (.lst (found ++ ys))]) ∧ env'[3]? = some (some (.cell L)) ∧ ys.Perm rest ∧ Bx L n (k + ts.length) S'
  | [], k, S, rest, found, w4, w5, h, hk, hr, h1, h2 => by
    have : rest = [] := List.length_eq_zero_iff.mp hr
    subst this
    exact ⟨[], S, _, by rw [List.append_nil]; rfl, rfl, List.Perm.refl _, by simpa using h⟩
  | t :: ts, k, S, rest, found, w4, w5, h, hk, hr, h1, h2 => by
    rw [List.length_cons] at hr hk
    obtain ⟨v, S1, hv, e, B⟩ := mix_step (z := z) (w5 := w5) (t := t) (found := found) h (by omega) (show rest ≠ [] from fun q => by subst q; simp at hr) h1 (by omega)
    have hl : (rest.take v ++ rest.drop (v + 1)).length = ts.length := by
      rw [List.length_append, List.length_take, List.length_drop]
      omega
    obtain ⟨ys, S', env', e2, e3, e4, e5⟩ := mix_loop ts (k + 1) S1 (rest.take v ++ rest.drop (v + 1)) (found ++ [rest[v]]) (some t) (some (.int (v : Int))) B (by omega) hl (by omega) (by rw [List.length_append, List.length_singleton]; omega)
    refine ⟨rest[v] :: ys, S', env', ?_, e3, ?_, ?_⟩
    · rw [forGo_nx (env1 := [some (.cell n), some z, some (.lst rest), some (.cell L), some t, w5]) rfl e, e2, List.append_assoc]
      rfl
    · exact ((List.Perm.cons _ e4).trans (perm_cut rest v hv).symm)
    · rw [List.length_cons, show k + ((ts.length + 1 : Nat) : Int) = k + 1 + ts.length by omega]
      exact e5
theorem finC_own {L : Nat} {S S' : Sto} {ys : List D} (hL : S.length = L) (hS : S'.length = L) (b1 : S'.all (belowC L) = true) (b2 : belowL L ys = true) : finC S.length (.cell L) (S' ++ [.lv (.lst ys)]) = .ok (.lst ys) S' := by
  have tS : (S' ++ [Cel.lv (.lst ys)]).take S.length = S' := by rw [hL, ← hS, List.take_left']; rfl
  show (if L < S.length then (if ((S' ++ [Cel.lv (.lst ys)]).take S.length).all (belowC S.length) then Res.ok (D.cell L) ((S' ++ [Cel.lv (.lst ys)]).take S.length) else .bad) else (match (S' ++ [Cel.lv (.lst ys)])[L]? with
    | some (.lv (.lst ds)) => if belowL S.length ds && ((S' ++ [Cel.lv (.lst ys)]).take S.length).all (belowC S.length) then Res.ok (.lst ds) ((S' ++ [Cel.lv (.lst ys)]).take S.length) else .bad
    | some (.fz (.lst ds)) => if belowL S.length ds && ((S' ++ [Cel.lv (.lst ys)]).take S.length).all (belowC S.length) then Res.ok (.lst ds) ((S' ++ [Cel.lv (.lst ys)]).take S.length) else .bad
    | _ => .bad)) = _
  rw [if_neg (by omega), tS, show (S' ++ [Cel.lv (.lst ys)])[L]? = some (.lv (.lst ys)) from by rw [List.getElem?_append_right (by omega), hS, Nat.sub_self]; rfl]
  show (if belowL S.length ys && S'.all (belowC S.length) then Res.ok (D.lst ys) S' else .bad) = _
  rw [hL, b1, b2]
  rfl
theorem mixed_ok {L n : Nat} {k : Int} {S : Sto} {z : Str} (h : Bx L n k S) (hk : k < 2 ^ 60) (hz : z.length ≤ 500) : ∃ ys S', f_law_mixed [.cell n, .str z] S = .ok (.lst ys) S' ∧ ys.Perm (signs z) ∧ Bx L n (k + z.length) S' := by
  have ls : (signs z).length = z.length := by unfold signs; rw [List.length_map, Array.length_toList]; rfl
  have h1 : f_law_mixed [.cell n, .str z] S = fnEndC S.length (m_law_mixed [some (.cell n), some (.str z), none, none, none, none] S) := rfl
  rw [h1]
  have a1 : sAsg (sTup (aCons (sF bListA (aCons (sV 1) (aNil))) (aCons (sLstC (aNil)) (aNil)))) (gTg (.tp [2, 3])) [some (.cell n), some (.str z), none, none, none, none] S = .nx [some (.cell n), some (.str z), some (.lst (signs z)), some (.cell L), none, none] (S ++ [.lv (.lst [])]) := by
    have e : sF bListA (aCons (sV 1) (aNil)) [some (.cell n), some (.str z), none, none, none, none] S = .ok (.lst (signs z)) S := if_pos (by unfold lim; omega)
    refine (sAsg_ok (sTup_ok (aCons_ok e (aCons_ok (sLstC_ok rfl (by decide)) rfl)) (by simp [lim]))).trans ?_
    rw [h.len]
    rfl
  have a2 : T.iRng1 (aCons (sF bLen (aCons (sV 1) (aNil))) (aNil)) [some (.cell n), some (.str z), some (.lst (signs z)), some (.cell L), none, none] (S ++ [.lv (.lst [])]) = .ok (rngD 0 z.length) (S ++ [.lv (.lst [])]) := by
    have e : sF bLen (aCons (sV 1) (aNil)) [some (.cell n), some (.str z), some (.lst (signs z)), some (.cell L), none, none] (S ++ [.lv (.lst [])]) = .ok (.int z.length) (S ++ [.lv (.lst [])]) := if_pos (by unfold lim; omega)
    exact iRng1_ok (aCons_ok e rfl) rfl (by omega)
  obtain ⟨ys, S', env', e1, e2, e3, e4⟩ := mix_loop (z := .str z) (rngD 0 z.length) k S (signs z) [] none none h (by rw [rngD_len]; omega) (by rw [ls, rngD_len]) (by rw [ls]; omega) (by rw [ls]; simp; omega)
  rw [List.nil_append] at e1
  have a3 := (sFor_ok (t := .nm 4) (b := mixB) a2).trans e1
  refine ⟨ys, S', ?_, e3, by rw [rngD_len] at e4; exact e4⟩
  have a4 : sRet (sV 3) env' (S' ++ [.lv (.lst ys)]) = .rt (.cell L) (S' ++ [.lv (.lst ys)]) := sRet_ok (sV_at e2)
  have a5 : m_law_mixed [some (.cell n), some (.str z), none, none, none, none] S = .rt (.cell L) (S' ++ [.lv (.lst ys)]) := (sSeq_nx a1).trans ((sSeq_nx a3).trans a4)
  rw [a5]
  refine finC_own h.len e4.len (e4.all) (belowL_all fun d hd => ?_)
  have := e3.mem_iff.mp hd
  unfold signs at this
  obtain ⟨c, _, rfl⟩ := List.mem_map.mp this
  rfl
end LW
end S_LM2
section S_LM3
set_option Elab.async false
set_option linter.all false
set_option maxRecDepth 100000
set_option maxHeartbeats 4000000
namespace LW
open PySem L2 T
theorem perm_map {α β : Type} {f : α → β} {ys zs : List β} (p : ys.Perm zs) : ∀ {l : List α}, zs = l.map f → ∃ l' : List α, l'.Perm l ∧ ys = l'.map f := by
  induction p with
  | nil => intro l h; exact ⟨l, .refl _, h⟩
  | cons x p ih =>
    intro l h
    cases l with
    | nil => cases h
    | cons a l =>
      rw [List.map_cons] at h
      injection h with h1 h2
      obtain ⟨l', q1, q2⟩ := ih h2
      exact ⟨a :: l', q1.cons a, by rw [h1, q2]; rfl⟩
  | swap x y l2 =>
    intro l h
    cases l with
    | nil => cases h
    | cons a l =>
      cases l with
      | nil => cases h
      | cons b l =>
        rw [List.map_cons, List.map_cons] at h
        injection h with h1 h2
        injection h2 with h2 h3
        exact ⟨b :: a :: l, .swap .., by rw [h1, h2, h3]; rfl⟩
  | trans p q ih1 ih2 =>
    intro l h
    obtain ⟨l', q1, q2⟩ := ih2 h
    obtain ⟨l2, q3, q4⟩ := ih1 q2
    exact ⟨l2, q3.trans q1, q4⟩
def abc : List Nat := [97, 98, 99, 100, 101, 102, 103, 104, 105, 106, 107, 108, 109, 110, 111, 112, 113, 114, 115, 116, 117, 118, 119, 120, 121, 122]
theorem abc_eq : ("abcdefghijklmnopqrstuvwxyz" : Str).cps.toList = abc := by decide +kernel
theorem append_cps (x y : Str) : (x ++ y).cps.toList = x.cps.toList ++ y.cps.toList := TL.tl_append x y
def one (c : Nat) : Str := ⟨#[c]⟩
theorem nmB_mk {x : Str} {l : List Nat} (e : x.cps.toList = l) (h1 : 1 ≤ l.length) (h2 : l.length ≤ 8) (h3 : l.all isL = true) : nmB x = true := by
  have : x.length = l.length := by rw [← e, Array.length_toList]; rfl
  unfold nmB
  rw [e, h3, this, decide_eq_true (by omega), decide_eq_true (by omega)]
  rfl
theorem cut_min {ds : List D} {k : Nat} (h : k ≤ ds.length) : cutD ds none (some (k : Int)) = ds.take k := cutD_to h
/-- what tags are -/
structure Tags (m : Nat) (l : List Str) : Prop where
  len : l.length = m
  nd : l.Nodup
  nm : ∀ x ∈ l, nmB x = true
theorem tags_mk {front tail : Str} {cs : List Nat} {m : Nat} (h : cs.Perm abc) (hm : m ≤ 26) (hf : front.cps.toList.all isL = true) (ht : tail.cps.toList.all isL = true) (hl : front.cps.toList.length + tail.cps.toList.length ≤ 7) : Tags m ((cs.take m).map fun c => front ++ one c ++ tail) := by
  have lc : cs.length = 26 := h.length_eq
  refine ⟨by rw [List.length_map, List.length_take]; omega, ?_, fun x hx => ?_⟩
  · rw [List.nodup_iff_pairwise_ne, List.pairwise_map]
    have nd : (cs.take m).Nodup := (h.nodup_iff.mpr (by decide)).sublist (List.take_sublist _ _)
    refine (List.nodup_iff_pairwise_ne.mp nd).imp fun {a b} ne e => ne ?_
    have := congrArg (fun z : Str => z.cps.toList) e
    simp only [append_cps] at this
    have := List.append_cancel_right this
    have := List.append_cancel_left this
    simpa [one] using this
  · obtain ⟨c, hc, rfl⟩ := List.mem_map.mp hx
    have hc' : c ∈ abc := h.mem_iff.mp (List.mem_of_mem_take hc)
    refine nmB_mk (l := front.cps.toList ++ [c] ++ tail.cps.toList) (by simp only [append_cps]; rfl) (by simp; omega) (by simp at hl ⊢; omega) ?_
    rw [List.all_append, List.all_append, hf, ht, List.all_cons, show isL c = true from by unfold isL; rw [abc_eq]; exact decide_eq_true hc']
    rfl
theorem add_str {S : Sto} {a b : Str} (h : a.length + b.length ≤ lim) : fAdd S (.str a) (.str b) = .ok (.str (a ++ b)) S := by
  show (if a.length + b.length ≤ lim then _ else _) = _
  rw [if_pos h]
theorem append_len (x y : Str) : (x ++ y).length = x.length + y.length := by
  have := congrArg List.length (append_cps x y)
  rw [List.length_append, Array.length_toList, Array.length_toList, Array.length_toList] at this
  exact this
theorem tags_ok {L n : Nat} {k : Int} {S : Sto} {m : Nat} (h : Bx L n k S) (hk : k < 2 ^ 59) (hm : m ≤ 20) : ∃ l S', f_law_tags [.cell n, .int m] S = .ok (.lst (sts l)) S' ∧ Tags m l ∧ Bx L n (k + 27) S' := by
  obtain ⟨ys, S1, e1, p1, B1⟩ := mixed_ok (z := "abcdefghijklmnopqrstuvwxyz") h (by omega) (by decide)
  obtain ⟨cs, pc, ec⟩ := perm_map (f := fun c => D.str (one c)) p1 (l := abc) (by unfold signs; rw [abc_eq]; rfl)
  subst ec
  have B1 : Bx L n (k + 26) S1 := B1
  obtain ⟨v, S2, e2, v0, v1, B2⟩ := take_bx (m := 4) B1 (by omega) (by omega) (by omega)
  rw [show k + 26 + 1 = k + 27 by omega] at B2
  have lc : cs.length = 26 := pc.length_eq
  obtain ⟨front, tail, g1, g2, hf, ht, hl⟩ : ∃ front tail : Str, fIx S2 (.lst [.str "", .str "", .str "gate", .str "z"]) (.int v) = .ok (.str front) S2 ∧ fIx S2 (.lst [.str "", .str "", .str "", .str "yyyyyy"]) (.int v) = .ok (.str tail) S2 ∧ front.cps.toList.all isL = true ∧ tail.cps.toList.all isL = true ∧ front.cps.toList.length + tail.cps.toList.length ≤ 7 := by
    have : v = 0 ∨ v = 1 ∨ v = 2 ∨ v = 3 := by omega
    rcases this with rfl | rfl | rfl | rfl
    · exact ⟨"", "", rfl, rfl, by decide +kernel, by decide +kernel, by decide +kernel⟩
    · exact ⟨"", "", rfl, rfl, by decide +kernel, by decide +kernel, by decide +kernel⟩
    · exact ⟨"gate", "", rfl, rfl, by decide +kernel, by decide +kernel, by decide +kernel⟩
    · exact ⟨"z", "yyyyyy", rfl, rfl, by decide +kernel, by decide +kernel, by decide +kernel⟩
  have T0 := tags_mk pc (show m ≤ 26 by omega) hf ht hl
  refine ⟨_, S2, ?_, T0, B2⟩
  generalize hL : (cs.take m).map (fun c => front ++ one c ++ tail) = l at T0
  refine (fnOf_eq (by rfl)).trans ?_
  have b1 : sAsg (sCall (f_law_mixed) (aCons (sV 0) (aCons (sC (.str "abcdefghijklmnopqrstuvwxyz")) (aNil)))) (gN 2) (entry 9 [.cell n, .int (m : Int)]) S = .nx [some (.cell n), some (.int (m : Int)), some (.lst (cs.map fun c => D.str (one c))), none, none, none, none, none, none] S1 := sAsg_gN ((call2 rfl rfl).trans e1)
  have b2 : sAsg (sCall (f_law_take) (aCons (sV 0) (aCons (sC (.int 4)) (aNil)))) (gN 3) [some (.cell n), some (.int (m : Int)), some (.lst (cs.map fun c => D.str (one c))), none, none, none, none, none, none] S1 = .nx [some (.cell n), some (.int (m : Int)), some (.lst (cs.map fun c => D.str (one c))), some (.int v), none, none, none, none, none] S2 := sAsg_gN ((call2 rfl rfl).trans e2)
  have b3 : sAsg (sTup (aCons (sOp fIx (sLst (aCons (sC (.str "")) (aCons (sC (.str "")) (aCons (sC (.str "gate")) (aCons (sC (.str "z")) (aNil)))))) (sV 3)) (aCons (sOp fIx (sLst (aCons (sC (.str "")) (aCons (sC (.str "")) (aCons (sC (.str "")) (aCons (sC (.str "yyyyyy")) (aNil)))))) (sV 3)) (aNil)))) (gTg (.tp [4, 5])) [some (.cell n), some (.int (m : Int)), some (.lst (cs.map fun c => D.str (one c))), some (.int v), none, none, none, none, none] S2 = .nx [some (.cell n), some (.int (m : Int)), some (.lst (cs.map fun c => D.str (one c))), some (.int v), some (.str front), some (.str tail), none, none, none] S2 :=
    (sAsg_ok (sTup_ok (aCons_ok ((sOp_ok (d := .lst [.str "", .str "", .str "gate", .str "z"]) rfl rfl).trans g1) (aCons_ok ((sOp_ok (d := .lst [.str "", .str "", .str "", .str "yyyyyy"]) rfl rfl).trans g2) rfl)) (by simp [lim]))).trans rfl
  have b4 : sAsg (sLc [7] (iSeq (sSl (sV 2) (oNone) (oSome (sF bMin2 (aCons (sV 1) (aCons (sC (.int 26)) (aNil))))))) (.nm 7) (cYes) (sOp fAdd (sOp fAdd (sV 4) (sV 7)) (sV 5))) (gN 6) [some (.cell n), some (.int (m : Int)), some (.lst (cs.map fun c => D.str (one c))), some (.int v), some (.str front), some (.str tail), none, none, none] S2 = .nx [some (.cell n), some (.int (m : Int)), some (.lst (cs.map fun c => D.str (one c))), some (.int v), some (.str front), some (.str tail), some (.lst (sts l)), none, none] S2 := by
    refine sAsg_gN ?_
    have q : (iSeq (sSl (sV 2) (oNone) (oSome (sF bMin2 (aCons (sV 1) (aCons (sC (.int 26)) (aNil))))))) [some (.cell n), some (.int (m : Int)), some (.lst (cs.map fun c => D.str (one c))), some (.int v), some (.str front), some (.str tail), none, none, none] S2 = .ok ((cs.take m).map fun c => D.str (one c)) S2 := by
      have z : cutD (cs.map fun c => D.str (one c)) none (some (if (26 : Int) < m then 26 else m)) = (cs.take m).map fun c => D.str (one c) := by
        rw [if_neg (by omega), cutD_to (by rw [List.length_map]; omega), List.map_take]
      rw [← z]
      rfl
    rw [← hL, sts, List.map_map]
    refine sLc_ok q (lc_map _ (fun c _ => ⟨_, rfl, rfl, ?_⟩) (by rw [List.length_take]; unfold lim; omega))
    have h1 : front.length = front.cps.toList.length := by rw [Array.length_toList]; rfl
    have h2 : tail.length = tail.cps.toList.length := by rw [Array.length_toList]; rfl
    have h3 : (one c).length = 1 := rfl
    refine (sOp_ok (d := .str (front ++ one c)) (e := .str tail) (S1 := S2) (S2 := S2) ((sOp_ok (d := .str front) (e := .str (one c)) rfl rfl).trans (add_str (by unfold lim; omega))) rfl).trans (add_str (by rw [append_len]; unfold lim; omega))
  have b5 : sRet (sOp fAdd (sV 6) (sLc [8] (T.iRng1 (aCons (sOp fSub (sV 1) (sF bLen (aCons (sV 6) (aNil)))) (aNil))) (.nm 8) (cYes) (sOp fAdd (sOp fAdd (sC (.str "more")) (sOp fIx (sV 2) (sOp fDiv (sV 8) (sC (.int 26))))) (sOp fIx (sV 2) (sOp fMod (sF bInt (aCons (sV 8) (aNil))) (sC (.int 26))))))) [some (.cell n), some (.int (m : Int)), some (.lst (cs.map fun c => D.str (one c))), some (.int v), some (.str front), some (.str tail), some (.lst (sts l)), none, none] S2 = .rt (.lst (sts l)) S2 := by
    refine sRet_ok ?_
    have q : (T.iRng1 (aCons (sOp fSub (sV 1) (sF bLen (aCons (sV 6) (aNil)))) (aNil))) [some (.cell n), some (.int (m : Int)), some (.lst (cs.map fun c => D.str (one c))), some (.int v), some (.str front), some (.str tail), some (.lst (sts l)), none, none] S2 = .ok [] S2 := by
      refine (iRng1_ok (k := 0) (j := (m : Int) - ((sts l).length : Nat)) rfl ?_ (by decide)).trans rfl
      rw [List.length_map, T0.len]
      omega
    refine (sOp_ok (d := .lst (sts l)) (e := .lst []) (S1 := S2) (S2 := S2) rfl (sLc_ok q rfl)).trans ?_
    show (if (sts l).length + 0 ≤ lim then Res.ok (D.lst (sts l ++ [])) S2 else .bad) = _
    rw [if_pos (by rw [List.length_map, T0.len]; unfold lim; omega), List.append_nil]
  have b6 : m_law_tags (entry 9 [.cell n, .int (m : Int)]) S = .rt (.lst (sts l)) S2 := (sSeq_nx b1).trans ((sSeq_nx b2).trans ((sSeq_nx b3).trans ((sSeq_nx b4).trans b5)))
  rw [b6]
  exact fin_ok (B2.len.trans h.len.symm)
end LW
end S_LM3
section S_LM4
set_option Elab.async false
set_option linter.all false
set_option maxRecDepth 100000
set_option maxHeartbeats 4000000
namespace LW
open PySem L2 T
/-! ### the same data -/
inductive Sm : Nat → D → Prop
  | non {k} : Sm (k + 1) .non
  | bl {k b} : Sm (k + 1) (.bl b)
  | int {k i} : Sm (k + 1) (.int i)
  | str {k x} : Sm (k + 1) (.str x)
  | tup {k ds} : ds.length ≤ lim → (∀ d ∈ ds, Sm k d) → Sm (k + 1) (.tup ds)
  | lst {k ds} : ds.length ≤ lim → (∀ d ∈ ds, Sm k d) → Sm (k + 1) (.lst ds)
theorem zip_self (ds : List D) : zipD ds ds = ds.map fun d => D.tup [d, d] := by
  unfold zipD
  induction ds with
  | nil => rfl
  | cons d r ih => rw [List.zipWith_cons_cons, ih, List.map_cons]
theorem all_true {S : Sto} (ds : List D) : bAll S [.lst (ds.map fun _ => D.bl true)] = .ok (.bl true) S := by
  rw [all_map]
  congr 2
  exact List.all_eq_true.mpr fun _ _ => rfl
theorem same_ok {S : Sto} : ∀ (k : Nat) (d : D), Sm k d → f_law_same k [d, d] S = .ok (.bl true) S := by
  intro k
  induction k with
  | zero => intro d h; cases h
  | succ k ih =>
    intro d h
    unfold f_law_same m_law_same
    refine (fnOf_eq (by rfl)).trans ?_
    show fnEnd S.length (sSeq _ _ [some d, some d, none, none] S) = _
    cases h with
    | non => exact fin_ok rfl
    | bl =>
      rename_i b
      cases b <;> exact fin_ok rfl
    | int =>
      rename_i i
      refine Eq.trans (b := fin S.length (.bl (decide (i = i))) S) rfl ?_
      rw [decide_eq_true rfl]
      exact fin_ok rfl
    | str =>
      rename_i x
      have e : fEq S (.str x) (.str x) = .ok (.bl true) S := by
        show Res.ok (D.bl (decide (x = x))) S = _
        rw [decide_eq_true rfl]
      have e1 : sIsi2 "list" "tuple" (sV 1) [some (.str x), some (.str x), none, none] S = .ok (.bl false) S := rfl
      have e2 : sIsi2 "bool" "str" (sV 1) [some (.str x), some (.str x), none, none] S = .ok (.bl true) S := rfl
      have e3 : sIsi xt0 "bool" (sV 0) [some (.str x), some (.str x), none, none] S = .ok (.bl false) S := rfl
      have e4 : sIsi xt0 "bool" (sV 1) [some (.str x), some (.str x), none, none] S = .ok (.bl false) S := rfl
      (simp only [fnOf, fnEnd, sSeq, sIf, sRet, sRetN, sNext, sDo, sAsg, gN, gTg, tgE, isB, cAnd, cOr, cNot, sAnd, sOr, sNot, sIfx, sTup, sLst, sChain, sOp, sV, sC, aNil, aCons, sCall, sF, sCallK, perm, bind_ok, bind_exc, bind_bad, ofE_ok, ofE_exc, entry, List.length_cons, List.length_nil, List.map_cons, List.map_nil, Nat.reduceAdd, Nat.reduceSub, Nat.zero_add, List.reduceReplicate, List.cons_append, List.nil_append, List.getElem?_cons_zero, List.getElem?_cons_succ, List.set_cons_zero, List.set_cons_succ, if_true, if_false, ite_true, ite_false, reduceIte, List.zip_cons_cons, List.zip_nil_left, List.zip_nil_right, List.foldl_cons, List.foldl_nil, ↓reduceIte])
      simp only [e1, bind_ok]
      (simp only [bind_ok, bind_exc, ofE_ok, ofE_exc, Bool.not_true, Bool.not_false, Bool.false_eq_true, Bool.true_and, Bool.false_and, Bool.and_true, Bool.and_false, if_true, if_false, ite_true, ite_false, fin_ok, all_map, List.set_cons_zero, List.set_cons_succ, List.getElem?_cons_zero, List.getElem?_cons_succ])
      simp only [fIsN, bind_ok]
      (simp only [bind_ok, bind_exc, ofE_ok, ofE_exc, Bool.not_true, Bool.not_false, Bool.false_eq_true, Bool.true_and, Bool.false_and, Bool.and_true, Bool.and_false, if_true, if_false, ite_true, ite_false, fin_ok, all_map, List.set_cons_zero, List.set_cons_succ, List.getElem?_cons_zero, List.getElem?_cons_succ])
      simp only [e2, bind_ok]
      (simp only [bind_ok, bind_exc, ofE_ok, ofE_exc, Bool.not_true, Bool.not_false, Bool.false_eq_true, Bool.true_and, Bool.false_and, Bool.and_true, Bool.and_false, if_true, if_false, ite_true, ite_false, fin_ok, all_map, List.set_cons_zero, List.set_cons_succ, List.getElem?_cons_zero, List.getElem?_cons_succ])
      simp only [e, e3, e4, bind_ok]
      rw [show fEq S (.bl false) (.bl false) = .ok (.bl true) S from rfl]
      simp only [bind_ok, ofE_ok]
      exact fin_ok rfl
    | tup hl hd =>
      rename_i ds
      have e1 : sIsi2 "list" "tuple" (sV 1) [some (.tup ds), some (.tup ds), none, none] S = .ok (.bl true) S := rfl
      have e2 : sIsi xt0 "list" (sV 0) [some (.tup ds), some (.tup ds), none, none] S = .ok (.bl false) S := rfl
      have e3 : sIsi xt0 "list" (sV 1) [some (.tup ds), some (.tup ds), none, none] S = .ok (.bl false) S := rfl
      have e4 : sIsi xt0 "tuple" (sV 0) [some (.tup ds), some (.tup ds), none, none] S = .ok (.bl true) S := rfl
      have e5 : sIsi xt0 "tuple" (sV 1) [some (.tup ds), some (.tup ds), none, none] S = .ok (.bl true) S := rfl
      have e6 : sLc [3, 2] (iZipS (aCons (sV 0) (aCons (sV 1) aNil))) (.tp [3, 2]) cYes (sCall (f_law_same k) (aCons (sV 3) (aCons (sV 2) aNil))) [some (.tup ds), some (.tup ds), none, none] S = .ok (.lst (ds.map fun _ => .bl true)) S :=
        sLc_ok (S1 := S) (ds := ds.map fun d => D.tup [d, d]) (by rw [← zip_self]; rfl) (lc_map ds (fun d h => ⟨_, rfl, rfl, by
          show f_law_same k [d, d] S = _
          exact ih d (hd d h)⟩) hl)
      have e7 : fEq S (.int (ds.length : Int)) (.int (ds.length : Int)) = .ok (.bl true) S := by
        show Res.ok (D.bl (decide ((ds.length : Int) = ds.length))) S = _
        rw [decide_eq_true rfl]
      (simp only [fnOf, fnEnd, sSeq, sIf, sRet, sRetN, sNext, sDo, sAsg, gN, gTg, tgE, isB, cAnd, cOr, cNot, sAnd, sOr, sNot, sIfx, sTup, sLst, sChain, sOp, sV, sC, aNil, aCons, sCall, sF, sCallK, perm, bind_ok, bind_exc, bind_bad, ofE_ok, ofE_exc, entry, List.length_cons, List.length_nil, List.map_cons, List.map_nil, Nat.reduceAdd, Nat.reduceSub, Nat.zero_add, List.reduceReplicate, List.cons_append, List.nil_append, List.getElem?_cons_zero, List.getElem?_cons_succ, List.set_cons_zero, List.set_cons_succ, if_true, if_false, ite_true, ite_false, reduceIte, List.zip_cons_cons, List.zip_nil_left, List.zip_nil_right, List.foldl_cons, List.foldl_nil, ↓reduceIte])
      simp only [e1, bind_ok]
      (simp only [bind_ok, bind_exc, ofE_ok, ofE_exc, Bool.not_true, Bool.not_false, Bool.false_eq_true, Bool.true_and, Bool.false_and, Bool.and_true, Bool.and_false, if_true, if_false, ite_true, ite_false, fin_ok, all_map, List.set_cons_zero, List.set_cons_succ, List.getElem?_cons_zero, List.getElem?_cons_succ])
      simp only [e2, e3, e4, e5, bind_ok]
      rw [show fNe S (.bl false) (.bl false) = .ok (.bl false) S from rfl]
      simp only [bind_ok]
      (simp only [bind_ok, bind_exc, ofE_ok, ofE_exc, Bool.not_true, Bool.not_false, Bool.false_eq_true, Bool.true_and, Bool.false_and, Bool.and_true, Bool.and_false, if_true, if_false, ite_true, ite_false, fin_ok, all_map, List.set_cons_zero, List.set_cons_succ, List.getElem?_cons_zero, List.getElem?_cons_succ])
      simp only [e4, e5, bind_ok]
      rw [show fNe S (.bl true) (.bl true) = .ok (.bl false) S from rfl]
      simp only [bind_ok]
      (simp only [bind_ok, bind_exc, ofE_ok, ofE_exc, Bool.not_true, Bool.not_false, Bool.false_eq_true, Bool.true_and, Bool.false_and, Bool.and_true, Bool.and_false, if_true, if_false, ite_true, ite_false, fin_ok, all_map, List.set_cons_zero, List.set_cons_succ, List.getElem?_cons_zero, List.getElem?_cons_succ])
      simp only [len_tup, bind_ok, e7, e6, all_true, ofE_ok]
      exact fin_ok rfl
    | lst hl hd =>
      rename_i ds
      have e1 : sIsi2 "list" "tuple" (sV 1) [some (.lst ds), some (.lst ds), none, none] S = .ok (.bl true) S := rfl
      have e2 : sIsi xt0 "list" (sV 0) [some (.lst ds), some (.lst ds), none, none] S = .ok (.bl true) S := rfl
      have e3 : sIsi xt0 "list" (sV 1) [some (.lst ds), some (.lst ds), none, none] S = .ok (.bl true) S := rfl
      have e4 : sIsi xt0 "tuple" (sV 0) [some (.lst ds), some (.lst ds), none, none] S = .ok (.bl false) S := rfl
      have e5 : sIsi xt0 "tuple" (sV 1) [some (.lst ds), some (.lst ds), none, none] S = .ok (.bl false) S := rfl
      have e6 : sLc [3, 2] (iZipS (aCons (sV 0) (aCons (sV 1) aNil))) (.tp [3, 2]) cYes (sCall (f_law_same k) (aCons (sV 3) (aCons (sV 2) aNil))) [some (.lst ds), some (.lst ds), none, none] S = .ok (.lst (ds.map fun _ => .bl true)) S :=
        sLc_ok (S1 := S) (ds := ds.map fun d => D.tup [d, d]) (by rw [← zip_self]; rfl) (lc_map ds (fun d h => ⟨_, rfl, rfl, by
          show f_law_same k [d, d] S = _
          exact ih d (hd d h)⟩) hl)
      have e7 : fEq S (.int (ds.length : Int)) (.int (ds.length : Int)) = .ok (.bl true) S := by
        show Res.ok (D.bl (decide ((ds.length : Int) = ds.length))) S = _
        rw [decide_eq_true rfl]
      (simp only [fnOf, fnEnd, sSeq, sIf, sRet, sRetN, sNext, sDo, sAsg, gN, gTg, tgE, isB, cAnd, cOr, cNot, sAnd, sOr, sNot, sIfx, sTup, sLst, sChain, sOp, sV, sC, aNil, aCons, sCall, sF, sCallK, perm, bind_ok, bind_exc, bind_bad, ofE_ok, ofE_exc, entry, List.length_cons, List.length_nil, List.map_cons, List.map_nil, Nat.reduceAdd, Nat.reduceSub, Nat.zero_add, List.reduceReplicate, List.cons_append, List.nil_append, List.getElem?_cons_zero, List.getElem?_cons_succ, List.set_cons_zero, List.set_cons_succ, if_true, if_false, ite_true, ite_false, reduceIte, List.zip_cons_cons, List.zip_nil_left, List.zip_nil_right, List.foldl_cons, List.foldl_nil, ↓reduceIte])
      simp only [e1, bind_ok]
      (simp only [bind_ok, bind_exc, ofE_ok, ofE_exc, Bool.not_true, Bool.not_false, Bool.false_eq_true, Bool.true_and, Bool.false_and, Bool.and_true, Bool.and_false, if_true, if_false, ite_true, ite_false, fin_ok, all_map, List.set_cons_zero, List.set_cons_succ, List.getElem?_cons_zero, List.getElem?_cons_succ])
      simp only [e2, e3, e4, e5, bind_ok]
      rw [show fNe S (.bl true) (.bl true) = .ok (.bl false) S from rfl]
      simp only [bind_ok]
      (simp only [bind_ok, bind_exc, ofE_ok, ofE_exc, Bool.not_true, Bool.not_false, Bool.false_eq_true, Bool.true_and, Bool.false_and, Bool.and_true, Bool.and_false, if_true, if_false, ite_true, ite_false, fin_ok, all_map, List.set_cons_zero, List.set_cons_succ, List.getElem?_cons_zero, List.getElem?_cons_succ])
      simp only [e4, e5, bind_ok]
      rw [show fNe S (.bl false) (.bl false) = .ok (.bl false) S from rfl]
      simp only [bind_ok]
      (simp only [bind_ok, bind_exc, ofE_ok, ofE_exc, Bool.not_true, Bool.not_false, Bool.false_eq_true, Bool.true_and, Bool.false_and, Bool.and_true, Bool.and_false, if_true, if_false, ite_true, ite_false, fin_ok, all_map, List.set_cons_zero, List.set_cons_succ, List.getElem?_cons_zero, List.getElem?_cons_succ])
      simp only [len_lst, bind_ok, e7, e6, all_true, ofE_ok]
      exact fin_ok rfl
end LW
end S_LM4
section S_LM5
set_option Elab.async false
set_option linter.all false
set_option maxRecDepth 100000
set_option maxHeartbeats 4000000
namespace LW
open PySem L2 T
def cellB : SemS := sSeq (sAsg (sOp fMod (sF bInt (aCons (sV 3) (aNil))) (sV 1)) (gN 5))
  (sAsg (sOp fAdd (sOp fIx (sV 2) (sV 5)) (sOp fMulA (sV 4) (sOp fAdd (sV 3) (sC (.int 2))))) (gIx (sV 2) (sV 5)))
/-- the cells' loop at three cells -/
theorem cells_loop {d0 : D} : ∀ (es : List D) (a b c : Int) (w3 w4 w5 : Option D), (∀ e ∈ es, ∃ (i : Nat) (x : Int), i < 100 ∧ e = .tup [.int (i : Int), .int x]) →
    ∃ (a' b' c' : Int) (env' : T.Env), forGo (.tp [3, 4]) cellB es [some d0, some (.int 3), some (.cell 0), w3, w4, w5] [bx a b c] = .nx env' [bx a' b' c'] ∧ env'[2]? = some (some (.cell 0))
  | [], a, b, c, w3, w4, w5, _ => ⟨a, b, c, _, rfl, rfl⟩
  | e :: es, a, b, c, w3, w4, w5, h => by
    obtain ⟨i, x, hi, rfl⟩ := h _ List.mem_cons_self
    have st : ∃ a' b' c', cellB [some d0, some (.int 3), some (.cell 0), some (.int (i : Int)), some (.int x), w5] [bx a b c] = .nx [some d0, some (.int 3), some (.cell 0), some (.int (i : Int)), some (.int x), some (.int ((i : Int) % 3))] [bx a' b' c'] := by
      unfold cellB
      have s1 : sAsg (sOp fMod (sF bInt (aCons (sV 3) (aNil))) (sV 1)) (gN 5) [some d0, some (.int 3), some (.cell 0), some (.int (i : Int)), some (.int x), w5] [bx a b c] = .nx [some d0, some (.int 3), some (.cell 0), some (.int (i : Int)), some (.int x), some (.int ((i : Int) % 3))] [bx a b c] :=
        sAsg_gN ((sOp_ok (d := .int (i : Int)) (e := .int 3) (S1 := [bx a b c]) (S2 := [bx a b c]) rfl rfl).trans (e_mod (by decide)))
      rw [sSeq_nx s1]
      have s2 : sOp fMulA (sV 4) (sOp fAdd (sV 3) (sC (.int 2))) [some d0, some (.int 3), some (.cell 0), some (.int (i : Int)), some (.int x), some (.int ((i : Int) % 3))] [bx a b c] = .ok (.int (x * (i + 2))) [bx a b c] :=
        (sOp_ok (d := .int x) (e := .int ((i : Int) + 2)) (S1 := [bx a b c]) (S2 := [bx a b c]) rfl rfl).trans (e_mulR ⟨by omega, by omega⟩)
      have hb : ([bx a b c] : Sto)[0]? = some (bx a b c) := rfl
      obtain ⟨i0, i1, i2⟩ := ix_bx hb
      have hr : (i : Int) % 3 = 0 ∨ (i : Int) % 3 = 1 ∨ (i : Int) % 3 = 2 := by omega
      rcases hr with hr | hr | hr <;> rw [hr] at s2 ⊢
      · exact ⟨a + x * (i + 2), b, c, (sAsg_ok ((sOp_ok ((sOp_ok (d := .cell 0) (e := .int 0) rfl rfl).trans i0) s2).trans e_add)).trans rfl⟩
      · exact ⟨a, b + x * (i + 2), c, (sAsg_ok ((sOp_ok ((sOp_ok (d := .cell 0) (e := .int 1) rfl rfl).trans i1) s2).trans e_add)).trans rfl⟩
      · exact ⟨a, b, c + x * (i + 2), (sAsg_ok ((sOp_ok ((sOp_ok (d := .cell 0) (e := .int 2) rfl rfl).trans i2) s2).trans e_add)).trans rfl⟩
    obtain ⟨a1, b1, c1, st⟩ := st
    obtain ⟨a', b', c', env', e1, e2⟩ := cells_loop es a1 b1 c1 (some (.int (i : Int))) (some (.int x)) (some (.int ((i : Int) % 3))) fun e he => h e (List.mem_cons_of_mem _ he)
    exact ⟨a', b', c', env', (forGo_nx (env1 := [some d0, some (.int 3), some (.cell 0), some (.int (i : Int)), some (.int x), w5]) rfl st).trans e1, e2⟩
theorem sIx_63 (n : Nat) : HT.sIx n n (some 63) = min 63 n := HT.sIx_nat n n 63
theorem sIx_3 (n : Nat) : HT.sIx n 0 (some 3) = min 3 n := HT.sIx_nat n 0 3
theorem sIx_3' (n : Nat) : HT.sIx n n (some 3) = min 3 n := HT.sIx_nat n n 3
theorem cells_ok (ns : List Int) (h : ns.length ≤ 63) : ∃ l : List Int, f_law_cells [.rdl (nums ns), .int 3] [] = .ok (.lst (nums l)) [] ∧ l.length ≤ 3 := by
  match ns, h with
  | [], _ => exact ⟨[0], rfl, by decide⟩
  | [a], _ => exact ⟨[a], rfl, by simp⟩
  | [a, b], _ => exact ⟨[a, b], rfl, by simp⟩
  | a :: b :: c :: r, h =>
    have hr : r.length ≤ 60 := by simp at h; omega
    have h1 : f_law_cells [.rdl (nums (a :: b :: c :: r)), .int 3] [] = fnEndC 0 (m_law_cells [some (.rdl (nums (a :: b :: c :: r))), some (.int 3), none, none, none, none] []) := rfl
    have b1 : sAsg (sOrL (sF bListAC (aCons (sSl (sV 0) (oNone) (oSome (sV 1))) (aNil))) (sLstC (aCons (sC (.int 0)) (aNil)))) (gN 2) [some (.rdl (nums (a :: b :: c :: r))), some (.int 3), none, none, none, none] [] = .nx [some (.rdl (nums (a :: b :: c :: r))), some (.int 3), some (.cell 0), none, none, none] [bx a b c] := by
      have e : cutD (nums (a :: b :: c :: r)) none (some 3) = [.int a, .int b, .int c] := by
        unfold cutD
        rw [sIx_3', HT.sIx_none, List.drop_zero, Nat.sub_zero, Nat.min_eq_left (by simp)]
        rfl
      have e2 : sF bListAC (aCons (sSl (sV 0) (oNone) (oSome (sV 1))) (aNil)) [some (.rdl (nums (a :: b :: c :: r))), some (.int 3), none, none, none, none] [] = .ok (.cell 0) [bx a b c] := by
        refine (sF1 (d := .lst [.int a, .int b, .int c]) (S1 := []) ?_).trans rfl
        rw [← e]
        rfl
      refine sAsg_gN ?_
      unfold sOrL
      rw [e2]
      rfl
    have e3 : iEnumS (aCons (sSl (sV 0) (oSome (sV 1)) (oSome (sC (.int 63)))) (aNil)) [some (.rdl (nums (a :: b :: c :: r))), some (.int 3), some (.cell 0), none, none, none] [bx a b c] = .ok (enumD (nums r)) [bx a b c] := by
      have e : cutD (nums (a :: b :: c :: r)) (some 3) (some 63) = nums r := by
        unfold cutD
        rw [sIx_3, sIx_63, show min 3 (nums (a :: b :: c :: r)).length = 3 from Nat.min_eq_left (by simp), Nat.min_eq_right (by simp; omega)]
        show List.take _ (nums r) = _
        rw [List.take_of_length_le (by simp)]
      rw [← e]
      rfl
    obtain ⟨a', b', c', env', l1, l2⟩ := cells_loop (d0 := .rdl (nums (a :: b :: c :: r))) (enumD (nums r)) a b c none none none fun e he => by
      obtain ⟨i, hi, e1⟩ := List.mem_iff_getElem.mp he
      obtain ⟨d, h1, h2⟩ := enumD_get (List.getElem?_eq_some_iff.mpr ⟨hi, e1⟩)
      have hi2 := (List.getElem?_eq_some_iff.mp h1).1
      rw [List.length_map] at hi2
      obtain ⟨x, _, rfl⟩ := List.mem_map.mp (List.mem_of_getElem? h1)
      exact ⟨i, x, by omega, h2⟩
    refine ⟨[a', b', c'], ?_, Nat.le_refl 3⟩
    rw [h1]
    have b2 : m_law_cells [some (.rdl (nums (a :: b :: c :: r))), some (.int 3), none, none, none, none] [] = .rt (.cell 0) [bx a' b' c'] := (sSeq_nx b1).trans ((sSeq_nx ((sFor_ok (t := .tp [3, 4]) (b := cellB) e3).trans l1)).trans (sRet_ok (sV_at l2)))
    rw [b2]
    rfl
theorem trues_of : ∀ {ys : List D}, (∀ y ∈ ys, y = .bl true) → ys = ys.map fun _ => D.bl true
  | [], _ => rfl
  | y :: ys, h => by rw [List.map_cons, ← trues_of fun z hz => h z (List.mem_cons_of_mem _ hz), h y List.mem_cons_self]
end LW
end S_LM5
section S_LM6
set_option Elab.async false
set_option linter.all false
set_option maxRecDepth 100000
set_option maxHeartbeats 4000000
namespace LW
open PySem L2 T
def boxM (c0 : Int) : SemS :=
  sSeq (sAsg (sIfx (isB (sOp fLt (sV 1) (sF bLen (aCons (sV 0) (aNil))))) (sOp fIx (sV 0) (sV 1)) (sC (.int 0))) (gN 2))
  (sRet (sLstC (aCons (sOp fMulA (sF bAbs (aCons (sV 2) (aNil))) (sF bInt (aCons (sOp fGe (sF bAbs (aCons (sV 2) (aNil))) (sOp fPow (sC (.int 10)) (sC (.int 18)))) (aNil)))) (aCons (sOp fAdd (sOp fAdd (sOp fMod (sF bInt (aCons (sV 2) (aNil))) (sC (.int 2305843009213693951))) (sOp fMulA (sC (.int 39373)) (sV 1))) (sC (.int c0))) (aCons (sC (.int 0)) (aNil))))))
def f_box (c0 : Int) : Fn := fnRaw 2 3 (boxM c0)
theorem box_ok {c0 : Int} {S : Sto} {l : List Int} {k : Nat} (hk : k < l.length) (hl : l.length ≤ 100) : ∃ a b, f_box c0 [.lst (nums l), .int (k : Int)] S = .ok (.cell S.length) (S ++ [bx a b 0]) := by
  have lk : k < (nums l).length := by rw [List.length_map]; exact hk
  have ek : atI (nums l) (k : Int) = some (.int l[k]) := by
    rw [atI_nat rfl lk]
    simp
  generalize hx : l[k] = x at ek
  refine ⟨(if x < 0 then -x else x) * (if decide (10 ^ 18 ≤ (if x < 0 then -x else x)) then 1 else 0), x % 2305843009213693951 + 39373 * k + c0, ?_⟩
  have h1 : f_box c0 [.lst (nums l), .int (k : Int)] S = fnEndR (boxM c0 [some (.lst (nums l)), some (.int (k : Int)), none] S) := rfl
  rw [h1]
  have b1 : sAsg (sIfx (isB (sOp fLt (sV 1) (sF bLen (aCons (sV 0) (aNil))))) (sOp fIx (sV 0) (sV 1)) (sC (.int 0))) (gN 2) [some (.lst (nums l)), some (.int (k : Int)), none] S = .nx [some (.lst (nums l)), some (.int (k : Int)), some (.int x)] S := by
    refine sAsg_gN ?_
    have c : sOp fLt (sV 1) (sF bLen (aCons (sV 0) aNil)) [some (.lst (nums l)), some (.int (k : Int)), none] S = .ok (.bl true) S := by
      refine (sOp_ok (d := .int (k : Int)) (e := .int ((nums l).length : Int)) (S1 := S) (S2 := S) rfl rfl).trans ?_
      rw [e_lt, decide_eq_true (by omega)]
    rw [sIfx_t (isB_ok c)]
    refine (sOp_ok (d := .lst (nums l)) (e := .int (k : Int)) (S1 := S) (S2 := S) rfl rfl).trans ?_
    show (match atI (nums l) (k : Int) with | some d => Res.ok d S | none => .bad) = _
    rw [ek]
  have g1 : sF bAbs (aCons (sV 2) aNil) [some (.lst (nums l)), some (.int (k : Int)), some (.int x)] S = .ok (.int (if x < 0 then -x else x)) S := rfl
  have g2 : sF bInt (aCons (sOp fGe (sF bAbs (aCons (sV 2) aNil)) (sOp fPow (sC (.int 10)) (sC (.int 18)))) aNil) [some (.lst (nums l)), some (.int (k : Int)), some (.int x)] S = .ok (.int (if decide (10 ^ 18 ≤ (if x < 0 then -x else x)) then 1 else 0)) S := by
    refine (sF1 (d := .bl (decide (10 ^ 18 ≤ (if x < 0 then -x else x)))) (S1 := S) ?_).trans e_intB
    exact (sOp_ok (d := .int (if x < 0 then -x else x)) (e := .int (10 ^ 18)) (S1 := S) (S2 := S) g1 rfl).trans e_ge
  have b2 : sRet (sLstC (aCons (sOp fMulA (sF bAbs (aCons (sV 2) (aNil))) (sF bInt (aCons (sOp fGe (sF bAbs (aCons (sV 2) (aNil))) (sOp fPow (sC (.int 10)) (sC (.int 18)))) (aNil)))) (aCons (sOp fAdd (sOp fAdd (sOp fMod (sF bInt (aCons (sV 2) (aNil))) (sC (.int 2305843009213693951))) (sOp fMulA (sC (.int 39373)) (sV 1))) (sC (.int c0))) (aCons (sC (.int 0)) (aNil))))) [some (.lst (nums l)), some (.int (k : Int)), some (.int x)] S = .rt (.cell S.length) (S ++ [bx ((if x < 0 then -x else x) * (if decide (10 ^ 18 ≤ (if x < 0 then -x else x)) then 1 else 0)) (x % 2305843009213693951 + 39373 * k + c0) 0]) := by
    refine sRet_ok (sLstC_ok (aCons_ok ((sOp_ok g1 g2).trans (e_mulR ?_)) (aCons_ok (S1 := S) ((sOp_ok (d := .int (x % 2305843009213693951 + 39373 * k)) (e := .int c0) (S1 := S) (S2 := S) ?_ rfl).trans e_add) (aCons_ok (d := .int 0) (S1 := S) rfl aNil_ok))) (show 3 ≤ lim by decide))
    · generalize decide (10 ^ 18 ≤ (if x < 0 then -x else x)) = bb
      cases bb <;> decide
    · refine (sOp_ok (d := .int (x % 2305843009213693951)) (e := .int (39373 * k)) (S1 := S) (S2 := S) ?_ ?_).trans e_add
      · exact (sOp_ok (d := .int x) (e := .int 2305843009213693951) (S1 := S) (S2 := S) rfl rfl).trans (e_mod (by decide))
      · exact (sOp_ok (d := .int 39373) (e := .int (k : Int)) (S1 := S) (S2 := S) rfl rfl).trans (e_mulL (by decide))
  have b3 : boxM c0 [some (.lst (nums l)), some (.int (k : Int)), none] S = .rt (.cell S.length) (S ++ [bx ((if x < 0 then -x else x) * (if decide (10 ^ 18 ≤ (if x < 0 then -x else x)) then 1 else 0)) (x % 2305843009213693951 + 39373 * k + c0) 0]) := (sSeq_nx b1).trans b2
  rw [b3]
  rfl
/-- what is asked of a law's turn -/
def RightOk (fr : Fn) : Prop := ∀ (L n : Nat) (S : Sto), Bx L n 0 S → ∃ S', fr [.cell n] S = .ok (.bl true) S' ∧ S'.length = L ∧ S'.all (belowC L) = true
mutual
theorem below_up {n m : Nat} (h : n ≤ m) : ∀ (d : D), below n d = true → below m d = true
  | .non, _ => by simp [below]
  | .bl _, _ => by simp [below]
  | .int _, _ => by simp [below]
  | .str _, _ => by simp [below]
  | .cell k, b => by
    simp only [below, decide_eq_true_eq] at b ⊢
    omega
  | .tup ds, b => by simp only [below] at b ⊢; exact belowL_up h ds b
  | .lst ds, b => by simp only [below] at b ⊢; exact belowL_up h ds b
  | .rdl ds, b => by simp only [below] at b ⊢; exact belowL_up h ds b
  | .dk ds, b => by simp only [below] at b ⊢; exact belowK_up h ds b
  | .obj _ ds, b => by simp only [below] at b ⊢; exact belowF_up h ds b
  | .exc _ ds, b => by simp only [below] at b ⊢; exact belowF_up h ds b
theorem belowL_up {n m : Nat} (h : n ≤ m) : ∀ (ds : List D), belowL n ds = true → belowL m ds = true
  | [], _ => by simp [belowL]
  | d :: ds, b => by
    simp only [belowL, Bool.and_eq_true] at b ⊢
    exact ⟨below_up h d b.1, belowL_up h ds b.2⟩
theorem belowF_up {n m : Nat} (h : n ≤ m) : ∀ (ds : List (Str × D)), belowF n ds = true → belowF m ds = true
  | [], _ => by simp [belowF]
  | (_, d) :: ds, b => by
    simp only [belowF, Bool.and_eq_true] at b ⊢
    exact ⟨below_up h d b.1, belowF_up h ds b.2⟩
theorem belowK_up {n m : Nat} (h : n ≤ m) : ∀ (ds : List (Key × D)), belowK n ds = true → belowK m ds = true
  | [], _ => by simp [belowK]
  | (_, d) :: ds, b => by
    simp only [belowK, Bool.and_eq_true] at b ⊢
    exact ⟨below_up h d b.1, belowK_up h ds b.2⟩
end
theorem belowC_up {n m : Nat} (h : n ≤ m) {c : Cel} (b : belowC n c = true) : belowC m c = true := by
  cases c with
  | lv d => exact below_up h d b
  | fz d => exact below_up h d b
theorem bx_new {S : Sto} {a b : Int} (h : S.all (belowC S.length) = true) : Bx (S.length + 1) S.length 0 (S ++ [bx a b 0]) := by
  refine ⟨by simp, ?_, a, b, 0, by rw [List.getElem?_append_right (Nat.le_refl _), Nat.sub_self]; rfl, by omega, by omega⟩
  rw [List.all_append, Bool.and_eq_true]
  refine ⟨List.all_eq_true.mpr fun c hc => belowC_up (Nat.le_succ _) (List.all_eq_true.mp h c hc), rfl⟩
/-- the boxes one behind another -/
theorem rights_ok {fr fb : Fn} {c0 : Int} (hb : fb = f_box c0) (hr : RightOk fr) {l : List Int} (hl : l.length ≤ 100) {d0 : D} : ∃ ys S', sLc [2] (T.iRng1 (aCons (sF bLen (aCons (sV 1) (aNil))) (aNil))) (.nm 2) (cYes) (sCall fr (aCons (sCall fb (aCons (sV 1) (aCons (sV 2) (aNil)))) (aNil))) [some d0, some (.lst (nums l)), none] [] = .ok (.lst ys) S' ∧ ∀ y ∈ ys, y = .bl true := by
  subst hb
  obtain ⟨ys, S', e, B, r⟩ := lc_rel' (t := .nm 2) (c := cYes) (e := sCall fr (aCons (sCall (f_box c0) (aCons (sV 1) (aCons (sV 2) (aNil)))) (aNil))) (env := [some d0, some (.lst (nums l)), none]) (I := fun _ S' => S'.all (belowC S'.length) = true) (R := fun _ y => y = .bl true) (M := 100) (rngD 0 l.length) 0 [] [] (fun d hd j S' hj B => by
    obtain ⟨i, hi, rfl⟩ := rngD_mem hd
    rw [Int.zero_add]
    obtain ⟨a, b, e1⟩ := box_ok (c0 := c0) (S := S') hi hl
    obtain ⟨S'', e2, e3, e4⟩ := hr _ _ _ (bx_new (a := a) (b := b) B)
    refine ⟨_, .bl true, S'', rfl, rfl, ?_, by rw [e3]; exact e4, rfl⟩
    exact (call1 ((call2 rfl rfl).trans e1)).trans e2) (by rw [rngD_len]; omega) (by rw [rngD_len]; unfold lim; simp; omega) rfl
  rw [List.nil_append] at e
  refine ⟨ys, S', sLc_ok (iRng1_ok (j := ((nums l).length : Int)) rfl (by rw [List.length_map]) (by omega)) e, r.right (P := fun y => y = .bl true) fun _ _ z => z⟩
end LW
end S_LM6
section S_K00Sem
set_option Elab.async false
set_option linter.all false
set_option maxRecDepth 100000
set_option maxHeartbeats 8000000
namespace K00
open PySem L2 T
def xtT : Tb Bool := [("Twice", [("Away", false), ("BadLine", false), ("BadText", false), ("Endless", false), ("Here", false), ("IndexError", false), ("KeyError", false), ("LookupError", false), ("Loop", false), ("NoClock", false), ("NoGarden", false), ("NoGate", false), ("NoNumber", false), ("NoRing", false), ("NothingDone", false), ("OtherWeb", false), ("SameGate", false), ("Stands", false), ("TooMany", false), ("Twice", true), ("ValueError", true), ("Waits", false)]), ("Loop", [("Away", false), ("BadLine", false), ("BadText", false), ("Endless", false), ("Here", false), ("IndexError", false), ("KeyError", false), ("LookupError", false), ("Loop", true), ("NoClock", false), ("NoGarden", false), ("NoGate", false), ("NoNumber", false), ("NoRing", false), ("NothingDone", false), ("OtherWeb", false), ("SameGate", false), ("Stands", false), ("TooMany", false), ("Twice", false), ("ValueError", true), ("Waits", false)]), ("SameGate", [("Away", false), ("BadLine", false), ("BadText", false), ("Endless", false), ("Here", false), ("IndexError", false), ("KeyError", false), ("LookupError", false), ("Loop", false), ("NoClock", false), ("NoGarden", false), ("NoGate", false), ("NoNumber", false), ("NoRing", false), ("NothingDone", false), ("OtherWeb", false), ("SameGate", true), ("Stands", false), ("TooMany", false), ("Twice", false), ("ValueError", true), ("Waits", false)]), ("Waits", [("Away", false), ("BadLine", false), ("BadText", false), ("Endless", false), ("Here", false), ("IndexError", false), ("KeyError", false), ("LookupError", false), ("Loop", false), ("NoClock", false), ("NoGarden", false), ("NoGate", false), ("NoNumber", false), ("NoRing", false), ("NothingDone", false), ("OtherWeb", false), ("SameGate", false), ("Stands", false), ("TooMany", false), ("Twice", false), ("ValueError", true), ("Waits", true)]), ("Away", [("Away", true), ("BadLine", false), ("BadText", false), ("Endless", false), ("Here", false), ("IndexError", false), ("KeyError", false), ("LookupError", false), ("Loop", false), ("NoClock", false), ("NoGarden", false), ("NoGate", false), ("NoNumber", false), ("NoRing", false), ("NothingDone", false), ("OtherWeb", false), ("SameGate", false), ("Stands", false), ("TooMany", false), ("Twice", false), ("ValueError", true), ("Waits", false)]), ("Here", [("Away", false), ("BadLine", false), ("BadText", false), ("Endless", false), ("Here", true), ("IndexError", false), ("KeyError", false), ("LookupError", false), ("Loop", false), ("NoClock", false), ("NoGarden", false), ("NoGate", false), ("NoNumber", false), ("NoRing", false), ("NothingDone", false), ("OtherWeb", false), ("SameGate", false), ("Stands", false), ("TooMany", false), ("Twice", false), ("ValueError", true), ("Waits", false)]), ("OtherWeb", [("Away", false), ("BadLine", false), ("BadText", false), ("Endless", false), ("Here", false), ("IndexError", false), ("KeyError", false), ("LookupError", false), ("Loop", false), ("NoClock", false), ("NoGarden", false), ("NoGate", false), ("NoNumber", false), ("NoRing", false), ("NothingDone", false), ("OtherWeb", true), ("SameGate", false), ("Stands", false), ("TooMany", false), ("Twice", false), ("ValueError", true), ("Waits", false)]), ("Stands", [("Away", false), ("BadLine", false), ("BadText", false), ("Endless", false), ("Here", false), ("IndexError", false), ("KeyError", false), ("LookupError", false), ("Loop", false), ("NoClock", false), ("NoGarden", false), ("NoGate", false), ("NoNumber", false), ("NoRing", false), ("NothingDone", false), ("OtherWeb", false), ("SameGate", false), ("Stands", true), ("TooMany", false), ("Twice", false), ("ValueError", true), ("Waits", false)]), ("Endless", [("Away", false), ("BadLine", false), ("BadText", false), ("Endless", true), ("Here", false), ("IndexError", false), ("KeyError", false), ("LookupError", false), ("Loop", false), ("NoClock", false), ("NoGarden", false), ("NoGate", false), ("NoNumber", false), ("NoRing", false), ("NothingDone", false), ("OtherWeb", false), ("SameGate", false), ("Stands", false), ("TooMany", false), ("Twice", false), ("ValueError", true), ("Waits", false)]), ("NoClock", [("Away", false), ("BadLine", false), ("BadText", false), ("Endless", false), ("Here", false), ("IndexError", false), ("KeyError", false), ("LookupError", false), ("Loop", false), ("NoClock", true), ("NoGarden", false), ("NoGate", false), ("NoNumber", false), ("NoRing", false), ("NothingDone", false), ("OtherWeb", false), ("SameGate", false), ("Stands", false), ("TooMany", false), ("Twice", false), ("ValueError", true), ("Waits", false)]), ("TooMany", [("Away", false), ("BadLine", false), ("BadText", false), ("Endless", false), ("Here", false), ("IndexError", false), ("KeyError", false), ("LookupError", false), ("Loop", false), ("NoClock", false), ("NoGarden", false), ("NoGate", false), ("NoNumber", false), ("NoRing", false), ("NothingDone", false), ("OtherWeb", false), ("SameGate", false), ("Stands", false), ("TooMany", true), ("Twice", false), ("ValueError", true), ("Waits", false)]), ("BadText", [("Away", false), ("BadLine", false), ("BadText", true), ("Endless", false), ("Here", false), ("IndexError", false), ("KeyError", false), ("LookupError", false), ("Loop", false), ("NoClock", false), ("NoGarden", false), ("NoGate", false), ("NoNumber", false), ("NoRing", false), ("NothingDone", false), ("OtherWeb", false), ("SameGate", false), ("Stands", false), ("TooMany", false), ("Twice", false), ("ValueError", true), ("Waits", false)]), ("BadLine", [("Away", false), ("BadLine", true), ("BadText", false), ("Endless", false), ("Here", false), ("IndexError", false), ("KeyError", false), ("LookupError", false), ("Loop", false), ("NoClock", false), ("NoGarden", false), ("NoGate", false), ("NoNumber", false), ("NoRing", false), ("NothingDone", false), ("OtherWeb", false), ("SameGate", false), ("Stands", false), ("TooMany", false), ("Twice", false), ("ValueError", true), ("Waits", false)]), ("NothingDone", [("Away", false), ("BadLine", false), ("BadText", false), ("Endless", false), ("Here", false), ("IndexError", false), ("KeyError", false), ("LookupError", false), ("Loop", false), ("NoClock", false), ("NoGarden", false), ("NoGate", false), ("NoNumber", false), ("NoRing", false), ("NothingDone", true), ("OtherWeb", false), ("SameGate", false), ("Stands", false), ("TooMany", false), ("Twice", false), ("ValueError", true), ("Waits", false)]), ("NoGarden", [("Away", false), ("BadLine", false), ("BadText", false), ("Endless", false), ("Here", false), ("IndexError", false), ("KeyError", false), ("LookupError", true), ("Loop", false), ("NoClock", false), ("NoGarden", true), ("NoGate", false), ("NoNumber", false), ("NoRing", false), ("NothingDone", false), ("OtherWeb", false), ("SameGate", false), ("Stands", false), ("TooMany", false), ("Twice", false), ("ValueError", false), ("Waits", false)]), ("NoGate", [("Away", false), ("BadLine", false), ("BadText", false), ("Endless", false), ("Here", false), ("IndexError", false), ("KeyError", false), ("LookupError", true), ("Loop", false), ("NoClock", false), ("NoGarden", false), ("NoGate", true), ("NoNumber", false), ("NoRing", false), ("NothingDone", false), ("OtherWeb", false), ("SameGate", false), ("Stands", false), ("TooMany", false), ("Twice", false), ("ValueError", false), ("Waits", false)]), ("NoRing", [("Away", false), ("BadLine", false), ("BadText", false), ("Endless", false), ("Here", false), ("IndexError", false), ("KeyError", false), ("LookupError", true), ("Loop", false), ("NoClock", false), ("NoGarden", false), ("NoGate", false), ("NoNumber", false), ("NoRing", true), ("NothingDone", false), ("OtherWeb", false), ("SameGate", false), ("Stands", false), ("TooMany", false), ("Twice", false), ("ValueError", false), ("Waits", false)]), ("NoNumber", [("Away", false), ("BadLine", false), ("BadText", false), ("Endless", false), ("Here", false), ("IndexError", false), ("KeyError", false), ("LookupError", true), ("Loop", false), ("NoClock", false), ("NoGarden", false), ("NoGate", false), ("NoNumber", true), ("NoRing", false), ("NothingDone", false), ("OtherWeb", false), ("SameGate", false), ("Stands", false), ("TooMany", false), ("Twice", false), ("ValueError", false), ("Waits", false)])]
def xfT : Tb Unit := [("Twice", [("name", ())]), ("Loop", [("name", ())]), ("SameGate", [("one", ()), ("other", ())]), ("Waits", [("name", ()), ("other", ())]), ("Away", [("name", ())]), ("Here", [("name", ())]), ("Endless", [("name", ())]), ("TooMany", [("most", ())]), ("BadLine", [("number", ())]), ("NoGarden", [("name", ())]), ("NoGate", [("one", ()), ("other", ())]), ("NoRing", [("ring", ())]), ("NoNumber", [("number", ())])]
def xmT : Tb Bool := [("Twice", [("NoNumber", false), ("Waits", false)]), ("Loop", [("NoNumber", false), ("Waits", false)]), ("SameGate", [("NoNumber", false), ("Waits", false)]), ("Waits", [("NoNumber", false), ("Waits", true)]), ("Away", [("NoNumber", false), ("Waits", false)]), ("Here", [("NoNumber", false), ("Waits", false)]), ("OtherWeb", [("NoNumber", false), ("Waits", false)]), ("Stands", [("NoNumber", false), ("Waits", false)]), ("Endless", [("NoNumber", false), ("Waits", false)]), ("NoClock", [("NoNumber", false), ("Waits", false)]), ("TooMany", [("NoNumber", false), ("Waits", false)]), ("BadText", [("NoNumber", false), ("Waits", false)]), ("BadLine", [("NoNumber", false), ("Waits", false)]), ("NothingDone", [("NoNumber", false), ("Waits", false)]), ("NoGarden", [("NoNumber", false), ("Waits", false)]), ("NoGate", [("NoNumber", false), ("Waits", false)]), ("NoRing", [("NoNumber", false), ("Waits", false)]), ("NoNumber", [("NoNumber", true), ("Waits", false)])]
def m_law_box : SemS :=
  sSeq (sAsg (sIfx (isB (sOp fLt (sV 1) (sF bLen (aCons (sV 0) (aNil))))) (sOp fIx (sV 0) (sV 1)) (sC (.int 0))) (gN 2))
  (sRet (sLstC (aCons (sOp fMulA (sF bAbs (aCons (sV 2) (aNil))) (sF bInt (aCons (sOp fGe (sF bAbs (aCons (sV 2) (aNil))) (sOp fPow (sC (.int 10)) (sC (.int 18)))) (aNil)))) (aCons (sOp fAdd (sOp fAdd (sOp fMod (sF bInt (aCons (sV 2) (aNil))) (sC (.int 2305843009213693951))) (sOp fMulA (sC (.int 39373)) (sV 1))) (sC (.int 619))) (aCons (sC (.int 0)) (aNil))))))
def f_law_box : Fn := fnRaw 2 3 m_law_box
def m_law_which : SemS :=
  sSeq (sAsg (sLst (aCons (sIsX xtT.get "Twice" (sV 0)) (aCons (sIsX xtT.get "Loop" (sV 0)) (aCons (sIsX xtT.get "SameGate" (sV 0)) (aNil))))) (gN 1))
  (sSeq (sAsg (sOp fAdd (sV 1) (sLst (aCons (sIsX xtT.get "Waits" (sV 0)) (aCons (sIsX xtT.get "Away" (sV 0)) (aCons (sIsX xtT.get "Here" (sV 0)) (aNil)))))) (gN 1))
  (sSeq (sAsg (sOp fAdd (sV 1) (sLst (aCons (sIsX xtT.get "OtherWeb" (sV 0)) (aCons (sIsX xtT.get "Stands" (sV 0)) (aCons (sIsX xtT.get "Endless" (sV 0)) (aNil)))))) (gN 1))
  (sSeq (sAsg (sOp fAdd (sV 1) (sLst (aCons (sIsX xtT.get "NoClock" (sV 0)) (aCons (sIsX xtT.get "TooMany" (sV 0)) (aCons (sIsX xtT.get "BadText" (sV 0)) (aNil)))))) (gN 1))
  (sSeq (sAsg (sOp fAdd (sV 1) (sLst (aCons (sIsX xtT.get "BadLine" (sV 0)) (aCons (sIsX xtT.get "NothingDone" (sV 0)) (aCons (sIsX xtT.get "NoGarden" (sV 0)) (aNil)))))) (gN 1))
  (sSeq (sAsg (sOp fAdd (sV 1) (sLst (aCons (sIsX xtT.get "NoGate" (sV 0)) (aCons (sIsX xtT.get "NoRing" (sV 0)) (aCons (sIsX xtT.get "NoNumber" (sV 0)) (aNil)))))) (gN 1))
  (sRet (sV 1)))))))
def f_law_which : Fn := fnOf 1 2 m_law_which
def m_law_place_right : SemS :=
  sSeq (sAsg (sLst (aCons (sIsX xtT.get "ValueError" (sV 0)) (aCons (sIsX xtT.get "LookupError" (sV 0)) (aNil)))) (gN 2))
  (sSeq (sAsg (sOp fAdd (sV 2) (sLst (aCons (sIsX2 xtT.get "KeyError" "IndexError" (sV 0)) (aNil)))) (gN 2))
  (sSeq (sIf (cNot (isB (sCall (LW.f_law_same 6) (aCons (sV 2) (aCons (sLst (aCons (sOp fLt (sV 1) (sC (.int 14))) (aCons (sOp fGt (sV 1) (sC (.int 13))) (aCons (sC (.bl false)) (aNil))))) (aNil)))))) (sRet (sC (.bl false))) (sNext))
  (sRet (sCall (LW.f_law_same 6) (aCons (sCall (f_law_which) (aCons (sV 0) (aNil))) (aCons (sLc [3] (T.iRng1 (aCons (sC (.int 18)) (aNil))) (.nm 3) (cYes) (sOp fEq (sV 3) (sV 1))) (aNil)))))))
def f_law_place_right : Fn := fnOf 2 4 m_law_place_right
def m_law_caught : SemS :=
  sSeq (sAsg (sTup (aCons (sC .non) (aCons (sC .non) (aNil)))) (gTg (.tp [2, 3])))
  (sSeq (sTry (sRaiseX "Waits" (xMk LW.i_Waits 2 (aCons (sV 0) (aCons (sC (.str "zz")) (aNil))))) (fun C => xmT.get C "Waits") 4 (sAsg (sV 4) (gN 2)))
  (sSeq (sTry (sRaiseX "NoNumber" (xMk LW.i_NoNumber 1 (aCons (sV 1) (aNil)))) (fun C => xmT.get C "NoNumber") 5 (sAsg (sV 5) (gN 3)))
  (sRet (sCall (LW.f_law_same 6) (aCons (sLst (aCons (sFldX xfT.has "name" (sV 2)) (aCons (sFldX xfT.has "other" (sV 2)) (aCons (sFldX xfT.has "number" (sV 3)) (aNil))))) (aCons (sLst (aCons (sV 0) (aCons (sC (.str "zz")) (aCons (sV 1) (aNil))))) (aNil)))))))
def f_law_caught : Fn := fnOf 2 6 m_law_caught
def b_law_right_1 : SemS :=
  sSeq (sAsg (sLst (aCons (sFldX xfT.has "name" (sOp fIx (sV 6) (sC (.int 0)))) (aCons (sFldX xfT.has "name" (sOp fIx (sV 6) (sC (.int 1)))) (aCons (sFldX xfT.has "one" (sOp fIx (sV 6) (sC (.int 2)))) (aCons (sFldX xfT.has "other" (sOp fIx (sV 6) (sC (.int 2)))) (aCons (sFldX xfT.has "name" (sOp fIx (sV 6) (sC (.int 3)))) (aCons (sFldX xfT.has "other" (sOp fIx (sV 6) (sC (.int 3)))) (aCons (sFldX xfT.has "name" (sOp fIx (sV 6) (sC (.int 4)))) (aNil))))))))) (gN 7))
  (sSeq (sAsg (sOp fAdd (sV 7) (sLst (aCons (sFldX xfT.has "name" (sOp fIx (sV 6) (sC (.int 5)))) (aCons (sFldX xfT.has "name" (sOp fIx (sV 6) (sC (.int 8)))) (aCons (sFldX xfT.has "most" (sOp fIx (sV 6) (sC (.int 10)))) (aCons (sFldX xfT.has "number" (sOp fIx (sV 6) (sC (.int 12)))) (aCons (sFldX xfT.has "name" (sOp fIx (sV 6) (sC (.int 14)))) (aCons (sFldX xfT.has "one" (sOp fIx (sV 6) (sC (.int 15)))) (aNil))))))))) (gN 7))
  (sSeq (sAsg (sOp fAdd (sV 7) (sLst (aCons (sFldX xfT.has "other" (sOp fIx (sV 6) (sC (.int 15)))) (aCons (sFldX xfT.has "ring" (sOp fIx (sV 6) (sC (.int 16)))) (aCons (sFldX xfT.has "number" (sOp fIx (sV 6) (sC (.int 17)))) (aNil)))))) (gN 7))
  (sSeq (sAsg (sLst (aCons (sV 1) (aCons (sV 2) (aCons (sV 1) (aCons (sV 2) (aCons (sV 2) (aCons (sV 1) (aCons (sV 1) (aCons (sV 2) (aCons (sV 1) (aCons (sV 3) (aCons (sV 3) (aCons (sV 2) (aNil)))))))))))))) (gN 8))
  (sSeq (sIf (cNot (isB (sCall (LW.f_law_same 6) (aCons (sV 7) (aCons (sOp fAdd (sV 8) (sLst (aCons (sV 1) (aCons (sV 2) (aCons (sTup (aCons (sV 1) (aCons (sV 2) (aNil)))) (aCons (sV 3) (aNil))))))) (aNil)))))) (sRet (sC (.bl false))) (sNext))
  (sIf (cNot (isB (sF bAll (aCons (sLc [9, 10] (iEnumS (aCons (sV 6) (aNil))) (.tp [9, 10]) (cYes) (sCall (f_law_place_right) (aCons (sV 10) (aCons (sV 9) (aNil))))) (aNil))))) (sRet (sC (.bl false))) (sNext))))))
def m_law_right : SemS :=
  sSeq (sAsg (sCall (LW.f_law_tags) (aCons (sV 0) (aCons (sC (.int 2)) (aNil)))) (gTg (.tp [1, 2])))
  (sSeq (sAsg (sOp fMulA (sOp fSub (sCall (LW.f_law_take) (aCons (sV 0) (aCons (sC (.int 999)) (aNil)))) (sC (.int 400))) (sCall (LW.f_law_of) (aCons (sV 0) (aCons (sLst (aCons (sC (.int 1)) (aCons (sOp fPow (sC (.int 10)) (sC (.int 27))) (aNil)))) (aNil))))) (gN 3))
  (sSeq (sAsg (sLst (aCons (sMk "Twice" (xMk LW.i_Twice 1 (aCons (sV 1) (aNil)))) (aCons (sMk "Loop" (xMk LW.i_Loop 1 (aCons (sV 2) (aNil)))) (aCons (sMk "SameGate" (xMk LW.i_SameGate 2 (aCons (sV 1) (aCons (sV 2) (aNil))))) (aCons (sMk "Waits" (xMk LW.i_Waits 2 (aCons (sV 2) (aCons (sV 1) (aNil))))) (aCons (sMk "Away" (xMk LW.i_Away 1 (aCons (sV 1) (aNil)))) (aNil))))))) (gN 4))
  (sSeq (sAsg (sOp fAdd (sV 4) (sLst (aCons (sMk "Here" (xMk LW.i_Here 1 (aCons (sV 2) (aNil)))) (aCons (sMk "OtherWeb" (xMk0)) (aCons (sMk "Stands" (xMk0)) (aCons (sMk "Endless" (xMk LW.i_Endless 1 (aCons (sV 1) (aNil)))) (aCons (sMk "NoClock" (xMk0)) (aCons (sMk "TooMany" (xMk LW.i_TooMany 1 (aCons (sV 3) (aNil)))) (aCons (sMk "BadText" (xMk0)) (aNil)))))))))) (gN 4))
  (sSeq (sAsg (sOp fAdd (sV 4) (sLst (aCons (sMk "BadLine" (xMk LW.i_BadLine 1 (aCons (sV 3) (aNil)))) (aCons (sMk "NothingDone" (xMk0)) (aCons (sMk "NoGarden" (xMk LW.i_NoGarden 1 (aCons (sV 2) (aNil)))) (aCons (sMk "NoGate" (xMk LW.i_NoGate 2 (aCons (sV 1) (aCons (sV 2) (aNil))))) (aNil))))))) (gN 4))
  (sSeq (sAsg (sOp fAdd (sV 4) (sLst (aCons (sMk "NoRing" (xMk LW.i_NoRing 1 (aCons (sLst (aCons (sV 1) (aCons (sV 2) (aNil)))) (aNil)))) (aCons (sMk "NoNumber" (xMk LW.i_NoNumber 1 (aCons (sV 3) (aNil)))) (aNil))))) (gN 4))
  (sSeq (sAsg (sLst (aCons (sMk "Twice" (xMkK LW.i_Twice 1 [0] (aCons (sV 1) (aNil)))) (aCons (sMk "Loop" (xMkK LW.i_Loop 1 [0] (aCons (sV 2) (aNil)))) (aCons (sMk "SameGate" (xMkK LW.i_SameGate 2 [1, 0] (aCons (sV 2) (aCons (sV 1) (aNil))))) (aNil))))) (gN 5))
  (sSeq (sAsg (sOp fAdd (sV 5) (sLst (aCons (sMk "Waits" (xMkK LW.i_Waits 2 [1, 0] (aCons (sV 1) (aCons (sV 2) (aNil))))) (aCons (sMk "Away" (xMkK LW.i_Away 1 [0] (aCons (sV 1) (aNil)))) (aCons (sMk "Here" (xMkK LW.i_Here 1 [0] (aCons (sV 2) (aNil)))) (aCons (sMk "OtherWeb" (xMk0)) (aCons (sMk "Stands" (xMk0)) (aNil)))))))) (gN 5))
  (sSeq (sAsg (sOp fAdd (sV 5) (sLst (aCons (sMk "Endless" (xMkK LW.i_Endless 1 [0] (aCons (sV 1) (aNil)))) (aCons (sMk "NoClock" (xMk0)) (aCons (sMk "TooMany" (xMkK LW.i_TooMany 1 [0] (aCons (sV 3) (aNil)))) (aCons (sMk "BadText" (xMk0)) (aCons (sMk "BadLine" (xMkK LW.i_BadLine 1 [0] (aCons (sV 3) (aNil)))) (aNil)))))))) (gN 5))
  (sSeq (sAsg (sOp fAdd (sV 5) (sLst (aCons (sMk "NothingDone" (xMk0)) (aCons (sMk "NoGarden" (xMkK LW.i_NoGarden 1 [0] (aCons (sV 2) (aNil)))) (aCons (sMk "NoGate" (xMkK LW.i_NoGate 2 [1, 0] (aCons (sV 2) (aCons (sV 1) (aNil))))) (aNil)))))) (gN 5))
  (sSeq (sAsg (sOp fAdd (sV 5) (sLst (aCons (sMk "NoRing" (xMkK LW.i_NoRing 1 [0] (aCons (sTup (aCons (sV 1) (aCons (sV 2) (aNil)))) (aNil)))) (aCons (sMk "NoNumber" (xMkK LW.i_NoNumber 1 [0] (aCons (sV 3) (aNil)))) (aNil))))) (gN 5))
  (sSeq (sFor (iSeq (sLst (aCons (sV 4) (aCons (sV 5) (aNil))))) (.nm 6) (b_law_right_1))
  (sRet (sCall (f_law_caught) (aCons (sV 1) (aCons (sV 3) (aNil))))))))))))))))
def f_law_right : Fn := fnOf 1 11 m_law_right
def m_law : SemS :=
  sSeq (sAsg (sCall (LW.f_law_cells) (aCons (sV 0) (aCons (sC (.int 3)) (aNil)))) (gN 1))
  (sRet (sF bAll (aCons (sLc [2] (T.iRng1 (aCons (sF bLen (aCons (sV 1) (aNil))) (aNil))) (.nm 2) (cYes) (sCall (f_law_right) (aCons (sCall (f_law_box) (aCons (sV 1) (aCons (sV 2) (aNil)))) (aNil)))) (aNil))))
def f_law : Fn := fnRaw 1 3 m_law
end K00
end S_K00Sem
section S_K00Ok
set_option Elab.async false
set_option linter.all false
set_option maxRecDepth 100000
set_option maxHeartbeats 8000000
namespace K00
open PySem L2 T
def top (i : Nat) : Stmt := PySem.Challenge.pw_gatekeys_k00_errors_made_by_hand.main.body.getD i (.Pass ⟨0, 0, 0, 0⟩)
structure Txt (P : Program) (K : PySem.W.Frag) (mg : Str → Option Value) : Prop where
  z_IndexError : mg "IndexError" = none
  z_KeyError : mg "KeyError" = none
  z_LookupError : mg "LookupError" = none
  z_ValueError : mg "ValueError" = none
  z_abs : mg "abs" = none
  z_all : mg "all" = none
  z_bool : mg "bool" = none
  z_enumerate : mg "enumerate" = none
  z_int : mg "int" = none
  z_isinstance : mg "isinstance" = none
  z_len : mg "len" = none
  z_list : mg "list" = none
  z_min : mg "min" = none
  z_range : mg "range" = none
  z_str : mg "str" = none
  z_super : mg "super" = none
  z_tuple : mg "tuple" = none
  z_zip : mg "zip" = none
  e_OtherWeb : ExcT K mg "OtherWeb"
  e_Stands : ExcT K mg "Stands"
  e_NoClock : ExcT K mg "NoClock"
  e_BadText : ExcT K mg "BadText"
  e_NothingDone : ExcT K mg "NothingDone"
  g_Twice : mg "Twice" = some (.ref (He.ga K "Twice"))
  g_Loop : mg "Loop" = some (.ref (He.ga K "Loop"))
  g_SameGate : mg "SameGate" = some (.ref (He.ga K "SameGate"))
  g_Waits : mg "Waits" = some (.ref (He.ga K "Waits"))
  g_Away : mg "Away" = some (.ref (He.ga K "Away"))
  g_Here : mg "Here" = some (.ref (He.ga K "Here"))
  g_OtherWeb : mg "OtherWeb" = some (.ref (He.ga K "OtherWeb"))
  g_Stands : mg "Stands" = some (.ref (He.ga K "Stands"))
  g_Endless : mg "Endless" = some (.ref (He.ga K "Endless"))
  g_NoClock : mg "NoClock" = some (.ref (He.ga K "NoClock"))
  g_TooMany : mg "TooMany" = some (.ref (He.ga K "TooMany"))
  g_BadText : mg "BadText" = some (.ref (He.ga K "BadText"))
  g_BadLine : mg "BadLine" = some (.ref (He.ga K "BadLine"))
  g_NothingDone : mg "NothingDone" = some (.ref (He.ga K "NothingDone"))
  g_NoGarden : mg "NoGarden" = some (.ref (He.ga K "NoGarden"))
  g_NoGate : mg "NoGate" = some (.ref (He.ga K "NoGate"))
  g_NoRing : mg "NoRing" = some (.ref (He.ga K "NoRing"))
  g_NoNumber : mg "NoNumber" = some (.ref (He.ga K "NoNumber"))
  i_Twice : IniF P K mg "Twice" (inClass (top 1) 0) "ValueError" "ValueError.__new__" bmV ["name"]
  i_Loop : IniF P K mg "Loop" (inClass (top 2) 0) "ValueError" "ValueError.__new__" bmV ["name"]
  i_SameGate : IniF P K mg "SameGate" (inClass (top 3) 0) "ValueError" "ValueError.__new__" bmV ["one", "other"]
  i_Waits : IniF P K mg "Waits" (inClass (top 4) 0) "ValueError" "ValueError.__new__" bmV ["name", "other"]
  i_Away : IniF P K mg "Away" (inClass (top 5) 0) "ValueError" "ValueError.__new__" bmV ["name"]
  i_Here : IniF P K mg "Here" (inClass (top 6) 0) "ValueError" "ValueError.__new__" bmV ["name"]
  i_Endless : IniF P K mg "Endless" (inClass (top 9) 0) "ValueError" "ValueError.__new__" bmV ["name"]
  i_TooMany : IniF P K mg "TooMany" (inClass (top 11) 0) "ValueError" "ValueError.__new__" bmV ["most"]
  i_BadLine : IniF P K mg "BadLine" (inClass (top 13) 0) "ValueError" "ValueError.__new__" bmV ["number"]
  i_NoGarden : IniF P K mg "NoGarden" (inClass (top 15) 0) "LookupError" "LookupError.__new__" bmL ["name"]
  i_NoGate : IniF P K mg "NoGate" (inClass (top 16) 0) "LookupError" "LookupError.__new__" bmL ["one", "other"]
  i_NoRing : IniF P K mg "NoRing" (inClass (top 17) 0) "LookupError" "LookupError.__new__" bmL ["ring"]
  i_NoNumber : IniF P K mg "NoNumber" (inClass (top 18) 0) "LookupError" "LookupError.__new__" bmL ["number"]
  xis : XIs K mg xtT.get
  xfl : XFld K mg xfT.has
  xma : XMa K mg xmT.get
abbrev s_Twice : Stmt := inClass (top 1) 0
theorem it_Twice : IniT s_Twice ["name"] ["name"] "self" := ⟨⟨rfl, rfl, rfl, by decide +kernel, rfl, by decide +kernel, by decide +kernel, by decide +kernel⟩, rfl, rfl, rfl, ⟨_, rfl, rfl⟩⟩
theorem mk_Twice {P : Program} {w : World} {K : PySem.W.Frag} {mg : Str → Option Value} {base : Heap} (T : Txt P K mg) : XMk P w K mg base "Twice" s_Twice 1 ["self", "name"] LW.i_Twice := xmk1 xb_V T.i_Twice it_Twice rfl rfl rfl (fun _ _ _ _ _ _ _ _ _ => ⟨⟨_, rfl⟩, rfl, rfl, rfl⟩) (fun _ _ _ _ _ _ _ _ _ => uCons (uV 1) (zNil)) (fun _ _ _ _ _ _ _ _ _ => uV 1) (fun _ _ _ _ _ _ _ _ _ => rfl) (fun _ _ _ _ _ _ _ _ _ => rfl)
abbrev s_Loop : Stmt := inClass (top 2) 0
theorem it_Loop : IniT s_Loop ["name"] ["name"] "self" := ⟨⟨rfl, rfl, rfl, by decide +kernel, rfl, by decide +kernel, by decide +kernel, by decide +kernel⟩, rfl, rfl, rfl, ⟨_, rfl, rfl⟩⟩
theorem mk_Loop {P : Program} {w : World} {K : PySem.W.Frag} {mg : Str → Option Value} {base : Heap} (T : Txt P K mg) : XMk P w K mg base "Loop" s_Loop 1 ["self", "name"] LW.i_Loop := xmk1 xb_V T.i_Loop it_Loop rfl rfl rfl (fun _ _ _ _ _ _ _ _ _ => ⟨⟨_, rfl⟩, rfl, rfl, rfl⟩) (fun _ _ _ _ _ _ _ _ _ => uCons (uV 1) (zNil)) (fun _ _ _ _ _ _ _ _ _ => uV 1) (fun _ _ _ _ _ _ _ _ _ => rfl) (fun _ _ _ _ _ _ _ _ _ => rfl)
abbrev s_SameGate : Stmt := inClass (top 3) 0
theorem it_SameGate : IniT s_SameGate ["one", "other"] ["one", "other"] "self" := ⟨⟨rfl, rfl, rfl, by decide +kernel, rfl, by decide +kernel, by decide +kernel, by decide +kernel⟩, rfl, rfl, rfl, ⟨_, rfl, rfl⟩⟩
theorem mk_SameGate {P : Program} {w : World} {K : PySem.W.Frag} {mg : Str → Option Value} {base : Heap} (T : Txt P K mg) : XMk P w K mg base "SameGate" s_SameGate 1 ["self", "one", "other"] LW.i_SameGate := xmk2 xb_V T.i_SameGate it_SameGate rfl rfl rfl (fun _ _ _ _ _ _ _ _ _ => ⟨⟨_, rfl⟩, rfl, rfl, rfl⟩) (fun _ _ _ _ _ _ _ _ _ => uCons (uV 1) (uCons (uV 2) (zNil))) (fun _ _ _ _ _ _ _ _ _ => uCons (uV 1) (uCons (uV 2) (zNil))) (fun _ _ _ _ _ _ _ _ _ => rfl) (fun _ _ _ _ _ _ _ _ _ => rfl)
abbrev s_Waits : Stmt := inClass (top 4) 0
theorem it_Waits : IniT s_Waits ["name", "other"] ["name", "other"] "self" := ⟨⟨rfl, rfl, rfl, by decide +kernel, rfl, by decide +kernel, by decide +kernel, by decide +kernel⟩, rfl, rfl, rfl, ⟨_, rfl, rfl⟩⟩
theorem mk_Waits {P : Program} {w : World} {K : PySem.W.Frag} {mg : Str → Option Value} {base : Heap} (T : Txt P K mg) : XMk P w K mg base "Waits" s_Waits 1 ["self", "name", "other"] LW.i_Waits := xmk2 xb_V T.i_Waits it_Waits rfl rfl rfl (fun _ _ _ _ _ _ _ _ _ => ⟨⟨_, rfl⟩, rfl, rfl, rfl⟩) (fun _ _ _ _ _ _ _ _ _ => uCons (uV 1) (uCons (uV 2) (zNil))) (fun _ _ _ _ _ _ _ _ _ => uCons (uV 1) (uCons (uV 2) (zNil))) (fun _ _ _ _ _ _ _ _ _ => rfl) (fun _ _ _ _ _ _ _ _ _ => rfl)
abbrev s_Away : Stmt := inClass (top 5) 0
theorem it_Away : IniT s_Away ["name"] ["name"] "self" := ⟨⟨rfl, rfl, rfl, by decide +kernel, rfl, by decide +kernel, by decide +kernel, by decide +kernel⟩, rfl, rfl, rfl, ⟨_, rfl, rfl⟩⟩
theorem mk_Away {P : Program} {w : World} {K : PySem.W.Frag} {mg : Str → Option Value} {base : Heap} (T : Txt P K mg) : XMk P w K mg base "Away" s_Away 1 ["self", "name"] LW.i_Away := xmk1 xb_V T.i_Away it_Away rfl rfl rfl (fun _ _ _ _ _ _ _ _ _ => ⟨⟨_, rfl⟩, rfl, rfl, rfl⟩) (fun _ _ _ _ _ _ _ _ _ => uCons (uV 1) (zNil)) (fun _ _ _ _ _ _ _ _ _ => uV 1) (fun _ _ _ _ _ _ _ _ _ => rfl) (fun _ _ _ _ _ _ _ _ _ => rfl)
abbrev s_Here : Stmt := inClass (top 6) 0
theorem it_Here : IniT s_Here ["name"] ["name"] "self" := ⟨⟨rfl, rfl, rfl, by decide +kernel, rfl, by decide +kernel, by decide +kernel, by decide +kernel⟩, rfl, rfl, rfl, ⟨_, rfl, rfl⟩⟩
theorem mk_Here {P : Program} {w : World} {K : PySem.W.Frag} {mg : Str → Option Value} {base : Heap} (T : Txt P K mg) : XMk P w K mg base "Here" s_Here 1 ["self", "name"] LW.i_Here := xmk1 xb_V T.i_Here it_Here rfl rfl rfl (fun _ _ _ _ _ _ _ _ _ => ⟨⟨_, rfl⟩, rfl, rfl, rfl⟩) (fun _ _ _ _ _ _ _ _ _ => uCons (uV 1) (zNil)) (fun _ _ _ _ _ _ _ _ _ => uV 1) (fun _ _ _ _ _ _ _ _ _ => rfl) (fun _ _ _ _ _ _ _ _ _ => rfl)
abbrev s_Endless : Stmt := inClass (top 9) 0
theorem it_Endless : IniT s_Endless ["name"] ["name"] "self" := ⟨⟨rfl, rfl, rfl, by decide +kernel, rfl, by decide +kernel, by decide +kernel, by decide +kernel⟩, rfl, rfl, rfl, ⟨_, rfl, rfl⟩⟩
theorem mk_Endless {P : Program} {w : World} {K : PySem.W.Frag} {mg : Str → Option Value} {base : Heap} (T : Txt P K mg) : XMk P w K mg base "Endless" s_Endless 1 ["self", "name"] LW.i_Endless := xmk1 xb_V T.i_Endless it_Endless rfl rfl rfl (fun _ _ _ _ _ _ _ _ _ => ⟨⟨_, rfl⟩, rfl, rfl, rfl⟩) (fun _ _ _ _ _ _ _ _ _ => uCons (uV 1) (zNil)) (fun _ _ _ _ _ _ _ _ _ => uV 1) (fun _ _ _ _ _ _ _ _ _ => rfl) (fun _ _ _ _ _ _ _ _ _ => rfl)
abbrev s_TooMany : Stmt := inClass (top 11) 0
theorem it_TooMany : IniT s_TooMany ["most"] ["most"] "self" := ⟨⟨rfl, rfl, rfl, by decide +kernel, rfl, by decide +kernel, by decide +kernel, by decide +kernel⟩, rfl, rfl, rfl, ⟨_, rfl, rfl⟩⟩
theorem mk_TooMany {P : Program} {w : World} {K : PySem.W.Frag} {mg : Str → Option Value} {base : Heap} (T : Txt P K mg) : XMk P w K mg base "TooMany" s_TooMany 1 ["self", "most"] LW.i_TooMany := xmk1 xb_V T.i_TooMany it_TooMany rfl rfl rfl (fun _ _ _ _ _ _ _ _ _ => ⟨⟨_, rfl⟩, rfl, rfl, rfl⟩) (fun _ _ _ _ _ _ _ _ _ => uCons (uV 1) (zNil)) (fun _ _ _ _ _ _ _ _ _ => uV 1) (fun _ _ _ _ _ _ _ _ _ => rfl) (fun _ _ _ _ _ _ _ _ _ => rfl)
abbrev s_BadLine : Stmt := inClass (top 13) 0
theorem it_BadLine : IniT s_BadLine ["number"] ["number"] "self" := ⟨⟨rfl, rfl, rfl, by decide +kernel, rfl, by decide +kernel, by decide +kernel, by decide +kernel⟩, rfl, rfl, rfl, ⟨_, rfl, rfl⟩⟩
theorem mk_BadLine {P : Program} {w : World} {K : PySem.W.Frag} {mg : Str → Option Value} {base : Heap} (T : Txt P K mg) : XMk P w K mg base "BadLine" s_BadLine 1 ["self", "number"] LW.i_BadLine := xmk1 xb_V T.i_BadLine it_BadLine rfl rfl rfl (fun _ _ _ _ _ _ _ _ _ => ⟨⟨_, rfl⟩, rfl, rfl, rfl⟩) (fun _ _ _ _ _ _ _ _ _ => uCons (uV 1) (zNil)) (fun _ _ _ _ _ _ _ _ _ => uV 1) (fun _ _ _ _ _ _ _ _ _ => rfl) (fun _ _ _ _ _ _ _ _ _ => rfl)
abbrev s_NoGarden : Stmt := inClass (top 15) 0
theorem it_NoGarden : IniT s_NoGarden ["name"] ["name"] "self" := ⟨⟨rfl, rfl, rfl, by decide +kernel, rfl, by decide +kernel, by decide +kernel, by decide +kernel⟩, rfl, rfl, rfl, ⟨_, rfl, rfl⟩⟩
theorem mk_NoGarden {P : Program} {w : World} {K : PySem.W.Frag} {mg : Str → Option Value} {base : Heap} (T : Txt P K mg) : XMk P w K mg base "NoGarden" s_NoGarden 1 ["self", "name"] LW.i_NoGarden := xmk1 xb_L T.i_NoGarden it_NoGarden rfl rfl rfl (fun _ _ _ _ _ _ _ _ _ => ⟨⟨_, rfl⟩, rfl, rfl, rfl⟩) (fun _ _ _ _ _ _ _ _ _ => uCons (uV 1) (zNil)) (fun _ _ _ _ _ _ _ _ _ => uV 1) (fun _ _ _ _ _ _ _ _ _ => rfl) (fun _ _ _ _ _ _ _ _ _ => rfl)
abbrev s_NoGate : Stmt := inClass (top 16) 0
theorem it_NoGate : IniT s_NoGate ["one", "other"] ["one", "other"] "self" := ⟨⟨rfl, rfl, rfl, by decide +kernel, rfl, by decide +kernel, by decide +kernel, by decide +kernel⟩, rfl, rfl, rfl, ⟨_, rfl, rfl⟩⟩
theorem mk_NoGate {P : Program} {w : World} {K : PySem.W.Frag} {mg : Str → Option Value} {base : Heap} (T : Txt P K mg) : XMk P w K mg base "NoGate" s_NoGate 1 ["self", "one", "other"] LW.i_NoGate := xmk2 xb_L T.i_NoGate it_NoGate rfl rfl rfl (fun _ _ _ _ _ _ _ _ _ => ⟨⟨_, rfl⟩, rfl, rfl, rfl⟩) (fun _ _ _ _ _ _ _ _ _ => uCons (uV 1) (uCons (uV 2) (zNil))) (fun _ _ _ _ _ _ _ _ _ => uCons (uV 1) (uCons (uV 2) (zNil))) (fun _ _ _ _ _ _ _ _ _ => rfl) (fun _ _ _ _ _ _ _ _ _ => rfl)
abbrev s_NoRing : Stmt := inClass (top 17) 0
theorem it_NoRing : IniT s_NoRing ["ring"] ["ring"] "self" := ⟨⟨rfl, rfl, rfl, by decide +kernel, rfl, by decide +kernel, by decide +kernel, by decide +kernel⟩, rfl, rfl, rfl, ⟨_, rfl, rfl⟩⟩
theorem mk_NoRing {P : Program} {w : World} {K : PySem.W.Frag} {mg : Str → Option Value} {base : Heap} (T : Txt P K mg) : XMk P w K mg base "NoRing" s_NoRing 1 ["self", "ring"] LW.i_NoRing := xmk1 xb_L T.i_NoRing it_NoRing rfl rfl rfl (fun _ _ _ _ _ _ _ _ _ => ⟨⟨_, rfl⟩, rfl, rfl, rfl⟩) (fun _ _ _ _ _ _ _ _ _ => uCons (uV 1) (zNil)) (fun _ _ _ _ _ _ _ _ _ => uTuple T.z_tuple (uCons (uV 1) zNil)) (fun _ _ _ _ _ _ _ _ _ => rfl) (fun _ _ _ _ _ _ _ _ _ => rfl)
abbrev s_NoNumber : Stmt := inClass (top 18) 0
theorem it_NoNumber : IniT s_NoNumber ["number"] ["number"] "self" := ⟨⟨rfl, rfl, rfl, by decide +kernel, rfl, by decide +kernel, by decide +kernel, by decide +kernel⟩, rfl, rfl, rfl, ⟨_, rfl, rfl⟩⟩
theorem mk_NoNumber {P : Program} {w : World} {K : PySem.W.Frag} {mg : Str → Option Value} {base : Heap} (T : Txt P K mg) : XMk P w K mg base "NoNumber" s_NoNumber 1 ["self", "number"] LW.i_NoNumber := xmk1 xb_L T.i_NoNumber it_NoNumber rfl rfl rfl (fun _ _ _ _ _ _ _ _ _ => ⟨⟨_, rfl⟩, rfl, rfl, rfl⟩) (fun _ _ _ _ _ _ _ _ _ => uCons (uV 1) (zNil)) (fun _ _ _ _ _ _ _ _ _ => uV 1) (fun _ _ _ _ _ _ _ _ _ => rfl) (fun _ _ _ _ _ _ _ _ _ => rfl)
abbrev s_law_box : Stmt := top 20
theorem sc_law_box : FnScope ["_law_script", "_law_k", "_law_cell"] ["_law_script", "_law_k"] (defScope s_law_box) := ⟨rfl, rfl, rfl, by decide +kernel, rfl, by decide +kernel, by decide +kernel⟩
theorem bd_law_box {P : Program} {w : World} {K : PySem.W.Frag} {mg : Str → Option Value} {base : Heap} (T : Txt P K mg) {f : Addr} {cdv : Value} {A : Around} {outer : List PySem.Env} {s : Shared} {H : Hp} {E : XK} (hr : Room 0 (A.deeper (PyProof.Rows.envOfC "_law_box" (defScope s_law_box) s.heap.objs.size f cdv))) (tk : Takes (cxOf (L2.CX P w) P w K mg base ["_law_script", "_law_k", "_law_cell"] "_law_box" (defScope s_law_box) f cdv A outer s H E) (WE E)) : PSs (cxOf (L2.CX P w) P w K mg base ["_law_script", "_law_k", "_law_cell"] "_law_box" (defScope s_law_box) f cdv A outer s H E) (defBody s_law_box) (tS K mg (WE E) m_law_box) := by
  have nd := sc_law_box.nd
  exact yCons (uSet 2 nd (xIf (tLt_ (uV 1) (uLen T.z_len (uCons (uV 0) (zNil)))) (uIx (uV 0) (uV 1)) (xInt)))
      (yOne (yRet (xLstC (uCons (uMul (uAbs T.z_abs (uCons (uV 2) (zNil))) (uInt T.z_int (uCons (uGe (uAbs T.z_abs (uCons (uV 2) (zNil))) (uPow (xInt) (xInt))) (zNil)))) (uCons (uAdd (uAdd (uMod (uInt T.z_int (uCons (uV 2) (zNil))) (xInt)) (uMul (xInt) (uV 1))) (xInt)) (uCons (xInt) (zNil)))))))
theorem ok_law_box {P : Program} {w : World} {K : PySem.W.Frag} {mg : Str → Option Value} {base : Heap} (T : Txt P K mg) (dd : Dfd K mg "_law_box" s_law_box) : Cal P w K mg base "_law_box" s_law_box 1 ["_law_script", "_law_k"] f_law_box := by
  obtain ⟨f, fd, F, g⟩ := dd.ex
  have h := fn_okR (P := P) (w := w) (K := K) (mg := mg) (base := base) (x := "_law_box") (qual := "_law_box") (params := defArgs s_law_box) (body := defBody s_law_box) (scope := defScope s_law_box) (dvs := []) (kws := []) (f := f) (fd := fd) (N := ["_law_script", "_law_k", "_law_cell"]) (ps := ["_law_script", "_law_k"]) (n := 2) (k := 0) (m := m_law_box) F sc_law_box rfl (fun cdv A outer s H E hr tk => bd_law_box T  hr tk)
  exact ⟨f, fd, F, h, g, F.bindsN fun _ _ _ _ _ _ us hl => match us, hl with | [_, _], _ => rfl⟩
abbrev s_law_take : Stmt := top 21
theorem sc_law_take : FnScope ["_law_box_here", "_law_below_so", "_law_drawn_so", "_law_once", "_law_far_so", "_law_twice_so"] ["_law_box_here", "_law_below_so"] (defScope s_law_take) := ⟨rfl, rfl, rfl, by decide +kernel, rfl, by decide +kernel, by decide +kernel⟩
theorem bd_law_take {P : Program} {w : World} {K : PySem.W.Frag} {mg : Str → Option Value} {base : Heap} (T : Txt P K mg) {f : Addr} {cdv : Value} {A : Around} {outer : List PySem.Env} {s : Shared} {H : Hp} {E : XK} (hr : Room 0 (A.deeper (PyProof.Rows.envOfC "_law_take" (defScope s_law_take) s.heap.objs.size f cdv))) (tk : Takes (cxOf (L2.CX P w) P w K mg base ["_law_box_here", "_law_below_so", "_law_drawn_so", "_law_once", "_law_far_so", "_law_twice_so"] "_law_take" (defScope s_law_take) f cdv A outer s H E) (WE E)) : PSs (cxOf (L2.CX P w) P w K mg base ["_law_box_here", "_law_below_so", "_law_drawn_so", "_law_once", "_law_far_so", "_law_twice_so"] "_law_take" (defScope s_law_take) f cdv A outer s H E) (defBody s_law_take) (tS K mg (WE E) LW.m_law_take) := by
  have nd := sc_law_take.nd
  exact yCons (yIf (tGt_ (uIx (uV 0) (xInt)) (xInt)) (yCons (uSet 2 nd (uMod (uInt T.z_int (uCons (uIx (uV 0) (xInt)) (zNil))) (uV 1)))
      (yCons (uPut (uDiv (uIx (uV 0) (xInt)) (uV 1)) (uV 0) (xInt))
      (yOne (yRet (uV 2))))) (yNil))
      (yCons (uPut (uAdd (uIx (uV 0) (xInt)) (xInt)) (uV 0) (xInt))
      (yCons (uSet 3 nd (uMod (uInt T.z_int (uCons (uMul (uAdd (uIx (uV 0) (xInt)) (uMul (xInt) (uIx (uV 0) (xInt)))) (uAdd (xInt) (uIx (uV 0) (xInt)))) (zNil))) (xInt)))
      (yCons (uSet 4 nd (uAdd (uMod (uInt T.z_int (uCons (uV 3) (zNil))) (xInt)) (xInt)))
      (yCons (uSet 5 nd (uMod (uInt T.z_int (uCons (uMul (uAdd (uAdd (uV 3) (uIx (uV 0) (xInt))) (uDiv (uIx (uV 0) (xInt)) (xInt))) (uV 4)) (zNil))) (xInt)))
      (yOne (yRet (uMod (uInt T.z_int (uCons (uDiv (uMod (uInt T.z_int (uCons (uAdd (uMul (uV 5) (xInt)) (uV 3)) (zNil))) (xInt)) (xInt)) (zNil))) (uV 1))))))))
theorem ok_law_take {P : Program} {w : World} {K : PySem.W.Frag} {mg : Str → Option Value} {base : Heap} (T : Txt P K mg) (dd : Dfd K mg "_law_take" s_law_take) : Cal P w K mg base "_law_take" s_law_take 1 ["_law_box_here", "_law_below_so"] LW.f_law_take := by
  obtain ⟨f, fd, F, g⟩ := dd.ex
  have h := fn_ok (P := P) (w := w) (K := K) (mg := mg) (base := base) (x := "_law_take") (qual := "_law_take") (params := defArgs s_law_take) (body := defBody s_law_take) (scope := defScope s_law_take) (dvs := []) (kws := []) (f := f) (fd := fd) (N := ["_law_box_here", "_law_below_so", "_law_drawn_so", "_law_once", "_law_far_so", "_law_twice_so"]) (ps := ["_law_box_here", "_law_below_so"]) (n := 2) (k := 0) (m := LW.m_law_take) F sc_law_take rfl (fun cdv A outer s H E hr tk => bd_law_take T  hr tk)
  exact ⟨f, fd, F, h, g, F.bindsN fun _ _ _ _ _ _ us hl => match us, hl with | [_, _], _ => rfl⟩
abbrev s_law_cells : Stmt := top 22
theorem sc_law_cells : FnScope ["_law_script", "_law_most_so", "_law_cells_here", "_law_k", "_law_cell", "_law_at_so"] ["_law_script", "_law_most_so"] (defScope s_law_cells) := ⟨rfl, rfl, rfl, by decide +kernel, rfl, by decide +kernel, by decide +kernel⟩
theorem bd_law_cells {P : Program} {w : World} {K : PySem.W.Frag} {mg : Str → Option Value} {base : Heap} (T : Txt P K mg) {f : Addr} {cdv : Value} {A : Around} {outer : List PySem.Env} {s : Shared} {H : Hp} {E : XK} (hr : Room 0 (A.deeper (PyProof.Rows.envOfC "_law_cells" (defScope s_law_cells) s.heap.objs.size f cdv))) (tk : Takes (cxOf (L2.CX P w) P w K mg base ["_law_script", "_law_most_so", "_law_cells_here", "_law_k", "_law_cell", "_law_at_so"] "_law_cells" (defScope s_law_cells) f cdv A outer s H E) (WE E)) : PSs (cxOf (L2.CX P w) P w K mg base ["_law_script", "_law_most_so", "_law_cells_here", "_law_k", "_law_cell", "_law_at_so"] "_law_cells" (defScope s_law_cells) f cdv A outer s H E) (defBody s_law_cells) (tS K mg (WE E) LW.m_law_cells) := by
  have nd := sc_law_cells.nd
  have pso : PassesOwn (model P w) (A.deeper (PyProof.Rows.envOfC "_law_cells" (defScope s_law_cells) s.heap.objs.size f cdv)) (PyProof.Rows.envOfC "_law_cells" (defScope s_law_cells) s.heap.objs.size f cdv) (cxOf (L2.CX P w) P w K mg base ["_law_script", "_law_most_so", "_law_cells_here", "_law_k", "_law_cell", "_law_at_so"] "_law_cells" (defScope s_law_cells) f cdv A outer s H E).xe := passes_of (X := cxOf (L2.CX P w) P w K mg base ["_law_script", "_law_most_so", "_law_cells_here", "_law_k", "_law_cell", "_law_at_so"] "_law_cells" (defScope s_law_cells) f cdv A outer s H E) rfl
  exact yCons (uSet 2 nd (xOrL (uListC T.z_list (uCons (xSl (uV 0) (oNo) (oYes (uV 1))) (zNil))) (xOne (xLstC (uCons (xInt) (zNil))))))
      (yCons (uFor (.tp [3, 4]) pso (uEnum T.z_enumerate (uCons (xSl (uV 0) (oYes (uV 1)) (oYes (xInt))) (zNil))) (pg_tp rfl (pgs_cons (pg_name (i := 3) nd rfl (by first | exact Or.inl rfl | exact Or.inr rfl)) (pgs_cons (pg_name (i := 4) nd rfl (by first | exact Or.inl rfl | exact Or.inr rfl)) pgs_nil))) (yCons (uSet 5 nd (uMod (uInt T.z_int (uCons (uV 3) (zNil))) (uV 1)))
      (yOne (uPut (uAdd (uIx (uV 2) (uV 5)) (uMul (uV 4) (uAdd (uV 3) (xInt)))) (uV 2) (uV 5)))))
      (yOne (yRet (uV 2))))
theorem ok_law_cells {P : Program} {w : World} {K : PySem.W.Frag} {mg : Str → Option Value} {base : Heap} (T : Txt P K mg) (dd : Dfd K mg "_law_cells" s_law_cells) : Cal P w K mg base "_law_cells" s_law_cells 1 ["_law_script", "_law_most_so"] LW.f_law_cells := by
  obtain ⟨f, fd, F, g⟩ := dd.ex
  have h := fn_okC (P := P) (w := w) (K := K) (mg := mg) (base := base) (x := "_law_cells") (qual := "_law_cells") (params := defArgs s_law_cells) (body := defBody s_law_cells) (scope := defScope s_law_cells) (dvs := []) (kws := []) (f := f) (fd := fd) (N := ["_law_script", "_law_most_so", "_law_cells_here", "_law_k", "_law_cell", "_law_at_so"]) (ps := ["_law_script", "_law_most_so"]) (n := 2) (k := 0) (m := LW.m_law_cells) F sc_law_cells rfl (fun cdv A outer s H E hr tk => bd_law_cells T  hr tk)
  exact ⟨f, fd, F, h, g, F.bindsN fun _ _ _ _ _ _ us hl => match us, hl with | [_, _], _ => rfl⟩
abbrev s_law_of : Stmt := top 23
theorem sc_law_of : FnScope ["_law_box_here", "_law_pool_so"] ["_law_box_here", "_law_pool_so"] (defScope s_law_of) := ⟨rfl, rfl, rfl, by decide +kernel, rfl, by decide +kernel, by decide +kernel⟩
theorem bd_law_of {P : Program} {w : World} {K : PySem.W.Frag} {mg : Str → Option Value} {base : Heap} (T : Txt P K mg) (c_law_take : Cal P w K mg base "_law_take" s_law_take 1 ["_law_box_here", "_law_below_so"] (LW.f_law_take)) {f : Addr} {cdv : Value} {A : Around} {outer : List PySem.Env} {s : Shared} {H : Hp} {E : XK} (hr : Room 1 (A.deeper (PyProof.Rows.envOfC "_law_of" (defScope s_law_of) s.heap.objs.size f cdv))) (tk : Takes (cxOf (L2.CX P w) P w K mg base ["_law_box_here", "_law_pool_so"] "_law_of" (defScope s_law_of) f cdv A outer s H E) (WE E)) : PSs (cxOf (L2.CX P w) P w K mg base ["_law_box_here", "_law_pool_so"] "_law_of" (defScope s_law_of) f cdv A outer s H E) (defBody s_law_of) (tS K mg (WE E) LW.m_law_of) := by
  have nd := sc_law_of.nd
  exact yOne (yRet (uIx (uV 1) (uCall c_law_take hr (Psg.of tk) (uCons (uV 0) (uCons (uLen T.z_len (uCons (uV 1) (zNil))) (zNil))))))
theorem ok_law_of {P : Program} {w : World} {K : PySem.W.Frag} {mg : Str → Option Value} {base : Heap} (T : Txt P K mg) (dd : Dfd K mg "_law_of" s_law_of) (c_law_take : Cal P w K mg base "_law_take" s_law_take 1 ["_law_box_here", "_law_below_so"] (LW.f_law_take)) : Cal P w K mg base "_law_of" s_law_of 2 ["_law_box_here", "_law_pool_so"] LW.f_law_of := by
  obtain ⟨f, fd, F, g⟩ := dd.ex
  have h := fn_ok (P := P) (w := w) (K := K) (mg := mg) (base := base) (x := "_law_of") (qual := "_law_of") (params := defArgs s_law_of) (body := defBody s_law_of) (scope := defScope s_law_of) (dvs := []) (kws := []) (f := f) (fd := fd) (N := ["_law_box_here", "_law_pool_so"]) (ps := ["_law_box_here", "_law_pool_so"]) (n := 2) (k := 1) (m := LW.m_law_of) F sc_law_of rfl (fun cdv A outer s H E hr tk => bd_law_of T c_law_take hr tk)
  exact ⟨f, fd, F, h, g, F.bindsN fun _ _ _ _ _ _ us hl => match us, hl with | [_, _], _ => rfl⟩
abbrev s_law_same : Stmt := top 24
theorem sc_law_same : FnScope ["_law_got", "_law_due_so", "_law_its", "_law_mine"] ["_law_got", "_law_due_so"] (defScope s_law_same) := ⟨rfl, rfl, rfl, by decide +kernel, rfl, by decide +kernel, by decide +kernel⟩
theorem bd_law_same {P : Program} {w : World} {K : PySem.W.Frag} {mg : Str → Option Value} {base : Heap} (T : Txt P K mg) {k : Nat} {φ : Fn} (ih : Cal P w K mg base "_law_same" s_law_same (k + 1) ["_law_got", "_law_due_so"] φ) {f : Addr} {cdv : Value} {A : Around} {outer : List PySem.Env} {s : Shared} {H : Hp} {E : XK} (hr : Room (k + 1) (A.deeper (PyProof.Rows.envOfC "_law_same" (defScope s_law_same) s.heap.objs.size f cdv))) (tk : Takes (cxOf (L2.CX P w) P w K mg base ["_law_got", "_law_due_so", "_law_its", "_law_mine"] "_law_same" (defScope s_law_same) f cdv A outer s H E) (WE E)) : PSs (cxOf (L2.CX P w) P w K mg base ["_law_got", "_law_due_so", "_law_its", "_law_mine"] "_law_same" (defScope s_law_same) f cdv A outer s H E) (defBody s_law_same) (tS K mg (WE E) (LW.m_law_same φ)) := by
  have nd := sc_law_same.nd
  exact yCons (yIf (tVal (uIsi2 T.z_isinstance T.z_list T.z_tuple (uV 1))) (yCons (yIf (wPt (wOr (tNe_ hr (uIsi xtab0 T.z_isinstance T.z_list (uV 0)) (uIsi xtab0 T.z_isinstance T.z_list (uV 1))) (wOr1 (tNe_ hr (uIsi xtab0 T.z_isinstance T.z_tuple (uV 0)) (uIsi xtab0 T.z_isinstance T.z_tuple (uV 1)))))) (yOne (yRet (xBl))) (yNil))
      (yOne (yRet (xAnd (uEq hr (uLen T.z_len (uCons (uV 0) (zNil))) (uLen T.z_len (uCons (uV 1) (zNil)))) (xOne (uAll T.z_all (uCons (uLc [("_law_mine", 3), ("_law_its", 2)] (.tp [3, 2]) nd tk (uZip T.z_zip (uCons (uV 0) (uCons (uV 1) (zNil)))) (by rfl) (fun _ _ _ _ _ _ => (pg_tp rfl (pgs_cons (pg_name (i := 3) nd rfl (by first | exact Or.inl rfl | exact Or.inr rfl)) (pgs_cons (pg_name (i := 2) nd rfl (by first | exact Or.inl rfl | exact Or.inr rfl)) pgs_nil)))) (fun _ _ _ _ _ _ _ q => kNil) (fun _ _ _ _ _ _ _ q => uCall ih hr q (uCons (uV 3) (uCons (uV 2) (zNil))) (hk := by omega))) (zNil)))))))) (yNil))
      (yCons (yIf (wPt (wOr (tIsN_ (uV 1) (xNon)) (wOr1 (tVal (uIsi2 T.z_isinstance T.z_bool T.z_str (uV 1)))))) (yOne (yRet (xAnd (uEq hr (uV 0) (uV 1)) (xAnd (uEq hr (uIsi xtab0 T.z_isinstance T.z_bool (uV 0)) (uIsi xtab0 T.z_isinstance T.z_bool (uV 1))) (xOne (uEq hr (uIsN (uV 0) (xNon)) (uIsN (uV 1) (xNon)))))))) (yNil))
      (yOne (yRet (xAnd (uIsi xtab0 T.z_isinstance T.z_int (uV 0)) (xAnd (xNot (uIsi xtab0 T.z_isinstance T.z_bool (uV 0))) (xOne (uEq hr (uV 0) (uV 1))))))))
theorem ok_law_same {P : Program} {w : World} {K : PySem.W.Frag} {mg : Str → Option Value} {base : Heap} (T : Txt P K mg) (dd : Dfd K mg "_law_same" s_law_same) : ∀ k : Nat, Cal P w K mg base "_law_same" s_law_same (k + 1) ["_law_got", "_law_due_so"] (LW.f_law_same k)
  | 0 => by
    obtain ⟨f, fd, F, g⟩ := dd.ex
    exact ⟨f, fd, F, fn_bad, g, F.bindsN fun _ _ _ _ _ _ us hl => match us, hl with | [_, _], _ => rfl⟩
  | k + 1 => by
    have ih := ok_law_same (P := P) (w := w) (base := base) T dd  k
    obtain ⟨f, fd, F, g⟩ := dd.ex
    have h := fn_ok (P := P) (w := w) (K := K) (mg := mg) (base := base) (x := "_law_same") (qual := "_law_same") (params := defArgs s_law_same) (body := defBody s_law_same) (scope := defScope s_law_same) (dvs := []) (kws := []) (f := f) (fd := fd) (N := ["_law_got", "_law_due_so", "_law_its", "_law_mine"]) (ps := ["_law_got", "_law_due_so"]) (n := 2) (k := k + 1) (m := LW.m_law_same (LW.f_law_same k)) F sc_law_same rfl (fun cdv A outer s H E hr tk => bd_law_same T  ih hr tk)
    exact ⟨f, fd, F, h, g, F.bindsN fun _ _ _ _ _ _ us hl => match us, hl with | [_, _], _ => rfl⟩
abbrev s_law_mixed : Stmt := top 25
theorem sc_law_mixed : FnScope ["_law_box_here", "_law_rows_so", "_law_rest_so", "_law_found", "_law_turn", "_law_at_so"] ["_law_box_here", "_law_rows_so"] (defScope s_law_mixed) := ⟨rfl, rfl, rfl, by decide +kernel, rfl, by decide +kernel, by decide +kernel⟩
theorem bd_law_mixed {P : Program} {w : World} {K : PySem.W.Frag} {mg : Str → Option Value} {base : Heap} (T : Txt P K mg) (c_law_take : Cal P w K mg base "_law_take" s_law_take 1 ["_law_box_here", "_law_below_so"] (LW.f_law_take)) {f : Addr} {cdv : Value} {A : Around} {outer : List PySem.Env} {s : Shared} {H : Hp} {E : XK} (hr : Room 1 (A.deeper (PyProof.Rows.envOfC "_law_mixed" (defScope s_law_mixed) s.heap.objs.size f cdv))) (tk : Takes (cxOf (L2.CX P w) P w K mg base ["_law_box_here", "_law_rows_so", "_law_rest_so", "_law_found", "_law_turn", "_law_at_so"] "_law_mixed" (defScope s_law_mixed) f cdv A outer s H E) (WE E)) : PSs (cxOf (L2.CX P w) P w K mg base ["_law_box_here", "_law_rows_so", "_law_rest_so", "_law_found", "_law_turn", "_law_at_so"] "_law_mixed" (defScope s_law_mixed) f cdv A outer s H E) (defBody s_law_mixed) (tS K mg (WE E) LW.m_law_mixed) := by
  have nd := sc_law_mixed.nd
  have pso : PassesOwn (model P w) (A.deeper (PyProof.Rows.envOfC "_law_mixed" (defScope s_law_mixed) s.heap.objs.size f cdv)) (PyProof.Rows.envOfC "_law_mixed" (defScope s_law_mixed) s.heap.objs.size f cdv) (cxOf (L2.CX P w) P w K mg base ["_law_box_here", "_law_rows_so", "_law_rest_so", "_law_found", "_law_turn", "_law_at_so"] "_law_mixed" (defScope s_law_mixed) f cdv A outer s H E).xe := passes_of (X := cxOf (L2.CX P w) P w K mg base ["_law_box_here", "_law_rows_so", "_law_rest_so", "_law_found", "_law_turn", "_law_at_so"] "_law_mixed" (defScope s_law_mixed) f cdv A outer s H E) rfl
  exact yCons (uPar 2 3 nd (uCons (uList T.z_list (uCons (uV 1) (zNil))) (uCons (xLstC (zNil)) (zNil))))
      (yCons (uFor (.nm 4) pso (uRng1 T.z_range (uCons (uLen T.z_len (uCons (uV 1) (zNil))) (zNil))) (pg_name (i := 4) nd rfl (by first | exact Or.inl rfl | exact Or.inr rfl)) (yCons (uSet 5 nd (uCall c_law_take hr (Psg.of tk) (uCons (uV 0) (uCons (uLen T.z_len (uCons (uV 2) (zNil))) (zNil)))))
      (yCons (uDo (uMeth PySem.F.plainAttrs_list PySem.F.slot_list_append PySem.F.type_list_append mt_append mAppend_ok (uV 3) (uCons (uIx (uV 2) (uV 5)) (zNil))))
      (yOne (uSet 2 nd (uAdd (xSl (uV 2) (oNo) (oYes (uV 5))) (xSl (uV 2) (oYes (uAdd (uV 5) (xInt))) (oNo))))))))
      (yOne (yRet (uV 3))))
theorem ok_law_mixed {P : Program} {w : World} {K : PySem.W.Frag} {mg : Str → Option Value} {base : Heap} (T : Txt P K mg) (dd : Dfd K mg "_law_mixed" s_law_mixed) (c_law_take : Cal P w K mg base "_law_take" s_law_take 1 ["_law_box_here", "_law_below_so"] (LW.f_law_take)) : Cal P w K mg base "_law_mixed" s_law_mixed 2 ["_law_box_here", "_law_rows_so"] LW.f_law_mixed := by
  obtain ⟨f, fd, F, g⟩ := dd.ex
  have h := fn_okC (P := P) (w := w) (K := K) (mg := mg) (base := base) (x := "_law_mixed") (qual := "_law_mixed") (params := defArgs s_law_mixed) (body := defBody s_law_mixed) (scope := defScope s_law_mixed) (dvs := []) (kws := []) (f := f) (fd := fd) (N := ["_law_box_here", "_law_rows_so", "_law_rest_so", "_law_found", "_law_turn", "_law_at_so"]) (ps := ["_law_box_here", "_law_rows_so"]) (n := 2) (k := 1) (m := LW.m_law_mixed) F sc_law_mixed rfl (fun cdv A outer s H E hr tk => bd_law_mixed T c_law_take hr tk)
  exact ⟨f, fd, F, h, g, F.bindsN fun _ _ _ _ _ _ us hl => match us, hl with | [_, _], _ => rfl⟩
abbrev s_law_tags : Stmt := top 26
theorem sc_law_tags : FnScope ["_law_box_here", "_law_many_so", "_law_letters_so", "_law_sort_so", "_law_front_so", "_law_tail_so", "_law_found", "_law_own", "_law_k"] ["_law_box_here", "_law_many_so"] (defScope s_law_tags) := ⟨rfl, rfl, rfl, by decide +kernel, rfl, by decide +kernel, by decide +kernel⟩
theorem bd_law_tags {P : Program} {w : World} {K : PySem.W.Frag} {mg : Str → Option Value} {base : Heap} (T : Txt P K mg) (c_law_take : Cal P w K mg base "_law_take" s_law_take 1 ["_law_box_here", "_law_below_so"] (LW.f_law_take)) (c_law_mixed : Cal P w K mg base "_law_mixed" s_law_mixed 2 ["_law_box_here", "_law_rows_so"] (LW.f_law_mixed)) {f : Addr} {cdv : Value} {A : Around} {outer : List PySem.Env} {s : Shared} {H : Hp} {E : XK} (hr : Room 2 (A.deeper (PyProof.Rows.envOfC "_law_tags" (defScope s_law_tags) s.heap.objs.size f cdv))) (tk : Takes (cxOf (L2.CX P w) P w K mg base ["_law_box_here", "_law_many_so", "_law_letters_so", "_law_sort_so", "_law_front_so", "_law_tail_so", "_law_found", "_law_own", "_law_k"] "_law_tags" (defScope s_law_tags) f cdv A outer s H E) (WE E)) : PSs (cxOf (L2.CX P w) P w K mg base ["_law_box_here", "_law_many_so", "_law_letters_so", "_law_sort_so", "_law_front_so", "_law_tail_so", "_law_found", "_law_own", "_law_k"] "_law_tags" (defScope s_law_tags) f cdv A outer s H E) (defBody s_law_tags) (tS K mg (WE E) LW.m_law_tags) := by
  have nd := sc_law_tags.nd
  exact yCons (uSet 2 nd (uCall c_law_mixed hr (Psg.of tk) (uCons (uV 0) (uCons (xStr) (zNil)))))
      (yCons (uSet 3 nd (uCall c_law_take hr (Psg.of tk) (uCons (uV 0) (uCons (xInt) (zNil)))))
      (yCons (uAsg (.tp [4, 5]) (xTup (uCons (uIx (xLst (uCons (xStr) (uCons (xStr) (uCons (xStr) (uCons (xStr) (zNil)))))) (uV 3)) (uCons (uIx (xLst (uCons (xStr) (uCons (xStr) (uCons (xStr) (uCons (xStr) (zNil)))))) (uV 3)) (zNil)))) (pg_tp rfl (pgs_cons (pg_name (i := 4) nd rfl (by first | exact Or.inl rfl | exact Or.inr rfl)) (pgs_cons (pg_name (i := 5) nd rfl (by first | exact Or.inl rfl | exact Or.inr rfl)) pgs_nil))))
      (yCons (uSetLc 6 [("_law_own", 7)] (.nm 7) nd tk (jSeq (xSl (uV 2) (oNo) (oYes (uMin2 T.z_min (uCons (uV 1) (uCons (xInt) (zNil))))))) (by rfl) (fun _ _ _ _ _ _ => (pg_name (i := 7) nd rfl (by first | exact Or.inl rfl | exact Or.inr rfl))) (fun _ _ _ _ _ _ _ q => kNil) (fun _ _ _ _ _ _ _ q => uAdd (uAdd (uV 4) (uV 7)) (uV 5)))
      (yOne (yRet (uAdd (uV 6) (uLc [("_law_k", 8)] (.nm 8) nd tk (uRng1 T.z_range (uCons (uSub (uV 1) (uLen T.z_len (uCons (uV 6) (zNil)))) (zNil))) (by rfl) (fun _ _ _ _ _ _ => (pg_name (i := 8) nd rfl (by first | exact Or.inl rfl | exact Or.inr rfl))) (fun _ _ _ _ _ _ _ q => kNil) (fun _ _ _ _ _ _ _ q => uAdd (uAdd (xStr) (uIx (uV 2) (uDiv (uV 8) (xInt)))) (uIx (uV 2) (uMod (uInt T.z_int (uCons (uV 8) (zNil))) (xInt)))))))))))
theorem ok_law_tags {P : Program} {w : World} {K : PySem.W.Frag} {mg : Str → Option Value} {base : Heap} (T : Txt P K mg) (dd : Dfd K mg "_law_tags" s_law_tags) (c_law_take : Cal P w K mg base "_law_take" s_law_take 1 ["_law_box_here", "_law_below_so"] (LW.f_law_take)) (c_law_mixed : Cal P w K mg base "_law_mixed" s_law_mixed 2 ["_law_box_here", "_law_rows_so"] (LW.f_law_mixed)) : Cal P w K mg base "_law_tags" s_law_tags 3 ["_law_box_here", "_law_many_so"] LW.f_law_tags := by
  obtain ⟨f, fd, F, g⟩ := dd.ex
  have h := fn_ok (P := P) (w := w) (K := K) (mg := mg) (base := base) (x := "_law_tags") (qual := "_law_tags") (params := defArgs s_law_tags) (body := defBody s_law_tags) (scope := defScope s_law_tags) (dvs := []) (kws := []) (f := f) (fd := fd) (N := ["_law_box_here", "_law_many_so", "_law_letters_so", "_law_sort_so", "_law_front_so", "_law_tail_so", "_law_found", "_law_own", "_law_k"]) (ps := ["_law_box_here", "_law_many_so"]) (n := 2) (k := 2) (m := LW.m_law_tags) F sc_law_tags rfl (fun cdv A outer s H E hr tk => bd_law_tags T c_law_take c_law_mixed hr tk)
  exact ⟨f, fd, F, h, g, F.bindsN fun _ _ _ _ _ _ us hl => match us, hl with | [_, _], _ => rfl⟩
abbrev s_law_which : Stmt := top 27
theorem sc_law_which : FnScope ["_law_made_so", "_law_some"] ["_law_made_so"] (defScope s_law_which) := ⟨rfl, rfl, rfl, by decide +kernel, rfl, by decide +kernel, by decide +kernel⟩
theorem bd_law_which {P : Program} {w : World} {K : PySem.W.Frag} {mg : Str → Option Value} {base : Heap} (T : Txt P K mg) {f : Addr} {cdv : Value} {A : Around} {outer : List PySem.Env} {s : Shared} {H : Hp} {E : XK} (hr : Room 0 (A.deeper (PyProof.Rows.envOfC "_law_which" (defScope s_law_which) s.heap.objs.size f cdv))) (tk : Takes (cxOf (L2.CX P w) P w K mg base ["_law_made_so", "_law_some"] "_law_which" (defScope s_law_which) f cdv A outer s H E) (WE E)) : PSs (cxOf (L2.CX P w) P w K mg base ["_law_made_so", "_law_some"] "_law_which" (defScope s_law_which) f cdv A outer s H E) (defBody s_law_which) (tS K mg (WE E) m_law_which) := by
  have nd := sc_law_which.nd
  exact yCons (uSet 1 nd (xLst (uCons (uIsX T.xis T.z_isinstance ⟨_, T.g_Twice⟩ (uV 0)) (uCons (uIsX T.xis T.z_isinstance ⟨_, T.g_Loop⟩ (uV 0)) (uCons (uIsX T.xis T.z_isinstance ⟨_, T.g_SameGate⟩ (uV 0)) (zNil))))))
      (yCons (uSet 1 nd (uAdd (uV 1) (xLst (uCons (uIsX T.xis T.z_isinstance ⟨_, T.g_Waits⟩ (uV 0)) (uCons (uIsX T.xis T.z_isinstance ⟨_, T.g_Away⟩ (uV 0)) (uCons (uIsX T.xis T.z_isinstance ⟨_, T.g_Here⟩ (uV 0)) (zNil)))))))
      (yCons (uSet 1 nd (uAdd (uV 1) (xLst (uCons (uIsX T.xis T.z_isinstance ⟨_, T.g_OtherWeb⟩ (uV 0)) (uCons (uIsX T.xis T.z_isinstance ⟨_, T.g_Stands⟩ (uV 0)) (uCons (uIsX T.xis T.z_isinstance ⟨_, T.g_Endless⟩ (uV 0)) (zNil)))))))
      (yCons (uSet 1 nd (uAdd (uV 1) (xLst (uCons (uIsX T.xis T.z_isinstance ⟨_, T.g_NoClock⟩ (uV 0)) (uCons (uIsX T.xis T.z_isinstance ⟨_, T.g_TooMany⟩ (uV 0)) (uCons (uIsX T.xis T.z_isinstance ⟨_, T.g_BadText⟩ (uV 0)) (zNil)))))))
      (yCons (uSet 1 nd (uAdd (uV 1) (xLst (uCons (uIsX T.xis T.z_isinstance ⟨_, T.g_BadLine⟩ (uV 0)) (uCons (uIsX T.xis T.z_isinstance ⟨_, T.g_NothingDone⟩ (uV 0)) (uCons (uIsX T.xis T.z_isinstance ⟨_, T.g_NoGarden⟩ (uV 0)) (zNil)))))))
      (yCons (uSet 1 nd (uAdd (uV 1) (xLst (uCons (uIsX T.xis T.z_isinstance ⟨_, T.g_NoGate⟩ (uV 0)) (uCons (uIsX T.xis T.z_isinstance ⟨_, T.g_NoRing⟩ (uV 0)) (uCons (uIsX T.xis T.z_isinstance ⟨_, T.g_NoNumber⟩ (uV 0)) (zNil)))))))
      (yOne (yRet (uV 1))))))))
theorem ok_law_which {P : Program} {w : World} {K : PySem.W.Frag} {mg : Str → Option Value} {base : Heap} (T : Txt P K mg) (dd : Dfd K mg "_law_which" s_law_which) : Cal P w K mg base "_law_which" s_law_which 1 ["_law_made_so"] f_law_which := by
  obtain ⟨f, fd, F, g⟩ := dd.ex
  have h := fn_ok (P := P) (w := w) (K := K) (mg := mg) (base := base) (x := "_law_which") (qual := "_law_which") (params := defArgs s_law_which) (body := defBody s_law_which) (scope := defScope s_law_which) (dvs := []) (kws := []) (f := f) (fd := fd) (N := ["_law_made_so", "_law_some"]) (ps := ["_law_made_so"]) (n := 1) (k := 0) (m := m_law_which) F sc_law_which rfl (fun cdv A outer s H E hr tk => bd_law_which T  hr tk)
  exact ⟨f, fd, F, h, g, F.bindsN fun _ _ _ _ _ _ us hl => match us, hl with | [_], _ => rfl⟩
abbrev s_law_place_right : Stmt := top 28
theorem sc_law_place_right : FnScope ["_law_made_so", "_law_spot_so", "_law_above_so", "_law_k"] ["_law_made_so", "_law_spot_so"] (defScope s_law_place_right) := ⟨rfl, rfl, rfl, by decide +kernel, rfl, by decide +kernel, by decide +kernel⟩
theorem bd_law_place_right {P : Program} {w : World} {K : PySem.W.Frag} {mg : Str → Option Value} {base : Heap} (T : Txt P K mg) (c_law_same : Cal P w K mg base "_law_same" s_law_same 7 ["_law_got", "_law_due_so"] (LW.f_law_same 6)) (c_law_which : Cal P w K mg base "_law_which" s_law_which 1 ["_law_made_so"] (f_law_which)) {f : Addr} {cdv : Value} {A : Around} {outer : List PySem.Env} {s : Shared} {H : Hp} {E : XK} (hr : Room 7 (A.deeper (PyProof.Rows.envOfC "_law_place_right" (defScope s_law_place_right) s.heap.objs.size f cdv))) (tk : Takes (cxOf (L2.CX P w) P w K mg base ["_law_made_so", "_law_spot_so", "_law_above_so", "_law_k"] "_law_place_right" (defScope s_law_place_right) f cdv A outer s H E) (WE E)) : PSs (cxOf (L2.CX P w) P w K mg base ["_law_made_so", "_law_spot_so", "_law_above_so", "_law_k"] "_law_place_right" (defScope s_law_place_right) f cdv A outer s H E) (defBody s_law_place_right) (tS K mg (WE E) m_law_place_right) := by
  have nd := sc_law_place_right.nd
  exact yCons (uSet 2 nd (xLst (uCons (uIsXb (n := "ValueError") T.xis T.z_isinstance T.z_ValueError (uV 0)) (uCons (uIsXb (n := "LookupError") T.xis T.z_isinstance T.z_LookupError (uV 0)) (zNil)))))
      (yCons (uSet 2 nd (uAdd (uV 2) (xLst (uCons (uIsX2 (n := "KeyError") (n2 := "IndexError") T.xis T.z_isinstance T.z_KeyError T.z_IndexError (uV 0)) (zNil)))))
      (yCons (yIf (wNot (tVal (uCall c_law_same hr (Psg.of tk) (uCons (uV 2) (uCons (xLst (uCons (uLt (uV 1) (xInt)) (uCons (uGt (uV 1) (xInt)) (uCons (xBl) (zNil))))) (zNil)))))) (yOne (yRet (xBl))) (yNil))
      (yOne (yRet (uCall c_law_same hr (Psg.of tk) (uCons (uCall c_law_which hr (Psg.of tk) (uCons (uV 0) (zNil))) (uCons (uLc [("_law_k", 3)] (.nm 3) nd tk (uRng1 T.z_range (uCons (xInt) (zNil))) (by rfl) (fun _ _ _ _ _ _ => (pg_name (i := 3) nd rfl (by first | exact Or.inl rfl | exact Or.inr rfl))) (fun _ _ _ _ _ _ _ q => kNil) (fun _ _ _ _ _ _ _ q => uEq hr (uV 3) (uV 1))) (zNil))))))))
theorem ok_law_place_right {P : Program} {w : World} {K : PySem.W.Frag} {mg : Str → Option Value} {base : Heap} (T : Txt P K mg) (dd : Dfd K mg "_law_place_right" s_law_place_right) (c_law_same : Cal P w K mg base "_law_same" s_law_same 7 ["_law_got", "_law_due_so"] (LW.f_law_same 6)) (c_law_which : Cal P w K mg base "_law_which" s_law_which 1 ["_law_made_so"] (f_law_which)) : Cal P w K mg base "_law_place_right" s_law_place_right 8 ["_law_made_so", "_law_spot_so"] f_law_place_right := by
  obtain ⟨f, fd, F, g⟩ := dd.ex
  have h := fn_ok (P := P) (w := w) (K := K) (mg := mg) (base := base) (x := "_law_place_right") (qual := "_law_place_right") (params := defArgs s_law_place_right) (body := defBody s_law_place_right) (scope := defScope s_law_place_right) (dvs := []) (kws := []) (f := f) (fd := fd) (N := ["_law_made_so", "_law_spot_so", "_law_above_so", "_law_k"]) (ps := ["_law_made_so", "_law_spot_so"]) (n := 2) (k := 7) (m := m_law_place_right) F sc_law_place_right rfl (fun cdv A outer s H E hr tk => bd_law_place_right T c_law_same c_law_which hr tk)
  exact ⟨f, fd, F, h, g, F.bindsN fun _ _ _ _ _ _ us hl => match us, hl with | [_, _], _ => rfl⟩
abbrev s_law_caught : Stmt := top 29
theorem sc_law_caught : FnScope ["_law_tag_so", "_law_far_so", "_law_caught_so", "_law_other_so", "error_a", "error_b"] ["_law_tag_so", "_law_far_so"] (defScope s_law_caught) := ⟨rfl, rfl, rfl, by decide +kernel, rfl, by decide +kernel, by decide +kernel⟩
theorem bd_law_caught {P : Program} {w : World} {K : PySem.W.Frag} {mg : Str → Option Value} {base : Heap} (T : Txt P K mg) (c_law_same : Cal P w K mg base "_law_same" s_law_same 7 ["_law_got", "_law_due_so"] (LW.f_law_same 6)) {f : Addr} {cdv : Value} {A : Around} {outer : List PySem.Env} {s : Shared} {H : Hp} {E : XK} (hr : Room 7 (A.deeper (PyProof.Rows.envOfC "_law_caught" (defScope s_law_caught) s.heap.objs.size f cdv))) (tk : Takes (cxOf (L2.CX P w) P w K mg base ["_law_tag_so", "_law_far_so", "_law_caught_so", "_law_other_so", "error_a", "error_b"] "_law_caught" (defScope s_law_caught) f cdv A outer s H E) (WE E)) : PSs (cxOf (L2.CX P w) P w K mg base ["_law_tag_so", "_law_far_so", "_law_caught_so", "_law_other_so", "error_a", "error_b"] "_law_caught" (defScope s_law_caught) f cdv A outer s H E) (defBody s_law_caught) (tS K mg (WE E) m_law_caught) := by
  have nd := sc_law_caught.nd
  exact yCons (uAsg (.tp [2, 3]) (xTup (uCons (xNon) (uCons (xNon) (zNil)))) (pg_tp rfl (pgs_cons (pg_name (i := 2) nd rfl (by first | exact Or.inl rfl | exact Or.inr rfl)) (pgs_cons (pg_name (i := 3) nd rfl (by first | exact Or.inl rfl | exact Or.inr rfl)) pgs_nil))))
      (yCons (yTry (i := 4) rfl rfl rfl nd rfl rfl ⟨rfl, by decide, .inl T.g_Waits⟩ tk (fun C ca b h1 h2 => T.xma C "Waits" ca _ b h1 h2 T.g_Waits) (fun _ _ _ tk2 ps2 => yOne (mk_raise tk2 (mk_own (mk_Waits T) hr rfl (fun _ _ _ _ _ _ _ _ _ _ us hl => match us, hl with | [_, _], _ => rfl) (uCons (uV 0) (uCons (xStr) (zNil)))))) (fun _ => yOne (uSet 2 nd (uV 4))))
      (yCons (yTry (i := 5) rfl rfl rfl nd rfl rfl ⟨rfl, by decide, .inl T.g_NoNumber⟩ tk (fun C ca b h1 h2 => T.xma C "NoNumber" ca _ b h1 h2 T.g_NoNumber) (fun _ _ _ tk2 ps2 => yOne (mk_raise tk2 (mk_own (mk_NoNumber T) hr rfl (fun _ _ _ _ _ _ _ _ _ _ us hl => match us, hl with | [_], _ => rfl) (uCons (uV 1) (zNil))))) (fun _ => yOne (uSet 3 nd (uV 5))))
      (yOne (yRet (uCall c_law_same hr (Psg.of tk) (uCons (xLst (uCons (uFldX T.xfl (uV 2)) (uCons (uFldX T.xfl (uV 2)) (uCons (uFldX T.xfl (uV 3)) (zNil))))) (uCons (xLst (uCons (uV 0) (uCons (xStr) (uCons (uV 1) (zNil))))) (zNil))))))))
theorem ok_law_caught {P : Program} {w : World} {K : PySem.W.Frag} {mg : Str → Option Value} {base : Heap} (T : Txt P K mg) (dd : Dfd K mg "_law_caught" s_law_caught) (c_law_same : Cal P w K mg base "_law_same" s_law_same 7 ["_law_got", "_law_due_so"] (LW.f_law_same 6)) : Cal P w K mg base "_law_caught" s_law_caught 8 ["_law_tag_so", "_law_far_so"] f_law_caught := by
  obtain ⟨f, fd, F, g⟩ := dd.ex
  have h := fn_ok (P := P) (w := w) (K := K) (mg := mg) (base := base) (x := "_law_caught") (qual := "_law_caught") (params := defArgs s_law_caught) (body := defBody s_law_caught) (scope := defScope s_law_caught) (dvs := []) (kws := []) (f := f) (fd := fd) (N := ["_law_tag_so", "_law_far_so", "_law_caught_so", "_law_other_so", "error_a", "error_b"]) (ps := ["_law_tag_so", "_law_far_so"]) (n := 2) (k := 7) (m := m_law_caught) F sc_law_caught rfl (fun cdv A outer s H E hr tk => bd_law_caught T c_law_same hr tk)
  exact ⟨f, fd, F, h, g, F.bindsN fun _ _ _ _ _ _ us hl => match us, hl with | [_, _], _ => rfl⟩
abbrev s_law_right : Stmt := top 30
theorem sc_law_right : FnScope ["_law_box_here", "_law_tag_so", "_law_its_so", "_law_far_so", "_law_by_place", "_law_by_name", "_law_some", "_law_got", "_law_due_so", "_law_k", "_law_own"] ["_law_box_here"] (defScope s_law_right) := ⟨rfl, rfl, rfl, by decide +kernel, rfl, by decide +kernel, by decide +kernel⟩
theorem bd_law_right {P : Program} {w : World} {K : PySem.W.Frag} {mg : Str → Option Value} {base : Heap} (T : Txt P K mg) (c_law_take : Cal P w K mg base "_law_take" s_law_take 1 ["_law_box_here", "_law_below_so"] (LW.f_law_take)) (c_law_of : Cal P w K mg base "_law_of" s_law_of 2 ["_law_box_here", "_law_pool_so"] (LW.f_law_of)) (c_law_same : Cal P w K mg base "_law_same" s_law_same 7 ["_law_got", "_law_due_so"] (LW.f_law_same 6)) (c_law_tags : Cal P w K mg base "_law_tags" s_law_tags 3 ["_law_box_here", "_law_many_so"] (LW.f_law_tags)) (c_law_place_right : Cal P w K mg base "_law_place_right" s_law_place_right 8 ["_law_made_so", "_law_spot_so"] (f_law_place_right)) (c_law_caught : Cal P w K mg base "_law_caught" s_law_caught 8 ["_law_tag_so", "_law_far_so"] (f_law_caught)) {f : Addr} {cdv : Value} {A : Around} {outer : List PySem.Env} {s : Shared} {H : Hp} {E : XK} (hr : Room 8 (A.deeper (PyProof.Rows.envOfC "_law_right" (defScope s_law_right) s.heap.objs.size f cdv))) (tk : Takes (cxOf (L2.CX P w) P w K mg base ["_law_box_here", "_law_tag_so", "_law_its_so", "_law_far_so", "_law_by_place", "_law_by_name", "_law_some", "_law_got", "_law_due_so", "_law_k", "_law_own"] "_law_right" (defScope s_law_right) f cdv A outer s H E) (WE E)) : PSs (cxOf (L2.CX P w) P w K mg base ["_law_box_here", "_law_tag_so", "_law_its_so", "_law_far_so", "_law_by_place", "_law_by_name", "_law_some", "_law_got", "_law_due_so", "_law_k", "_law_own"] "_law_right" (defScope s_law_right) f cdv A outer s H E) (defBody s_law_right) (tS K mg (WE E) m_law_right) := by
  have nd := sc_law_right.nd
  have pso : PassesOwn (model P w) (A.deeper (PyProof.Rows.envOfC "_law_right" (defScope s_law_right) s.heap.objs.size f cdv)) (PyProof.Rows.envOfC "_law_right" (defScope s_law_right) s.heap.objs.size f cdv) (cxOf (L2.CX P w) P w K mg base ["_law_box_here", "_law_tag_so", "_law_its_so", "_law_far_so", "_law_by_place", "_law_by_name", "_law_some", "_law_got", "_law_due_so", "_law_k", "_law_own"] "_law_right" (defScope s_law_right) f cdv A outer s H E).xe := passes_of (X := cxOf (L2.CX P w) P w K mg base ["_law_box_here", "_law_tag_so", "_law_its_so", "_law_far_so", "_law_by_place", "_law_by_name", "_law_some", "_law_got", "_law_due_so", "_law_k", "_law_own"] "_law_right" (defScope s_law_right) f cdv A outer s H E) rfl
  exact yCons (uAsg (.tp [1, 2]) (uCall c_law_tags hr (Psg.of tk) (uCons (uV 0) (uCons (xInt) (zNil)))) (pg_tp rfl (pgs_cons (pg_name (i := 1) nd rfl (by first | exact Or.inl rfl | exact Or.inr rfl)) (pgs_cons (pg_name (i := 2) nd rfl (by first | exact Or.inl rfl | exact Or.inr rfl)) pgs_nil))))
      (yCons (uSet 3 nd (uMul (uSub (uCall c_law_take hr (Psg.of tk) (uCons (uV 0) (uCons (xInt) (zNil)))) (xInt)) (uCall c_law_of hr (Psg.of tk) (uCons (uV 0) (uCons (xLst (uCons (xInt) (uCons (uPow (xInt) (xInt)) (zNil)))) (zNil))))))
      (yCons (uSet 4 nd (xLst (uCons (mk_value (mk_own (mk_Twice T) hr rfl (fun _ _ _ _ _ _ _ _ _ _ us hl => match us, hl with | [_], _ => rfl) (uCons (uV 1) (zNil)))) (uCons (mk_value (mk_own (mk_Loop T) hr rfl (fun _ _ _ _ _ _ _ _ _ _ us hl => match us, hl with | [_], _ => rfl) (uCons (uV 2) (zNil)))) (uCons (mk_value (mk_own (mk_SameGate T) hr rfl (fun _ _ _ _ _ _ _ _ _ _ us hl => match us, hl with | [_, _], _ => rfl) (uCons (uV 1) (uCons (uV 2) (zNil))))) (uCons (mk_value (mk_own (mk_Waits T) hr rfl (fun _ _ _ _ _ _ _ _ _ _ us hl => match us, hl with | [_, _], _ => rfl) (uCons (uV 2) (uCons (uV 1) (zNil))))) (uCons (mk_value (mk_own (mk_Away T) hr rfl (fun _ _ _ _ _ _ _ _ _ _ us hl => match us, hl with | [_], _ => rfl) (uCons (uV 1) (zNil)))) (zNil))))))))
      (yCons (uSet 4 nd (uAdd (uV 4) (xLst (uCons (mk_value (mk_own (mk_Here T) hr rfl (fun _ _ _ _ _ _ _ _ _ _ us hl => match us, hl with | [_], _ => rfl) (uCons (uV 2) (zNil)))) (uCons (mk_value (mk_bare PySem.F.excBase_ValueError T.e_OtherWeb.q T.e_OtherWeb.g T.e_OtherWeb.k T.e_OtherWeb.r)) (uCons (mk_value (mk_bare PySem.F.excBase_ValueError T.e_Stands.q T.e_Stands.g T.e_Stands.k T.e_Stands.r)) (uCons (mk_value (mk_own (mk_Endless T) hr rfl (fun _ _ _ _ _ _ _ _ _ _ us hl => match us, hl with | [_], _ => rfl) (uCons (uV 1) (zNil)))) (uCons (mk_value (mk_bare PySem.F.excBase_ValueError T.e_NoClock.q T.e_NoClock.g T.e_NoClock.k T.e_NoClock.r)) (uCons (mk_value (mk_own (mk_TooMany T) hr rfl (fun _ _ _ _ _ _ _ _ _ _ us hl => match us, hl with | [_], _ => rfl) (uCons (uV 3) (zNil)))) (uCons (mk_value (mk_bare PySem.F.excBase_ValueError T.e_BadText.q T.e_BadText.g T.e_BadText.k T.e_BadText.r)) (zNil)))))))))))
      (yCons (uSet 4 nd (uAdd (uV 4) (xLst (uCons (mk_value (mk_own (mk_BadLine T) hr rfl (fun _ _ _ _ _ _ _ _ _ _ us hl => match us, hl with | [_], _ => rfl) (uCons (uV 3) (zNil)))) (uCons (mk_value (mk_bare PySem.F.excBase_ValueError T.e_NothingDone.q T.e_NothingDone.g T.e_NothingDone.k T.e_NothingDone.r)) (uCons (mk_value (mk_own (mk_NoGarden T) hr rfl (fun _ _ _ _ _ _ _ _ _ _ us hl => match us, hl with | [_], _ => rfl) (uCons (uV 2) (zNil)))) (uCons (mk_value (mk_own (mk_NoGate T) hr rfl (fun _ _ _ _ _ _ _ _ _ _ us hl => match us, hl with | [_, _], _ => rfl) (uCons (uV 1) (uCons (uV 2) (zNil))))) (zNil))))))))
      (yCons (uSet 4 nd (uAdd (uV 4) (xLst (uCons (mk_value (mk_own (mk_NoRing T) hr rfl (fun _ _ _ _ _ _ _ _ _ _ us hl => match us, hl with | [_], _ => rfl) (uCons (xLst (uCons (uV 1) (uCons (uV 2) (zNil)))) (zNil)))) (uCons (mk_value (mk_own (mk_NoNumber T) hr rfl (fun _ _ _ _ _ _ _ _ _ _ us hl => match us, hl with | [_], _ => rfl) (uCons (uV 3) (zNil)))) (zNil))))))
      (yCons (uSet 5 nd (xLst (uCons (mk_value (mk_ownK [0] ["name"] (mk_Twice T) hr rfl (fun l hl => match l, hl with | [_], _ => rfl) (fun _ _ _ _ _ _ _ _ _ _ ws hl => match ws, hl with | [_], _ => rfl) (zKw (uV 1) (zKw0)))) (uCons (mk_value (mk_ownK [0] ["name"] (mk_Loop T) hr rfl (fun l hl => match l, hl with | [_], _ => rfl) (fun _ _ _ _ _ _ _ _ _ _ ws hl => match ws, hl with | [_], _ => rfl) (zKw (uV 2) (zKw0)))) (uCons (mk_value (mk_ownK [1, 0] ["other", "one"] (mk_SameGate T) hr rfl (fun l hl => match l, hl with | [_, _], _ => rfl) (fun _ _ _ _ _ _ _ _ _ _ ws hl => match ws, hl with | [_, _], _ => rfl) (zKw (uV 2) (zKw (uV 1) (zKw0))))) (zNil))))))
      (yCons (uSet 5 nd (uAdd (uV 5) (xLst (uCons (mk_value (mk_ownK [1, 0] ["other", "name"] (mk_Waits T) hr rfl (fun l hl => match l, hl with | [_, _], _ => rfl) (fun _ _ _ _ _ _ _ _ _ _ ws hl => match ws, hl with | [_, _], _ => rfl) (zKw (uV 1) (zKw (uV 2) (zKw0))))) (uCons (mk_value (mk_ownK [0] ["name"] (mk_Away T) hr rfl (fun l hl => match l, hl with | [_], _ => rfl) (fun _ _ _ _ _ _ _ _ _ _ ws hl => match ws, hl with | [_], _ => rfl) (zKw (uV 1) (zKw0)))) (uCons (mk_value (mk_ownK [0] ["name"] (mk_Here T) hr rfl (fun l hl => match l, hl with | [_], _ => rfl) (fun _ _ _ _ _ _ _ _ _ _ ws hl => match ws, hl with | [_], _ => rfl) (zKw (uV 2) (zKw0)))) (uCons (mk_value (mk_bare PySem.F.excBase_ValueError T.e_OtherWeb.q T.e_OtherWeb.g T.e_OtherWeb.k T.e_OtherWeb.r)) (uCons (mk_value (mk_bare PySem.F.excBase_ValueError T.e_Stands.q T.e_Stands.g T.e_Stands.k T.e_Stands.r)) (zNil)))))))))
      (yCons (uSet 5 nd (uAdd (uV 5) (xLst (uCons (mk_value (mk_ownK [0] ["name"] (mk_Endless T) hr rfl (fun l hl => match l, hl with | [_], _ => rfl) (fun _ _ _ _ _ _ _ _ _ _ ws hl => match ws, hl with | [_], _ => rfl) (zKw (uV 1) (zKw0)))) (uCons (mk_value (mk_bare PySem.F.excBase_ValueError T.e_NoClock.q T.e_NoClock.g T.e_NoClock.k T.e_NoClock.r)) (uCons (mk_value (mk_ownK [0] ["most"] (mk_TooMany T) hr rfl (fun l hl => match l, hl with | [_], _ => rfl) (fun _ _ _ _ _ _ _ _ _ _ ws hl => match ws, hl with | [_], _ => rfl) (zKw (uV 3) (zKw0)))) (uCons (mk_value (mk_bare PySem.F.excBase_ValueError T.e_BadText.q T.e_BadText.g T.e_BadText.k T.e_BadText.r)) (uCons (mk_value (mk_ownK [0] ["number"] (mk_BadLine T) hr rfl (fun l hl => match l, hl with | [_], _ => rfl) (fun _ _ _ _ _ _ _ _ _ _ ws hl => match ws, hl with | [_], _ => rfl) (zKw (uV 3) (zKw0)))) (zNil)))))))))
      (yCons (uSet 5 nd (uAdd (uV 5) (xLst (uCons (mk_value (mk_bare PySem.F.excBase_ValueError T.e_NothingDone.q T.e_NothingDone.g T.e_NothingDone.k T.e_NothingDone.r)) (uCons (mk_value (mk_ownK [0] ["name"] (mk_NoGarden T) hr rfl (fun l hl => match l, hl with | [_], _ => rfl) (fun _ _ _ _ _ _ _ _ _ _ ws hl => match ws, hl with | [_], _ => rfl) (zKw (uV 2) (zKw0)))) (uCons (mk_value (mk_ownK [1, 0] ["other", "one"] (mk_NoGate T) hr rfl (fun l hl => match l, hl with | [_, _], _ => rfl) (fun _ _ _ _ _ _ _ _ _ _ ws hl => match ws, hl with | [_, _], _ => rfl) (zKw (uV 2) (zKw (uV 1) (zKw0))))) (zNil)))))))
      (yCons (uSet 5 nd (uAdd (uV 5) (xLst (uCons (mk_value (mk_ownK [0] ["ring"] (mk_NoRing T) hr rfl (fun l hl => match l, hl with | [_], _ => rfl) (fun _ _ _ _ _ _ _ _ _ _ ws hl => match ws, hl with | [_], _ => rfl) (zKw (xTup (uCons (uV 1) (uCons (uV 2) (zNil)))) (zKw0)))) (uCons (mk_value (mk_ownK [0] ["number"] (mk_NoNumber T) hr rfl (fun l hl => match l, hl with | [_], _ => rfl) (fun _ _ _ _ _ _ _ _ _ _ ws hl => match ws, hl with | [_], _ => rfl) (zKw (uV 3) (zKw0)))) (zNil))))))
      (yCons (uFor (.nm 6) pso (jSeq (xLst (uCons (uV 4) (uCons (uV 5) (zNil))))) (pg_name (i := 6) nd rfl (by first | exact Or.inl rfl | exact Or.inr rfl)) (yCons (uSet 7 nd (xLst (uCons (uFldX T.xfl (uIx (uV 6) (xInt))) (uCons (uFldX T.xfl (uIx (uV 6) (xInt))) (uCons (uFldX T.xfl (uIx (uV 6) (xInt))) (uCons (uFldX T.xfl (uIx (uV 6) (xInt))) (uCons (uFldX T.xfl (uIx (uV 6) (xInt))) (uCons (uFldX T.xfl (uIx (uV 6) (xInt))) (uCons (uFldX T.xfl (uIx (uV 6) (xInt))) (zNil))))))))))
      (yCons (uSet 7 nd (uAdd (uV 7) (xLst (uCons (uFldX T.xfl (uIx (uV 6) (xInt))) (uCons (uFldX T.xfl (uIx (uV 6) (xInt))) (uCons (uFldX T.xfl (uIx (uV 6) (xInt))) (uCons (uFldX T.xfl (uIx (uV 6) (xInt))) (uCons (uFldX T.xfl (uIx (uV 6) (xInt))) (uCons (uFldX T.xfl (uIx (uV 6) (xInt))) (zNil))))))))))
      (yCons (uSet 7 nd (uAdd (uV 7) (xLst (uCons (uFldX T.xfl (uIx (uV 6) (xInt))) (uCons (uFldX T.xfl (uIx (uV 6) (xInt))) (uCons (uFldX T.xfl (uIx (uV 6) (xInt))) (zNil)))))))
      (yCons (uSet 8 nd (xLst (uCons (uV 1) (uCons (uV 2) (uCons (uV 1) (uCons (uV 2) (uCons (uV 2) (uCons (uV 1) (uCons (uV 1) (uCons (uV 2) (uCons (uV 1) (uCons (uV 3) (uCons (uV 3) (uCons (uV 2) (zNil)))))))))))))))
      (yCons (yIf (wNot (tVal (uCall c_law_same hr (Psg.of tk) (uCons (uV 7) (uCons (uAdd (uV 8) (xLst (uCons (uV 1) (uCons (uV 2) (uCons (xTup (uCons (uV 1) (uCons (uV 2) (zNil)))) (uCons (uV 3) (zNil))))))) (zNil)))))) (yOne (yRet (xBl))) (yNil))
      (yOne (yIf (wNot (tVal (uAll T.z_all (uCons (uLc [("_law_k", 9), ("_law_own", 10)] (.tp [9, 10]) nd tk (uEnum T.z_enumerate (uCons (uV 6) (zNil))) (by rfl) (fun _ _ _ _ _ _ => (pg_tp rfl (pgs_cons (pg_name (i := 9) nd rfl (by first | exact Or.inl rfl | exact Or.inr rfl)) (pgs_cons (pg_name (i := 10) nd rfl (by first | exact Or.inl rfl | exact Or.inr rfl)) pgs_nil)))) (fun _ _ _ _ _ _ _ q => kNil) (fun _ _ _ _ _ _ _ q => uCall c_law_place_right hr q (uCons (uV 10) (uCons (uV 9) (zNil))))) (zNil))))) (yOne (yRet (xBl))) (yNil)))))))))
      (yOne (yRet (uCall c_law_caught hr (Psg.of tk) (uCons (uV 1) (uCons (uV 3) (zNil)))))))))))))))))
theorem ok_law_right {P : Program} {w : World} {K : PySem.W.Frag} {mg : Str → Option Value} {base : Heap} (T : Txt P K mg) (dd : Dfd K mg "_law_right" s_law_right) (c_law_take : Cal P w K mg base "_law_take" s_law_take 1 ["_law_box_here", "_law_below_so"] (LW.f_law_take)) (c_law_of : Cal P w K mg base "_law_of" s_law_of 2 ["_law_box_here", "_law_pool_so"] (LW.f_law_of)) (c_law_same : Cal P w K mg base "_law_same" s_law_same 7 ["_law_got", "_law_due_so"] (LW.f_law_same 6)) (c_law_tags : Cal P w K mg base "_law_tags" s_law_tags 3 ["_law_box_here", "_law_many_so"] (LW.f_law_tags)) (c_law_place_right : Cal P w K mg base "_law_place_right" s_law_place_right 8 ["_law_made_so", "_law_spot_so"] (f_law_place_right)) (c_law_caught : Cal P w K mg base "_law_caught" s_law_caught 8 ["_law_tag_so", "_law_far_so"] (f_law_caught)) : Cal P w K mg base "_law_right" s_law_right 9 ["_law_box_here"] f_law_right := by
  obtain ⟨f, fd, F, g⟩ := dd.ex
  have h := fn_ok (P := P) (w := w) (K := K) (mg := mg) (base := base) (x := "_law_right") (qual := "_law_right") (params := defArgs s_law_right) (body := defBody s_law_right) (scope := defScope s_law_right) (dvs := []) (kws := []) (f := f) (fd := fd) (N := ["_law_box_here", "_law_tag_so", "_law_its_so", "_law_far_so", "_law_by_place", "_law_by_name", "_law_some", "_law_got", "_law_due_so", "_law_k", "_law_own"]) (ps := ["_law_box_here"]) (n := 1) (k := 8) (m := m_law_right) F sc_law_right rfl (fun cdv A outer s H E hr tk => bd_law_right T c_law_take c_law_of c_law_same c_law_tags c_law_place_right c_law_caught hr tk)
  exact ⟨f, fd, F, h, g, F.bindsN fun _ _ _ _ _ _ us hl => match us, hl with | [_], _ => rfl⟩
abbrev s_law : Stmt := top 31
theorem sc_law : FnScope ["_law_script", "_law_cells_here", "_law_k"] ["_law_script"] (defScope s_law) := ⟨rfl, rfl, rfl, by decide +kernel, rfl, by decide +kernel, by decide +kernel⟩
theorem bd_law {P : Program} {w : World} {K : PySem.W.Frag} {mg : Str → Option Value} {base : Heap} (T : Txt P K mg) (c_law_box : Cal P w K mg base "_law_box" s_law_box 1 ["_law_script", "_law_k"] (f_law_box)) (c_law_cells : Cal P w K mg base "_law_cells" s_law_cells 1 ["_law_script", "_law_most_so"] (LW.f_law_cells)) (c_law_right : Cal P w K mg base "_law_right" s_law_right 9 ["_law_box_here"] (f_law_right)) {f : Addr} {cdv : Value} {A : Around} {outer : List PySem.Env} {s : Shared} {H : Hp} {E : XK} (hr : Room 9 (A.deeper (PyProof.Rows.envOfC "law" (defScope s_law) s.heap.objs.size f cdv))) (tk : Takes (cxOf (L2.CX P w) P w K mg base ["_law_script", "_law_cells_here", "_law_k"] "law" (defScope s_law) f cdv A outer s H E) (WE E)) : PSs (cxOf (L2.CX P w) P w K mg base ["_law_script", "_law_cells_here", "_law_k"] "law" (defScope s_law) f cdv A outer s H E) (defBody s_law) (tS K mg (WE E) m_law) := by
  have nd := sc_law.nd
  exact yCons (uSet 1 nd (uCall c_law_cells hr (Psg.of tk) (uCons (uV 0) (uCons (xInt) (zNil)))))
      (yOne (yRet (uAll T.z_all (uCons (uLc [("_law_k", 2)] (.nm 2) nd tk (uRng1 T.z_range (uCons (uLen T.z_len (uCons (uV 1) (zNil))) (zNil))) (by rfl) (fun _ _ _ _ _ _ => (pg_name (i := 2) nd rfl (by first | exact Or.inl rfl | exact Or.inr rfl))) (fun _ _ _ _ _ _ _ q => kNil) (fun _ _ _ _ _ _ _ q => uCall c_law_right hr q (uCons (uCall c_law_box hr q (uCons (uV 1) (uCons (uV 2) (zNil)))) (zNil)))) (zNil)))))
theorem ok_law {P : Program} {w : World} {K : PySem.W.Frag} {mg : Str → Option Value} {base : Heap} (T : Txt P K mg) (dd : Dfd K mg "law" s_law) (c_law_box : Cal P w K mg base "_law_box" s_law_box 1 ["_law_script", "_law_k"] (f_law_box)) (c_law_cells : Cal P w K mg base "_law_cells" s_law_cells 1 ["_law_script", "_law_most_so"] (LW.f_law_cells)) (c_law_right : Cal P w K mg base "_law_right" s_law_right 9 ["_law_box_here"] (f_law_right)) : Cal P w K mg base "law" s_law 10 ["_law_script"] f_law := by
  obtain ⟨f, fd, F, g⟩ := dd.ex
  have h := fn_okR (P := P) (w := w) (K := K) (mg := mg) (base := base) (x := "law") (qual := "law") (params := defArgs s_law) (body := defBody s_law) (scope := defScope s_law) (dvs := []) (kws := []) (f := f) (fd := fd) (N := ["_law_script", "_law_cells_here", "_law_k"]) (ps := ["_law_script"]) (n := 1) (k := 9) (m := m_law) F sc_law rfl (fun cdv A outer s H E hr tk => bd_law T c_law_box c_law_cells c_law_right hr tk)
  exact ⟨f, fd, F, h, g, F.bindsN fun _ _ _ _ _ _ us hl => match us, hl with | [_], _ => rfl⟩
end K00
end S_K00Ok
section S_K00M1
set_option Elab.async false
set_option linter.all false
set_option maxRecDepth 100000
set_option maxHeartbeats 4000000
namespace K00
open PySem L2 T LW
theorem fnOf_rt {n N : Nat} {m : SemS} {ds : List D} {S : Sto} {d : D} (hn : ds.length = n) (h : m (entry N ds) S = .rt d S) : fnOf n N m ds S = .ok d S := by
  rw [fnOf_eq hn, h]
  exact fin_ok rfl
def bk (k : Nat) : List D := (List.range 18).map fun j => .bl (decide (j = k))
theorem sm_bls {l : List Bool} (h : l.length ≤ lim) : Sm 6 (.lst (l.map D.bl)) := .lst (by rw [List.length_map]; exact h) fun d hd => by
  obtain ⟨b, _, rfl⟩ := List.mem_map.mp hd
  exact .bl
theorem place_of {C : Str} {fs : List (Str × D)} {S : Sto} {k : Int} {x y : Bool} {W : List Bool} (hl : W.length ≤ 18) (hw : f_law_which [.exc C fs] S = .ok (.lst (W.map D.bl)) S)
    (h1 : sAsg (sLst (aCons (sIsX xtT.get "ValueError" (sV 0)) (aCons (sIsX xtT.get "LookupError" (sV 0)) (aNil)))) (gN 2) [some (.exc C fs), some (.int k), none, none] S = .nx [some (.exc C fs), some (.int k), some (.lst [.bl x, .bl y]), none] S)
    (h2 : sAsg (sOp fAdd (sV 2) (sLst (aCons (sIsX2 xtT.get "KeyError" "IndexError" (sV 0)) (aNil)))) (gN 2) [some (.exc C fs), some (.int k), some (.lst [.bl x, .bl y]), none] S = .nx [some (.exc C fs), some (.int k), some (.lst [.bl x, .bl y, .bl false]), none] S)
    (h3 : sLst (aCons (sOp fLt (sV 1) (sC (.int 14))) (aCons (sOp fGt (sV 1) (sC (.int 13))) (aCons (sC (.bl false)) (aNil)))) [some (.exc C fs), some (.int k), some (.lst [.bl x, .bl y, .bl false]), none] S = .ok (.lst [.bl x, .bl y, .bl false]) S)
    (h4 : sLc [3] (T.iRng1 (aCons (sC (.int 18)) (aNil))) (.nm 3) (cYes) (sOp fEq (sV 3) (sV 1)) [some (.exc C fs), some (.int k), some (.lst [.bl x, .bl y, .bl false]), none] S = .ok (.lst (W.map D.bl)) S) :
    f_law_place_right [.exc C fs, .int k] S = .ok (.bl true) S := by
  refine fnOf_rt rfl ?_
  refine (sSeq_nx h1).trans ((sSeq_nx h2).trans ?_)
  have s3 := sIf_f (p := sRet (sC (.bl false))) (q := sNext) (S1 := S) (cNot_ok (r := true) (isB_ok ((sCall_ok (aCons_ok (m := sV 2) (d := .lst [.bl x, .bl y, .bl false]) (S1 := S) rfl (aCons_ok h3 aNil_ok))).trans (same_ok 6 (.lst ([x, y, false].map D.bl)) (sm_bls (by simp [lim]))))))
  refine (sSeq_nx (s3.trans rfl)).trans (sRet_ok ?_)
  exact (sCall_ok (aCons_ok ((call1 rfl).trans hw) (aCons_ok h4 aNil_ok))).trans (same_ok 6 _ (sm_bls (by unfold lim; omega)))
/-- the classes, by their places -/
theorem place (fs : List (Str × D)) (S : Sto) :
    f_law_place_right [.exc "Twice" fs, .int 0] S = .ok (.bl true) S ∧ f_law_place_right [.exc "Loop" fs, .int 1] S = .ok (.bl true) S ∧ f_law_place_right [.exc "SameGate" fs, .int 2] S = .ok (.bl true) S ∧ f_law_place_right [.exc "Waits" fs, .int 3] S = .ok (.bl true) S ∧
    f_law_place_right [.exc "Away" fs, .int 4] S = .ok (.bl true) S ∧ f_law_place_right [.exc "Here" fs, .int 5] S = .ok (.bl true) S ∧ f_law_place_right [.exc "OtherWeb" fs, .int 6] S = .ok (.bl true) S ∧ f_law_place_right [.exc "Stands" fs, .int 7] S = .ok (.bl true) S ∧
    f_law_place_right [.exc "Endless" fs, .int 8] S = .ok (.bl true) S ∧ f_law_place_right [.exc "NoClock" fs, .int 9] S = .ok (.bl true) S ∧ f_law_place_right [.exc "TooMany" fs, .int 10] S = .ok (.bl true) S ∧ f_law_place_right [.exc "BadText" fs, .int 11] S = .ok (.bl true) S ∧
    f_law_place_right [.exc "BadLine" fs, .int 12] S = .ok (.bl true) S ∧ f_law_place_right [.exc "NothingDone" fs, .int 13] S = .ok (.bl true) S ∧ f_law_place_right [.exc "NoGarden" fs, .int 14] S = .ok (.bl true) S ∧ f_law_place_right [.exc "NoGate" fs, .int 15] S = .ok (.bl true) S ∧
    f_law_place_right [.exc "NoRing" fs, .int 16] S = .ok (.bl true) S ∧ f_law_place_right [.exc "NoNumber" fs, .int 17] S = .ok (.bl true) S := by
  refine ⟨?_, ?_, ?_, ?_, ?_, ?_, ?_, ?_, ?_, ?_, ?_, ?_, ?_, ?_, ?_, ?_, ?_, ?_⟩
  · exact place_of (x := true) (y := false) (W := (List.range 18).map fun j => decide (j = 0)) (by decide) (fnOf_rt rfl (by kernel_rfl)) (by kernel_rfl) (by kernel_rfl) (by kernel_rfl) (by kernel_rfl)
  · exact place_of (x := true) (y := false) (W := (List.range 18).map fun j => decide (j = 1)) (by decide) (fnOf_rt rfl (by kernel_rfl)) (by kernel_rfl) (by kernel_rfl) (by kernel_rfl) (by kernel_rfl)
  · exact place_of (x := true) (y := false) (W := (List.range 18).map fun j => decide (j = 2)) (by decide) (fnOf_rt rfl (by kernel_rfl)) (by kernel_rfl) (by kernel_rfl) (by kernel_rfl) (by kernel_rfl)
  · exact place_of (x := true) (y := false) (W := (List.range 18).map fun j => decide (j = 3)) (by decide) (fnOf_rt rfl (by kernel_rfl)) (by kernel_rfl) (by kernel_rfl) (by kernel_rfl) (by kernel_rfl)
  · exact place_of (x := true) (y := false) (W := (List.range 18).map fun j => decide (j = 4)) (by decide) (fnOf_rt rfl (by kernel_rfl)) (by kernel_rfl) (by kernel_rfl) (by kernel_rfl) (by kernel_rfl)
  · exact place_of (x := true) (y := false) (W := (List.range 18).map fun j => decide (j = 5)) (by decide) (fnOf_rt rfl (by kernel_rfl)) (by kernel_rfl) (by kernel_rfl) (by kernel_rfl) (by kernel_rfl)
  · exact place_of (x := true) (y := false) (W := (List.range 18).map fun j => decide (j = 6)) (by decide) (fnOf_rt rfl (by kernel_rfl)) (by kernel_rfl) (by kernel_rfl) (by kernel_rfl) (by kernel_rfl)
  · exact place_of (x := true) (y := false) (W := (List.range 18).map fun j => decide (j = 7)) (by decide) (fnOf_rt rfl (by kernel_rfl)) (by kernel_rfl) (by kernel_rfl) (by kernel_rfl) (by kernel_rfl)
  · exact place_of (x := true) (y := false) (W := (List.range 18).map fun j => decide (j = 8)) (by decide) (fnOf_rt rfl (by kernel_rfl)) (by kernel_rfl) (by kernel_rfl) (by kernel_rfl) (by kernel_rfl)
  · exact place_of (x := true) (y := false) (W := (List.range 18).map fun j => decide (j = 9)) (by decide) (fnOf_rt rfl (by kernel_rfl)) (by kernel_rfl) (by kernel_rfl) (by kernel_rfl) (by kernel_rfl)
  · exact place_of (x := true) (y := false) (W := (List.range 18).map fun j => decide (j = 10)) (by decide) (fnOf_rt rfl (by kernel_rfl)) (by kernel_rfl) (by kernel_rfl) (by kernel_rfl) (by kernel_rfl)
  · exact place_of (x := true) (y := false) (W := (List.range 18).map fun j => decide (j = 11)) (by decide) (fnOf_rt rfl (by kernel_rfl)) (by kernel_rfl) (by kernel_rfl) (by kernel_rfl) (by kernel_rfl)
  · exact place_of (x := true) (y := false) (W := (List.range 18).map fun j => decide (j = 12)) (by decide) (fnOf_rt rfl (by kernel_rfl)) (by kernel_rfl) (by kernel_rfl) (by kernel_rfl) (by kernel_rfl)
  · exact place_of (x := true) (y := false) (W := (List.range 18).map fun j => decide (j = 13)) (by decide) (fnOf_rt rfl (by kernel_rfl)) (by kernel_rfl) (by kernel_rfl) (by kernel_rfl) (by kernel_rfl)
  · exact place_of (x := false) (y := true) (W := (List.range 18).map fun j => decide (j = 14)) (by decide) (fnOf_rt rfl (by kernel_rfl)) (by kernel_rfl) (by kernel_rfl) (by kernel_rfl) (by kernel_rfl)
  · exact place_of (x := false) (y := true) (W := (List.range 18).map fun j => decide (j = 15)) (by decide) (fnOf_rt rfl (by kernel_rfl)) (by kernel_rfl) (by kernel_rfl) (by kernel_rfl) (by kernel_rfl)
  · exact place_of (x := false) (y := true) (W := (List.range 18).map fun j => decide (j = 16)) (by decide) (fnOf_rt rfl (by kernel_rfl)) (by kernel_rfl) (by kernel_rfl) (by kernel_rfl) (by kernel_rfl)
  · exact place_of (x := false) (y := true) (W := (List.range 18).map fun j => decide (j = 17)) (by decide) (fnOf_rt rfl (by kernel_rfl)) (by kernel_rfl) (by kernel_rfl) (by kernel_rfl) (by kernel_rfl)
end K00
end S_K00M1
section S_K00M2
set_option Elab.async false
set_option linter.all false
set_option maxRecDepth 100000
set_option maxHeartbeats 4000000
namespace K00
open PySem L2 T LW
theorem caught_ok {a : Str} {f : Int} {S : Sto} : f_law_caught [.str a, .int f] S = .ok (.bl true) S := by
  refine fnOf_rt rfl ?_
  refine (sSeq_nx (env1 := [some (.str a), some (.int f), some .non, some .non, none, none]) (S1 := S) (by kernel_rfl)).trans ?_
  refine (sSeq_nx (env1 := [some (.str a), some (.int f), some (.exc "Waits" [("other", .str "zz"), ("name", .str a)]), some .non, none, none]) (S1 := S) (by kernel_rfl)).trans ?_
  refine (sSeq_nx (env1 := [some (.str a), some (.int f), some (.exc "Waits" [("other", .str "zz"), ("name", .str a)]), some (.exc "NoNumber" [("number", .int f)]), none, none]) (S1 := S) (by kernel_rfl)).trans ?_
  refine sRet_ok ((sCall_ok (aCons_ok (d := .lst [.str a, .str "zz", .int f]) (S1 := S) (by kernel_rfl) (aCons_ok (d := .lst [.str a, .str "zz", .int f]) (S1 := S) (by kernel_rfl) aNil_ok))).trans (same_ok 6 _ (.lst (by simp [lim]) fun d hd => ?_)))
  simp at hd
  rcases hd with rfl | rfl | rfl
  · exact .str
  · exact .str
  · exact .int
def excL (a b f : D) : List D := [.exc "Twice" [("name", a)], .exc "Loop" [("name", b)], .exc "SameGate" [("other", b), ("one", a)], .exc "Waits" [("other", a), ("name", b)], .exc "Away" [("name", a)], .exc "Here" [("name", b)], .exc "OtherWeb" [], .exc "Stands" [], .exc "Endless" [("name", a)], .exc "NoClock" [], .exc "TooMany" [("most", f)], .exc "BadText" [], .exc "BadLine" [("number", f)], .exc "NothingDone" [], .exc "NoGarden" [("name", b)], .exc "NoGate" [("other", b), ("one", a)], .exc "NoRing" [("ring", .tup [a, b])], .exc "NoNumber" [("number", f)]]
def dueL (a b f : D) : List D := [a, b, a, b, b, a, a, b, a, f, f, b, a, b, .tup [a, b], f]
theorem due_sm {a b : Str} {f : Int} : Sm 6 (.lst (dueL (.str a) (.str b) (.int f))) := .lst (by simp [dueL, lim]) fun d hd => by
  simp [dueL] at hd
  rcases hd with rfl | rfl | rfl | rfl | rfl | rfl | rfl | rfl | rfl | rfl | rfl | rfl | rfl
  all_goals first
    | exact .str
    | exact .int
    | exact .tup (by simp [lim]) fun e he => by
        simp at he
        rcases he with rfl | rfl
        · exact .str
        · exact .str
theorem body_ok {a b : Str} {f : Int} {S : Sto} {c p q w7 w8 w9 w10 : Option D} : b_law_right_1 [c, some (.str a), some (.str b), some (.int f), p, q, some (.lst (excL (.str a) (.str b) (.int f))), w7, w8, w9, w10] S =
    .nx [c, some (.str a), some (.str b), some (.int f), p, q, some (.lst (excL (.str a) (.str b) (.int f))), some (.lst (dueL (.str a) (.str b) (.int f))), some (.lst [.str a, .str b, .str a, .str b, .str b, .str a, .str a, .str b, .str a, .int f, .int f, .str b]), w9, w10] S := by
  unfold b_law_right_1
  refine (sSeq_nx (env1 := [c, some (.str a), some (.str b), some (.int f), p, q, some (.lst (excL (.str a) (.str b) (.int f))), some (.lst [.str a, .str b, .str a, .str b, .str b, .str a, .str a]), w8, w9, w10]) (S1 := S) (by kernel_rfl)).trans ?_
  refine (sSeq_nx (env1 := [c, some (.str a), some (.str b), some (.int f), p, q, some (.lst (excL (.str a) (.str b) (.int f))), some (.lst [.str a, .str b, .str a, .str b, .str b, .str a, .str a, .str b, .str a, .int f, .int f, .str b, .str a]), w8, w9, w10]) (S1 := S) (by kernel_rfl)).trans ?_
  refine (sSeq_nx (env1 := [c, some (.str a), some (.str b), some (.int f), p, q, some (.lst (excL (.str a) (.str b) (.int f))), some (.lst (dueL (.str a) (.str b) (.int f))), w8, w9, w10]) (S1 := S) (by kernel_rfl)).trans ?_
  refine (sSeq_nx (env1 := [c, some (.str a), some (.str b), some (.int f), p, q, some (.lst (excL (.str a) (.str b) (.int f))), some (.lst (dueL (.str a) (.str b) (.int f))), some (.lst [.str a, .str b, .str a, .str b, .str b, .str a, .str a, .str b, .str a, .int f, .int f, .str b]), w9, w10]) (S1 := S) (by kernel_rfl)).trans ?_
  have s3 := sIf_f (p := sRet (sC (.bl false))) (q := sNext) (S1 := S) (cNot_ok (r := true) (isB_ok ((sCall_ok (aCons_ok (m := sV 7) (env := [c, some (.str a), some (.str b), some (.int f), p, q, some (.lst (excL (.str a) (.str b) (.int f))), some (.lst (dueL (.str a) (.str b) (.int f))), some (.lst [.str a, .str b, .str a, .str b, .str b, .str a, .str a, .str b, .str a, .int f, .int f, .str b]), w9, w10]) (d := .lst (dueL (.str a) (.str b) (.int f))) (S := S) (S1 := S) rfl (aCons_ok (m := sOp fAdd (sV 8) (sLst (aCons (sV 1) (aCons (sV 2) (aCons (sTup (aCons (sV 1) (aCons (sV 2) (aNil)))) (aCons (sV 3) (aNil))))))) (d := .lst (dueL (.str a) (.str b) (.int f))) (S1 := S) (by kernel_rfl) aNil_ok))).trans (same_ok 6 _ due_sm))))
  refine (sSeq_nx (s3.trans rfl)).trans ?_
  refine (sIf_f (S1 := S) (cNot_ok (r := true) (isB_ok ((sF1 (sLc_ok (S1 := S) (S2 := S) (ds := enumD (excL (.str a) (.str b) (.int f))) (ys := (enumD (excL (.str a) (.str b) (.int f))).map fun _ => .bl true) rfl ?_)).trans (all_true _))))).trans rfl
  have key := lc_map (t := .tp [9, 10]) (c := cYes) (e := sCall (f_law_place_right) (aCons (sV 10) (aCons (sV 9) (aNil)))) (env := [c, some (.str a), some (.str b), some (.int f), p, q, some (.lst (excL (.str a) (.str b) (.int f))), some (.lst (dueL (.str a) (.str b) (.int f))), some (.lst [.str a, .str b, .str a, .str b, .str b, .str a, .str a, .str b, .str a, .int f, .int f, .str b]), none, none]) (S := S) (f := id) (g := fun _ => .bl true) (enumD (excL (.str a) (.str b) (.int f))) (fun d hd => by
    have he : enumD (excL (.str a) (.str b) (.int f)) = [.tup [.int 0, .exc "Twice" [("name", .str a)]], .tup [.int 1, .exc "Loop" [("name", .str b)]], .tup [.int 2, .exc "SameGate" [("other", .str b), ("one", .str a)]], .tup [.int 3, .exc "Waits" [("other", .str a), ("name", .str b)]], .tup [.int 4, .exc "Away" [("name", .str a)]], .tup [.int 5, .exc "Here" [("name", .str b)]], .tup [.int 6, .exc "OtherWeb" []], .tup [.int 7, .exc "Stands" []], .tup [.int 8, .exc "Endless" [("name", .str a)]], .tup [.int 9, .exc "NoClock" []], .tup [.int 10, .exc "TooMany" [("most", .int f)]], .tup [.int 11, .exc "BadText" []], .tup [.int 12, .exc "BadLine" [("number", .int f)]], .tup [.int 13, .exc "NothingDone" []], .tup [.int 14, .exc "NoGarden" [("name", .str b)]], .tup [.int 15, .exc "NoGate" [("other", .str b), ("one", .str a)]], .tup [.int 16, .exc "NoRing" [("ring", .tup [.str a, .str b])]], .tup [.int 17, .exc "NoNumber" [("number", .int f)]]] := rfl
    rw [he] at hd
    have pl := fun fs => place fs S
    have go : ∀ (k : Int) (x : D), f_law_place_right [x, .int k] S = .ok (.bl true) S → ∃ env1, tgE [c, some (.str a), some (.str b), some (.int f), p, q, some (.lst (excL (.str a) (.str b) (.int f))), some (.lst (dueL (.str a) (.str b) (.int f))), some (.lst [.str a, .str b, .str a, .str b, .str b, .str a, .str a, .str b, .str a, .int f, .int f, .str b]), none, none] (.tp [9, 10]) (.tup [.int k, x]) = some env1 ∧ cYes env1 S = .ok true S ∧ sCall (f_law_place_right) (aCons (sV 10) (aCons (sV 9) (aNil))) env1 S = .ok (.bl true) S := fun k x h => ⟨_, rfl, rfl, (call2 rfl rfl).trans h⟩
    simp only [List.mem_cons, List.not_mem_nil, or_false] at hd
    rcases hd with rfl | rfl | rfl | rfl | rfl | rfl | rfl | rfl | rfl | rfl | rfl | rfl | rfl | rfl | rfl | rfl | rfl | rfl
    · exact go _ _ (pl _).1
    · exact go _ _ (pl _).2.1
    · exact go _ _ (pl _).2.2.1
    · exact go _ _ (pl _).2.2.2.1
    · exact go _ _ (pl _).2.2.2.2.1
    · exact go _ _ (pl _).2.2.2.2.2.1
    · exact go _ _ (pl _).2.2.2.2.2.2.1
    · exact go _ _ (pl _).2.2.2.2.2.2.2.1
    · exact go _ _ (pl _).2.2.2.2.2.2.2.2.1
    · exact go _ _ (pl _).2.2.2.2.2.2.2.2.2.1
    · exact go _ _ (pl _).2.2.2.2.2.2.2.2.2.2.1
    · exact go _ _ (pl _).2.2.2.2.2.2.2.2.2.2.2.1
    · exact go _ _ (pl _).2.2.2.2.2.2.2.2.2.2.2.2.1
    · exact go _ _ (pl _).2.2.2.2.2.2.2.2.2.2.2.2.2.1
    · exact go _ _ (pl _).2.2.2.2.2.2.2.2.2.2.2.2.2.2.1
    · exact go _ _ (pl _).2.2.2.2.2.2.2.2.2.2.2.2.2.2.2.1
    · exact go _ _ (pl _).2.2.2.2.2.2.2.2.2.2.2.2.2.2.2.2.1
    · exact go _ _ (pl _).2.2.2.2.2.2.2.2.2.2.2.2.2.2.2.2.2) (by simp [enumD, excL, lim])
  rw [List.map_id] at key
  exact key
end K00
end S_K00M2
section S_K00Math
set_option Elab.async false
set_option linter.all false
set_option maxRecDepth 100000
set_option maxHeartbeats 4000000
namespace K00
open PySem L2 T LW
theorem right_ok : RightOk f_law_right := fun L n S h => by
  obtain ⟨l, S1, e1, T0, B1⟩ := tags_ok (m := 2) h (by omega) (by omega)
  obtain ⟨v, S2, e2, v0, v1, B2⟩ := take_bx (m := 999) B1 (by omega) (by omega) (by omega)
  obtain ⟨d, S3, e3, hd, B3⟩ := of_bx (ds := [.int 1, .int (10 ^ 27)]) B2 (by omega) (by simp) (by simp)
  obtain ⟨a, b, rfl⟩ : ∃ a b, l = [a, b] := by
    match l, T0.len with
    | [a, b], _ => exact ⟨a, b, rfl⟩
  obtain ⟨j, rfl⟩ : ∃ j, d = .int j := by
    simp at hd
    rcases hd with rfl | rfl
    · exact ⟨_, rfl⟩
    · exact ⟨_, rfl⟩
  have s2 : sAsg (sOp fMulA (sOp fSub (sCall (LW.f_law_take) (aCons (sV 0) (aCons (sC (.int 999)) (aNil)))) (sC (.int 400))) (sCall (LW.f_law_of) (aCons (sV 0) (aCons (sLst (aCons (sC (.int 1)) (aCons (sOp fPow (sC (.int 10)) (sC (.int 27))) (aNil)))) (aNil))))) (gN 3) [some (.cell n), some (.str a), some (.str b), none, none, none, none, none, none, none, none] S1 = .nx [some (.cell n), some (.str a), some (.str b), some (.int ((v - 400) * j)), none, none, none, none, none, none, none] S3 := by
    refine sAsg_gN ((sOp_ok (d := .int (v - 400)) (e := .int j) (S1 := S2) ?_ ?_).trans (e_mulL ⟨by omega, by omega⟩))
    · exact (sOp_ok (d := .int v) (e := .int 400) ((call2 rfl rfl).trans e2) rfl).trans e_sub
    · exact (call2 (d := .cell n) (e := .lst [.int 1, .int (10 ^ 27)]) (S1 := S2) (S2 := S2) rfl (by kernel_rfl)).trans e3
  refine ⟨S3, ?_, B3.len, B3.all⟩
  generalize (v - 400) * j = f at s2
  have fin : f_law_right [.cell n] S = fnEnd S.length (m_law_right (entry 11 [.cell n]) S) := rfl
  have run : m_law_right (entry 11 [.cell n]) S = .rt (.bl true) S3 := by
    unfold m_law_right
    refine (sSeq_nx (env1 := [some (.cell n), some (.str a), some (.str b), none, none, none, none, none, none, none, none]) (S1 := S1) ((sAsg_ok ((call2 rfl rfl).trans e1)).trans rfl)).trans ((sSeq_nx s2).trans ?_)
    refine (sSeq_nx (env1 := [some (.cell n), some (.str a), some (.str b), some (.int f), some (.lst ((excL (.str a) (.str b) (.int f)).take 5)), none, none, none, none, none, none]) (S1 := S3) (by kernel_rfl)).trans ?_
    refine (sSeq_nx (env1 := [some (.cell n), some (.str a), some (.str b), some (.int f), some (.lst ((excL (.str a) (.str b) (.int f)).take 12)), none, none, none, none, none, none]) (S1 := S3) (by kernel_rfl)).trans ?_
    refine (sSeq_nx (env1 := [some (.cell n), some (.str a), some (.str b), some (.int f), some (.lst ((excL (.str a) (.str b) (.int f)).take 16)), none, none, none, none, none, none]) (S1 := S3) (by kernel_rfl)).trans ?_
    refine (sSeq_nx (env1 := [some (.cell n), some (.str a), some (.str b), some (.int f), some (.lst (excL (.str a) (.str b) (.int f))), none, none, none, none, none, none]) (S1 := S3) (by kernel_rfl)).trans ?_
    refine (sSeq_nx (env1 := [some (.cell n), some (.str a), some (.str b), some (.int f), some (.lst (excL (.str a) (.str b) (.int f))), some (.lst ((excL (.str a) (.str b) (.int f)).take 3)), none, none, none, none, none]) (S1 := S3) (by kernel_rfl)).trans ?_
    refine (sSeq_nx (env1 := [some (.cell n), some (.str a), some (.str b), some (.int f), some (.lst (excL (.str a) (.str b) (.int f))), some (.lst ((excL (.str a) (.str b) (.int f)).take 8)), none, none, none, none, none]) (S1 := S3) (by kernel_rfl)).trans ?_
    refine (sSeq_nx (env1 := [some (.cell n), some (.str a), some (.str b), some (.int f), some (.lst (excL (.str a) (.str b) (.int f))), some (.lst ((excL (.str a) (.str b) (.int f)).take 13)), none, none, none, none, none]) (S1 := S3) (by kernel_rfl)).trans ?_
    refine (sSeq_nx (env1 := [some (.cell n), some (.str a), some (.str b), some (.int f), some (.lst (excL (.str a) (.str b) (.int f))), some (.lst ((excL (.str a) (.str b) (.int f)).take 16)), none, none, none, none, none]) (S1 := S3) (by kernel_rfl)).trans ?_
    refine (sSeq_nx (env1 := [some (.cell n), some (.str a), some (.str b), some (.int f), some (.lst (excL (.str a) (.str b) (.int f))), some (.lst (excL (.str a) (.str b) (.int f))), none, none, none, none, none]) (S1 := S3) (by kernel_rfl)).trans ?_
    refine (sSeq_nx ((sFor_ok (S1 := S3) (ds := [.lst (excL (.str a) (.str b) (.int f)), .lst (excL (.str a) (.str b) (.int f))]) rfl).trans ((forGo_nx rfl body_ok).trans ((forGo_nx rfl body_ok).trans rfl)))).trans ?_
    exact sRet_ok ((call2 rfl rfl).trans caught_ok)
  rw [fin, run]
  exact fin_ok (B3.len.trans h.len.symm)
theorem law_math (ns : List Int) (h : ns.length ≤ 63) : ∃ S, f_law [.rdl (ns.map D.int)] [] = .ok (.bl true) S := by
  obtain ⟨l, e1, hl⟩ := cells_ok ns h
  obtain ⟨ys, S', e2, hy⟩ := rights_ok (fr := f_law_right) (fb := f_law_box) (c0 := 619) rfl right_ok (l := l) (by omega) (d0 := .rdl (ns.map D.int))
  refine ⟨S', ?_⟩
  have fin : f_law [.rdl (ns.map D.int)] [] = fnEndR (m_law [some (.rdl (ns.map D.int)), none, none] []) := rfl
  have run : m_law [some (.rdl (ns.map D.int)), none, none] [] = .rt (.bl true) S' := by
    unfold m_law
    refine (sSeq_nx (env1 := [some (.rdl (ns.map D.int)), some (.lst (nums l)), none]) (S1 := []) (sAsg_gN ((call2 rfl rfl).trans e1))).trans (sRet_ok ((sF1 e2).trans ?_))
    rw [trues_of hy]
    exact all_true ys
  rw [fin, run]
  rfl
end K00
end S_K00Math
section S_K00Head
set_option Elab.async false
set_option linter.all false
set_option maxRecDepth 100000
set_option maxHeartbeats 0
namespace K00
open PySem PySem.Spec PyProof.Rows L2 T
def fa0 : List He.Fa := [.glo "_law_box", .glo "_law_take", .glo "_law_cells", .glo "_law_of", .glo "_law_same", .glo "_law_mixed", .glo "_law_tags", .glo "_law_which", .glo "_law_place_right", .glo "_law_caught", .glo "_law_right", .glo "law", .glo "Twice", .glo "Loop", .glo "SameGate", .glo "Waits", .glo "Away", .glo "Here", .glo "OtherWeb", .glo "Stands", .glo "Endless", .glo "NoClock", .glo "TooMany", .glo "BadText", .glo "BadLine", .glo "NothingDone", .glo "NoGarden", .glo "NoGate", .glo "NoRing", .glo "NoNumber"]
def fa1 : List He.Fa := [.free "IndexError", .free "KeyError", .free "LookupError", .free "ValueError", .free "abs", .free "all", .free "bool", .free "enumerate", .free "int", .free "isinstance", .free "len", .free "list", .free "min", .free "range", .free "str", .free "super", .free "tuple", .free "zip", .exc "OtherWeb", .exc "Stands", .exc "NoClock", .exc "BadText", .exc "NothingDone"]
def fa : List He.Fa := fa0 ++ fa1
def fn0 : List He.DefD := [⟨("_law_box", none), "_law_box", "_law_box", defArgs s_law_box, defBody s_law_box, defScope s_law_box, [], []⟩, ⟨("_law_take", none), "_law_take", "_law_take", defArgs s_law_take, defBody s_law_take, defScope s_law_take, [], []⟩, ⟨("_law_cells", none), "_law_cells", "_law_cells", defArgs s_law_cells, defBody s_law_cells, defScope s_law_cells, [], []⟩, ⟨("_law_of", none), "_law_of", "_law_of", defArgs s_law_of, defBody s_law_of, defScope s_law_of, [], []⟩, ⟨("_law_same", none), "_law_same", "_law_same", defArgs s_law_same, defBody s_law_same, defScope s_law_same, [], []⟩, ⟨("_law_mixed", none), "_law_mixed", "_law_mixed", defArgs s_law_mixed, defBody s_law_mixed, defScope s_law_mixed, [], []⟩, ⟨("_law_tags", none), "_law_tags", "_law_tags", defArgs s_law_tags, defBody s_law_tags, defScope s_law_tags, [], []⟩, ⟨("_law_which", none), "_law_which", "_law_which", defArgs s_law_which, defBody s_law_which, defScope s_law_which, [], []⟩, ⟨("_law_place_right", none), "_law_place_right", "_law_place_right", defArgs s_law_place_right, defBody s_law_place_right, defScope s_law_place_right, [], []⟩, ⟨("_law_caught", none), "_law_caught", "_law_caught", defArgs s_law_caught, defBody s_law_caught, defScope s_law_caught, [], []⟩, ⟨("_law_right", none), "_law_right", "_law_right", defArgs s_law_right, defBody s_law_right, defScope s_law_right, [], []⟩, ⟨("law", none), "law", "law", defArgs s_law, defBody s_law, defScope s_law, [], []⟩]
def fn : List He.DefD := fn0
def ini : List (Str × FnT) := [("Twice", some (defArgs s_Twice, .stmts (defBody s_Twice), defScope s_Twice)), ("Loop", some (defArgs s_Loop, .stmts (defBody s_Loop), defScope s_Loop)), ("SameGate", some (defArgs s_SameGate, .stmts (defBody s_SameGate), defScope s_SameGate)), ("Waits", some (defArgs s_Waits, .stmts (defBody s_Waits), defScope s_Waits)), ("Away", some (defArgs s_Away, .stmts (defBody s_Away), defScope s_Away)), ("Here", some (defArgs s_Here, .stmts (defBody s_Here), defScope s_Here)), ("Endless", some (defArgs s_Endless, .stmts (defBody s_Endless), defScope s_Endless)), ("TooMany", some (defArgs s_TooMany, .stmts (defBody s_TooMany), defScope s_TooMany)), ("BadLine", some (defArgs s_BadLine, .stmts (defBody s_BadLine), defScope s_BadLine)), ("NoGarden", some (defArgs s_NoGarden, .stmts (defBody s_NoGarden), defScope s_NoGarden)), ("NoGate", some (defArgs s_NoGate, .stmts (defBody s_NoGate), defScope s_NoGate)), ("NoRing", some (defArgs s_NoRing, .stmts (defBody s_NoRing), defScope s_NoRing)), ("NoNumber", some (defArgs s_NoNumber, .stmts (defBody s_NoNumber), defScope s_NoNumber))]
def bi : List (Str × String) := [("IndexError", "IndexError"), ("KeyError", "KeyError"), ("LookupError", "LookupError"), ("ValueError", "ValueError")]
abbrev pf : Str := PySem.Challenge.pw_gatekeys_k00_errors_made_by_hand.main.file
def ex_Twice (K : PySem.W.Frag) : Bool := iniB pf K "Twice" "ValueError" "ValueError.__new__" bmV ["name"]
def ex_Loop (K : PySem.W.Frag) : Bool := iniB pf K "Loop" "ValueError" "ValueError.__new__" bmV ["name"]
def ex_SameGate (K : PySem.W.Frag) : Bool := iniB pf K "SameGate" "ValueError" "ValueError.__new__" bmV ["one", "other"]
def ex_Waits (K : PySem.W.Frag) : Bool := iniB pf K "Waits" "ValueError" "ValueError.__new__" bmV ["name", "other"]
def ex_Away (K : PySem.W.Frag) : Bool := iniB pf K "Away" "ValueError" "ValueError.__new__" bmV ["name"]
def ex_Here (K : PySem.W.Frag) : Bool := iniB pf K "Here" "ValueError" "ValueError.__new__" bmV ["name"]
def ex_Endless (K : PySem.W.Frag) : Bool := iniB pf K "Endless" "ValueError" "ValueError.__new__" bmV ["name"]
def ex_TooMany (K : PySem.W.Frag) : Bool := iniB pf K "TooMany" "ValueError" "ValueError.__new__" bmV ["most"]
def ex_BadLine (K : PySem.W.Frag) : Bool := iniB pf K "BadLine" "ValueError" "ValueError.__new__" bmV ["number"]
def ex_NoGarden (K : PySem.W.Frag) : Bool := iniB pf K "NoGarden" "LookupError" "LookupError.__new__" bmL ["name"]
def ex_NoGate (K : PySem.W.Frag) : Bool := iniB pf K "NoGate" "LookupError" "LookupError.__new__" bmL ["one", "other"]
def ex_NoRing (K : PySem.W.Frag) : Bool := iniB pf K "NoRing" "LookupError" "LookupError.__new__" bmL ["ring"]
def ex_NoNumber (K : PySem.W.Frag) : Bool := iniB pf K "NoNumber" "LookupError" "LookupError.__new__" bmL ["number"]
def ex (K : PySem.W.Frag) : Bool := [xtT.all (xisB bi K), xfT.all (xfB' K), xmT.all (xmB K), ex_Twice K, ex_Loop K, ex_SameGate K, ex_Waits K, ex_Away K, ex_Here K, ex_Endless K, ex_TooMany K, ex_BadLine K, ex_NoGarden K, ex_NoGate K, ex_NoRing K, ex_NoNumber K].all id
abbrev R : PySem.W.OpenRow := PySem.W.OpenLaw.row PySem.Challenge.rw_gatekeys_k00_errors_made_by_hand
abbrev hk : PySem.W.Hook := hookI 5 fa fn ex ini
def ob (s : PySem.W.SharedT) : AlI := obsI 5 fa fn ex ini (HandSHeadRun.getT s)
theorem ob_eq (s : PySem.W.SharedT) : ob s = hk.obs s.abs := obsI_eq (HandSHeadRun.getT_eq s)
abbrev loose0 : List Str := ["Twice", "Loop", "SameGate", "Waits", "Away", "Here", "OtherWeb", "Stands", "Endless", "NoClock", "TooMany", "BadText", "BadLine", "NothingDone", "NoGarden", "NoGate", "NoRing", "NoNumber", "_law_box", "_law_take", "_law_cells", "_law_of", "_law_same", "_law_mixed", "_law_tags", "_law_which", "_law_place_right", "_law_caught", "_law_right"]
abbrev loose : List Str := loose0
theorem run (w : World) : HandSHeadRun.RunEq R (PySem.W.view R.prog [31]) hk ob 9000 loose w := by
  intro os
  kernel_rfl
theorem txt {K : PySem.W.Frag} {h : Heap} {mg : Str → Option Value} (X : K.In h) (G : h.Ns mainGlobals mg) (c : SaysI fa fn ex ini K) : Txt (PySem.Challenge.rw_gatekeys_k00_errors_made_by_hand).prog K mg := by
  have e := List.all_eq_true.mp c.more
  exact ⟨free_of X G c.d 30 rfl,
    free_of X G c.d 31 rfl,
    free_of X G c.d 32 rfl,
    free_of X G c.d 33 rfl,
    free_of X G c.d 34 rfl,
    free_of X G c.d 35 rfl,
    free_of X G c.d 36 rfl,
    free_of X G c.d 37 rfl,
    free_of X G c.d 38 rfl,
    free_of X G c.d 39 rfl,
    free_of X G c.d 40 rfl,
    free_of X G c.d 41 rfl,
    free_of X G c.d 42 rfl,
    free_of X G c.d 43 rfl,
    free_of X G c.d 44 rfl,
    free_of X G c.d 45 rfl,
    free_of X G c.d 46 rfl,
    free_of X G c.d 47 rfl,
    exc_of X G c.d 18 48 rfl rfl,
    exc_of X G c.d 19 49 rfl rfl,
    exc_of X G c.d 21 50 rfl rfl,
    exc_of X G c.d 23 51 rfl rfl,
    exc_of X G c.d 25 52 rfl rfl,
    He.glo_ok X G (c.d.fact 12 (f := .glo "Twice") rfl),
    He.glo_ok X G (c.d.fact 13 (f := .glo "Loop") rfl),
    He.glo_ok X G (c.d.fact 14 (f := .glo "SameGate") rfl),
    He.glo_ok X G (c.d.fact 15 (f := .glo "Waits") rfl),
    He.glo_ok X G (c.d.fact 16 (f := .glo "Away") rfl),
    He.glo_ok X G (c.d.fact 17 (f := .glo "Here") rfl),
    He.glo_ok X G (c.d.fact 18 (f := .glo "OtherWeb") rfl),
    He.glo_ok X G (c.d.fact 19 (f := .glo "Stands") rfl),
    He.glo_ok X G (c.d.fact 20 (f := .glo "Endless") rfl),
    He.glo_ok X G (c.d.fact 21 (f := .glo "NoClock") rfl),
    He.glo_ok X G (c.d.fact 22 (f := .glo "TooMany") rfl),
    He.glo_ok X G (c.d.fact 23 (f := .glo "BadText") rfl),
    He.glo_ok X G (c.d.fact 24 (f := .glo "BadLine") rfl),
    He.glo_ok X G (c.d.fact 25 (f := .glo "NothingDone") rfl),
    He.glo_ok X G (c.d.fact 26 (f := .glo "NoGarden") rfl),
    He.glo_ok X G (c.d.fact 27 (f := .glo "NoGate") rfl),
    He.glo_ok X G (c.d.fact 28 (f := .glo "NoRing") rfl),
    He.glo_ok X G (c.d.fact 29 (f := .glo "NoNumber") rfl),
    ini_of X G c.d 12 45 rfl rfl (e (ex_Twice K) (List.mem_of_getElem? (i := 3) rfl)) (c.ini 0 _ _ rfl) (by kernel_rfl),
    ini_of X G c.d 13 45 rfl rfl (e (ex_Loop K) (List.mem_of_getElem? (i := 4) rfl)) (c.ini 1 _ _ rfl) (by kernel_rfl),
    ini_of X G c.d 14 45 rfl rfl (e (ex_SameGate K) (List.mem_of_getElem? (i := 5) rfl)) (c.ini 2 _ _ rfl) (by kernel_rfl),
    ini_of X G c.d 15 45 rfl rfl (e (ex_Waits K) (List.mem_of_getElem? (i := 6) rfl)) (c.ini 3 _ _ rfl) (by kernel_rfl),
    ini_of X G c.d 16 45 rfl rfl (e (ex_Away K) (List.mem_of_getElem? (i := 7) rfl)) (c.ini 4 _ _ rfl) (by kernel_rfl),
    ini_of X G c.d 17 45 rfl rfl (e (ex_Here K) (List.mem_of_getElem? (i := 8) rfl)) (c.ini 5 _ _ rfl) (by kernel_rfl),
    ini_of X G c.d 20 45 rfl rfl (e (ex_Endless K) (List.mem_of_getElem? (i := 9) rfl)) (c.ini 6 _ _ rfl) (by kernel_rfl),
    ini_of X G c.d 22 45 rfl rfl (e (ex_TooMany K) (List.mem_of_getElem? (i := 10) rfl)) (c.ini 7 _ _ rfl) (by kernel_rfl),
    ini_of X G c.d 24 45 rfl rfl (e (ex_BadLine K) (List.mem_of_getElem? (i := 11) rfl)) (c.ini 8 _ _ rfl) (by kernel_rfl),
    ini_of X G c.d 26 45 rfl rfl (e (ex_NoGarden K) (List.mem_of_getElem? (i := 12) rfl)) (c.ini 9 _ _ rfl) (by kernel_rfl),
    ini_of X G c.d 27 45 rfl rfl (e (ex_NoGate K) (List.mem_of_getElem? (i := 13) rfl)) (c.ini 10 _ _ rfl) (by kernel_rfl),
    ini_of X G c.d 28 45 rfl rfl (e (ex_NoRing K) (List.mem_of_getElem? (i := 14) rfl)) (c.ini 11 _ _ rfl) (by kernel_rfl),
    ini_of X G c.d 29 45 rfl rfl (e (ex_NoNumber K) (List.mem_of_getElem? (i := 15) rfl)) (c.ini 12 _ _ rfl) (by kernel_rfl),
    xis_of (bi := bi) X G (e _ (List.mem_of_getElem? (i := 0) rfl)),
    xfld_of X G (e _ (List.mem_of_getElem? (i := 1) rfl)),
    xma_of X G (e _ (List.mem_of_getElem? (i := 2) rfl))⟩
theorem cal {w : World} {K : PySem.W.Frag} {mg : Str → Option Value} {base h : Heap} (X : K.In h) (G : h.Ns mainGlobals mg) (c : SaysI fa fn ex ini K) : Cal (PySem.Challenge.rw_gatekeys_k00_errors_made_by_hand).prog w K mg base "law" s_law 10 ["_law_script"] f_law := by
  have T := txt X G c
  have c_law_box := ok_law_box (P := (PySem.Challenge.rw_gatekeys_k00_errors_made_by_hand).prog) (w := w) (base := base) T (dfd_of X G c.d (x := "_law_box") (st := s_law_box) 0 0 rfl rfl) 
  have c_law_take := ok_law_take (P := (PySem.Challenge.rw_gatekeys_k00_errors_made_by_hand).prog) (w := w) (base := base) T (dfd_of X G c.d (x := "_law_take") (st := s_law_take) 1 1 rfl rfl) 
  have c_law_cells := ok_law_cells (P := (PySem.Challenge.rw_gatekeys_k00_errors_made_by_hand).prog) (w := w) (base := base) T (dfd_of X G c.d (x := "_law_cells") (st := s_law_cells) 2 2 rfl rfl) 
  have c_law_of := ok_law_of (P := (PySem.Challenge.rw_gatekeys_k00_errors_made_by_hand).prog) (w := w) (base := base) T (dfd_of X G c.d (x := "_law_of") (st := s_law_of) 3 3 rfl rfl) c_law_take
  have c_law_same := ok_law_same (P := (PySem.Challenge.rw_gatekeys_k00_errors_made_by_hand).prog) (w := w) (base := base) T (dfd_of X G c.d (x := "_law_same") (st := s_law_same) 4 4 rfl rfl)  6
  have c_law_mixed := ok_law_mixed (P := (PySem.Challenge.rw_gatekeys_k00_errors_made_by_hand).prog) (w := w) (base := base) T (dfd_of X G c.d (x := "_law_mixed") (st := s_law_mixed) 5 5 rfl rfl) c_law_take
  have c_law_tags := ok_law_tags (P := (PySem.Challenge.rw_gatekeys_k00_errors_made_by_hand).prog) (w := w) (base := base) T (dfd_of X G c.d (x := "_law_tags") (st := s_law_tags) 6 6 rfl rfl) c_law_take c_law_mixed
  have c_law_which := ok_law_which (P := (PySem.Challenge.rw_gatekeys_k00_errors_made_by_hand).prog) (w := w) (base := base) T (dfd_of X G c.d (x := "_law_which") (st := s_law_which) 7 7 rfl rfl) 
  have c_law_place_right := ok_law_place_right (P := (PySem.Challenge.rw_gatekeys_k00_errors_made_by_hand).prog) (w := w) (base := base) T (dfd_of X G c.d (x := "_law_place_right") (st := s_law_place_right) 8 8 rfl rfl) c_law_same c_law_which
  have c_law_caught := ok_law_caught (P := (PySem.Challenge.rw_gatekeys_k00_errors_made_by_hand).prog) (w := w) (base := base) T (dfd_of X G c.d (x := "_law_caught") (st := s_law_caught) 9 9 rfl rfl) c_law_same
  have c_law_right := ok_law_right (P := (PySem.Challenge.rw_gatekeys_k00_errors_made_by_hand).prog) (w := w) (base := base) T (dfd_of X G c.d (x := "_law_right") (st := s_law_right) 10 10 rfl rfl) c_law_take c_law_of c_law_same c_law_tags c_law_place_right c_law_caught
  have c_law := ok_law (P := (PySem.Challenge.rw_gatekeys_k00_errors_made_by_hand).prog) (w := w) (base := base) T (dfd_of X G c.d (x := "law") (st := s_law) 11 11 rfl rfl) c_law_box c_law_cells c_law_right
  exact c_law
end K00
open PySem PySem.W PySem.Calls PyProof.Rows
theorem PySem.Challenge.cw_gatekeys_k00_errors_made_by_hand_holds : PySem.Challenge.rw_gatekeys_k00_errors_made_by_hand.Holds := by
  w_on; o_law
  refine HandSHeadRun.head_any (r := OpenLaw.row PySem.Challenge.rw_gatekeys_k00_errors_made_by_hand) (q := view (OpenLaw.row PySem.Challenge.rw_gatekeys_k00_errors_made_by_hand).prog [31]) (H := K00.hk) (ob := K00.ob) (M := 9000) (loose := K00.loose) (d := HandSHeadRun.topDef (OpenLaw.row PySem.Challenge.rw_gatekeys_k00_errors_made_by_hand).prog 31) (kwd := []) K00.ob_eq
    (by kernel_rfl) (fun s => by kernel_rfl) K00.run (by kernel_rfl) (by kernel_rfl) (by kernel_rfl) (by rfl) (by first | assumption | decide +kernel) (by decide +kernel) ⟨rfl, rfl, rfl, rfl, rfl, by decide +kernel⟩ ?hw ?hc
  case hw => w_witness2
  case hc =>
    refine L2.walk_ofE (l := PySem.Challenge.rw_gatekeys_k00_errors_made_by_hand) (n := 63) (k := 10) (x := "_law_script") (CX := L2.CX0) rfl (by decide) (by kernel_rfl) ⟨rfl, by decide, by decide⟩ ?F (fun _ _ _ _ z => z)
    intro w mg fa h Y G hmg0
    obtain ⟨K, KX, c⟩ := Y
    have hmg : mg ("law" : PySem.Str) = some (.ref fa) := by
      have e : (HandSHeadRun.topDef (OpenLaw.row PySem.Challenge.rw_gatekeys_k00_errors_made_by_hand).prog 31).name = ("law" : PySem.Str) := by kernel_rfl
      rw [← e]
      exact hmg0
    have cc := fun base : Heap => K00.cal (w := w) (base := base) KX G c
    obtain ⟨fd, F, _⟩ := T.law_true (cc h) hmg
    have b := L2.FunD.bindsA (ps := ["_law_script"]) F fun _ _ _ _ _ _ us hl => match us, hl with | [_], _ => rfl
    refine ⟨K, fd, fun vs H Q _ => T.spF K00.f_law K mg vs H Q fun _ _ _ => False, KX, fun s u => b s [u] rfl, fun H a ns hl _ hS => T.script_read hS (K00.law_math ns hl), fun base _ _ => ?_⟩
    obtain ⟨fd', F', ok⟩ := T.law_true (cc base) hmg
    have e := T.fd_one F F'
    subst e
    exact ok
end S_K00Head
