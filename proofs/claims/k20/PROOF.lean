import PyProof.Rows.All
import Wide.All
import OpenK.AllK
import Wide.FinOn
import HandS.ForMost
import HandS.Walk
import HandS.Exc
import HandS.WordsExc
import HandS.Flow
import HandS.CallSlots
import HandS.ExcOwn
import HandS.Defaults
import HandS.TupAny
import HandS.TupMul
import HandS.IsInst
import HandS.Deep
import HandS.Wide
import HandS.StrMore
import HandS.Zip
import HandS.NoneIn
import HandS.ExcIs
import HandS.RaiseMore
import HandS.Style
import HandS.Conv
import HandS.HeadEnd
import HandS.HeadHook1
import HandS.HeadHook2
import HandS.HeadHook4
import HandS.Head0
import HandS.Head1
import HandS.Head2
import PySem.Challenge.RW_gatekeys_k20_names_and_turns_as_texts
section S_TCore
set_option Elab.async false
set_option linter.all false
set_option maxRecDepth 100000
set_option maxHeartbeats 4000000
namespace T
open PySem L2

/-! ### data -/
inductive D where
  | non | bl (b : Bool) | int (i : Int) | str (x : Str)
  | tup (ds : List D) | lst (ds : List D) | rdl (ds : List D)
  | dk (kvs : List (Key × D))
  | obj (C : Str) (fs : List (Str × D))
  | exc (C : Str) (fs : List (Str × D))
  | cell (n : Nat)
  deriving Inhabited

inductive Cel where
  | lv (d : D)
  | fz (d : D)
abbrev Sto := List Cel
abbrev Env := List (Option D)

inductive Res (α : Type) where
  | ok (a : α) (S : Sto)
  | exc (C : Str) (fs : List (Str × D)) (S : Sto)
  | bad
def Res.bind {α β : Type} (r : Res α) (k : α → Sto → Res β) : Res β := match r with
  | .ok a S => k a S
  | .exc C fs S => .exc C fs S
  | .bad => .bad

abbrev SemE := Env → Sto → Res D
abbrev SemA := Env → Sto → Res (List D)
abbrev SemT := Env → Sto → Res Bool

/-- heap, frozen part of it, addresses of the cells, what the cells hold -/
structure Stt where
  H : Hp
  Hf : Hp
  ρ : List Addr
  S : Sto

/-- an exception's object, kept -/
def XO (cls : Value) (d : Option Addr) (a : Addr) : HO := .ext fun h => ∃ (oe : Obj) (vs : Array Value), h.get? a = some oe ∧ Zc cls d oe ∧ oe.data = .fields vs
def XD (Hf : Hp) (d : Option Addr) (vfs : List (Str × V)) : Prop := (d = none ∧ vfs = []) ∨ ∃ dd, d = some dd ∧ Hf dd = some (.xd vfs) ∧ vfs ≠ []

section
variable (K : PySem.W.Frag) (mg : Str → Option Value)
mutual
inductive Rp : Hp → List Addr → V → D → Prop
  | non {Hf ρ} : Rp Hf ρ .non .non
  | bl {Hf ρ b} : Rp Hf ρ (.bl b) (.bl b)
  | int {Hf ρ i} : Rp Hf ρ (.int i) (.int i)
  | str {Hf ρ x} : Rp Hf ρ (.str x) (.str x)
  | tup {Hf ρ a vs ds} : SqT K Hf a vs → RpL Hf ρ vs ds → Rp Hf ρ (.ref a) (.tup ds)
  | lst {Hf ρ a vs ds} : Hf a = some (.lst vs) → RpL Hf ρ vs ds → Rp Hf ρ (.ref a) (.lst ds)
  | rdl {Hf ρ a vs ds} : SqL K Hf a vs → RpL Hf ρ vs ds → Rp Hf ρ (.ref a) (.rdl ds)
  | dk {Hf ρ a kvs kds} : Hf a = some (.dK kvs) → RpK Hf ρ kvs kds → Rp Hf ρ (.ref a) (.dk kds)
  | obj {Hf ρ a C ca dx vfs fs} : mg C = some (.ref ca) → Hf a = some (.ins ca dx vfs) → RpF Hf ρ vfs fs → Rp Hf ρ (.ref a) (.obj C fs)
  | exc {Hf ρ a C ca d vfs fs} : mg C = some (.ref ca) → Hf a = some (XO (.ref ca) d a) → XD Hf d vfs → RpF Hf ρ vfs fs → Rp Hf ρ (.ref a) (.exc C fs)
  | cell {Hf ρ a n} : ρ[n]? = some a → Rp Hf ρ (.ref a) (.cell n)
inductive RpL : Hp → List Addr → List V → List D → Prop
  | nil {Hf ρ} : RpL Hf ρ [] []
  | cons {Hf ρ v vs d ds} : Rp Hf ρ v d → RpL Hf ρ vs ds → RpL Hf ρ (v :: vs) (d :: ds)
inductive RpF : Hp → List Addr → List (Str × V) → List (Str × D) → Prop
  | nil {Hf ρ} : RpF Hf ρ [] []
  | cons {Hf ρ k v vs d ds} : Rp Hf ρ v d → RpF Hf ρ vs ds → RpF Hf ρ ((k, v) :: vs) ((k, d) :: ds)
inductive RpK : Hp → List Addr → List (Key × V) → List (Key × D) → Prop
  | nil {Hf ρ} : RpK Hf ρ [] []
  | cons {Hf ρ k v vs d ds} : Rp Hf ρ v d → RpK Hf ρ vs ds → RpK Hf ρ ((k, v) :: vs) ((k, d) :: ds)
end

/-- what a cell holds, in the heap Hx -/
def CelOk (Hf : Hp) (ρ : List Addr) (Hx : Hp) (a : Addr) : D → Prop
  | .lst ds => ∃ vs, Hx a = some (.lst vs) ∧ RpL K mg Hf ρ vs ds
  | .dk kds => ∃ kvs, Hx a = some (.dK kvs) ∧ RpK K mg Hf ρ kvs kds
  | .obj C fs => ∃ ca dx vfs, mg C = some (.ref ca) ∧ Hx a = some (.ins ca dx vfs) ∧ RpF K mg Hf ρ vfs fs
  | _ => False
structure Ok (s : Stt) : Prop where
  len : s.ρ.length = s.S.length
  nd : s.ρ.Nodup
  same : Same s.Hf s.H
  lv : ∀ (n : Nat) (d : D) (a : Addr), s.S[n]? = some (.lv d) → s.ρ[n]? = some a → s.Hf a = none ∧ CelOk K mg s.Hf s.ρ s.H a d
  fz : ∀ (n : Nat) (d : D) (a : Addr), s.S[n]? = some (.fz d) → s.ρ[n]? = some a → CelOk K mg s.Hf s.ρ s.Hf a d
end
structure Le (s t : Stt) : Prop where
  same : Same s.Hf t.Hf
  pre : ∃ l, t.ρ = s.ρ ++ l
  prv : ∀ b o, s.H b = some o → s.Hf b = none → b ∉ s.ρ → t.H b = some o ∧ t.Hf b = none ∧ b ∉ t.ρ
theorem Le.refl (s : Stt) : Le s s := ⟨Same.refl _, ⟨[], by simp⟩, fun b o h1 h2 h3 => ⟨h1, h2, h3⟩⟩
theorem Le.trans {s t u : Stt} (a : Le s t) (b : Le t u) : Le s u := by
  obtain ⟨l, hl⟩ := a.pre
  obtain ⟨m, hm⟩ := b.pre
  refine ⟨a.same.trans b.same, ⟨l ++ m, by rw [hm, hl, List.append_assoc]⟩, fun x o h1 h2 h3 => ?_⟩
  obtain ⟨q1, q2, q3⟩ := a.prv x o h1 h2 h3
  exact b.prv x o q1 q2 q3

theorem sqT_same {K : PySem.W.Frag} {H H' : Hp} {a : Addr} {xs : List V} (e : Same H H') (h : SqT K H a xs) : SqT K H' a xs := by
  rcases h with (h | ⟨o, h⟩) | h
  · exact .inl (.inl (e _ _ h))
  · exact .inl (.inr ⟨o, e _ _ h⟩)
  · exact .inr h
theorem pre_get {ρ l : List Addr} {n : Nat} {a : Addr} (h : ρ[n]? = some a) : (ρ ++ l)[n]? = some a := by
  rw [List.getElem?_append_left (List.getElem?_eq_some_iff.mp h).1]
  exact h
theorem XD.mono {Hf Hf' : Hp} {d : Option Addr} {vfs : List (Str × V)} (e : Same Hf Hf') (h : XD Hf d vfs) : XD Hf' d vfs := by
  rcases h with h | ⟨dd, h1, h2, h3⟩
  · exact .inl h
  · exact .inr ⟨dd, h1, e _ _ h2, h3⟩
section
variable {K : PySem.W.Frag} {mg : Str → Option Value} {Hf Hf' : Hp} {ρ l : List Addr}
mutual
theorem Rp.mono (e : Same Hf Hf') {v : V} {d : D} (h : Rp K mg Hf ρ v d) : Rp K mg Hf' (ρ ++ l) v d := by
  cases h with
  | non => exact .non
  | bl => exact .bl
  | int => exact .int
  | str => exact .str
  | tup h1 h2 => exact .tup (sqT_same e h1) (RpL.mono e h2)
  | lst h1 h2 => exact .lst (e _ _ h1) (RpL.mono e h2)
  | rdl h1 h2 => exact .rdl (e.seq h1) (RpL.mono e h2)
  | dk h1 h2 => exact .dk (e _ _ h1) (RpK.mono e h2)
  | obj h1 h2 h3 => exact .obj h1 (e _ _ h2) (RpF.mono e h3)
  | exc h1 h2 h3 h4 => exact .exc h1 (e _ _ h2) (h3.mono e) (RpF.mono e h4)
  | cell h1 => exact .cell (pre_get h1)
theorem RpL.mono (e : Same Hf Hf') {v : List V} {d : List D} (h : RpL K mg Hf ρ v d) : RpL K mg Hf' (ρ ++ l) v d := by
  cases h with
  | nil => exact .nil
  | cons h1 h2 => exact .cons (Rp.mono e h1) (RpL.mono e h2)
theorem RpF.mono (e : Same Hf Hf') {v : List (Str × V)} {d : List (Str × D)} (h : RpF K mg Hf ρ v d) : RpF K mg Hf' (ρ ++ l) v d := by
  cases h with
  | nil => exact .nil
  | cons h1 h2 => exact .cons (Rp.mono e h1) (RpF.mono e h2)
theorem RpK.mono (e : Same Hf Hf') {v : List (Key × V)} {d : List (Key × D)} (h : RpK K mg Hf ρ v d) : RpK K mg Hf' (ρ ++ l) v d := by
  cases h with
  | nil => exact .nil
  | cons h1 h2 => exact .cons (Rp.mono e h1) (RpK.mono e h2)
end
theorem Rp.le {s t : Stt} (e : Le s t) {v : V} {d : D} (h : Rp K mg s.Hf s.ρ v d) : Rp K mg t.Hf t.ρ v d := by
  obtain ⟨l, hl⟩ := e.pre
  rw [hl]
  exact Rp.mono e.same h
theorem RpL.le {s t : Stt} (e : Le s t) {v : List V} {d : List D} (h : RpL K mg s.Hf s.ρ v d) : RpL K mg t.Hf t.ρ v d := by
  obtain ⟨l, hl⟩ := e.pre
  rw [hl]
  exact RpL.mono e.same h
theorem RpF.le {s t : Stt} (e : Le s t) {v : List (Str × V)} {d : List (Str × D)} (h : RpF K mg s.Hf s.ρ v d) : RpF K mg t.Hf t.ρ v d := by
  obtain ⟨l, hl⟩ := e.pre
  rw [hl]
  exact RpF.mono e.same h
theorem RpK.le {s t : Stt} (e : Le s t) {v : List (Key × V)} {d : List (Key × D)} (h : RpK K mg s.Hf s.ρ v d) : RpK K mg t.Hf t.ρ v d := by
  obtain ⟨l, hl⟩ := e.pre
  rw [hl]
  exact RpK.mono e.same h
theorem RpL.length {v : List V} {d : List D} (h : RpL K mg Hf ρ v d) : v.length = d.length := by
  induction v generalizing d with
  | nil => cases h; rfl
  | cons x xs ih => cases h with | cons h1 h2 => simp [ih h2]
theorem RpL.append {v v' : List V} {d d' : List D} (h : RpL K mg Hf ρ v d) (h' : RpL K mg Hf ρ v' d') : RpL K mg Hf ρ (v ++ v') (d ++ d') := by
  induction v generalizing d with
  | nil => cases h; exact h'
  | cons x xs ih => cases h with | cons h1 h2 => exact .cons h1 (ih h2)
theorem RpL.get {v : List V} {d : List D} (h : RpL K mg Hf ρ v d) {i : Nat} {x : V} (e : v[i]? = some x) : ∃ y, d[i]? = some y ∧ Rp K mg Hf ρ x y := by
  induction v generalizing d i with
  | nil => simp at e
  | cons a as ih =>
    cases h with
    | cons h1 h2 =>
      cases i with
      | zero => simp at e; subst e; exact ⟨_, rfl, h1⟩
      | succ i => simp at e; obtain ⟨y, e1, e2⟩ := ih h2 e; exact ⟨y, by simpa using e1, e2⟩
theorem RpL.get' {v : List V} {d : List D} (h : RpL K mg Hf ρ v d) {i : Nat} {y : D} (e : d[i]? = some y) : ∃ x, v[i]? = some x ∧ Rp K mg Hf ρ x y := by
  induction d generalizing v i with
  | nil => simp at e
  | cons a as ih =>
    cases h with
    | cons h1 h2 =>
      cases i with
      | zero => simp at e; subst e; exact ⟨_, rfl, h1⟩
      | succ i => simp at e; obtain ⟨y, e1, e2⟩ := ih h2 e; exact ⟨y, by simpa using e1, e2⟩
theorem RpL.take {v : List V} {d : List D} (h : RpL K mg Hf ρ v d) (n : Nat) : RpL K mg Hf ρ (v.take n) (d.take n) := by
  induction v generalizing d n with
  | nil => cases h; simp; exact .nil
  | cons a as ih =>
    cases h with
    | cons h1 h2 =>
      cases n with
      | zero => exact .nil
      | succ n => exact .cons h1 (ih h2 n)
theorem RpL.drop {v : List V} {d : List D} (h : RpL K mg Hf ρ v d) (n : Nat) : RpL K mg Hf ρ (v.drop n) (d.drop n) := by
  induction v generalizing d n with
  | nil => cases h; simp; exact .nil
  | cons a as ih =>
    cases n with
    | zero => exact h
    | succ n =>
      cases h with
      | cons h1 h2 => exact ih h2 n
theorem RpL.set {v : List V} {d : List D} (h : RpL K mg Hf ρ v d) {x : V} {y : D} (e : Rp K mg Hf ρ x y) (n : Nat) : RpL K mg Hf ρ (v.set n x) (d.set n y) := by
  induction v generalizing d n with
  | nil => cases h; exact .nil
  | cons a as ih =>
    cases h with
    | cons h1 h2 =>
      cases n with
      | zero => exact .cons e h2
      | succ n => exact .cons h1 (ih h2 n)
theorem RpL.reverse {v : List V} {d : List D} (h : RpL K mg Hf ρ v d) : RpL K mg Hf ρ v.reverse d.reverse := by
  induction v generalizing d with
  | nil => cases h; exact .nil
  | cons a as ih =>
    cases h with
    | cons h1 h2 =>
      rw [List.reverse_cons, List.reverse_cons]
      exact (ih h2).append (.cons h1 .nil)
end

/-! ### new states -/
/-- a new frozen object -/
def Stt.new (s : Stt) (p : Addr) (o : HO) : Stt := { s with H := upd s.H p o, Hf := upd s.Hf p o }
/-- a new cell -/
def Stt.cel (s : Stt) (p : Addr) (o : HO) (d : D) : Stt := { H := upd s.H p o, Hf := s.Hf, ρ := s.ρ ++ [p], S := s.S ++ [.lv d] }
section
variable {K : PySem.W.Frag} {mg : Str → Option Value} {s : Stt}
theorem same_new {H : Hp} {p : Addr} {o : HO} (h : H p = none) : Same H (upd H p o) := fun b u e => by
  rw [upd_ne (ne_of_none e h)]
  exact e
theorem CelOk.le {Hf Hf' : Hp} {ρ l : List Addr} {Hx Hx' : Hp} {a : Addr} {d : D} (e : Same Hf Hf') (ex : ∀ o, Hx a = some o → Hx' a = some o) (h : CelOk K mg Hf ρ Hx a d) : CelOk K mg Hf' (ρ ++ l) Hx' a d := by
  cases d with
  | lst ds => obtain ⟨vs, h1, h2⟩ := h; exact ⟨vs, ex _ h1, RpL.mono e h2⟩
  | dk ds => obtain ⟨vs, h1, h2⟩ := h; exact ⟨vs, ex _ h1, RpK.mono e h2⟩
  | obj C fs => obtain ⟨ca, dx, vs, h0, h1, h2⟩ := h; exact ⟨ca, dx, vs, h0, ex _ h1, RpF.mono e h2⟩
  | _ => exact h.elim
theorem CelOk.some {Hf : Hp} {ρ : List Addr} {Hx : Hp} {a : Addr} {d : D} (h : CelOk K mg Hf ρ Hx a d) : ∃ o, Hx a = some o := by
  cases d with
  | lst ds => obtain ⟨vs, h1, h2⟩ := h; exact ⟨_, h1⟩
  | dk ds => obtain ⟨vs, h1, h2⟩ := h; exact ⟨_, h1⟩
  | obj C fs => obtain ⟨ca, dx, vs, h0, h1, h2⟩ := h; exact ⟨_, h1⟩
  | _ => exact h.elim
theorem Ok.there (o : Ok K mg s) {n : Nat} {a : Addr} (h : s.ρ[n]? = some a) : ∃ u, s.H a = some u := by
  have hn : n < s.S.length := by rw [← o.len]; exact (List.getElem?_eq_some_iff.mp h).1
  have e : s.S[n]? = some s.S[n] := by simp [hn]
  cases q : s.S[n] with
  | lv d => rw [q] at e; exact (o.lv n d a e h).2.some
  | fz d => rw [q] at e; obtain ⟨u, hu⟩ := (o.fz n d a e h).some; exact ⟨u, o.same _ _ hu⟩
theorem Ok.fresh (o : Ok K mg s) {p : Addr} (h : s.H p = none) : p ∉ s.ρ ∧ s.Hf p = none := by
  refine ⟨fun m => ?_, o.same.free h⟩
  obtain ⟨n, hn⟩ := List.getElem?_of_mem m
  obtain ⟨u, hu⟩ := o.there hn
  rw [hu] at h
  cases h
theorem Ok.new (ok : Ok K mg s) {p : Addr} (h : s.H p = none) (u : HO) : Ok K mg (s.new p u) := by
  obtain ⟨h1, h2⟩ := ok.fresh h
  refine ⟨ok.len, ok.nd, fun b o e => ?_, fun n d a e1 e2 => ?_, fun n d a e1 e2 => ?_⟩
  · show upd s.H p u b = some o
    have e : upd s.Hf p u b = some o := e
    by_cases hb : b = p
    · subst hb; rw [upd_same] at e ⊢; exact e
    · rw [upd_ne hb] at e ⊢; exact ok.same _ _ e
  · have ne : a ≠ p := fun z => h1 (z ▸ List.mem_of_getElem? e2)
    obtain ⟨q1, q2⟩ := ok.lv n d a e1 e2
    refine ⟨by show upd s.Hf p u a = none; rw [upd_ne ne]; exact q1, ?_⟩
    have q3 := CelOk.le (l := []) (Hx' := upd s.H p u) (same_new (o := u) h2) (fun o e => by rw [upd_ne ne]; exact e) q2
    rw [List.append_nil] at q3
    exact q3
  · have q2 := ok.fz n d a e1 e2
    have q3 := CelOk.le (l := []) (Hx' := upd s.Hf p u) (same_new (o := u) h2) (fun o e => same_new h2 _ _ e) q2
    rw [List.append_nil] at q3
    exact q3
theorem Le.new (ok : Ok K mg s) {p : Addr} (h : s.H p = none) (u : HO) : Le s (s.new p u) := by
  obtain ⟨h1, h2⟩ := ok.fresh h
  refine ⟨same_new h2, ⟨[], (List.append_nil _).symm⟩, fun b o e1 e2 e3 => ?_⟩
  have ne : b ≠ p := ne_of_none e1 h
  refine ⟨?_, ?_, e3⟩
  · show upd s.H p u b = _; rw [upd_ne ne]; exact e1
  · show upd s.Hf p u b = _; rw [upd_ne ne]; exact e2
theorem Ok.cel (ok : Ok K mg s) {p : Addr} (h : s.H p = none) {u : HO} {d : D} (hc : CelOk K mg s.Hf s.ρ (upd s.H p u) p d) : Ok K mg (s.cel p u d) := by
  obtain ⟨h1, h2⟩ := ok.fresh h
  have hc' : CelOk K mg s.Hf (s.ρ ++ [p]) (upd s.H p u) p d := CelOk.le (Same.refl _) (fun o e => e) hc
  refine ⟨by show (s.ρ ++ [p]).length = (s.S ++ [Cel.lv d]).length; rw [List.length_append, List.length_append, ok.len]; rfl, ?_, fun b o e => ?_, fun n d' a e1 e2 => ?_, fun n d' a e1 e2 => ?_⟩
  · show (s.ρ ++ [p]).Nodup
    rw [List.nodup_append]
    refine ⟨ok.nd, by simp, fun a ha b hb => ?_⟩
    rw [List.mem_singleton] at hb
    subst hb
    exact fun z => h1 (z ▸ ha)
  · show upd s.H p u b = some o
    have e : s.Hf b = some o := e
    rw [upd_ne (ne_of_none e h2)]
    exact ok.same _ _ e
  · have e1 : (s.S ++ [Cel.lv d])[n]? = some (.lv d') := e1
    have e2 : (s.ρ ++ [p])[n]? = some a := e2
    by_cases hn : n < s.S.length
    · rw [List.getElem?_append_left hn] at e1
      rw [List.getElem?_append_left (by rw [ok.len]; exact hn)] at e2
      have ne : a ≠ p := fun z => h1 (z ▸ List.mem_of_getElem? e2)
      obtain ⟨q1, q2⟩ := ok.lv n d' a e1 e2
      exact ⟨q1, CelOk.le (Same.refl _) (fun o e => by show upd s.H p u a = _; rw [upd_ne ne]; exact e) q2⟩
    · rw [List.getElem?_append_right (by omega)] at e1
      rw [List.getElem?_append_right (by rw [ok.len]; omega), ok.len] at e2
      have z : n - s.S.length = 0 := by
        have := (List.getElem?_eq_some_iff.mp e1).1
        simp at this
        omega
      rw [z] at e1 e2
      simp at e1 e2
      subst e1 e2
      exact ⟨h2, hc'⟩
  · have e1 : (s.S ++ [Cel.lv d])[n]? = some (.fz d') := e1
    have e2 : (s.ρ ++ [p])[n]? = some a := e2
    by_cases hn : n < s.S.length
    · rw [List.getElem?_append_left hn] at e1
      rw [List.getElem?_append_left (by rw [ok.len]; exact hn)] at e2
      exact CelOk.le (Same.refl _) (fun o e => e) (ok.fz n d' a e1 e2)
    · rw [List.getElem?_append_right (by omega)] at e1
      have z : n - s.S.length = 0 := by
        have := (List.getElem?_eq_some_iff.mp e1).1
        simp at this
        omega
      rw [z] at e1
      simp at e1
theorem Le.cel (ok : Ok K mg s) {p : Addr} (h : s.H p = none) (u : HO) (d : D) : Le s (s.cel p u d) := by
  obtain ⟨h1, h2⟩ := ok.fresh h
  refine ⟨Same.refl _, ⟨[p], rfl⟩, fun b o e1 e2 e3 => ?_⟩
  have ne : b ≠ p := ne_of_none e1 h
  refine ⟨?_, e2, ?_⟩
  · show upd s.H p u b = _; rw [upd_ne ne]; exact e1
  · show b ∉ s.ρ ++ [p]
    rw [List.mem_append, List.mem_singleton]
    exact fun z => z.elim e3 ne
end
end T
end S_TCore
section S_TSem
set_option Elab.async false
set_option linter.all false
set_option maxRecDepth 100000
set_option maxHeartbeats 4000000
namespace T
open PySem L2
/-! ### a cell is changed; a cell is frozen -/
def Stt.put (s : Stt) (n : Nat) (a : Addr) (o : HO) (d : D) : Stt := { s with H := upd s.H a o, S := s.S.set n (.lv d) }
def Stt.frz (s : Stt) (n : Nat) (a : Addr) (o : HO) (d : D) : Stt := { s with Hf := upd s.Hf a o, S := s.S.set n (.fz d) }
section
variable {K : PySem.W.Frag} {mg : Str → Option Value} {s : Stt}
theorem nd_ne {ρ : List Addr} (nd : ρ.Nodup) {n m : Nat} {a b : Addr} (h1 : ρ[n]? = some a) (h2 : ρ[m]? = some b) (ne : m ≠ n) : b ≠ a := fun e => by
  subst e
  obtain ⟨l1, q1⟩ := List.getElem?_eq_some_iff.mp h1
  obtain ⟨l2, q2⟩ := List.getElem?_eq_some_iff.mp h2
  exact ne ((List.getElem_inj nd).mp (q2.trans q1.symm))
theorem Ok.put (ok : Ok K mg s) {n : Nat} {a : Addr} {d d' : D} {o : HO} (h1 : s.S[n]? = some (.lv d)) (h2 : s.ρ[n]? = some a) (hc : CelOk K mg s.Hf s.ρ (upd s.H a o) a d') : Ok K mg (s.put n a o d') := by
  obtain ⟨f0, f1⟩ := ok.lv n d a h1 h2
  refine ⟨by show s.ρ.length = (s.S.set n _).length; rw [List.length_set]; exact ok.len, ok.nd, fun b u e => ?_, fun m e b e1 e2 => ?_, fun m e b e1 e2 => ?_⟩
  · show upd s.H a o b = some u
    have e : s.Hf b = some u := e
    rw [upd_ne (ne_of_none e f0)]
    exact ok.same _ _ e
  · have e1 : (s.S.set n (.lv d'))[m]? = some (.lv e) := e1
    by_cases hm : m = n
    · subst hm
      rw [List.getElem?_set_self (List.getElem?_eq_some_iff.mp h1).1] at e1
      injection e1 with e1
      injection e1 with e1
      subst e1
      have z : b = a := by rw [show s.ρ[m]? = some b from e2] at h2; injection h2
      subst z
      exact ⟨f0, hc⟩
    · rw [List.getElem?_set_ne (Ne.symm hm)] at e1
      obtain ⟨q1, q2⟩ := ok.lv m e b e1 e2
      refine ⟨q1, ?_⟩
      have q3 := CelOk.le (l := []) (Hx' := upd s.H a o) (Same.refl s.Hf) (fun u hu => by rw [upd_ne (nd_ne ok.nd h2 e2 hm)]; exact hu) q2
      rw [List.append_nil] at q3
      exact q3
  · have e1 : (s.S.set n (.lv d'))[m]? = some (.fz e) := e1
    by_cases hm : m = n
    · subst hm
      rw [List.getElem?_set_self (List.getElem?_eq_some_iff.mp h1).1] at e1
      cases e1
    · rw [List.getElem?_set_ne (Ne.symm hm)] at e1
      exact ok.fz m e b e1 e2
theorem Le.put {n : Nat} {a : Addr} {d' : D} {o : HO} (h2 : s.ρ[n]? = some a) : Le s (s.put n a o d') := by
  refine ⟨Same.refl _, ⟨[], (List.append_nil _).symm⟩, fun b u e1 e2 e3 => ⟨?_, e2, e3⟩⟩
  show upd s.H a o b = _
  rw [upd_ne (show b ≠ a from fun z => e3 (z ▸ List.mem_of_getElem? h2))]
  exact e1
theorem Ok.frz (ok : Ok K mg s) {n : Nat} {a : Addr} {d : D} {o : HO} (h1 : s.S[n]? = some (.lv d)) (h2 : s.ρ[n]? = some a) (ho : s.H a = some o) : Ok K mg (s.frz n a o d) := by
  obtain ⟨f0, f1⟩ := ok.lv n d a h1 h2
  have sm : Same s.Hf (upd s.Hf a o) := same_new f0
  refine ⟨by show s.ρ.length = (s.S.set n _).length; rw [List.length_set]; exact ok.len, ok.nd, fun b u e => ?_, fun m e b e1 e2 => ?_, fun m e b e1 e2 => ?_⟩
  · have e : upd s.Hf a o b = some u := e
    by_cases hb : b = a
    · subst hb; rw [upd_same] at e; rw [← e]; exact ho
    · rw [upd_ne hb] at e; exact ok.same _ _ e
  · have e1 : (s.S.set n (.fz d))[m]? = some (.lv e) := e1
    by_cases hm : m = n
    · subst hm
      rw [List.getElem?_set_self (List.getElem?_eq_some_iff.mp h1).1] at e1
      cases e1
    · rw [List.getElem?_set_ne (Ne.symm hm)] at e1
      obtain ⟨q1, q2⟩ := ok.lv m e b e1 e2
      refine ⟨by show upd s.Hf a o b = none; rw [upd_ne (nd_ne ok.nd h2 e2 hm)]; exact q1, ?_⟩
      have q3 := CelOk.le (l := []) (Hx' := s.H) sm (fun u hu => hu) q2
      rw [List.append_nil] at q3
      exact q3
  · have e1 : (s.S.set n (.fz d))[m]? = some (.fz e) := e1
    by_cases hm : m = n
    · subst hm
      rw [List.getElem?_set_self (List.getElem?_eq_some_iff.mp h1).1] at e1
      injection e1 with e1
      injection e1 with e1
      subst e1
      have z : b = a := by rw [show s.ρ[m]? = some b from e2] at h2; injection h2
      subst z
      have q3 := CelOk.le (l := []) (Hx' := upd s.Hf b o) sm (fun u hu => by rw [upd_same, ← hu]; exact ho.symm) f1
      rw [List.append_nil] at q3
      exact q3
    · rw [List.getElem?_set_ne (Ne.symm hm)] at e1
      have q3 := CelOk.le (l := []) (Hx' := upd s.Hf a o) sm (fun u hu => sm _ _ hu) (ok.fz m e b e1 e2)
      rw [List.append_nil] at q3
      exact q3
theorem Le.frz (ok : Ok K mg s) {n : Nat} {a : Addr} {d : D} {o : HO} (h1 : s.S[n]? = some (.lv d)) (h2 : s.ρ[n]? = some a) : Le s (s.frz n a o d) := by
  refine ⟨same_new (ok.lv n d a h1 h2).1, ⟨[], (List.append_nil _).symm⟩, fun b u e1 e2 e3 => ⟨e1, ?_, e3⟩⟩
  show upd s.Hf a o b = _
  rw [upd_ne (show b ≠ a from fun z => e3 (z ▸ List.mem_of_getElem? h2))]
  exact e2
end

/-! ### slots; results -/
structure EnvOk (K : PySem.W.Frag) (mg : Str → Option Value) (s : Stt) (σ : St) (env : Env) : Prop where
  len : σ.length = env.length
  at_ : ∀ (i : Nat) (d : D), env[i]? = some (some d) → ∃ v, σ[i]? = some (some v) ∧ Rp K mg s.Hf s.ρ v d
def XRp (K : PySem.W.Frag) (mg : Str → Option Value) (t : Stt) (C : Str) (fs : List (Str × D)) (cls : Value) (x : Option Addr) : Prop :=
  ∃ (ca : Addr) (vfs : List (Str × V)), mg C = some (.ref ca) ∧ cls = .ref ca ∧ XD t.Hf x vfs ∧ RpF K mg t.Hf t.ρ vfs fs
section
variable {K : PySem.W.Frag} {mg : Str → Option Value} {s t : Stt} {σ : St} {env : Env}
theorem EnvOk.le (e : EnvOk K mg s σ env) (l : Le s t) : EnvOk K mg t σ env := ⟨e.len, fun i d h => by
  obtain ⟨v, h1, h2⟩ := e.at_ i d h
  exact ⟨v, h1, h2.le l⟩⟩
theorem EnvOk.set (e : EnvOk K mg s σ env) {v : V} {d : D} (h : Rp K mg s.Hf s.ρ v d) (i : Nat) : EnvOk K mg s (σ.set i (some v)) (env.set i (some d)) := by
  refine ⟨by rw [List.length_set, List.length_set]; exact e.len, fun j d' q => ?_⟩
  by_cases hj : i = j
  · subst hj
    have hl : i < env.length := by
      have := (List.getElem?_eq_some_iff.mp q).1
      rw [List.length_set] at this
      exact this
    rw [List.getElem?_set_self hl] at q
    injection q with q
    injection q with q
    subst q
    exact ⟨v, by rw [List.getElem?_set_self (by rw [e.len]; exact hl)], h⟩
  · rw [List.getElem?_set_ne hj] at q ⊢
    exact e.at_ j d' q
theorem EnvOk.clr (e : EnvOk K mg s σ env) (i : Nat) : EnvOk K mg s (σ.set i none) (env.set i none) := by
  refine ⟨by rw [List.length_set, List.length_set]; exact e.len, fun j d' q => ?_⟩
  by_cases hj : i = j
  · subst hj
    have hl : i < env.length := by
      have := (List.getElem?_eq_some_iff.mp q).1
      rw [List.length_set] at this
      exact this
    rw [List.getElem?_set_self hl] at q
    cases q
  · rw [List.getElem?_set_ne hj] at q ⊢
    exact e.at_ j d' q
end

section
variable (K : PySem.W.Frag) (mg : Str → Option Value)
/-- what is wanted of a result: W of an exception, at the slots σ -/
def RS {α β : Type} (R : Stt → β → α → Prop) (W : WX) (σ : St) (Q : β → Hp → Prop) (s : Stt) : Res α → Prop
  | .ok d S' => ∀ (v : β) (t : Stt), Ok K mg t → t.S = S' → Le s t → R t v d → Q v t.H
  | .exc C fs S' => ∀ (cls : Value) (x : Option Addr) (t : Stt), Ok K mg t → t.S = S' → Le s t → XRp K mg t C fs cls x → W cls x σ t.H
  | .bad => False
abbrev RE : Stt → V → D → Prop := fun t v d => Rp K mg t.Hf t.ρ v d
abbrev RA : Stt → List V → List D → Prop := fun t v d => RpL K mg t.Hf t.ρ v d
abbrev RT : Stt → Bool → Bool → Prop := fun _ v d => v = d
def tX {α β : Type} (R : Stt → β → α → Prop) (W : WX) (m : Env → Sto → Res α) : St → Hp → (β → Hp → Prop) → Prop := fun σ H Q =>
  ∃ (s : Stt) (env : Env), s.H = H ∧ Ok K mg s ∧ EnvOk K mg s σ env ∧ RS K mg R W σ Q s (m env s.S)
abbrev tE (W : WX) (m : SemE) : TE := tX K mg (RE K mg) W m
abbrev tA (W : WX) (m : SemA) : TA := tX K mg (RA K mg) W m
abbrev tT (W : WX) (m : SemT) : TT := tX K mg RT W m
end
section
variable {K : PySem.W.Frag} {mg : Str → Option Value} {W : WX} {σ : St} {s t : Stt} {H : Hp}
theorem RS.le {α β : Type} {R : Stt → β → α → Prop} {Q : β → Hp → Prop} {r : Res α} (l : Le s t) (h : RS K mg R W σ Q s r) : RS K mg R W σ Q t r := by
  cases r with
  | ok d S' => exact fun v u o e l2 q => h v u o e (l.trans l2) q
  | exc C fs S' => exact fun c x u o e l2 q => h c x u o e (l.trans l2) q
  | bad => exact h
/-- one behind another -/
theorem RS.bind {α β γ δ : Type} {R : Stt → β → α → Prop} {R2 : Stt → δ → γ → Prop} {Q : δ → Hp → Prop} {r : Res α} {k : α → Sto → Res γ} (h : RS K mg R2 W σ Q s (r.bind k)) :
    RS K mg R W σ (fun v H1 => ∃ (t : Stt) (d : α), t.H = H1 ∧ Ok K mg t ∧ Le s t ∧ R t v d ∧ RS K mg R2 W σ Q t (k d t.S)) s r := by
  cases r with
  | ok d S' =>
    intro v u o e l q
    refine ⟨u, d, rfl, o, l, q, ?_⟩
    rw [e]
    exact RS.le l h
  | exc C fs S' => exact h
  | bad => exact h
theorem RS.imp {α β : Type} {R : Stt → β → α → Prop} {Q Q' : β → Hp → Prop} {r : Res α} (h : RS K mg R W σ Q s r) (i : ∀ v H, Q v H → Q' v H) : RS K mg R W σ Q' s r := by
  cases r with
  | ok d S' => exact fun v u o e l q => i _ _ (h v u o e l q)
  | exc C fs S' => exact h
  | bad => exact h
theorem RS.ok {α β : Type} {R : Stt → β → α → Prop} {Q : β → Hp → Prop} {d : α} {S' : Sto} (h : RS K mg R W σ Q s (.ok d S')) {v : β} {t : Stt} (o : Ok K mg t) (e : t.S = S') (l : Le s t) (q : R t v d) : Q v t.H := h v t o e l q
/-- behind a part: the rest at the state reached -/
theorem RS.go {α β γ δ : Type} {R : Stt → β → α → Prop} {R2 : Stt → δ → γ → Prop} {Q : δ → Hp → Prop} {m : Env → Sto → Res α} {k : α → Sto → Res γ} {env : Env}
    (h : RS K mg R2 W σ Q s ((m env s.S).bind k)) (o : Ok K mg s) (eo : EnvOk K mg s σ env) {Q' : β → Hp → Prop}
    (hk : ∀ (v : β) (t : Stt) (d : α), Ok K mg t → Le s t → R t v d → RS K mg R2 W σ Q t (k d t.S) → Q' v t.H) : tX K mg R W m σ s.H Q' := by
  refine ⟨s, env, rfl, o, eo, (RS.bind (R := R) h).imp fun v H1 ⟨t, d, q1, q2, q3, q4, q5⟩ => ?_⟩
  rw [← q1]
  exact hk v t d q2 q3 q4 q5
theorem tX.mk {α β : Type} {R : Stt → β → α → Prop} {Q : β → Hp → Prop} {m : Env → Sto → Res α} {t : Stt} {env : Env} (o : Ok K mg t) (e : EnvOk K mg t σ env) (h : RS K mg R W σ Q t (m env t.S)) : tX K mg R W m σ t.H Q := ⟨t, env, rfl, o, e, h⟩
end
section
variable {X : Cx}
theorem _root_.L2.PE.mono {e : Expr} {t t' : TE} (h : PE X e t) (i : ∀ σ H Q, t' σ H Q → t σ H Q) : PE X e t' := ⟨fun pins s σ H Q I q => h.run pins s σ H Q I (i _ _ _ q)⟩
theorem _root_.L2.PT.mono {e : Expr} {t t' : TT} (h : PT X e t) (i : ∀ σ H Q, t' σ H Q → t σ H Q) : PT X e t' := ⟨fun pins s σ H Q I q => h.run pins s σ H Q I (i _ _ _ q)⟩
theorem _root_.L2.PW.mono {e : Expr} {t t' : TT} (h : PW X e t) (i : ∀ σ H Q, t' σ H Q → t σ H Q) : PW X e t' := ⟨fun wh pins s σ H Q I q => h.run wh pins s σ H Q I (i _ _ _ q)⟩
theorem _root_.L2.PA.mono {e : List Expr} {t t' : TA} (h : PA X e t) (i : ∀ σ H Q, t' σ H Q → t σ H Q) : PA X e t' := ⟨fun pos pins s σ H Q I q => h.run pos pins s σ H Q I (i _ _ _ q)⟩
theorem _root_.L2.PS.mono {e : Stmt} {t t' : TS} (h : PS X e t) (i : ∀ D σ H, t' D σ H → t D σ H) : PS X e t' := ⟨fun pins s σ H Q I q => h.run pins s σ H Q I (i _ _ _ q)⟩
theorem _root_.L2.PSs.mono {e : List Stmt} {t t' : TS} (h : PSs X e t) (i : ∀ D σ H, t' D σ H → t D σ H) : PSs X e t' := ⟨fun pins s σ H Q I q => h.run pins s σ H Q I (i _ _ _ q)⟩
end

/-! ### names, constants -/
def sV (i : Nat) : SemE := fun env S => match env[i]? with
  | some (some d) => .ok d S
  | _ => .bad
def sC (d : D) : SemE := fun _ S => .ok d S
section
variable {X : Cx} {W : WX}
theorem xV (i : Nat) {x : Str} {pos : Pos} (hN : X.N[i]? = some x) (hv : Vis X.env.scope x) (hd : (x == ("__debug__" : Str)) = false) (hcd : (x == ("__classdict__" : Str)) = false) : PE X (.Name x pos) (tE X.K X.mg W (sV i)) :=
  (pe_var hN hv hd hcd).mono fun σ H Q ⟨s, env, e1, e2, e3, e4⟩ => by
    subst e1
    unfold sV at e4
    split at e4
    · rename_i d hd
      obtain ⟨v, h1, h2⟩ := e3.at_ i d hd
      exact ⟨v, h1, e4 v s e2 rfl (Le.refl s) h2⟩
    · exact e4.elim
/-- a constant that needs no heap -/
theorem xC {e : Expr} {v : V} {d : D} (h : PE X e (tC v)) (r : ∀ Hf ρ, Rp X.K X.mg Hf ρ v d) : PE X e (tE X.K X.mg W (sC d)) :=
  h.mono fun σ H Q ⟨s, env, e1, e2, e3, e4⟩ => by
    subst e1
    exact e4 v s e2 rfl (Le.refl s) (r _ _)
theorem xInt {i : Int} {j pos} : PE X (.Constant (.int i) j pos) (tE X.K X.mg W (sC (.int i))) := xC pe_int fun _ _ => .int
theorem xStr {x : Str} {j pos} : PE X (.Constant (.str x) j pos) (tE X.K X.mg W (sC (.str x))) := xC pe_str fun _ _ => .str
theorem xBl {b : Bool} {j pos} : PE X (.Constant (.bool b) j pos) (tE X.K X.mg W (sC (.bl b))) := xC pe_bl fun _ _ => .bl
theorem xNon {j pos} : PE X (.Constant .none j pos) (tE X.K X.mg W (sC .non)) := xC pe_non fun _ _ => .non
end

/-! ### operators -/
abbrev Op2 := Sto → D → D → Res D
def sOp (f : Op2) (a b : SemE) : SemE := fun env S => (a env S).bind fun x S1 => (b env S1).bind fun y S2 => f S2 x y
/-- f tells what r asks -/
def OpS (K : PySem.W.Frag) (mg : Str → Option Value) (r : R2) (f : Op2) : Prop := ∀ (W : WX) (σ : St) (Q : VK) (s : Stt) (x y : V) (dx dy : D), Ok K mg s → Rp K mg s.Hf s.ρ x dx → Rp K mg s.Hf s.ρ y dy → RS K mg (RE K mg) W σ Q s (f s.S dx dy) → r x y s.H Q
section
variable {X : Cx} {W : WX} {a b : Expr} {ma mb : SemE}
theorem op_read {K : PySem.W.Frag} {mg : Str → Option Value} {r : R2} {f : Op2} (hf : OpS K mg r f) {σ : St} {H : Hp} {Q : VK} (h : tE K mg W (sOp f ma mb) σ H Q) : tOp r (tE K mg W ma) (tE K mg W mb) σ H Q := by
  obtain ⟨s, env, rfl, o, eo, h⟩ := h
  refine RS.go (R := RE K mg) h o eo fun x t dx ot lt rx h => ?_
  refine RS.go (R := RE K mg) h ot (eo.le lt) fun y u dy ou lu ry h => ?_
  exact hf W σ Q u x y dx dy ou (rx.le lu) ry h
theorem xOp {op : Operator} {r : R2} {f : Op2} {pos : Pos} (ho : OpR X (binaryOp op) r) (hf : OpS X.K X.mg r f) (ha : PE X a (tE X.K X.mg W ma)) (hb : PE X b (tE X.K X.mg W mb)) : PE X (.BinOp a op b pos) (tE X.K X.mg W (sOp f ma mb)) :=
  (pe_op ho ha hb).mono fun _ _ _ h => op_read hf h
theorem xCmp {op : CmpOp} {r : R2} {f : Op2} {pos : Pos} (ho : OpR X (compareOp op) r) (hf : OpS X.K X.mg r f) (hm : behindInMarks op b = false) (ha : PE X a (tE X.K X.mg W ma)) (hb : PE X b (tE X.K X.mg W mb)) : PE X (.Compare a [op] [b] pos) (tE X.K X.mg W (sOp f ma mb)) :=
  (pe_cmpR ho ha hb hm).mono fun _ _ _ h => op_read hf h
end
end T
end S_TSem
section S_TStm
set_option Elab.async false
set_option linter.all false
set_option maxRecDepth 100000
set_option maxHeartbeats 4000000
namespace T
open PySem L2
inductive ResS where
  | nx (env : Env) (S : Sto)
  | rt (d : D) (S : Sto)
  | bk (env : Env) (S : Sto)
  | ct (env : Env) (S : Sto)
  | exc (C : Str) (fs : List (Str × D)) (env : Env) (S : Sto)
  | bad
abbrev SemS := Env → Sto → ResS
def ofE {α : Type} (r : Res α) (env : Env) (k : α → Sto → ResS) : ResS := match r with
  | .ok a S => k a S
  | .exc C fs S => .exc C fs env S
  | .bad => .bad
section
variable (K : PySem.W.Frag) (mg : Str → Option Value)
def RSS (W : WX) (D : Ends) (s : Stt) : ResS → Prop
  | .nx env' S' => ∀ (σ' : St) (t : Stt), Ok K mg t → t.S = S' → Le s t → EnvOk K mg t σ' env' → D.nx σ' t.H
  | .bk env' S' => ∀ (σ' : St) (t : Stt), Ok K mg t → t.S = S' → Le s t → EnvOk K mg t σ' env' → D.bk σ' t.H
  | .ct env' S' => ∀ (σ' : St) (t : Stt), Ok K mg t → t.S = S' → Le s t → EnvOk K mg t σ' env' → D.ct σ' t.H
  | .rt d S' => ∀ (v : V) (t : Stt), Ok K mg t → t.S = S' → Le s t → Rp K mg t.Hf t.ρ v d → D.rt v t.H
  | .exc C fs env' S' => ∀ (cls : Value) (x : Option Addr) (σ' : St) (t : Stt), Ok K mg t → t.S = S' → Le s t → EnvOk K mg t σ' env' → XRp K mg t C fs cls x → W cls x σ' t.H
  | .bad => False
def tS (W : WX) (m : SemS) : TS := fun D σ H => ∃ (s : Stt) (env : Env), s.H = H ∧ Ok K mg s ∧ EnvOk K mg s σ env ∧ RSS K mg W D s (m env s.S)
end
section
variable {K : PySem.W.Frag} {mg : Str → Option Value} {W : WX} {σ : St} {s t : Stt} {H : Hp} {D : Ends}
theorem RSS.le {r : ResS} (l : Le s t) (h : RSS K mg W D s r) : RSS K mg W D t r := by
  cases r with
  | nx e S' => exact fun v u o e l2 q => h v u o e (l.trans l2) q
  | bk e S' => exact fun v u o e l2 q => h v u o e (l.trans l2) q
  | ct e S' => exact fun v u o e l2 q => h v u o e (l.trans l2) q
  | rt e S' => exact fun v u o e l2 q => h v u o e (l.trans l2) q
  | exc C fs e S' => exact fun c x v u o e l2 q => h c x v u o e (l.trans l2) q
  | bad => exact h
theorem RSS.go {α β : Type} {R : Stt → β → α → Prop} {m : Env → Sto → Res α} {k : α → Sto → ResS} {env : Env}
    (h : RSS K mg W D s (ofE (m env s.S) env k)) (o : Ok K mg s) (eo : EnvOk K mg s σ env) {Q' : β → Hp → Prop}
    (hk : ∀ (v : β) (t : Stt) (d : α), Ok K mg t → Le s t → R t v d → RSS K mg W D t (k d t.S) → Q' v t.H) : tX K mg R W m σ s.H Q' := by
  refine ⟨s, env, rfl, o, eo, ?_⟩
  cases e : m env s.S with
  | ok d S' =>
    rw [e] at h
    intro v t ot et lt rt
    refine hk v t d ot lt rt ?_
    rw [et]
    exact RSS.le lt h
  | exc C fs S' =>
    rw [e] at h
    exact fun c x t ot et lt xr => h c x σ t ot et lt (eo.le lt) xr
  | bad =>
    rw [e] at h
    exact h
end

/-! ### statements -/
def sNext : SemS := fun env S => .nx env S
def sSeq (a b : SemS) : SemS := fun env S => match a env S with
  | .nx env1 S1 => b env1 S1
  | r => r
def sRet (e : SemE) : SemS := fun env S => ofE (e env S) env fun d S1 => .rt d S1
def sRetN : SemS := fun env S => .rt .non S
def sIf (c : SemT) (a b : SemS) : SemS := fun env S => ofE (c env S) env fun t S1 => if t = true then a env S1 else b env S1
def sDo (e : SemE) : SemS := fun env S => ofE (e env S) env fun _ S1 => .nx env S1
/-- targets: what is stored where -/
abbrev SemG := D → Env → Sto → ResS
def gN (i : Nat) : SemG := fun d env S => .nx (env.set i (some d)) S
def sAsg (e : SemE) (g : SemG) : SemS := fun env S => ofE (e env S) env fun d S1 => g d env S1
def tG (K : PySem.W.Frag) (mg : Str → Option Value) (W : WX) (m : SemG) : TG := fun v σ H Q => ∃ (s : Stt) (env : Env) (d : D), s.H = H ∧ Ok K mg s ∧ EnvOk K mg s σ env ∧ Rp K mg s.Hf s.ρ v d ∧ RSS K mg W { nx := Q, rt := fun _ _ => False } s (m d env s.S)
section
variable {X : Cx} {W : WX}
theorem yNil : PSs X [] (tS X.K X.mg W sNext) := pss_nil.mono fun D σ H ⟨s, env, e1, e2, e3, e4⟩ => by
  subst e1
  exact e4 σ s e2 rfl (Le.refl s) e3
theorem seq_read {K : PySem.W.Frag} {mg : Str → Option Value} {a b : SemS} {D : Ends} {σ : St} {H : Hp} (h : tS K mg W (sSeq a b) D σ H) : tSeq (tS K mg W a) (tS K mg W b) D σ H := by
  obtain ⟨s, env, rfl, o, eo, h⟩ := h
  refine ⟨s, env, rfl, o, eo, ?_⟩
  unfold sSeq at h
  cases e : a env s.S with
  | nx env1 S1 =>
    rw [e] at h
    intro σ' t ot et lt et2
    refine ⟨t, env1, rfl, ot, et2, ?_⟩
    rw [et]
    exact RSS.le lt h
  | bk env1 S1 => rw [e] at h; exact h
  | ct env1 S1 => rw [e] at h; exact h
  | rt d S1 => rw [e] at h; exact h
  | exc C fs env1 S1 => rw [e] at h; exact h
  | bad => rw [e] at h; exact h
theorem yCons {st : Stmt} {r : List Stmt} {a b : SemS} (h1 : PS X st (tS X.K X.mg W a)) (h2 : PSs X r (tS X.K X.mg W b)) : PSs X (st :: r) (tS X.K X.mg W (sSeq a b)) := (pss_cons h1 h2).mono fun _ _ _ h => seq_read h
theorem yOne {st : Stmt} {a : SemS} (h1 : PS X st (tS X.K X.mg W a)) : PSs X [st] (tS X.K X.mg W a) := pss_one h1
theorem yPass {pos : Pos} : PS X (.Pass pos) (tS X.K X.mg W sNext) := ps_pass.mono fun D σ H ⟨s, env, e1, e2, e3, e4⟩ => by
  subst e1
  exact e4 σ s e2 rfl (Le.refl s) e3
theorem yRet {e : Expr} {pos : Pos} {m : SemE} (he : PE X e (tE X.K X.mg W m)) : PS X (.Return (some e) pos) (tS X.K X.mg W (sRet m)) := (ps_ret he).mono fun D σ H h => by
  obtain ⟨s, env, rfl, o, eo, h⟩ := h
  exact RSS.go (R := RE X.K X.mg) h o eo fun v t d ot lt rv h => h v t ot rfl (Le.refl t) rv
theorem yRetN {pos : Pos} : PS X (.Return none pos) (tS X.K X.mg W sRetN) := ps_retN.mono fun D σ H ⟨s, env, e1, e2, e3, e4⟩ => by
  subst e1
  exact e4 _ s e2 rfl (Le.refl s) .non
theorem yIf {c : Expr} {a b : List Stmt} {pos : Pos} {mc : SemT} {ma mb : SemS} (hc : PT X c (tT X.K X.mg W mc)) (ha : PSs X a (tS X.K X.mg W ma)) (hb : PSs X b (tS X.K X.mg W mb)) : PS X (.If c a b pos) (tS X.K X.mg W (sIf mc ma mb)) :=
  (ps_if hc ha hb).mono fun D σ H h => by
    obtain ⟨s, env, rfl, o, eo, h⟩ := h
    refine RSS.go (R := RT) h o eo fun v t d ot lt rv h => ?_
    subst rv
    cases v with
    | true => exact ⟨t, env, rfl, ot, eo.le lt, h⟩
    | false => exact ⟨t, env, rfl, ot, eo.le lt, h⟩
theorem yDo {e : Expr} {pos : Pos} {m : SemE} (he : PE X e (tE X.K X.mg W m)) (hs : swapsWith e none pos.line X.env = pure false) : PS X (.Expr e pos) (tS X.K X.mg W (sDo m)) := (ps_expr he hs).mono fun D σ H h => by
  obtain ⟨s, env, rfl, o, eo, h⟩ := h
  exact RSS.go (R := RE X.K X.mg) h o eo fun v t d ot lt rv h => h σ t ot rfl (Le.refl t) (eo.le lt)
/-- to a target -/
theorem gName_ok {x : Str} {pos : Pos} {i : Nat} (h : PG X (.Name x pos) (gName i)) : PG X (.Name x pos) (tG X.K X.mg W (gN i)) := ⟨fun pins s σ H v u Q I r q => h.run pins s σ H v u Q I r (by
  obtain ⟨t, env, d, rfl, o, eo, rv, q⟩ := q
  exact q _ t o rfl (Le.refl t) (eo.set rv i))⟩
theorem asg_read {K : PySem.W.Frag} {mg : Str → Option Value} {m : SemE} {g : SemG} (hgx : ∀ d env S, ∀ r, g d env S = r → (∃ env' S', r = .nx env' S') ∨ r = .bad ∨ ∃ C fs env' S', r = .exc C fs env' S') {D : Ends} {σ : St} {H : Hp} (h : tS K mg W (sAsg m g) D σ H) : tAsg (tE K mg W m) (tG K mg W g) D σ H := by
  obtain ⟨s, env, rfl, o, eo, h⟩ := h
  refine RSS.go (R := RE K mg) h o eo fun v t d ot lt rv h => ⟨t, env, d, rfl, ot, eo.le lt, rv, ?_⟩
  rcases hgx d env t.S _ rfl with ⟨env', S', e⟩ | e | ⟨C, fs, env', S', e⟩
  · rw [e] at h ⊢; exact h
  · rw [e] at h ⊢; exact h
  · rw [e] at h ⊢; exact h
theorem gN_x {i : Nat} : ∀ d env S, ∀ r, gN i d env S = r → (∃ env' S', r = .nx env' S') ∨ r = .bad ∨ ∃ C fs env' S', r = .exc C fs env' S' := fun d env S r h => .inl ⟨_, _, h.symm⟩
theorem ySet {i : Nat} {x : Str} {e : Expr} {m : SemE} {pos pos' : Pos} (hN : X.N.Nodup) (hi : X.N[i]? = some x) (hx : Loc X.env.scope x) (he : PE X e (tE X.K X.mg W m)) (hs : swapsWith e (some (.Name x pos')) pos.line X.env = pure false) (hf : X.fn x = true ∨ X.env.scope.names.lookup x = some .local) :
    PS X (.Assign [.Name x pos'] e pos) (tS X.K X.mg W (sAsg m (gN i))) := (ps_set hN hi hx he hs hf).mono fun D σ H h => by
  obtain ⟨s, env, rfl, o, eo, h⟩ := h
  exact RSS.go (R := RE X.K X.mg) h o eo fun v t d ot lt rv h => h _ t ot rfl (Le.refl t) ((eo.le lt).set rv i)
end

/-! ### defs -/
abbrev Fn := List D → Sto → Res D
def entry (n : Nat) (ds : List D) : Env := ds.map some ++ List.replicate (n - ds.length) none
/-- what a body hands back; no cell of its own may be left -/
def fin (n : Nat) (d : D) (S : Sto) : Res D := if S.length = n then .ok d S else .bad
def fnEnd (n : Nat) : ResS → Res D
  | .rt d S1 => fin n d S1
  | .nx _ S1 => fin n .non S1
  | .exc C fs _ S1 => if S1.length = n then .exc C fs S1 else .bad
  | _ => .bad
def fnOf (n N : Nat) (m : SemS) : Fn := fun ds S => if ds.length = n then fnEnd S.length (m (entry N ds) S) else .bad
def spF (φ : Fn) (K : PySem.W.Frag) (mg : Str → Option Value) : Sp := fun vs H Q E => ∃ (s : Stt) (ds : List D), s.H = H ∧ Ok K mg s ∧ RpL K mg s.Hf s.ρ vs ds ∧ RS K mg (RE K mg) (fun c x _ H' => E c x H') [] Q s (φ ds s.S)
theorem entry_ok {K : PySem.W.Frag} {mg : Str → Option Value} {s : Stt} {N : List Str} {vs : List V} {ds : List D} (h : RpL K mg s.Hf s.ρ vs ds) : EnvOk K mg s (L2.start N vs) (entry N.length ds) := by
  have hl := h.length
  refine ⟨by unfold L2.start entry; rw [List.length_append, List.length_append, List.length_map, List.length_map, List.length_replicate, List.length_replicate, hl], fun i d e => ?_⟩
  unfold entry at e
  by_cases hi : i < ds.length
  · rw [List.getElem?_append_left (by simpa using hi), List.getElem?_map] at e
    cases q : ds[i]? with
    | none => rw [q] at e; cases e
    | some y =>
      rw [q] at e
      injection e with e
      injection e with e
      subst e
      obtain ⟨x, e1, e2⟩ := h.get' q
      refine ⟨x, ?_, e2⟩
      unfold L2.start
      rw [List.getElem?_append_left (by rw [List.length_map, hl]; exact hi), List.getElem?_map, e1]
      rfl
  · rw [List.getElem?_append_right (by simpa using hi), List.getElem?_replicate] at e
    split at e <;> cases e
section
variable {P : Program} {w : World} {K : PySem.W.Frag} {mg : Str → Option Value} {base : Heap}
abbrev WE (E : XK) : WX := fun c x _ H' => E c x H'
/-- a def whose body's meaning is m -/
theorem fn_ok {x qual : Str} {params : Arguments} {body : List Stmt} {scope : Scope} {dvs : List V} {kws : List (Str × V)} {f : Addr} {fd : FuncData} {N ps : List Str} {k n : Nat} {m : SemS} (F : FunD K x qual params body scope dvs kws f fd) (S : FnScope N ps scope) (hn : ps.length = n)
    (hb : ∀ (cdv : Value) (A : Around) (outer : List PySem.Env) (s : Shared) (H : Hp) (E : XK), Room k (A.deeper (PyProof.Rows.envOfC qual scope s.heap.objs.size f cdv)) → Takes (cxOf (L2.CX P w) P w K mg base N qual scope f cdv A outer s H E) (WE E) →
      PSs (cxOf (L2.CX P w) P w K mg base N qual scope f cdv A outer s H E) body (tS K mg (WE E) m)) : FnOk P w K mg base (L2.CX P w) (k + 1) f fd ps (spF (fnOf n N.length m) K mg) := by
  refine FunD.ok F S (fun vs H Q E h => ?_) (fun cdv A outer s H vs Q E hr h => ⟨_, hb cdv A outer s H E hr (takes_of rfl rfl rfl rfl), ?_⟩)
  · obtain ⟨s, ds, _, _, r, e⟩ := h
    unfold fnOf at e
    split at e
    · rw [r.length, hn]; assumption
    · exact e.elim
  · obtain ⟨s, ds, rfl, o, r, h⟩ := h
    refine ⟨s, entry N.length ds, rfl, o, entry_ok r, ?_⟩
    unfold fnOf at h
    rw [if_pos (by split at h; assumption; exact h.elim)] at h
    cases q : m (entry N.length ds) s.S with
    | rt d S1 =>
      rw [q] at h
      intro v t ot et lt rv
      dsimp only [fnEnd, fin] at h
      split at h
      · exact h v t ot et lt rv
      · exact h.elim
    | nx env S1 =>
      rw [q] at h
      intro v t ot et lt rv
      dsimp only [fnEnd, fin] at h
      split at h
      · exact h .non t ot et lt .non
      · exact h.elim
    | exc C fs env S1 =>
      rw [q] at h
      intro c x σ' t ot et lt eo xr
      dsimp only [fnEnd] at h
      split at h
      · exact h c x t ot et lt xr
      · exact h.elim
    | bk env S1 => rw [q] at h; exact h.elim
    | ct env S1 => rw [q] at h; exact h.elim
    | bad => rw [q] at h; exact h.elim
end

/-! ### argument lists, calls of defs -/
def aNil : SemA := fun _ S => .ok [] S
def aCons (e : SemE) (r : SemA) : SemA := fun env S => (e env S).bind fun d S1 => (r env S1).bind fun ds S2 => .ok (d :: ds) S2
def sCall (φ : Fn) (a : SemA) : SemE := fun env S => (a env S).bind fun ds S1 => φ ds S1
section
variable {X : Cx} {W : WX} {e : Expr} {es : List Expr} {m : SemE} {ma : SemA}
theorem zNil : PA X [] (tA X.K X.mg W aNil) := pa_nil.mono fun σ H Q ⟨s, env, e1, e2, e3, e4⟩ => by
  subst e1
  exact e4 [] s e2 rfl (Le.refl s) .nil
theorem zCons (ha : PE X e (tE X.K X.mg W m)) (hr : PA X es (tA X.K X.mg W ma)) (hs : starEach (e :: es) X.env = (false, eval e X.env) :: starEach es X.env) : PA X (e :: es) (tA X.K X.mg W (aCons m ma)) := (pa_cons ha hr hs).mono fun σ H Q h => by
  obtain ⟨s, env, rfl, o, eo, h⟩ := h
  refine RS.go (R := RE X.K X.mg) h o eo fun x t dx ot lt rx h => ?_
  refine RS.go (R := RA X.K X.mg) h ot (eo.le lt) fun y u dy ou lu ry h => ?_
  exact h (x :: y) u ou rfl (Le.refl u) (.cons (rx.le lu) ry)
theorem xCall {x : Str} {p pos : Pos} {f : Addr} {fd : FuncData} {ps : List Str} {k : Nat} {φ : Fn} (F : FnOk X.prog X.w X.K X.mg X.base (L2.CX X.prog X.w) k f fd ps (spF φ X.K X.mg)) (hr : Room k X.A) (hg : Gl X x) (hm : X.mg x = some (.ref f)) (hk : PySem.W.keepIn X.K (.ref f) = true) (hb : Binds X.K fd ps []) (tk : Takes X W)
    (ha : PA X (e :: es) (tA X.K X.mg W ma)) (hdb : (x == ("__debug__" : Str)) = false) (he : starEach (e :: es) X.env = (false, eval e X.env) :: starEach es X.env) (hpl : (backTo pos (starEach es X.env)).any (·.1) = false) :
    PE X (.Call (.Name x p) (e :: es) [] pos) (tE X.K X.mg W (sCall φ ma)) :=
  (pe_callSD (E := fun σ c x H' => W c x σ H') F hr hg hm hk hb .nil (fun σ => passAt tk σ) ha hdb he hpl).mono fun σ H Q h => by
    obtain ⟨s, env, rfl, o, eo, h⟩ := h
    refine ⟨s, env, rfl, o, eo, ?_⟩
    unfold sCall at h
    cases q : ma env s.S with
    | ok ds S1 =>
      rw [q] at h
      intro vs t ot et lt rv
      refine ⟨t, ds, rfl, ot, by rw [List.append_nil]; exact rv, ?_⟩
      rw [et]
      have h := RS.le lt h
      cases r : φ ds S1 with
      | ok d S2 => dsimp only [Res.bind] at h; rw [r] at h; exact h
      | exc C fs S2 => dsimp only [Res.bind] at h; rw [r] at h; exact fun c x t2 a b c2 d => h c x t2 a b c2 d
      | bad => dsimp only [Res.bind] at h; rw [r] at h; exact h
    | exc C fs S1 => rw [q] at h; exact h
    | bad => rw [q] at h; exact h
end
end T
end S_TStm
section S_TOps
set_option Elab.async false
set_option linter.all false
set_option maxRecDepth 100000
set_option maxHeartbeats 4000000
namespace T
open PySem L2
/-! ### what is seen of a value -/
def cget (S : Sto) (n : Nat) : D := match S[n]? with
  | some (.lv d) => d
  | some (.fz d) => d
  | none => .non
/-- for reading -/
def rd (S : Sto) : D → D
  | .cell n => cget S n
  | .rdl ds => .lst ds
  | d => d
/-- tracked -/
def tk (S : Sto) : D → D
  | .cell n => cget S n
  | d => d
section
variable {K : PySem.W.Frag} {mg : Str → Option Value} {s : Stt} {x : V} {d : D} {ds : List D}
theorem cell_at (o : Ok K mg s) {n : Nat} {a : Addr} (h : s.ρ[n]? = some a) : CelOk K mg s.Hf s.ρ s.H a (cget s.S n) := by
  have hn : n < s.S.length := by rw [← o.len]; exact (List.getElem?_eq_some_iff.mp h).1
  have e : s.S[n]? = some s.S[n] := by simp [hn]
  unfold cget
  cases q : s.S[n] with
  | lv d => rw [q] at e; rw [e]; exact (o.lv n d a e h).2
  | fz d =>
    rw [q] at e; rw [e]
    have z := CelOk.le (l := []) (Hx' := s.H) (Same.refl s.Hf) (fun u hu => o.same _ _ hu) (o.fz n d a e h)
    rw [List.append_nil] at z
    exact z
theorem rd_lst (o : Ok K mg s) (r : Rp K mg s.Hf s.ρ x d) (h : rd s.S d = .lst ds) : ∃ a vs, x = .ref a ∧ SqL K s.H a vs ∧ RpL K mg s.Hf s.ρ vs ds := by
  cases r with
  | lst h1 h2 => simp only [rd] at h; injection h with h; subst h; exact ⟨_, _, rfl, SqL.of (o.same _ _ h1), h2⟩
  | rdl h1 h2 => simp only [rd] at h; injection h with h; subst h; exact ⟨_, _, rfl, o.same.seq h1, h2⟩
  | cell h1 =>
    simp only [rd] at h
    have z := cell_at o h1
    rw [h] at z
    obtain ⟨vs, z1, z2⟩ := z
    exact ⟨_, _, rfl, SqL.of z1, z2⟩
  | _ => simp only [rd] at h; cases h
theorem rd_tup (o : Ok K mg s) (r : Rp K mg s.Hf s.ρ x d) (h : rd s.S d = .tup ds) : ∃ a vs, x = .ref a ∧ SqT K s.H a vs ∧ RpL K mg s.Hf s.ρ vs ds := by
  cases r with
  | tup h1 h2 => simp only [rd] at h; injection h with h; subst h; exact ⟨_, _, rfl, sqT_same o.same h1, h2⟩
  | cell h1 =>
    simp only [rd] at h
    have z := cell_at o h1
    rw [h] at z
    exact z.elim
  | _ => simp only [rd] at h; cases h
theorem tk_lst (o : Ok K mg s) (r : Rp K mg s.Hf s.ρ x d) (h : tk s.S d = .lst ds) : ∃ a vs, x = .ref a ∧ s.H a = some (.lst vs) ∧ RpL K mg s.Hf s.ρ vs ds := by
  cases r with
  | lst h1 h2 => simp only [tk] at h; injection h with h; subst h; exact ⟨_, _, rfl, o.same _ _ h1, h2⟩
  | cell h1 =>
    simp only [tk] at h
    have z := cell_at o h1
    rw [h] at z
    obtain ⟨vs, z1, z2⟩ := z
    exact ⟨_, _, rfl, z1, z2⟩
  | _ => simp only [tk] at h; cases h
theorem rd_str (o : Ok K mg s) (r : Rp K mg s.Hf s.ρ x d) {z : Str} (h : rd s.S d = .str z) : x = .str z := by
  cases r with
  | str => simp only [rd] at h; injection h with h; subst h; rfl
  | cell h1 =>
    simp only [rd] at h
    have q := cell_at o h1
    rw [h] at q
    exact q.elim
  | _ => simp only [rd] at h; cases h
theorem rp_str {Hf : Hp} {ρ : List Addr} {z : Str} (r : Rp K mg Hf ρ x (.str z)) : x = .str z := by cases r; rfl
theorem rp_int {Hf : Hp} {ρ : List Addr} {z : Int} (r : Rp K mg Hf ρ x (.int z)) : x = .int z := by cases r; rfl
theorem rp_bl {Hf : Hp} {ρ : List Addr} {z : Bool} (r : Rp K mg Hf ρ x (.bl z)) : x = .bl z := by cases r; rfl
theorem rp_non {Hf : Hp} {ρ : List Addr} (r : Rp K mg Hf ρ x .non) : x = .non := by cases r; rfl
end

/-! ### operators by values -/
theorem OpR.or {X : Cx} {f : Value → Value → Sem Value} {r r' : R2} (h : OpR X f r) (h' : OpR X f r') : OpR X f (fun x y H Q => r x y H Q ∨ r' x y H Q) := by
  intro pins s σ H x y v u Q I rx ry q
  rcases q with q | q
  · exact h pins s σ H x y v u Q I rx ry q
  · exact h' pins s σ H x y v u Q I rx ry q
/-- a value without a heap -/
theorem RS.val {K : PySem.W.Frag} {mg : Str → Option Value} {W : WX} {σ : L2.St} {Q : VK} {s : Stt} {d : D} {v : V} (h : RS K mg (RE K mg) W σ Q s (.ok d s.S)) (o : Ok K mg s) (r : Rp K mg s.Hf s.ρ v d) : Q v s.H := h v s o rfl (Le.refl s) r
/-- a new frozen thing -/
theorem RS.made {K : PySem.W.Frag} {mg : Str → Option Value} {W : WX} {σ : L2.St} {Q : VK} {s : Stt} {d : D} {u : HO} (h : RS K mg (RE K mg) W σ Q s (.ok d s.S)) (o : Ok K mg s) {p : Addr} (hp : s.H p = none) (r : Rp K mg (upd s.Hf p u) s.ρ (.ref p) d) : Q (.ref p) (upd s.H p u) :=
  h (.ref p) (s.new p u) (o.new hp u) rfl (Le.new o hp u) r
theorem RpL.new {K : PySem.W.Frag} {mg : Str → Option Value} {s : Stt} {vs : List V} {ds : List D} (h : RpL K mg s.Hf s.ρ vs ds) (o : Ok K mg s) {p : Addr} (hp : s.H p = none) (u : HO) : RpL K mg (upd s.Hf p u) s.ρ vs ds := RpL.le (Le.new o hp u) h
theorem Rp.newL {K : PySem.W.Frag} {mg : Str → Option Value} {s : Stt} {vs : List V} {ds : List D} (h : RpL K mg s.Hf s.ρ vs ds) (o : Ok K mg s) {p : Addr} (hp : s.H p = none) : Rp K mg (upd s.Hf p (.lst vs)) s.ρ (.ref p) (.lst ds) := .lst upd_same (h.new o hp _)
theorem Rp.newT {K : PySem.W.Frag} {mg : Str → Option Value} {s : Stt} {vs : List V} {ds : List D} (h : RpL K mg s.Hf s.ρ vs ds) (o : Ok K mg s) {p : Addr} (hp : s.H p = none) : Rp K mg (upd s.Hf p (.tup vs)) s.ρ (.ref p) (.tup ds) := .tup (.inl (.inl upd_same)) (h.new o hp _)

def lim : Nat := 1000000
theorem lim_le {n : Nat} (h : n ≤ lim) : n ≤ sizeLine := Nat.le_trans h (by decide)
def fAdd : Op2 := fun S x y => match tk S x, tk S y with
  | .int i, .int j => .ok (.int (i + j)) S
  | .str a, .str b => if a.length + b.length ≤ lim then .ok (.str (a ++ b)) S else .bad
  | .lst a, .lst b => if a.length + b.length ≤ lim then .ok (.lst (a ++ b)) S else .bad
  | .tup a, .tup b => if a.length + b.length ≤ lim then .ok (.tup (a ++ b)) S else .bad
  | _, _ => .bad
def rAdd (K : PySem.W.Frag) : R2 := fun x y H Q => (rI0 (fun i j => .int (i + j)) x y H Q) ∨ (∃ i j, x = .str i ∧ y = .str j ∧ i.length + j.length ≤ sizeLine ∧ Q (.str (i ++ j)) H) ∨ rCat x y H Q ∨ rCatA K x y H Q
theorem opAdd {X : Cx} : OpR X (binaryOp .Add) (rAdd X.K) := op_add.or (op_add_str.or (op_cat.or op_catA))
section
variable {K : PySem.W.Frag} {mg : Str → Option Value}
theorem tk_str {s : Stt} {x : V} {d : D} (o : Ok K mg s) (r : Rp K mg s.Hf s.ρ x d) {z : Str} (h : tk s.S d = .str z) : x = .str z := by
  cases r with
  | str => simp only [tk] at h; injection h with h; subst h; rfl
  | cell h1 =>
    simp only [tk] at h
    have q := cell_at o h1
    rw [h] at q
    exact q.elim
  | _ => simp only [tk] at h; cases h
theorem tk_int {s : Stt} {x : V} {d : D} (o : Ok K mg s) (r : Rp K mg s.Hf s.ρ x d) {z : Int} (h : tk s.S d = .int z) : x = .int z := by
  cases r with
  | int => simp only [tk] at h; injection h with h; subst h; rfl
  | cell h1 =>
    simp only [tk] at h
    have q := cell_at o h1
    rw [h] at q
    exact q.elim
  | _ => simp only [tk] at h; cases h
theorem tk_tup {s : Stt} {x : V} {d : D} {ds : List D} (o : Ok K mg s) (r : Rp K mg s.Hf s.ρ x d) (h : tk s.S d = .tup ds) : ∃ a vs, x = .ref a ∧ SqT K s.H a vs ∧ SqT K s.Hf a vs ∧ RpL K mg s.Hf s.ρ vs ds := by
  cases r with
  | tup h1 h2 => simp only [tk] at h; injection h with h; subst h; exact ⟨_, _, rfl, sqT_same o.same h1, h1, h2⟩
  | cell h1 =>
    simp only [tk] at h
    have q := cell_at o h1
    rw [h] at q
    exact q.elim
  | _ => simp only [tk] at h; cases h
theorem fAdd_ok : OpS K mg (rAdd K) fAdd := by
  intro W σ Q s x y dx dy o rx ry h
  unfold fAdd at h
  split at h
  · rename_i i j e1 e2
    exact .inl ⟨i, j, tk_int o rx e1, tk_int o ry e2, h.val o .int⟩
  · rename_i a b e1 e2
    split at h
    · rename_i hl
      exact .inr (.inl ⟨a, b, tk_str o rx e1, tk_str o ry e2, lim_le hl, h.val o .str⟩)
    · exact h.elim
  · rename_i a b e1 e2
    split at h
    · rename_i hl
      obtain ⟨p, vs, rfl, h1, r1⟩ := tk_lst o rx e1
      obtain ⟨q, ws, rfl, h2, r2⟩ := tk_lst o ry e2
      exact .inr (.inr (.inl ⟨p, q, vs, ws, rfl, rfl, h1, h2, by rw [r1.length, r2.length]; exact lim_le hl, fun p hp => h.made o hp (Rp.newL (r1.append r2) o hp)⟩))
    · exact h.elim
  · rename_i a b e1 e2
    split at h
    · rename_i hl
      obtain ⟨p, vs, rfl, h1, f1, r1⟩ := tk_tup o rx e1
      obtain ⟨q, ws, rfl, h2, f2, r2⟩ := tk_tup o ry e2
      refine .inr (.inr (.inr ⟨p, q, vs, ws, rfl, rfl, h1, h2, by rw [r1.length, r2.length]; exact lim_le hl, fun z => ?_, fun z1 z => ?_, fun _ _ p hp => h.made o hp (Rp.newT (r1.append r2) o hp)⟩))
      · subst z
        cases r1
        exact h.val o (.tup f2 r2)
      · subst z
        cases r2
        refine h.val o (.tup f1 ?_)
        rw [List.append_nil]
        exact r1
    · exact h.elim
  · exact h.elim
def fSub : Op2 := fun S x y => match x, y with
  | .int i, .int j => .ok (.int (i - j)) S
  | _, _ => .bad
theorem fSub_ok : OpS K mg (rI0 fun i j => .int (i - j)) fSub := by
  intro W σ Q s x y dx dy o rx ry h
  unfold fSub at h
  split at h
  · exact ⟨_, _, rp_int rx, rp_int ry, h.val o .int⟩
  · exact h.elim
/-- products: one factor below 2 ^ 64 -/
def small64 (i : Int) : Bool := decide (-(2 ^ 64) < i ∧ i < 2 ^ 64)
def fMul : Op2 := fun S x y => match tk S x, tk S y with
  | .int i, .int j => if small64 i || small64 j then .ok (.int (i * j)) S else .bad
  | .lst a, .int k => if decide (0 ≤ k ∧ k ≤ 100000) && decide (a.length * k.toNat ≤ lim) then .ok (.lst ((List.replicate k.toNat a).flatten)) S else .bad
  | _, _ => .bad
def rMul : R2 := fun x y H Q => (rI CMul (fun i j => .int (i * j)) x y H Q) ∨ rRep x y H Q
theorem opMul {X : Cx} : OpR X (binaryOp .Mult) rMul := op_mul.or op_rep
end
end T
end S_TOps
section S_TOps2
set_option Elab.async false
set_option linter.all false
set_option maxRecDepth 100000
set_option maxHeartbeats 4000000
namespace T
open PySem L2
section
variable {K : PySem.W.Frag} {mg : Str → Option Value}
theorem RpL.rep {Hf : Hp} {ρ : List Addr} {vs : List V} {ds : List D} (h : RpL K mg Hf ρ vs ds) (n : Nat) : RpL K mg Hf ρ (List.replicate n vs).flatten (List.replicate n ds).flatten := by
  induction n with
  | zero => exact .nil
  | succ n ih =>
    rw [List.replicate_succ, List.replicate_succ, List.flatten_cons, List.flatten_cons]
    exact h.append ih
theorem fMul_ok : OpS K mg rMul fMul := by
  intro W σ Q s x y dx dy o rx ry h
  unfold fMul at h
  split at h
  · rename_i i j e1 e2
    split at h
    · rename_i hc
      refine .inl ⟨i, j, tk_int o rx e1, tk_int o ry e2, ?_, h.val o .int⟩
      rw [Bool.or_eq_true] at hc
      exact hc.imp of_decide_eq_true of_decide_eq_true
    · exact h.elim
  · rename_i a k e1 e2
    split at h
    · rename_i hc
      rw [Bool.and_eq_true, decide_eq_true_eq, decide_eq_true_eq] at hc
      obtain ⟨p, vs, rfl, h1, r1⟩ := tk_lst o rx e1
      refine .inr ⟨p, k, vs, rfl, tk_int o ry e2, h1, by omega, by omega, by rw [r1.length]; exact lim_le hc.2, fun p hp => h.made o hp (Rp.newL (r1.rep _) o hp)⟩
    · exact h.elim
  · exact h.elim
def fDiv : Op2 := fun S x y => match x, y with
  | .int i, .int j => if decide (0 < j ∧ j < 1073741824) then .ok (.int (i / j)) S else .bad
  | _, _ => .bad
theorem fDiv_ok : OpS K mg (rI CDiv fun i j => .int (i / j)) fDiv := by
  intro W σ Q s x y dx dy o rx ry h
  unfold fDiv at h
  split at h
  · split at h
    · rename_i hc
      rw [decide_eq_true_eq] at hc
      exact ⟨_, _, rp_int rx, rp_int ry, hc, h.val o .int⟩
    · exact h.elim
  · exact h.elim
def fMod : Op2 := fun S x y => match x, y with
  | .int i, .int j => if decide (0 < j) then .ok (.int (i % j)) S else .bad
  | _, _ => .bad
theorem fMod_ok : OpS K mg (rI (fun _ j => 0 < j) fun i j => .int (i % j)) fMod := by
  intro W σ Q s x y dx dy o rx ry h
  unfold fMod at h
  split at h
  · split at h
    · rename_i hc
      exact ⟨_, _, rp_int rx, rp_int ry, of_decide_eq_true hc, h.val o .int⟩
    · exact h.elim
  · exact h.elim
def fPow : Op2 := fun S x y => match x, y with
  | .int i, .int j => if decide (0 ≤ j ∧ j ≤ 1000) && decide (i.natAbs < 2 ^ 64) then .ok (.int (i ^ j.toNat)) S else .bad
  | _, _ => .bad
theorem fPow_ok : OpS K mg (rI CPow fun i j => .int (i ^ j.toNat)) fPow := by
  intro W σ Q s x y dx dy o rx ry h
  unfold fPow at h
  split at h
  · split at h
    · rename_i hc
      rw [Bool.and_eq_true, decide_eq_true_eq, decide_eq_true_eq] at hc
      exact ⟨_, _, rp_int rx, rp_int ry, ⟨hc.1.1, by omega, hc.2⟩, h.val o .int⟩
    · exact h.elim
  · exact h.elim

/-! ### order -/
abbrev sLt (a b : Str) : Bool := decide (a.cps.toList < b.cps.toList)
def fLt : Op2 := fun S x y => match x, y with
  | .int i, .int j => .ok (.bl (decide (i < j))) S
  | .str a, .str b => .ok (.bl (sLt a b)) S
  | _, _ => .bad
def fLe : Op2 := fun S x y => match x, y with
  | .int i, .int j => .ok (.bl (decide (i ≤ j))) S
  | .str a, .str b => .ok (.bl (!sLt b a)) S
  | _, _ => .bad
def fGt : Op2 := fun S x y => match x, y with
  | .int i, .int j => .ok (.bl (decide (j < i))) S
  | .str a, .str b => .ok (.bl (sLt b a)) S
  | _, _ => .bad
def fGe : Op2 := fun S x y => match x, y with
  | .int i, .int j => .ok (.bl (decide (j ≤ i))) S
  | .str a, .str b => .ok (.bl (!sLt a b)) S
  | _, _ => .bad
abbrev rOrd (f : Int → Int → V) (g : Str → Str → V) : R2 := fun x y H Q => rI0 f x y H Q ∨ ∃ i j, x = .str i ∧ y = .str j ∧ Q (g i j) H
theorem opLt {X : Cx} : OpR X (compareOp .Lt) (rOrd (fun i j => .bl (decide (i < j))) fun a b => .bl (sLt a b)) := op_lt.or op_lt_str
theorem opLe {X : Cx} : OpR X (compareOp .LtE) (rOrd (fun i j => .bl (decide (i ≤ j))) fun a b => .bl (!sLt b a)) := op_le.or op_le_str
theorem opGt {X : Cx} : OpR X (compareOp .Gt) (rOrd (fun i j => .bl (decide (j < i))) fun a b => .bl (sLt b a)) := op_gt.or op_gt_str
theorem opGe {X : Cx} : OpR X (compareOp .GtE) (rOrd (fun i j => .bl (decide (j ≤ i))) fun a b => .bl (!sLt a b)) := op_ge.or op_ge_str
theorem fLt_ok : OpS K mg (rOrd (fun i j => .bl (decide (i < j))) fun a b => .bl (sLt a b)) fLt := by
  intro W σ Q s x y dx dy o rx ry h
  unfold fLt at h
  split at h
  · exact .inl ⟨_, _, rp_int rx, rp_int ry, h.val o .bl⟩
  · exact .inr ⟨_, _, rp_str rx, rp_str ry, h.val o .bl⟩
  · exact h.elim
theorem fLe_ok : OpS K mg (rOrd (fun i j => .bl (decide (i ≤ j))) fun a b => .bl (!sLt b a)) fLe := by
  intro W σ Q s x y dx dy o rx ry h
  unfold fLe at h
  split at h
  · exact .inl ⟨_, _, rp_int rx, rp_int ry, h.val o .bl⟩
  · exact .inr ⟨_, _, rp_str rx, rp_str ry, h.val o .bl⟩
  · exact h.elim
theorem fGt_ok : OpS K mg (rOrd (fun i j => .bl (decide (j < i))) fun a b => .bl (sLt b a)) fGt := by
  intro W σ Q s x y dx dy o rx ry h
  unfold fGt at h
  split at h
  · exact .inl ⟨_, _, rp_int rx, rp_int ry, h.val o .bl⟩
  · exact .inr ⟨_, _, rp_str rx, rp_str ry, h.val o .bl⟩
  · exact h.elim
theorem fGe_ok : OpS K mg (rOrd (fun i j => .bl (decide (j ≤ i))) fun a b => .bl (!sLt a b)) fGe := by
  intro W σ Q s x y dx dy o rx ry h
  unfold fGe at h
  split at h
  · exact .inl ⟨_, _, rp_int rx, rp_int ry, h.val o .bl⟩
  · exact .inr ⟨_, _, rp_str rx, rp_str ry, h.val o .bl⟩
  · exact h.elim

/-! ### equality -/
mutual
/-- plain data, cells looked through -/
def toPy (S : Sto) : D → Option PyData
  | .non => some .none
  | .bl b => some (.bool b)
  | .int i => some (.int i)
  | .str x => some (.str x)
  | .tup ds => (toPyL S ds).map .tuple
  | .lst ds => (toPyL S ds).map .list
  | .rdl ds => (toPyL S ds).map .list
  | _ => none
def toPyL (S : Sto) : List D → Option (List PyData)
  | [] => some []
  | d :: ds => match toPy S d, toPyL S ds with
    | some p, some ps => some (p :: ps)
    | _, _ => none
end
mutual
theorem toPy_dp {s : Stt} (o : Ok K mg s) : ∀ (d : D) {x : V} {p : PyData}, Rp K mg s.Hf s.ρ x d → toPy s.S d = some p → Dp K s.H x p
  | .non, x, p, r, h => by cases r; simp only [toPy] at h; injection h with h; subst h; exact .non
  | .bl b, x, p, r, h => by cases r; simp only [toPy] at h; injection h with h; subst h; exact .bl b
  | .int b, x, p, r, h => by cases r; simp only [toPy] at h; injection h with h; subst h; exact .int b
  | .str b, x, p, r, h => by cases r; simp only [toPy] at h; injection h with h; subst h; exact .str b
  | .tup ds, x, p, r, h => by
    cases r with
    | tup h1 h2 =>
      simp only [toPy] at h
      cases q : toPyL s.S ds with
      | none => rw [q] at h; cases h
      | some ps => rw [q] at h; injection h with h; subst h; exact .tup (sqT_same o.same h1) (toPyL_dp o ds h2 q)
  | .lst ds, x, p, r, h => by
    cases r with
    | lst h1 h2 =>
      simp only [toPy] at h
      cases q : toPyL s.S ds with
      | none => rw [q] at h; cases h
      | some ps => rw [q] at h; injection h with h; subst h; exact .lst (SqL.of (o.same _ _ h1)) (toPyL_dp o ds h2 q)
  | .rdl ds, x, p, r, h => by
    cases r with
    | rdl h1 h2 =>
      simp only [toPy] at h
      cases q : toPyL s.S ds with
      | none => rw [q] at h; cases h
      | some ps => rw [q] at h; injection h with h; subst h; exact .lst (o.same.seq h1) (toPyL_dp o ds h2 q)
  | .dk _, x, p, r, h => by simp only [toPy] at h; cases h
  | .obj _ _, x, p, r, h => by simp only [toPy] at h; cases h
  | .exc _ _, x, p, r, h => by simp only [toPy] at h; cases h
  | .cell _, x, p, r, h => by simp only [toPy] at h; cases h
theorem toPyL_dp {s : Stt} (o : Ok K mg s) : ∀ (ds : List D) {xs : List V} {ps : List PyData}, RpL K mg s.Hf s.ρ xs ds → toPyL s.S ds = some ps → DpAll K s.H xs ps
  | [], xs, ps, r, h => by cases r; simp only [toPyL] at h; injection h with h; subst h; exact .nil
  | d :: ds, xs, ps, r, h => by
    cases r with
    | cons h1 h2 =>
      simp only [toPyL] at h
      split at h
      · rename_i p qs e1 e2
        injection h with h
        subst h
        exact .cons (toPy_dp o d h1 e1) (toPyL_dp o ds h2 e2)
      · cases h
end
/-- a list cell seen as data -/
theorem toPy_rd {s : Stt} (o : Ok K mg s) {d : D} {x : V} {p : PyData} (r : Rp K mg s.Hf s.ρ x d) (h : toPy s.S (rd s.S d) = some p) : Dp K s.H x p := by
  cases r with
  | cell h1 =>
    simp only [rd] at h
    have q := cell_at o h1
    cases e : cget s.S _ with
    | lst ds =>
      rw [e] at q h
      obtain ⟨vs, q1, q2⟩ := q
      simp only [toPy] at h
      cases z : toPyL s.S ds with
      | none => rw [z] at h; cases h
      | some ps => rw [z] at h; injection h with h; subst h; exact .lst (SqL.of q1) (toPyL_dp o ds q2 z)
    | _ => rw [e] at q h; first | exact q.elim | (simp only [toPy] at h; cases h)
  | rdl h1 h2 =>
    simp only [rd] at h
    rename_i ds
    simp only [toPy] at h
    cases z : toPyL s.S ds with
    | none => rw [z] at h; cases h
    | some ps => rw [z] at h; injection h with h; subst h; exact .lst (o.same.seq h1) (toPyL_dp o ds h2 z)
  | non => exact toPy_dp o _ .non h
  | bl => exact toPy_dp o _ .bl h
  | int => exact toPy_dp o _ .int h
  | str => exact toPy_dp o _ .str h
  | tup h1 h2 => exact toPy_dp o _ (.tup h1 h2) h
  | lst h1 h2 => exact toPy_dp o _ (.lst h1 h2) h
  | dk h1 h2 => simp only [rd, toPy] at h; cases h
  | obj h1 h2 => simp only [rd, toPy] at h; cases h
  | exc h1 h2 => simp only [rd, toPy] at h; cases h
/-- equality of plain things at once, deep for lists and tuples -/
def deq (S : Sto) (x y : D) : Option Bool := match x, y with
  | .int i, .int j => some (decide (i = j))
  | .str i, .str j => some (decide (i = j))
  | .bl i, .bl j => some (decide (i = j))
  | .non, .non => some true
  | .non, .int _ => some false | .int _, .non => some false
  | .non, .str _ => some false | .str _, .non => some false
  | .non, .bl _ => some false | .bl _, .non => some false
  | .int _, .str _ => some false | .str _, .int _ => some false
  | .bl _, .str _ => some false | .str _, .bl _ => some false
  | x, y => match toPy S (rd S x), toPy S (rd S y) with
    | some p, some q => if SeqAt.shaped p && SeqAt.shaped q then some (PyData.eqv p q) else none
    | _, _ => none
def fEq : Op2 := fun S x y => match deq S x y with
  | some b => .ok (.bl b) S
  | none => .bad
def fNe : Op2 := fun S x y => match deq S x y with
  | some b => .ok (.bl (!b)) S
  | none => .bad
theorem deq_ok {s : Stt} (o : Ok K mg s) {x y : V} {dx dy : D} (rx : Rp K mg s.Hf s.ρ x dx) (ry : Rp K mg s.Hf s.ρ y dy) {b : Bool} (h : deq s.S dx dy = some b) :
    (scal x y = true ∧ b = decide (x = y)) ∨ ∃ d e, Dp K s.H x d ∧ Dp K s.H y e ∧ SeqAt.shaped d = true ∧ SeqAt.shaped e = true ∧ b = PyData.eqv d e := by
  unfold deq at h
  split at h
  case h_15 =>
    split at h
    · rename_i p q e1 e2
      split at h
      · rename_i hs
        rw [Bool.and_eq_true] at hs
        injection h with h
        exact .inr ⟨p, q, toPy_rd o rx e1, toPy_rd o ry e2, hs.1, hs.2, h.symm⟩
      · cases h
    · cases h
  all_goals
    cases rx
    cases ry
    injection h with h
    subst h
    refine .inl ⟨rfl, ?_⟩
    simp
theorem fEq_ok : OpS K mg (fun x y H Q => rEq x y H Q ∨ rEqD K x y H Q) fEq := by
  intro W σ Q s x y dx dy o rx ry h
  unfold fEq at h
  split at h
  · rename_i b e
    rcases deq_ok o rx ry e with ⟨h1, h2⟩ | ⟨d, e2, h1, h2, h3, h4, h5⟩
    · subst h2; exact .inl ⟨h1, h.val o .bl⟩
    · subst h5; exact .inr ⟨d, e2, h1, h2, h3, h4, h.val o .bl⟩
  · exact h.elim
theorem fNe_ok : OpS K mg (fun x y H Q => rNe x y H Q ∨ rNeD K x y H Q) fNe := by
  intro W σ Q s x y dx dy o rx ry h
  unfold fNe at h
  split at h
  · rename_i b e
    rcases deq_ok o rx ry e with ⟨h1, h2⟩ | ⟨d, e2, h1, h2, h3, h4, h5⟩
    · subst h2; exact .inl ⟨h1, h.val o .bl⟩
    · subst h5; exact .inr ⟨d, e2, h1, h2, h3, h4, h.val o .bl⟩
  · exact h.elim
theorem opEq {X : Cx} (hu : X.A.units + 64 < cLine) : OpR X (compareOp .Eq) (fun x y H Q => rEq x y H Q ∨ rEqD X.K x y H Q) := op_eq.or (op_eqD hu)
theorem opNe {X : Cx} (hu : X.A.units + 64 < cLine) : OpR X (compareOp .NotEq) (fun x y H Q => rNe x y H Q ∨ rNeD X.K x y H Q) := op_ne.or (op_neD hu)
/-- is None -/
def fIsN : Op2 := fun S x y => match y with
  | .non => .ok (.bl (match x with | .non => true | _ => false)) S
  | _ => .bad
def fNotN : Op2 := fun S x y => match y with
  | .non => .ok (.bl (match x with | .non => false | _ => true)) S
  | _ => .bad
theorem fIsN_ok : OpS K mg (fun x y H Q => y = .non ∧ Q (.bl (decide (x = .non))) H) fIsN := by
  intro W σ Q s x y dx dy o rx ry h
  unfold fIsN at h
  split at h
  · refine ⟨rp_non ry, ?_⟩
    cases rx <;> exact h.val o .bl
  · exact h.elim
theorem fNotN_ok : OpS K mg (fun x y H Q => y = .non ∧ Q (.bl (!decide (x = .non))) H) fNotN := by
  intro W σ Q s x y dx dy o rx ry h
  unfold fNotN at h
  split at h
  · refine ⟨rp_non ry, ?_⟩
    cases rx <;> exact h.val o .bl
  · exact h.elim
end
end T
end S_TOps2
section S_TExp
set_option Elab.async false
set_option linter.all false
set_option maxRecDepth 100000
set_option maxHeartbeats 4000000
namespace T
open PySem L2
/-! ### truth -/
def isB (m : SemE) : SemT := fun env S => (m env S).bind fun x S1 => match x with
  | .bl b => .ok b S1
  | _ => .bad
def cAnd (a b : SemT) : SemT := fun env S => (a env S).bind fun x S1 => if x = true then b env S1 else .ok false S1
def cOr (a b : SemT) : SemT := fun env S => (a env S).bind fun x S1 => if x = true then .ok true S1 else b env S1
def cNot (a : SemT) : SemT := fun env S => (a env S).bind fun x S1 => .ok (!x) S1
def sAnd (a b : SemE) : SemE := fun env S => (a env S).bind fun x S1 => match x with
  | .bl true => b env S1
  | .bl false => .ok (.bl false) S1
  | _ => .bad
def sOr (a b : SemE) : SemE := fun env S => (a env S).bind fun x S1 => match x with
  | .bl true => .ok (.bl true) S1
  | .bl false => b env S1
  | _ => .bad
def sNot (a : SemE) : SemE := fun env S => (a env S).bind fun x S1 => match x with
  | .bl b => .ok (.bl (!b)) S1
  | _ => .bad
def sIfx (c : SemT) (a b : SemE) : SemE := fun env S => (c env S).bind fun x S1 => if x = true then a env S1 else b env S1
/-- xs or e, xs a list -/
def sOrL (a b : SemE) : SemE := fun env S => (a env S).bind fun x S1 => match rd S1 x with
  | .lst [] => b env S1
  | .lst _ => .ok x S1
  | _ => .bad
section
variable {X : Cx} {W : WX} {a b : Expr} {rest : List Expr} {pos : Pos} {m ma mb : SemE} {ca cb : SemT}
theorem isB_read {K : PySem.W.Frag} {mg : Str → Option Value} {σ : L2.St} {H : Hp} {Q : Bool → Hp → Prop} (h : tT K mg W (isB m) σ H Q) : tE K mg W m σ H fun x H1 => ∃ c, x = .bl c ∧ Q c H1 := by
  obtain ⟨s, env, rfl, o, eo, h⟩ := h
  refine RS.go (R := RE K mg) h o eo fun x t dx ot lt rx h => ?_
  split at h
  · rename_i b
    exact ⟨b, rp_bl rx, h b t ot rfl (Le.refl t) rfl⟩
  · exact h.elim
theorem wVal (he : PE X a (tE X.K X.mg W m)) (hw : ∀ whole, isTrue a X.env whole = (do let v ← whole; standAt a.pos; holding [v] (truthy v))) : PT X a (tT X.K X.mg W (isB m)) := (pt_val he hw).mono fun _ _ _ h => isB_read h
theorem wCmp {op : CmpOp} {r : R2} {f : Op2} (ho : OpR X (compareOp op) r) (hf : OpS X.K X.mg r f) (hm : behindInMarks op b = false) (ha : PE X a (tE X.K X.mg W ma)) (hb : PE X b (tE X.K X.mg W mb)) : PT X (.Compare a [op] [b] pos) (tT X.K X.mg W (isB (sOp f ma mb))) :=
  (pt_cmpR ho ha hb hm).mono fun σ H Q h => by
    obtain ⟨s, env, e1, o, eo, h⟩ := h
    have h2 : tE X.K X.mg W (sOp f ma mb) σ H fun x H1 => ∃ c, x = .bl c ∧ Q c H1 := isB_read ⟨s, env, e1, o, eo, h⟩
    exact op_read hf h2
theorem wAnd1 (ha : PT X a (tT X.K X.mg W ca)) : PW X (.BoolOp .And [a] pos) (tT X.K X.mg W ca) := pw_and1 ha
theorem wOr1 (ha : PT X a (tT X.K X.mg W ca)) : PW X (.BoolOp .Or [a] pos) (tT X.K X.mg W ca) := pw_or1 ha
theorem wAnd (ha : PT X a (tT X.K X.mg W ca)) (hb : PW X (.BoolOp .And (b :: rest) pos) (tT X.K X.mg W cb)) : PW X (.BoolOp .And (a :: b :: rest) pos) (tT X.K X.mg W (cAnd ca cb)) := (pw_and ha hb).mono fun σ H Q h => by
  obtain ⟨s, env, rfl, o, eo, h⟩ := h
  refine RS.go (R := RT) h o eo fun x t dx ot lt rx h => ?_
  subst rx
  cases x with
  | true => exact ⟨t, env, rfl, ot, eo.le lt, h⟩
  | false => exact h false t ot rfl (Le.refl t) rfl
theorem wOr (ha : PT X a (tT X.K X.mg W ca)) (hb : PW X (.BoolOp .Or (b :: rest) pos) (tT X.K X.mg W cb)) : PW X (.BoolOp .Or (a :: b :: rest) pos) (tT X.K X.mg W (cOr ca cb)) := (pw_or ha hb).mono fun σ H Q h => by
  obtain ⟨s, env, rfl, o, eo, h⟩ := h
  refine RS.go (R := RT) h o eo fun x t dx ot lt rx h => ?_
  subst rx
  cases x with
  | true => exact h true t ot rfl (Le.refl t) rfl
  | false => exact ⟨t, env, rfl, ot, eo.le lt, h⟩
theorem wPt (h : PW X a (tT X.K X.mg W ca)) : PT X a (tT X.K X.mg W ca) := h.pt
theorem wNot (ha : PT X a (tT X.K X.mg W ca)) : PT X (.UnaryOp .Not a pos) (tT X.K X.mg W (cNot ca)) := (pt_not ha).mono fun σ H Q h => by
  obtain ⟨s, env, rfl, o, eo, h⟩ := h
  refine RS.go (R := RT) h o eo fun x t dx ot lt rx h => ?_
  subst rx
  exact h _ t ot rfl (Le.refl t) rfl
theorem xOne {op : BoolOp} (ha : PE X a (tE X.K X.mg W m)) : PE X (.BoolOp op [a] pos) (tE X.K X.mg W m) := pe_one ha
theorem xAnd (ha : PE X a (tE X.K X.mg W ma)) (hb : PE X (.BoolOp .And (b :: rest) pos) (tE X.K X.mg W mb)) : PE X (.BoolOp .And (a :: b :: rest) pos) (tE X.K X.mg W (sAnd ma mb)) := (pe_and ha hb).mono fun σ H Q h => by
  obtain ⟨s, env, rfl, o, eo, h⟩ := h
  refine RS.go (R := RE X.K X.mg) h o eo fun x t dx ot lt rx h => ?_
  split at h
  · exact ⟨true, rp_bl rx, ⟨t, env, rfl, ot, eo.le lt, h⟩⟩
  · exact ⟨false, rp_bl rx, h.val ot .bl⟩
  · exact h.elim
theorem xOr (ha : PE X a (tE X.K X.mg W ma)) (hb : PE X (.BoolOp .Or (b :: rest) pos) (tE X.K X.mg W mb)) : PE X (.BoolOp .Or (a :: b :: rest) pos) (tE X.K X.mg W (sOr ma mb)) := (pe_or ha hb).mono fun σ H Q h => by
  obtain ⟨s, env, rfl, o, eo, h⟩ := h
  refine RS.go (R := RE X.K X.mg) h o eo fun x t dx ot lt rx h => ?_
  split at h
  · exact ⟨true, rp_bl rx, h.val ot .bl⟩
  · exact ⟨false, rp_bl rx, ⟨t, env, rfl, ot, eo.le lt, h⟩⟩
  · exact h.elim
theorem xNot (ha : PE X a (tE X.K X.mg W m)) : PE X (.UnaryOp .Not a pos) (tE X.K X.mg W (sNot m)) := (pe_not ha).mono fun σ H Q h => by
  obtain ⟨s, env, rfl, o, eo, h⟩ := h
  refine RS.go (R := RE X.K X.mg) h o eo fun x t dx ot lt rx h => ?_
  split at h
  · rename_i c
    exact ⟨c, rp_bl rx, h.val ot .bl⟩
  · exact h.elim
theorem xIf {c : Expr} (hc : PT X c (tT X.K X.mg W ca)) (ha : PE X a (tE X.K X.mg W ma)) (hb : PE X b (tE X.K X.mg W mb)) : PE X (.IfExp c a b pos) (tE X.K X.mg W (sIfx ca ma mb)) := (pe_ifExp hc ha hb).mono fun σ H Q h => by
  obtain ⟨s, env, rfl, o, eo, h⟩ := h
  refine RS.go (R := RT) h o eo fun x t dx ot lt rx h => ?_
  subst rx
  cases x with
  | true => exact ⟨t, env, rfl, ot, eo.le lt, h⟩
  | false => exact ⟨t, env, rfl, ot, eo.le lt, h⟩
theorem xOrL (ha : PE X a (tE X.K X.mg W ma)) (hb : PE X (.BoolOp .Or (b :: rest) pos) (tE X.K X.mg W mb)) : PE X (.BoolOp .Or (a :: b :: rest) pos) (tE X.K X.mg W (sOrL ma mb)) := (pe_orT ha hb).mono fun σ H Q h => by
  obtain ⟨s, env, rfl, o, eo, h⟩ := h
  refine RS.go (R := RE X.K X.mg) h o eo fun x t dx ot lt rx h => ?_
  split at h
  · rename_i e
    obtain ⟨p, vs, rfl, h1, r1⟩ := rd_lst ot rx e
    cases r1
    exact ⟨false, .inl ⟨[], h1, rfl⟩, ⟨t, env, rfl, ot, eo.le lt, h⟩⟩
  · rename_i ds ne e
    obtain ⟨p, vs, rfl, h1, r1⟩ := rd_lst ot rx e
    cases r1 with
    | nil => exact absurd rfl ne
    | cons q1 q2 => exact ⟨true, .inl ⟨_, h1, rfl⟩, h.val ot rx⟩
  · exact h.elim
/-! ### chains -/
def sChain (f g : Op2) (a b c : SemE) : SemE := fun env S => (a env S).bind fun x S1 => (b env S1).bind fun y S2 => (f S2 x y).bind fun z S3 => match z with
  | .bl true => (c env S3).bind fun w S4 => g S4 y w
  | .bl false => .ok (.bl false) S3
  | _ => .bad
theorem chain_read {K : PySem.W.Frag} {mg : Str → Option Value} {r r' : R2} {f g : Op2} {mc : SemE} (hf : OpS K mg r f) (hg : OpS K mg r' g) {σ : L2.St} {H : Hp} {Q : VK} (h : tE K mg W (sChain f g ma mb mc) σ H Q) : tChain r r' (tE K mg W ma) (tE K mg W mb) (tE K mg W mc) σ H Q := by
  obtain ⟨s, env, rfl, o, eo, h⟩ := h
  refine RS.go (R := RE K mg) h o eo fun x t dx ot lt rx h => ?_
  refine RS.go (R := RE K mg) h ot (eo.le lt) fun y u dy ou lu ry h => ?_
  refine hf W σ _ u x y dx dy ou (rx.le lu) ry ((RS.bind (R := RE K mg) h).imp fun z H1 ⟨v, dz, q1, ov, lv, rz, h⟩ => ?_)
  subst q1
  split at h
  · refine ⟨true, rp_bl rz, ?_⟩
    exact RS.go (R := RE K mg) h ov ((eo.le lt).le (lu.trans lv)) fun w t2 dw o2 l2 rw h => hg W σ Q t2 y w dy dw o2 ((ry.le lv).le l2) rw h
  · exact ⟨false, rp_bl rz, h.val ov .bl⟩
  · exact h.elim
theorem xChain {c : Expr} {op op' : CmpOp} {r r' : R2} {f g : Op2} {mc : SemE} (ho : OpR X (compareOp op) r) (hf : OpS X.K X.mg r f) (ho' : OpR X (compareOp op') r') (hg : OpS X.K X.mg r' g) (hm : lastMarks [op, op'] [b, c] = false) (ha : PE X a (tE X.K X.mg W ma)) (hb : PE X b (tE X.K X.mg W mb)) (hc : PE X c (tE X.K X.mg W mc)) :
    PE X (.Compare a [op, op'] [b, c] pos) (tE X.K X.mg W (sChain f g ma mb mc)) := (pe_chain ho ho' ha hb hc hm).mono fun _ _ _ h => chain_read hf hg h
theorem wChain {c : Expr} {op op' : CmpOp} {r r' : R2} {f g : Op2} {mc : SemE} (ho : OpR X (compareOp op) r) (hf : OpS X.K X.mg r f) (ho' : OpR X (compareOp op') r') (hg : OpS X.K X.mg r' g) (hm : lastMarks [op, op'] [b, c] = false) (ha : PE X a (tE X.K X.mg W ma)) (hb : PE X b (tE X.K X.mg W mb)) (hc : PE X c (tE X.K X.mg W mc)) :
    PT X (.Compare a [op, op'] [b, c] pos) (tT X.K X.mg W (isB (sChain f g ma mb mc))) := (pt_chain ho ho' ha hb hc hm).mono fun σ H Q h => by
  have h2 : tE X.K X.mg W (sChain f g ma mb mc) σ H fun x H1 => ∃ c, x = .bl c ∧ Q c H1 := isB_read h
  exact chain_read hf hg h2
end

/-! ### displays -/
def sTup (a : SemA) : SemE := fun env S => (a env S).bind fun ds S1 => if ds.length ≤ lim then .ok (.tup ds) S1 else .bad
def sLst (a : SemA) : SemE := fun env S => (a env S).bind fun ds S1 => if ds.length ≤ lim then .ok (.lst ds) S1 else .bad
/-- a list that may be changed -/
def sLstC (a : SemA) : SemE := fun env S => (a env S).bind fun ds S1 => if ds.length ≤ lim then .ok (.cell S1.length) (S1 ++ [.lv (.lst ds)]) else .bad
section
variable {X : Cx} {W : WX} {es : List Expr} {pos : Pos} {ma : SemA}
theorem xTup {k} (h : PA X es (tA X.K X.mg W ma)) : PE X (.Tuple es k pos) (tE X.K X.mg W (sTup ma)) := (pe_tup h).mono fun σ H Q h => by
  obtain ⟨s, env, rfl, o, eo, h⟩ := h
  refine RS.go (R := RA X.K X.mg) h o eo fun x t dx ot lt rx h => ?_
  split at h
  · rename_i hl
    exact ⟨by rw [rx.length]; exact lim_le hl, fun p hp => h.made ot hp (Rp.newT rx ot hp)⟩
  · exact h.elim
theorem xLst (h : PA X es (tA X.K X.mg W ma)) : PE X (.List es pos) (tE X.K X.mg W (sLst ma)) := (pe_lst h).mono fun σ H Q h => by
  obtain ⟨s, env, rfl, o, eo, h⟩ := h
  refine RS.go (R := RA X.K X.mg) h o eo fun x t dx ot lt rx h => ?_
  split at h
  · rename_i hl
    exact ⟨by rw [rx.length]; exact lim_le hl, fun p hp => h.made ot hp (Rp.newL rx ot hp)⟩
  · exact h.elim
theorem RS.madeC {K : PySem.W.Frag} {mg : Str → Option Value} {W : WX} {σ : L2.St} {Q : VK} {s : Stt} {d : D} {u : HO} (h : RS K mg (RE K mg) W σ Q s (.ok (.cell s.S.length) (s.S ++ [.lv d]))) (o : Ok K mg s) {p : Addr} (hp : s.H p = none) (hc : CelOk K mg s.Hf s.ρ (upd s.H p u) p d) : Q (.ref p) (upd s.H p u) :=
  h (.ref p) (s.cel p u d) (o.cel hp hc) rfl (Le.cel o hp u d) (.cell (by show (s.ρ ++ [p])[s.S.length]? = some p; rw [← o.len]; simp))
theorem xLstC (h : PA X es (tA X.K X.mg W ma)) : PE X (.List es pos) (tE X.K X.mg W (sLstC ma)) := (pe_lst h).mono fun σ H Q h => by
  obtain ⟨s, env, rfl, o, eo, h⟩ := h
  refine RS.go (R := RA X.K X.mg) h o eo fun x t dx ot lt rx h => ?_
  split at h
  · rename_i hl
    exact ⟨by rw [rx.length]; exact lim_le hl, fun p hp => h.madeC ot hp ⟨x, upd_same, rx⟩⟩
  · exact h.elim
end

/-! ### subscripts -/
def fIx : Op2 := fun S x y => match rd S x, y with
  | .lst ds, .int i => (match atI ds i with | some d => .ok d S | none => .bad)
  | .tup ds, .int i => (match atI ds i with | some d => .ok d S | none => .bad)
  | .str z, .int i => if z.length ≤ lim then (match atI z.cps.toList i with | some c => .ok (.str ⟨#[c]⟩) S | none => .bad) else .bad
  | _, _ => .bad
theorem atI_rp {K : PySem.W.Frag} {mg : Str → Option Value} {Hf : Hp} {ρ : List Addr} {vs : List V} {ds : List D} (h : RpL K mg Hf ρ vs ds) {i : Int} {d : D} (e : atI ds i = some d) : ∃ v, atI vs i = some v ∧ Rp K mg Hf ρ v d := by
  unfold atI at e ⊢
  rw [h.length]
  cases q : ixN ds.length i with
  | none => rw [q] at e; cases e
  | some j => rw [q] at e; exact h.get' e
theorem fIx_ok {K : PySem.W.Frag} {mg : Str → Option Value} : OpS K mg (rIx K) fIx := by
  intro W σ Q s x y dx dy o rx ry h
  unfold fIx at h
  split at h
  · rename_i ds i e
    split at h
    · rename_i d e2
      obtain ⟨p, vs, rfl, h1, r1⟩ := rd_lst o rx e
      obtain ⟨v, e3, r3⟩ := atI_rp r1 e2
      exact .inl ⟨p, vs, i, v, rfl, rp_int ry, h1, e3, h.val o r3⟩
    · exact h.elim
  · rename_i ds i e
    split at h
    · rename_i d e2
      obtain ⟨p, vs, rfl, h1, r1⟩ := rd_tup o rx e
      obtain ⟨v, e3, r3⟩ := atI_rp r1 e2
      exact .inr (.inl ⟨p, vs, i, v, rfl, rp_int ry, h1, e3, h.val o r3⟩)
    · exact h.elim
  · rename_i z i e
    split at h
    · rename_i hl
      split at h
      · rename_i c e2
        exact .inr (.inr ⟨z, i, c, rd_str o rx e, rp_int ry, lim_le hl, e2, h.val o .str⟩)
      · exact h.elim
    · exact h.elim
  · exact h.elim
section
variable {X : Cx} {W : WX} {a b : Expr} {pos : Pos} {ma mb : SemE}
theorem xIx (ha : PE X a (tE X.K X.mg W ma)) (hb : PE X b (tE X.K X.mg W mb)) (hs : PlainIx b) : PE X (.Subscript a b pos) (tE X.K X.mg W (sOp fIx ma mb)) := (pe_ix ix_seq ha hb hs).mono fun _ _ _ h => op_read fIx_ok h
end
theorem rd_tup2 {K : PySem.W.Frag} {mg : Str → Option Value} {s : Stt} {x : V} {d : D} {ds : List D} (o : Ok K mg s) (r : Rp K mg s.Hf s.ρ x d) (h : rd s.S d = .tup ds) : ∃ a vs, x = .ref a ∧ SqT K s.H a vs ∧ SqT K s.Hf a vs ∧ RpL K mg s.Hf s.ρ vs ds := by
  cases r with
  | tup h1 h2 => simp only [rd] at h; injection h with h; subst h; exact ⟨_, _, rfl, sqT_same o.same h1, h1, h2⟩
  | cell h1 =>
    simp only [rd] at h
    have q := cell_at o h1
    rw [h] at q
    exact q.elim
  | _ => simp only [rd] at h; cases h
/-! ### slices -/
abbrev SemO := Env → Sto → Res (Option Int)
def oNone : SemO := fun _ S => .ok none S
def oSome (m : SemE) : SemO := fun env S => (m env S).bind fun d S1 => match d with
  | .int i => .ok (some i) S1
  | _ => .bad
abbrev RO : Stt → Option Int → Option Int → Prop := fun _ v d => v = d
def cutD (xs : List D) (lo hi : Option Int) : List D := (xs.drop (HT.sIx xs.length 0 lo)).take (HT.sIx xs.length xs.length hi - HT.sIx xs.length 0 lo)
def sSl (a : SemE) (l u : SemO) : SemE := fun env S => (a env S).bind fun x S1 => (l env S1).bind fun lo S2 => (u env S2).bind fun hi S3 => match rd S3 x with
  | .lst ds => .ok (.lst (cutD ds lo hi)) S3
  | .tup ds => .ok (.tup (cutD ds lo hi)) S3
  | .str z => if z.length ≤ lim then .ok (.str (cutS z lo hi)) S3 else .bad
  | _ => .bad
theorem SlR.or {X : Cx} {r r' : V → Option Int → Option Int → Hp → VK → Prop} (h : SlR X r) (h' : SlR X r') : SlR X (fun x a b H Q => r x a b H Q ∨ r' x a b H Q) := by
  intro pins s σ H x v vl vu lo hi sl Q I rx hs pl pu q
  rcases q with q | q
  · exact h pins s σ H x v vl vu lo hi sl Q I rx hs pl pu q
  · exact h' pins s σ H x v vl vu lo hi sl Q I rx hs pl pu q
theorem cut_rp {K : PySem.W.Frag} {mg : Str → Option Value} {Hf : Hp} {ρ : List Addr} {vs : List V} {ds : List D} (h : RpL K mg Hf ρ vs ds) (lo hi : Option Int) : RpL K mg Hf ρ (cutV vs lo hi) (cutD ds lo hi) := by
  unfold cutV cutD
  rw [h.length]
  exact (h.drop _).take _
section
variable {X : Cx} {W : WX} {e : Expr} {pos p2 : Pos} {m : SemE} {lo hi : Option Expr} {ml mu : SemO}
theorem oNo : PO X none (tX X.K X.mg RO W oNone) := ⟨fun pins s σ H Q I h => po_none.run pins s σ H Q I (by
  obtain ⟨s, env, rfl, o, eo, h⟩ := h
  exact h none s o rfl (Le.refl s) rfl)⟩
theorem oYes (he : PE X e (tE X.K X.mg W m)) : PO X (some e) (tX X.K X.mg RO W (oSome m)) := ⟨fun pins s σ H Q I h => (po_some he).run pins s σ H Q I (by
  obtain ⟨s, env, rfl, o, eo, h⟩ := h
  refine RS.go (R := RE X.K X.mg) h o eo fun x t dx ot lt rx h => ?_
  split at h
  · rename_i i
    exact ⟨i, rp_int rx, h _ t ot rfl (Le.refl t) rfl⟩
  · exact h.elim)⟩
theorem xSl (he : PE X e (tE X.K X.mg W m)) (hl : PO X lo (tX X.K X.mg RO W ml)) (hu : PO X hi (tX X.K X.mg RO W mu)) : PE X (.Subscript e (.Slice lo hi none p2) pos) (tE X.K X.mg W (sSl m ml mu)) :=
  (pe_slice (sl_list.or (sl_tupA.or sl_str)) he hl hu).mono fun σ H Q h => by
    obtain ⟨s, env, rfl, o, eo, h⟩ := h
    refine RS.go (R := RE X.K X.mg) h o eo fun x t dx ot lt rx h => ?_
    refine RS.go (R := RO) h ot (eo.le lt) fun l t2 l' o2 l2 r2 h => ?_
    refine RS.go (R := RO) h o2 ((eo.le lt).le l2) fun u t3 u' o3 l3 r3 h => ?_
    subst r2 r3
    have rx := (rx.le l2).le l3
    split at h
    · rename_i ds e
      obtain ⟨p, vs, rfl, h1, r1⟩ := rd_lst o3 rx e
      exact .inl ⟨p, vs, rfl, h1, fun p hp => h.made o3 hp (Rp.newL (cut_rp r1 l u) o3 hp)⟩
    · rename_i ds e
      obtain ⟨p, vs, rfl, h1, f1, r1⟩ := rd_tup2 o3 rx e
      refine .inr (.inl ⟨p, vs, rfl, h1, fun hw => h.val o3 (.tup f1 ?_), fun _ p hp => h.made o3 hp (Rp.newT (cut_rp r1 l u) o3 hp)⟩)
      have e : cutD ds l u = ds := by
        unfold cutD
        rw [← r1.length, hw.1, hw.2, r1.length]
        simp
      rw [e]
      exact r1
    · rename_i z e
      split at h
      · rename_i hl
        exact .inr (.inr ⟨z, rd_str o3 rx e, lim_le hl, h.val o3 .str⟩)
      · exact h.elim
    · exact h.elim
end
end T
end S_TExp
section S_TFun
set_option Elab.async false
set_option linter.all false
set_option maxRecDepth 100000
set_option maxHeartbeats 4000000
namespace T
open PySem L2
/-! ### calls of built-ins -/
abbrev FnB := Sto → List D → Res D
def sF (f : FnB) (a : SemA) : SemE := fun env S => (a env S).bind fun ds S1 => f S1 ds
def CaS (K : PySem.W.Frag) (mg : Str → Option Value) (r : List V → Hp → VK → Prop) (f : FnB) : Prop := ∀ (W : WX) (σ : L2.St) (Q : VK) (s : Stt) (vs : List V) (ds : List D), Ok K mg s → RpL K mg s.Hf s.ρ vs ds → RS K mg (RE K mg) W σ Q s (f s.S ds) → r vs s.H Q
section
variable {X : Cx} {W : WX} {x : Str} {p pos : Pos} {e : Expr} {es : List Expr} {ma : SemA} {f : FnB} {id Ty : String} {r : List V → Hp → VK → Prop}
theorem cb_read {K : PySem.W.Frag} {mg : Str → Option Value} (hf : CaS K mg r f) {σ : L2.St} {H : Hp} {Q : VK} (h : tE K mg W (sF f ma) σ H Q) : tCB r (tA K mg W ma) σ H Q := by
  obtain ⟨s, env, rfl, o, eo, h⟩ := h
  exact RS.go (R := RA K mg) h o eo fun x t dx ot lt rx h => hf W σ Q t x dx ot rx h
theorem xFB (hc : CallR X (.builtin id) r) (hf : CaS X.K X.mg r f) (hv : bootBuiltins x = some (.builtin id)) (hn : x ≠ "__name__") (hdb : (x == ("__debug__" : Str)) = false) (hg : Gl X x) (hm : X.mg x = none) (ha : PA X (e :: es) (tA X.K X.mg W ma))
    (he : starEach (e :: es) X.env = (false, eval e X.env) :: starEach es X.env) (hpl : (backTo pos (starEach es X.env)).any (·.1) = false) : PE X (.Call (.Name x p) (e :: es) [] pos) (tE X.K X.mg W (sF f ma)) :=
  (pe_callB hc hg hm hv ha hn hdb he hpl).mono fun _ _ _ h => cb_read hf h
theorem xFT (hc : CallR X (.type Ty) r) (hf : CaS X.K X.mg r f) (hv : bootBuiltins x = some (.type Ty)) (hn : x ≠ "__name__") (hdb : (x == ("__debug__" : Str)) = false) (hg : Gl X x) (hm : X.mg x = none) (ha : PA X (e :: es) (tA X.K X.mg W ma))
    (he : starEach (e :: es) X.env = (false, eval e X.env) :: starEach es X.env) (hpl : (backTo pos (starEach es X.env)).any (·.1) = false) : PE X (.Call (.Name x p) (e :: es) [] pos) (tE X.K X.mg W (sF f ma)) :=
  (pe_callTy hc hg hm hv ha hn hdb he hpl).mono fun _ _ _ h => cb_read hf h
end
theorem CallR.or {X : Cx} {f : Value} {r r' : List V → Hp → VK → Prop} (h : CallR X f r) (h' : CallR X f r') : CallR X f (fun x H Q => r x H Q ∨ r' x H Q) := by
  intro pins s σ H xs us Q I rx q
  rcases q with q | q
  · exact h pins s σ H xs us Q I rx q
  · exact h' pins s σ H xs us Q I rx q
section
variable {K : PySem.W.Frag} {mg : Str → Option Value}
theorem one {Hf : Hp} {ρ : List Addr} {vs : List V} {d : D} (h : RpL K mg Hf ρ vs [d]) : ∃ v, vs = [v] ∧ Rp K mg Hf ρ v d := by
  cases h with
  | cons h1 h2 => cases h2; exact ⟨_, rfl, h1⟩
theorem two {Hf : Hp} {ρ : List Addr} {vs : List V} {d e : D} (h : RpL K mg Hf ρ vs [d, e]) : ∃ v w, vs = [v, w] ∧ Rp K mg Hf ρ v d ∧ Rp K mg Hf ρ w e := by
  cases h with
  | cons h1 h2 =>
    obtain ⟨w, rfl, h3⟩ := one h2
    exact ⟨_, _, rfl, h1, h3⟩
def bLen : FnB := fun S ds => match ds with
  | [d] => (match rd S d with
    | .lst xs => .ok (.int xs.length) S
    | .tup xs => .ok (.int xs.length) S
    | .str z => if z.length ≤ lim then .ok (.int z.length) S else .bad
    | _ => .bad)
  | _ => .bad
theorem bLen_ok : CaS K mg (fun xs H Q => ∃ x n, xs = [x] ∧ LenV K x H n ∧ Q (.int n) H) bLen := by
  intro W σ Q s vs ds o r h
  unfold bLen at h
  split at h
  · rename_i d
    obtain ⟨v, rfl, r1⟩ := one r
    split at h
    · rename_i xs e
      obtain ⟨a, vs, rfl, h1, r2⟩ := rd_lst o r1 e
      exact ⟨_, vs.length, rfl, .inl ⟨vs, h1, rfl⟩, by rw [r2.length]; exact h.val o .int⟩
    · rename_i xs e
      obtain ⟨a, vs, rfl, h1, r2⟩ := rd_tup o r1 e
      exact ⟨_, vs.length, rfl, .inr ⟨vs, h1, rfl⟩, by rw [r2.length]; exact h.val o .int⟩
    · rename_i z e
      split at h
      · rename_i hl
        have := rd_str o r1 e
        subst this
        exact ⟨_, z.length, rfl, ⟨lim_le hl, rfl⟩, h.val o .int⟩
      · exact h.elim
    · exact h.elim
  · exact h.elim
def bAbs : FnB := fun S ds => match ds with
  | [.int i] => .ok (.int (if i < 0 then -i else i)) S
  | _ => .bad
theorem bAbs_ok : CaS K mg (fun xs H Q => ∃ i, xs = [.int i] ∧ Q (.int (if i < 0 then -i else i)) H) bAbs := by
  intro W σ Q s vs ds o r h
  unfold bAbs at h
  split at h
  · obtain ⟨v, rfl, r1⟩ := one r
    cases r1
    exact ⟨_, rfl, h.val o .int⟩
  · exact h.elim
def bInt : FnB := fun S ds => match ds with
  | [.int i] => .ok (.int i) S
  | [.bl b] => .ok (.int (if b then 1 else 0)) S
  | [.str z] => if z.length ≤ 640 then (match PySem.intText? z with | some n => .ok (.int n) S | none => .bad) else .bad
  | _ => .bad
theorem bInt_ok : CaS K mg (fun xs H Q => ((∃ i, xs = [.int i] ∧ Q (.int i) H) ∨ ∃ k, xs = [.bl k] ∧ Q (.int (if k then 1 else 0)) H) ∨ ∃ a n, xs = [.str a] ∧ PySem.intText? a = some n ∧ a.length ≤ 640 ∧ Q (.int n) H) bInt := by
  intro W σ Q s vs ds o r h
  unfold bInt at h
  split at h
  · obtain ⟨v, rfl, r1⟩ := one r
    cases r1
    exact .inl (.inl ⟨_, rfl, h.val o .int⟩)
  · obtain ⟨v, rfl, r1⟩ := one r
    cases r1
    exact .inl (.inr ⟨_, rfl, h.val o .int⟩)
  · obtain ⟨v, rfl, r1⟩ := one r
    cases r1
    split at h
    · rename_i hl
      split at h
      · rename_i n e
        exact .inr ⟨_, n, rfl, e, hl, h.val o .int⟩
      · exact h.elim
    · exact h.elim
  · exact h.elim
def bMin2 : FnB := fun S ds => match ds with
  | [.int i, .int j] => .ok (.int (if j < i then j else i)) S
  | _ => .bad
theorem bMin2_ok : CaS K mg (fun xs H Q => ∃ i j, xs = [.int i, .int j] ∧ Q (.int (if j < i then j else i)) H) bMin2 := by
  intro W σ Q s vs ds o r h
  unfold bMin2 at h
  split at h
  · obtain ⟨v, w, rfl, r1, r2⟩ := two r
    cases r1
    cases r2
    exact ⟨_, _, rfl, h.val o .int⟩
  · exact h.elim
def bMax2 : FnB := fun S ds => match ds with
  | [.int i, .int j] => .ok (.int (if j > i then j else i)) S
  | _ => .bad
theorem bMax2_ok : CaS K mg (fun xs H Q => ∃ i j, xs = [.int i, .int j] ∧ Q (.int (if j > i then j else i)) H) bMax2 := by
  intro W σ Q s vs ds o r h
  unfold bMax2 at h
  split at h
  · obtain ⟨v, w, rfl, r1, r2⟩ := two r
    cases r1
    cases r2
    exact ⟨_, _, rfl, h.val o .int⟩
  · exact h.elim
def bList : FnB := fun S ds => match ds with
  | [d] => (match rd S d with
    | .lst xs => .ok (.lst xs) S
    | .tup xs => .ok (.lst xs) S
    | _ => .bad)
  | _ => .bad
theorem bList_ok : CaS K mg (fun xs H Q => ∃ p ys, xs = [.ref p] ∧ (SqL K H p ys ∨ SqT K H p ys) ∧ ∀ l, H l = none → Q (.ref l) (upd H l (.lst ys))) bList := by
  intro W σ Q s vs ds o r h
  unfold bList at h
  split at h
  · obtain ⟨v, rfl, r1⟩ := one r
    split at h
    · rename_i xs e
      obtain ⟨a, vs, rfl, h1, r2⟩ := rd_lst o r1 e
      exact ⟨a, vs, rfl, .inl h1, fun p hp => h.made o hp (Rp.newL r2 o hp)⟩
    · rename_i xs e
      obtain ⟨a, vs, rfl, h1, r2⟩ := rd_tup o r1 e
      exact ⟨a, vs, rfl, .inr h1, fun p hp => h.made o hp (Rp.newL r2 o hp)⟩
    · exact h.elim
  · exact h.elim
/-- list(xs), to be changed -/
def bListC : FnB := fun S ds => match ds with
  | [d] => (match rd S d with
    | .lst xs => .ok (.cell S.length) (S ++ [.lv (.lst xs)])
    | .tup xs => .ok (.cell S.length) (S ++ [.lv (.lst xs)])
    | _ => .bad)
  | _ => .bad
theorem bListC_ok : CaS K mg (fun xs H Q => ∃ p ys, xs = [.ref p] ∧ (SqL K H p ys ∨ SqT K H p ys) ∧ ∀ l, H l = none → Q (.ref l) (upd H l (.lst ys))) bListC := by
  intro W σ Q s vs ds o r h
  unfold bListC at h
  split at h
  · obtain ⟨v, rfl, r1⟩ := one r
    split at h
    · rename_i xs e
      obtain ⟨a, vs, rfl, h1, r2⟩ := rd_lst o r1 e
      exact ⟨a, vs, rfl, .inl h1, fun p hp => h.madeC o hp ⟨vs, upd_same, r2⟩⟩
    · rename_i xs e
      obtain ⟨a, vs, rfl, h1, r2⟩ := rd_tup o r1 e
      exact ⟨a, vs, rfl, .inr h1, fun p hp => h.madeC o hp ⟨vs, upd_same, r2⟩⟩
    · exact h.elim
  · exact h.elim
def bTuple : FnB := fun S ds => match ds with
  | [d] => (match rd S d with
    | .lst xs => .ok (.tup xs) S
    | .tup xs => .ok (.tup xs) S
    | _ => .bad)
  | _ => .bad
theorem bTuple_ok : CaS K mg (fun xs H Q => ∃ p ys, xs = [.ref p] ∧ ((SqL K H p ys ∧ ∀ l, H l = none → Q (.ref l) (upd H l (.tup ys))) ∨ (SqT K H p ys ∧ Q (.ref p) H))) bTuple := by
  intro W σ Q s vs ds o r h
  unfold bTuple at h
  split at h
  · obtain ⟨v, rfl, r1⟩ := one r
    split at h
    · rename_i xs e
      obtain ⟨a, vs, rfl, h1, r2⟩ := rd_lst o r1 e
      exact ⟨a, vs, rfl, .inl ⟨h1, fun p hp => h.made o hp (Rp.newT r2 o hp)⟩⟩
    · rename_i xs e
      obtain ⟨a, vs, rfl, h1, f1, r2⟩ := rd_tup2 o r1 e
      exact ⟨a, vs, rfl, .inr ⟨h1, h.val o (.tup f1 r2)⟩⟩
    · exact h.elim
  · exact h.elim
def blsOf : List D → Option (List Bool)
  | [] => some []
  | .bl b :: r => (blsOf r).map (b :: ·)
  | _ => none
theorem blsOf_rp {Hf : Hp} {ρ : List Addr} : ∀ {ds : List D} {bs : List Bool} {vs : List V}, blsOf ds = some bs → RpL K mg Hf ρ vs ds → vs = bs.map V.bl
  | [], bs, vs, h, r => by cases r; simp only [blsOf] at h; injection h with h; subst h; rfl
  | .bl b :: ds, bs, vs, h, r => by
    cases r with
    | cons h1 h2 =>
      simp only [blsOf] at h
      cases q : blsOf ds with
      | none => rw [q] at h; cases h
      | some cs =>
        rw [q] at h
        injection h with h
        subst h
        cases h1
        rw [blsOf_rp q h2]
        rfl
  | .non :: _, _, _, h, _ => by simp only [blsOf] at h; cases h
  | .int _ :: _, _, _, h, _ => by simp only [blsOf] at h; cases h
  | .str _ :: _, _, _, h, _ => by simp only [blsOf] at h; cases h
  | .tup _ :: _, _, _, h, _ => by simp only [blsOf] at h; cases h
  | .lst _ :: _, _, _, h, _ => by simp only [blsOf] at h; cases h
  | .rdl _ :: _, _, _, h, _ => by simp only [blsOf] at h; cases h
  | .dk _ :: _, _, _, h, _ => by simp only [blsOf] at h; cases h
  | .obj _ _ :: _, _, _, h, _ => by simp only [blsOf] at h; cases h
  | .exc _ _ :: _, _, _, h, _ => by simp only [blsOf] at h; cases h
  | .cell _ :: _, _, _, h, _ => by simp only [blsOf] at h; cases h
def bAll : FnB := fun S ds => match ds with
  | [d] => (match rd S d with
    | .lst xs => (match blsOf xs with | some bs => .ok (.bl (bs.all id)) S | none => .bad)
    | _ => .bad)
  | _ => .bad
theorem bAll_ok : CaS K mg (rAll K) bAll := by
  intro W σ Q s vs ds o r h
  unfold bAll at h
  split at h
  · obtain ⟨v, rfl, r1⟩ := one r
    split at h
    · rename_i xs e
      split at h
      · rename_i bs e2
        obtain ⟨a, vs, rfl, h1, r2⟩ := rd_lst o r1 e
        have := blsOf_rp e2 r2
        subst this
        exact ⟨a, bs, rfl, h1, h.val o .bl⟩
      · exact h.elim
    · exact h.elim
  · exact h.elim
def bAny : FnB := fun S ds => match ds with
  | [d] => (match rd S d with
    | .lst xs => (match blsOf xs with | some bs => .ok (.bl (bs.any id)) S | none => .bad)
    | _ => .bad)
  | _ => .bad
theorem bAny_ok : CaS K mg (rAny K) bAny := by
  intro W σ Q s vs ds o r h
  unfold bAny at h
  split at h
  · obtain ⟨v, rfl, r1⟩ := one r
    split at h
    · rename_i xs e
      split at h
      · rename_i bs e2
        obtain ⟨a, vs, rfl, h1, r2⟩ := rd_lst o r1 e
        have := blsOf_rp e2 r2
        subst this
        exact ⟨a, bs, rfl, h1, h.val o .bl⟩
      · exact h.elim
    · exact h.elim
  · exact h.elim
def bStr : FnB := fun S ds => match ds with
  | [.int i] => if i.natAbs.log2 < 1920 then .ok (.str (Str.ofString (toString i))) S else .bad
  | _ => .bad
theorem bStr_ok : CaS K mg (fun xs H Q => ∃ i, xs = [.int i] ∧ i.natAbs.log2 < 1920 ∧ Q (.str (Str.ofString (toString i))) H) bStr := by
  intro W σ Q s vs ds o r h
  unfold bStr at h
  split at h
  · obtain ⟨v, rfl, r1⟩ := one r
    cases r1
    split at h
    · rename_i hl
      exact ⟨_, rfl, hl, h.val o .str⟩
    · exact h.elim
  · exact h.elim
def strsOf : List D → Option (List Str)
  | [] => some []
  | .str b :: r => (strsOf r).map (b :: ·)
  | _ => none
theorem strsOf_rp {Hf : Hp} {ρ : List Addr} : ∀ {ds : List D} {bs : List Str} {vs : List V}, strsOf ds = some bs → RpL K mg Hf ρ vs ds → vs = bs.map V.str
  | [], bs, vs, h, r => by cases r; simp only [strsOf] at h; injection h with h; subst h; rfl
  | .str b :: ds, bs, vs, h, r => by
    cases r with
    | cons h1 h2 =>
      simp only [strsOf] at h
      cases q : strsOf ds with
      | none => rw [q] at h; cases h
      | some cs =>
        rw [q] at h
        injection h with h
        subst h
        cases h1
        rw [strsOf_rp q h2]
        rfl
  | .non :: _, _, _, h, _ => by simp only [strsOf] at h; cases h
  | .int _ :: _, _, _, h, _ => by simp only [strsOf] at h; cases h
  | .bl _ :: _, _, _, h, _ => by simp only [strsOf] at h; cases h
  | .tup _ :: _, _, _, h, _ => by simp only [strsOf] at h; cases h
  | .lst _ :: _, _, _, h, _ => by simp only [strsOf] at h; cases h
  | .rdl _ :: _, _, _, h, _ => by simp only [strsOf] at h; cases h
  | .dk _ :: _, _, _, h, _ => by simp only [strsOf] at h; cases h
  | .obj _ _ :: _, _, _, h, _ => by simp only [strsOf] at h; cases h
  | .exc _ _ :: _, _, _, h, _ => by simp only [strsOf] at h; cases h
  | .cell _ :: _, _, _, h, _ => by simp only [strsOf] at h; cases h
theorem strs_rp {Hf : Hp} {ρ : List Addr} : ∀ (bs : List Str), RpL K mg Hf ρ (bs.map V.str) (bs.map D.str)
  | [] => .nil
  | _ :: r => .cons .str (strs_rp r)
theorem ints_rp {Hf : Hp} {ρ : List Addr} : ∀ (bs : List Int), RpL K mg Hf ρ (bs.map V.int) (bs.map D.int)
  | [] => .nil
  | _ :: r => .cons .int (ints_rp r)
theorem bls_rp {Hf : Hp} {ρ : List Addr} : ∀ (bs : List Bool), RpL K mg Hf ρ (bs.map V.bl) (bs.map D.bl)
  | [] => .nil
  | _ :: r => .cons .bl (bls_rp r)
end
end T
end S_TFun
section S_TMeth
set_option Elab.async false
set_option linter.all false
set_option maxRecDepth 100000
set_option maxHeartbeats 4000000
namespace T
open PySem L2 TL
/-! ### methods of built-in types -/
abbrev FnM := Sto → D → List D → Res D
def tyIs (Ty : String) (S : Sto) (d : D) : Bool := match d, Ty with
  | .str _, "str" => true
  | d, "list" => (match rd S d with | .lst _ => true | _ => false)
  | _, _ => false
def sM (Ty : String) (f : FnM) (m : SemE) (a : SemA) : SemE := fun env S => (m env S).bind fun x S1 => if tyIs Ty S1 x then (a env S1).bind fun ds S2 => f S2 x ds else .bad
def MtS (K : PySem.W.Frag) (mg : Str → Option Value) (r : V → List V → Hp → VK → Prop) (f : FnM) : Prop := ∀ (W : WX) (σ : L2.St) (Q : VK) (s : Stt) (x : V) (dx : D) (vs : List V) (ds : List D), Ok K mg s → Rp K mg s.Hf s.ρ x dx → RpL K mg s.Hf s.ρ vs ds → RS K mg (RE K mg) W σ Q s (f s.S dx ds) → r x vs s.H Q
theorem tyIs_ok {K : PySem.W.Frag} {mg : Str → Option Value} {s : Stt} {Ty : String} {x : V} {d : D} (o : Ok K mg s) (r : Rp K mg s.Hf s.ρ x d) (h : tyIs Ty s.S d = true) : tyV K Ty x s.H := by
  unfold tyIs at h
  split at h
  · cases r; rfl
  · split at h
    · rename_i xs e
      obtain ⟨a, vs, rfl, h1, r2⟩ := rd_lst o r e
      exact .inl ⟨rfl, vs, h1⟩
    · cases h
  · cases h
section
variable {X : Cx} {W : WX} {ob e : Expr} {es : List Expr} {m : SemE} {ma : SemA} {name : Str} {apos cpos : Pos} {Ty id : String} {r : V → List V → Hp → VK → Prop} {f : FnM}
theorem xM (pa : PlainAttrs Ty) (slot : Slot Ty name id) (hty : typeOf (.builtin id) = pure (.type "method_descriptor")) (hm : MtR X id r) (hf : MtS X.K X.mg r f) (ho : PE X ob (tE X.K X.mg W m)) (ha : PA X (e :: es) (tA X.K X.mg W ma))
    (hbase : attributeBase ob name X.env (eval ob X.env) = eval ob X.env)
    (hfew : ((backTo cpos (starEach (e :: es) X.env)).all (fun x => !x.1) && (backToKw cpos (keywordEach [] X.env)).all (fun x => x.1.isSome) && decide ((e :: es).length + ([] : List Keyword).length + (if ([] : List Keyword).isEmpty then 0 else 1) < 30)) = true)
    (hline : (apos.endLine == cpos.line) = true) (hs : starEach (e :: es) X.env = (false, eval e X.env) :: starEach es X.env) (hplain : (backTo cpos (starEach es X.env)).any (·.1) = false) :
    PE X (.Call (.Attribute ob name apos) (e :: es) [] cpos) (tE X.K X.mg W (sM Ty f m ma)) := (pe_bm pa slot hty hm ho ha hbase hfew hline hs hplain).mono fun σ H Q h => by
  obtain ⟨s, env, rfl, o, eo, h⟩ := h
  refine RS.go (R := RE X.K X.mg) h o eo fun x t dx ot lt rx h => ?_
  split at h
  · rename_i hT
    refine ⟨tyIs_ok ot rx hT, ?_⟩
    exact RS.go (R := RA X.K X.mg) h ot (eo.le lt) fun y u dy ou lu ry h => hf W σ Q u x dx y dy ou (rx.le lu) ry h
  · exact h.elim
theorem xM0 (pa : PlainAttrs Ty) (slot : Slot Ty name id) (hty : typeOf (.builtin id) = pure (.type "method_descriptor")) (hm : MtR X id r) (hf : MtS X.K X.mg r f) (ho : PE X ob (tE X.K X.mg W m)) (hbase : attributeBase ob name X.env (eval ob X.env) = eval ob X.env) (hline : (apos.endLine == cpos.line) = true) :
    PE X (.Call (.Attribute ob name apos) [] [] cpos) (tE X.K X.mg W (sM Ty f m aNil)) := (pe_bm0 pa slot hty hm ho hbase hline).mono fun σ H Q h => by
  obtain ⟨s, env, rfl, o, eo, h⟩ := h
  refine RS.go (R := RE X.K X.mg) h o eo fun x t dx ot lt rx h => ?_
  split at h
  · rename_i hT
    exact ⟨tyIs_ok ot rx hT, hf W σ Q t x dx [] [] ot rx .nil h⟩
  · exact h.elim
end
section
variable {K : PySem.W.Frag} {mg : Str → Option Value}
/-- a change of a cell -/
theorem RS.put {W : WX} {σ : L2.St} {Q : VK} {s : Stt} {n : Nat} {a : Addr} {u : HO} {d d1 d' : D} {v : V} (h : RS K mg (RE K mg) W σ Q s (.ok d1 (s.S.set n (.lv d')))) (o : Ok K mg s) (h1 : s.S[n]? = some (.lv d)) (h2 : s.ρ[n]? = some a) (hc : CelOk K mg s.Hf s.ρ (upd s.H a u) a d') (r : Rp K mg s.Hf s.ρ v d1) : Q v (upd s.H a u) :=
  h v (s.put n a u d') (o.put h1 h2 hc) rfl (Le.put h2) r
theorem cell_lst {s : Stt} {n : Nat} {x : V} {ds : List D} (o : Ok K mg s) (r : Rp K mg s.Hf s.ρ x (.cell n)) (h : s.S[n]? = some (.lv (.lst ds))) : ∃ a vs, x = .ref a ∧ s.ρ[n]? = some a ∧ s.H a = some (.lst vs) ∧ RpL K mg s.Hf s.ρ vs ds := by
  cases r with
  | cell h1 =>
    obtain ⟨_, vs, q1, q2⟩ := o.lv n _ _ h h1
    exact ⟨_, vs, rfl, h1, q1, q2⟩
def mAppend : FnM := fun S x ds => match x, ds with
  | .cell n, [d] => (match S[n]? with
    | some (.lv (.lst xs)) => if xs.length < lim then .ok .non (S.set n (.lv (.lst (xs ++ [d])))) else .bad
    | _ => .bad)
  | _, _ => .bad
theorem mAppend_ok : MtS K mg rAppend mAppend := by
  intro W σ Q s x dx vs ds o rx r h
  unfold mAppend at h
  split at h
  · rename_i n d
    split at h
    · rename_i xs e
      split at h
      · rename_i hl
        obtain ⟨v, rfl, r1⟩ := one r
        obtain ⟨a, ws, rfl, h1, h2, r2⟩ := cell_lst o rx e
        exact ⟨a, ws, v, rfl, rfl, h2, by rw [r2.length]; exact Nat.lt_of_lt_of_le hl (by decide), h.put o e h1 ⟨ws ++ [v], upd_same, r2.append (.cons r1 .nil)⟩ .non⟩
      · exact h.elim
    · exact h.elim
  · exact h.elim
def mExtend : FnM := fun S x ds => match x, ds with
  | .cell n, [d] => (match S[n]?, tk S d with
    | some (.lv (.lst xs)), .lst ys => if xs.length + ys.length ≤ lim then .ok .non (S.set n (.lv (.lst (xs ++ ys)))) else .bad
    | _, _ => .bad)
  | _, _ => .bad
theorem mExtend_ok : MtS K mg rExtend mExtend := by
  intro W σ Q s x dx vs ds o rx r h
  unfold mExtend at h
  split at h
  · rename_i n d
    split at h
    · rename_i xs ys e e2
      split at h
      · rename_i hl
        obtain ⟨v, rfl, r1⟩ := one r
        obtain ⟨a, ws, rfl, h1, h2, r2⟩ := cell_lst o rx e
        obtain ⟨b, us, rfl, h3, r3⟩ := tk_lst o r1 e2
        exact ⟨a, b, ws, us, rfl, rfl, h2, h3, by rw [r2.length, r3.length]; exact lim_le hl, h.put o e h1 ⟨ws ++ us, upd_same, r2.append r3⟩ .non⟩
      · exact h.elim
    · exact h.elim
  · exact h.elim
theorem RpL.dropLast {Hf : Hp} {ρ : List Addr} {vs : List V} {ds : List D} (h : RpL K mg Hf ρ vs ds) : RpL K mg Hf ρ vs.dropLast ds.dropLast := by
  rw [List.dropLast_eq_take, List.dropLast_eq_take, h.length]
  exact h.take _
def mPop : FnM := fun S x ds => match x, ds with
  | .cell n, [] => (match S[n]? with
    | some (.lv (.lst xs)) => (match xs[xs.length - 1]? with
      | some d => .ok d (S.set n (.lv (.lst xs.dropLast)))
      | none => .bad)
    | _ => .bad)
  | _, _ => .bad
theorem mPop_ok : MtS K mg rPop mPop := by
  intro W σ Q s x dx vs ds o rx r h
  unfold mPop at h
  split at h
  · rename_i n
    split at h
    · rename_i xs e
      split at h
      · rename_i d e2
        cases r
        obtain ⟨a, ws, rfl, h1, h2, r2⟩ := cell_lst o rx e
        obtain ⟨v, e3, r3⟩ := r2.get' e2
        rw [← r2.length] at e3
        exact ⟨a, ws, v, rfl, rfl, h2, e3, h.put o e h1 ⟨ws.dropLast, upd_same, r2.dropLast⟩ r3⟩
      · exact h.elim
    · exact h.elim
  · exact h.elim
/-! texts -/
def mkS (l : List Nat) : Str := ⟨l.toArray⟩
theorem tl_mkS (l : List Nat) : (mkS l).cps.toList = l := rfl
theorem mkS_tl (x : Str) : mkS x.cps.toList = x := rfl
def splitS (x y : Str) : List Str := (TL.spl (tl y) 0 [] (tl x)).map mkS
theorem split_eq {x y : Str} (hy : tl y ≠ []) (hk : y.cps.all (· < 256) = true) : Txt.split x y = splitS x y := by
  apply map_tl_inj
  rw [split_spl x y hy (kind_ok hk)]
  unfold splitS
  rw [List.map_map]
  have : (tl ∘ mkS) = id := rfl
  rw [this, List.map_id]
def mSplit : FnM := fun S x ds => match x, ds with
  | .str a, [.str b] => if decide (a.length ≤ lim) && (decide (b.cps.toList ≠ []) && b.cps.all (· < 256)) then .ok (.lst ((splitS a b).map .str)) S else .bad
  | _, _ => .bad
theorem mSplit_ok : MtS K mg (fun x xs H Q => ∃ a b, x = .str a ∧ xs = [.str b] ∧ (b.length == 0) = false ∧ a.length + 2 ≤ sizeLine ∧ rNewStrs (Txt.split a b) H Q) mSplit := by
  intro W σ Q s x dx vs ds o rx r h
  unfold mSplit at h
  split at h
  · rename_i a b
    split at h
    · rename_i hc
      rw [Bool.and_eq_true, Bool.and_eq_true, decide_eq_true_eq, decide_eq_true_eq] at hc
      obtain ⟨v, rfl, r1⟩ := one r
      cases r1
      cases rx
      refine ⟨a, b, rfl, rfl, ?_, Nat.le_trans (Nat.add_le_add_right hc.1 2) (by decide), fun p hp => ?_⟩
      · have e := len_tl b
        rw [beq_eq_false_iff_ne, e]
        exact fun z => hc.2.1 (List.length_eq_zero_iff.mp z)
      · rw [split_eq hc.2.1 hc.2.2]
        exact h.made o hp (Rp.newL (strs_rp _) o hp)
    · exact h.elim
  · exact h.elim
def sumLen (ys : List Str) : Nat := (ys.map (·.length)).sum
def joinS (a : Str) (ys : List Str) : Str := mkS (joinL (tl a) (ys.map tl))
theorem join_is (a : Str) (ys : List Str) : Txt.join a ys = joinS a ys := by
  rw [join_eq]
  apply ext_tl
  rw [tl_join]
  rfl
def mJoin : FnM := fun S x ds => match x, ds with
  | .str a, [d] => (match rd S d with
    | .lst xs => (match strsOf xs with | some ys => if sumLen ys + ys.length * a.length ≤ lim then .ok (.str (joinS a ys)) S else .bad | none => .bad)
    | .tup xs => (match strsOf xs with | some ys => if sumLen ys + ys.length * a.length ≤ lim then .ok (.str (joinS a ys)) S else .bad | none => .bad)
    | _ => .bad)
  | _, _ => .bad
theorem mJoin_ok : MtS K mg (fun x xs H Q => ∃ a p, ∃ ys : List Str, x = .str a ∧ xs = [.ref p] ∧ (SqL K H p (ys.map V.str) ∨ SqT K H p (ys.map V.str)) ∧
      (ys.map (·.length)).sum + ys.length * a.length ≤ 16777216 ∧ Q (.str (Txt.join a ys)) H) mJoin := by
  intro W σ Q s x dx vs ds o rx r h
  unfold mJoin at h
  split at h
  · rename_i a d
    obtain ⟨v, rfl, r1⟩ := one r
    cases rx
    split at h
    · rename_i xs e
      split at h
      · rename_i ys e2
        split at h
        · rename_i hl
          obtain ⟨p, ws, rfl, h1, r2⟩ := rd_lst o r1 e
          have := strsOf_rp e2 r2
          subst this
          exact ⟨a, p, ys, rfl, rfl, .inl h1, Nat.le_trans hl (by decide), by rw [join_is]; exact h.val o .str⟩
        · exact h.elim
      · exact h.elim
    · rename_i xs e
      split at h
      · rename_i ys e2
        split at h
        · rename_i hl
          obtain ⟨p, ws, rfl, h1, r2⟩ := rd_tup o r1 e
          have := strsOf_rp e2 r2
          subst this
          exact ⟨a, p, ys, rfl, rfl, .inr h1, Nat.le_trans hl (by decide), by rw [join_is]; exact h.val o .str⟩
        · exact h.elim
      · exact h.elim
    · exact h.elim
  · exact h.elim
/-- signs at the end taken off -/
def rstripL (goes : Nat → Bool) (l : List Nat) : List Nat := l.take (l.length - (l.reverse.takeWhile goes).length)
def rstripS (x y : Str) : Str := mkS (rstripL (fun c => y.cps.contains c) x.cps.toList)
theorem rstrip_eq (x y : Str) : Txt.rstripChars x y = rstripS x y := by
  apply ext_tl
  show tl (if stripSame y.cps.contains false true x = true then x else stripped y.cps.contains false true x) = rstripL (fun c => y.cps.contains c) (tl x)
  have e1 : stripLo y.cps.contains false x = 0 := rfl
  have e2 : stripHi y.cps.contains true x 0 = (tl x).length - ((tl x).reverse.takeWhile fun c => y.cps.contains c).length := by
    show x.length - (((tl x).drop 0).reverse.takeWhile y.cps.contains).length = _
    rw [len_tl, List.drop_zero]
  split
  · rename_i h
    unfold stripSame at h
    rw [e1, e2, Bool.and_eq_true, beq_iff_eq, beq_iff_eq, len_tl] at h
    unfold rstripL
    rw [h.2, List.take_length]
  · unfold stripped
    rw [e1, e2, tl_strSub, List.drop_zero]
    rfl
def mRstrip : FnM := fun S x ds => match x, ds with
  | .str a, [.str b] => if a.length ≤ lim then .ok (.str (rstripS a b)) S else .bad
  | _, _ => .bad
theorem mRstrip_ok : MtS K mg (fun x xs H Q => ∃ a b, x = .str a ∧ xs = [.str b] ∧ a.length ≤ sizeLine ∧ Q (.str (Txt.rstripChars a b)) H) mRstrip := by
  intro W σ Q s x dx vs ds o rx r h
  unfold mRstrip at h
  split at h
  · rename_i a b
    split at h
    · rename_i hl
      obtain ⟨v, rfl, r1⟩ := one r
      cases r1
      cases rx
      exact ⟨a, b, rfl, rfl, lim_le hl, by rw [rstrip_eq]; exact h.val o .str⟩
    · exact h.elim
  · exact h.elim
/-! ### sorted texts -/
def insS (x : Str) : List Str → List Str
  | [] => [x]
  | y :: r => if sLt y x then y :: insS x r else x :: y :: r
def sortS : List Str → List Str
  | [] => []
  | x :: r => insS x (sortS r)
theorem insS_perm (x : Str) : ∀ l : List Str, (insS x l).Perm (x :: l)
  | [] => .refl _
  | y :: r => by
    unfold insS
    split
    · exact ((insS_perm x r).cons y).trans (.swap x y r)
    · exact .refl _
theorem sortS_perm : ∀ l : List Str, (sortS l).Perm l
  | [] => .refl _
  | x :: r => (insS_perm x (sortS r)).trans ((sortS_perm r).cons x)
/-- not greater -/
def leS (a b : Str) : Prop := ¬ b.cps.toList < a.cps.toList
theorem leS_trans {a b c : Str} (h1 : leS a b) (h2 : leS b c) : leS a c := by
  unfold leS at *
  rw [List.not_lt] at *
  exact List.le_trans h1 h2
theorem leS_antisymm {a b : Str} (h1 : leS a b) (h2 : leS b a) : a = b := by
  unfold leS at *
  rw [List.not_lt] at *
  exact ext_tl (List.le_antisymm h1 h2)
theorem insS_sorted (x : Str) : ∀ {l : List Str}, l.Pairwise leS → (insS x l).Pairwise leS
  | [], _ => by unfold insS; simp
  | y :: r, h => by
    rw [List.pairwise_cons] at h
    unfold insS
    split
    · rename_i hlt
      rw [List.pairwise_cons]
      refine ⟨fun z hz => ?_, insS_sorted x h.2⟩
      rcases List.mem_cons.mp ((insS_perm x r).mem_iff.mp hz) with e | e
      · subst e
        have := of_decide_eq_true hlt
        exact fun q => absurd (List.lt_trans q this) (List.lt_irrefl _)
      · exact h.1 z e
    · rename_i hlt
      have hxy : leS x y := fun q => hlt (decide_eq_true q)
      rw [List.pairwise_cons]
      refine ⟨fun z hz => ?_, by rw [List.pairwise_cons]; exact h⟩
      rcases List.mem_cons.mp hz with e | e
      · subst e; exact hxy
      · exact leS_trans hxy (h.1 z e)
theorem sortS_sorted : ∀ l : List Str, (sortS l).Pairwise leS
  | [] => .nil
  | x :: r => insS_sorted x (sortS_sorted r)
theorem sorted_uniq : ∀ {a b : List Str}, a.Perm b → a.Pairwise leS → b.Pairwise leS → a = b := by
  intro a
  induction a with
  | nil => intro b p _ _; exact (List.nil_perm.mp p).symm
  | cons x xs ih =>
    intro b p ha hb
    cases b with
    | nil => exact absurd p.length_eq (by simp)
    | cons y ys =>
      rw [List.pairwise_cons] at ha hb
      have exy : x = y := by
        have h1 : x ∈ y :: ys := p.mem_iff.mp (List.mem_cons_self ..)
        have h2 : y ∈ x :: xs := p.mem_iff.mpr (List.mem_cons_self ..)
        rcases List.mem_cons.mp h1 with e | e
        · exact e
        · rcases List.mem_cons.mp h2 with e2 | e2
          · exact e2.symm
          · exact leS_antisymm (ha.1 y e2) (hb.1 x e)
      subst exy
      rw [ih (List.Perm.cons_inv p) ha.2 hb.2]
theorem rising_pw : ∀ (r : List Str) (p : Str), PyProof.Rows.risingS p r = true → (p :: r).Pairwise leS
  | [], p, _ => by simp
  | x :: r, p, h => by
    unfold PyProof.Rows.risingS at h
    rw [Bool.and_eq_true, Bool.not_eq_true'] at h
    have h1 : leS p x := fun q => by
      have z := PyProof.Rows.ltCps_eq x.cps.toList p.cps.toList
      rw [h.1, decide_eq_true q] at z
      cases z
    have h2 := rising_pw r x h.2
    rw [List.pairwise_cons]
    refine ⟨fun z hz => ?_, h2⟩
    rcases List.mem_cons.mp hz with e | e
    · subst e; exact h1
    · rw [List.pairwise_cons] at h2; exact leS_trans h1 (h2.1 z e)
theorem sortedS_eq {ys xs : List Str} (p : ys.Perm xs) (h : PyProof.Rows.sortedS ys = true) : ys = sortS xs := by
  refine sorted_uniq (p.trans (sortS_perm xs).symm) ?_ (sortS_sorted xs)
  cases ys with
  | nil => exact .nil
  | cons x r => exact rising_pw r x h
/-- sorted(xs), a list of fewer than 64 texts -/
def bSortS : FnB := fun S ds => match ds with
  | [d] => (match rd S d with
    | .lst xs => (match strsOf xs with | some ys => if ys.length < 64 then .ok (.lst ((sortS ys).map .str)) S else .bad | none => .bad)
    | _ => .bad)
  | _ => .bad
theorem bSortS_ok : CaS K mg (rSortedS K) bSortS := by
  intro W σ Q s vs ds o r h
  unfold bSortS at h
  split at h
  · obtain ⟨v, rfl, r1⟩ := one r
    split at h
    · rename_i xs e
      split at h
      · rename_i ys e2
        split at h
        · rename_i hl
          obtain ⟨a, ws, rfl, h1, r2⟩ := rd_lst o r1 e
          have := strsOf_rp e2 r2
          subst this
          refine ⟨a, ys, rfl, h1, hl, fun zs p pm so hp => ?_⟩
          have e3 := sortedS_eq pm so
          subst e3
          exact h.made o hp (Rp.newL (strs_rp _) o hp)
        · exact h.elim
      · exact h.elim
    · exact h.elim
  · exact h.elim
end
end T
end S_TMeth
section S_TComp0
set_option Elab.async false
set_option linter.all false
set_option maxRecDepth 100000
set_option maxHeartbeats 4000000
namespace T
open PySem L2 PySem.Spec
/-! ### a comprehension out of which an exception may fly -/
def CPost (M : Model) (A : Around) (E : Value → Shared → Prop) (use : Option (Value → Sem Unit)) (Q : Value → Shared → Prop) (acc : Value) (ce : PySem.Env) (r : Result) (z : Shared) : Prop :=
  match r with
  | .ok f => compPost M A E use Q acc ce.locals (.ok f) z
  | .error x => ∃ m, z.heap.Ns ce.locals m ∧ ∀ h', Heap.SameBut ce.locals z.heap h' → wpAny M A (passOn "comprehension.variables-let-go" x ce : Sem Value) (fun _ _ => False) E { z with heap := h' }
theorem comp_free2 {M : Model} {A : Around} {E : Value → Shared → Prop} {s : Shared} {env : PySem.Env} {e : Expr} {scope : Scope} {pos : Pos} {newAcc first : Sem Value} {g : Comprehension} {gs : List Comprehension} {cl : List (Str × Addr)}
    {use : Option (Value → Sem Unit)} {Q : Value → Shared → Prop} (hcl : clausesOf e = g :: gs) (hs : ∀ x, foldedSetIterable g.iter env x = pure x) (hclos : closureFor scope env = pure cl)
    (hkind : scope.kind = .function) (hnames : ∀ x ∈ scope.names, x.2 = .local → scope.names.lookup x.1 = some .local)
    (h : wpAny M A first (fun x s1 => wpAny M A (pyIter x) (fun it s2 => wpAny M A newAcc (fun acc s3 =>
      wpAny M A (newFunctionEnv scope env.globals cl [] env.qual none .none (some env)) (fun ce s4 =>
        codeAny M A (.compStart e 0 it acc { ce with scope := relabel scope env }) (CPost M A E use Q acc { ce with scope := relabel scope env }) s4) E s3) E s2) E s1) E s) :
    wpAny M A (comprehension e scope env pos newAcc false first use) Q E s := by
  unfold comprehension
  rw [hclos, hcl]
  refine wpAny_bind (wpAny_mono h (fun x s1 k1 => ?_) fun _ _ q => q)
  refine wpAny_bind (wpAny_standAt (wpAny_bind (wpAny_of_eq (hs x) (wpAny_bind (wpAny_holding (wpAny_mono k1 (fun it s2 k2 => ?_) fun _ _ q => q))))))
  refine wpAny_standIf (wpAny_bind (wpAny_mono k2 (fun acc s3 k3 => ?_) fun _ _ q => q))
  refine wpAny_bind (wpAny_pure (wpAny_bind (wpAny_mono k3 (fun ce s4 k4 => ?_) fun _ _ q => q)))
  dsimp only
  have loc1 : ∀ x ∈ (scope.names.filter fun x => (x.2 == .local || x.2 == .cell) && x.1 != (".0" : Str)).reverse, x.2 = .local → Env.kindOf { ce with scope := relabel scope env } x.1 = some .local :=
    fun x hx hl => lookup_relabel_local (hnames x (List.mem_filter.mp (List.mem_reverse.mp hx)).1 hl)
  have loc2 : ∀ x ∈ (scope.names.filter fun x => (x.2 == .local || x.2 == .cell) && x.1 != (".0" : Str)).reverse.drop 1 ++ (scope.names.filter fun x => (x.2 == .local || x.2 == .cell) && x.1 != (".0" : Str)).reverse.take 1, x.2 = .local → Env.kindOf { ce with scope := relabel scope env } x.1 = some .local :=
    fun x hx hl => (List.mem_append.mp hx).elim (fun z => loc1 x (List.mem_of_mem_drop z) hl) fun z => loc1 x (List.mem_of_mem_take z) hl
  refine wpAny_holding (wpAny_bind (wpAny_attempt (wpAny_holding (wpAny_run (codeAny_mono k4 fun r z hr => ?_)))))
  cases r with
  | ok f =>
    cases use with
    | none =>
      obtain ⟨m, hn, hq⟩ := hr
      refine wpAny_bind (wpAny_holding (wpAny_comp_letGo (cenv := { ce with scope := relabel scope env }) hkind _ z m loc1 hn fun h' _ _ sb => ?_))
      exact wpAny_pure (hq h' sb)
    | some u =>
      refine wpAny_bind (wpAny_rule (wpAny_bind (wpAny_holding (wpAny_mono hr (fun _ z2 hr2 => ?_) fun _ _ q => q))))
      obtain ⟨m, hn, hq⟩ := hr2
      refine wpAny_bind (wpAny_comp_letGo (cenv := { ce with scope := relabel scope env }) hkind _ z2 m loc2 hn fun h' _ _ sb => ?_)
      exact wpAny_pure (hq h' sb)
  | error x =>
    obtain ⟨m, hn, hq⟩ := hr
    refine wpAny_bind (wpAny_holding (wpAny_comp_letGo (cenv := { ce with scope := relabel scope env }) hkind _ z m loc1 hn fun h' _ _ sb => ?_))
    exact wpAny_mono (hq h' sb) (fun _ _ f => f.elim) fun _ _ y => y

/-- what a callee lets out is taken, at the slots -/
def Psg (X : Cx) (W : WX) : Prop := ∀ (σ : L2.St), PassesAt (L2.CX X.prog X.w) X σ fun c x H' => W c x σ H'
theorem Psg.of {X : Cx} {W : WX} (tk : Takes X W) : Psg X W := fun σ => passAt tk σ
theorem note_env {e : Value} {env env' : PySem.Env} (h : env'.frame = env.frame) : noteFrame e env' = noteFrame e env := by
  unfold noteFrame frameOf
  rw [h]
/-- noted at the frame L -/
theorem sky_note {M : Model} {A : Around} {E1 : Value → Shared → Prop} {B : Heap} {s : Shared} {env : PySem.Env} {outer : List PySem.Env} {L a : Addr} {Z : Obj → Prop} {Q : Unit → Shared → Prop} (hZ : HandSPX.Steady Z) (hfr : A.frames = some (env :: outer)) (hf : env.frame = some L)
    (x : Sky B (env :: outer) a Z L s.heap) (hQ : ∀ h', HandSPX.HeldZ B (env :: outer) a Z L h' → s.heap.UpToSlots h' → Q () { s with heap := h' }) : wpAny M A (noteFrame (.ref a) env) Q E1 s := by
  rcases x with ⟨hB, hn, hl, oe, vs, he, hz, hd, h1⟩ | fl | hh
  · exact HandSPX.look_newZ hZ hfr hl hf he hB hn hd h1 hz hQ
  · exact HandSPX.looks_onZ hZ hfr hf fl hQ
  · exact HandSPX.againZ hf hh.2.2.2 (hQ s.heap hh (Heap.UpToSlots.refl _))
theorem funFrames_at {B h h' : Heap} : ∀ {l : List PySem.Env}, h.FunFrames B l → (∀ L ∈ frs l, h'.get? L = h.get? L) → h'.FunFrames B l
  | [], _, _ => trivial
  | env :: l, q, hn => by
    obtain ⟨hk, ⟨L, o, hf, hb, ho, hd⟩, hr⟩ := q
    refine ⟨hk, ⟨L, o, hf, hb, ?_, hd⟩, funFrames_at hr fun b hb => ?_⟩
    · rw [hn L (List.mem_filterMap.mpr ⟨env, List.mem_cons_self, hf⟩)]
      exact ho
    · obtain ⟨e, he, q⟩ := List.mem_filterMap.mp hb
      exact hn b (List.mem_filterMap.mpr ⟨e, List.mem_cons_of_mem _ he, q⟩)
section
variable {X : Cx} {W : WX} {pins : List (Addr × Obj)} {σ : L2.St} {H : Hp} {s z : Shared} {E : XK}
/-- an exception of a callee, noted; an object C of no matter let go; then handed on -/
theorem xe_block {u : Value} {C : Addr} {oc : Obj} {ce : PySem.Env} (hs : X.stack = X.env :: X.outer) (hf : X.env.frame = some X.env.locals) (I : Inv X pins σ H s) (fC : FpOk X pins H C) (hCs : C ∉ frs X.stack) (hoc : s.heap.get? C = some oc)
    (hce : ce.frame = X.env.frame) (c : L2.CX X.prog X.w X.stack H s E u z) (hW : ∀ cls d H', E cls d H' → W cls d σ H') (tk : Takes X W) {E1 : Value → Shared → Prop} :
    wpAny (model X.prog X.w) X.A (noteFrame u ce) (fun _ z2 => z2.heap.get? C = some oc ∧ ∀ h', Heap.SameBut C z2.heap h' → wpAny (model X.prog X.w) X.A (passOn "comprehension.variables-let-go" u ce : Sem Value) (fun _ _ => False) X.xe { z2 with heap := h' }) E1 z := by
  obtain ⟨a, B, H', cls, d, rfl, fl, hok, ub, na, os, ag, hE⟩ := c
  have hfr : X.A.frames = some (X.env :: X.outer) := by rw [I.ok.frames, hs]
  have bC : B.get? C = some oc := ub.keep C oc hoc fC.1 hCs
  have HC : H' C = none := ub.free C oc hoc fC.1
  have aC : a ≠ C := fun q => by
    have := fl.2.1
    rw [q, bC] at this
    cases this
  rw [hs] at fl
  rw [note_env hce]
  refine sky_note Zc.steady hfr hf (.inr (.inl fl)) fun h2 hh up => ⟨hh.1 C oc bC, ?_⟩
  intro h3 sb
  -- the ground without C
  obtain ⟨B', b1, b2⟩ := restrict B fun b => decide (b ≠ C)
  have bB : ∀ b o, B'.get? b = some o → B.get? b = some o ∧ b ≠ C := fun b o e => by
    by_cases q : b = C
    · rw [b2 b (by simp [q])] at e; cases e
    · rw [b1 b (by simp [q])] at e; exact ⟨e, q⟩
  have bb : ∀ b o, b ≠ C → B.get? b = some o → B'.get? b = some o := fun b o q e => by rw [b1 b (by simp [q])]; exact e
  have bn : ∀ b, B.get? b = none → B'.get? b = none := fun b e => by
    cases q : B'.get? b with
    | none => rfl
    | some o => rw [(bB b o q).1] at e; cases e
  obtain ⟨k1, k2, k3, oe, vs, T1, oT, ts, he, hz, hd, h1, hnT, hTe, hT, hdT, hts⟩ := hh
  have T1C : T1 ≠ C := fun q => by rw [q, bC] at hnT; cases hnT
  have fr0 : ∀ L ∈ frs (X.env :: X.outer), B'.get? L = none := fun L hL => by
    obtain ⟨q, _⟩ := k3.mem hL
    exact bn L q
  have ff3 : h3.FunFrames B' (X.env :: X.outer) := by
    refine funFrames_at (funFrames_none k3 fr0) fun L hL => sb.2 L fun q => hCs ?_
    rw [hs, ← q]
    exact hL
  have held : HandSPX.HeldZ B' (X.env :: X.outer) a (Zc cls d) X.env.locals h3 :=
    ⟨fun b o e => by obtain ⟨e1, e2⟩ := bB b o e; rw [sb.2 b e2]; exact k1 b o e1, bn a k2, ff3, oe, vs, T1, oT, ts, (sb.2 a aC).trans he, hz, hd, h1, bn T1 hnT, hTe, (sb.2 T1 T1C).trans hT, hdT, hts⟩
  -- the state without the exception and without C
  obtain ⟨G, g1, g2⟩ := restrict h3 fun b => (B'.get? b).isSome || decide (b ∈ frs X.stack)
  have gB : ∀ b o, B'.get? b = some o → G.get? b = some o := fun b o e => by
    rw [g1 b (by simp [e])]
    exact held.1 b o e
  have gF : ∀ b, b ∈ frs X.stack → G.get? b = h3.get? b := fun b hb => g1 b (by simp [hb])
  have og : ∀ b o, G.get? b = some o → h3.get? b = some o ∧ ((B'.get? b).isSome = true ∨ b ∈ frs X.stack) := fun b o e => by
    cases q : ((B'.get? b).isSome || decide (b ∈ frs X.stack)) with
    | false => rw [g2 b q] at e; cases e
    | true => rw [g1 b q] at e; exact ⟨e, by simpa [Bool.or_eq_true] using q⟩
  have frC : ∀ b, b ∈ frs X.stack → b ≠ C := fun b hb q => hCs (q ▸ hb)
  have slotF : ∀ b o, s.heap.get? b = some o → b ∈ frs X.stack → ∃ sl, G.get? b = some { o with slots := sl } := fun b o e hb => by
    obtain ⟨sl, q⟩ := ub.slot b o e hb
    have nf : ∀ vs, o.data ≠ .fields vs := by
      obtain ⟨_, o', e', hd'⟩ := I.stack.mem hb
      rw [e] at e'
      cases e'
      exact hd'
    obtain ⟨sl2, q2⟩ := up b _ q nf
    exact ⟨sl2, by rw [gF b hb, sb.2 b (frC b hb)]; exact q2⟩
  have okG : HOk X.prog X.w H' G := fun b o q => by
    refine (hok b o q).stay (fun c v hc e => gB c v (bb c v (fun w => ?_) e)) (fun _ q => q) fun _ _ q => q
    subst w
    rcases hc with hc | hc
    · subst hc; rw [HC] at q; cases q
    · rw [HC] at hc; cases hc
  have J : Inv X pins σ H' { s with heap := G, gens := z.gens, drawn := z.drawn, toks := z.toks } := by
    refine I.call (ch := [C]) ⟨fun b o e n hb hx => gB b o (bb b o (by simpa using hx) (ub.keep b o e n hb)), fun b o e n hb _ => slotF b o e hb, fun b o e n _ => ub.free b o e n, fun b o e hx => ?_, ub.tups, ub.frzs, ub.tbls⟩ okG ag (fun b hb => ?_)
    · by_cases hb : b ∈ frs X.stack
      · obtain ⟨sl, q⟩ := slotF b o e hb
        exact ⟨_, q⟩
      · obtain ⟨o', q⟩ := ub.there b o e hb
        exact ⟨o', gB b o' (bb b o' (by simpa using hx) q)⟩
    · rw [List.mem_singleton] at hb
      subst hb
      exact ⟨fC.2.2.2.1, fC.2.1, fC.2.2.2.2.1, fC.2.2.2.2.2⟩
  unfold PySem.passOn
  refine wpAny_bind (wpAny_field ((sb.2 a aC).trans he) hd h1 ?_)
  rw [if_neg (show ¬ ((Value.ref T1 == Value.none) = true) from by simp)]
  have fin : wpAny (model X.prog X.w) X.A (setFlight (.ref a) ce.frame) (fun _ z4 => wpAny (model X.prog X.w) X.A (throw (.ref a) : Sem Value) (fun _ _ => False) X.xe z4) X.xe { z with heap := h3 } := by
    rw [hce, hf]
    refine HandSPX.setFlight_onZ held fun h4 hh4 up4 => wpAny_throw (tk _ _ ?_)
    refine ⟨a, B', _, pins, σ, H', cls, d, rfl, J, fun b o e hb => ?_, ?_, .inr (.inr (by rw [hs]; exact hh4)), na, os, ag, hW _ _ _ hE⟩
    · obtain ⟨e', q⟩ := og b o e
      rcases q with q | q
      · obtain ⟨o', q'⟩ := Option.isSome_iff_exists.mp q
        have w := held.1 b o' q'
        rw [e'] at w
        cases w
        exact q'
      · exact absurd q hb
    · exact (Heap.UpToSlots.of_keeps fun b o e => (og b o e).1).trans up4
  first
    | exact wpAny_bind (wpAny_pure (wpAny_bind fin))
    | exact wpAny_bind fin
end
/-- [elt for target in iter if ..], W of what flies out -/
def tLcX (wi : TI) (g : WX → TG) (tt : WX → TT) (te : WX → TE) (vs : List Nat) (W : WX) : TE := fun σ H Q => wi σ H fun J H1 => ∀ L, H1 L = none → ∃ U : Nat → Nat → Hp → Prop, (∃ m, U 0 m (upd H1 L (.lst []))) ∧ ∀ i m H, U i m H →
  (J.stop i H ∧ Q (.ref L) H) ∨ (J.go i H ∧ ∃ Nx : Hp → Prop, (∀ H', Nx H' → ∃ m', m' < m ∧ U (i + 1) m' H') ∧ ∀ x H', J.yld i H x H' → g (fun c x _ H' => W c x σ H') x (wipe σ vs) H' fun σ2 H2 => wipe σ2 vs = wipe σ vs ∧ tt (fun c x _ H' => W c x σ H') σ2 H2 fun b H3 =>
    if b = true then te (fun c x _ H' => W c x σ H') σ2 H3 fun y H4 => ∃ acc, H4 L = some (.lst acc) ∧ acc.length < sizeLine ∧ Nx (upd H4 L (.lst (acc ++ [y]))) else Nx H3)
section
variable {X : Cx} {W : WX}
theorem lc_coreX {pins : List (Addr × Obj)} {s : Shared} {σ : L2.St} {H : Hp} {Q : VK} {elt tg iter : Expr} {ifs : List Expr} {scope : Scope} {own : List (Str × Nat)} {pos pos' : Pos} {wi : TI} {g : WX → TG} {tt : WX → TT} {te : WX → TE} {use : Option (Value → Sem Unit)} {Qf : Value → Shared → Prop}
    (hst : X.stack = X.env :: X.outer) (hfm : X.env.frame = some X.env.locals) (tk : Takes X W)
    (hc : X.calm = true) (hN : X.N.Nodup) (I : Inv X pins σ H s) (hi : PI X tg iter wi) (ok : BlkOk X.N X.env.scope scope own)
    (hg : ∀ (s : Shared) (H : Hp) (C : Addr) (cl : List (Str × Addr)) (fp : List Addr) (xe : Value → Shared → Prop) (Wb : WX), Psg ((X.blk s H scope (compEnvC scope cl C X.env) fp).wish xe) Wb → PG ((X.blk s H scope (compEnvC scope cl C X.env) fp).wish xe) tg (g Wb))
    (ht : ∀ (s : Shared) (H : Hp) (C : Addr) (cl : List (Str × Addr)) (fp : List Addr) (xe : Value → Shared → Prop) (Wb : WX), Psg ((X.blk s H scope (compEnvC scope cl C X.env) fp).wish xe) Wb → PTs ((X.blk s H scope (compEnvC scope cl C X.env) fp).wish xe) ifs (tt Wb))
    (he : ∀ (s : Shared) (H : Hp) (C : Addr) (cl : List (Str × Addr)) (fp : List Addr) (xe : Value → Shared → Prop) (Wb : WX), Psg ((X.blk s H scope (compEnvC scope cl C X.env) fp).wish xe) Wb → PE ((X.blk s H scope (compEnvC scope cl C X.env) fp).wish xe) elt (te Wb))
    (hs : ∀ x, foldedSetIterable iter X.env x = pure x) (h : tLcX wi g tt te (own.map (·.2)) W σ H Q)
    (hRR : ∀ L C z m H', Inv X pins σ H' z → Q (.ref L) H' → z.heap.Ns C m → FpOk X pins H' C → compPost (model X.prog X.w) X.A X.xe use Qf (.ref L) C (.ok .next) z) :
    wpAny (model X.prog X.w) X.A (comprehension (.ListComp elt [⟨tg, iter, ifs, 0⟩] scope pos) scope X.env pos' (newList []) false (eval iter X.env) use) Qf X.xe s := by
  have hfree : ∀ y ∈ scope.names, y.2 = .free → ∃ c, X.env.cells.lookup y.1 = some c := fun y hy e => (ok.free y hy e).elim (fun k => I.ok.has _ (.inl k)) fun k => I.ok.has _ (.inr k)
  refine comp_free2 (use := use) rfl hs (closure_ok hfree) ok.kind (fun y hy e => by rw [ok.uniq y hy, e]) (thn (hi.run pins s σ H _ I h) fun xv s1 hx => thn hx fun itv s2 h2 => ?_)
  obtain ⟨it, fp, tn, J, H2, rfl, I2, Tn, st2, f2, q⟩ := h2
  refine wpAny_newObj_type (newEnv_comp ?_) (by show 0 ≤ sizeLine; decide)
  generalize hL : s2.heap.objs.size = L
  have hLn : H2 L = none := I2.hok.fresh (Nat.le_of_eq hL)
  obtain ⟨U, ⟨m0, w0⟩, turn⟩ := q L hLn
  generalize hs3 : ({ s2 with heap := s2.heap.push { cls := .type "list", data := .seq ([] : List Value).toArray } } : Shared) = s3
  have h3 : s3.heap = s2.heap.push { cls := .type "list", data := .seq ([] : List Value).toArray } := by rw [← hs3]
  have I3 : Inv X pins σ (upd H2 L (.lst [])) s3 := by
    rw [← hs3]
    refine I2.laid (t' := s2.toks) (fun b o e => Heap.get?_push_of_some _ e) (Nat.le_of_eq hL) ⟨Nat.zero_le _, [], 0, .nil, ?_⟩
    rw [← hL]
    exact Heap.get?_push_size _ rfl
  have sz : ∀ b ∈ fp, b < s2.heap.objs.size := fun b hb => by
    obtain ⟨o, e, _⟩ := Tn.obj _ _ st2 b hb
    exact Heap.lt_size e
  have f3 : ∀ b ∈ fp, FpOk X pins (upd H2 L (.lst [])) b ∧ b < s3.heap.objs.size := fun b hb => by
    have hlt := sz b hb
    have nb : b ≠ L := by rw [← hL]; exact Nat.ne_of_lt hlt
    exact ⟨⟨by rw [upd_ne nb]; exact (f2 b hb).1, (f2 b hb).2⟩, by rw [h3, Heap.size_push]; exact Nat.lt_succ_of_lt hlt⟩
  have st3 : tn 0 s3.heap := Tn.keep _ _ _ st2 fun b _ o e => by rw [h3]; exact Heap.get?_push_of_some _ e
  have I4 := block_start I3 ok hN f3
  show codeAny _ _ (.compStart (.ListComp elt [⟨tg, iter, ifs, 0⟩] scope pos) 0 (.ref it) (.ref L) (compEnvC scope (cellsFrom (s3.heap.objs.size + 1) scope.names (cloFrom X.env.cells scope.names [])) s3.heap.objs.size X.env)) (CPost (model X.prog X.w) X.A X.xe use Qf (.ref L) (compEnvC scope (cellsFrom (s3.heap.objs.size + 1) scope.names (cloFrom X.env.cells scope.names [])) s3.heap.objs.size X.env)) { s3 with heap := pushCells (s3.heap.push { cls := .type "dict", data := .dict #[] }) scope.names }
  have nfp : ∀ b ∈ fp, (upd H2 L (.lst [])) b = none := fun b hb => (f3 b hb).1.1
  have pg := hg s3 (upd H2 L (.lst [])) s3.heap.objs.size (cellsFrom (s3.heap.objs.size + 1) scope.names (cloFrom X.env.cells scope.names [])) fp
  have pt := ht s3 (upd H2 L (.lst [])) s3.heap.objs.size (cellsFrom (s3.heap.objs.size + 1) scope.names (cloFrom X.env.cells scope.names [])) fp
  have pe := he s3 (upd H2 L (.lst [])) s3.heap.objs.size (cellsFrom (s3.heap.objs.size + 1) scope.names (cloFrom X.env.cells scope.names [])) fp
  generalize hce : compEnvC scope (cellsFrom (s3.heap.objs.size + 1) scope.names (cloFrom X.env.cells scope.names [])) s3.heap.objs.size X.env = ce at I4 pg pt pe ⊢
  have cL : ce.locals = s3.heap.objs.size := by subst hce; rfl
  have cF : ce.frame = X.env.frame := by subst hce; rfl
  generalize hH3 : upd H2 L (.lst []) = H3 at I3 I4 pg pt pe w0 nfp f3
  generalize hs4 : ({ s3 with heap := pushCells (s3.heap.push { cls := .type "dict", data := .dict #[] }) scope.names } : Shared) = s4 at I4 ⊢
  have st4 : tn 0 s4.heap := Tn.keep _ _ _ st3 fun b _ o e => by rw [← hs4]; exact pushCells_keeps _ _ _ _ (Heap.get?_push_of_some _ e)
  have stat : ∀ {σ' : L2.St} {H' : Hp} {z : Shared}, Inv (X.blk s3 H3 scope ce fp) [] σ' H' z → (∀ b ∈ fp, H' b = none) → ∀ b ∈ fp, FpOk (X.blk s3 H3 scope ce fp) [] H' b := fun {σ' H' z} I' hn b hb =>
    ⟨hn b hb, (I'.ok.exf b hb).1, I'.ok.exfs b hb, .inl hb, fun x c e => (I'.ok.exf b hb).2 x c e, fun p hp => absurd (show p ∈ ([] : List (Addr × Obj)) ++ [] from hp) (by simp)⟩
  -- back in the def's context, from any state of the block
  have home : ∀ {p : List (Addr × Obj)} {σ' : L2.St} {H' : Hp} {z : Shared}, Inv (X.blk s3 H3 scope ce fp) p σ' H' z → Inv X pins σ H' z := fun {p σ' H' z} I' =>
    I3.call' (ch := fp) I'.os I'.base I'.hok I'.bare fun b hb => ⟨(f3 b hb).1.2.2.2.1, (f3 b hb).1.2.1, (f3 b hb).1.2.2.2.2.1, (f3 b hb).1.2.2.2.2.2⟩
  have nC : ∀ {p : List (Addr × Obj)} {σ' : L2.St} {H' : Hp} {z : Shared}, Inv (X.blk s3 H3 scope ce fp) p σ' H' z → H' s3.heap.objs.size = none := fun {p σ' H' z} I' => by
    have w : H' ce.locals = none := I'.free
    rw [cL] at w
    exact w
  have Cst : s3.heap.objs.size ∉ frs X.stack := fun hm => by
    obtain ⟨_, o, ho, _⟩ := I3.stack.mem hm
    exact absurd (Heap.lt_size ho) (Nat.lt_irrefl _)
  generalize hxe : notedBy (model X.prog X.w) X.A ce (fun e z => CPost (model X.prog X.w) X.A X.xe use Qf (.ref L) ce (.error e) z) = xe
  have psg : Psg ((X.blk s3 H3 scope ce fp).wish xe) (fun c x _ H' => W c x σ H') := fun σ2 p H5 s5 e z I5 cx => by
    show xe e z
    rw [← hxe]
    have I5' : Inv (X.blk s3 H3 scope ce fp) p σ2 H5 s5 := I5.unwish
    obtain ⟨m, hn, _⟩ := I5'.loc
    have hn : s5.heap.Ns ce.locals m := hn
    rw [cL] at hn
    obtain ⟨oc, es, ep, ho, rest⟩ := hn
    refine wpAny_mono (xe_block (C := s3.heap.objs.size) (W := W) hst hfm (home I5') (I3.fpOk (Nat.le_refl _) (nC I5')) Cst ho cF cx (fun _ _ _ q => q) tk) (fun _ z2 hz => ?_) fun _ _ q => q
    refine ⟨m, ?_, ?_⟩
    · rw [cL]
      exact ⟨oc, es, ep, hz.1, rest⟩
    · rw [cL]
      exact hz.2
  have pg := pg xe _ psg
  have pt := pt xe _ psg
  have pe := pe xe _ psg
  have loop : codeAny (model X.prog X.w) X.A (.compLoop (.ListComp elt [⟨tg, iter, ifs, 0⟩] scope pos) 0 (.ref it) (.ref L) ce) (CPost (model X.prog X.w) X.A X.xe use Qf (.ref L) ce) s4 := by
    refine compLoop_any (fun n z => ∃ i H', Inv (X.blk s3 H3 scope ce fp) [] (wipe σ (own.map (·.2))) H' z ∧ tn i z.heap ∧ (∀ b ∈ fp, H' b = none) ∧ U i n H') ?_ m0 ⟨0, H3, I4, st4, nfp, w0⟩
    rintro n s5 ⟨i, H5, I5, st5, n5, w5⟩
    rw [hxe]
    rcases turn i n H5 w5 with ⟨stop, qq⟩ | ⟨go, Nx, hNx, step⟩
    · have td := Tn.done (X.blk s3 H3 scope ce fp) rfl rfl rfl hc i [] s5 _ H5 (fun _ _ => False) I5 (stat I5 n5) st5 stop
      refine thnF td fun r s6 ⟨hr, I6⟩ => ?_
      subst hr
      obtain ⟨m, hn, _⟩ := I6.loc
      have hn : s6.heap.Ns ce.locals m := hn
      show compPost _ _ _ _ _ _ ce.locals _ _
      rw [cL] at hn ⊢
      exact hRR L s3.heap.objs.size s6 m H5 (home I6) qq hn (I3.fpOk (Nat.le_refl _) (nC I6))
    · have ti := Tn.item (X.blk s3 H3 scope ce fp) rfl rfl rfl hc i [] s5 _ H5 (fun _ _ => False) I5 (stat I5 n5) st5 go
      refine thnF ti fun r s6 ⟨u, hr, h6⟩ => ?_
      subst hr
      refine thnF h6 fun _ s7 ⟨x, H7, I7, r7, y7, st7, n7⟩ => ?_
      have I7' := I7.pinned (stat I7 n7) (Tn.obj _ _ st7)
      refine thn (pg.run _ s7 _ H7 x u _ (I7'.wish xe) r7 (step x H7 y7)) fun _ s8 ⟨σ8, H8, I8, hw8, q8⟩ => ?_
      refine thn (pt.run _ s8 σ8 H8 _ I8 q8) fun b s9 ⟨H9, I9, q9⟩ => ?_
      have turnEnd : ∀ {z : Shared} {H' : Hp}, Inv (X.blk s3 H3 scope ce fp) ([] ++ pinsAt fp s7.heap) σ8 H' z → Nx H' → ∃ m, m < n ∧ ∃ i H', Inv (X.blk s3 H3 scope ce fp) [] (wipe σ (own.map (·.2))) H' z ∧ tn i z.heap ∧ (∀ b ∈ fp, H' b = none) ∧ U i m H' := fun {z H'} I' nx => by
        obtain ⟨m', hm, w'⟩ := hNx H' nx
        have pin2 : ∀ b ∈ fp, ∀ o, s7.heap.get? b = some o → z.heap.get? b = some o ∧ H' b = none := fun b hb o e =>
          let w := I'.pin (b, o) (List.mem_append_right _ (List.mem_append_right _ (mem_pinsAt hb e)))
          ⟨w.1, w.2.1⟩
        have hl : (wipe σ (own.map (·.2))).length = σ8.length := by rw [← hw8, wipe_length]
        refine ⟨m', hm, i + 1, H', (I'.unpinned (pins := [])).weak hl (fun j v e => ?_), Tn.keep _ _ _ st7 fun b hb o e => (pin2 b hb o e).1, fun b hb => ?_, w'⟩
        · rw [← hw8] at e
          exact (wipe_some e).1
        · obtain ⟨o, e, _⟩ := Tn.obj _ _ st7 b hb
          exact (pin2 b hb o e).2
      cases b with
      | false =>
        simp only [Bool.false_eq_true, if_false] at q9 ⊢
        exact turnEnd I9.unwish q9
      | true =>
        simp only [if_true] at q9 ⊢
        refine thn (pe.run _ s9 σ8 H9 _ I9 q9) fun v s10 ⟨yv, H10, I10, r10, acc, hD10, hz10, nx⟩ => ?_
        exact app_ok (X := X.blk s3 H3 scope ce fp) I10.unwish hD10 hz10 r10 fun s11 I11 => turnEnd I11 nx
  exact codeAny_compStart_list loop (Tn.self X.A 0 _ _ _ st4 loop)
end
end T
end S_TComp0
section S_TLoop
set_option Elab.async false
set_option linter.all false
set_option maxRecDepth 100000
set_option maxHeartbeats 4000000
namespace T
open PySem L2 RZ
/-! ### what is walked: the items one behind another -/
/-- from the state t on J gives just these -/
structure Wk (K : PySem.W.Frag) (mg : Str → Option Value) (t : Stt) (J : It) (ds : List D) : Prop where
  goes : ∀ i u, i < ds.length → Ok K mg u → Le t u → J.go i u.H
  stops : ∀ u, Ok K mg u → Le t u → J.stop ds.length u.H
  yields : ∀ i u x H' d, ds[i]? = some d → Ok K mg u → Le t u → J.yld i u.H x H' → ∃ u', u'.H = H' ∧ Ok K mg u' ∧ u'.S = u.S ∧ Le u u' ∧ Rp K mg u'.Hf u'.ρ x d
def tI (K : PySem.W.Frag) (mg : Str → Option Value) (W : WX) (m : SemA) : TI := fun σ H R =>
  ∃ (s : Stt) (env : Env), s.H = H ∧ Ok K mg s ∧ EnvOk K mg s σ env ∧ RS K mg (fun t J ds => Wk K mg t J ds) W σ R s (m env s.S)
/-- a list is frozen when it is walked -/
def frzD (S : Sto) : D → Sto
  | .cell n => (match S[n]? with
    | some (.lv d) => S.set n (.fz d)
    | _ => S)
  | _ => S
def iSeq (m : SemE) : SemA := fun env S => (m env S).bind fun x S1 => match rd S1 x with
  | .lst ds => .ok ds (frzD S1 x)
  | .tup ds => .ok ds S1
  | _ => .bad
def signs (z : Str) : List D := z.cps.toList.map fun c => D.str ⟨#[c]⟩
def iStrs (m : SemE) : SemA := fun env S => (m env S).bind fun x S1 => match x with
  | .str z => .ok (signs z) S1
  | _ => .bad
section
variable {K : PySem.W.Frag} {mg : Str → Option Value}
theorem wk_list {t : Stt} {a : Addr} {vs : List V} {ds : List D} (h : SqL K t.Hf a vs) (r : RpL K mg t.Hf t.ρ vs ds) : Wk K mg t (Itl K a) ds := by
  have up : ∀ u, Ok K mg u → Le t u → SqL K u.H a vs := fun u o l => o.same.seq (l.same.seq h)
  refine ⟨fun i u hi o l => ?_, fun u o l => ⟨vs, up u o l, by rw [r.length]; exact Nat.le_refl _⟩, fun i u x H' d e o l y => ?_⟩
  · have hi' : i < vs.length := by rw [r.length]; exact hi
    exact ⟨vs, vs[i], up u o l, by simp [hi']⟩
  · obtain ⟨rfl, y⟩ := y
    obtain ⟨v, e1, r1⟩ := r.get' e
    have e2 := y vs (up u o l)
    rw [e1] at e2
    cases e2
    exact ⟨u, rfl, o, rfl, Le.refl u, r1.le l⟩
theorem wk_tup {t : Stt} {a : Addr} {vs : List V} {ds : List D} (h : SqT K t.Hf a vs) (r : RpL K mg t.Hf t.ρ vs ds) : Wk K mg t (Itt K a) ds := by
  have up : ∀ u, Ok K mg u → Le t u → SqT K u.H a vs := fun u o l => sqT_same o.same (sqT_same l.same h)
  refine ⟨fun i u hi o l => ?_, fun u o l => ⟨vs, up u o l, by rw [r.length]; exact Nat.le_refl _⟩, fun i u x H' d e o l y => ?_⟩
  · have hi' : i < vs.length := by rw [r.length]; exact hi
    exact ⟨vs, vs[i], up u o l, by simp [hi']⟩
  · obtain ⟨rfl, y⟩ := y
    obtain ⟨v, e1, r1⟩ := r.get' e
    have e2 := y vs (up u o l)
    rw [e1] at e2
    cases e2
    exact ⟨u, rfl, o, rfl, Le.refl u, r1.le l⟩
theorem wk_str {t : Stt} {z : Str} : Wk K mg t (Its z) (signs z) := by
  have hl : (signs z).length = z.cps.size := by simp [signs]
  refine ⟨fun i u hi o l => by show i < z.cps.size; rw [← hl]; exact hi, fun u o l => by show z.cps.size ≤ _; rw [hl]; exact Nat.le_refl _, fun i u x H' d e o l y => ?_⟩
  obtain ⟨rfl, c, e1, rfl⟩ := y
  refine ⟨u, rfl, o, rfl, Le.refl u, ?_⟩
  unfold signs at e
  rw [List.getElem?_map, Array.getElem?_toList, e1] at e
  cases e
  exact .str
theorem wk_range {t : Stt} {lo : Int} {n : Nat} : Wk K mg t (Itr lo n) ((List.range n).map fun i => D.int (lo + (i : Nat))) := by
  have hl : ((List.range n).map fun (i : Nat) => D.int (lo + (i : Int))).length = n := by simp
  refine ⟨fun i u hi o l => by show i < n; rw [← hl]; exact hi, fun u o l => by show n ≤ _; rw [hl]; exact Nat.le_refl _, fun i u x H' d e o l y => ?_⟩
  obtain ⟨rfl, rfl⟩ := y
  refine ⟨u, rfl, o, rfl, Le.refl u, ?_⟩
  rw [List.getElem?_map] at e
  cases q : (List.range n)[i]? with
  | none => rw [q] at e; cases e
  | some j =>
    rw [q] at e
    cases e
    rw [List.getElem?_range (by
      have := (List.getElem?_eq_some_iff.mp q).1
      simpa using this)] at q
    cases q
    exact .int
/-- a new pair -/
theorem pair_new {u : Stt} {T1 : Addr} {x y : V} {dx dy : D} (o : Ok K mg u) (hT : u.H T1 = none) (rx : Rp K mg u.Hf u.ρ x dx) (ry : Rp K mg u.Hf u.ρ y dy) :
    ∃ u', u'.H = upd u.H T1 (.tup [x, y]) ∧ Ok K mg u' ∧ u'.S = u.S ∧ Le u u' ∧ Rp K mg u'.Hf u'.ρ (.ref T1) (.tup [dx, dy]) :=
  ⟨u.new T1 (.tup [x, y]), rfl, o.new hT _, rfl, Le.new o hT _, Rp.newT (.cons rx (.cons ry .nil)) o hT⟩
def enumD (ds : List D) : List D := (List.range ds.length).zipWith (fun i d => D.tup [.int (i : Nat), d]) ds
theorem enumD_get {ds : List D} {i : Nat} {e : D} (h : (enumD ds)[i]? = some e) : ∃ d, ds[i]? = some d ∧ e = .tup [.int (i : Nat), d] := by
  unfold enumD at h
  rw [List.getElem?_zipWith] at h
  cases q : ds[i]? with
  | none => rw [q] at h; cases r : (List.range ds.length)[i]? <;> rw [r] at h <;> cases h
  | some d =>
    have hi : i < ds.length := (List.getElem?_eq_some_iff.mp q).1
    rw [q, List.getElem?_range hi] at h
    cases h
    exact ⟨d, rfl, rfl⟩
theorem wk_enum {t : Stt} {a : Addr} {vs : List V} {ds : List D} (h : SqL K t.Hf a vs) (r : RpL K mg t.Hf t.ρ vs ds) : Wk K mg t (Ite K a) (enumD ds) := by
  have up : ∀ u, Ok K mg u → Le t u → SqL K u.H a vs := fun u o l => o.same.seq (l.same.seq h)
  have hl : (enumD ds).length = ds.length := by simp [enumD]
  refine ⟨fun i u hi o l => ?_, fun u o l => ⟨vs, up u o l, by rw [r.length, hl]; exact Nat.le_refl _⟩, fun i u x H' d e o l y => ?_⟩
  · have hi' : i < vs.length := by rw [r.length, ← hl]; exact hi
    exact ⟨vs, vs[i], up u o l, by simp [hi']⟩
  · obtain ⟨T1, x1, rfl, hT, rfl, y⟩ := y
    obtain ⟨d1, e1, rfl⟩ := enumD_get e
    obtain ⟨v, e2, r2⟩ := r.get' e1
    have e3 := y vs (up u o l)
    rw [e2] at e3
    cases e3
    exact pair_new o hT .int (r2.le l)
def zipD (xs ys : List D) : List D := xs.zipWith (fun a b => D.tup [a, b]) ys
theorem zipD_get {xs ys : List D} {i : Nat} {e : D} (h : (zipD xs ys)[i]? = some e) : ∃ a b, xs[i]? = some a ∧ ys[i]? = some b ∧ e = .tup [a, b] := by
  unfold zipD at h
  rw [List.getElem?_zipWith] at h
  cases q : xs[i]? with
  | none => rw [q] at h; cases h
  | some a =>
    cases q2 : ys[i]? with
    | none => rw [q, q2] at h; cases h
    | some b => rw [q, q2] at h; cases h; exact ⟨a, b, rfl, rfl, rfl⟩
theorem wk_zipL {t : Stt} {a b : Addr} {vs ws : List V} {ds es : List D} (h : SqL K t.Hf a vs) (r : RpL K mg t.Hf t.ρ vs ds) (h2 : SqL K t.Hf b ws) (r2 : RpL K mg t.Hf t.ρ ws es) : Wk K mg t (Itz K a b) (zipD ds es) := by
  have up : ∀ u, Ok K mg u → Le t u → SqL K u.H a vs ∧ SqL K u.H b ws := fun u o l => ⟨o.same.seq (l.same.seq h), o.same.seq (l.same.seq h2)⟩
  have hl : (zipD ds es).length = min ds.length es.length := by simp [zipD]
  refine ⟨fun i u hi o l => ?_, fun u o l => ⟨vs, ws, (up u o l).1, (up u o l).2, by rw [r.length, r2.length, hl]; omega⟩, fun i u x H' d e o l y => ?_⟩
  · have hi' : i < vs.length := by rw [r.length]; omega
    have hi2 : i < ws.length := by rw [r2.length]; omega
    exact ⟨vs, ws, vs[i], ws[i], (up u o l).1, (up u o l).2, by simp [hi'], by simp [hi2]⟩
  · obtain ⟨T1, x1, y1, rfl, hT, rfl, y, y2⟩ := y
    obtain ⟨d1, d2, e1, e2, rfl⟩ := zipD_get e
    obtain ⟨v, q1, p1⟩ := r.get' e1
    obtain ⟨v2, q2, p2⟩ := r2.get' e2
    have e3 := y vs (up u o l).1
    have e4 := y2 ws (up u o l).2
    rw [q1] at e3
    rw [q2] at e4
    cases e3
    cases e4
    exact pair_new o hT (p1.le l) (p2.le l)
theorem wk_zipT {t : Stt} {a b : Addr} {vs ws : List V} {ds es : List D} (h : SqT K t.Hf a vs) (r : RpL K mg t.Hf t.ρ vs ds) (h2 : SqT K t.Hf b ws) (r2 : RpL K mg t.Hf t.ρ ws es) : Wk K mg t (ItzT K a b) (zipD ds es) := by
  have up : ∀ u, Ok K mg u → Le t u → SqT K u.H a vs ∧ SqT K u.H b ws := fun u o l => ⟨sqT_same o.same (sqT_same l.same h), sqT_same o.same (sqT_same l.same h2)⟩
  have hl : (zipD ds es).length = min ds.length es.length := by simp [zipD]
  refine ⟨fun i u hi o l => ?_, fun u o l => ⟨vs, ws, (up u o l).1, (up u o l).2, by rw [r.length, r2.length, hl]; omega⟩, fun i u x H' d e o l y => ?_⟩
  · have hi' : i < vs.length := by rw [r.length]; omega
    have hi2 : i < ws.length := by rw [r2.length]; omega
    exact ⟨vs, ws, vs[i], ws[i], (up u o l).1, (up u o l).2, by simp [hi'], by simp [hi2]⟩
  · obtain ⟨T1, x1, y1, rfl, hT, rfl, y, y2⟩ := y
    obtain ⟨d1, d2, e1, e2, rfl⟩ := zipD_get e
    obtain ⟨v, q1, p1⟩ := r.get' e1
    obtain ⟨v2, q2, p2⟩ := r2.get' e2
    have e3 := y vs (up u o l).1
    have e4 := y2 ws (up u o l).2
    rw [q1] at e3
    rw [q2] at e4
    cases e3
    cases e4
    exact pair_new o hT (p1.le l) (p2.le l)
/-- a list seen for reading, frozen: the same heap -/
theorem frz_at {t : Stt} {x : V} {d : D} {ds : List D} (o : Ok K mg t) (r : Rp K mg t.Hf t.ρ x d) (h : rd t.S d = .lst ds) :
    ∃ (u : Stt) (a : Addr) (vs : List V), x = .ref a ∧ u.H = t.H ∧ Ok K mg u ∧ u.S = frzD t.S d ∧ Le t u ∧ SqL K u.Hf a vs ∧ RpL K mg u.Hf u.ρ vs ds := by
  cases r with
  | lst h1 h2 => simp only [rd] at h; injection h with h; subst h; exact ⟨t, _, _, rfl, rfl, o, rfl, Le.refl t, SqL.of h1, h2⟩
  | rdl h1 h2 => simp only [rd] at h; injection h with h; subst h; exact ⟨t, _, _, rfl, rfl, o, rfl, Le.refl t, h1, h2⟩
  | @cell a n h1 =>
    simp only [rd] at h
    have hn : n < t.S.length := by rw [← o.len]; exact (List.getElem?_eq_some_iff.mp h1).1
    have e : t.S[n]? = some t.S[n] := by simp [hn]
    unfold cget at h
    rw [e] at h
    cases q : t.S[n] with
    | lv d =>
      rw [q] at e h
      simp only at h
      subst h
      obtain ⟨f0, vs, g1, g2⟩ := o.lv n _ a e h1
      refine ⟨t.frz n a (.lst vs) (.lst ds), a, vs, rfl, rfl, o.frz e h1 g1, ?_, Le.frz o e h1, SqL.of upd_same, ?_⟩
      · show t.S.set n _ = frzD t.S (.cell n)
        simp only [frzD, e]
      · exact RpL.le (Le.frz (o := .lst vs) o e h1) g2
    | fz d =>
      rw [q] at e h
      simp only at h
      subst h
      obtain ⟨vs, g1, g2⟩ := o.fz n _ a e h1
      exact ⟨t, a, vs, rfl, rfl, o, by simp only [frzD, e], Le.refl t, SqL.of g1, g2⟩
  | _ => simp only [rd] at h; cases h
end
section
variable {X : Cx} {W : WX} {tg e e2 : Expr} {m : SemE} {ma : SemA} {p pos tpos : Pos}
theorem jSeq (he : PE X e (tE X.K X.mg W m)) : PI X tg e (tI X.K X.mg W (iSeq m)) := by
  refine ⟨fun pins s σ H R I h => ?_⟩
  obtain ⟨t, env, rfl, o, eo, h⟩ := h
  have h2 : tE X.K X.mg W m σ t.H (fun x H1 => ∃ (t2 : Stt) (d : D), t2.H = H1 ∧ Ok X.K X.mg t2 ∧ Rp X.K X.mg t2.Hf t2.ρ x d ∧ RS X.K X.mg (fun t J ds => Wk X.K X.mg t J ds) W σ R t2 (match rd t2.S d with
    | .lst ds => .ok ds (frzD t2.S d)
    | .tup ds => .ok ds t2.S
    | _ => .bad)) := RS.go (R := RE X.K X.mg) h o eo fun x t2 d o2 l2 r2 h => ⟨t2, d, rfl, o2, r2, h⟩
  refine thn (he.run pins s σ t.H _ I h2) fun v s1 ⟨x, H1, I1, r1, t2, d, e1, o2, r2, h⟩ => ?_
  subst e1
  split at h
  · rename_i ds eq
    obtain ⟨u, a, vs, rfl, eH, ou, eS, lu, sq, rl⟩ := frz_at o2 r2 eq
    cases r1
    have sq1 : SqL X.K t2.H a vs := by rw [← eH]; exact ou.same.seq sq
    obtain ⟨its, rv, pl, hz⟩ := I1.list sq1
    refine wpAny_pyIter_list pl.isList (pi_one I1 _ (turn_list a _) ⟨_, Heap.get?_push_size _ rfl, rfl, rfl⟩ ?_)
    rw [← eH]
    exact h (Itl X.K a) u ou eS lu (wk_list sq rl)
  · rename_i ds eq
    obtain ⟨a, vs, rfl, sq1, sq, rl⟩ := rd_tup2 o2 r2 eq
    cases r1
    obtain ⟨its, rv, pl, hz⟩ := I1.tuple sq1
    refine wpAny_pyIter_tuple (show s1.heap.IsTuple a its.toArray from pl) (pi_one I1 _ (turn_tuple a _) ⟨_, Heap.get?_push_size _ rfl, rfl, rfl⟩ ?_)
    exact h (Itt X.K a) t2 o2 rfl (Le.refl t2) (wk_tup sq rl)
  · exact h.elim
theorem jStrs (he : PE X e (tE X.K X.mg W m)) : PI X tg e (tI X.K X.mg W (iStrs m)) := by
  refine ⟨fun pins s σ H R I h => (pi_str he).run pins s σ H R I ?_⟩
  obtain ⟨t, env, rfl, o, eo, h⟩ := h
  refine RS.go (R := RE X.K X.mg) h o eo fun x t2 d o2 l2 r2 h => ?_
  split at h
  · rename_i z
    exact ⟨z, rp_str r2, h (Its z) t2 o2 rfl (Le.refl t2) wk_str⟩
  · exact h.elim
def rngD (lo : Int) (n : Nat) : List D := (List.range n).map fun (i : Nat) => D.int (lo + (i : Int))
def iRng1 (ma : SemA) : SemA := fun env S => (ma env S).bind fun ds S1 => match ds with
  | [.int j] => if decide (-1000000 ≤ j ∧ j ≤ 1000000) then .ok (rngD 0 j.toNat) S1 else .bad
  | _ => .bad
def iRng2 (ma : SemA) : SemA := fun env S => (ma env S).bind fun ds S1 => match ds with
  | [.int i, .int j] => if decide (-1000000 ≤ i ∧ i ≤ 1000000 ∧ -1000000 ≤ j ∧ j ≤ 1000000) then .ok (rngD i (j - i).toNat) S1 else .bad
  | _ => .bad
theorem jRng1 (hg : Gl X "range") (hm : X.mg "range" = none) (ha : PA X [e] (tA X.K X.mg W ma)) (hs : starEach [e] X.env = [(false, eval e X.env)]) : PI X tg (.Call (.Name "range" p) [e] [] pos) (tI X.K X.mg W (T.iRng1 ma)) := by
  refine ⟨fun pins s σ H R I h => (pi_range1 hg hm ha hs).run pins s σ H R I ?_⟩
  obtain ⟨t, env, rfl, o, eo, h⟩ := h
  refine RS.go (R := RA X.K X.mg) h o eo fun vs u ds ou lu rv h => ?_
  split at h
  · split at h
    · rename_i j hj
      rw [decide_eq_true_eq] at hj
      obtain ⟨v, rfl, r1⟩ := one rv
      cases r1
      exact ⟨_, rfl, by omega, by omega, h _ u ou rfl (Le.refl u) wk_range⟩
    · exact h.elim
  · exact h.elim
theorem jRng2 (hg : Gl X "range") (hm : X.mg "range" = none) (ha : PA X [e, e2] (tA X.K X.mg W ma)) (hs : starEach [e, e2] X.env = [(false, eval e X.env), (false, eval e2 X.env)]) (hs2 : starEach [e2] X.env = [(false, eval e2 X.env)]) : PI X tg (.Call (.Name "range" p) [e, e2] [] pos) (tI X.K X.mg W (T.iRng2 ma)) := by
  refine ⟨fun pins s σ H R I h => (pi_range2 hg hm ha hs hs2).run pins s σ H R I ?_⟩
  obtain ⟨t, env, rfl, o, eo, h⟩ := h
  refine RS.go (R := RA X.K X.mg) h o eo fun vs u ds ou lu rv h => ?_
  split at h
  · split at h
    · rename_i i j hj
      rw [decide_eq_true_eq] at hj
      obtain ⟨v, w, rfl, r1, r2⟩ := two rv
      cases r1
      cases r2
      exact ⟨_, _, rfl, ⟨by omega, by omega, by omega, by omega⟩, h _ u ou rfl (Le.refl u) wk_range⟩
    · exact h.elim
  · exact h.elim
def iEnumS (ma : SemA) : SemA := fun env S => (ma env S).bind fun ds S1 => match ds with
  | [d] => (match rd S1 d with
    | .lst xs => .ok (enumD xs) (frzD S1 d)
    | _ => .bad)
  | _ => .bad
theorem jEnum {elts : List Expr} {kk : Nat} (hg : Gl X "enumerate") (hm : X.mg "enumerate" = none) (ha : PA X [e] (tA X.K X.mg W ma)) (hs : starEach [e] X.env = [(false, eval e X.env)]) : PI X (.Tuple elts kk tpos) (.Call (.Name "enumerate" p) [e] [] pos) (tI X.K X.mg W (iEnumS ma)) := by
  refine ⟨fun pins s σ H R I h => (pi_enum hg hm ha hs).run pins s σ H R I ?_⟩
  obtain ⟨t, env, rfl, o, eo, h⟩ := h
  refine RS.go (R := RA X.K X.mg) h o eo fun vs u ds ou lu rv h => ?_
  split at h
  · obtain ⟨v, rfl, r1⟩ := one rv
    split at h
    · rename_i xs eq
      obtain ⟨u2, a, ws, rfl, eH, o2, eS, l2, sq, rl⟩ := frz_at ou r1 eq
      rw [← eH]
      exact ⟨a, ws, rfl, o2.same.seq sq, h _ u2 o2 eS l2 (wk_enum sq rl)⟩
    · exact h.elim
  · exact h.elim
def iZipS (ma : SemA) : SemA := fun env S => (ma env S).bind fun ds S1 => match ds with
  | [d, e] => (match rd S1 d, rd (frzD S1 d) e with
    | .lst xs, .lst ys => .ok (zipD xs ys) (frzD (frzD S1 d) e)
    | .tup xs, .tup ys => .ok (zipD xs ys) S1
    | _, _ => .bad)
  | _ => .bad
theorem frzD_tup {K : PySem.W.Frag} {mg : Str → Option Value} {s : Stt} {x : V} {d : D} {ds : List D} (o : Ok K mg s) (r : Rp K mg s.Hf s.ρ x d) (h : rd s.S d = .tup ds) : frzD s.S d = s.S := by
  cases r with
  | cell h1 =>
    simp only [rd] at h
    have q := cell_at o h1
    rw [h] at q
    exact q.elim
  | _ => rfl
theorem jZip {elts : List Expr} {kk : Nat} (hg : Gl X "zip") (hm : X.mg "zip" = none) (ha : PA X [e, e2] (tA X.K X.mg W ma)) (hs : starEach [e, e2] X.env = (false, eval e X.env) :: starEach [e2] X.env) (hpl : (backTo pos (starEach [e2] X.env)).any (·.1) = false) : PI X (.Tuple elts kk tpos) (.Call (.Name "zip" p) [e, e2] [] pos) (tI X.K X.mg W (iZipS ma)) := by
  refine ⟨fun pins s σ H R I h => (pi_zipA hg hm ha hs hpl).run pins s σ H R I ?_⟩
  obtain ⟨t, env, rfl, o, eo, h⟩ := h
  refine RS.go (R := RA X.K X.mg) h o eo fun vs u ds ou lu rv h => ?_
  split at h
  · obtain ⟨v, w, rfl, r1, r2⟩ := two rv
    split at h
    · rename_i xs ys q1 q2
      obtain ⟨u2, a, ws, rfl, eH, o2, eS, l2, sq, rl⟩ := frz_at ou r1 q1
      rw [← eS] at q2 h
      obtain ⟨u3, b, zs, rfl, eH3, o3, eS3, l3, sq3, rl3⟩ := frz_at o2 (r2.le l2) q2
      rw [← eH, ← eH3]
      have sqa : SqL X.K u3.Hf a ws := l3.same.seq sq
      exact ⟨a, b, ws, zs, rfl, .inl ⟨o3.same.seq sqa, o3.same.seq sq3, h _ u3 o3 eS3 (l2.trans l3) (wk_zipL sqa (rl.le l3) sq3 rl3)⟩⟩
    · rename_i xs ys q1 q2
      rw [frzD_tup ou r1 q1] at q2
      obtain ⟨a, ws, rfl, sq1, sq, rl⟩ := rd_tup2 ou r1 q1
      obtain ⟨b, zs, rfl, sq2, sqb, rl2⟩ := rd_tup2 ou r2 q2
      exact ⟨a, b, ws, zs, rfl, .inr ⟨sq1, sq2, h _ u ou rfl (Le.refl u) (wk_zipT sq rl sqb rl2)⟩⟩
    · exact h.elim
  · exact h.elim
end
end T
end S_TLoop
section S_TComp
set_option Elab.async false
set_option linter.all false
set_option maxRecDepth 100000
set_option maxHeartbeats 4000000
namespace T
open PySem L2 PySem.Spec
/-! ### list comprehensions -/
def wipeE (env : Env) : List Nat → Env
  | [] => env
  | v :: vs => (wipeE env vs).set v none
/-- targets: names and tuples of names; what they store -/
inductive Tg where
  | nm (i : Nat)
  | tp (ts : List Nat)
def tgE (env : Env) : Tg → D → Option Env
  | .nm i, d => some (env.set i (some d))
  | .tp ts, .tup ds => if ts.length = ds.length then some ((ts.zip ds).foldl (fun e p => e.set p.1 (some p.2)) env) else none
  | .tp ts, .lst ds => if ts.length = ds.length then some ((ts.zip ds).foldl (fun e p => e.set p.1 (some p.2)) env) else none
  | _, _ => none
/-- one turn behind another: what was made so far is acc -/
def lcGo (t : Tg) (c : SemT) (e : SemE) (env : Env) : List D → List D → Sto → Res (List D)
  | [], acc, S => .ok acc S
  | d :: ds, acc, S => match tgE env t d with
    | none => .bad
    | some env1 => (c env1 S).bind fun b S1 => if b = true then (e env1 S1).bind fun y S2 => if acc.length < lim then lcGo t c e env ds (acc ++ [y]) S2 else .bad else lcGo t c e env ds acc S1
def sLc (vs : List Nat) (i : SemA) (t : Tg) (c : SemT) (e : SemE) : SemE := fun env S => (i env S).bind fun ds S1 => (lcGo t c e (wipeE env vs) ds [] S1).bind fun ys S2 => .ok (.lst ys) S2
def cYes : SemT := fun _ S => .ok true S
section
variable {K : PySem.W.Frag} {mg : Str → Option Value}
theorem EnvOk.wipe {s : Stt} {σ : L2.St} {env : Env} (h : EnvOk K mg s σ env) : ∀ vs : List Nat, EnvOk K mg s (wipe σ vs) (wipeE env vs)
  | [] => h
  | v :: vs => (EnvOk.wipe h vs).clr v
/-- a private object -/
def Stt.prv (s : Stt) (p : Addr) (o : HO) : Stt := { s with H := upd s.H p o }
theorem Ok.prv {s : Stt} (ok : Ok K mg s) {p : Addr} (h1 : s.Hf p = none) (h2 : p ∉ s.ρ) (u : HO) : Ok K mg (s.prv p u) := by
  refine ⟨ok.len, ok.nd, fun b o e => ?_, fun n d a e1 e2 => ?_, ok.fz⟩
  · show upd s.H p u b = some o
    have e : s.Hf b = some o := e
    rw [upd_ne (ne_of_none e h1)]
    exact ok.same _ _ e
  · have ne : a ≠ p := fun z => h2 (z ▸ List.mem_of_getElem? e2)
    obtain ⟨q1, q2⟩ := ok.lv n d a e1 e2
    refine ⟨q1, ?_⟩
    have q3 := CelOk.le (l := []) (Hx' := upd s.H p u) (Same.refl s.Hf) (fun o e => by rw [upd_ne ne]; exact e) q2
    rw [List.append_nil] at q3
    exact q3
/-- from t0, which does not know p -/
theorem Le.prv' {t0 s : Stt} (l : Le t0 s) {p : Addr} (h : t0.H p = none) (u : HO) : Le t0 (s.prv p u) := by
  refine ⟨l.same, l.pre, fun b o e1 e2 e3 => ?_⟩
  obtain ⟨q1, q2, q3⟩ := l.prv b o e1 e2 e3
  refine ⟨?_, q2, q3⟩
  show upd s.H p u b = _
  rw [upd_ne (ne_of_none e1 h)]
  exact q1
/-- the private object is frozen -/
def Stt.pub (s : Stt) (p : Addr) (o : HO) : Stt := { s with Hf := upd s.Hf p o }
theorem Ok.pub {s : Stt} (ok : Ok K mg s) {p : Addr} (h1 : s.Hf p = none) (h2 : p ∉ s.ρ) {u : HO} (hu : s.H p = some u) : Ok K mg (s.pub p u) := by
  have sm : Same s.Hf (upd s.Hf p u) := same_new h1
  refine ⟨ok.len, ok.nd, fun b o e => ?_, fun n d a e1 e2 => ?_, fun n d a e1 e2 => ?_⟩
  · have e : upd s.Hf p u b = some o := e
    by_cases hb : b = p
    · subst hb; rw [upd_same] at e; rw [← e]; exact hu
    · rw [upd_ne hb] at e; exact ok.same _ _ e
  · have ne : a ≠ p := fun z => h2 (z ▸ List.mem_of_getElem? e2)
    obtain ⟨q1, q2⟩ := ok.lv n d a e1 e2
    refine ⟨by show upd s.Hf p u a = none; rw [upd_ne ne]; exact q1, ?_⟩
    have q3 := CelOk.le (l := []) (Hx' := s.H) sm (fun o e => e) q2
    rw [List.append_nil] at q3
    exact q3
  · have q3 := CelOk.le (l := []) (Hx' := upd s.Hf p u) sm (fun o e => sm _ _ e) (ok.fz n d a e1 e2)
    rw [List.append_nil] at q3
    exact q3
theorem Le.pub {t0 s : Stt} (l : Le t0 s) {p : Addr} (h : t0.H p = none) (h1 : s.Hf p = none) (u : HO) : Le t0 (s.pub p u) := by
  refine ⟨l.same.trans (same_new h1), l.pre, fun b o e1 e2 e3 => ?_⟩
  obtain ⟨q1, q2, q3⟩ := l.prv b o e1 e2 e3
  refine ⟨q1, ?_, q3⟩
  show upd s.Hf p u b = _
  rw [upd_ne (ne_of_none e1 h)]
  exact q2
/-! targets -/
def gNs : List Nat → TGs
  | [] => gNil
  | i :: r => gCons (gName i) (gNs r)
/-- (a, b, ..) = a tuple or a list of that length -/
def gTp (K : PySem.W.Frag) (n : Nat) (t : TGs) : TG := fun v σ H Q => gTup K n t v σ H Q ∨ gUnl K n t v σ H Q
theorem pg_tp {X : Cx} {pos : Pos} {es : List Expr} {k : Nat} {t : TGs} {n : Nat} (hc : X.calm = true) (h : PGs X es t)
    (hn : (assignEach es X.env).length = n := by rfl) (hst : (assignEach es X.env).findIdx? (·.1) = none := by rfl) : PG X (.Tuple es k pos) (gTp X.K n t) :=
  ⟨fun pins s σ H v u Q I r hw => hw.elim (fun w => (pg_tup hc h hn hst).run pins s σ H v u Q I r w) (fun w => (pg_unl hc h hn hst).run pins s σ H v u Q I r w)⟩
def gT (K : PySem.W.Frag) : Tg → TG
  | .nm i => gName i
  | .tp ts => gTp K ts.length (gNs ts)
def tgIn : Tg → List Nat → Bool
  | .nm i, vs => vs.contains i
  | .tp ts, vs => ts.all fun i => vs.contains i
theorem wipe_set {σ : L2.St} {i : Nat} {x : Option V} : ∀ {vs : List Nat}, i ∈ vs → wipe (σ.set i x) vs = wipe σ vs
  | v :: vs, h => by
    unfold wipe
    by_cases q : i ∈ vs
    · rw [wipe_set q]
    · have e : i = v := (List.mem_cons.mp h).resolve_right q
      subst e
      have z : wipe (σ.set i x) vs = (wipe σ vs).set i x := by
        clear h
        induction vs with
        | nil => rfl
        | cons w ws ih =>
          rw [List.mem_cons, not_or] at q
          unfold wipe
          rw [ih q.2, List.set_comm _ _ (Ne.symm q.1)]
      rw [z, List.set_set]
theorem wipe_wipe {σ : L2.St} {vs : List Nat} : ∀ {us : List Nat}, (∀ v ∈ us, v ∈ vs) → wipe (wipe σ us) vs = wipe σ vs
  | [], _ => rfl
  | v :: us, h => by
    show wipe ((wipe σ us).set v none) vs = _
    rw [wipe_set (h v (List.mem_cons_self ..)), wipe_wipe fun w hw => h w (List.mem_cons_of_mem _ hw)]
theorem bind_assoc {α β γ : Type} (r : Res α) (k : α → Sto → Res β) (j : β → Sto → Res γ) : (r.bind k).bind j = r.bind fun a S => (k a S).bind j := by cases r <;> rfl
theorem gNs_read {s : Stt} {vs0 : List Nat} {Q : L2.St → Hp → Prop} : ∀ {ts : List Nat} {xs : List V} {ds : List D} {σ : L2.St} {env : Env}, RpL K mg s.Hf s.ρ xs ds → ts.length = ds.length → EnvOk K mg s σ env → (∀ i ∈ ts, i ∈ vs0) →
    (∀ σ1, EnvOk K mg s σ1 ((ts.zip ds).foldl (fun e p => e.set p.1 (some p.2)) env) → wipe σ1 vs0 = wipe σ vs0 → Q σ1 s.H) → gNs ts xs σ s.H Q
  | [], xs, ds, σ, env, r, hl, eo, hv, h => by
    have : ds = [] := List.length_eq_zero_iff.mp hl.symm
    subst this
    cases r
    exact ⟨rfl, h σ eo rfl⟩
  | i :: ts, xs, ds, σ, env, r, hl, eo, hv, h => by
    cases r with
    | nil => cases hl
    | cons h1 h2 =>
      refine ⟨_, _, rfl, ?_⟩
      exact gNs_read h2 (by simpa using hl) (eo.set h1 i) (fun j hj => hv j (List.mem_cons_of_mem _ hj)) fun σ1 e1 w1 => h σ1 e1 (w1.trans (wipe_set (hv i (List.mem_cons_self ..))))
theorem gT_read {s : Stt} {vs0 : List Nat} {t : Tg} (ht : tgIn t vs0 = true) {Q : L2.St → Hp → Prop} {x : V} {d : D} {σ : L2.St} {env env1 : Env} (o : Ok K mg s) (r : Rp K mg s.Hf s.ρ x d) (eo : EnvOk K mg s σ env) (h : tgE env t d = some env1)
    (hq : ∀ σ1, EnvOk K mg s σ1 env1 → wipe σ1 vs0 = wipe σ vs0 → Q σ1 s.H) : gT K t x σ s.H Q := by
  cases t with
  | nm i =>
    simp only [tgE] at h
    injection h with h
    subst h
    exact hq _ (eo.set r i) (wipe_set (by simpa [tgIn] using ht))
  | tp ts =>
    cases d with
    | tup ds =>
      simp only [tgE] at h
      split at h
      · rename_i hl
        injection h with h
        subst h
        cases r with
        | tup h1 h2 =>
          refine .inl ⟨_, _, rfl, sqT_same o.same h1, by rw [h2.length, hl], ?_⟩
          exact gNs_read h2 hl eo (fun i hi => by simpa using (List.all_eq_true.mp ht) i hi) hq
      · cases h
    | lst ds =>
      simp only [tgE] at h
      split at h
      · rename_i hl
        injection h with h
        subst h
        obtain ⟨a, vs, rfl, h1, h2⟩ := rd_lst o r rfl
        refine .inr ⟨_, _, rfl, h1, by rw [h2.length, hl], ?_⟩
        exact gNs_read h2 hl eo (fun i hi => by simpa using (List.all_eq_true.mp ht) i hi) hq
      · cases h
    | _ => simp only [tgE] at h; cases h
end
section
variable {K : PySem.W.Frag} {mg : Str → Option Value} {W : WX}
/-- a part run at u, what is wanted being told from t0 on -/
theorem RS.sub {α β γ δ : Type} {R : Stt → β → α → Prop} {R2 : Stt → δ → γ → Prop} {σ σ2 : L2.St} {Q : δ → Hp → Prop} {t0 u : Stt} {r : Res α} {k : α → Sto → Res γ} {Q' : β → Hp → Prop} (l : Le t0 u) (h : RS K mg R2 W σ Q t0 (r.bind k))
    (hk : ∀ (v : β) (t : Stt) (d : α), Ok K mg t → Le u t → R t v d → RS K mg R2 W σ Q t0 (k d t.S) → Q' v t.H) : RS K mg R (fun c x _ H' => W c x σ H') σ2 Q' u r := by
  cases r with
  | ok d S' =>
    intro v t ot et lt rv
    refine hk v t d ot lt rv ?_
    rw [et]
    exact h
  | exc C fs S' => exact fun c x t ot et lt xr => h c x t ot et (l.trans lt) xr
  | bad => exact h
theorem lc_read {vs : List Nat} {mi : SemA} {t : Tg} (ht : tgIn t vs = true) {c : SemT} {e : SemE} {σ : L2.St} {H : Hp} {Q : VK} (h : tE K mg W (sLc vs mi t c e) σ H Q) :
    tLcX (tI K mg W mi) (fun _ => gT K t) (fun Wb => tT K mg Wb c) (fun Wb => tE K mg Wb e) vs W σ H Q := by
  obtain ⟨s, env, rfl, o, eo, h⟩ := h
  show tI K mg W mi σ s.H _
  refine ⟨s, env, rfl, o, eo, (RS.bind (R := fun t J ds => Wk K mg t J ds) h).imp fun J H1 ⟨t0, ds, e1, o0, l0, wk, h⟩ => ?_⟩
  subst e1
  intro L hL
  obtain ⟨fr1, fr2⟩ := o0.fresh hL
  have ew : EnvOk K mg t0 (wipe σ vs) (wipeE env vs) := (eo.le l0).wipe vs
  refine ⟨fun i m H => ∃ (u : Stt) (ws : List V) (acc rest : List D), u.H = H ∧ Ok K mg u ∧ Le t0 u ∧ u.H L = some (.lst ws) ∧ u.Hf L = none ∧ L ∉ u.ρ ∧ RpL K mg u.Hf u.ρ ws acc ∧ ds.drop i = rest ∧ m = rest.length ∧ i ≤ ds.length ∧
      RS K mg (RE K mg) W σ Q t0 ((lcGo t c e (wipeE env vs) rest acc u.S).bind fun ys S2 => .ok (.lst ys) S2), ⟨ds.length, t0.prv L (.lst []), [], [], ds, rfl, o0.prv fr2 fr1 _, Le.prv' (Le.refl t0) hL _, upd_same, fr2, fr1, .nil, rfl, rfl, Nat.zero_le _, h⟩, ?_⟩
  rintro i m H ⟨u, ws, acc, rest, rfl, ou, lu, hL1, hL2, hL3, rl, hd, rfl, hi, h⟩
  cases rest with
  | nil =>
    have ei : i = ds.length := by
      have := congrArg List.length hd
      simp at this
      omega
    subst ei
    refine .inl ⟨wk.stops u ou lu, ?_⟩
    have h : RS K mg (RE K mg) W σ Q t0 (.ok (.lst acc) u.S) := h
    have rl2 : RpL K mg (upd u.Hf L (.lst ws)) u.ρ ws acc := by
      have := RpL.mono (l := []) (same_new (o := .lst ws) hL2) rl
      rw [List.append_nil] at this
      exact this
    exact h (.ref L) (u.pub L (.lst ws)) (ou.pub hL2 hL3 hL1) rfl (lu.pub hL hL2 _) (.lst upd_same rl2)
  | cons d rest =>
    have hi' : i < ds.length := by
      have := congrArg List.length hd
      simp at this
      omega
    have ed : ds[i]? = some d := by
      have := congrArg (fun l => l[0]?) hd
      simpa using this
    have er : ds.drop (i + 1) = rest := by
      have := congrArg (fun l => l.drop 1) hd
      simpa [Nat.add_comm] using this
    refine .inr ⟨wk.goes i u hi' ou lu, fun H' => ∃ (u : Stt) (ws : List V) (acc : List D), u.H = H' ∧ Ok K mg u ∧ Le t0 u ∧ u.H L = some (.lst ws) ∧ u.Hf L = none ∧ L ∉ u.ρ ∧ RpL K mg u.Hf u.ρ ws acc ∧
      RS K mg (RE K mg) W σ Q t0 ((lcGo t c e (wipeE env vs) rest acc u.S).bind fun ys S2 => .ok (.lst ys) S2), fun H' ⟨u, ws, acc, a1, a2, a3, a4, a5, a6, a7, a8⟩ => ⟨rest.length, by simp, u, ws, acc, rest, a1, a2, a3, a4, a5, a6, a7, er, rfl, hi', a8⟩, fun x H' y => ?_⟩
    obtain ⟨u1, rfl, o1, s1, l1, r1⟩ := wk.yields i u x H' d ed ou lu y
    have k1 := l1.prv L _ hL1 hL2 hL3
    rw [← s1] at h
    unfold lcGo at h
    split at h
    · exact h.elim
    · rename_i env1 et
      refine gT_read (vs0 := vs) ht o1 r1 (ew.le (lu.trans l1)) et fun σ1 eo1 w1 => ⟨w1.trans (wipe_wipe fun _ q => q), ?_⟩
      rw [bind_assoc] at h
      refine ⟨u1, env1, rfl, o1, eo1, RS.sub (R := RT) (lu.trans l1) h fun b u2 b' o2 l2 rb h => ?_⟩
      subst rb
      have k2 := l2.prv L _ k1.1 k1.2.1 k1.2.2
      cases b with
      | false => exact ⟨u2, ws, acc, rfl, o2, (lu.trans l1).trans l2, k2.1, k2.2.1, k2.2.2, (rl.le l1).le l2, h⟩
      | true =>
        have h : RS K mg (RE K mg) W σ Q t0 (((e env1 u2.S).bind fun y S2 => if acc.length < lim then lcGo t c e (wipeE env vs) rest (acc ++ [y]) S2 else .bad).bind fun ys S2 => .ok (.lst ys) S2) := h
        rw [bind_assoc] at h
        refine ⟨u2, env1, rfl, o2, eo1.le l2, RS.sub (R := RE K mg) ((lu.trans l1).trans l2) h fun v u3 dv o3 l3 rv h => ?_⟩
        have k3 := l3.prv L _ k2.1 k2.2.1 k2.2.2
        split at h
        · rename_i hlt
          have rl3 := ((rl.le l1).le l2).le l3
          refine ⟨ws, k3.1, by rw [rl.length]; exact Nat.lt_of_lt_of_le hlt (by decide), u3.prv L (.lst (ws ++ [v])), ws ++ [v], acc ++ [dv], rfl, o3.prv k3.2.1 k3.2.2 _, Le.prv' (((lu.trans l1).trans l2).trans l3) hL _, upd_same, k3.2.1, k3.2.2, rl3.append (.cons rv .nil), h⟩
        · exact h.elim

/-- no exception is looked for -/
def noX {α : Type} : Res α → Res α
  | .exc _ _ _ => .bad
  | r => r
def lcGoB (t : Tg) (c : SemT) (e : SemE) (env : Env) : List D → List D → Sto → Res (List D)
  | [], acc, S => .ok acc S
  | d :: ds, acc, S => match tgE env t d with
    | none => .bad
    | some env1 => (noX (c env1 S)).bind fun b S1 => if b = true then (noX (e env1 S1)).bind fun y S2 => if acc.length < lim then lcGoB t c e env ds (acc ++ [y]) S2 else .bad else lcGoB t c e env ds acc S1
def sLcB (vs : List Nat) (i : SemA) (t : Tg) (c : SemT) (e : SemE) : SemE := fun env S => (i env S).bind fun ds S1 => (lcGoB t c e (wipeE env vs) ds [] S1).bind fun ys S2 => .ok (.lst ys) S2
theorem RS.subB {α β γ δ : Type} {R : Stt → β → α → Prop} {R2 : Stt → δ → γ → Prop} {σ σ2 : L2.St} {Q : δ → Hp → Prop} {t0 u : Stt} {r : Res α} {k : α → Sto → Res γ} {Q' : β → Hp → Prop} (l : Le t0 u) (h : RS K mg R2 W σ Q t0 ((noX r).bind k))
    (hk : ∀ (v : β) (t : Stt) (d : α), Ok K mg t → Le u t → R t v d → RS K mg R2 W σ Q t0 (k d t.S) → Q' v t.H) : RS K mg R (fun _ _ _ _ => False) σ2 Q' u r := by
  cases r with
  | ok d S' =>
    intro v t ot et lt rv
    refine hk v t d ot lt rv ?_
    rw [et]
    exact h
  | exc C fs S' => exact h.elim
  | bad => exact h
theorem lc_readB {vs : List Nat} {mi : SemA} {t : Tg} (ht : tgIn t vs = true) {c : SemT} {e : SemE} {σ : L2.St} {H : Hp} {Q : VK} (h : tE K mg W (sLcB vs mi t c e) σ H Q) :
    tLc (tI K mg W mi) (gT K t) (tT K mg (fun _ _ _ _ => False) c) (tE K mg (fun _ _ _ _ => False) e) vs σ H Q := by
  obtain ⟨s, env, rfl, o, eo, h⟩ := h
  show tI K mg W mi σ s.H _
  refine ⟨s, env, rfl, o, eo, (RS.bind (R := fun t J ds => Wk K mg t J ds) h).imp fun J H1 ⟨t0, ds, e1, o0, l0, wk, h⟩ => ?_⟩
  subst e1
  intro L hL
  obtain ⟨fr1, fr2⟩ := o0.fresh hL
  have ew : EnvOk K mg t0 (wipe σ vs) (wipeE env vs) := (eo.le l0).wipe vs
  refine ⟨fun i m H => ∃ (u : Stt) (ws : List V) (acc rest : List D), u.H = H ∧ Ok K mg u ∧ Le t0 u ∧ u.H L = some (.lst ws) ∧ u.Hf L = none ∧ L ∉ u.ρ ∧ RpL K mg u.Hf u.ρ ws acc ∧ ds.drop i = rest ∧ m = rest.length ∧ i ≤ ds.length ∧
      RS K mg (RE K mg) W σ Q t0 ((lcGoB t c e (wipeE env vs) rest acc u.S).bind fun ys S2 => .ok (.lst ys) S2), ⟨ds.length, t0.prv L (.lst []), [], [], ds, rfl, o0.prv fr2 fr1 _, Le.prv' (Le.refl t0) hL _, upd_same, fr2, fr1, .nil, rfl, rfl, Nat.zero_le _, h⟩, ?_⟩
  rintro i m H ⟨u, ws, acc, rest, rfl, ou, lu, hL1, hL2, hL3, rl, hd, rfl, hi, h⟩
  cases rest with
  | nil =>
    have ei : i = ds.length := by
      have := congrArg List.length hd
      simp at this
      omega
    subst ei
    refine .inl ⟨wk.stops u ou lu, ?_⟩
    have h : RS K mg (RE K mg) W σ Q t0 (.ok (.lst acc) u.S) := h
    have rl2 : RpL K mg (upd u.Hf L (.lst ws)) u.ρ ws acc := by
      have := RpL.mono (l := []) (same_new (o := .lst ws) hL2) rl
      rw [List.append_nil] at this
      exact this
    exact h (.ref L) (u.pub L (.lst ws)) (ou.pub hL2 hL3 hL1) rfl (lu.pub hL hL2 _) (.lst upd_same rl2)
  | cons d rest =>
    have hi' : i < ds.length := by
      have := congrArg List.length hd
      simp at this
      omega
    have ed : ds[i]? = some d := by
      have := congrArg (fun l => l[0]?) hd
      simpa using this
    have er : ds.drop (i + 1) = rest := by
      have := congrArg (fun l => l.drop 1) hd
      simpa [Nat.add_comm] using this
    refine .inr ⟨wk.goes i u hi' ou lu, fun H' => ∃ (u : Stt) (ws : List V) (acc : List D), u.H = H' ∧ Ok K mg u ∧ Le t0 u ∧ u.H L = some (.lst ws) ∧ u.Hf L = none ∧ L ∉ u.ρ ∧ RpL K mg u.Hf u.ρ ws acc ∧
      RS K mg (RE K mg) W σ Q t0 ((lcGoB t c e (wipeE env vs) rest acc u.S).bind fun ys S2 => .ok (.lst ys) S2), fun H' ⟨u, ws, acc, a1, a2, a3, a4, a5, a6, a7, a8⟩ => ⟨rest.length, by simp, u, ws, acc, rest, a1, a2, a3, a4, a5, a6, a7, er, rfl, hi', a8⟩, fun x H' y => ?_⟩
    obtain ⟨u1, rfl, o1, s1, l1, r1⟩ := wk.yields i u x H' d ed ou lu y
    have k1 := l1.prv L _ hL1 hL2 hL3
    rw [← s1] at h
    unfold lcGoB at h
    split at h
    · exact h.elim
    · rename_i env1 et
      refine gT_read (vs0 := vs) ht o1 r1 (ew.le (lu.trans l1)) et fun σ1 eo1 w1 => ⟨w1.trans (wipe_wipe fun _ q => q), ?_⟩
      rw [bind_assoc] at h
      refine ⟨u1, env1, rfl, o1, eo1, RS.subB (R := RT) (lu.trans l1) h fun b u2 b' o2 l2 rb h => ?_⟩
      subst rb
      have k2 := l2.prv L _ k1.1 k1.2.1 k1.2.2
      cases b with
      | false => exact ⟨u2, ws, acc, rfl, o2, (lu.trans l1).trans l2, k2.1, k2.2.1, k2.2.2, (rl.le l1).le l2, h⟩
      | true =>
        have h : RS K mg (RE K mg) W σ Q t0 (((noX (e env1 u2.S)).bind fun y S2 => if acc.length < lim then lcGoB t c e (wipeE env vs) rest (acc ++ [y]) S2 else .bad).bind fun ys S2 => .ok (.lst ys) S2) := h
        rw [bind_assoc] at h
        refine ⟨u2, env1, rfl, o2, eo1.le l2, RS.subB (R := RE K mg) ((lu.trans l1).trans l2) h fun v u3 dv o3 l3 rv h => ?_⟩
        have k3 := l3.prv L _ k2.1 k2.2.1 k2.2.2
        split at h
        · rename_i hlt
          have rl3 := ((rl.le l1).le l2).le l3
          refine ⟨ws, k3.1, by rw [rl.length]; exact Nat.lt_of_lt_of_le hlt (by decide), u3.prv L (.lst (ws ++ [v])), ws ++ [v], acc ++ [dv], rfl, o3.prv k3.2.1 k3.2.2 _, Le.prv' (((lu.trans l1).trans l2).trans l3) hL _, upd_same, k3.2.1, k3.2.2, rl3.append (.cons rv .nil), h⟩
        · exact h.elim
end
/-! the rules -/
section
variable {X : Cx} {W : WX} {elt tg iter : Expr} {ifs : List Expr} {scope : Scope} {own : List (Str × Nat)} {pos : Pos} {mi : SemA} {t : Tg} {c : SemT} {e : SemE}
theorem kNil : PTs X [] (tT X.K X.mg W cYes) := ⟨fun pins s σ H Q I h => pts_nil.run pins s σ H Q I (by
  obtain ⟨t, env, rfl, o, eo, h⟩ := h
  exact h true t o rfl (Le.refl t) rfl)⟩
theorem kOne {a : Expr} (h : PT X a (tT X.K X.mg W c)) : PTs X [a] (tT X.K X.mg W c) := pts_one h
theorem xLc (hst : X.stack = X.env :: X.outer) (hfm : X.env.frame = some X.env.locals) (tk : Takes X W) (hc : X.calm = true) (hN : X.N.Nodup) (hi : PI X tg iter (tI X.K X.mg W mi)) (ok : BlkOk X.N X.env.scope scope own) (hin : tgIn t (own.map (·.2)) = true)
    (hg : ∀ (s : Shared) (H : Hp) (C : Addr) (cl : List (Str × Addr)) (fp : List Addr) (xe : Value → Shared → Prop), PG ((X.blk s H scope (compEnvC scope cl C X.env) fp).wish xe) tg (gT X.K t))
    (ht : ∀ (s : Shared) (H : Hp) (C : Addr) (cl : List (Str × Addr)) (fp : List Addr) (xe : Value → Shared → Prop) (Wb : WX), Psg ((X.blk s H scope (compEnvC scope cl C X.env) fp).wish xe) Wb → PTs ((X.blk s H scope (compEnvC scope cl C X.env) fp).wish xe) ifs (tT X.K X.mg Wb c))
    (he : ∀ (s : Shared) (H : Hp) (C : Addr) (cl : List (Str × Addr)) (fp : List Addr) (xe : Value → Shared → Prop) (Wb : WX), Psg ((X.blk s H scope (compEnvC scope cl C X.env) fp).wish xe) Wb → PE ((X.blk s H scope (compEnvC scope cl C X.env) fp).wish xe) elt (tE X.K X.mg Wb e))
    (hs : ∀ x, foldedSetIterable iter X.env x = pure x) : PE X (.ListComp elt [⟨tg, iter, ifs, 0⟩] scope pos) (tE X.K X.mg W (sLc (own.map (·.2)) mi t c e)) := by
  refine ⟨fun pins s σ H Q I h => ?_⟩
  rw [eval_ListComp]
  refine lc_coreX hst hfm tk hc hN I hi ok (fun s H C cl fp xe _ _ => hg s H C cl fp xe) ht he hs (lc_read hin h) fun L C z m H' I' q hn f => ⟨m, hn, fun h'' sb => ?_⟩
  obtain ⟨f0, f1, f2, f3, f4, f5⟩ := f
  exact ⟨.ref L, H', I'.turned (t' := z.toks) (fun b o hb e => (sb.2 b hb).trans e) f0 f1 f3 f4 f5, rfl, q⟩
theorem psg0 {X : Cx} : Psg X (fun _ _ _ _ => False) := fun σ pins H s e z I c => by
  obtain ⟨_, _, _, _, _, _, _, _, _, _, _, _, q⟩ := c
  exact q.elim
theorem xLcB (hc : X.calm = true) (hN : X.N.Nodup) (hi : PI X tg iter (tI X.K X.mg W mi)) (ok : BlkOk X.N X.env.scope scope own) (hin : tgIn t (own.map (·.2)) = true)
    (hg : ∀ (s : Shared) (H : Hp) (C : Addr) (cl : List (Str × Addr)) (fp : List Addr), PG (X.blk s H scope (compEnvC scope cl C X.env) fp) tg (gT X.K t))
    (ht : ∀ (s : Shared) (H : Hp) (C : Addr) (cl : List (Str × Addr)) (fp : List Addr), Psg (X.blk s H scope (compEnvC scope cl C X.env) fp) (fun _ _ _ _ => False) → PTs (X.blk s H scope (compEnvC scope cl C X.env) fp) ifs (tT X.K X.mg (fun _ _ _ _ => False) c))
    (he : ∀ (s : Shared) (H : Hp) (C : Addr) (cl : List (Str × Addr)) (fp : List Addr), Psg (X.blk s H scope (compEnvC scope cl C X.env) fp) (fun _ _ _ _ => False) → PE (X.blk s H scope (compEnvC scope cl C X.env) fp) elt (tE X.K X.mg (fun _ _ _ _ => False) e))
    (hs : ∀ x, foldedSetIterable iter X.env x = pure x) : PE X (.ListComp elt [⟨tg, iter, ifs, 0⟩] scope pos) (tE X.K X.mg W (sLcB (own.map (·.2)) mi t c e)) :=
  (pe_lc hc hN hi ok hg (fun s H C cl fp => ht s H C cl fp psg0) (fun s H C cl fp => he s H C cl fp psg0) hs).mono fun σ H Q h => lc_readB hin h
/-- name = [..] -/
theorem ySetLc {i : Nat} {y : Str} {py spos : Pos} (hst : X.stack = X.env :: X.outer) (hfm : X.env.frame = some X.env.locals) (tk : Takes X W) (hc : X.calm = true) (hN : X.N.Nodup) (hy : X.N[i]? = some y) (hyl : X.env.scope.names.lookup y = some .local)
    (hsw : swapsWith (.ListComp elt [⟨tg, iter, ifs, 0⟩] scope pos) (some (.Name y py)) spos.line X.env = pure true) (hi : PI X tg iter (tI X.K X.mg W mi)) (ok : BlkOk X.N X.env.scope scope own) (hin : tgIn t (own.map (·.2)) = true)
    (hg : ∀ (s : Shared) (H : Hp) (C : Addr) (cl : List (Str × Addr)) (fp : List Addr) (xe : Value → Shared → Prop), PG ((X.blk s H scope (compEnvC scope cl C X.env) fp).wish xe) tg (gT X.K t))
    (ht : ∀ (s : Shared) (H : Hp) (C : Addr) (cl : List (Str × Addr)) (fp : List Addr) (xe : Value → Shared → Prop) (Wb : WX), Psg ((X.blk s H scope (compEnvC scope cl C X.env) fp).wish xe) Wb → PTs ((X.blk s H scope (compEnvC scope cl C X.env) fp).wish xe) ifs (tT X.K X.mg Wb c))
    (he : ∀ (s : Shared) (H : Hp) (C : Addr) (cl : List (Str × Addr)) (fp : List Addr) (xe : Value → Shared → Prop) (Wb : WX), Psg ((X.blk s H scope (compEnvC scope cl C X.env) fp).wish xe) Wb → PE ((X.blk s H scope (compEnvC scope cl C X.env) fp).wish xe) elt (tE X.K X.mg Wb e))
    (hs : ∀ x, foldedSetIterable iter X.env x = pure x) : PS X (.Assign [.Name y py] (.ListComp elt [⟨tg, iter, ifs, 0⟩] scope pos) spos) (tS X.K X.mg W (sAsg (sLc (own.map (·.2)) mi t c e) (gN i))) := by
  refine ⟨fun pins s σ H D I h => ?_⟩
  rw [exec_Assign_Name_used _ _ _ _ hsw]
  have h2 : tE X.K X.mg W (sLc (own.map (·.2)) mi t c e) σ H (fun x H1 => D.nx (σ.set i (some x)) H1) := by
    obtain ⟨u, env, rfl, o, eo, h⟩ := h
    exact RSS.go (R := RE X.K X.mg) h o eo fun v u2 d o2 l2 rv h => h _ u2 o2 rfl (Le.refl u2) ((eo.le l2).set rv i)
  refine wpAny_bind (wpAny_standAt (wpAny_bind ?_))
  show wpAny _ X.A (do let _ ← comprehension (.ListComp elt [⟨tg, iter, ifs, 0⟩] scope pos) scope X.env (firstIterPos [⟨tg, iter, ifs, 0⟩] pos) (newList []) false (eval iter X.env) (some (assign (.Name y py) X.env))) _ _ s
  refine wpAny_bind (thn (lc_coreX (Qf := fun _ z => SP X pins D .next z) hst hfm tk hc hN I hi ok (fun s H C cl fp xe _ _ => hg s H C cl fp xe) ht he hs (lc_read hin h2) fun L C z m H' I' q hn f => ?_) fun _ z hq => wpAny_pure (wpAny_pure hq))
  show wpAny _ _ (assign (.Name y py) X.env (.ref L)) _ _ _
  refine wpAny_assign_Name (store_ok2 (v := V.ref L) I' hN hy (.inl hyl) rfl (fun z2 I2 ⟨a, sb, ha⟩ => ?_) (.inr hyl))
  obtain ⟨f0, f1, f2, f3, f4, f5⟩ := f
  have hne : C ≠ a := by
    rcases ha with w | w
    · rw [w]; exact f1
    · exact fun q => f4 y a w q.symm
  refine ⟨m, hn.sameBut sb hne, fun h3 sb3 => ⟨_, H', I2.turned (t' := z2.toks) (fun b o hb q => (sb3.2 b hb).trans q) f0 f1 f3 f4 f5, q⟩⟩
end
end T
end S_TComp
section S_TFor
set_option Elab.async false
set_option linter.all false
set_option maxRecDepth 100000
set_option maxHeartbeats 4000000
namespace T
open PySem L2
def forGo (t : Tg) (b : SemS) : List D → Env → Sto → ResS
  | [], env, S => .nx env S
  | d :: ds, env, S => match tgE env t d with
    | none => .bad
    | some env1 => match b env1 S with
      | .nx env2 S2 => forGo t b ds env2 S2
      | .ct env2 S2 => forGo t b ds env2 S2
      | .bk env2 S2 => .nx env2 S2
      | .rt d S2 => .rt d S2
      | .exc C fs env2 S2 => .exc C fs env2 S2
      | .bad => .bad
def sFor (i : SemA) (t : Tg) (b : SemS) : SemS := fun env S => ofE (i env S) env fun ds S1 => forGo t b ds env S1
def whGo (c : SemT) (b : SemS) : Nat → Env → Sto → ResS
  | 0, _, _ => .bad
  | n + 1, env, S => ofE (c env S) env fun q S1 => if q = true then (match b env S1 with
      | .nx env2 S2 => whGo c b n env2 S2
      | .ct env2 S2 => whGo c b n env2 S2
      | .bk env2 S2 => .nx env2 S2
      | .rt d S2 => .rt d S2
      | .exc C fs env2 S2 => .exc C fs env2 S2
      | .bad => .bad) else .nx env S1
def sWhile (n : Nat) (c : SemT) (b : SemS) : SemS := whGo c b n
def gTg (t : Tg) : SemG := fun d env S => match tgE env t d with
  | some env1 => .nx env1 S
  | none => .bad
def tgSlots : Tg → List Nat
  | .nm i => [i]
  | .tp ts => ts
theorem tgIn_self (t : Tg) : tgIn t (tgSlots t) = true := by
  cases t with
  | nm i => simp [tgIn, tgSlots]
  | tp ts => simp [tgIn, tgSlots]
section
variable {K : PySem.W.Frag} {mg : Str → Option Value} {W : WX}
theorem for_read {mi : SemA} {t : Tg} {b : SemS} {D : Ends} {σ : L2.St} {H : Hp} (h : tS K mg W (sFor mi t b) D σ H) : tFor (tI K mg W mi) (gT K t) (tS K mg W b) D σ H := by
  obtain ⟨s, env, rfl, o, eo, h⟩ := h
  show tI K mg W mi σ s.H _
  refine RSS.go (R := fun t J ds => Wk K mg t J ds) h o eo fun J t0 ds o0 l0 wk h => ?_
  refine ⟨fun i m σ H => ∃ (u : Stt) (env : Env) (rest : List T.D), u.H = H ∧ Ok K mg u ∧ Le t0 u ∧ EnvOk K mg u σ env ∧ ds.drop i = rest ∧ m = rest.length ∧ i ≤ ds.length ∧ RSS K mg W D u (forGo t b rest env u.S), ⟨ds.length, t0, env, ds, rfl, o0, Le.refl t0, eo.le l0, rfl, rfl, Nat.zero_le _, h⟩, ?_⟩
  rintro i m σ H ⟨u, env, rest, rfl, ou, lu, eu, hd, rfl, hi, h⟩
  cases rest with
  | nil =>
    have ei : i = ds.length := by
      have := congrArg List.length hd
      simp at this
      omega
    subst ei
    exact .inl ⟨wk.stops u ou lu, h σ u ou rfl (Le.refl u) eu⟩
  | cons d rest =>
    have hi' : i < ds.length := by
      have := congrArg List.length hd
      simp at this
      omega
    have ed : ds[i]? = some d := by
      have := congrArg (fun l => l[0]?) hd
      simpa using this
    have er : ds.drop (i + 1) = rest := by
      have := congrArg (fun l => l.drop 1) hd
      simpa [Nat.add_comm] using this
    refine .inr ⟨wk.goes i u hi' ou lu, fun σ' H' => ∃ (u : Stt) (env : Env), u.H = H' ∧ Ok K mg u ∧ Le t0 u ∧ EnvOk K mg u σ' env ∧ RSS K mg W D u (forGo t b rest env u.S), fun σ' H' ⟨u, env, a1, a2, a3, a4, a5⟩ => ⟨rest.length, by simp, u, env, rest, a1, a2, a3, a4, er, rfl, hi', a5⟩, fun x H' y => ?_⟩
    obtain ⟨u1, rfl, o1, s1, l1, r1⟩ := wk.yields i u x H' d ed ou lu y
    rw [← s1] at h
    have h := RSS.le l1 h
    unfold forGo at h
    split at h
    · exact h.elim
    · rename_i env1 et
      refine gT_read (tgIn_self t) o1 r1 (eu.le l1) et fun σ1 eo1 _ => ⟨u1, env1, rfl, o1, eo1, ?_⟩
      cases q : b env1 u1.S with
      | nx env2 S2 =>
        rw [q] at h
        intro σ2 u2 o2 e2 l2 eo2
        refine ⟨u2, env2, rfl, o2, (lu.trans l1).trans l2, eo2, ?_⟩
        rw [e2]
        exact RSS.le l2 h
      | ct env2 S2 =>
        rw [q] at h
        intro σ2 u2 o2 e2 l2 eo2
        refine ⟨u2, env2, rfl, o2, (lu.trans l1).trans l2, eo2, ?_⟩
        rw [e2]
        exact RSS.le l2 h
      | bk env2 S2 => rw [q] at h; exact h
      | rt d S2 => rw [q] at h; exact h
      | exc C fs env2 S2 => rw [q] at h; exact h
      | bad => rw [q] at h; exact h
theorem while_read {n : Nat} {c : SemT} {b : SemS} {D : Ends} {σ : L2.St} {H : Hp} (h : tS K mg W (sWhile n c b) D σ H) : tWhile (tT K mg W c) (tS K mg W b) D σ H := by
  obtain ⟨s, env, rfl, o, eo, h⟩ := h
  refine ⟨fun m σ H => ∃ (u : Stt) (env : Env), u.H = H ∧ Ok K mg u ∧ EnvOk K mg u σ env ∧ RSS K mg W D u (whGo c b m env u.S), ⟨n, s, env, rfl, o, eo, h⟩, ?_⟩
  rintro m σ H ⟨u, env, rfl, ou, eu, h⟩
  cases m with
  | zero => exact h.elim
  | succ m =>
    refine RSS.go (R := RT) h ou eu fun v u1 d o1 l1 rv h => ?_
    subst rv
    cases v with
    | false => exact h σ u1 o1 rfl (Le.refl u1) (eu.le l1)
    | true =>
      refine ⟨fun σ' H' => ∃ (u : Stt) (env : Env), u.H = H' ∧ Ok K mg u ∧ EnvOk K mg u σ' env ∧ RSS K mg W D u (whGo c b m env u.S), fun σ' H' ⟨u, env, a⟩ => ⟨m, Nat.lt_succ_self m, u, env, a⟩, u1, env, rfl, o1, eu.le l1, ?_⟩
      rw [if_pos rfl] at h
      cases q : b env u1.S with
      | nx env2 S2 =>
        rw [q] at h
        intro σ2 u2 o2 e2 l2 eo2
        refine ⟨u2, env2, rfl, o2, eo2, ?_⟩
        rw [e2]
        exact RSS.le l2 h
      | ct env2 S2 =>
        rw [q] at h
        intro σ2 u2 o2 e2 l2 eo2
        refine ⟨u2, env2, rfl, o2, eo2, ?_⟩
        rw [e2]
        exact RSS.le l2 h
      | bk env2 S2 => rw [q] at h; exact h
      | rt d S2 => rw [q] at h; exact h
      | exc C fs env2 S2 => rw [q] at h; exact h
      | bad => rw [q] at h; exact h
end
section
variable {X : Cx} {W : WX} {tg iter c e : Expr} {body : List Stmt} {pos : Pos} {mi : SemA} {t : Tg} {mb : SemS} {mc : SemT} {m : SemE}
theorem yFor (hp : PassesOwn (model X.prog X.w) X.A X.env X.xe) (hc : X.calm = true) (hi : PI X tg iter (tI X.K X.mg W mi)) (hg : PG X tg (gT X.K t)) (hb : PSs X body (tS X.K X.mg W mb)) (hs : ∀ x, foldedSetIterable iter X.env x = pure x) :
    PS X (.For tg iter body [] pos) (tS X.K X.mg W (sFor mi t mb)) := (ps_for hp hc hi hg hb hs).mono fun _ _ _ h => for_read h
theorem yWhile {n : Nat} (hp : PassesOwn (model X.prog X.w) X.A X.env X.xe) (hc : PT X c (tT X.K X.mg W mc)) (hb : PSs X body (tS X.K X.mg W mb)) : PS X (.While c body [] pos) (tS X.K X.mg W (sWhile n mc mb)) := (ps_while hp hc hb).mono fun _ _ _ h => while_read h
theorem yBreak : PS X (.Break pos) (tS X.K X.mg W fun env S => .bk env S) := ps_break.mono fun D σ H ⟨s, env, e1, e2, e3, e4⟩ => by
  subst e1
  exact e4 σ s e2 rfl (Le.refl s) e3
theorem yCont : PS X (.Continue pos) (tS X.K X.mg W fun env S => .ct env S) := ps_continue.mono fun D σ H ⟨s, env, e1, e2, e3, e4⟩ => by
  subst e1
  exact e4 σ s e2 rfl (Le.refl s) e3
/-- any target of names -/
theorem yAsg (he : PE X e (tE X.K X.mg W m)) (hg : PG X tg (gT X.K t)) (hs : swapsWithSole [tg] e pos.line X.env = pure false) (hw : swappedStores [tg] e X.env = pure none) (h1 : (assignEach [tg] X.env).map (·.2) = [assign tg X.env]) :
    PS X (.Assign [tg] e pos) (tS X.K X.mg W (sAsg m (gTg t))) := (ps_asg he hg hs hw h1).mono fun D σ H h => by
  obtain ⟨s, env, rfl, o, eo, h⟩ := h
  refine RSS.go (R := RE X.K X.mg) h o eo fun v u d ou lu rv h => ?_
  unfold gTg at h
  split at h
  · rename_i env1 et
    exact gT_read (tgIn_self t) ou rv (eo.le lu) et fun σ1 e1 _ => h σ1 u ou rfl (Le.refl u) e1
  · exact h.elim
/-- a, b = e1, e2 of two local names -/
theorem yPar {i j : Nat} {x y : Str} {a b : Expr} {ma : SemA} {px py pt : Pos} {kt k2 pt2} (hc : X.calm = true) (hN : X.N.Nodup) (hi : X.N[i]? = some x) (hj : X.N[j]? = some y) (hij : i ≠ j)
    (hx : X.env.scope.names.lookup x = some .local) (hy : X.env.scope.names.lookup y = some .local) (ha : PA X [a, b] (tA X.K X.mg W ma))
    (hw : swappedStores [.Tuple [.Name x px, .Name y py] kt pt] (.Tuple [a, b] k2 pt2) X.env = pure (some [x, y])) (hs : swapsWithSole [.Tuple [.Name x px, .Name y py] kt pt] (.Tuple [a, b] k2 pt2) pos.line X.env = pure false) :
    PS X (.Assign [.Tuple [.Name x px, .Name y py] kt pt] (.Tuple [a, b] k2 pt2) pos) (tS X.K X.mg W (sAsg (sTup ma) (gTg (.tp [i, j])))) := (ps_par hc hN hi hj hij hx hy ha hw hs).mono fun D σ H h => by
  obtain ⟨s, env, rfl, o, eo, h⟩ := h
  refine ⟨s, env, rfl, o, eo, ?_⟩
  unfold sAsg sTup at h
  cases q : ma env s.S with
  | ok ds S1 =>
    rw [q] at h
    intro vs u ou eu lu rv
    have h := RSS.le lu h
    dsimp only [Res.bind, ofE] at h
    split at h
    · rename_i d S2 e2
      split at e2
      · injection e2 with e2 e3
        subst e2 e3
        unfold gTg at h
        split at h
        · rename_i env1 et
          simp only [tgE] at et
          split at et
          · rename_i hl
            injection et with et
            subst et
            match ds, hl, rv with
            | [d1, d2], _, rv =>
              obtain ⟨v, w, rfl, r1, r2⟩ := two rv
              exact ⟨v, w, rfl, h _ u ou eu (Le.refl u) (((eo.le lu).set r1 i).set r2 j)⟩
          · cases et
        · exact h.elim
      · cases e2
    · rename_i e2
      split at e2 <;> cases e2
    · exact h.elim
  | exc C fs S1 => rw [q] at h; exact fun c x u ou eu lu xr => h c x σ u ou eu lu (eo.le lu) xr
  | bad => rw [q] at h; exact h
/-- o[i] = e, a list's item -/
def gIx (o i : SemE) : SemG := fun d env S => ofE (o env S) env fun x S1 => ofE (i env S1) env fun k S2 => match x, k with
  | .cell n, .int j => (match S2[n]? with
    | some (.lv (.lst xs)) => (match ixN xs.length j with
      | some p => .nx env (S2.set n (.lv (.lst (xs.set p d))))
      | none => .bad)
    | _ => .bad)
  | _, _ => .bad
theorem yPut {o i : Expr} {mo mi : SemE} {p2 : Pos} (he : PE X e (tE X.K X.mg W m)) (ho : PE X o (tE X.K X.mg W mo)) (hi : PE X i (tE X.K X.mg W mi)) (hg : PG X (.Subscript o i p2) (gSub (tE X.K X.mg W mo) (tE X.K X.mg W mi) rSetL))
    (hs : swapsWithSole [.Subscript o i p2] e pos.line X.env = pure false) (hw : swappedStores [.Subscript o i p2] e X.env = pure none) (h1 : (assignEach [.Subscript o i p2] X.env).map (·.2) = [assign (.Subscript o i p2) X.env]) :
    PS X (.Assign [.Subscript o i p2] e pos) (tS X.K X.mg W (sAsg m (gIx mo mi))) := (ps_asg he hg hs hw h1).mono fun D σ H h => by
  obtain ⟨s, env, rfl, o, eo, h⟩ := h
  refine RSS.go (R := RE X.K X.mg) h o eo fun v u d ou lu rv h => ?_
  refine RSS.go (R := RE X.K X.mg) h ou (eo.le lu) fun x u2 dx o2 l2 rx h => ?_
  refine RSS.go (R := RE X.K X.mg) h o2 ((eo.le lu).le l2) fun k u3 dk o3 l3 rk h => ?_
  split at h
  · rename_i n j
    split at h
    · rename_i xs e1
      split at h
      · rename_i p e2
        obtain ⟨a, ws, rfl, h1, h2, r2⟩ := cell_lst o3 (rx.le l3) e1
        cases rk
        have rv3 := (rv.le l2).le l3
        refine ⟨a, ws, _, p, rfl, rfl, h2, by rw [r2.length]; exact e2, ?_⟩
        exact h σ (u3.put _ a (.lst (ws.set p v)) (.lst (xs.set p d))) (o3.put e1 h1 ⟨_, upd_same, r2.set rv3 p⟩) rfl (Le.put h1) (((eo.le (lu.trans l2)).le l3).le (Le.put h1))
      · exact h.elim
    · exact h.elim
  · exact h.elim
end
end T
end S_TFor
section S_TTry
set_option Elab.async false
set_option linter.all false
set_option maxRecDepth 100000
set_option maxHeartbeats 4000000
namespace T
open PySem L2 PySem.Spec
/-! ### an object that was not looked at is tracked -/
section
variable {X : Cx} {pins : List (Addr × Obj)} {σ : L2.St} {H : Hp} {s : Shared}
theorem inv_track {a : Addr} {φ : Heap → Prop} (I : Inv X pins σ H s) (ha : H a = none) (h0 : X.s_0.heap.get? a = none) (nL : a ≠ X.env.locals) (nC : ∀ x c, X.env.cells.lookup x = some c → c ≠ a) (nP : ∀ p ∈ X.pn ++ pins, p.1 ≠ a)
    (ok : ObjOk X.prog X.w (upd H a (.ext φ)) s.heap a (.ext φ)) : Inv X pins σ (upd H a (.ext φ)) s := by
  have keep : ∀ b o, H b = some o → upd H a (.ext φ) b = some o := fun b o e => by rw [upd_ne (ne_of_none e ha)]; exact e
  refine ⟨I.ok, I.os, I.bare, ⟨I.base.keep, I.base.slot, fun b o e n hx => ?_, I.base.there, fun b xs e => keep _ _ (I.base.tups b xs e), fun b o u e => keep _ _ (I.base.frzs b o u e), fun b ps e => ?_⟩, I.loc, I.cell, ?_, fun x c e => ?_, fun p hp => ?_, fun b o e => ?_, I.len⟩
  · have ne : b ≠ a := fun z => by rw [z, h0] at e; cases e
    rw [upd_ne ne]
    exact I.base.free b o e n hx
  · obtain ⟨more, q⟩ := I.base.tbls b ps e
    exact ⟨more, keep _ _ q⟩
  · rw [upd_ne (Ne.symm nL)]; exact I.free
  · rw [upd_ne (nC x c e)]; exact I.freeC x c e
  · obtain ⟨p1, p2, p3⟩ := I.pin p hp
    exact ⟨p1, by rw [upd_ne (nP p hp)]; exact p2, p3⟩
  · by_cases hb : b = a
    · subst hb
      rw [upd_same] at e
      cases e
      exact ok
    · rw [upd_ne hb] at e
      exact (I.hok b o e).stay (fun _ _ _ q => q) (fun c q => keep _ _ q) fun c xs q => keep _ _ q
end
/-- the suite of an except clause; the exception is tracked -/
abbrev _root_.L2.Cx.suiteK (X : Cx) (a : Addr) : Cx := { X with A := X.A.mark (some (.ref a)), calm := false, xe := fun _ _ => False }
def wAsK (K : PySem.W.Frag) (c : Value) (i : Nat) (ts : TS) (Wout : WX) (D : Ends) : WX := fun cls d σ H =>
  ∃ b, PySem.W.exmOne K cls c = some b ∧ (b = true → ∀ a, H a = none → ts { nx := fun σ' H' => D.nx (σ'.set i none) H', rt := D.rt, bk := fun σ' H' => D.bk (σ'.set i none) H', ct := fun σ' H' => D.ct (σ'.set i none) H' } (σ.set i (some (.ref a))) (upd H a (XO cls d a))) ∧
    (b = false → Wout cls d σ H)
section
variable {X : Cx} {x n : Str} {c : Value} {i : Nat} {body suite : List Stmt} {b0 : Stmt} {np pos pos' : Pos} {tb : WX → TS} {ts : TS} {Wout : WX}
theorem suiteK_ok (ok : X.Ok) (a : Addr) : (X.suiteK a).Ok :=
  ⟨ok.mod, ok.kind, ok.glob, ok.blt, ok.above, ok.inj, ok.has, ok.cab, (fun w => absurd (show false = true from w) Bool.false_ne_true), ok.frames, ok.stk, ok.exf, ok.bs, ok.bsz, ok.noex, ok.exfs, ok.funs, ok.frf⟩
theorem inv_suiteK {pins : List (Addr × Obj)} {σ : L2.St} {H : Hp} {s : Shared} (I : Inv X pins σ H s) (a : Addr) : Inv (X.suiteK a) pins σ H s := ⟨suiteK_ok I.ok a, I.os, I.bare, I.base, I.loc, I.cell, I.free, I.freeC, I.pin, I.hok, I.len⟩
theorem inv_unsuiteK {a : Addr} {pins : List (Addr × Obj)} {σ : L2.St} {H : Hp} {s : Shared} (I : Inv (X.suiteK a) pins σ H s) (ok : X.Ok) : Inv X pins σ H s := ⟨ok, I.os, I.bare, I.base, I.loc, I.cell, I.free, I.freeC, I.pin, I.hok, I.len⟩
theorem try_asK (hs : X.stack = X.env :: X.outer) (hf : X.env.frame = some X.env.locals) (hex : X.ex = []) (hN : X.N.Nodup) (hi : X.N[i]? = some n) (hln : X.env.kindOf n = some .local) (hc : Names X x c) (tk : Takes X Wout)
    (hb : ∀ (W : WX) (pn : List (Addr × Obj)) (xe : Value → Shared → Prop), Takes (X.tr pn xe) W → PassesOwn (model X.prog X.w) X.A X.env xe → PSs (X.tr pn xe) body (tb W))
    (hsu : ∀ (a : Addr), PSs (X.suiteK a) (b0 :: suite) ts) :
    PS X (.Try body [.ExceptHandler (some (.Name x np)) (some n) (b0 :: suite) pos'] [] [] pos) (fun D σ H => tb (wAsK X.K c i ts Wout D) D σ H) := by
  refine ⟨fun pins s σ H D I h => ?_⟩
  have ok := I.ok
  have hfr : X.A.frames = some (X.env :: X.outer) := by rw [ok.frames, hs]
  have hloc : Loc X.env.scope n := .inl hln
  refine wpAny_Try_except ?_
  refine wpAny_mono ((hb (wAsK X.K c i ts Wout D) (X.pn ++ pins) (fun e z1 => wpAny (model X.prog X.w) X.A (noteFrame e X.env) (fun _ z2 => wpAny (model X.prog X.w) X.A (setFlight e none) (fun _ z3 =>
    wpAny (model X.prog X.w) X.A (handleBy e X.env [.ExceptHandler (some (.Name x np)) (some n) (b0 :: suite) pos']) (SP X pins D) X.xe z3) X.xe z2) X.xe z1) (fun u z xx => ?_) PassesOwn.looking).run [] s σ H D (I.toTry _) h) (fun f s1 hsp => ?_) (fun e s1 he => he)
  · obtain ⟨a, B, sI, pins', σ', H', cls, d, rfl, J', nb, up, sky, na, os, ag, b, hb1, hyes, hno⟩ := xx
    have J : Inv X pins σ' H' sI := J'.ofTry ok
    have sky' : Sky B (X.env :: X.outer) a (Zc cls d) X.env.locals z.heap := by rw [← hs]; exact sky
    have aB : B.get? a = none := by
      rcases sky with q | q | q
      · exact q.2.1
      · exact q.2.1
      · exact q.2.1
    show wpAny (model X.prog X.w) X.A (noteFrame (.ref a) X.env) _ _ _
    refine Sky.land Zc.steady hfr hf sky' fun h3 fl3 up3 => ?_
    have J3 : Inv X pins σ' H' { z with heap := h3 } := J.landed nb fl3.1 (up.trans up3) os ag
    obtain ⟨oe3, vs3, he3, hz3, hd3⟩ := fl3.there
    have notFr : ∀ {h : Heap} {o : Obj} {vs : Array Value}, h.FunFrames B (X.env :: X.outer) → h.get? a = some o → o.data = .fields vs → a ∉ frs (X.env :: X.outer) := fun {h o vs} ff e dd hm => by
      obtain ⟨_, o', e', hnf⟩ := ff.mem hm
      rw [e] at e'
      cases e'
      exact hnf _ dd
    have nfr := notFr fl3.2.2.1 he3 hd3
    have nL : a ≠ X.env.locals := fun w => nfr (List.mem_filterMap.mpr ⟨X.env, List.mem_cons_self, by rw [hf, w]⟩)
    have aI : sI.heap.get? a = none := by
      cases q : sI.heap.get? a with
      | none => rfl
      | some o =>
        have w := nb a o q (by rw [hs]; exact nfr)
        rw [aB] at w
        cases w
    have a0 : X.s_0.heap.get? a = none := by
      cases q : X.s_0.heap.get? a with
      | none => rfl
      | some o =>
        obtain ⟨o', w⟩ := J.base.there a o q (by rw [hex]; simp)
        rw [aI] at w
        cases w
    have aC : ∀ y c, X.env.cells.lookup y = some c → c ≠ a := fun y c e w => by
      obtain ⟨v, _, q, _⟩ := J.cell y c e
      rw [w, aI] at q
      cases q
    have aP : ∀ p ∈ X.pn ++ pins, p.1 ≠ a := fun p hp w => by
      have := (J.pin p hp).1
      rw [w, aI] at this
      cases this
    have xok : ∀ {h : Heap} {oe : Obj} {vs : Array Value}, h.get? a = some oe → Zc cls d oe → oe.data = .fields vs → ObjOk X.prog X.w (upd H' a (XO cls d a)) h a (XO cls d a) := fun {h oe vs} e1 e2 e3 =>
      ⟨⟨oe, vs, e1, e2, e3⟩, ⟨oe, e1⟩, fun h1 h2 ⟨oe, vs, q1, q2, q3⟩ k => ⟨oe, vs, k _ q1, q2, q3⟩⟩
    have S3 := inv_suiteK J3 a
    refine wpAny_handleBy_cons (codeAny_handlers_test ?_) (by intro q; cases q)
    have LT : PySem.W.Looks (model X.prog X.w) h3 (typeOf (.ref a)) cls := fun A Q E s k q => wpAny_typeOf_ref (k _ _ he3) (by rw [hz3.1]; exact q)
    have LM := PySem.W.exm_one (M := model X.prog X.w) (J3.kIn) LT hb1
    have test : ∀ {Q : Value → Shared → Prop} {E : Value → Shared → Prop}, Q c { z with heap := h3 } → wpAny (model X.prog X.w) (X.A.mark (some (.ref a))) (eval (.Name x np) X.env) Q E { z with heap := h3 } := fun {Q E} q => by
      obtain ⟨hg, hdbg, hm | ⟨hm, hv, hnn⟩⟩ := hc
      · exact ld_glob (X := X.suiteK a) S3 hg hm q hdbg
      · exact ld_blt (X := X.suiteK a) S3 hg hm hv q hnn hdbg
    refine test (LM.here ?_)
    cases b with
    | true =>
      refine codeAny_handlers_suite_as ?_
      refine HandSPX.lands_againZ fl3 fun h4 fl4 up4 => ?_
      have J4 : Inv X pins σ' H' { z with heap := h4 } := J.landed nb fl4.1 ((up.trans up3).trans up4) os ag
      obtain ⟨oe4, vs4, he4, hz4, hd4⟩ := fl4.there
      have T4 : Inv X pins σ' (upd H' a (XO cls d a)) { z with heap := h4 } := inv_track J4 na a0 nL aC aP (xok he4 hz4 hd4)
      refine store_ok (X := X.suiteK a) (v := .ref a) (inv_suiteK T4 a) hN hi hloc rfl (fun s5 S5 => ?_) (.inr hln)
      refine wpAny_mono ((hsu a).run pins s5 _ _ _ S5 (hyes rfl a na)) (fun f s6 hsp => ?_) (fun _ _ w => False.elim w)
      have end_ : ∀ {σ6 : L2.St} {H6 : Hp} {Q : Shared → Prop}, Inv (X.suiteK a) pins σ6 H6 s6 → (∀ s7, Inv X pins (σ6.set i none) H6 s7 → Q s7) →
          wpAny (model X.prog X.w) X.A (do bindName X.env n .none; unbindBehindTheSuite X.env n pos') (fun _ s7 => Q s7) X.xe s6 := fun {σ6 H6 Q} S6 hq => gone_ok (inv_unsuiteK S6 ok) hN hi hln hq
      cases f with
      | next =>
        obtain ⟨σ6, H6, S6, q6⟩ := hsp
        exact end_ S6 fun s7 J7 => ⟨_, _, J7, q6⟩
      | brk =>
        obtain ⟨σ6, H6, S6, q6⟩ := hsp
        exact end_ S6 fun s7 J7 => ⟨_, _, J7, q6⟩
      | cont =>
        obtain ⟨σ6, H6, S6, q6⟩ := hsp
        exact end_ S6 fun s7 J7 => ⟨_, _, J7, q6⟩
      | ret u =>
        obtain ⟨v6, σ6, H6, S6, r6, q6⟩ := hsp
        exact end_ S6 fun s7 J7 => ⟨_, _, _, J7, r6, q6⟩
    | false =>
      show wpAny _ X.A (handleBy (.ref a) X.env []) _ _ _
      refine wpAny_handleBy_nil ?_
      obtain ⟨k1, k2, k3, oe, vs, T1, oT, ts', he, hz, hd, h1, hr⟩ := id fl3
      unfold PySem.passOn
      refine wpAny_bind (wpAny_field he hd h1 ?_)
      rw [if_neg (show ¬ ((Value.ref T1 == Value.none) = true) from by simp)]
      have fin : wpAny (model X.prog X.w) X.A (setFlight (.ref a) X.env.frame) (fun _ s4 => wpAny (model X.prog X.w) X.A (throw (.ref a) : Sem Flow) (SP X pins D) X.xe s4) X.xe { z with heap := h3 } := by
        rw [hf]
        refine HandSPX.setFlight_upZ fl3 fun h4 hh4 up4 => wpAny_throw (tk _ _ ?_)
        exact ⟨a, B, sI, pins, σ', H', cls, d, rfl, J, nb, (up.trans up3).trans up4, .inr (.inr (by rw [hs]; exact hh4)), na, os, ag, hno rfl⟩
      first
        | exact wpAny_bind (wpAny_pure (wpAny_bind fin))
        | exact wpAny_bind fin
  · cases f with
    | next =>
      obtain ⟨σ', H', J', q⟩ := hsp
      exact wpAny_execs_nil ⟨σ', H', J'.ofTry ok, q⟩
    | brk =>
      obtain ⟨σ', H', J', q⟩ := hsp
      exact ⟨σ', H', J'.ofTry ok, q⟩
    | cont =>
      obtain ⟨σ', H', J', q⟩ := hsp
      exact ⟨σ', H', J'.ofTry ok, q⟩
    | ret u =>
      obtain ⟨v, σ', H', J', r, q⟩ := hsp
      exact ⟨v, σ', H', J'.ofTry ok, r, q⟩
end
/-! ### raise, try -/
def sRaise (C : Str) : SemS := fun env S => .exc C [] env S
def clrS (i : Nat) : ResS → ResS
  | .nx env S => .nx (env.set i none) S
  | .bk env S => .bk (env.set i none) S
  | .ct env S => .ct (env.set i none) S
  | .rt d S => .rt d S
  | _ => .bad
def sTry (body : SemS) (xm : Str → Option Bool) (i : Nat) (suite : SemS) : SemS := fun env S => match body env S with
  | .exc C fs env1 S1 => (match xm C with
    | some true => clrS i (suite (env1.set i (some (.exc C fs))) S1)
    | some false => .exc C fs env1 S1
    | none => .bad)
  | r => r
section
variable {X : Cx} {W : WX}
theorem mk_own0 {C : Addr} {bmB : List Value} {B newId initId : String} {x : Str} {p pos : Pos} (F : ExcBaseFacts B newId initId bmB) (q : PySem.W.excIn X.K C bmB newId = true) (gC : X.mg x = some (.ref C)) (kC : PySem.W.keepIn X.K (.ref C) = true) (r : Raises X (.ref C)) (hg : Gl X x) (hdb : (x == ("__debug__" : Str)) = false) :
    PMk X (.Call (.Name x p) [] [] pos) (fun σ H Q => Q (.ref C) none H) := by
  intro pins s σ H Q I h
  refine wpAny_Call_Name_kw (ld_glob I hg gC ?_ hdb)
  refine PySem.W.callWith_K0 I.kIn kC ?_
  obtain ⟨bm, N, nm, qn, bs, hdct, sn, sub, ab, col, dd, k0, k1, k2, k3, k5, mN, hC, hN, hni, Tl⟩ := exc_obj I.kIn q
  refine wpAny_call_exc_subT F Tl hC hN hni (fun h' e hm => ?_) (by show 0 ≤ sizeLine; decide)
  exact mk_of I hm r h (I.hok.gone hm.new)
theorem yRaise0 {C : Addr} {bmB : List Value} {B newId initId : String} {x : Str} {p pos rpos : Pos} (F : ExcBaseFacts B newId initId bmB) (q : PySem.W.excIn X.K C bmB newId = true) (gC : X.mg x = some (.ref C)) (kC : PySem.W.keepIn X.K (.ref C) = true) (r : Raises X (.ref C)) (hg : Gl X x) (hdb : (x == ("__debug__" : Str)) = false)
    (hc : X.calm = true) (tk : Takes X W) : PS X (.Raise (some (.Call (.Name x p) [] [] pos)) none rpos) (tS X.K X.mg W (sRaise x)) := (ps_raise hc tk (mk_own0 F q gC kC r hg hdb)).mono fun D σ H h => by
  obtain ⟨s, env, rfl, o, eo, h⟩ := h
  exact h (.ref C) none σ s o rfl (Le.refl s) eo ⟨C, [], gC, rfl, .inl ⟨rfl, rfl⟩, .nil⟩
/-- the exception's object is tracked: a further frozen thing -/
theorem exc_new {K : PySem.W.Frag} {mg : Str → Option Value} {t : Stt} {C : Str} {fs : List (Str × D)} {cls : Value} {d : Option Addr} {a : Addr} (o : Ok K mg t) (xr : XRp K mg t C fs cls d) (ha : t.H a = none) :
    Rp K mg (t.new a (XO cls d a)).Hf (t.new a (XO cls d a)).ρ (.ref a) (.exc C fs) := by
  obtain ⟨ca, vfs, h1, rfl, h3, h4⟩ := xr
  have l := Le.new o ha (XO (.ref ca) d a)
  exact .exc h1 upd_same (h3.mono l.same) (RpF.le l h4)
theorem try_read {K : PySem.W.Frag} {mg : Str → Option Value} {c : Value} {i : Nat} {mb ms : SemS} {xm : Str → Option Bool} (hx : ∀ C ca b, xm C = some b → mg C = some (.ref ca) → PySem.W.exmOne K (.ref ca) c = some b) {D : Ends} {σ : L2.St} {H : Hp}
    (h : tS K mg W (sTry mb xm i ms) D σ H) : tS K mg (wAsK K c i (tS K mg (fun _ _ _ _ => False) ms) W D) mb D σ H := by
  obtain ⟨s, env, rfl, o, eo, h⟩ := h
  refine ⟨s, env, rfl, o, eo, ?_⟩
  unfold sTry at h
  cases q : mb env s.S with
  | nx env1 S1 => rw [q] at h; exact h
  | bk env1 S1 => rw [q] at h; exact h
  | ct env1 S1 => rw [q] at h; exact h
  | rt d S1 => rw [q] at h; exact h
  | bad => rw [q] at h; exact h
  | exc C fs env1 S1 =>
    rw [q] at h
    intro cls d σ' t ot et lt eot xr
    have xr0 := xr
    obtain ⟨ca, vfs, h1, rfl, h3, h4⟩ := xr
    dsimp only at h
    split at h
    · rename_i e
      refine ⟨true, hx C ca true e h1, fun _ a na => ?_, fun w => Bool.noConfusion w⟩
      have l2 := Le.new ot na (XO (.ref ca) d a)
      refine ⟨t.new a (XO (.ref ca) d a), env1.set i (some (.exc C fs)), rfl, ot.new na _, (eot.le l2).set (exc_new ot xr0 na) i, ?_⟩
      show RSS K mg _ _ _ (ms _ t.S)
      rw [et]
      have h := RSS.le (lt.trans l2) h
      cases r : ms (env1.set i (some (.exc C fs))) S1 with
      | nx env2 S2 => rw [r] at h; exact fun σ2 t2 o2 e2 l2 eo2 => h _ t2 o2 e2 l2 (eo2.clr i)
      | bk env2 S2 => rw [r] at h; exact fun σ2 t2 o2 e2 l2 eo2 => h _ t2 o2 e2 l2 (eo2.clr i)
      | ct env2 S2 => rw [r] at h; exact fun σ2 t2 o2 e2 l2 eo2 => h _ t2 o2 e2 l2 (eo2.clr i)
      | rt d S2 => rw [r] at h; exact h
      | exc C2 fs2 env2 S2 => rw [r] at h; exact h.elim
      | bad => rw [r] at h; exact h.elim
    · rename_i e
      exact ⟨false, hx C ca false e h1, fun w => Bool.noConfusion w, fun _ => h _ d σ' t ot et lt eot xr0⟩
    · exact h.elim
theorem yTry {x n : Str} {c : Value} {i : Nat} {body suite : List Stmt} {b0 : Stmt} {np pos pos' : Pos} {mb ms : SemS} {xm : Str → Option Bool} (hs : X.stack = X.env :: X.outer) (hf : X.env.frame = some X.env.locals) (hex : X.ex = []) (hN : X.N.Nodup) (hi : X.N[i]? = some n) (hln : X.env.kindOf n = some .local) (hc : Names X x c) (tk : Takes X W)
    (hx : ∀ C ca b, xm C = some b → X.mg C = some (.ref ca) → PySem.W.exmOne X.K (.ref ca) c = some b)
    (hb : ∀ (Wb : WX) (pn : List (Addr × Obj)) (xe : Value → Shared → Prop), Takes (X.tr pn xe) Wb → PassesOwn (model X.prog X.w) X.A X.env xe → PSs (X.tr pn xe) body (tS X.K X.mg Wb mb))
    (hsu : ∀ (a : Addr), PSs (X.suiteK a) (b0 :: suite) (tS X.K X.mg (fun _ _ _ _ => False) ms)) :
    PS X (.Try body [.ExceptHandler (some (.Name x np)) (some n) (b0 :: suite) pos'] [] [] pos) (tS X.K X.mg W (sTry mb xm i ms)) :=
  (try_asK hs hf hex hN hi hln hc tk hb hsu).mono fun D σ H h => try_read hx h
end
/-! ### isinstance -/
def tyName (S : Sto) (d : D) : Option String := match rd S d with
  | .non => some "NoneType"
  | .bl _ => some "bool"
  | .int _ => some "int"
  | .str _ => some "str"
  | .lst _ => some "list"
  | .tup _ => some "tuple"
  | _ => none
def knownTy : List String := ["NoneType", "bool", "int", "str", "list", "tuple"]
def askTy : List String := ["int", "str", "bool", "list", "tuple"]
def kitT (a b : String) : Bool := a == b || (a == "bool" && b == "int")
theorem kitT_ok : ∀ a ∈ knownTy, ∀ b ∈ askTy, kitB a b = some (kitT a b) := by decide +kernel
/-- what is told of a kept exception's class: xt -/
def isTy (xt : Str → String → Option Bool) (S : Sto) (d : D) (b : String) : Option Bool := match d with
  | .exc C [] => xt C b
  | d => if askTy.contains b then (match tyName S d with | some a => some (kitT a b) | none => none) else none
def sIsi (xt : Str → String → Option Bool) (b : String) (m : SemE) : SemE := fun env S => (m env S).bind fun d S1 => match isTy xt S1 d b with
  | some r => .ok (.bl r) S1
  | none => .bad
end T
end S_TTry
section S_TIsi
set_option Elab.async false
set_option linter.all false
set_option maxRecDepth 100000
set_option maxHeartbeats 4000000
namespace T
open PySem L2
section
variable {K : PySem.W.Frag} {mg : Str → Option Value}
theorem tyx_l {H : Hp} {a : Addr} {vs : List V} (h : SqL K H a vs) : TyX K H (.ref a) (.type "list") := by
  rcases h with (h | ⟨o, h⟩) | ⟨o, its, n, h1, h2, _⟩
  · exact .base (.lst h)
  · exact .base (.frz h)
  · exact .kList h1 h2
theorem tyx_t {H : Hp} {a : Addr} {vs : List V} (h : SqT K H a vs) : TyX K H (.ref a) (.type "tuple") := by
  rcases h with (h | ⟨o, h⟩) | ⟨o, its, n, h1, h2, _⟩
  · exact .base (.tup h)
  · exact .fTuple h
  · exact .kTuple h1 h2
theorem rd_plain {s : Stt} {x : V} {d e : D} (o : Ok K mg s) (r : Rp K mg s.Hf s.ρ x d) (h : rd s.S d = e) (h1 : ∀ ds, e ≠ .lst ds) (h2 : ∀ ds, e ≠ .dk ds) (h3 : ∀ C ds, e ≠ .obj C ds) : d = e := by
  cases r with
  | cell q =>
    simp only [rd] at h
    have z := cell_at o q
    rw [h] at z
    cases e with
    | lst ds => exact absurd rfl (h1 ds)
    | dk ds => exact absurd rfl (h2 ds)
    | obj C ds => exact absurd rfl (h3 C ds)
    | _ => exact z.elim
  | rdl => simp only [rd] at h; exact absurd h.symm (h1 _)
  | _ => exact h
theorem tyx {s : Stt} {x : V} {d : D} {a : String} (o : Ok K mg s) (r : Rp K mg s.Hf s.ρ x d) (h : tyName s.S d = some a) : TyX K s.H x (.type a) ∧ a ∈ knownTy := by
  unfold tyName at h
  split at h
  · rename_i e
    have := rd_plain o r e (by simp) (by simp) (by simp)
    subst this
    cases r
    injection h with h
    subst h
    exact ⟨.base .non, by decide⟩
  · rename_i e
    have := rd_plain o r e (by simp) (by simp) (by simp)
    subst this
    cases r
    injection h with h
    subst h
    exact ⟨.base (.bl _), by decide⟩
  · rename_i e
    have := rd_plain o r e (by simp) (by simp) (by simp)
    subst this
    cases r
    injection h with h
    subst h
    exact ⟨.base (.int _), by decide⟩
  · rename_i e
    have := rd_str o r e
    subst this
    injection h with h
    subst h
    exact ⟨.base (.str _), by decide⟩
  · rename_i e
    obtain ⟨p, vs, rfl, h1, _⟩ := rd_lst o r e
    injection h with h
    subst h
    exact ⟨tyx_l h1, by decide⟩
  · rename_i e
    obtain ⟨p, vs, rfl, h1, _⟩ := rd_tup o r e
    injection h with h
    subst h
    exact ⟨tyx_t h1, by decide⟩
  · cases h
/-- isinstance of a kept exception of an own class -/
def rIsX (K : PySem.W.Frag) : List V → Hp → VK → Prop := fun xs H Q => ∃ (a C : Addr) (c : V) (u : Value) (b : Bool), xs = [.ref a, c] ∧ H a = some (XO (.ref C) none a) ∧ ExcC K C ∧ ClsV c u ∧ PySem.W.kitOne K (.ref C) u = some b ∧ Q (.bl b) H
theorem call_isX {X : Cx} : CallR X (.builtin "isinstance") (rIsX X.K) := by
  intro pins s σ H xs us Q I r h
  obtain ⟨a, C, c, u, b, rfl, ha, E, k, e, q⟩ := h
  obtain ⟨u1, u2, rfl, r1, r2⟩ := vals2 r
  have e2 := k.eq r2
  subst e2
  cases r1
  obtain ⟨⟨oe, vs, hget, hz, hv⟩, _⟩ := I.hok a _ ha
  have J : PySem.W.InstAt s.heap a oe C none := by
    obtain ⟨oc, od, oda, osl⟩ := oe
    obtain ⟨h1, h2⟩ := hz
    dsimp only at h1 h2 hv
    subst h1 h2 hv
    exact ⟨hget, rfl, rfl, trivial⟩
  exact PySem.W.kia_one (PySem.W.handS_kitx_exc E.hg E.hk E.hs E.hd E.ha E.hn E.ht E.hm) I.kIn J e (fun w => nomatch w) fun tk => ⟨.bl b, H, I.kept (t' := tk) fun _ _ w => w, rfl, q⟩
/-- the table of kept exceptions' classes -/
def XTab (K : PySem.W.Frag) (mg : Str → Option Value) (xt : Str → String → Option Bool) : Prop := ∀ (C : Str) (ca : Addr) (n : String) (b : Bool), xt C n = some b → mg C = some (.ref ca) → ExcC K ca ∧ PySem.W.kitOne K (.ref ca) (.type n) = some b
end
section
variable {X : Cx} {W : WX} {e : Expr} {m : SemE} {p pos pt : Pos} {t : Str} {n : String} {xt : Str → String → Option Bool}
theorem isi_read {K : PySem.W.Frag} {mg : Str → Option Value} (hx : XTab K mg xt) {σ : L2.St} {H : Hp} {Q : VK} (h : tE K mg W (sIsi xt n m) σ H Q) : tE K mg W m σ H fun x H1 => rIsi K [x, .ty n] H1 Q ∨ rIsX K [x, .ty n] H1 Q := by
  obtain ⟨s, env, rfl, o, eo, h⟩ := h
  refine RS.go (R := RE K mg) h o eo fun x u d ou lu rx h => ?_
  split at h
  · rename_i r er
    unfold isTy at er
    split at er
    · cases rx with
      | exc h1 h2 h3 h4 =>
        cases h4
        rcases h3 with ⟨rfl, _⟩ | ⟨_, _, _, q⟩
        · obtain ⟨E, k⟩ := hx _ _ _ _ er h1
          exact .inr ⟨_, _, _, _, r, rfl, ou.same _ _ h2, E, .ty n, k, h.val ou .bl⟩
        · exact absurd rfl q
    · split at er
      · rename_i hn
        split at er
        · rename_i a ea
          injection er with er
          subst er
          obtain ⟨ty, ka⟩ := tyx ou rx ea
          exact .inl ⟨x, .ty n, _, _, _, rfl, .ty n, ty, kit_ty (kitT_ok a ka n (by simpa using hn)), h.val ou .bl⟩
        · cases er
      · cases er
  · exact h.elim
theorem xIsi (hx : XTab X.K X.mg xt) (hg : Gl X "isinstance") (hm : X.mg "isinstance" = none) (hgt : Gl X t) (hmt : X.mg t = none) (hvt : bootBuiltins t = some (.type n)) (hnt : t ≠ "__name__") (hdt : (t == ("__debug__" : Str)) = false) (he : PE X e (tE X.K X.mg W m))
    (hs : starEach [e, .Name t pt] X.env = (false, eval e X.env) :: starEach [.Name t pt] X.env) (hs2 : starEach [.Name t pt] X.env = (false, eval (.Name t pt) X.env) :: starEach [] X.env) (hpl : (backTo pos (starEach [.Name t pt] X.env)).any (·.1) = false) :
    PE X (.Call (.Name "isinstance" p) [e, .Name t pt] [] pos) (tE X.K X.mg W (sIsi xt n m)) :=
  (pe_callB (T.CallR.or call_isi call_isX) hg hm (by decide +kernel) (pa_cons he (pa_cons (pe_bltn (v := .ty n) hgt hmt hvt rfl hnt hdt) pa_nil hs2) hs) (by decide) (by decide) hs hpl).mono fun σ H Q h => isi_read hx h
/-- isinstance(e, (T1, T2)) -/
def sIsi2 (b c : String) (m : SemE) : SemE := fun env S => (m env S).bind fun d S1 => if askTy.contains b && askTy.contains c then (match tyName S1 d with
  | some a => .ok (.bl (kitT a b || kitT a c)) S1
  | none => .bad) else .bad
theorem xIsi2 {t2 : Str} {n2 : String} {pt2 ptt : Pos} {kk : Nat} (hg : Gl X "isinstance") (hm : X.mg "isinstance" = none) (hgt : Gl X t) (hmt : X.mg t = none) (hvt : bootBuiltins t = some (.type n)) (hnt : t ≠ "__name__") (hdt : (t == ("__debug__" : Str)) = false)
    (hgt2 : Gl X t2) (hmt2 : X.mg t2 = none) (hvt2 : bootBuiltins t2 = some (.type n2)) (hnt2 : t2 ≠ "__name__") (hdt2 : (t2 == ("__debug__" : Str)) = false) (he : PE X e (tE X.K X.mg W m))
    (hs : starEach [e, .Tuple [.Name t pt, .Name t2 pt2] kk ptt] X.env = (false, eval e X.env) :: starEach [.Tuple [.Name t pt, .Name t2 pt2] kk ptt] X.env) (hs2 : starEach [.Tuple [.Name t pt, .Name t2 pt2] kk ptt] X.env = (false, eval (.Tuple [.Name t pt, .Name t2 pt2] kk ptt) X.env) :: starEach [] X.env)
    (hs3 : starEach [.Name t pt, .Name t2 pt2] X.env = (false, eval (.Name t pt) X.env) :: starEach [.Name t2 pt2] X.env) (hs4 : starEach [.Name t2 pt2] X.env = (false, eval (.Name t2 pt2) X.env) :: starEach [] X.env)
    (hpl : (backTo pos (starEach [.Tuple [.Name t pt, .Name t2 pt2] kk ptt] X.env)).any (·.1) = false) :
    PE X (.Call (.Name "isinstance" p) [e, .Tuple [.Name t pt, .Name t2 pt2] kk ptt] [] pos) (tE X.K X.mg W (sIsi2 n n2 m)) :=
  (pe_callB call_isiT hg hm (by decide +kernel) (pa_cons he (pa_cons (pe_tup (pa_cons (pe_bltn (v := .ty n) hgt hmt hvt rfl hnt hdt) (pa_cons (pe_bltn (v := .ty n2) hgt2 hmt2 hvt2 rfl hnt2 hdt2) pa_nil hs4) hs3)) pa_nil hs2) hs) (by decide) (by decide) hs hpl).mono fun σ H Q h => by
    obtain ⟨s, env, rfl, o, eo, h⟩ := h
    refine RS.go (R := RE X.K X.mg) h o eo fun x u d ou lu rx h => ?_
    split at h
    · rename_i hc
      rw [Bool.and_eq_true] at hc
      split at h
      · rename_i a ea
        refine ⟨by show 2 ≤ sizeLine; decide, fun q hq => ?_⟩
        have l2 := Le.new ou hq (.tup [.ty n, .ty n2])
        have o2 := ou.new hq (.tup [.ty n, .ty n2])
        obtain ⟨ty, ka⟩ := tyx (s := u.new q (.tup [.ty n, .ty n2])) o2 (rx.le l2) ea
        have k1 := kitT_ok a ka n (by simpa using hc.1)
        have k2 := kitT_ok a ka n2 (by simpa using hc.2)
        refine ⟨x, q, _, _, _, kitT a n || kitT a n2, rfl, upd_same, .cons (.ty n) (.cons (.ty n2) .nil), ty, ?_, h _ (u.new q (.tup [.ty n, .ty n2])) o2 rfl l2 .bl⟩
        refine kitAny_cons (kit_ty k1) (fun w => ?_) fun w => by rw [w]; rfl
        rw [w]
        refine kitAny_cons (kit_ty k2) (fun w2 => ?_) fun w2 => by rw [w2]; rfl
        rw [w2]
        rfl
      · exact h.elim
    · exact h.elim
end
end T
end S_TIsi
section S_TMisc
set_option Elab.async false
set_option linter.all false
set_option maxRecDepth 100000
set_option maxHeartbeats 4000000
namespace T
open PySem L2
/-! ### list of a text -/
def signsV (z : Str) : List V := z.cps.toList.map fun c => V.str ⟨#[c]⟩
theorem signs_rp {K : PySem.W.Frag} {mg : Str → Option Value} {Hf : Hp} {ρ : List Addr} (z : Str) : RpL K mg Hf ρ (signsV z) (signs z) := by
  unfold signsV signs
  generalize z.cps.toList = l
  induction l with
  | nil => exact .nil
  | cons c r ih => exact .cons .str ih
theorem vals_signs {z : Str} {acc : Array Value} (h : ItemsOf (SignAt z) acc z.cps.size) : Vals (signsV z) acc.toList := by
  refine L2.vals_of_at ?_ ?_
  · unfold signsV
    rw [List.length_map, Array.length_toList, Array.length_toList, h.1]
  · intro j x u hx hu
    rw [Array.getElem?_toList] at hu
    obtain ⟨c, t, e1, rfl⟩ := h.2 j u hu
    unfold signsV at hx
    rw [List.getElem?_map, Array.getElem?_toList, e1] at hx
    cases hx
    exact ⟨t, rfl⟩
def rListStr : List V → Hp → VK → Prop := fun xs H Q => ∃ z, xs = [.str z] ∧ z.length ≤ lim ∧ ∀ p, H p = none → Q (.ref p) (upd H p (.lst (signsV z)))
theorem call_listStr {X : Cx} (hc : X.calm = true) : CallR X (.type "list") rListStr := by
  intro pins s σ H xs us Q I r h
  obtain ⟨z, rfl, hz, q⟩ := h
  obtain ⟨u, rfl, t, rfl⟩ := vals1 r
  have hz2 : z.cps.size ≤ sizeLine := lim_le hz
  refine PySem.call_list_str (I.ok.hd hc) z t (fun h' tk acc c hk hS hi => ?_) hz2
  refine ⟨.ref s.heap.objs.size, upd H s.heap.objs.size (.lst (signsV z)), I.laid (t' := tk) hk (Nat.le_refl _) ?_, rfl, q _ (I.hok.fresh (Nat.le_refl _))⟩
  refine ⟨by unfold signsV; rw [List.length_map, Array.length_toList]; exact hz2, acc.toList, c, vals_signs hi, ?_⟩
  rw [hS]
section
variable {K : PySem.W.Frag} {mg : Str → Option Value}
/-- list(x): a text, a list, a tuple; to be changed or not -/
def bListA : FnB := fun S ds => match ds with
  | [.str z] => if z.length ≤ lim then .ok (.lst (signs z)) S else .bad
  | ds => bList S ds
def bListAC : FnB := fun S ds => match ds with
  | [.str z] => if z.length ≤ lim then .ok (.cell S.length) (S ++ [.lv (.lst (signs z))]) else .bad
  | ds => bListC S ds
abbrev rListA (K : PySem.W.Frag) : List V → Hp → VK → Prop := fun xs H Q => rListStr xs H Q ∨ (∃ p ys, xs = [.ref p] ∧ (SqL K H p ys ∨ SqT K H p ys) ∧ ∀ l, H l = none → Q (.ref l) (upd H l (.lst ys)))
theorem callListA {X : Cx} (hc : X.calm = true) : CallR X (.type "list") (rListA X.K) := CallR.or (call_listStr hc) call_list_of
theorem bListA_ok : CaS K mg (rListA K) bListA := by
  intro W σ Q s vs ds o r h
  unfold bListA at h
  split at h
  · split at h
    · rename_i hl
      obtain ⟨v, rfl, r1⟩ := one r
      cases r1
      exact .inl ⟨_, rfl, hl, fun p hp => h.made o hp (Rp.newL (signs_rp _) o hp)⟩
    · exact h.elim
  · exact .inr (bList_ok W σ Q s vs ds o r h)
theorem bListAC_ok : CaS K mg (rListA K) bListAC := by
  intro W σ Q s vs ds o r h
  unfold bListAC at h
  split at h
  · split at h
    · rename_i hl
      obtain ⟨v, rfl, r1⟩ := one r
      cases r1
      exact .inl ⟨_, rfl, hl, fun p hp => h.madeC o hp ⟨_, upd_same, signs_rp _⟩⟩
    · exact h.elim
  · exact .inr (bListC_ok W σ Q s vs ds o r h)
/-! ### a text many times -/
def repS (z : Str) (n : Nat) : Str := mkS (List.replicate n z.cps.toList).flatten
theorem rep_fold (z : Str) (n : Nat) : (⟨(List.replicate n z.cps).foldl (· ++ ·) #[]⟩ : Str) = repS z n := by
  have h : ∀ (m : Nat) (a : Array Nat), ((List.replicate m z.cps).foldl (· ++ ·) a).toList = a.toList ++ (List.replicate m z.cps.toList).flatten := by
    intro m
    induction m with
    | zero => intro a; simp
    | succ m ih => intro a; rw [List.replicate_succ, List.foldl_cons, ih, List.replicate_succ, List.flatten_cons, Array.toList_append, List.append_assoc]
  apply TL.ext_tl
  show ((List.replicate n z.cps).foldl (· ++ ·) #[]).toList = _
  rw [h n #[]]
  rfl
def rMulS : R2 := fun x y H Q => ∃ z n, x = .str z ∧ y = .int n ∧ (1 < n ∧ n ≤ 10000) ∧ (0 < z.length ∧ z.length * n.toNat ≤ lim) ∧ Q (.str (repS z n.toNat)) H
theorem op_mulS {X : Cx} : OpR X (binaryOp .Mult) rMulS := by
  intro pins s σ H x y v u Q I rx ry h
  obtain ⟨z, n, rfl, rfl, hn, hz, q⟩ := h
  obtain ⟨t, rfl⟩ := rx
  obtain ⟨t2, rfl⟩ := ry
  have nz : (n == 1 || z.length == 0) = false := by
    rw [Bool.or_eq_false_iff]
    exact ⟨beq_false_of_ne (by omega), beq_false_of_ne (by omega)⟩
  have lz : z.length * n.toNat ≤ sizeLine := lim_le hz.2
  refine PySem.P.mul_str (by rw [decide_eq_false (by omega), decide_eq_false (by omega)]; rfl) (fun _ _ => ?_) (fun _ _ => decide_eq_false (by omega)) ?_
  · have h1 : (z.length : Int) ≤ 1000000 := by
      have : z.length * 1 ≤ z.length * n.toNat := Nat.mul_le_mul_left _ (by omega)
      have h2 : z.length * n.toNat ≤ 1000000 := hz.2
      omega
    have h2 : (2 ^ 63 - 1 : Int) / n ≥ 1000000 := by
      have : (1000000 : Int) * n ≤ 2 ^ 63 - 1 := by omega
      exact (Int.le_ediv_iff_mul_le (by omega)).mpr this
    omega
  · rw [if_neg (by omega), if_neg (by rw [nz]; decide), rep_fold]
    refine ⟨?_, .str _, H, I.tok _, ⟨_, rfl⟩, q⟩
    have e : (repS z n.toNat).length = z.length * n.toNat := by
      rw [TL.len_tl, TL.len_tl]
      show ((List.replicate n.toNat z.cps.toList).flatten).length = _
      generalize n.toNat = k
      induction k with
      | zero => simp
      | succ k ih => rw [List.replicate_succ, List.flatten_cons, List.length_append, ih, Nat.mul_succ, Nat.add_comm]
    rw [e]
    exact lz
def fMulA : Op2 := fun S x y => match x, y with
  | .str z, .int n => if decide (1 < n ∧ n ≤ 10000) && decide (0 < z.length ∧ z.length * n.toNat ≤ lim) then .ok (.str (repS z n.toNat)) S else .bad
  | x, y => fMul S x y
theorem opMulA {X : Cx} : OpR X (binaryOp .Mult) (fun x y H Q => rMulS x y H Q ∨ rMul x y H Q) := op_mulS.or opMul
theorem fMulA_ok : OpS K mg (fun x y H Q => rMulS x y H Q ∨ rMul x y H Q) fMulA := by
  intro W σ Q s x y dx dy o rx ry h
  unfold fMulA at h
  split at h
  · split at h
    · rename_i hc
      rw [Bool.and_eq_true, decide_eq_true_eq, decide_eq_true_eq] at hc
      exact .inl ⟨_, _, rp_str rx, rp_int ry, hc.1, hc.2, h.val o .str⟩
    · exact h.elim
  · exact .inr (fMul_ok W σ Q s x y _ _ o rx ry h)
/-! ### in -/
def eqF : D → D → Bool
  | .non, .non => true
  | .bl a, .bl b => a == b
  | .bl a, .int b => (if a then 1 else 0) == b
  | .int a, .bl b => a == (if b then 1 else 0)
  | .int a, .int b => a == b
  | .str a, .str b => a == b
  | _, _ => false
def flatD : D → Bool
  | .non => true
  | .bl _ => true
  | .int _ => true
  | .str _ => true
  | _ => false
theorem flat_rp {Hf : Hp} {ρ : List Addr} {x : V} {d : D} (r : Rp K mg Hf ρ x d) (h : flatD d = true) : flatV x = true := by
  cases r <;> first | rfl | (simp only [flatD] at h; cases h)
theorem flat_all {Hf : Hp} {ρ : List Addr} : ∀ {xs : List V} {ds : List D}, RpL K mg Hf ρ xs ds → ds.all flatD = true → xs.all flatV = true := by
  intro xs
  induction xs with
  | nil => intro ds r h; rfl
  | cons v vs ih =>
    intro ds r h
    cases r with
    | cons h1 h2 =>
      rw [List.all_cons, Bool.and_eq_true] at h ⊢
      exact ⟨flat_rp h1 h.1, ih h2 h.2⟩
theorem eqF_rp {Hf : Hp} {ρ : List Addr} {x y : V} {d e : D} (rx : Rp K mg Hf ρ x d) (ry : Rp K mg Hf ρ y e) (h1 : flatD d = true) (h2 : flatD e = true) : eqV x y = eqF d e := by
  cases rx <;> first | (simp only [flatD] at h1; cases h1; done) | (cases ry <;> first | rfl | (simp only [flatD] at h2; cases h2))
theorem inF_rp {Hf : Hp} {ρ : List Addr} {x : V} {d : D} (rx : Rp K mg Hf ρ x d) (h1 : flatD d = true) : ∀ {ys : List V} {es : List D}, RpL K mg Hf ρ ys es → es.all flatD = true → inV x ys = es.any fun e => eqF e d := by
  intro ys
  induction ys with
  | nil => intro es r h; cases r; rfl
  | cons v vs ih =>
    intro es r h
    cases r with
    | cons q1 q2 =>
      rw [List.all_cons, Bool.and_eq_true] at h
      unfold inV at ih ⊢
      rw [List.any_cons, List.any_cons, ih q2 h.2, eqF_rp q1 rx h.1 h1]
/-- x in y -/
def inD (S : Sto) (x y : D) : Option Bool := match x, rd S y with
  | .str a, .str z => (match a.cps.toList with | [c] => some (decide (c ∈ z.cps.toList)) | _ => none)
  | x, .lst ds => if flatD x && ds.all flatD then some (ds.any fun e => eqF e x) else (match toPy S (rd S x), toPyL S ds with
    | some p, some ps => if SeqAt.shaped p && SeqAt.shaped (.list ps) then some (ps.any fun w => PyData.eqv w p) else none
    | _, _ => none)
  | x, .tup ds => if flatD x && ds.all flatD then some (ds.any fun e => eqF e x) else none
  | _, _ => none
def fIn : Op2 := fun S x y => match inD S x y with
  | some b => .ok (.bl b) S
  | none => .bad
def fNotIn : Op2 := fun S x y => match inD S x y with
  | some b => .ok (.bl (!b)) S
  | none => .bad
theorem toPyL_rd {s : Stt} (o : Ok K mg s) {y : V} {d : D} {ds : List D} {ps : List PyData} (r : Rp K mg s.Hf s.ρ y d) (h : rd s.S d = .lst ds) (h2 : toPyL s.S ds = some ps) : Dp K s.H y (.list ps) := by
  obtain ⟨a, vs, rfl, h1, r1⟩ := rd_lst o r h
  exact .lst h1 (toPyL_dp o ds r1 h2)
theorem inD_ok {s : Stt} (o : Ok K mg s) {x y : V} {dx dy : D} (rx : Rp K mg s.Hf s.ρ x dx) (ry : Rp K mg s.Hf s.ρ y dy) {b : Bool} (h : inD s.S dx dy = some b) :
    (∃ (c : Nat) (z : Str), x = .str ⟨#[c]⟩ ∧ y = .str z ∧ b = decide (c ∈ z.cps.toList)) ∨ (∃ p xs, y = .ref p ∧ (SqL K s.H p xs ∨ SqT K s.H p xs) ∧ flatV x = true ∧ xs.all flatV = true ∧ b = inV x xs) ∨
      ∃ d ds, Dp K s.H x d ∧ Dp K s.H y (.list ds) ∧ SeqAt.shaped d = true ∧ SeqAt.shaped (.list ds) = true ∧ b = ds.any fun z => PyData.eqv z d := by
  unfold inD at h
  split at h
  · rename_i a z e
    split at h
    · rename_i c ec
      injection h with h
      have := rp_str rx
      subst this
      refine .inl ⟨c, z, ?_, rd_str o ry e, h.symm⟩
      have : a = ⟨#[c]⟩ := TL.ext_tl ec
      rw [this]
    · cases h
  · rename_i ds e
    split at h
    · rename_i hf
      rw [Bool.and_eq_true] at hf
      injection h with h
      obtain ⟨p, vs, rfl, h1, r1⟩ := rd_lst o ry e
      exact .inr (.inl ⟨p, vs, rfl, .inl h1, flat_rp rx hf.1, flat_all r1 hf.2, by rw [inF_rp rx hf.1 r1 hf.2]; exact h.symm⟩)
    · split at h
      · rename_i p ps e1 e2
        split at h
        · rename_i hs
          rw [Bool.and_eq_true] at hs
          injection h with h
          exact .inr (.inr ⟨p, ps, toPy_rd o rx e1, toPyL_rd o ry e e2, hs.1, hs.2, h.symm⟩)
        · cases h
      · cases h
  · rename_i ds e
    split at h
    · rename_i hf
      rw [Bool.and_eq_true] at hf
      injection h with h
      obtain ⟨p, vs, rfl, h1, r1⟩ := rd_tup o ry e
      exact .inr (.inl ⟨p, vs, rfl, .inr h1, flat_rp rx hf.1, flat_all r1 hf.2, by rw [inF_rp rx hf.1 r1 hf.2]; exact h.symm⟩)
    · cases h
  · cases h
def rInA (K : PySem.W.Frag) : R2 := fun x y H Q => (∃ (c : Nat) (z : Str), x = .str ⟨#[c]⟩ ∧ y = .str z ∧ Q (.bl (decide (c ∈ z.cps.toList))) H) ∨ rIn K false x y H Q ∨ rInD K x y H Q
def rNotInA (K : PySem.W.Frag) : R2 := fun x y H Q => (∃ (c : Nat) (z : Str), x = .str ⟨#[c]⟩ ∧ y = .str z ∧ Q (.bl (!decide (c ∈ z.cps.toList))) H) ∨ rIn K true x y H Q ∨ rNotInD K x y H Q
theorem opIn {X : Cx} (hu : X.A.units + 65 < cLine) : OpR X (compareOp .In) (rInA X.K) := op_in_sign.or (op_in_seq.or (op_inD hu))
theorem opNotIn {X : Cx} (hu : X.A.units + 65 < cLine) : OpR X (compareOp .NotIn) (rNotInA X.K) := op_notIn_sign.or (op_notIn_seq.or (op_notInD hu))
theorem fIn_ok : OpS K mg (rInA K) fIn := by
  intro W σ Q s x y dx dy o rx ry h
  unfold fIn at h
  split at h
  · rename_i b e
    rcases inD_ok o rx ry e with ⟨c, z, rfl, rfl, rfl⟩ | ⟨p, xs, rfl, h1, h2, h3, rfl⟩ | ⟨d, ds, h1, h2, h3, h4, rfl⟩
    · exact .inl ⟨c, z, rfl, rfl, h.val o .bl⟩
    · exact .inr (.inl ⟨p, xs, rfl, h1, h2, h3, h.val o .bl⟩)
    · exact .inr (.inr ⟨d, ds, h1, h2, h3, h4, h.val o .bl⟩)
  · exact h.elim
theorem fNotIn_ok : OpS K mg (rNotInA K) fNotIn := by
  intro W σ Q s x y dx dy o rx ry h
  unfold fNotIn at h
  split at h
  · rename_i b e
    rcases inD_ok o rx ry e with ⟨c, z, rfl, rfl, rfl⟩ | ⟨p, xs, rfl, h1, h2, h3, rfl⟩ | ⟨d, ds, h1, h2, h3, h4, rfl⟩
    · exact .inl ⟨c, z, rfl, rfl, h.val o .bl⟩
    · exact .inr (.inl ⟨p, xs, rfl, h1, h2, h3, h.val o .bl⟩)
    · exact .inr (.inr ⟨d, ds, h1, h2, h3, h4, h.val o .bl⟩)
  · exact h.elim
end
/-! ### backwards -/
def sRev (m : SemE) : SemE := fun env S => (m env S).bind fun x S1 => match rd S1 x with
  | .lst ds => .ok (.lst ds.reverse) S1
  | .str z => if z.length ≤ lim then .ok (.str (mkS z.cps.toList.reverse)) S1 else .bad
  | _ => .bad
section
variable {X : Cx} {W : WX}
theorem picked_rev (z : Str) (tk : Tok) : (PySem.slicePicked z none none (some (-1, tk))).filterMap (z.cps[·]?) = z.cps.toList.reverse := by
  show (Builtin.Str.strSliceIndices none none (-1) z.length).filterMap _ = _
  have e : Builtin.Str.strSliceIndices none none (-1) z.length = sliceRange ((z.length : Int) - 1) (-1) (-1) := rfl
  rw [e, PySem.W.krv_sliceRange, PySem.W.krv_range, List.filterMap_reverse]
  have := PySem.W.krv_all z.cps
  rw [show z.length = z.cps.size from rfl, this]
theorem xRev {e : Expr} {m : SemE} {k : Nat} {p1 p2 p3 pos : Pos} (he : PE X e (tE X.K X.mg W m)) : PE X (.Subscript e (.Slice none none (some (.UnaryOp .USub (.Constant (.int 1) k p1) p2)) p3) pos) (tE X.K X.mg W (sRev m)) := by
  refine ⟨fun pins s σ H Q I h => ?_⟩
  obtain ⟨t, env, rfl, o, eo, h⟩ := h
  have h0 : tE X.K X.mg W m σ t.H (fun x H1 => ∃ (t2 : Stt) (d : D), t2.H = H1 ∧ Ok X.K X.mg t2 ∧ Rp X.K X.mg t2.Hf t2.ρ x d ∧ RS X.K X.mg (RE X.K X.mg) W σ Q t2 (match rd t2.S d with
    | .lst ds => .ok (.lst ds.reverse) t2.S
    | .str z => if z.length ≤ lim then .ok (.str (mkS z.cps.toList.reverse)) t2.S else .bad
    | _ => .bad)) := RS.go (R := RE X.K X.mg) h o eo fun x t2 d o2 l2 r2 h => ⟨t2, d, rfl, o2, r2, h⟩
  refine PyProof.Rows.Subscript_ (thn (he.run pins s σ t.H _ I h0) fun v s1 ⟨x, H1, I1, r1, t2, d, e1, o2, r2, h⟩ => ?_)
  subst e1
  have hst : PO X (some (.UnaryOp .USub (.Constant (.int 1) k p1) p2)) (tPart (tUn (rU fun i => .int (-i)) (tC (.int 1)))) := po_some (pe_un un_neg pe_int)
  refine wpAny_Slice (thn (po_none.run pins s1 σ t2.H (fun o H2 => o = none ∧ H2 = t2.H) I1 ⟨rfl, rfl⟩) fun vl s2 ⟨l, H2, I2, pl, el, e2⟩ => ?_)
  subst el e2
  refine thn (po_none.run pins s2 σ _ (fun o H3 => o = none ∧ H3 = t2.H) I2 ⟨rfl, rfl⟩) fun vu s3 ⟨u, H3, I3, pu, eu, e3⟩ => ?_
  subst eu e3
  refine thn (hst.run pins s3 σ _ (fun o H4 => o = some (-1) ∧ H4 = t2.H) I3 ⟨1, rfl, -1, rfl, rfl, rfl⟩) fun vs s4 ⟨o, H4, I4, ps, eo, e4⟩ => ?_
  subst eo e4
  have I5 : Inv X pins σ t2.H { s4 with heap := s4.heap.push { cls := .type "slice", data := .fields #[vl, vu, vs] } } := I4.kept (t' := s4.toks) fun b ob q => Heap.get?_push_of_some _ q
  show wpAny (model X.prog X.w) X.A (PyProof.Rows.subscriptTail e (.Slice none none (some (.UnaryOp .USub (.Constant (.int 1) k p1) p2)) p3) v (.ref s4.heap.objs.size)) (EP X pins σ Q) X.xe { s4 with heap := s4.heap.push { cls := .type "slice", data := .fields #[vl, vu, vs] } }
  split at h
  · rename_i ds eq
    obtain ⟨a, ws, rfl, sq, rl⟩ := rd_lst o2 r2 eq
    cases r1
    obtain ⟨its, r, ht, hz⟩ := I5.list sq
    have hlen := r.length
    refine PyProof.Rows.tail_any (ops := [.ref a, .ref s4.heap.objs.size]) ht.isList.typeIs (PySem.slot_list_getitem.lookup) ?_ (by with_unfolding_all rfl)
    refine wpAny_getItem_list_slice ht.isList (Heap.IsSliceOf.new _ vl vu vs) pl pu ps (by decide) ?_ (by rw [List.size_toArray]; omega)
    rw [PySem.W.krv_pick]
    refine ⟨.ref _, _, I5.laid (t' := s4.toks) (o := .lst ws.reverse) (fun b ob q => Heap.get?_push_of_some _ q) (Nat.le_refl _) ?_, rfl, h.made o2 (I5.hok.fresh (Nat.le_refl _)) (Rp.newL rl.reverse o2 (I5.hok.fresh (Nat.le_refl _)))⟩
    exact ⟨by rw [List.length_reverse]; exact hz, _, 0, r.reverse, Heap.get?_push_size _ rfl⟩
  · rename_i z eq
    split at h
    · rename_i hl
      have := rd_str o2 r2 eq
      subst this
      obtain ⟨tz, rfl⟩ := r1
      obtain ⟨l, rfl, el⟩ := IsPart.raw pl
      obtain ⟨u, rfl, eu⟩ := IsPart.raw pu
      obtain ⟨w, rfl, ew⟩ := IsPart.raw ps
      cases l with
      | some _ => cases el
      | none =>
      cases u with
      | some _ => cases eu
      | none =>
      cases w with
      | none => cases ew
      | some w =>
      obtain ⟨wi, wt⟩ := w
      injection ew with ew
      simp only at ew
      subst ew
      refine PyProof.Rows.tail_any (ops := [.str z tz, .ref s4.heap.objs.size]) (typeIs_str _ _ _) F.slot_str_getitem.lookup ?_ (by with_unfolding_all rfl)
      refine wpAny_getItem_str_slice (l := none) (u := none) (st := some (-1, wt)) ⟨_, Heap.get?_push_size _ rfl, rfl, rfl⟩ rfl ?_
      show Made.post (if ((-1 : Int) == 1 && (PySem.slicePicked z none none (some (-1, wt))).length == z.length) = true then Made.val (.str z tz) else Made.str ⟨((PySem.slicePicked z none none (some (-1, wt))).filterMap (z.cps[·]?)).toArray⟩) _ _
      rw [if_neg (by simp), picked_rev]
      refine ⟨?_, .str _, t2.H, I5.tok _, ⟨_, rfl⟩, h.val o2 .str⟩
      show (z.cps.toList.reverse).toArray.size ≤ sizeLine
      rw [List.size_toArray, List.length_reverse, Array.length_toList]
      exact lim_le hl
    · exact h.elim
  · exact h.elim
end
end T
end S_TMisc
section S_TCall
set_option Elab.async false
set_option linter.all false
set_option maxRecDepth 100000
set_option maxHeartbeats 4000000
namespace T
open PySem L2
section
variable {X : Cx} {W : WX} {x : Str} {p pos : Pos} {f : Addr} {fd : FuncData} {ps : List Str} {k : Nat} {φ : Fn} {e : Expr} {es : List Expr} {ma mk : SemA}
theorem call_read {K : PySem.W.Frag} {mg : Str → Option Value} {σ : L2.St} {Q : VK} {t : Stt} {ds : List D} {vs : List V} (ot : Ok K mg t) (rv : RpL K mg t.Hf t.ρ vs ds) (h : RS K mg (RE K mg) W σ Q t (φ ds t.S)) : spF φ K mg vs t.H Q (fun c x H' => W c x σ H') := by
  refine ⟨t, ds, rfl, ot, rv, ?_⟩
  cases r : φ ds t.S with
  | ok d S2 => rw [r] at h; exact h
  | exc C fs S2 => rw [r] at h; exact fun c x t2 a b c2 d => h c x t2 a b c2 d
  | bad => rw [r] at h; exact h
theorem xCall' (F : FnOk X.prog X.w X.K X.mg X.base (L2.CX X.prog X.w) k f fd ps (spF φ X.K X.mg)) (hr : Room k X.A) (hg : Gl X x) (hm : X.mg x = some (.ref f)) (hk : PySem.W.keepIn X.K (.ref f) = true) (hb : Binds X.K fd ps []) (tk : Psg X W)
    (ha : PA X (e :: es) (tA X.K X.mg W ma)) (hdb : (x == ("__debug__" : Str)) = false) (he : starEach (e :: es) X.env = (false, eval e X.env) :: starEach es X.env) (hpl : (backTo pos (starEach es X.env)).any (·.1) = false) :
    PE X (.Call (.Name x p) (e :: es) [] pos) (tE X.K X.mg W (sCall φ ma)) :=
  (pe_callSD (E := fun σ c x H' => W c x σ H') F hr hg hm hk hb .nil tk ha hdb he hpl).mono fun σ H Q h => by
    obtain ⟨s, env, rfl, o, eo, h⟩ := h
    refine RS.go (R := RA X.K X.mg) h o eo fun vs t ds ot lt rv h => ?_
    rw [List.append_nil]
    exact call_read ot rv h
theorem xCall0 (F : FnOk X.prog X.w X.K X.mg X.base (L2.CX X.prog X.w) k f fd ps (spF φ X.K X.mg)) (hr : Room k X.A) (hg : Gl X x) (hm : X.mg x = some (.ref f)) (hk : PySem.W.keepIn X.K (.ref f) = true) (hb : Binds X.K fd ps []) (tk : Psg X W) (hdb : (x == ("__debug__" : Str)) = false) :
    PE X (.Call (.Name x p) [] [] pos) (tE X.K X.mg W (sCall φ aNil)) := by
  refine ⟨fun pins s σ H Q I h => ?_⟩
  obtain ⟨t, env, rfl, o, eo, h⟩ := h
  refine wpAny_Call_Name_kw (ld_glob I hg hm ?_ hdb)
  exact PySem.W.callWith_K0 I.kIn hk (run_fnSD (E := fun σ c x H' => W c x σ H') (us := []) (vs := []) F hr hb .nil (tk σ) I .nil (call_read o .nil h))
/-! keywords -/
def perm {α : Type} (π : List Nat) (l : List α) : List α := π.filterMap (l[·]?)
structure KwB (K : PySem.W.Frag) (fd : FuncData) (ps ks : List Str) (a b : Nat) (π : List Nat) : Prop where
  to : ∀ (s : Shared) (us ws : List Value), K.In s.heap → us.length = a → ws.length = b → BindsTo s fd ⟨us, ks.zip ws⟩ (ps.zip (perm π (us ++ ws)))
def sCallK (φ : Fn) (a b : Nat) (π : List Nat) (ma mk : SemA) : SemE := fun env S => (ma env S).bind fun ds S1 => (mk env S1).bind fun es S2 => if ds.length = a ∧ es.length = b then φ (perm π (ds ++ es)) S2 else .bad
theorem vals_perm {vs : List V} {us : List Value} (r : Vals vs us) : ∀ π : List Nat, Vals (perm π vs) (perm π us)
  | [] => .nil
  | i :: π => by
    unfold perm
    rw [List.filterMap_cons, List.filterMap_cons]
    cases e : vs[i]? with
    | none =>
      rw [r.none_of e]
      exact vals_perm r π
    | some v =>
      obtain ⟨u, h1, h2⟩ := r.get e
      rw [h1]
      exact .cons h2 (vals_perm r π)
theorem rp_perm {K : PySem.W.Frag} {mg : Str → Option Value} {Hf : Hp} {ρ : List Addr} {vs : List V} {ds : List D} (r : RpL K mg Hf ρ vs ds) : ∀ π : List Nat, RpL K mg Hf ρ (perm π vs) (perm π ds)
  | [] => .nil
  | i :: π => by
    unfold perm
    rw [List.filterMap_cons, List.filterMap_cons]
    cases e : vs[i]? with
    | none =>
      have : ds[i]? = none := by
        rw [List.getElem?_eq_none_iff] at e ⊢
        rw [← r.length]
        exact e
      rw [this]
      exact rp_perm r π
    | some v =>
      obtain ⟨u, h1, h2⟩ := r.get e
      rw [h1]
      exact .cons h2 (rp_perm r π)
theorem zKw0 : PK X [] (tA X.K X.mg W aNil) := ⟨fun ps pins s σ H Q I h => pk_nil.run ps pins s σ H Q I (by
  obtain ⟨t, env, rfl, o, eo, h⟩ := h
  exact h [] t o rfl (Le.refl t) .nil)⟩
theorem zKw {m : SemE} {nm : Option Str} {kpos : Pos} {kws : List Keyword} (ha : PE X e (tE X.K X.mg W m)) (hr : PK X kws (tA X.K X.mg W ma)) : PK X (⟨nm, e, kpos⟩ :: kws) (tA X.K X.mg W (aCons m ma)) := ⟨fun ps pins s σ H Q I h => (pk_cons ha hr).run ps pins s σ H Q I (by
  obtain ⟨t, env, rfl, o, eo, h⟩ := h
  refine RS.go (R := RE X.K X.mg) h o eo fun x t dx ot lt rx h => ?_
  refine RS.go (R := RA X.K X.mg) h ot (eo.le lt) fun y u dy ou lu ry h => ?_
  exact h (x :: y) u ou rfl (Le.refl u) (.cons (rx.le lu) ry))⟩
theorem run_kw {a b : Nat} {π : List Nat} {ks : List Str} {pins : List (Addr × Obj)} {σ : L2.St} {s : Shared} {Q : VK} {us ws : List Value} {vs zs : List V} {t : Stt} {ds es : List D} (F : FnOk X.prog X.w X.K X.mg X.base (L2.CX X.prog X.w) k f fd ps (spF φ X.K X.mg)) (hr : Room k X.A) (hb : KwB X.K fd ps ks a b π) (tk : Psg X W)
    (I : Inv X pins σ t.H s) (r : Vals vs us) (rz : Vals zs ws) (ot : Ok X.K X.mg t) (rv : RpL X.K X.mg t.Hf t.ρ vs ds) (rw' : RpL X.K X.mg t.Hf t.ρ zs es)
    (h : RS X.K X.mg (RE X.K X.mg) W σ Q t (if ds.length = a ∧ es.length = b then φ (perm π (ds ++ es)) t.S else .bad)) : wpAny (model X.prog X.w) X.A (call (.ref f) us (ks.zip ws)) (EP X pins σ Q) X.xe s := by
  split at h
  · rename_i hl
    have hl1 : us.length = a := by rw [← r.length, rv.length]; exact hl.1
    have hl2 : ws.length = b := by rw [← rz.length, rw'.length]; exact hl.2
    have sp := call_read (W := W) (σ := σ) (Q := Q) ot (rp_perm (rv.append rw') π) h
    refine wpAny_call (codeAny_mono (F.run X.A X.stack s t.H ⟨us, ks.zip ws⟩ (perm π (us ++ ws)) (perm π (vs ++ zs)) Q (fun c x H' => W c x σ H') hr I.env0 (hb.to s us ws I.kIn hl1 hl2) (vals_perm (r.append rz) π) sp) fun r z hq => ?_)
    cases r with
    | error e => exact tk σ pins t.H s e z I hq
    | ok fl =>
      cases fl with
      | ret u => exact I.after hq
      | next => exact False.elim hq
      | brk => exact False.elim hq
      | cont => exact False.elim hq
  · exact h.elim
theorem xCallK0 {b : Nat} {π : List Nat} {ks : List Str} {kws : List Keyword} (F : FnOk X.prog X.w X.K X.mg X.base (L2.CX X.prog X.w) k f fd ps (spF φ X.K X.mg)) (hr : Room k X.A) (hg : Gl X x) (hm : X.mg x = some (.ref f)) (hk : PySem.W.keepIn X.K (.ref f) = true) (hb : KwB X.K fd ps ks 0 b π) (tk : Psg X W)
    (hkw : PK X kws (tA X.K X.mg W mk)) (hall : (backToKw pos (keywordEach kws X.env)).all (·.1.isSome) = true) (hks : (backToKw pos (keywordEach kws X.env)).filterMap (·.1) = ks) (hdb : (x == ("__debug__" : Str)) = false)
    (hpl : ((backTo pos (starEach [] X.env)).any (·.1) || (backToKw pos (keywordEach kws X.env)).any (·.1.isNone)) = false) :
    PE X (.Call (.Name x p) [] kws pos) (tE X.K X.mg W (sCallK φ 0 b π aNil mk)) := by
  refine ⟨fun pins s σ H Q I h => ?_⟩
  obtain ⟨t, env, rfl, o, eo, h⟩ := h
  refine wpAny_Call_Name_kw (ld_glob I hg hm ?_ hdb)
  refine PySem.W.callWith_KW0 (h₀ := X.base) I.ok.mod.kin hk hall ?_ hpl
  have h2 : tA X.K X.mg W mk σ t.H (fun zs H2 => ∃ (u : Stt) (es : List D), u.H = H2 ∧ Ok X.K X.mg u ∧ RpL X.K X.mg u.Hf u.ρ zs es ∧ RS X.K X.mg (RE X.K X.mg) W σ Q u (if ([] : List D).length = 0 ∧ es.length = b then φ (perm π ([] ++ es)) u.S else .bad)) :=
    RS.go (R := RA X.K X.mg) (k := fun es S2 => if ([] : List D).length = 0 ∧ es.length = b then φ (perm π ([] ++ es)) S2 else .bad) h o eo fun zs u es ou lu rz h => ⟨u, es, rfl, ou, rz, h⟩
  refine thn (hkw.run pos pins s σ t.H _ I h2) fun ws s2 ⟨zs, H2, I2, rz, u, es, e1, ou, rw', h⟩ => ⟨I2.kIn, ?_⟩
  subst e1
  rw [hks]
  exact run_kw (us := []) (vs := []) (ds := []) F hr hb tk I2 .nil rz ou .nil rw' h
theorem xCallK {a b : Nat} {π : List Nat} {ks : List Str} {kws : List Keyword} (F : FnOk X.prog X.w X.K X.mg X.base (L2.CX X.prog X.w) k f fd ps (spF φ X.K X.mg)) (hr : Room k X.A) (hg : Gl X x) (hm : X.mg x = some (.ref f)) (hk : PySem.W.keepIn X.K (.ref f) = true) (hb : KwB X.K fd ps ks a b π) (tk : Psg X W)
    (ha : PA X (e :: es) (tA X.K X.mg W ma)) (hkw : PK X kws (tA X.K X.mg W mk)) (hall : (backToKw pos (keywordEach kws X.env)).all (·.1.isSome) = true) (hks : (backToKw pos (keywordEach kws X.env)).filterMap (·.1) = ks) (hdb : (x == ("__debug__" : Str)) = false) (he : starEach (e :: es) X.env = (false, eval e X.env) :: starEach es X.env)
    (hpl : ((backTo pos (starEach (e :: es) X.env)).any (·.1) || (backToKw pos (keywordEach kws X.env)).any (·.1.isNone)) = false) :
    PE X (.Call (.Name x p) (e :: es) kws pos) (tE X.K X.mg W (sCallK φ a b π ma mk)) := by
  refine ⟨fun pins s σ H Q I h => ?_⟩
  obtain ⟨t, env, rfl, o, eo, h⟩ := h
  refine wpAny_Call_Name_kw (ld_glob I hg hm ?_ hdb)
  have h1 : tA X.K X.mg W ma σ t.H (fun vs H1 => ∃ (u : Stt) (ds : List D), u.H = H1 ∧ Ok X.K X.mg u ∧ EnvOk X.K X.mg u σ env ∧ RpL X.K X.mg u.Hf u.ρ vs ds ∧ RS X.K X.mg (RE X.K X.mg) W σ Q u ((mk env u.S).bind fun es S2 => if ds.length = a ∧ es.length = b then φ (perm π (ds ++ es)) S2 else .bad)) :=
    RS.go (R := RA X.K X.mg) h o eo fun vs u ds ou lu rv h => ⟨u, ds, rfl, ou, eo.le lu, rv, h⟩
  refine PySem.W.callWith_KW (h₀ := X.base) I.ok.mod.kin hk hall (thn (ha.run pos pins s σ t.H _ I h1) fun us s1 ⟨vs, H1, I1, r, u, ds, e1, ou, eu, rv, h⟩ => ?_) hpl he
  subst e1
  have h2 : tA X.K X.mg W mk σ u.H (fun zs H2 => ∃ (u2 : Stt) (es : List D), u2.H = H2 ∧ Ok X.K X.mg u2 ∧ RpL X.K X.mg u2.Hf u2.ρ vs ds ∧ RpL X.K X.mg u2.Hf u2.ρ zs es ∧ RS X.K X.mg (RE X.K X.mg) W σ Q u2 (if ds.length = a ∧ es.length = b then φ (perm π (ds ++ es)) u2.S else .bad)) :=
    RS.go (R := RA X.K X.mg) h ou eu fun zs u2 es o2 l2 rz h => ⟨u2, es, rfl, o2, rv.le l2, rz, h⟩
  refine thn (hkw.run pos pins s1 σ u.H _ I1 h2) fun ws s2 ⟨zs, H2, I2, rz, u2, es, e2, o2, rv2, rw2, h⟩ => ⟨I2.kIn, ?_⟩
  subst e2
  rw [hks]
  exact run_kw F hr hb tk I2 r rz o2 rv2 rw2 h
/-- a module's constant -/
theorem xGlob {v : V} {u : Value} {d : D} (hg : Gl X x) (hm : X.mg x = some u) (r : RelV v u) (hd : (x == ("__debug__" : Str)) = false) (rp : ∀ Hf ρ, Rp X.K X.mg Hf ρ v d) : PE X (.Name x pos) (tE X.K X.mg W (sC d)) := xC (pe_glob hg hm r hd) rp
end
/-! ### a def's own cells go with it -/
mutual
def below (n : Nat) : D → Bool
  | .cell k => decide (k < n)
  | .tup ds => belowL n ds
  | .lst ds => belowL n ds
  | .rdl ds => belowL n ds
  | .dk kvs => belowK n kvs
  | .obj _ fs => belowF n fs
  | .exc _ fs => belowF n fs
  | _ => true
def belowL (n : Nat) : List D → Bool
  | [] => true
  | d :: ds => below n d && belowL n ds
def belowF (n : Nat) : List (Str × D) → Bool
  | [] => true
  | (_, d) :: ds => below n d && belowF n ds
def belowK (n : Nat) : List (Key × D) → Bool
  | [] => true
  | (_, d) :: ds => below n d && belowK n ds
end
def belowC (n : Nat) : Cel → Bool
  | .lv d => below n d
  | .fz d => below n d
section
variable {K : PySem.W.Frag} {mg : Str → Option Value} {Hf : Hp} {ρ : List Addr}
mutual
theorem Rp.cut (n : Nat) : ∀ (d : D) {v : V}, Rp K mg Hf ρ v d → below n d = true → Rp K mg Hf (ρ.take n) v d
  | .non, v, h, _ => by cases h; exact .non
  | .bl _, v, h, _ => by cases h; exact .bl
  | .int _, v, h, _ => by cases h; exact .int
  | .str _, v, h, _ => by cases h; exact .str
  | .tup ds, v, h, b => by cases h with | tup h1 h2 => exact .tup h1 (RpL.cut n ds h2 b)
  | .lst ds, v, h, b => by cases h with | lst h1 h2 => exact .lst h1 (RpL.cut n ds h2 b)
  | .rdl ds, v, h, b => by cases h with | rdl h1 h2 => exact .rdl h1 (RpL.cut n ds h2 b)
  | .dk ds, v, h, b => by cases h with | dk h1 h2 => exact .dk h1 (RpK.cut n ds h2 b)
  | .obj C ds, v, h, b => by cases h with | obj h1 h2 h3 => exact .obj h1 h2 (RpF.cut n ds h3 b)
  | .exc C ds, v, h, b => by cases h with | exc h1 h2 h3 h4 => exact .exc h1 h2 h3 (RpF.cut n ds h4 b)
  | .cell k, v, h, b => by
    cases h with
    | cell h1 =>
      refine .cell ?_
      have hk : k < n := by simpa [below] using b
      rw [List.getElem?_take_of_lt hk]
      exact h1
theorem RpL.cut (n : Nat) : ∀ (ds : List D) {vs : List V}, RpL K mg Hf ρ vs ds → belowL n ds = true → RpL K mg Hf (ρ.take n) vs ds
  | [], vs, h, _ => by cases h; exact .nil
  | d :: ds, vs, h, b => by
    simp only [belowL, Bool.and_eq_true] at b
    cases h with | cons h1 h2 => exact .cons (Rp.cut n d h1 b.1) (RpL.cut n ds h2 b.2)
theorem RpF.cut (n : Nat) : ∀ (ds : List (Str × D)) {vs : List (Str × V)}, RpF K mg Hf ρ vs ds → belowF n ds = true → RpF K mg Hf (ρ.take n) vs ds
  | [], vs, h, _ => by cases h; exact .nil
  | (_, d) :: ds, vs, h, b => by
    simp only [belowF, Bool.and_eq_true] at b
    cases h with | cons h1 h2 => exact .cons (Rp.cut n d h1 b.1) (RpF.cut n ds h2 b.2)
theorem RpK.cut (n : Nat) : ∀ (ds : List (Key × D)) {vs : List (Key × V)}, RpK K mg Hf ρ vs ds → belowK n ds = true → RpK K mg Hf (ρ.take n) vs ds
  | [], vs, h, _ => by cases h; exact .nil
  | (_, d) :: ds, vs, h, b => by
    simp only [belowK, Bool.and_eq_true] at b
    cases h with | cons h1 h2 => exact .cons (Rp.cut n d h1 b.1) (RpK.cut n ds h2 b.2)
end
theorem CelOk.cut {Hx : Hp} {a : Addr} {d : D} (n : Nat) (h : CelOk K mg Hf ρ Hx a d) (b : below n d = true) : CelOk K mg Hf (ρ.take n) Hx a d := by
  cases d with
  | lst ds => obtain ⟨vs, h1, h2⟩ := h; exact ⟨vs, h1, RpL.cut n ds h2 b⟩
  | dk ds => obtain ⟨vs, h1, h2⟩ := h; exact ⟨vs, h1, RpK.cut n ds h2 b⟩
  | obj C fs => obtain ⟨ca, dx, vs, h0, h1, h2⟩ := h; exact ⟨ca, dx, vs, h0, h1, RpF.cut n fs h2 b⟩
  | _ => exact h.elim
def Stt.cut (t : Stt) (n : Nat) : Stt := { t with ρ := t.ρ.take n, S := t.S.take n }
theorem Ok.cut {t : Stt} (ok : Ok K mg t) (n : Nat) (hb : (t.S.take n).all (belowC n) = true) : Ok K mg (t.cut n) := by
  have bel : ∀ m c, (t.S.take n)[m]? = some c → belowC n c = true := fun m c e => (List.all_eq_true.mp hb) c (List.mem_of_getElem? e)
  have lt : ∀ m (c : Cel), (t.S.take n)[m]? = some c → m < n ∧ t.S[m]? = some c := fun m c e => by
    have h1 : m < n := by
      have := (List.getElem?_eq_some_iff.mp e).1
      rw [List.length_take] at this
      omega
    rw [List.getElem?_take_of_lt h1] at e
    exact ⟨h1, e⟩
  refine ⟨by show (t.ρ.take n).length = (t.S.take n).length; rw [List.length_take, List.length_take, ok.len], List.Nodup.sublist (List.take_sublist _ _) ok.nd, ok.same, fun m d a e1 e2 => ?_, fun m d a e1 e2 => ?_⟩
  · obtain ⟨h1, h2⟩ := lt m _ e1
    have e2 : (t.ρ.take n)[m]? = some a := e2
    rw [List.getElem?_take_of_lt h1] at e2
    obtain ⟨q1, q2⟩ := ok.lv m d a h2 e2
    exact ⟨q1, q2.cut n (bel m _ e1)⟩
  · obtain ⟨h1, h2⟩ := lt m _ e1
    have e2 : (t.ρ.take n)[m]? = some a := e2
    rw [List.getElem?_take_of_lt h1] at e2
    exact (ok.fz m d a h2 e2).cut n (bel m _ e1)
theorem Le.cut {s t : Stt} (os : Ok K mg s) (l : Le s t) : Le s (t.cut s.S.length) := by
  obtain ⟨m, hm⟩ := l.pre
  have e : t.ρ.take s.S.length = s.ρ := by rw [hm, ← os.len, List.take_append_of_le_length (Nat.le_refl _), List.take_length]
  refine ⟨l.same, ⟨[], by show t.ρ.take s.S.length = s.ρ ++ []; rw [e, List.append_nil]⟩, fun b o e1 e2 e3 => ?_⟩
  obtain ⟨q1, q2, q3⟩ := l.prv b o e1 e2 e3
  exact ⟨q1, q2, fun w => q3 (List.mem_of_mem_take w)⟩
end
/-- hand back: a list of one's own is frozen, the rest of one's own cells is dropped -/
def finC (n : Nat) (d : D) (S : Sto) : Res D := match d with
  | .cell k => if k < n then (if (S.take n).all (belowC n) then .ok (.cell k) (S.take n) else .bad) else (match S[k]? with
    | some (.lv (.lst ds)) => if belowL n ds && (S.take n).all (belowC n) then .ok (.lst ds) (S.take n) else .bad
    | some (.fz (.lst ds)) => if belowL n ds && (S.take n).all (belowC n) then .ok (.lst ds) (S.take n) else .bad
    | _ => .bad)
  | d => if below n d && (S.take n).all (belowC n) then .ok d (S.take n) else .bad
def fnEndC (n : Nat) : ResS → Res D
  | .rt d S1 => finC n d S1
  | .nx _ S1 => finC n .non S1
  | .exc C fs _ S1 => if belowF n fs && (S1.take n).all (belowC n) then .exc C fs (S1.take n) else .bad
  | _ => .bad
/-- as fnOf, for a def with cells of its own -/
def fnCut (n N : Nat) (m : SemS) : Fn := fun ds S => if ds.length = n then fnEndC S.length (m (entry N ds) S) else .bad
/-- as fnOf, whatever is left of cells -/
def fnEndR : ResS → Res D
  | .rt d S1 => .ok d S1
  | .nx _ S1 => .ok .non S1
  | .exc C fs _ S1 => .exc C fs S1
  | _ => .bad
def fnRaw (n N : Nat) (m : SemS) : Fn := fun ds S => if ds.length = n then fnEndR (m (entry N ds) S) else .bad
section
variable {K : PySem.W.Frag} {mg : Str → Option Value}
theorem frz_same {t : Stt} {n : Nat} {S : Sto} (c : Cel) (k : Nat) (hk : n ≤ k) : (S.set k c).take n = S.take n := by
  rw [List.take_set, List.set_eq_of_length_le]
  rw [List.length_take]
  omega
theorem finC_ok {s t : Stt} {W : WX} {Q : VK} {v : V} {d : D} (os : Ok K mg s) (ot : Ok K mg t) (l : Le s t) (r : Rp K mg t.Hf t.ρ v d) (h : RS K mg (RE K mg) W [] Q s (finC s.S.length d t.S)) : Q v t.H := by
  unfold finC at h
  split at h
  · rename_i k
    split at h
    · rename_i hk
      split at h
      · rename_i hb
        exact h v (t.cut s.S.length) (ot.cut _ hb) rfl (Le.cut os l) (Rp.cut _ _ r (by simpa [below] using hk))
      · exact h.elim
    · rename_i hk
      split at h
      · rename_i ds e
        split at h
        · rename_i hb
          rw [Bool.and_eq_true] at hb
          obtain ⟨a, ws, rfl, h1, h2, r2⟩ := cell_lst ot r e
          have o2 := ot.frz e h1 h2
          have l2 := Le.frz (o := .lst ws) ot e h1
          have ec : ((t.frz k a (.lst ws) (.lst ds)).S).take s.S.length = t.S.take s.S.length := frz_same (t := t) _ k (by omega)
          have o3 := o2.cut s.S.length (by rw [ec]; exact hb.2)
          refine h (.ref a) ((t.frz k a (.lst ws) (.lst ds)).cut s.S.length) o3 ec (Le.cut os (l.trans l2)) ?_
          exact .lst upd_same (RpL.cut _ ds (r2.le l2) hb.1)
        · exact h.elim
      · rename_i ds e
        split at h
        · rename_i hb
          rw [Bool.and_eq_true] at hb
          cases r with
          | cell h1 =>
            obtain ⟨ws, g1, g2⟩ := ot.fz k _ _ e h1
            exact h _ (t.cut s.S.length) (ot.cut _ hb.2) rfl (Le.cut os l) (.lst g1 (RpL.cut _ ds g2 hb.1))
        · exact h.elim
      · exact h.elim
  · split at h
    · rename_i hb
      rw [Bool.and_eq_true] at hb
      exact h v (t.cut s.S.length) (ot.cut _ hb.2) rfl (Le.cut os l) (Rp.cut _ _ r hb.1)
    · exact h.elim
end
section
variable {P : Program} {w : World} {K : PySem.W.Frag} {mg : Str → Option Value} {base : Heap}
theorem fn_okC {x qual : Str} {params : Arguments} {body : List Stmt} {scope : Scope} {dvs : List V} {kws : List (Str × V)} {f : Addr} {fd : FuncData} {N ps : List Str} {k n : Nat} {m : SemS} (F : FunD K x qual params body scope dvs kws f fd) (S : FnScope N ps scope) (hn : ps.length = n)
    (hb : ∀ (cdv : Value) (A : Around) (outer : List PySem.Env) (s : Shared) (H : Hp) (E : XK), Room k (A.deeper (PyProof.Rows.envOfC qual scope s.heap.objs.size f cdv)) → Takes (cxOf (L2.CX P w) P w K mg base N qual scope f cdv A outer s H E) (WE E) →
      PSs (cxOf (L2.CX P w) P w K mg base N qual scope f cdv A outer s H E) body (tS K mg (WE E) m)) : FnOk P w K mg base (L2.CX P w) (k + 1) f fd ps (spF (fnCut n N.length m) K mg) := by
  refine FunD.ok F S (fun vs H Q E h => ?_) (fun cdv A outer s H vs Q E hr h => ⟨_, hb cdv A outer s H E hr (takes_of rfl rfl rfl rfl), ?_⟩)
  · obtain ⟨s, ds, _, _, r, e⟩ := h
    unfold fnCut at e
    split at e
    · rw [r.length, hn]; assumption
    · exact e.elim
  · obtain ⟨s, ds, rfl, o, r, h⟩ := h
    refine ⟨s, entry N.length ds, rfl, o, entry_ok r, ?_⟩
    unfold fnCut at h
    rw [if_pos (by split at h; assumption; exact h.elim)] at h
    cases q : m (entry N.length ds) s.S with
    | rt d S1 =>
      rw [q] at h
      intro v t ot et lt rv
      subst et
      exact finC_ok o ot lt rv h
    | nx env S1 =>
      rw [q] at h
      intro v t ot et lt rv
      subst et
      exact finC_ok o ot lt .non h
    | exc C fs env S1 =>
      rw [q] at h
      intro c x σ' t ot et lt eo xr
      subst et
      dsimp only [fnEndC] at h
      split at h
      · rename_i hb
        rw [Bool.and_eq_true] at hb
        obtain ⟨ca, vfs, h1, h2, h3, h4⟩ := xr
        exact h c x (t.cut s.S.length) (ot.cut _ hb.2) rfl (Le.cut o lt) ⟨ca, vfs, h1, h2, h3, RpF.cut _ fs h4 hb.1⟩
      · exact h.elim
    | bk env S1 => rw [q] at h; exact h.elim
    | ct env S1 => rw [q] at h; exact h.elim
    | bad => rw [q] at h; exact h.elim
theorem fn_okR {x qual : Str} {params : Arguments} {body : List Stmt} {scope : Scope} {dvs : List V} {kws : List (Str × V)} {f : Addr} {fd : FuncData} {N ps : List Str} {k n : Nat} {m : SemS} (F : FunD K x qual params body scope dvs kws f fd) (S : FnScope N ps scope) (hn : ps.length = n)
    (hb : ∀ (cdv : Value) (A : Around) (outer : List PySem.Env) (s : Shared) (H : Hp) (E : XK), Room k (A.deeper (PyProof.Rows.envOfC qual scope s.heap.objs.size f cdv)) → Takes (cxOf (L2.CX P w) P w K mg base N qual scope f cdv A outer s H E) (WE E) →
      PSs (cxOf (L2.CX P w) P w K mg base N qual scope f cdv A outer s H E) body (tS K mg (WE E) m)) : FnOk P w K mg base (L2.CX P w) (k + 1) f fd ps (spF (fnRaw n N.length m) K mg) := by
  refine FunD.ok F S (fun vs H Q E h => ?_) (fun cdv A outer s H vs Q E hr h => ⟨_, hb cdv A outer s H E hr (takes_of rfl rfl rfl rfl), ?_⟩)
  · obtain ⟨s, ds, _, _, r, e⟩ := h
    unfold fnRaw at e
    split at e
    · rw [r.length, hn]; assumption
    · exact e.elim
  · obtain ⟨s, ds, rfl, o, r, h⟩ := h
    refine ⟨s, entry N.length ds, rfl, o, entry_ok r, ?_⟩
    unfold fnRaw at h
    rw [if_pos (by split at h; assumption; exact h.elim)] at h
    cases q : m (entry N.length ds) s.S with
    | rt d S1 => rw [q] at h; exact h
    | nx env S1 => rw [q] at h; exact fun σ' t ot et lt _ => h .non t ot et lt .non
    | exc C fs env S1 => rw [q] at h; exact fun c x σ' t ot et lt eo xr => h c x t ot et lt xr
    | bk env S1 => rw [q] at h; exact h.elim
    | ct env S1 => rw [q] at h; exact h.elim
    | bad => rw [q] at h; exact h.elim
end
end T
end S_TCall
section S_TUse
set_option Elab.async false
set_option linter.all false
set_option maxRecDepth 100000
set_option maxHeartbeats 4000000
namespace T
open PySem L2
theorem u65 {k : Nat} {A : Around} (r : Room k A) : A.units + 65 < cLine := by have := r.un; omega
section
variable {X : Cx} {W : WX} {x : Str} {p pos : Pos} {e a b c : Expr} {es rest : List Expr} {m ma mb mc : SemE} {as ks : SemA}
theorem uV (i : Nat) (hN : X.N[i]? = some x := by rfl) (hv : Vis X.env.scope x := by first | exact Or.inl rfl | exact Or.inr (Or.inl rfl) | exact Or.inr (Or.inr rfl)) (hd : (x == ("__debug__" : Str)) = false := by decide) (hcd : (x == ("__classdict__" : Str)) = false := by decide) :
    PE X (.Name x pos) (tE X.K X.mg W (sV i)) := xV i hN hv hd hcd
theorem uCons (ha : PE X e (tE X.K X.mg W m)) (hr : PA X es (tA X.K X.mg W as)) (hs : starEach (e :: es) X.env = (false, eval e X.env) :: starEach es X.env := by rfl) : PA X (e :: es) (tA X.K X.mg W (aCons m as)) := zCons ha hr hs
theorem uAdd (ha : PE X a (tE X.K X.mg W ma)) (hb : PE X b (tE X.K X.mg W mb)) : PE X (.BinOp a .Add b pos) (tE X.K X.mg W (sOp fAdd ma mb)) := xOp opAdd fAdd_ok ha hb
theorem uSub (ha : PE X a (tE X.K X.mg W ma)) (hb : PE X b (tE X.K X.mg W mb)) : PE X (.BinOp a .Sub b pos) (tE X.K X.mg W (sOp fSub ma mb)) := xOp op_sub fSub_ok ha hb
theorem uMul (ha : PE X a (tE X.K X.mg W ma)) (hb : PE X b (tE X.K X.mg W mb)) : PE X (.BinOp a .Mult b pos) (tE X.K X.mg W (sOp fMulA ma mb)) := xOp opMulA fMulA_ok ha hb
theorem uDiv (ha : PE X a (tE X.K X.mg W ma)) (hb : PE X b (tE X.K X.mg W mb)) : PE X (.BinOp a .FloorDiv b pos) (tE X.K X.mg W (sOp fDiv ma mb)) := xOp op_fdiv fDiv_ok ha hb
theorem uMod (ha : PE X a (tE X.K X.mg W ma)) (hb : PE X b (tE X.K X.mg W mb)) : PE X (.BinOp a .Mod b pos) (tE X.K X.mg W (sOp fMod ma mb)) := xOp op_mod fMod_ok ha hb
theorem uPow (ha : PE X a (tE X.K X.mg W ma)) (hb : PE X b (tE X.K X.mg W mb)) : PE X (.BinOp a .Pow b pos) (tE X.K X.mg W (sOp fPow ma mb)) := xOp op_pow fPow_ok ha hb
theorem uEq {k : Nat} (hr : Room k X.A) (ha : PE X a (tE X.K X.mg W ma)) (hb : PE X b (tE X.K X.mg W mb)) : PE X (.Compare a [.Eq] [b] pos) (tE X.K X.mg W (sOp fEq ma mb)) := xCmp (opEq hr.units) fEq_ok (nomark _) ha hb
theorem uNe {k : Nat} (hr : Room k X.A) (ha : PE X a (tE X.K X.mg W ma)) (hb : PE X b (tE X.K X.mg W mb)) : PE X (.Compare a [.NotEq] [b] pos) (tE X.K X.mg W (sOp fNe ma mb)) := xCmp (opNe hr.units) fNe_ok (nomark _) ha hb
theorem uLt (ha : PE X a (tE X.K X.mg W ma)) (hb : PE X b (tE X.K X.mg W mb)) : PE X (.Compare a [.Lt] [b] pos) (tE X.K X.mg W (sOp fLt ma mb)) := xCmp opLt fLt_ok (nomark _) ha hb
theorem uLe (ha : PE X a (tE X.K X.mg W ma)) (hb : PE X b (tE X.K X.mg W mb)) : PE X (.Compare a [.LtE] [b] pos) (tE X.K X.mg W (sOp fLe ma mb)) := xCmp opLe fLe_ok (nomark _) ha hb
theorem uGt (ha : PE X a (tE X.K X.mg W ma)) (hb : PE X b (tE X.K X.mg W mb)) : PE X (.Compare a [.Gt] [b] pos) (tE X.K X.mg W (sOp fGt ma mb)) := xCmp opGt fGt_ok (nomark _) ha hb
theorem uGe (ha : PE X a (tE X.K X.mg W ma)) (hb : PE X b (tE X.K X.mg W mb)) : PE X (.Compare a [.GtE] [b] pos) (tE X.K X.mg W (sOp fGe ma mb)) := xCmp opGe fGe_ok (nomark _) ha hb
theorem uIsN (ha : PE X a (tE X.K X.mg W ma)) (hb : PE X b (tE X.K X.mg W mb)) : PE X (.Compare a [.Is] [b] pos) (tE X.K X.mg W (sOp fIsN ma mb)) := xCmp op_isN fIsN_ok (nomark _) ha hb
theorem uNotN (ha : PE X a (tE X.K X.mg W ma)) (hb : PE X b (tE X.K X.mg W mb)) : PE X (.Compare a [.IsNot] [b] pos) (tE X.K X.mg W (sOp fNotN ma mb)) := xCmp op_notN fNotN_ok (nomark _) ha hb
theorem uIn {k : Nat} (hr : Room k X.A) (ha : PE X a (tE X.K X.mg W ma)) (hb : PE X b (tE X.K X.mg W mb)) (hm : behindInMarks .In b = false := by with_unfolding_all rfl) : PE X (.Compare a [.In] [b] pos) (tE X.K X.mg W (sOp fIn ma mb)) := xCmp (opIn (u65 hr)) fIn_ok hm ha hb
theorem uNotIn {k : Nat} (hr : Room k X.A) (ha : PE X a (tE X.K X.mg W ma)) (hb : PE X b (tE X.K X.mg W mb)) (hm : behindInMarks .NotIn b = false := by with_unfolding_all rfl) : PE X (.Compare a [.NotIn] [b] pos) (tE X.K X.mg W (sOp fNotIn ma mb)) := xCmp (opNotIn (u65 hr)) fNotIn_ok hm ha hb
/-! as tests -/
theorem tEq_ {k : Nat} (hr : Room k X.A) (ha : PE X a (tE X.K X.mg W ma)) (hb : PE X b (tE X.K X.mg W mb)) : PT X (.Compare a [.Eq] [b] pos) (tT X.K X.mg W (isB (sOp fEq ma mb))) := wCmp (opEq hr.units) fEq_ok (nomark _) ha hb
theorem tNe_ {k : Nat} (hr : Room k X.A) (ha : PE X a (tE X.K X.mg W ma)) (hb : PE X b (tE X.K X.mg W mb)) : PT X (.Compare a [.NotEq] [b] pos) (tT X.K X.mg W (isB (sOp fNe ma mb))) := wCmp (opNe hr.units) fNe_ok (nomark _) ha hb
theorem tLt_ (ha : PE X a (tE X.K X.mg W ma)) (hb : PE X b (tE X.K X.mg W mb)) : PT X (.Compare a [.Lt] [b] pos) (tT X.K X.mg W (isB (sOp fLt ma mb))) := wCmp opLt fLt_ok (nomark _) ha hb
theorem tLe_ (ha : PE X a (tE X.K X.mg W ma)) (hb : PE X b (tE X.K X.mg W mb)) : PT X (.Compare a [.LtE] [b] pos) (tT X.K X.mg W (isB (sOp fLe ma mb))) := wCmp opLe fLe_ok (nomark _) ha hb
theorem tGt_ (ha : PE X a (tE X.K X.mg W ma)) (hb : PE X b (tE X.K X.mg W mb)) : PT X (.Compare a [.Gt] [b] pos) (tT X.K X.mg W (isB (sOp fGt ma mb))) := wCmp opGt fGt_ok (nomark _) ha hb
theorem tGe_ (ha : PE X a (tE X.K X.mg W ma)) (hb : PE X b (tE X.K X.mg W mb)) : PT X (.Compare a [.GtE] [b] pos) (tT X.K X.mg W (isB (sOp fGe ma mb))) := wCmp opGe fGe_ok (nomark _) ha hb
theorem tIsN_ (ha : PE X a (tE X.K X.mg W ma)) (hb : PE X b (tE X.K X.mg W mb)) : PT X (.Compare a [.Is] [b] pos) (tT X.K X.mg W (isB (sOp fIsN ma mb))) := wCmp op_isN fIsN_ok (nomark _) ha hb
theorem tNotN_ (ha : PE X a (tE X.K X.mg W ma)) (hb : PE X b (tE X.K X.mg W mb)) : PT X (.Compare a [.IsNot] [b] pos) (tT X.K X.mg W (isB (sOp fNotN ma mb))) := wCmp op_notN fNotN_ok (nomark _) ha hb
theorem tIn_ {k : Nat} (hr : Room k X.A) (ha : PE X a (tE X.K X.mg W ma)) (hb : PE X b (tE X.K X.mg W mb)) (hm : behindInMarks .In b = false := by with_unfolding_all rfl) : PT X (.Compare a [.In] [b] pos) (tT X.K X.mg W (isB (sOp fIn ma mb))) := wCmp (opIn (u65 hr)) fIn_ok hm ha hb
theorem tNotIn_ {k : Nat} (hr : Room k X.A) (ha : PE X a (tE X.K X.mg W ma)) (hb : PE X b (tE X.K X.mg W mb)) (hm : behindInMarks .NotIn b = false := by with_unfolding_all rfl) : PT X (.Compare a [.NotIn] [b] pos) (tT X.K X.mg W (isB (sOp fNotIn ma mb))) := wCmp (opNotIn (u65 hr)) fNotIn_ok hm ha hb
theorem tVal (he : PE X a (tE X.K X.mg W m)) (hw : ∀ whole, isTrue a X.env whole = (do let v ← whole; standAt a.pos; holding [v] (truthy v)) := by intro _; rfl) : PT X a (tT X.K X.mg W (isB m)) := wVal he hw
theorem uLeLe (ha : PE X a (tE X.K X.mg W ma)) (hb : PE X b (tE X.K X.mg W mb)) (hc : PE X c (tE X.K X.mg W mc)) (hm : lastMarks [.LtE, .LtE] [b, c] = false := by with_unfolding_all rfl) : PE X (.Compare a [.LtE, .LtE] [b, c] pos) (tE X.K X.mg W (sChain fLe fLe ma mb mc)) := xChain opLe fLe_ok opLe fLe_ok hm ha hb hc
theorem uLtLt (ha : PE X a (tE X.K X.mg W ma)) (hb : PE X b (tE X.K X.mg W mb)) (hc : PE X c (tE X.K X.mg W mc)) (hm : lastMarks [.Lt, .Lt] [b, c] = false := by with_unfolding_all rfl) : PE X (.Compare a [.Lt, .Lt] [b, c] pos) (tE X.K X.mg W (sChain fLt fLt ma mb mc)) := xChain opLt fLt_ok opLt fLt_ok hm ha hb hc
theorem tLeLe_ (ha : PE X a (tE X.K X.mg W ma)) (hb : PE X b (tE X.K X.mg W mb)) (hc : PE X c (tE X.K X.mg W mc)) (hm : lastMarks [.LtE, .LtE] [b, c] = false := by with_unfolding_all rfl) : PT X (.Compare a [.LtE, .LtE] [b, c] pos) (tT X.K X.mg W (isB (sChain fLe fLe ma mb mc))) := wChain opLe fLe_ok opLe fLe_ok hm ha hb hc
theorem tLtLt_ (ha : PE X a (tE X.K X.mg W ma)) (hb : PE X b (tE X.K X.mg W mb)) (hc : PE X c (tE X.K X.mg W mc)) (hm : lastMarks [.Lt, .Lt] [b, c] = false := by with_unfolding_all rfl) : PT X (.Compare a [.Lt, .Lt] [b, c] pos) (tT X.K X.mg W (isB (sChain fLt fLt ma mb mc))) := wChain opLt fLt_ok opLt fLt_ok hm ha hb hc
theorem uIx (ha : PE X a (tE X.K X.mg W ma)) (hb : PE X b (tE X.K X.mg W mb)) (hs : PlainIx b := by exact fun _ _ => rfl) : PE X (.Subscript a b pos) (tE X.K X.mg W (sOp fIx ma mb)) := xIx ha hb hs
/-! built-ins -/
theorem uLen (hm : X.mg "len" = none) (ha : PA X [e] (tA X.K X.mg W as)) (hg : Gl X "len" := by rfl) (he : starEach [e] X.env = (false, eval e X.env) :: starEach [] X.env := by rfl) (hpl : (backTo pos (starEach [] X.env)).any (·.1) = false := by rfl) : PE X (.Call (.Name "len" p) [e] [] pos) (tE X.K X.mg W (sF bLen as)) :=
  xFB call_len bLen_ok PySem.boot_len (by decide) (by decide) hg hm ha he hpl
theorem uAbs (hm : X.mg "abs" = none) (ha : PA X [e] (tA X.K X.mg W as)) (hg : Gl X "abs" := by rfl) (he : starEach [e] X.env = (false, eval e X.env) :: starEach [] X.env := by rfl) (hpl : (backTo pos (starEach [] X.env)).any (·.1) = false := by rfl) : PE X (.Call (.Name "abs" p) [e] [] pos) (tE X.K X.mg W (sF bAbs as)) :=
  xFB call_abs bAbs_ok (by decide +kernel) (by decide) (by decide) hg hm ha he hpl
theorem uAll (hm : X.mg "all" = none) (ha : PA X [e] (tA X.K X.mg W as)) (hc : X.calm = true := by rfl) (hg : Gl X "all" := by rfl) (he : starEach [e] X.env = (false, eval e X.env) :: starEach [] X.env := by rfl) (hpl : (backTo pos (starEach [] X.env)).any (·.1) = false := by rfl) : PE X (.Call (.Name "all" p) [e] [] pos) (tE X.K X.mg W (sF bAll as)) :=
  xFB (cr_all hc) bAll_ok (by decide +kernel) (by decide) (by decide) hg hm ha he hpl
theorem uAny (hm : X.mg "any" = none) (ha : PA X [e] (tA X.K X.mg W as)) (hc : X.calm = true := by rfl) (hg : Gl X "any" := by rfl) (he : starEach [e] X.env = (false, eval e X.env) :: starEach [] X.env := by rfl) (hpl : (backTo pos (starEach [] X.env)).any (·.1) = false := by rfl) : PE X (.Call (.Name "any" p) [e] [] pos) (tE X.K X.mg W (sF bAny as)) :=
  xFB (cr_any hc) bAny_ok (by decide +kernel) (by decide) (by decide) hg hm ha he hpl
theorem uMin2 (hm : X.mg "min" = none) (ha : PA X [e, a] (tA X.K X.mg W as)) (hc : X.calm = true := by rfl) (hg : Gl X "min" := by rfl) (he : starEach [e, a] X.env = (false, eval e X.env) :: starEach [a] X.env := by rfl) (hpl : (backTo pos (starEach [a] X.env)).any (·.1) = false := by rfl) : PE X (.Call (.Name "min" p) [e, a] [] pos) (tE X.K X.mg W (sF bMin2 as)) :=
  xFB (call_min2 hc) bMin2_ok (by decide +kernel) (by decide) (by decide) hg hm ha he hpl
theorem uMax2 (hm : X.mg "max" = none) (ha : PA X [e, a] (tA X.K X.mg W as)) (hc : X.calm = true := by rfl) (hg : Gl X "max" := by rfl) (he : starEach [e, a] X.env = (false, eval e X.env) :: starEach [a] X.env := by rfl) (hpl : (backTo pos (starEach [a] X.env)).any (·.1) = false := by rfl) : PE X (.Call (.Name "max" p) [e, a] [] pos) (tE X.K X.mg W (sF bMax2 as)) :=
  xFB (call_max2 hc) bMax2_ok (by decide +kernel) (by decide) (by decide) hg hm ha he hpl
theorem uSortS (hm : X.mg "sorted" = none) (ha : PA X [e] (tA X.K X.mg W as)) (hg : Gl X "sorted" := by rfl) (he : starEach [e] X.env = (false, eval e X.env) :: starEach [] X.env := by rfl) (hpl : (backTo pos (starEach [] X.env)).any (·.1) = false := by rfl) : PE X (.Call (.Name "sorted" p) [e] [] pos) (tE X.K X.mg W (sF bSortS as)) :=
  xFB cr_sortedS bSortS_ok (by decide +kernel) (by decide) (by decide) hg hm ha he hpl
theorem uInt (hm : X.mg "int" = none) (ha : PA X [e] (tA X.K X.mg W as)) (hg : Gl X "int" := by rfl) (he : starEach [e] X.env = (false, eval e X.env) :: starEach [] X.env := by rfl) (hpl : (backTo pos (starEach [] X.env)).any (·.1) = false := by rfl) : PE X (.Call (.Name "int" p) [e] [] pos) (tE X.K X.mg W (sF bInt as)) :=
  xFT (CallR.or call_int1 call_int_str) bInt_ok (by decide +kernel) (by decide) (by decide) hg hm ha he hpl
theorem uStr (hm : X.mg "str" = none) (ha : PA X [e] (tA X.K X.mg W as)) (hg : Gl X "str" := by rfl) (he : starEach [e] X.env = (false, eval e X.env) :: starEach [] X.env := by rfl) (hpl : (backTo pos (starEach [] X.env)).any (·.1) = false := by rfl) : PE X (.Call (.Name "str" p) [e] [] pos) (tE X.K X.mg W (sF bStr as)) :=
  xFT call_str_int bStr_ok (by decide +kernel) (by decide) (by decide) hg hm ha he hpl
theorem uTuple (hm : X.mg "tuple" = none) (ha : PA X [e] (tA X.K X.mg W as)) (hg : Gl X "tuple" := by rfl) (he : starEach [e] X.env = (false, eval e X.env) :: starEach [] X.env := by rfl) (hpl : (backTo pos (starEach [] X.env)).any (·.1) = false := by rfl) : PE X (.Call (.Name "tuple" p) [e] [] pos) (tE X.K X.mg W (sF bTuple as)) :=
  xFT call_tuple_of bTuple_ok (by decide +kernel) (by decide) (by decide) hg hm ha he hpl
theorem uList (hm : X.mg "list" = none) (ha : PA X [e] (tA X.K X.mg W as)) (hc : X.calm = true := by rfl) (hg : Gl X "list" := by rfl) (he : starEach [e] X.env = (false, eval e X.env) :: starEach [] X.env := by rfl) (hpl : (backTo pos (starEach [] X.env)).any (·.1) = false := by rfl) : PE X (.Call (.Name "list" p) [e] [] pos) (tE X.K X.mg W (sF bListA as)) :=
  xFT (callListA hc) bListA_ok (by decide +kernel) (by decide) (by decide) hg hm ha he hpl
theorem uListC (hm : X.mg "list" = none) (ha : PA X [e] (tA X.K X.mg W as)) (hc : X.calm = true := by rfl) (hg : Gl X "list" := by rfl) (he : starEach [e] X.env = (false, eval e X.env) :: starEach [] X.env := by rfl) (hpl : (backTo pos (starEach [] X.env)).any (·.1) = false := by rfl) : PE X (.Call (.Name "list" p) [e] [] pos) (tE X.K X.mg W (sF bListAC as)) :=
  xFT (callListA hc) bListAC_ok (by decide +kernel) (by decide) (by decide) hg hm ha he hpl
end
end T
end S_TUse
section S_TUse2
set_option Elab.async false
set_option linter.all false
set_option maxRecDepth 100000
set_option maxHeartbeats 4000000
namespace T
open PySem L2
/-- a def that may be called by its name -/
structure Cal (P : Program) (w : World) (K : PySem.W.Frag) (mg : Str → Option Value) (base : Heap) (x : Str) (st : Stmt) (k : Nat) (ps : List Str) (φ : Fn) : Prop where
  ex : ∃ (f : Addr) (fd : FuncData), FunD K x x (defArgs st) (defBody st) (defScope st) [] [] f fd ∧ FnOk P w K mg base (L2.CX P w) k f fd ps (spF φ K mg) ∧ mg x = some (.ref f) ∧ Binds K fd ps []
section
variable {X : Cx} {W : WX} {x : Str} {p pos cpos apos : Pos} {e a b c ob : Expr} {es rest : List Expr} {m ma mb mc : SemE} {as ks : SemA} {tc : SemT}
theorem uCall {st : Stmt} {k j : Nat} {ps : List Str} {φ : Fn} (c : Cal X.prog X.w X.K X.mg X.base x st k ps φ) (hr : Room j X.A) (tk : Psg X W) (ha : PA X (e :: es) (tA X.K X.mg W as)) (hk : k ≤ j := by decide) (hg : Gl X x := by rfl) (hdb : (x == ("__debug__" : Str)) = false := by decide)
    (he : starEach (e :: es) X.env = (false, eval e X.env) :: starEach es X.env := by rfl) (hpl : (backTo pos (starEach es X.env)).any (·.1) = false := by rfl) : PE X (.Call (.Name x p) (e :: es) [] pos) (tE X.K X.mg W (sCall φ as)) := by
  obtain ⟨f, fd, F, G, hm, hb⟩ := c.ex
  exact xCall' G (hr.mono hk) hg hm F.kp hb tk ha hdb he hpl
theorem uCall0 {st : Stmt} {k j : Nat} {ps : List Str} {φ : Fn} (c : Cal X.prog X.w X.K X.mg X.base x st k ps φ) (hr : Room j X.A) (tk : Psg X W) (hk : k ≤ j := by decide) (hg : Gl X x := by rfl) (hdb : (x == ("__debug__" : Str)) = false := by decide) : PE X (.Call (.Name x p) [] [] pos) (tE X.K X.mg W (sCall φ aNil)) := by
  obtain ⟨f, fd, F, G, hm, hb⟩ := c.ex
  exact xCall0 G (hr.mono hk) hg hm F.kp hb tk hdb
/-- f(k = v, ..): π tells where each parameter stands -/
theorem uCallK0 {st : Stmt} {k j b : Nat} {ps : List Str} {φ : Fn} {kws : List Keyword} (π : List Nat) (kn : List Str) (c : Cal X.prog X.w X.K X.mg X.base x st k ps φ) (hr : Room j X.A) (tk : Psg X W)
    (hb : ∀ (kV doc pm : Value) (an : Option Addr) (cdv ct : Value) (ws : List Value), ws.length = b → bindArgs (PySem.W.fnOf x x (defArgs st) (defBody st) (defScope st) .none kV doc pm an cdv ct) ⟨[], kn.zip ws⟩ = pure (ps.zip (perm π ws)))
    (hkw : PK X kws (tA X.K X.mg W ks)) (hall : (backToKw pos (keywordEach kws X.env)).all (·.1.isSome) = true := by rfl) (hks : (backToKw pos (keywordEach kws X.env)).filterMap (·.1) = kn := by rfl) (hk : k ≤ j := by decide) (hg : Gl X x := by rfl) (hdb : (x == ("__debug__" : Str)) = false := by decide)
    (hpl : ((backTo pos (starEach [] X.env)).any (·.1) || (backToKw pos (keywordEach kws X.env)).any (·.1.isNone)) = false := by rfl) : PE X (.Call (.Name x p) [] kws pos) (tE X.K X.mg W (sCallK φ 0 b π aNil ks)) := by
  obtain ⟨f, fd, F, G, hm, _⟩ := c.ex
  have B : KwB X.K fd ps kn 0 b π := by
    obtain ⟨oc, od, dV, kV, doc, pm, an, cdv, ct, osl, rfl, lk, hcd, hD, _⟩ := F.ex
    rcases hD with ⟨_, rfl⟩ | ⟨e, _⟩
    case inr => exact absurd rfl e
    refine ⟨fun s us ws _ h1 h2 => ?_⟩
    have : us = [] := List.length_eq_zero_iff.mp h1
    subst this
    exact .of_eq (hb kV doc pm an cdv ct ws h2)
  exact xCallK0 G (hr.mono hk) hg hm F.kp B tk hkw hall hks hdb hpl
theorem uIsi {t : Str} {n : String} {pt : Pos} {xt : Str → String → Option Bool} (hx : XTab X.K X.mg xt) (hm : X.mg "isinstance" = none) (hmt : X.mg t = none) (he : PE X e (tE X.K X.mg W m)) (hg : Gl X "isinstance" := by rfl) (hgt : Gl X t := by rfl) (hvt : bootBuiltins t = some (.type n) := by decide +kernel) (hnt : t ≠ "__name__" := by decide) (hdt : (t == ("__debug__" : Str)) = false := by decide)
    (hs : starEach [e, .Name t pt] X.env = (false, eval e X.env) :: starEach [.Name t pt] X.env := by rfl) (hs2 : starEach [.Name t pt] X.env = (false, eval (.Name t pt) X.env) :: starEach [] X.env := by rfl) (hpl : (backTo pos (starEach [.Name t pt] X.env)).any (·.1) = false := by rfl) :
    PE X (.Call (.Name "isinstance" p) [e, .Name t pt] [] pos) (tE X.K X.mg W (sIsi xt n m)) := xIsi hx hg hm hgt hmt hvt hnt hdt he hs hs2 hpl
theorem uIsi2 {t t2 : Str} {n n2 : String} {pt pt2 ptt : Pos} {kk : Nat} (hm : X.mg "isinstance" = none) (hmt : X.mg t = none) (hmt2 : X.mg t2 = none) (he : PE X e (tE X.K X.mg W m)) (hg : Gl X "isinstance" := by rfl) (hgt : Gl X t := by rfl) (hvt : bootBuiltins t = some (.type n) := by decide +kernel) (hnt : t ≠ "__name__" := by decide) (hdt : (t == ("__debug__" : Str)) = false := by decide)
    (hgt2 : Gl X t2 := by rfl) (hvt2 : bootBuiltins t2 = some (.type n2) := by decide +kernel) (hnt2 : t2 ≠ "__name__" := by decide) (hdt2 : (t2 == ("__debug__" : Str)) = false := by decide)
    (hs : starEach [e, .Tuple [.Name t pt, .Name t2 pt2] kk ptt] X.env = (false, eval e X.env) :: starEach [.Tuple [.Name t pt, .Name t2 pt2] kk ptt] X.env := by rfl) (hs2 : starEach [.Tuple [.Name t pt, .Name t2 pt2] kk ptt] X.env = (false, eval (.Tuple [.Name t pt, .Name t2 pt2] kk ptt) X.env) :: starEach [] X.env := by rfl)
    (hs3 : starEach [.Name t pt, .Name t2 pt2] X.env = (false, eval (.Name t pt) X.env) :: starEach [.Name t2 pt2] X.env := by rfl) (hs4 : starEach [.Name t2 pt2] X.env = (false, eval (.Name t2 pt2) X.env) :: starEach [] X.env := by rfl)
    (hpl : (backTo pos (starEach [.Tuple [.Name t pt, .Name t2 pt2] kk ptt] X.env)).any (·.1) = false := by rfl) :
    PE X (.Call (.Name "isinstance" p) [e, .Tuple [.Name t pt, .Name t2 pt2] kk ptt] [] pos) (tE X.K X.mg W (sIsi2 n n2 m)) := xIsi2 hg hm hgt hmt hvt hnt hdt hgt2 hmt2 hvt2 hnt2 hdt2 he hs hs2 hs3 hs4 hpl
theorem uStrC {z : Str} (hm : ∃ t, X.mg x = some (.str z t)) (hg : Gl X x := by rfl) (hd : (x == ("__debug__" : Str)) = false := by decide) : PE X (.Name x pos) (tE X.K X.mg W (sC (.str z))) := by
  obtain ⟨t, hm⟩ := hm
  exact xGlob (v := .str z) hg hm ⟨t, rfl⟩ hd fun _ _ => .str
theorem uIntC {z : Int} (hm : ∃ t, X.mg x = some (.int z t)) (hg : Gl X x := by rfl) (hd : (x == ("__debug__" : Str)) = false := by decide) : PE X (.Name x pos) (tE X.K X.mg W (sC (.int z))) := by
  obtain ⟨t, hm⟩ := hm
  exact xGlob (v := .int z) hg hm ⟨t, rfl⟩ hd fun _ _ => .int
/-! methods -/
theorem uMeth {name : Str} {Ty id : String} {r : V → List V → Hp → VK → Prop} {f : FnM} (pa : PlainAttrs Ty) (slot : Slot Ty name id) (hty : typeOf (.builtin id) = pure (.type "method_descriptor")) (hm : MtR X id r) (hf : MtS X.K X.mg r f) (ho : PE X ob (tE X.K X.mg W m)) (ha : PA X (e :: es) (tA X.K X.mg W as))
    (hbase : attributeBase ob name X.env (eval ob X.env) = eval ob X.env := by rfl)
    (hfew : ((backTo cpos (starEach (e :: es) X.env)).all (fun x => !x.1) && (backToKw cpos (keywordEach [] X.env)).all (fun x => x.1.isSome) && decide ((e :: es).length + ([] : List Keyword).length + (if ([] : List Keyword).isEmpty then 0 else 1) < 30)) = true := by rfl)
    (hline : (apos.endLine == cpos.line) = true := by rfl) (hs : starEach (e :: es) X.env = (false, eval e X.env) :: starEach es X.env := by rfl) (hplain : (backTo cpos (starEach es X.env)).any (·.1) = false := by rfl) :
    PE X (.Call (.Attribute ob name apos) (e :: es) [] cpos) (tE X.K X.mg W (sM Ty f m as)) := xM pa slot hty hm hf ho ha hbase hfew hline hs hplain
theorem uMeth0 {name : Str} {Ty id : String} {r : V → List V → Hp → VK → Prop} {f : FnM} (pa : PlainAttrs Ty) (slot : Slot Ty name id) (hty : typeOf (.builtin id) = pure (.type "method_descriptor")) (hm : MtR X id r) (hf : MtS X.K X.mg r f) (ho : PE X ob (tE X.K X.mg W m)) (hbase : attributeBase ob name X.env (eval ob X.env) = eval ob X.env := by rfl) (hline : (apos.endLine == cpos.line) = true := by rfl) :
    PE X (.Call (.Attribute ob name apos) [] [] cpos) (tE X.K X.mg W (sM Ty f m aNil)) := xM0 pa slot hty hm hf ho hbase hline
/-! statements -/
theorem uSet (i : Nat) {pos' : Pos} (hN : X.N.Nodup) (he : PE X e (tE X.K X.mg W m)) (hi : X.N[i]? = some x := by rfl) (hx : Loc X.env.scope x := by first | exact Or.inl rfl | exact Or.inr rfl) (hs : swapsWith e (some (.Name x pos')) pos.line X.env = pure false := by rfl) (hf : X.fn x = true ∨ X.env.scope.names.lookup x = some .local := by first | exact Or.inl rfl | exact Or.inr rfl) :
    PS X (.Assign [.Name x pos'] e pos) (tS X.K X.mg W (sAsg m (gN i))) := ySet hN hi hx he hs hf
theorem uDo (he : PE X e (tE X.K X.mg W m)) (hs : swapsWith e none pos.line X.env = pure false := by rfl) : PS X (.Expr e pos) (tS X.K X.mg W (sDo m)) := yDo he hs
theorem uAsg {tg : Expr} (t : Tg) (he : PE X e (tE X.K X.mg W m)) (hg : PG X tg (gT X.K t)) (hs : swapsWithSole [tg] e pos.line X.env = pure false := by rfl) (hw : swappedStores [tg] e X.env = pure none := by rfl) (h1 : (assignEach [tg] X.env).map (·.2) = [assign tg X.env] := by rfl) :
    PS X (.Assign [tg] e pos) (tS X.K X.mg W (sAsg m (gTg t))) := yAsg he hg hs hw h1
theorem uPar (i j : Nat) {y : Str} {px py pt : Pos} {kt k2 pt2} (hN : X.N.Nodup) (ha : PA X [a, b] (tA X.K X.mg W as)) (hc : X.calm = true := by rfl) (hi : X.N[i]? = some x := by rfl) (hj : X.N[j]? = some y := by rfl) (hij : i ≠ j := by decide)
    (hx : X.env.scope.names.lookup x = some .local := by rfl) (hy : X.env.scope.names.lookup y = some .local := by rfl)
    (hw : swappedStores [.Tuple [.Name x px, .Name y py] kt pt] (.Tuple [a, b] k2 pt2) X.env = pure (some [x, y]) := by rfl) (hs : swapsWithSole [.Tuple [.Name x px, .Name y py] kt pt] (.Tuple [a, b] k2 pt2) pos.line X.env = pure false := by rfl) :
    PS X (.Assign [.Tuple [.Name x px, .Name y py] kt pt] (.Tuple [a, b] k2 pt2) pos) (tS X.K X.mg W (sAsg (sTup as) (gTg (.tp [i, j])))) := yPar hc hN hi hj hij hx hy ha hw hs
theorem uPut {o i : Expr} {mo mi : SemE} {p2 : Pos} (he : PE X e (tE X.K X.mg W m)) (ho : PE X o (tE X.K X.mg W mo)) (hi : PE X i (tE X.K X.mg W mi)) (hs : swapsWithSole [.Subscript o i p2] e pos.line X.env = pure false := by rfl) (hw : swappedStores [.Subscript o i p2] e X.env = pure none := by rfl)
    (h1 : (assignEach [.Subscript o i p2] X.env).map (·.2) = [assign (.Subscript o i p2) X.env] := by rfl)
    (ha : ∀ v, assign (.Subscript o i p2) X.env v = (do
      let ov ← holding [v] (eval o X.env)
      let iv ← holding [v, ov] (eval i X.env)
      standAt p2
      holding [v, ov, iv] (setItem ov iv v)
      release [v, ov, iv] []) := by intro _; rfl) :
    PS X (.Assign [.Subscript o i p2] e pos) (tS X.K X.mg W (sAsg m (gIx mo mi))) := yPut he ho hi (pg_sub ho hi set_list ha) hs hw h1
theorem uFor {tg iter : Expr} {body : List Stmt} {mi : SemA} {mb : SemS} (t : Tg) (hp : PassesOwn (model X.prog X.w) X.A X.env X.xe) (hi : PI X tg iter (tI X.K X.mg W mi)) (hg : PG X tg (gT X.K t)) (hb : PSs X body (tS X.K X.mg W mb)) (hc : X.calm = true := by rfl) (hs : ∀ x, foldedSetIterable iter X.env x = pure x := by intro _; rfl) :
    PS X (.For tg iter body [] pos) (tS X.K X.mg W (sFor mi t mb)) := yFor hp hc hi hg hb hs
theorem uRng1 {tg : Expr} (hm : X.mg "range" = none) (ha : PA X [e] (tA X.K X.mg W as)) (hg : Gl X "range" := by rfl) (hs : starEach [e] X.env = [(false, eval e X.env)] := by rfl) : PI X tg (.Call (.Name "range" p) [e] [] pos) (tI X.K X.mg W (T.iRng1 as)) := jRng1 hg hm ha hs
theorem uRng2 {tg : Expr} (hm : X.mg "range" = none) (ha : PA X [e, a] (tA X.K X.mg W as)) (hg : Gl X "range" := by rfl) (hs : starEach [e, a] X.env = [(false, eval e X.env), (false, eval a X.env)] := by rfl) (hs2 : starEach [a] X.env = [(false, eval a X.env)] := by rfl) : PI X tg (.Call (.Name "range" p) [e, a] [] pos) (tI X.K X.mg W (T.iRng2 as)) := jRng2 hg hm ha hs hs2
theorem uEnum {elts : List Expr} {kk : Nat} {tpos : Pos} (hm : X.mg "enumerate" = none) (ha : PA X [e] (tA X.K X.mg W as)) (hg : Gl X "enumerate" := by rfl) (hs : starEach [e] X.env = [(false, eval e X.env)] := by rfl) : PI X (.Tuple elts kk tpos) (.Call (.Name "enumerate" p) [e] [] pos) (tI X.K X.mg W (iEnumS as)) := jEnum hg hm ha hs
theorem uZip {elts : List Expr} {kk : Nat} {tpos : Pos} (hm : X.mg "zip" = none) (ha : PA X [e, a] (tA X.K X.mg W as)) (hg : Gl X "zip" := by rfl) (hs : starEach [e, a] X.env = (false, eval e X.env) :: starEach [a] X.env := by rfl) (hpl : (backTo pos (starEach [a] X.env)).any (·.1) = false := by rfl) : PI X (.Tuple elts kk tpos) (.Call (.Name "zip" p) [e, a] [] pos) (tI X.K X.mg W (iZipS as)) := jZip hg hm ha hs hpl
/-- comprehensions -/
theorem uLc {elt tg iter : Expr} {ifs : List Expr} {scope : Scope} {mi : SemA} {me : SemE} (own : List (Str × Nat)) (t : Tg) (hN : X.N.Nodup) (tk : Takes X W) (hi : PI X tg iter (tI X.K X.mg W mi)) (ok : blkC X.N X.env.scope scope own = true)
    (hg : ∀ (s : Shared) (H : Hp) (C : Addr) (cl : List (Str × Addr)) (fp : List Addr) (xe : Value → Shared → Prop), PG ((X.blk s H scope (compEnvC scope cl C X.env) fp).wish xe) tg (gT X.K t))
    (ht : ∀ (s : Shared) (H : Hp) (C : Addr) (cl : List (Str × Addr)) (fp : List Addr) (xe : Value → Shared → Prop) (Wb : WX), Psg ((X.blk s H scope (compEnvC scope cl C X.env) fp).wish xe) Wb → PTs ((X.blk s H scope (compEnvC scope cl C X.env) fp).wish xe) ifs (tT X.K X.mg Wb tc))
    (he : ∀ (s : Shared) (H : Hp) (C : Addr) (cl : List (Str × Addr)) (fp : List Addr) (xe : Value → Shared → Prop) (Wb : WX), Psg ((X.blk s H scope (compEnvC scope cl C X.env) fp).wish xe) Wb → PE ((X.blk s H scope (compEnvC scope cl C X.env) fp).wish xe) elt (tE X.K X.mg Wb me))
    (hst : X.stack = X.env :: X.outer := by rfl) (hfm : X.env.frame = some X.env.locals := by rfl) (hc : X.calm = true := by rfl) (hin : tgIn t (own.map (·.2)) = true := by rfl) (hs : ∀ x, foldedSetIterable iter X.env x = pure x := by intro _; rfl) :
    PE X (.ListComp elt [⟨tg, iter, ifs, 0⟩] scope pos) (tE X.K X.mg W (sLc (own.map (·.2)) mi t tc me)) := xLc hst hfm tk hc hN hi (blkOk_by ok) hin hg ht he hs
theorem uLcB {elt tg iter : Expr} {ifs : List Expr} {scope : Scope} {mi : SemA} {me : SemE} (own : List (Str × Nat)) (t : Tg) (hN : X.N.Nodup) (hi : PI X tg iter (tI X.K X.mg W mi)) (ok : blkC X.N X.env.scope scope own = true)
    (hg : ∀ (s : Shared) (H : Hp) (C : Addr) (cl : List (Str × Addr)) (fp : List Addr), PG (X.blk s H scope (compEnvC scope cl C X.env) fp) tg (gT X.K t))
    (ht : ∀ (s : Shared) (H : Hp) (C : Addr) (cl : List (Str × Addr)) (fp : List Addr), Psg (X.blk s H scope (compEnvC scope cl C X.env) fp) (fun _ _ _ _ => False) → PTs (X.blk s H scope (compEnvC scope cl C X.env) fp) ifs (tT X.K X.mg (fun _ _ _ _ => False) tc))
    (he : ∀ (s : Shared) (H : Hp) (C : Addr) (cl : List (Str × Addr)) (fp : List Addr), Psg (X.blk s H scope (compEnvC scope cl C X.env) fp) (fun _ _ _ _ => False) → PE (X.blk s H scope (compEnvC scope cl C X.env) fp) elt (tE X.K X.mg (fun _ _ _ _ => False) me))
    (hc : X.calm = true := by rfl) (hin : tgIn t (own.map (·.2)) = true := by rfl) (hs : ∀ x, foldedSetIterable iter X.env x = pure x := by intro _; rfl) :
    PE X (.ListComp elt [⟨tg, iter, ifs, 0⟩] scope pos) (tE X.K X.mg W (sLcB (own.map (·.2)) mi t tc me)) := xLcB hc hN hi (blkOk_by ok) hin hg ht he hs
theorem uSetLc {elt tg iter : Expr} {ifs : List Expr} {scope : Scope} {mi : SemA} {me : SemE} {y : Str} {py spos : Pos} (i : Nat) (own : List (Str × Nat)) (t : Tg) (hN : X.N.Nodup) (tk : Takes X W) (hi : PI X tg iter (tI X.K X.mg W mi)) (ok : blkC X.N X.env.scope scope own = true)
    (hg : ∀ (s : Shared) (H : Hp) (C : Addr) (cl : List (Str × Addr)) (fp : List Addr) (xe : Value → Shared → Prop), PG ((X.blk s H scope (compEnvC scope cl C X.env) fp).wish xe) tg (gT X.K t))
    (ht : ∀ (s : Shared) (H : Hp) (C : Addr) (cl : List (Str × Addr)) (fp : List Addr) (xe : Value → Shared → Prop) (Wb : WX), Psg ((X.blk s H scope (compEnvC scope cl C X.env) fp).wish xe) Wb → PTs ((X.blk s H scope (compEnvC scope cl C X.env) fp).wish xe) ifs (tT X.K X.mg Wb tc))
    (he : ∀ (s : Shared) (H : Hp) (C : Addr) (cl : List (Str × Addr)) (fp : List Addr) (xe : Value → Shared → Prop) (Wb : WX), Psg ((X.blk s H scope (compEnvC scope cl C X.env) fp).wish xe) Wb → PE ((X.blk s H scope (compEnvC scope cl C X.env) fp).wish xe) elt (tE X.K X.mg Wb me))
    (hst : X.stack = X.env :: X.outer := by rfl) (hfm : X.env.frame = some X.env.locals := by rfl) (hc : X.calm = true := by rfl) (hin : tgIn t (own.map (·.2)) = true := by rfl) (hs : ∀ x, foldedSetIterable iter X.env x = pure x := by intro _; rfl)
    (hy : X.N[i]? = some y := by rfl) (hyl : X.env.scope.names.lookup y = some .local := by rfl) (hl : (py.line == pos.line) = true := by rfl) (hk : X.env.scope.kind = .function := by rfl) (ha : (scope.names.any fun (n, k) => n == y && (k == .local || k == .cell)) = false := by decide +kernel) :
    PS X (.Assign [.Name y py] (.ListComp elt [⟨tg, iter, ifs, 0⟩] scope pos) spos) (tS X.K X.mg W (sAsg (sLc (own.map (·.2)) mi t tc me) (gN i))) := ySetLc hst hfm tk hc hN hy hyl (sw_true hk hyl hl ha) hi (blkOk_by ok) hin hg ht he hs
end
end T
end S_TUse2
section S_TEnd
set_option Elab.async false
set_option linter.all false
set_option maxRecDepth 100000
set_option maxHeartbeats 4000000
namespace T
open PySem L2
/-- a def of the text that stands at its name -/
structure Dfd (K : PySem.W.Frag) (mg : Str → Option Value) (x : Str) (st : Stmt) : Prop where
  ex : ∃ (f : Addr) (fd : FuncData), FunD K x x (defArgs st) (defBody st) (defScope st) [] [] f fd ∧ mg x = some (.ref f)
theorem fn_bad {P : Program} {w : World} {K : PySem.W.Frag} {mg : Str → Option Value} {base : Heap} {CX : CXT} {k : Nat} {f : Addr} {fd : FuncData} {ps : List Str} : FnOk P w K mg base CX k f fd ps (spF (fun _ _ => .bad) K mg) :=
  ⟨fun vs H Q E ⟨_, _, _, _, _, h⟩ => h.elim, fun A outer s H args us vs Q E _ _ _ _ ⟨_, _, _, _, _, h⟩ => h.elim⟩
/-- an own exception class over ValueError -/
structure ExcT (K : PySem.W.Frag) (mg : Str → Option Value) (x : Str) : Prop where
  g : mg x = some (.ref (He.ga K x))
  q : PySem.W.excIn K (He.ga K x) He.veBase "ValueError.__new__" = true
  k : PySem.W.keepIn K (.ref (He.ga K x)) = true
  sub : PySem.W.subIn K (.ref (He.ga K x)) (.type "BaseException") = some true
  ty : PySem.W.typeIn K (.ref (He.ga K x)) = some (.type "type")
theorem ExcT.r {X : Cx} {x : Str} (h : ExcT X.K X.mg x) : Raises X (.ref (He.ga X.K x)) := raises_own h.sub h.ty
/-- the law's end: its def, handed the script, tells True -/
theorem law_true {P : Program} {w : World} {K : PySem.W.Frag} {mg : Str → Option Value} {base : Heap} {x : Str} {st : Stmt} {k : Nat} {ps : List Str} {φ : Fn} {f : Addr} (c : Cal P w K mg base x st k ps φ) (g : mg x = some (.ref f)) :
    ∃ fd : FuncData, FunD K x x (defArgs st) (defBody st) (defScope st) [] [] f fd ∧ FnOk P w K mg base CX0 k f fd ps (fun vs H Q _ => spF φ K mg vs H Q fun _ _ _ => False) := by
  obtain ⟨f', fd, F, G, g', _⟩ := c.ex
  rw [g] at g'
  cases g'
  refine ⟨fd, F, fun vs H Q E h => G.len vs H Q _ h, fun A outer s H args us vs Q E hr he hb hv hs => codeAny_mono (G.run A outer s H args us vs Q _ hr he hb hv hs) fun r z hq => ?_⟩
  cases r with
  | ok fl => cases fl <;> exact hq
  | error e =>
    obtain ⟨_, _, _, _, _, _, _, _, _, _, _, _, q⟩ := hq
    exact q.elim
theorem script_read {K : PySem.W.Frag} {mg : Str → Option Value} {φ : Fn} {H : Hp} {a : Addr} {ns : List Int} (hS : SqL K H a (ns.map V.int)) (h : ∃ S, φ [.rdl (ns.map D.int)] [] = .ok (.bl true) S) :
    spF φ K mg [.ref a] H (fun v _ => v = .bl true) fun _ _ _ => False := by
  obtain ⟨S, h⟩ := h
  refine ⟨⟨H, H, [], []⟩, [.rdl (ns.map D.int)], rfl, ⟨rfl, List.nodup_nil, Same.refl H, fun n d a e => by simp at e, fun n d a e => by simp at e⟩, .cons (.rdl hS (ints_rp ns)) .nil, ?_⟩
  show RS K mg _ _ _ _ _ (φ [.rdl (ns.map D.int)] [])
  rw [h]
  exact fun v t _ _ _ r => rp_bl r
end T
end S_TEnd
section S_THead
set_option Elab.async false
set_option linter.all false
set_option maxRecDepth 100000
set_option maxHeartbeats 4000000
namespace T
open PySem L2
def excB (K : PySem.W.Frag) (D : Addr) : Bool := decide (PySem.W.findIn K (.ref D) "__getattribute__" = some (some (.builtin "BaseException.__getattribute__"))) && (decide (PySem.W.findIn K (.ref D) "__getattr__" = some none) && (decide (PySem.W.subIn K (.ref D) (.type "BaseException") = some true) &&
  (PySem.W.hasDictIn K D && (decide (PySem.W.findIn K (.ref D) "__class__" = some (some (.builtin "object.__class__"))) && (decide (PySem.W.specialIn K (.builtin "object.__class__") "__get__" = some (some (.builtin "getset_descriptor.__get__"))) && (decide (PySem.W.takesIn K (.builtin "object.__class__") = some true) && decide (PySem.W.mroIn K D (.type "object") = some true)))))))
theorem excB_ok {K : PySem.W.Frag} {D : Addr} (h : excB K D = true) : ExcC K D := by
  obtain ⟨h1, h⟩ := He.ba h
  obtain ⟨h2, h⟩ := He.ba h
  obtain ⟨h3, h⟩ := He.ba h
  obtain ⟨h4, h⟩ := He.ba h
  obtain ⟨h5, h⟩ := He.ba h
  obtain ⟨h6, h⟩ := He.ba h
  obtain ⟨h7, h8⟩ := He.ba h
  exact ⟨of_decide_eq_true h1, of_decide_eq_true h2, of_decide_eq_true h3, h4, of_decide_eq_true h5, of_decide_eq_true h6, of_decide_eq_true h7, of_decide_eq_true h8⟩
def xkB (K : PySem.W.Frag) (q : Str × String × Bool) : Bool := excB K (He.ga K q.1) && decide (PySem.W.kitOne K (.ref (He.ga K q.1)) (.type q.2.1) = some q.2.2)
theorem xkB_ok {K : PySem.W.Frag} {q : Str × String × Bool} (h : xkB K q = true) : ExcC K (He.ga K q.1) ∧ PySem.W.kitOne K (.ref (He.ga K q.1)) (.type q.2.1) = some q.2.2 := by
  obtain ⟨h1, h2⟩ := He.ba h
  exact ⟨excB_ok h1, of_decide_eq_true h2⟩
section
variable {fa : List He.Fa} {fn : List He.DefD} {K : PySem.W.Frag} {h : Heap} {mg : Str → Option Value}
theorem dfd_of (X : K.In h) (G : h.Ns mainGlobals mg) (c : He.SaysD fa fn K) {x : Str} {st : Stmt} (i j : Nat) (h1 : fn[i]? = some ⟨(x, none), x, x, defArgs st, defBody st, defScope st, [], []⟩) (h2 : fa[j]? = some (.glo x)) : Dfd K mg x st := by
  obtain ⟨fd, F⟩ := c.def_ i h1
  exact ⟨_, fd, F, He.glo_ok X G (c.fact j h2)⟩
theorem free_of (X : K.In h) (G : h.Ns mainGlobals mg) (c : He.SaysD fa fn K) {x : Str} (j : Nat) (h2 : fa[j]? = some (.free x)) : mg x = none := He.free_ok X G (c.fact j h2)
theorem str_of (X : K.In h) (G : h.Ns mainGlobals mg) (c : He.SaysD fa fn K) {x z : Str} (j : Nat) (h2 : fa[j]? = some (.str x z)) : ∃ t, mg x = some (.str z t) := He.str_ok X G (c.fact j h2)
theorem int_of (X : K.In h) (G : h.Ns mainGlobals mg) (c : He.SaysD fa fn K) {x : Str} {z : Int} (j : Nat) (h2 : fa[j]? = some (.int x z)) : ∃ t, mg x = some (.int z t) := He.int_ok X G (c.fact j h2)
theorem exc_of (X : K.In h) (G : h.Ns mainGlobals mg) (c : He.SaysD fa fn K) {x : Str} (j k : Nat) (h1 : fa[j]? = some (.glo x)) (h2 : fa[k]? = some (.exc x)) : ExcT K mg x := by
  obtain ⟨a, b, d, e⟩ := He.exc_ok (c.fact k h2)
  exact ⟨He.glo_ok X G (c.fact j h1), a, b, d, e⟩
end
theorem fd_one {K : PySem.W.Frag} {x qual x' qual' : Str} {params params' : Arguments} {body body' : List Stmt} {scope scope' : Scope} {dvs dvs' : List V} {kws kws' : List (Str × V)} {f : Addr} {fd fd' : FuncData} (F : FunD K x qual params body scope dvs kws f fd) (F' : FunD K x' qual' params' body' scope' dvs' kws' f fd') : fd = fd' := by
  obtain ⟨_, _, _, _, _, _, _, _, _, _, _, h, _, _, _⟩ := F.ex
  obtain ⟨_, _, _, _, _, _, _, _, _, _, _, h', _, _, _⟩ := F'.ex
  rw [h] at h'
  cases h'
  rfl
end T
end S_THead
section S_TEv
set_option Elab.async false
set_option linter.all false
set_option maxRecDepth 100000
set_option maxHeartbeats 4000000
namespace T
open PySem L2
theorem sV_at {i : Nat} {env : Env} {S : Sto} {d : D} (h : env[i]? = some (some d)) : sV i env S = .ok d S := by unfold sV; rw [h]
theorem bind_ok {α β : Type} {a : α} {S : Sto} {k : α → Sto → Res β} : (Res.ok a S).bind k = k a S := rfl
theorem bind_exc {α β : Type} {C : Str} {fs : List (Str × D)} {S : Sto} {k : α → Sto → Res β} : (Res.exc C fs S : Res α).bind k = .exc C fs S := rfl
theorem bind_bad {α β : Type} {k : α → Sto → Res β} : (Res.bad : Res α).bind k = .bad := rfl
theorem ofE_ok {α : Type} {a : α} {S : Sto} {env : Env} {k : α → Sto → ResS} : ofE (.ok a S) env k = k a S := rfl
theorem ofE_exc {α : Type} {C : Str} {fs : List (Str × D)} {S : Sto} {env : Env} {k : α → Sto → ResS} : ofE (.exc C fs S) env k = .exc C fs env S := rfl
theorem fin_ok {n : Nat} {d : D} {S : Sto} (h : S.length = n) : fin n d S = .ok d S := by unfold fin; rw [if_pos h]
/-- the box of draws -/
def bx (a b c : Int) : Cel := .lv (.lst [.int a, .int b, .int c])
theorem ix_bx {S : Sto} {n : Nat} {a b c : Int} (h : S[n]? = some (bx a b c)) : fIx S (.cell n) (.int 0) = .ok (.int a) S ∧ fIx S (.cell n) (.int 1) = .ok (.int b) S ∧ fIx S (.cell n) (.int 2) = .ok (.int c) S := by
  have e : rd S (.cell n) = .lst [.int a, .int b, .int c] := by
    show cget S n = _
    unfold cget
    rw [h]
    rfl
  unfold fIx
  rw [e]
  exact ⟨rfl, rfl, rfl⟩
theorem set_bx {S : Sto} {n : Nat} {x y : Cel} (h : S[n]? = some x) : (S.set n y)[n]? = some y := by
  rw [List.getElem?_set_self (List.getElem?_eq_some_iff.mp h).1]
section
variable {S : Sto} {x k : Int} {a b : Str}
theorem e_gt : fGt S (.int x) (.int k) = .ok (.bl (decide (k < x))) S := rfl
theorem e_lt : fLt S (.int x) (.int k) = .ok (.bl (decide (x < k))) S := rfl
theorem e_le : fLe S (.int x) (.int k) = .ok (.bl (decide (x ≤ k))) S := rfl
theorem e_ge : fGe S (.int x) (.int k) = .ok (.bl (decide (k ≤ x))) S := rfl
theorem e_add : fAdd S (.int x) (.int k) = .ok (.int (x + k)) S := rfl
theorem e_sub : fSub S (.int x) (.int k) = .ok (.int (x - k)) S := rfl
theorem e_int : bInt S [.int x] = .ok (.int x) S := rfl
theorem e_intB {b : Bool} : bInt S [.bl b] = .ok (.int (if b then 1 else 0)) S := rfl
theorem e_abs : bAbs S [.int x] = .ok (.int (if x < 0 then -x else x)) S := rfl
theorem e_mod (h : 0 < k) : fMod S (.int x) (.int k) = .ok (.int (x % k)) S := if_pos (decide_eq_true h)
theorem e_div (h : 0 < k ∧ k < 1073741824) : fDiv S (.int x) (.int k) = .ok (.int (x / k)) S := if_pos (decide_eq_true h)
theorem e_mulR (h : -(2 ^ 64) < k ∧ k < 2 ^ 64) : fMulA S (.int x) (.int k) = .ok (.int (x * k)) S := if_pos (by rw [Bool.or_eq_true]; exact .inr (decide_eq_true h))
theorem e_mulL (h : -(2 ^ 64) < x ∧ x < 2 ^ 64) : fMulA S (.int x) (.int k) = .ok (.int (x * k)) S := if_pos (by rw [Bool.or_eq_true]; exact .inl (decide_eq_true h))
theorem e_gIx2 {env : Env} {n : Nat} {a b c y : Int} (h : S[n]? = some (bx a b c)) : gIx (sV 0) (sC (.int 2)) (.int y) (some (.cell n) :: env) S = .nx (some (.cell n) :: env) (S.set n (bx a b y)) := by
  simp only [gIx, ofE_ok, sC, sV, List.getElem?_cons_zero, h, bx]
  rfl
theorem e_gIx0 {env : Env} {n : Nat} {a b c y : Int} (h : S[n]? = some (bx a b c)) : gIx (sV 0) (sC (.int 0)) (.int y) (some (.cell n) :: env) S = .nx (some (.cell n) :: env) (S.set n (bx y b c)) := by
  simp only [gIx, ofE_ok, sC, sV, List.getElem?_cons_zero, h, bx]
  rfl
end
inductive All2 {α β : Type} (R : α → β → Prop) : List α → List β → Prop
  | nil : All2 R [] []
  | cons {a : α} {b : β} {as : List α} {bs : List β} : R a b → All2 R as bs → All2 R (a :: as) (b :: bs)
/-! ### comprehensions -/
theorem lc_fil {α : Type} {t : Tg} {c : SemT} {e : SemE} {env : Env} {S : Sto} {f : α → D} {p : α → Bool} {g : α → D} : ∀ (l : List α) (acc : List D), (∀ a ∈ l, ∃ env1, tgE env t (f a) = some env1 ∧ c env1 S = .ok (p a) S ∧ (p a = true → e env1 S = .ok (g a) S)) → acc.length + l.length ≤ lim → lcGo t c e env (l.map f) acc S = .ok (acc ++ (l.filter p).map g) S
  | [], acc, _, _ => by simp [lcGo]
  | a :: l, acc, h, hl => by
    obtain ⟨env1, h1, h2, h3⟩ := h a List.mem_cons_self
    rw [List.length_cons] at hl
    rw [List.map_cons]
    simp only [lcGo, h1, h2, bind_ok]
    by_cases hp : p a = true
    · rw [if_pos hp, h3 hp, bind_ok, if_pos (by omega), lc_fil l _ (fun b hb => h b (List.mem_cons_of_mem _ hb)) (by rw [List.length_append, List.length_singleton]; omega), List.filter_cons_of_pos hp, List.map_cons, List.append_assoc]
      rfl
    · rw [if_neg hp, lc_fil l _ (fun b hb => h b (List.mem_cons_of_mem _ hb)) (by omega), List.filter_cons_of_neg hp]
theorem lc_map {α : Type} {t : Tg} {c : SemT} {e : SemE} {env : Env} {S : Sto} {f : α → D} {g : α → D} (l : List α) (h : ∀ a ∈ l, ∃ env1, tgE env t (f a) = some env1 ∧ c env1 S = .ok true S ∧ e env1 S = .ok (g a) S) (hl : l.length ≤ lim) : lcGo t c e env (l.map f) [] S = .ok (l.map g) S := by
  rw [lc_fil (p := fun _ => true) (g := g) l [] (fun a ha => by
    obtain ⟨e1, h1, h2, h3⟩ := h a ha
    exact ⟨e1, h1, h2, fun _ => h3⟩) (by simpa using hl)]
  rw [List.filter_eq_self.mpr (fun _ _ => rfl)]
  rfl
/-- a comprehension out of which the first bad item's error flies -/
theorem lc_exc {α : Type} {t : Tg} {c : SemT} {e : SemE} {env : Env} {S : Sto} {f : α → D} {g : α → Option D} {C : Str} : ∀ (l : List α) (acc : List D), (∀ a ∈ l, ∃ env1, tgE env t (f a) = some env1 ∧ c env1 S = .ok true S ∧ e env1 S = (match g a with | some y => .ok y S | none => .exc C [] S)) → acc.length + l.length ≤ lim →
    lcGo t c e env (l.map f) acc S = if l.all (fun a => (g a).isSome) then .ok (acc ++ l.filterMap g) S else .exc C [] S
  | [], acc, _, _ => by simp [lcGo]
  | a :: l, acc, h, hl => by
    obtain ⟨env1, h1, h2, h3⟩ := h a List.mem_cons_self
    rw [List.length_cons] at hl
    rw [List.map_cons]
    cases q : g a with
    | none =>
      rw [q] at h3
      simp only [lcGo, h1, h2, h3, bind_ok, bind_exc, if_true]
      simp [q]
    | some y =>
      rw [q] at h3
      simp only [lcGo, h1, h2, h3, bind_ok, if_true]
      rw [if_pos (by omega), lc_exc l _ (fun b hb => h b (List.mem_cons_of_mem _ hb)) (by rw [List.length_append, List.length_singleton]; omega)]
      simp [q]
/-- a comprehension whose items are drawn -/
theorem lc_rel {t : Tg} {c : SemT} {e : SemE} {env : Env} {I : Nat → Sto → Prop} {R : D → D → Prop} : ∀ (l : List D) (i : Nat) (acc : List D) (S : Sto), (∀ d ∈ l, ∀ i S, I i S → ∃ env1 y S1, tgE env t d = some env1 ∧ c env1 S = .ok true S ∧ e env1 S = .ok y S1 ∧ I (i + 1) S1 ∧ R d y) → acc.length + l.length ≤ lim → I i S →
    ∃ ys S', lcGo t c e env l acc S = .ok (acc ++ ys) S' ∧ I (i + l.length) S' ∧ All2 R l ys
  | [], i, acc, S, _, _, h0 => ⟨[], S, by simp [lcGo], h0, .nil⟩
  | d :: l, i, acc, S, h, hl, h0 => by
    obtain ⟨env1, y, S1, h1, h2, h3, h4, h5⟩ := h d List.mem_cons_self i S h0
    rw [List.length_cons] at hl
    obtain ⟨ys, S', e1, e2, e3⟩ := lc_rel l (i + 1) (acc ++ [y]) S1 (fun b hb => h b (List.mem_cons_of_mem _ hb)) (by rw [List.length_append, List.length_singleton]; omega) h4
    refine ⟨y :: ys, S', ?_, by rw [List.length_cons, show i + (l.length + 1) = i + 1 + l.length by omega]; exact e2, .cons h5 e3⟩
    simp only [lcGo, h1, h2, h3, bind_ok, if_true]
    rw [if_pos (by omega), e1, List.append_assoc]
    rfl
theorem sIsi_ok {xt : Str → String → Option Bool} {b : String} {m : SemE} {env : Env} {S S1 : Sto} {d : D} {r : Bool} (h : m env S = .ok d S1) (ht : isTy xt S1 d b = some r) : sIsi xt b m env S = .ok (.bl r) S1 := by
  unfold sIsi
  rw [h, bind_ok, ht]
theorem sIsi2_ok {b c : String} {m : SemE} {env : Env} {S S1 : Sto} {d : D} {a : String} (hb : (askTy.contains b && askTy.contains c) = true) (h : m env S = .ok d S1) (ht : tyName S1 d = some a) : sIsi2 b c m env S = .ok (.bl (kitT a b || kitT a c)) S1 := by
  unfold sIsi2
  rw [h, bind_ok, if_pos hb, ht]
theorem sLc_ok {vs : List Nat} {i : SemA} {t : Tg} {c : SemT} {e : SemE} {env : Env} {S S1 S2 : Sto} {ds ys : List D} (h1 : i env S = .ok ds S1) (h2 : lcGo t c e (wipeE env vs) ds [] S1 = .ok ys S2) : sLc vs i t c e env S = .ok (.lst ys) S2 := by
  unfold sLc
  rw [h1, bind_ok, h2, bind_ok]
theorem bls_map {α : Type} (q : α → Bool) : ∀ l : List α, blsOf (l.map fun a => D.bl (q a)) = some (l.map q)
  | [] => rfl
  | a :: l => by simp only [List.map_cons, blsOf, bls_map q l, Option.map_some]
theorem all_map {α : Type} {S : Sto} (q : α → Bool) (l : List α) : bAll S [.lst (l.map fun a => D.bl (q a))] = .ok (.bl (l.all q)) S := by
  show (match blsOf (l.map fun a => D.bl (q a)) with | some bs => Res.ok (D.bl (bs.all id)) S | none => .bad) = _
  rw [bls_map]
  simp
theorem strs_map : ∀ l : List Str, strsOf (l.map D.str) = some l
  | [] => rfl
  | a :: l => by simp only [List.map_cons, strsOf, strs_map l, Option.map_some]
theorem len_str {S : Sto} {x : Str} (h : x.length ≤ lim) : bLen S [.str x] = .ok (.int x.length) S := if_pos h
theorem len_lst {S : Sto} {l : List D} : bLen S [.lst l] = .ok (.int l.length) S := rfl
theorem len_tup {S : Sto} {l : List D} : bLen S [.tup l] = .ok (.int l.length) S := rfl
theorem in_sign {S : Sto} {c : Nat} {z : Str} : fIn S (.str ⟨#[c]⟩) (.str z) = .ok (.bl (decide (c ∈ z.cps.toList))) S := rfl
theorem notin_sign {S : Sto} {c : Nat} {z : Str} : fNotIn S (.str ⟨#[c]⟩) (.str z) = .ok (.bl (!decide (c ∈ z.cps.toList))) S := rfl
end T
end S_TEv
section S_TEv2
set_option Elab.async false
set_option linter.all false
set_option maxRecDepth 100000
set_option maxHeartbeats 4000000
namespace T
open PySem L2
theorem sSeq_nx {a b : SemS} {env env1 : Env} {S S1 : Sto} (h : a env S = .nx env1 S1) : sSeq a b env S = b env1 S1 := by
  unfold sSeq
  rw [h]
theorem sAsg_gN {m : SemE} {i : Nat} {env : Env} {S S1 : Sto} {d : D} (h : m env S = .ok d S1) : sAsg m (gN i) env S = .nx (env.set i (some d)) S1 := by
  unfold sAsg
  rw [h]
  rfl
theorem fnOf_eq {n N : Nat} {m : SemS} {ds : List D} {S : Sto} (h : ds.length = n) : fnOf n N m ds S = fnEnd S.length (m (entry N ds) S) := if_pos h
theorem call1 {φ : Fn} {m : SemE} {env : Env} {S S1 : Sto} {d : D} (h : m env S = .ok d S1) : sCall φ (aCons m aNil) env S = φ [d] S1 := by
  unfold sCall aCons
  rw [h]
  rfl
theorem call2 {φ : Fn} {m n : SemE} {env : Env} {S S1 S2 : Sto} {d e : D} (h : m env S = .ok d S1) (h2 : n env S1 = .ok e S2) : sCall φ (aCons m (aCons n aNil)) env S = φ [d, e] S2 := by
  unfold sCall aCons
  rw [h, bind_ok, h2]
  rfl
theorem callK1 {φ : Fn} {m : SemE} {env : Env} {S S1 : Sto} {d : D} (h : m env S = .ok d S1) : sCallK φ 0 1 [0] aNil (aCons m aNil) env S = φ [d] S1 := by
  unfold sCallK aCons
  show (((m env S).bind _).bind _) = _
  rw [h]
  rfl
theorem sF1 {f : FnB} {m : SemE} {env : Env} {S S1 : Sto} {d : D} (h : m env S = .ok d S1) : sF f (aCons m aNil) env S = f S1 [d] := by
  unfold sF aCons
  rw [h]
  rfl
/-! ### plain data -/
def Pla (S : Sto) (k : Nat) (d : D) : Prop := ∃ p, toPy S d = some p ∧ p.canLay0 = true ∧ p.depth ≤ k
section
variable {S : Sto} {k : Nat}
theorem Pla.non : Pla S k .non := ⟨.none, rfl, rfl, Nat.zero_le _⟩
theorem Pla.bl {b : Bool} : Pla S k (.bl b) := ⟨.bool b, rfl, rfl, Nat.zero_le _⟩
theorem Pla.int {i : Int} : Pla S k (.int i) := ⟨.int i, rfl, rfl, Nat.zero_le _⟩
theorem Pla.str {x : Str} (h : PyData.strOk x = true) : Pla S k (.str x) := ⟨.str x, rfl, by simpa [PyData.canLay0] using h, Nat.zero_le _⟩
theorem plaL : ∀ {ds : List D}, (∀ d ∈ ds, Pla S k d) → ∃ ps, toPyL S ds = some ps ∧ PyData.canLayAll0 ps = true ∧ PyData.depthAll ps ≤ k ∧ ps.length = ds.length
  | [], _ => ⟨[], rfl, rfl, Nat.zero_le _, rfl⟩
  | d :: ds, h => by
    obtain ⟨p, h1, h2, h3⟩ := h d List.mem_cons_self
    obtain ⟨ps, q1, q2, q3, q4⟩ := plaL (ds := ds) fun e he => h e (List.mem_cons_of_mem _ he)
    refine ⟨p :: ps, by simp only [toPyL, h1, q1], by simp only [PyData.canLayAll0, h2, q2]; rfl, by simp only [PyData.depthAll]; omega, by simp [q4]⟩
theorem Pla.tup {ds : List D} (h : ∀ d ∈ ds, Pla S k d) : Pla S (k + 1) (.tup ds) := by
  obtain ⟨ps, q1, q2, q3, _⟩ := plaL h
  exact ⟨.tuple ps, by simp only [toPy, q1, Option.map_some], by simpa only [PyData.canLay0] using q2, by simp only [PyData.depth]; omega⟩
theorem Pla.lst {ds : List D} (h : ∀ d ∈ ds, Pla S k d) : Pla S (k + 1) (.lst ds) := by
  obtain ⟨ps, q1, q2, q3, _⟩ := plaL h
  exact ⟨.list ps, by simp only [toPy, q1, Option.map_some], by simpa only [PyData.canLay0] using q2, by simp only [PyData.depth]; omega⟩
theorem eqvAll_nil (ps : List PyData) : PyData.eqvAll ps [] = ps.isEmpty := by cases ps <;> rfl
theorem sh_l : SeqAt.shaped (.list []) = true := by decide +kernel
theorem sh_t : SeqAt.shaped (.tuple []) = true := by decide +kernel
theorem sh_n : SeqAt.shaped .none = true := by decide +kernel
theorem deq_nilL {ds : List D} (h : ∀ d ∈ ds, Pla S 20 d) : deq S (.lst ds) (.lst []) = some ds.isEmpty := by
  obtain ⟨ps, q1, q2, q3, q4⟩ := plaL h
  show (match (toPyL S ds).map PyData.list, some (PyData.list []) with
    | some p, some q => if SeqAt.shaped p && SeqAt.shaped q then some (PyData.eqv p q) else none
    | _, _ => none) = _
  rw [q1]
  have e : SeqAt.shaped (.list ps) = true := by
    unfold SeqAt.shaped
    rw [Bool.and_eq_true, decide_eq_true_eq]
    exact ⟨by simpa only [PyData.canLay0] using q2, by simp only [PyData.depth]; omega⟩
  show (if SeqAt.shaped (.list ps) && SeqAt.shaped (.list []) then some (PyData.eqvAll ps []) else none) = _
  rw [e, sh_l, eqvAll_nil, Bool.and_self, if_pos rfl]
  cases ps <;> cases ds <;> simp_all
theorem deq_nilT {ds : List D} (h : ∀ d ∈ ds, Pla S 20 d) : deq S (.tup ds) (.tup []) = some ds.isEmpty := by
  obtain ⟨ps, q1, q2, q3, q4⟩ := plaL h
  show (match (toPyL S ds).map PyData.tuple, some (PyData.tuple []) with
    | some p, some q => if SeqAt.shaped p && SeqAt.shaped q then some (PyData.eqv p q) else none
    | _, _ => none) = _
  rw [q1]
  have e : SeqAt.shaped (.tuple ps) = true := by
    unfold SeqAt.shaped
    rw [Bool.and_eq_true, decide_eq_true_eq]
    exact ⟨by simpa only [PyData.canLay0] using q2, by simp only [PyData.depth]; omega⟩
  show (if SeqAt.shaped (.tuple ps) && SeqAt.shaped (.tuple []) then some (PyData.eqvAll ps []) else none) = _
  rw [e, sh_t, eqvAll_nil, Bool.and_self, if_pos rfl]
  cases ps <;> cases ds <;> simp_all
theorem eq_nil {ds : List D} (h : ∀ d ∈ ds, Pla S 20 d) : fEq S (.lst ds) (.lst []) = .ok (.bl ds.isEmpty) S := by unfold fEq; rw [deq_nilL h]
theorem ne_nil {ds : List D} (h : ∀ d ∈ ds, Pla S 20 d) : fNe S (.lst ds) (.lst []) = .ok (.bl (!ds.isEmpty)) S := by unfold fNe; rw [deq_nilL h]
theorem ne_nilT {ds : List D} (h : ∀ d ∈ ds, Pla S 20 d) : fNe S (.tup ds) (.tup []) = .ok (.bl (!ds.isEmpty)) S := by unfold fNe; rw [deq_nilT h]
def isNon : D → Bool
  | .non => true
  | _ => false
theorem flat_non : ∀ ds : List D, ds.any (fun e => eqF e .non) = ds.any isNon
  | [] => rfl
  | d :: ds => by rw [List.any_cons, List.any_cons, flat_non ds]; cases d <;> rfl
theorem eqv_non {d : D} {p : PyData} (h : toPy S d = some p) : PyData.eqv p .none = isNon d := by
  cases d with
  | non => simp only [toPy] at h; cases h; rfl
  | bl b => simp only [toPy] at h; cases h; rfl
  | int b => simp only [toPy] at h; cases h; rfl
  | str b => simp only [toPy] at h; cases h; rfl
  | tup ds => simp only [toPy] at h; cases q : toPyL S ds with
    | none => rw [q] at h; cases h
    | some ps => rw [q] at h; cases h; rfl
  | lst ds => simp only [toPy] at h; cases q : toPyL S ds with
    | none => rw [q] at h; cases h
    | some ps => rw [q] at h; cases h; rfl
  | rdl ds => simp only [toPy] at h; cases q : toPyL S ds with
    | none => rw [q] at h; cases h
    | some ps => rw [q] at h; cases h; rfl
  | _ => simp only [toPy] at h; cases h
theorem any_non : ∀ {ds : List D} {ps : List PyData}, toPyL S ds = some ps → ps.any (fun w => PyData.eqv w .none) = ds.any isNon
  | [], ps, h => by simp only [toPyL] at h; cases h; rfl
  | d :: ds, ps, h => by
    simp only [toPyL] at h
    cases q : toPy S d with
    | none => rw [q] at h; cases h
    | some p =>
      cases q2 : toPyL S ds with
      | none => rw [q, q2] at h; cases h
      | some qs =>
        rw [q, q2] at h
        cases h
        rw [List.any_cons, List.any_cons, any_non q2, eqv_non q]
theorem non_in {ds : List D} (h : ∀ d ∈ ds, Pla S 20 d) : fIn S .non (.lst ds) = .ok (.bl (ds.any isNon)) S := by
  obtain ⟨ps, q1, q2, q3, q4⟩ := plaL h
  have e : SeqAt.shaped (.list ps) = true := by
    unfold SeqAt.shaped
    rw [Bool.and_eq_true, decide_eq_true_eq]
    exact ⟨by simpa only [PyData.canLay0] using q2, by simp only [PyData.depth]; omega⟩
  have z : inD S .non (.lst ds) = some (ds.any isNon) := by
    show (if flatD .non && ds.all flatD then some (ds.any fun e => eqF e .non) else (match toPy S (rd S .non), toPyL S ds with
      | some p, some ps => if SeqAt.shaped p && SeqAt.shaped (.list ps) then some (ps.any fun w => PyData.eqv w p) else none
      | _, _ => none)) = _
    rw [flat_non]
    split
    · rfl
    · rw [q1]
      show (if SeqAt.shaped .none && SeqAt.shaped (.list ps) then some (ps.any fun w => PyData.eqv w .none) else none) = _
      rw [e, sh_n, Bool.and_self, if_pos rfl, any_non q1]
  unfold fIn
  rw [z]
end
end T
end S_TEv2
section S_TEv3
set_option Elab.async false
set_option linter.all false
set_option maxRecDepth 100000
set_option maxHeartbeats 4000000
namespace T
open PySem L2
section
variable {m n a b : SemE} {ma mb : SemA} {c : SemT} {g : SemG} {p q : SemS} {env env1 env2 : Env} {S S1 S2 S3 : Sto} {d e : D} {ds es : List D}
theorem aNil_ok : aNil env S = .ok [] S := rfl
theorem aCons_ok (h1 : m env S = .ok d S1) (h2 : ma env S1 = .ok ds S2) : aCons m ma env S = .ok (d :: ds) S2 := by unfold aCons; rw [h1, bind_ok, h2]; rfl
theorem sTup_ok (h : ma env S = .ok ds S1) (hl : ds.length ≤ lim) : sTup ma env S = .ok (.tup ds) S1 := by unfold sTup; rw [h, bind_ok, if_pos hl]
theorem sLst_ok (h : ma env S = .ok ds S1) (hl : ds.length ≤ lim) : sLst ma env S = .ok (.lst ds) S1 := by unfold sLst; rw [h, bind_ok, if_pos hl]
theorem sLstC_ok (h : ma env S = .ok ds S1) (hl : ds.length ≤ lim) : sLstC ma env S = .ok (.cell S1.length) (S1 ++ [.lv (.lst ds)]) := by unfold sLstC; rw [h, bind_ok, if_pos hl]
theorem sF_ok {f : FnB} (h : ma env S = .ok ds S1) : sF f ma env S = f S1 ds := by unfold sF; rw [h, bind_ok]
theorem sCall_ok {φ : Fn} (h : ma env S = .ok ds S1) : sCall φ ma env S = φ ds S1 := by unfold sCall; rw [h, bind_ok]
theorem sOp_ok {f : Op2} (h1 : m env S = .ok d S1) (h2 : n env S1 = .ok e S2) : sOp f m n env S = f S2 d e := by unfold sOp; rw [h1, bind_ok, h2, bind_ok]
theorem sAsg_ok (h : m env S = .ok d S1) : sAsg m g env S = g d env S1 := by unfold sAsg; rw [h, ofE_ok]
theorem sRet_ok (h : m env S = .ok d S1) : sRet m env S = .rt d S1 := by unfold sRet; rw [h, ofE_ok]
theorem sDo_ok (h : m env S = .ok d S1) : sDo m env S = .nx env S1 := by unfold sDo; rw [h, ofE_ok]
theorem isB_ok {r : Bool} (h : m env S = .ok (.bl r) S1) : isB m env S = .ok r S1 := by unfold isB; rw [h, bind_ok]
theorem cNot_ok {r : Bool} (h : c env S = .ok r S1) : cNot c env S = .ok (!r) S1 := by unfold cNot; rw [h, bind_ok]
theorem sIf_t (h : c env S = .ok true S1) : sIf c p q env S = p env S1 := by unfold sIf; rw [h, ofE_ok, if_pos rfl]
theorem sIf_f (h : c env S = .ok false S1) : sIf c p q env S = q env S1 := by unfold sIf; rw [h, ofE_ok, if_neg (by decide)]
theorem sIfx_t (h : c env S = .ok true S1) : sIfx c m n env S = m env S1 := by unfold sIfx; rw [h, bind_ok, if_pos rfl]
theorem sIfx_f (h : c env S = .ok false S1) : sIfx c m n env S = n env S1 := by unfold sIfx; rw [h, bind_ok, if_neg (by decide)]
theorem sSeq_rt (h : p env S = .rt d S1) : sSeq p q env S = .rt d S1 := by unfold sSeq; rw [h]
theorem gTg_ok {t : Tg} (h : tgE env t d = some env1) : gTg t d env S = .nx env1 S := by unfold gTg; rw [h]
theorem sM_ok {Ty : String} {f : FnM} (h1 : m env S = .ok d S1) (ty : tyIs Ty S1 d = true) (h2 : ma env S1 = .ok ds S2) : sM Ty f m ma env S = f S2 d ds := by unfold sM; rw [h1, bind_ok, if_pos ty, h2, bind_ok]
theorem iRng1_ok {j : Int} {k : Nat} (h : ma env S = .ok [.int j] S1) (hj : j = k) (hk : k ≤ 1000000) : T.iRng1 ma env S = .ok (rngD 0 k) S1 := by
  unfold T.iRng1
  rw [h, bind_ok]
  subst hj
  show (if decide (-1000000 ≤ (k : Int) ∧ (k : Int) ≤ 1000000) then Res.ok (rngD 0 (k : Int).toNat) S1 else .bad) = _
  rw [if_pos (by rw [decide_eq_true_eq]; omega), Int.toNat_natCast]
theorem rngD_len {i : Int} {n : Nat} : (rngD i n).length = n := by unfold rngD; simp
theorem forGo_nx {t : Tg} {b : SemS} (h1 : tgE env t d = some env1) (h2 : b env1 S = .nx env2 S2) : forGo t b (d :: ds) env S = forGo t b ds env2 S2 := by
  conv => lhs; unfold forGo
  simp only [h1, h2]
theorem forGo_rt {t : Tg} {b : SemS} (h1 : tgE env t d = some env1) (h2 : b env1 S = .rt e S2) : forGo t b (d :: ds) env S = .rt e S2 := by
  conv => lhs; unfold forGo
  simp only [h1, h2]
theorem sFor_ok {i : SemA} {t : Tg} {b : SemS} (h : i env S = .ok ds S1) : sFor i t b env S = forGo t b ds env S1 := by
  unfold sFor
  rw [h]
  rfl
end
/-- a comprehension whose items are drawn, of at most M -/
theorem lc_rel' {t : Tg} {c : SemT} {e : SemE} {env : Env} {I : Nat → Sto → Prop} {R : D → D → Prop} {M : Nat} : ∀ (l : List D) (i : Nat) (acc : List D) (S : Sto), (∀ d ∈ l, ∀ i S, i < M → I i S → ∃ env1 y S1, tgE env t d = some env1 ∧ c env1 S = .ok true S ∧ e env1 S = .ok y S1 ∧ I (i + 1) S1 ∧ R d y) → i + l.length ≤ M → acc.length + l.length ≤ lim → I i S →
    ∃ ys S', lcGo t c e env l acc S = .ok (acc ++ ys) S' ∧ I (i + l.length) S' ∧ All2 R l ys
  | [], i, acc, S, _, _, _, h0 => ⟨[], S, by simp [lcGo], h0, .nil⟩
  | d :: l, i, acc, S, h, hM, hl, h0 => by
    rw [List.length_cons] at hl hM
    obtain ⟨env1, y, S1, h1, h2, h3, h4, h5⟩ := h d List.mem_cons_self i S (by omega) h0
    obtain ⟨ys, S', e1, e2, e3⟩ := lc_rel' l (i + 1) (acc ++ [y]) S1 (fun b hb => h b (List.mem_cons_of_mem _ hb)) (by omega) (by rw [List.length_append, List.length_singleton]; omega) h4
    refine ⟨y :: ys, S', ?_, by rw [List.length_cons, show i + (l.length + 1) = i + 1 + l.length by omega]; exact e2, .cons h5 e3⟩
    simp only [lcGo, h1, h2, h3, bind_ok, if_true]
    rw [if_pos (by omega), e1, List.append_assoc]
    rfl
theorem All2.len {α β : Type} {R : α → β → Prop} {l : List α} {ys : List β} (h : All2 R l ys) : ys.length = l.length := by
  induction h with
  | nil => rfl
  | cons _ _ ih => simp [ih]
theorem All2.right {α β : Type} {R : α → β → Prop} {P : β → Prop} {l : List α} {ys : List β} (h : All2 R l ys) (i : ∀ a b, R a b → P b) : ∀ y ∈ ys, P y := by
  induction h with
  | nil => intro y hy; cases hy
  | cons h1 _ ih =>
    intro y hy
    rcases List.mem_cons.mp hy with rfl | hy
    · exact i _ _ h1
    · exact ih y hy
theorem rngD_mem {lo : Int} {n : Nat} {d : D} (h : d ∈ rngD lo n) : ∃ i : Nat, i < n ∧ d = .int (lo + i) := by
  unfold rngD at h
  obtain ⟨i, hi, rfl⟩ := List.mem_map.mp h
  exact ⟨i, List.mem_range.mp hi, rfl⟩
theorem perm_cut {α : Type} (l : List α) (v : Nat) (hv : v < l.length) : l.Perm (l[v] :: (l.take v ++ l.drop (v + 1))) := by
  have e : l = l.take v ++ l[v] :: l.drop (v + 1) := by rw [List.getElem_cons_drop, List.take_append_drop]
  conv => lhs; rw [e]
  exact List.perm_middle
end T
end S_TEv3
section S_K20Sem
set_option Elab.async false
set_option linter.all false
set_option maxRecDepth 100000
set_option maxHeartbeats 8000000
namespace K20
open PySem L2 T
def xt (C : Str) (n : String) : Option Bool := if C = "BadText" then (if n = "ValueError" then some true else  none) else  none
def xm_BadText (C : Str) : Option Bool := if C = "BadText" then some true else none
def m_is_name : SemS :=
  sSeq (sIf (cOr (cNot (isB (sIsi xt "str" (sV 0)))) (cNot (isB (sChain fLe fLe (sC (.int 1)) (sF bLen (aCons (sV 0) (aNil))) (sC (.int 8)))))) (sRet (sC (.bl false))) (sNext))
  (sRet (sF bAll (aCons (sLc [1] (iStrs (sV 0)) (.nm 1) (cYes) (sOp fIn (sV 1) (sC (.str "abcdefghijklmnopqrstuvwxyz")))) (aNil))))
def f_is_name : Fn := fnOf 1 2 m_is_name
def m_ascends : SemS :=
  sRet (sF bAll (aCons (sLc [1, 2] (iZipS (aCons (sV 0) (aCons (sSl (sV 0) (oSome (sC (.int 1))) (oNone)) (aNil)))) (.tp [1, 2]) (cYes) (sOp fLt (sV 1) (sV 2))) (aNil)))
def f_ascends : Fn := fnOf 1 3 m_ascends
def m_number_in : SemS :=
  sSeq (sIf (cOr (isB (sOp fEq (sV 0) (sC (.str "")))) (cOr (cNot (isB (sF bAll (aCons (sLc [1] (iStrs (sV 0)) (.nm 1) (cYes) (sOp fIn (sV 1) (sC (.str "0123456789")))) (aNil))))) (cAnd (isB (sOp fEq (sOp fIx (sV 0) (sC (.int 0))) (sC (.str "0")))) (isB (sOp fNe (sV 0) (sC (.str "0"))))))) (sRet (sC .non)) (sNext))
  (sRet (sF bInt (aCons (sV 0) (aNil))))
def f_number_in : Fn := fnOf 1 2 m_number_in
def m_names_text : SemS :=
  sRet (sIfx (isB (sOp fGt (sF bLen (aCons (sV 0) (aNil))) (sC (.int 0)))) (sM "str" mJoin (sC (.str " ")) (aCons (sV 0) (aNil))) (sC (.str "-")))
def f_names_text : Fn := fnOf 1 1 m_names_text
def m_read_names : SemS :=
  sSeq (sAsg (sIfx (isB (sOp fNe (sV 0) (sC (.str "-")))) (sM "str" mSplit (sV 0) (aCons (sC (.str " ")) (aNil))) (sLst (aNil))) (gN 1))
  (sSeq (sIf (cNot (isB (sF bAll (aCons (sLc [2] (iSeq (sV 1)) (.nm 2) (cYes) (sCall (f_is_name) (aCons (sV 2) (aNil)))) (aNil))))) (sRaise "BadText") (sNext))
  (sRet (sF bTuple (aCons (sV 1) (aNil)))))
def f_read_names : Fn := fnOf 1 3 m_read_names
def m_turns_text : SemS :=
  sRet (sCall (f_names_text) (aCons (sLc [1, 2] (iSeq (sV 0)) (.tp [1, 2]) (cYes) (sOp fAdd (sV 1) (sF bStr (aCons (sV 2) (aNil))))) (aNil)))
def f_turns_text : Fn := fnOf 1 3 m_turns_text
def m_turn_in : SemS :=
  sSeq (sAsg (sM "str" mRstrip (sV 0) (aCons (sC (.str "0123456789")) (aNil))) (gN 1))
  (sSeq (sAsg (sCall (f_number_in) (aCons (sSl (sV 0) (oSome (sF bLen (aCons (sV 1) (aNil)))) (oNone)) (aNil))) (gN 2))
  (sSeq (sIf (cOr (cNot (isB (sCall (f_is_name) (aCons (sV 1) (aNil))))) (isB (sOp fIsN (sV 2) (sC .non)))) (sRaise "BadText") (sNext))
  (sRet (sTup (aCons (sV 1) (aCons (sV 2) (aNil)))))))
def f_turn_in : Fn := fnOf 1 3 m_turn_in
def m_read_turns : SemS :=
  sSeq (sAsg (sIfx (isB (sOp fNe (sV 0) (sC (.str "-")))) (sLc [2] (iSeq (sM "str" mSplit (sV 0) (aCons (sC (.str " ")) (aNil)))) (.nm 2) (cYes) (sCall (f_turn_in) (aCons (sV 2) (aNil)))) (sLst (aNil))) (gN 1))
  (sSeq (sIf (cNot (isB (sCall (f_ascends) (aCons (sLc [3, 4] (iSeq (sV 1)) (.tp [3, 4]) (cYes) (sV 3)) (aNil))))) (sRaise "BadText") (sNext))
  (sRet (sF bTuple (aCons (sV 1) (aNil)))))
def f_read_turns : Fn := fnOf 1 5 m_read_turns
def m_law_box : SemS :=
  sSeq (sAsg (sIfx (isB (sOp fLt (sV 1) (sF bLen (aCons (sV 0) (aNil))))) (sOp fIx (sV 0) (sV 1)) (sC (.int 0))) (gN 2))
  (sRet (sLstC (aCons (sOp fMulA (sF bAbs (aCons (sV 2) (aNil))) (sF bInt (aCons (sOp fGe (sF bAbs (aCons (sV 2) (aNil))) (sOp fPow (sC (.int 10)) (sC (.int 18)))) (aNil)))) (aCons (sOp fAdd (sOp fAdd (sOp fMod (sF bInt (aCons (sV 2) (aNil))) (sC (.int 2305843009213693951))) (sOp fMulA (sC (.int 39373)) (sV 1))) (sC (.int 20879))) (aCons (sC (.int 0)) (aNil))))))
def f_law_box : Fn := fnRaw 2 3 m_law_box
def m_law_take : SemS :=
  sSeq (sIf (isB (sOp fGt (sOp fIx (sV 0) (sC (.int 0))) (sC (.int 0)))) (sSeq (sAsg (sOp fMod (sF bInt (aCons (sOp fIx (sV 0) (sC (.int 0))) (aNil))) (sV 1)) (gN 2))
  (sSeq (sAsg (sOp fDiv (sOp fIx (sV 0) (sC (.int 0))) (sV 1)) (gIx (sV 0) (sC (.int 0))))
  (sRet (sV 2)))) (sNext))
  (sSeq (sAsg (sOp fAdd (sOp fIx (sV 0) (sC (.int 2))) (sC (.int 1))) (gIx (sV 0) (sC (.int 2))))
  (sSeq (sAsg (sOp fMod (sF bInt (aCons (sOp fMulA (sOp fAdd (sOp fIx (sV 0) (sC (.int 1))) (sOp fMulA (sC (.int 48271)) (sOp fIx (sV 0) (sC (.int 2))))) (sOp fAdd (sC (.int 39373)) (sOp fIx (sV 0) (sC (.int 2))))) (aNil))) (sC (.int 2147483647))) (gN 3))
  (sSeq (sAsg (sOp fAdd (sOp fMod (sF bInt (aCons (sV 3) (aNil))) (sC (.int 40009))) (sC (.int 7))) (gN 4))
  (sSeq (sAsg (sOp fMod (sF bInt (aCons (sOp fMulA (sOp fAdd (sOp fAdd (sV 3) (sOp fIx (sV 0) (sC (.int 2)))) (sOp fDiv (sOp fIx (sV 0) (sC (.int 1))) (sC (.int 1000003)))) (sV 4)) (aNil))) (sC (.int 2147483629))) (gN 5))
  (sRet (sOp fMod (sF bInt (aCons (sOp fDiv (sOp fMod (sF bInt (aCons (sOp fAdd (sOp fMulA (sV 5) (sC (.int 48271))) (sV 3)) (aNil))) (sC (.int 2147483587))) (sC (.int 64))) (aNil))) (sV 1)))))))
def f_law_take : Fn := fnOf 2 6 m_law_take
def m_law_cells : SemS :=
  sSeq (sAsg (sOrL (sF bListAC (aCons (sSl (sV 0) (oNone) (oSome (sV 1))) (aNil))) (sLstC (aCons (sC (.int 0)) (aNil)))) (gN 2))
  (sSeq (sFor (iEnumS (aCons (sSl (sV 0) (oSome (sV 1)) (oSome (sC (.int 63)))) (aNil))) (.tp [3, 4]) (sSeq (sAsg (sOp fMod (sF bInt (aCons (sV 3) (aNil))) (sV 1)) (gN 5))
  (sAsg (sOp fAdd (sOp fIx (sV 2) (sV 5)) (sOp fMulA (sV 4) (sOp fAdd (sV 3) (sC (.int 2))))) (gIx (sV 2) (sV 5)))))
  (sRet (sV 2)))
def f_law_cells : Fn := fnCut 2 6 m_law_cells
def m_law_of : SemS :=
  sRet (sOp fIx (sV 1) (sCall (f_law_take) (aCons (sV 0) (aCons (sF bLen (aCons (sV 1) (aNil))) (aNil)))))
def f_law_of : Fn := fnOf 2 2 m_law_of
def m_law_lists (φ : Fn) : SemS :=
  sRet (sIfx (isB (sIsi2 "list" "tuple" (sV 0))) (sLc [1] (iSeq (sV 0)) (.nm 1) (cYes) (sCall (φ) (aCons (sV 1) (aNil)))) (sV 0))
def f_law_lists : Nat → Fn
  | 0 => fun _ _ => .bad
  | k + 1 => fnOf 1 2 (m_law_lists (f_law_lists k))
def m_law_same (φ : Fn) : SemS :=
  sSeq (sIf (isB (sIsi2 "list" "tuple" (sV 1))) (sSeq (sIf (cOr (isB (sOp fNe (sIsi xt "list" (sV 0)) (sIsi xt "list" (sV 1)))) (isB (sOp fNe (sIsi xt "tuple" (sV 0)) (sIsi xt "tuple" (sV 1))))) (sRet (sC (.bl false))) (sNext))
  (sRet (sAnd (sOp fEq (sF bLen (aCons (sV 0) (aNil))) (sF bLen (aCons (sV 1) (aNil)))) (sF bAll (aCons (sLc [3, 2] (iZipS (aCons (sV 0) (aCons (sV 1) (aNil)))) (.tp [3, 2]) (cYes) (sCall (φ) (aCons (sV 3) (aCons (sV 2) (aNil))))) (aNil)))))) (sNext))
  (sSeq (sIf (cOr (isB (sOp fIsN (sV 1) (sC .non))) (isB (sIsi2 "bool" "str" (sV 1)))) (sRet (sAnd (sOp fEq (sV 0) (sV 1)) (sAnd (sOp fEq (sIsi xt "bool" (sV 0)) (sIsi xt "bool" (sV 1))) (sOp fEq (sOp fIsN (sV 0) (sC .non)) (sOp fIsN (sV 1) (sC .non)))))) (sNext))
  (sRet (sAnd (sIsi xt "int" (sV 0)) (sAnd (sNot (sIsi xt "bool" (sV 0))) (sOp fEq (sV 0) (sV 1))))))
def f_law_same : Nat → Fn
  | 0 => fun _ _ => .bad
  | k + 1 => fnOf 2 4 (m_law_same (f_law_same k))
def m_law_mixed : SemS :=
  sSeq (sAsg (sTup (aCons (sF bListA (aCons (sV 1) (aNil))) (aCons (sLstC (aNil)) (aNil)))) (gTg (.tp [2, 3])))
  (sSeq (sFor (T.iRng1 (aCons (sF bLen (aCons (sV 1) (aNil))) (aNil))) (.nm 4) (sSeq (sAsg (sCall (f_law_take) (aCons (sV 0) (aCons (sF bLen (aCons (sV 2) (aNil))) (aNil)))) (gN 5))
  (sSeq (sDo (sM "list" mAppend (sV 3) (aCons (sOp fIx (sV 2) (sV 5)) (aNil))))
  (sAsg (sOp fAdd (sSl (sV 2) (oNone) (oSome (sV 5))) (sSl (sV 2) (oSome (sOp fAdd (sV 5) (sC (.int 1)))) (oNone))) (gN 2)))))
  (sRet (sV 3)))
def f_law_mixed : Fn := fnCut 2 6 m_law_mixed
def m_law_tags : SemS :=
  sSeq (sAsg (sCall (f_law_mixed) (aCons (sV 0) (aCons (sC (.str "abcdefghijklmnopqrstuvwxyz")) (aNil)))) (gN 2))
  (sSeq (sAsg (sCall (f_law_take) (aCons (sV 0) (aCons (sC (.int 4)) (aNil)))) (gN 3))
  (sSeq (sAsg (sTup (aCons (sOp fIx (sLst (aCons (sC (.str "")) (aCons (sC (.str "")) (aCons (sC (.str "gate")) (aCons (sC (.str "z")) (aNil)))))) (sV 3)) (aCons (sOp fIx (sLst (aCons (sC (.str "")) (aCons (sC (.str "")) (aCons (sC (.str "")) (aCons (sC (.str "yyyyyy")) (aNil)))))) (sV 3)) (aNil)))) (gTg (.tp [4, 5])))
  (sSeq (sAsg (sLc [7] (iSeq (sSl (sV 2) (oNone) (oSome (sF bMin2 (aCons (sV 1) (aCons (sC (.int 26)) (aNil))))))) (.nm 7) (cYes) (sOp fAdd (sOp fAdd (sV 4) (sV 7)) (sV 5))) (gN 6))
  (sRet (sOp fAdd (sV 6) (sLc [8] (T.iRng1 (aCons (sOp fSub (sV 1) (sF bLen (aCons (sV 6) (aNil)))) (aNil))) (.nm 8) (cYes) (sOp fAdd (sOp fAdd (sC (.str "more")) (sOp fIx (sV 2) (sOp fDiv (sV 8) (sC (.int 26))))) (sOp fIx (sV 2) (sOp fMod (sF bInt (aCons (sV 8) (aNil))) (sC (.int 26)))))))))))
def f_law_tags : Fn := fnOf 2 9 m_law_tags
def m_law_heard : SemS :=
  sSeq (sAsg (sTup (aCons (sC .non) (aCons (sC .non) (aNil)))) (gTg (.tp [2, 3])))
  (sSeq (sTry (sAsg (sIfx (isB (sOp fEq (sV 0) (sC (.int 0)))) (sCall (f_read_names) (aCons (sV 1) (aNil))) (sCall (f_read_turns) (aCons (sV 1) (aNil)))) (gN 3)) xm_BadText 4 (sAsg (sV 4) (gN 2)))
  (sRet (sIfx (isB (sOp fIsN (sV 2) (sC .non))) (sV 3) (sLst (aCons (sC (.str "bad")) (aCons (sIsi xt "ValueError" (sV 2)) (aNil)))))))
def f_law_heard : Fn := fnOf 2 5 m_law_heard
def m_law_is_tag : SemS :=
  sRet (sAnd (sChain fLt fLt (sC (.int 0)) (sF bLen (aCons (sV 0) (aNil))) (sC (.int 9))) (sOp fEq (sLc [1] (iStrs (sV 0)) (.nm 1) (isB (sOp fNotIn (sV 1) (sC (.str "abcdefghijklmnopqrstuvwxyz")))) (sV 1)) (sLst (aNil))))
def f_law_is_tag : Fn := fnOf 1 2 m_law_is_tag
def m_law_tags_in : SemS :=
  sSeq (sAsg (sIfx (isB (sOp fEq (sV 0) (sC (.str "-")))) (sLst (aNil)) (sM "str" mSplit (sV 0) (aCons (sC (.str " ")) (aNil)))) (gN 1))
  (sRet (sIfx (isB (sOp fNe (sLc [2] (iSeq (sV 1)) (.nm 2) (cNot (isB (sCall (f_law_is_tag) (aCons (sV 2) (aNil))))) (sV 2)) (sLst (aNil)))) (sLst (aCons (sC (.str "bad")) (aCons (sC (.bl true)) (aNil)))) (sF bTuple (aCons (sV 1) (aNil)))))
def f_law_tags_in : Fn := fnOf 1 3 m_law_tags_in
def m_law_turn_in : SemS :=
  sSeq (sAsg (sF bLen (aCons (sLc [4] (iStrs (sV 0)) (.nm 4) (isB (sOp fNotIn (sV 4) (sC (.str "0123456789")))) (sV 4)) (aNil))) (gN 1))
  (sSeq (sAsg (sTup (aCons (sSl (sV 0) (oNone) (oSome (sV 1))) (aCons (sSl (sV 0) (oSome (sV 1)) (oNone)) (aNil)))) (gTg (.tp [2, 3])))
  (sSeq (sIf (cOr (cNot (isB (sCall (f_law_is_tag) (aCons (sV 2) (aNil))))) (cOr (isB (sOp fEq (sV 3) (sC (.str "")))) (isB (sOp fNe (sLc [4] (iStrs (sV 3)) (.nm 4) (isB (sOp fNotIn (sV 4) (sC (.str "0123456789")))) (sV 4)) (sLst (aNil)))))) (sRet (sC .non)) (sNext))
  (sRet (sIfx (cAnd (isB (sOp fGt (sF bLen (aCons (sV 3) (aNil))) (sC (.int 1)))) (isB (sOp fEq (sOp fIx (sV 3) (sC (.int 0))) (sC (.str "0"))))) (sC .non) (sTup (aCons (sV 2) (aCons (sF bInt (aCons (sV 3) (aNil))) (aNil))))))))
def f_law_turn_in : Fn := fnOf 1 5 m_law_turn_in
def m_law_turns_in : SemS :=
  sSeq (sAsg (sIfx (isB (sOp fEq (sV 0) (sC (.str "-")))) (sLst (aNil)) (sLc [2] (iSeq (sM "str" mSplit (sV 0) (aCons (sC (.str " ")) (aNil)))) (.nm 2) (cYes) (sCall (f_law_turn_in) (aCons (sV 2) (aNil))))) (gN 1))
  (sSeq (sIf (isB (sOp fIn (sC .non) (sV 1))) (sRet (sLst (aCons (sC (.str "bad")) (aCons (sC (.bl true)) (aNil))))) (sNext))
  (sSeq (sIf (isB (sOp fNe (sLc [3] (T.iRng2 (aCons (sC (.int 1)) (aCons (sF bLen (aCons (sV 1) (aNil))) (aNil)))) (.nm 3) (isB (sOp fLe (sOp fIx (sOp fIx (sV 1) (sV 3)) (sC (.int 0))) (sOp fIx (sOp fIx (sV 1) (sOp fSub (sV 3) (sC (.int 1)))) (sC (.int 0))))) (sV 3)) (sLst (aNil)))) (sRet (sLst (aCons (sC (.str "bad")) (aCons (sC (.bl true)) (aNil))))) (sNext))
  (sRet (sF bTuple (aCons (sV 1) (aNil))))))
def f_law_turns_in : Fn := fnOf 1 4 m_law_turns_in
def m_law_bent : SemS :=
  sSeq (sAsg (sTup (aCons (sCall (f_law_take) (aCons (sV 0) (aCons (sOp fAdd (sF bLen (aCons (sV 1) (aNil))) (sC (.int 1))) (aNil)))) (aCons (sCall (f_law_of) (aCons (sV 0) (aCons (sF bListA (aCons (sC (.str "  -ab0191A;>z_")) (aNil))) (aNil)))) (aNil)))) (gTg (.tp [2, 3])))
  (sSeq (sAsg (sLstC (aCons (sOp fAdd (sOp fAdd (sSl (sV 1) (oNone) (oSome (sV 2))) (sV 3)) (sSl (sV 1) (oSome (sV 2)) (oNone))) (aCons (sOp fAdd (sSl (sV 1) (oNone) (oSome (sV 2))) (sSl (sV 1) (oSome (sOp fAdd (sV 2) (sC (.int 1)))) (oNone))) (aNil)))) (gN 4))
  (sSeq (sDo (sM "list" mAppend (sV 4) (aCons (sOp fAdd (sOp fAdd (sSl (sV 1) (oNone) (oSome (sV 2))) (sV 3)) (sSl (sV 1) (oSome (sOp fAdd (sV 2) (sC (.int 1)))) (oNone))) (aNil))))
  (sSeq (sDo (sM "list" mAppend (sV 4) (aCons (sOp fAdd (sOp fAdd (sSl (sV 1) (oNone) (oSome (sV 2))) (sRev (sSl (sV 1) (oSome (sV 2)) (oSome (sOp fAdd (sV 2) (sC (.int 2))))))) (sSl (sV 1) (oSome (sOp fAdd (sV 2) (sC (.int 2)))) (oNone))) (aNil))))
  (sRet (sOp fAdd (sV 4) (sLst (aCons (sOp fAdd (sV 1) (sC (.str " "))) (aCons (sOp fAdd (sC (.str " ")) (sV 1)) (aCons (sOp fAdd (sV 1) (sV 3)) (aNil))))))))))
def f_law_bent : Fn := fnCut 2 5 m_law_bent
def m_law_case_right : SemS :=
  sSeq (sAsg (sIfx (isB (sOp fNe (sV 1) (sTup (aNil)))) (sM "str" mJoin (sC (.str " ")) (aCons (sV 1) (aNil))) (sC (.str "-"))) (gN 3))
  (sSeq (sAsg (sIfx (isB (sOp fNe (sV 2) (sTup (aNil)))) (sM "str" mJoin (sC (.str " ")) (aCons (sLc [7, 6] (iSeq (sV 2)) (.tp [7, 6]) (cYes) (sOp fAdd (sV 7) (sF bStr (aCons (sV 6) (aNil))))) (aNil))) (sC (.str "-"))) (gN 4))
  (sSeq (sAsg (sLst (aCons (sCall (f_names_text) (aCons (sV 1) (aNil))) (aCons (sCallK (f_names_text) 0 1 [0] aNil (aCons (sF bListA (aCons (sV 1) (aNil))) (aNil))) (aCons (sCall (f_read_names) (aCons (sV 3) (aNil))) (aCons (sCallK (f_read_names) 0 1 [0] aNil (aCons (sV 3) (aNil))) (aNil)))))) (gN 5))
  (sSeq (sAsg (sOp fAdd (sV 5) (sLst (aCons (sCall (f_turns_text) (aCons (sV 2) (aNil))) (aCons (sCallK (f_turns_text) 0 1 [0] aNil (aCons (sCall (f_law_lists 4) (aCons (sV 2) (aNil))) (aNil))) (aCons (sCall (f_read_turns) (aCons (sV 4) (aNil))) (aCons (sCallK (f_read_turns) 0 1 [0] aNil (aCons (sV 4) (aNil))) (aNil))))))) (gN 5))
  (sSeq (sIf (cNot (isB (sCall (f_law_same 6) (aCons (sV 5) (aCons (sLst (aCons (sV 3) (aCons (sV 3) (aCons (sV 1) (aCons (sV 1) (aCons (sV 4) (aCons (sV 4) (aCons (sV 2) (aCons (sV 2) (aNil)))))))))) (aNil)))))) (sRet (sC (.bl false))) (sNext))
  (sSeq (sFor (iSeq (sOp fAdd (sOp fAdd (sCall (f_law_bent) (aCons (sV 0) (aCons (sV 3) (aNil)))) (sCall (f_law_bent) (aCons (sV 0) (aCons (sV 4) (aNil))))) (sLst (aCons (sV 3) (aCons (sV 4) (aNil)))))) (.nm 3) (sIf (cNot (isB (sCall (f_law_same 6) (aCons (sLst (aCons (sCall (f_law_heard) (aCons (sC (.int 0)) (aCons (sV 3) (aNil)))) (aCons (sCall (f_law_heard) (aCons (sC (.int 1)) (aCons (sV 3) (aNil)))) (aNil)))) (aCons (sLst (aCons (sCall (f_law_tags_in) (aCons (sV 3) (aNil))) (aCons (sCall (f_law_turns_in) (aCons (sV 3) (aNil))) (aNil)))) (aNil)))))) (sRet (sC (.bl false))) (sNext)))
  (sRet (sC (.bl true))))))))
def f_law_case_right : Fn := fnOf 3 8 m_law_case_right
def m_law_by_hand_right : SemS :=
  sSeq (sAsg (sLst (aCons (sCall (f_names_text) (aCons (sTup (aCons (sC (.str "c")) (aCons (sC (.str "a")) (aCons (sC (.str "c")) (aNil))))) (aNil))) (aCons (sCall (f_names_text) (aCons (sTup (aNil)) (aNil))) (aCons (sCall (f_read_names) (aCons (sC (.str "c a c")) (aNil))) (aCons (sCall (f_read_names) (aCons (sC (.str "-")) (aNil))) (aCons (sCall (f_turns_text) (aCons (sTup (aCons (sTup (aCons (sC (.str "a")) (aCons (sC (.int 2)) (aNil)))) (aCons (sTup (aCons (sC (.str "b")) (aCons (sC (.int 0)) (aNil)))) (aNil)))) (aNil))) (aNil))))))) (gN 0))
  (sSeq (sAsg (sLst (aCons (sC (.str "c a c")) (aCons (sC (.str "-")) (aCons (sTup (aCons (sC (.str "c")) (aCons (sC (.str "a")) (aCons (sC (.str "c")) (aNil))))) (aCons (sTup (aNil)) (aCons (sC (.str "a2 b0")) (aNil))))))) (gN 1))
  (sSeq (sAsg (sOp fAdd (sV 0) (sLst (aCons (sCall (f_read_turns) (aCons (sC (.str "a2 b0")) (aNil))) (aCons (sCall (f_read_turns) (aCons (sC (.str "-")) (aNil))) (aCons (sCall (f_turns_text) (aCons (sTup (aNil)) (aNil))) (aCons (sCall (f_read_turns) (aCons (sOp fAdd (sC (.str "abcdefgh0 z")) (sOp fMulA (sC (.str "9")) (sC (.int 40)))) (aNil))) (aNil))))))) (gN 0))
  (sSeq (sAsg (sOp fAdd (sV 1) (sLst (aCons (sTup (aCons (sTup (aCons (sC (.str "a")) (aCons (sC (.int 2)) (aNil)))) (aCons (sTup (aCons (sC (.str "b")) (aCons (sC (.int 0)) (aNil)))) (aNil)))) (aCons (sTup (aNil)) (aCons (sC (.str "-")) (aCons (sTup (aCons (sTup (aCons (sC (.str "abcdefgh")) (aCons (sC (.int 0)) (aNil)))) (aCons (sTup (aCons (sC (.str "z")) (aCons (sOp fSub (sOp fPow (sC (.int 10)) (sC (.int 40))) (sC (.int 1))) (aNil)))) (aNil)))) (aNil))))))) (gN 1))
  (sSeq (sAsg (sLst (aCons (sC (.str "")) (aCons (sC (.str " ")) (aCons (sC (.str "a ")) (aCons (sC (.str " a")) (aCons (sC (.str "a  b")) (aCons (sC (.str "A")) (aCons (sC (.str "a1")) (aCons (sC (.str "a-b")) (aCons (sC (.str "- a")) (aCons (sC (.str "--")) (aCons (sC (.str "abcdefghi")) (aCons (sC (.str "a\nb")) (aCons (sC (.str "a,b")) (aNil))))))))))))))) (gN 2))
  (sSeq (sAsg (sOp fAdd (sV 0) (sLst (aCons (sLc [5] (iSeq (sV 2)) (.nm 5) (cYes) (sCall (f_law_heard) (aCons (sC (.int 0)) (aCons (sV 5) (aNil))))) (aNil)))) (gN 0))
  (sSeq (sAsg (sOp fAdd (sV 1) (sLst (aCons (sOp fMulA (sLst (aCons (sLst (aCons (sC (.str "bad")) (aCons (sC (.bl true)) (aNil)))) (aNil))) (sF bLen (aCons (sV 2) (aNil)))) (aNil)))) (gN 1))
  (sSeq (sAsg (sLst (aCons (sC (.str "a+1")) (aCons (sC (.str "a1_0")) (aCons (sC (.str "a+0")) (aCons (sC (.str "a-0")) (aCons (sC (.str "")) (aCons (sC (.str "a")) (aCons (sC (.str "1")) (aCons (sC (.str "a01")) (aCons (sC (.str "a1 a1")) (aCons (sC (.str "b0 a2")) (aCons (sC (.str "a1 ")) (aCons (sC (.str "a 1")) (aCons (sC (.str "a-1")) (aCons (sC (.str "a1b2")) (aCons (sC (.str "A1")) (aCons (sC (.str "a1  b1")) (aCons (sC (.str "abcdefghi1")) (aCons (sC (.str "a00")) (aCons (sC (.str "- a1")) (aNil))))))))))))))))))))) (gN 2))
  (sSeq (sAsg (sOp fAdd (sV 0) (sLst (aCons (sLc [5] (iSeq (sV 2)) (.nm 5) (cYes) (sCall (f_law_heard) (aCons (sC (.int 1)) (aCons (sV 5) (aNil))))) (aCons (sCall (f_read_turns) (aCons (sOp fAdd (sC (.str "a")) (sF bStr (aCons (sOp fPow (sC (.int 10)) (sC (.int 40))) (aNil)))) (aNil))) (aNil))))) (gN 0))
  (sSeq (sAsg (sOp fAdd (sV 1) (sLst (aCons (sOp fMulA (sLst (aCons (sLst (aCons (sC (.str "bad")) (aCons (sC (.bl true)) (aNil)))) (aNil))) (sF bLen (aCons (sV 2) (aNil)))) (aCons (sTup (aCons (sTup (aCons (sC (.str "a")) (aCons (sOp fPow (sC (.int 10)) (sC (.int 40))) (aNil)))) (aNil))) (aNil))))) (gN 1))
  (sSeq (sAsg (sC (.str "abcdefghijklmnopqrst")) (gN 3))
  (sSeq (sAsg (sF bTuple (aCons (sLc [6] (T.iRng1 (aCons (sC (.int 200)) (aNil))) (.nm 6) (cYes) (sOp fAdd (sOp fAdd (sC (.str "zzzzzz")) (sOp fIx (sV 3) (sOp fDiv (sV 6) (sC (.int 10))))) (sOp fIx (sV 3) (sOp fMod (sF bInt (aCons (sV 6) (aNil))) (sC (.int 10)))))) (aNil))) (gN 4))
  (sSeq (sAsg (sOp fAdd (sV 0) (sLst (aCons (sF bLen (aCons (sCall (f_names_text) (aCons (sV 4) (aNil))) (aNil))) (aCons (sOp fEq (sCall (f_read_names) (aCons (sCall (f_names_text) (aCons (sV 4) (aNil))) (aNil))) (sV 4)) (aNil))))) (gN 0))
  (sRet (sCall (f_law_same 6) (aCons (sV 0) (aCons (sOp fAdd (sV 1) (sLst (aCons (sC (.int 1799)) (aCons (sC (.bl true)) (aNil))))) (aNil)))))))))))))))))
def f_law_by_hand_right : Fn := fnOf 0 7 m_law_by_hand_right
def m_law_right : SemS :=
  sSeq (sAsg (sCall (f_law_tags) (aCons (sV 0) (aCons (sOp fAdd (sC (.int 1)) (sCall (f_law_take) (aCons (sV 0) (aCons (sC (.int 9)) (aNil))))) (aNil)))) (gN 1))
  (sSeq (sAsg (sF bTuple (aCons (sLc [5] (T.iRng1 (aCons (sCall (f_law_take) (aCons (sV 0) (aCons (sC (.int 10)) (aNil)))) (aNil))) (.nm 5) (cYes) (sCall (f_law_of) (aCons (sV 0) (aCons (sV 1) (aNil))))) (aNil))) (gN 2))
  (sSeq (sAsg (sSl (sF bSortS (aCons (sV 1) (aNil))) (oNone) (oSome (sCall (f_law_take) (aCons (sV 0) (aCons (sC (.int 10)) (aNil)))))) (gN 3))
  (sSeq (sAsg (sF bTuple (aCons (sLc [6] (iSeq (sV 3)) (.nm 6) (cYes) (sTup (aCons (sV 6) (aCons (sCall (f_law_of) (aCons (sV 0) (aCons (sLst (aCons (sC (.int 0)) (aCons (sC (.int 1)) (aCons (sCall (f_law_take) (aCons (sV 0) (aCons (sC (.int 30)) (aNil)))) (aCons (sOp fSub (sOp fPow (sC (.int 10)) (sC (.int 38))) (sCall (f_law_take) (aCons (sV 0) (aCons (sC (.int 9)) (aNil))))) (aNil)))))) (aNil)))) (aNil))))) (aNil))) (gN 4))
  (sRet (sCall (f_law_case_right) (aCons (sV 0) (aCons (sV 2) (aCons (sV 4) (aNil)))))))))
def f_law_right : Fn := fnOf 1 7 m_law_right
def m_law : SemS :=
  sSeq (sIf (cNot (isB (sCall (f_law_by_hand_right) aNil))) (sRet (sC (.bl false))) (sNext))
  (sSeq (sAsg (sCall (f_law_cells) (aCons (sV 0) (aCons (sC (.int 3)) (aNil)))) (gN 1))
  (sSeq (sFor (T.iRng1 (aCons (sF bLen (aCons (sV 1) (aNil))) (aNil))) (.nm 2) (sSeq (sAsg (sCall (f_law_box) (aCons (sV 1) (aCons (sV 2) (aNil)))) (gN 3))
  (sIf (cNot (isB (sF bAll (aCons (sLc [4] (T.iRng1 (aCons (sC (.int 8)) (aNil))) (.nm 4) (cYes) (sCall (f_law_right) (aCons (sV 3) (aNil)))) (aNil))))) (sRet (sC (.bl false))) (sNext))))
  (sRet (sC (.bl true)))))
def f_law : Fn := fnRaw 1 5 m_law
end K20
end S_K20Sem
section S_K20Ok
set_option Elab.async false
set_option linter.all false
set_option maxRecDepth 100000
set_option maxHeartbeats 8000000
namespace K20
open PySem L2 T
def top (i : Nat) : Stmt := PySem.Challenge.pw_gatekeys_k20_names_and_turns_as_texts.main.body.getD i (.Pass ⟨0, 0, 0, 0⟩)
structure Txt (K : PySem.W.Frag) (mg : Str → Option Value) : Prop where
  z_ValueError : mg "ValueError" = none
  z_abs : mg "abs" = none
  z_all : mg "all" = none
  z_bool : mg "bool" = none
  z_enumerate : mg "enumerate" = none
  z_int : mg "int" = none
  z_isinstance : mg "isinstance" = none
  z_len : mg "len" = none
  z_list : mg "list" = none
  z_min : mg "min" = none
  z_range : mg "range" = none
  z_sorted : mg "sorted" = none
  z_str : mg "str" = none
  z_tuple : mg "tuple" = none
  z_zip : mg "zip" = none
  k_LETTERS : ∃ t, mg "LETTERS" = some (.str "abcdefghijklmnopqrstuvwxyz" t)
  k_DIGITS : ∃ t, mg "DIGITS" = some (.str "0123456789" t)
  k_MOST_LETTERS : ∃ t, mg "MOST_LETTERS" = some (.int 8 t)
  k_BLANK : ∃ t, mg "BLANK" = some (.str " " t)
  k_NOTHING : ∃ t, mg "NOTHING" = some (.str "-" t)
  e_BadText : ExcT K mg "BadText"
  xt : XTab K mg xt
  xm_BadText : ∀ C ca b, xm_BadText C = some b → mg C = some (.ref ca) → PySem.W.exmOne K (.ref ca) (.ref (He.ga K "BadText")) = some b
abbrev s_is_name : Stmt := top 6
theorem sc_is_name : FnScope ["thing", "sign"] ["thing"] (defScope s_is_name) := ⟨rfl, rfl, rfl, by decide +kernel, rfl, by decide +kernel, by decide +kernel⟩
theorem bd_is_name {P : Program} {w : World} {K : PySem.W.Frag} {mg : Str → Option Value} {base : Heap} (T : Txt K mg) {f : Addr} {cdv : Value} {A : Around} {outer : List PySem.Env} {s : Shared} {H : Hp} {E : XK} (hr : Room 0 (A.deeper (PyProof.Rows.envOfC "is_name" (defScope s_is_name) s.heap.objs.size f cdv))) (tk : Takes (cxOf (L2.CX P w) P w K mg base ["thing", "sign"] "is_name" (defScope s_is_name) f cdv A outer s H E) (WE E)) : PSs (cxOf (L2.CX P w) P w K mg base ["thing", "sign"] "is_name" (defScope s_is_name) f cdv A outer s H E) (defBody s_is_name) (tS K mg (WE E) m_is_name) := by
  have nd := sc_is_name.nd
  exact yCons (yIf (wPt (wOr (wNot (tVal (uIsi T.xt T.z_isinstance T.z_str (uV 0)))) (wOr1 (wNot (tLeLe_ (xInt) (uLen T.z_len (uCons (uV 0) (zNil))) (uIntC T.k_MOST_LETTERS)))))) (yOne (yRet (xBl))) (yNil))
      (yOne (yRet (uAll T.z_all (uCons (uLc [("sign", 1)] (.nm 1) nd tk (jStrs (uV 0)) (by rfl) (fun _ _ _ _ _ _ => (pg_name (i := 1) nd rfl (by first | exact Or.inl rfl | exact Or.inr rfl))) (fun _ _ _ _ _ _ _ q => kNil) (fun _ _ _ _ _ _ _ q => uIn hr (uV 1) (uStrC T.k_LETTERS))) (zNil)))))
theorem ok_is_name {P : Program} {w : World} {K : PySem.W.Frag} {mg : Str → Option Value} {base : Heap} (T : Txt K mg) (dd : Dfd K mg "is_name" s_is_name) : Cal P w K mg base "is_name" s_is_name 1 ["thing"] f_is_name := by
  obtain ⟨f, fd, F, g⟩ := dd.ex
  have h := fn_ok (P := P) (w := w) (K := K) (mg := mg) (base := base) (x := "is_name") (qual := "is_name") (params := defArgs s_is_name) (body := defBody s_is_name) (scope := defScope s_is_name) (dvs := []) (kws := []) (f := f) (fd := fd) (N := ["thing", "sign"]) (ps := ["thing"]) (n := 1) (k := 0) (m := m_is_name) F sc_is_name rfl (fun cdv A outer s H E hr tk => bd_is_name T  hr tk)
  exact ⟨f, fd, F, h, g, F.bindsN fun _ _ _ _ _ _ us hl => match us, hl with | [_], _ => rfl⟩
abbrev s_ascends : Stmt := top 7
theorem sc_ascends : FnScope ["row", "one", "other"] ["row"] (defScope s_ascends) := ⟨rfl, rfl, rfl, by decide +kernel, rfl, by decide +kernel, by decide +kernel⟩
theorem bd_ascends {P : Program} {w : World} {K : PySem.W.Frag} {mg : Str → Option Value} {base : Heap} (T : Txt K mg) {f : Addr} {cdv : Value} {A : Around} {outer : List PySem.Env} {s : Shared} {H : Hp} {E : XK} (hr : Room 0 (A.deeper (PyProof.Rows.envOfC "ascends" (defScope s_ascends) s.heap.objs.size f cdv))) (tk : Takes (cxOf (L2.CX P w) P w K mg base ["row", "one", "other"] "ascends" (defScope s_ascends) f cdv A outer s H E) (WE E)) : PSs (cxOf (L2.CX P w) P w K mg base ["row", "one", "other"] "ascends" (defScope s_ascends) f cdv A outer s H E) (defBody s_ascends) (tS K mg (WE E) m_ascends) := by
  have nd := sc_ascends.nd
  exact yOne (yRet (uAll T.z_all (uCons (uLc [("one", 1), ("other", 2)] (.tp [1, 2]) nd tk (uZip T.z_zip (uCons (uV 0) (uCons (xSl (uV 0) (oYes (xInt)) (oNo)) (zNil)))) (by rfl) (fun _ _ _ _ _ _ => (pg_tp rfl (pgs_cons (pg_name (i := 1) nd rfl (by first | exact Or.inl rfl | exact Or.inr rfl)) (pgs_cons (pg_name (i := 2) nd rfl (by first | exact Or.inl rfl | exact Or.inr rfl)) pgs_nil)))) (fun _ _ _ _ _ _ _ q => kNil) (fun _ _ _ _ _ _ _ q => uLt (uV 1) (uV 2))) (zNil))))
theorem ok_ascends {P : Program} {w : World} {K : PySem.W.Frag} {mg : Str → Option Value} {base : Heap} (T : Txt K mg) (dd : Dfd K mg "ascends" s_ascends) : Cal P w K mg base "ascends" s_ascends 1 ["row"] f_ascends := by
  obtain ⟨f, fd, F, g⟩ := dd.ex
  have h := fn_ok (P := P) (w := w) (K := K) (mg := mg) (base := base) (x := "ascends") (qual := "ascends") (params := defArgs s_ascends) (body := defBody s_ascends) (scope := defScope s_ascends) (dvs := []) (kws := []) (f := f) (fd := fd) (N := ["row", "one", "other"]) (ps := ["row"]) (n := 1) (k := 0) (m := m_ascends) F sc_ascends rfl (fun cdv A outer s H E hr tk => bd_ascends T  hr tk)
  exact ⟨f, fd, F, h, g, F.bindsN fun _ _ _ _ _ _ us hl => match us, hl with | [_], _ => rfl⟩
abbrev s_number_in : Stmt := top 8
theorem sc_number_in : FnScope ["text", "sign"] ["text"] (defScope s_number_in) := ⟨rfl, rfl, rfl, by decide +kernel, rfl, by decide +kernel, by decide +kernel⟩
theorem bd_number_in {P : Program} {w : World} {K : PySem.W.Frag} {mg : Str → Option Value} {base : Heap} (T : Txt K mg) {f : Addr} {cdv : Value} {A : Around} {outer : List PySem.Env} {s : Shared} {H : Hp} {E : XK} (hr : Room 0 (A.deeper (PyProof.Rows.envOfC "number_in" (defScope s_number_in) s.heap.objs.size f cdv))) (tk : Takes (cxOf (L2.CX P w) P w K mg base ["text", "sign"] "number_in" (defScope s_number_in) f cdv A outer s H E) (WE E)) : PSs (cxOf (L2.CX P w) P w K mg base ["text", "sign"] "number_in" (defScope s_number_in) f cdv A outer s H E) (defBody s_number_in) (tS K mg (WE E) m_number_in) := by
  have nd := sc_number_in.nd
  exact yCons (yIf (wPt (wOr (tEq_ hr (uV 0) (xStr)) (wOr (wNot (tVal (uAll T.z_all (uCons (uLc [("sign", 1)] (.nm 1) nd tk (jStrs (uV 0)) (by rfl) (fun _ _ _ _ _ _ => (pg_name (i := 1) nd rfl (by first | exact Or.inl rfl | exact Or.inr rfl))) (fun _ _ _ _ _ _ _ q => kNil) (fun _ _ _ _ _ _ _ q => uIn hr (uV 1) (uStrC T.k_DIGITS))) (zNil))))) (wOr1 (wPt (wAnd (tEq_ hr (uIx (uV 0) (xInt)) (xStr)) (wAnd1 (tNe_ hr (uV 0) (xStr))))))))) (yOne (yRet (xNon))) (yNil))
      (yOne (yRet (uInt T.z_int (uCons (uV 0) (zNil)))))
theorem ok_number_in {P : Program} {w : World} {K : PySem.W.Frag} {mg : Str → Option Value} {base : Heap} (T : Txt K mg) (dd : Dfd K mg "number_in" s_number_in) : Cal P w K mg base "number_in" s_number_in 1 ["text"] f_number_in := by
  obtain ⟨f, fd, F, g⟩ := dd.ex
  have h := fn_ok (P := P) (w := w) (K := K) (mg := mg) (base := base) (x := "number_in") (qual := "number_in") (params := defArgs s_number_in) (body := defBody s_number_in) (scope := defScope s_number_in) (dvs := []) (kws := []) (f := f) (fd := fd) (N := ["text", "sign"]) (ps := ["text"]) (n := 1) (k := 0) (m := m_number_in) F sc_number_in rfl (fun cdv A outer s H E hr tk => bd_number_in T  hr tk)
  exact ⟨f, fd, F, h, g, F.bindsN fun _ _ _ _ _ _ us hl => match us, hl with | [_], _ => rfl⟩
abbrev s_names_text : Stmt := top 12
theorem sc_names_text : FnScope ["names"] ["names"] (defScope s_names_text) := ⟨rfl, rfl, rfl, by decide +kernel, rfl, by decide +kernel, by decide +kernel⟩
theorem bd_names_text {P : Program} {w : World} {K : PySem.W.Frag} {mg : Str → Option Value} {base : Heap} (T : Txt K mg) {f : Addr} {cdv : Value} {A : Around} {outer : List PySem.Env} {s : Shared} {H : Hp} {E : XK} (hr : Room 0 (A.deeper (PyProof.Rows.envOfC "names_text" (defScope s_names_text) s.heap.objs.size f cdv))) (tk : Takes (cxOf (L2.CX P w) P w K mg base ["names"] "names_text" (defScope s_names_text) f cdv A outer s H E) (WE E)) : PSs (cxOf (L2.CX P w) P w K mg base ["names"] "names_text" (defScope s_names_text) f cdv A outer s H E) (defBody s_names_text) (tS K mg (WE E) m_names_text) := by
  have nd := sc_names_text.nd
  exact yOne (yRet (xIf (tGt_ (uLen T.z_len (uCons (uV 0) (zNil))) (xInt)) (uMeth PySem.F.plainAttrs_str PySem.F.slot_str_join PySem.F.type_str_join mt_join mJoin_ok (uStrC T.k_BLANK) (uCons (uV 0) (zNil))) (uStrC T.k_NOTHING)))
theorem ok_names_text {P : Program} {w : World} {K : PySem.W.Frag} {mg : Str → Option Value} {base : Heap} (T : Txt K mg) (dd : Dfd K mg "names_text" s_names_text) : Cal P w K mg base "names_text" s_names_text 1 ["names"] f_names_text := by
  obtain ⟨f, fd, F, g⟩ := dd.ex
  have h := fn_ok (P := P) (w := w) (K := K) (mg := mg) (base := base) (x := "names_text") (qual := "names_text") (params := defArgs s_names_text) (body := defBody s_names_text) (scope := defScope s_names_text) (dvs := []) (kws := []) (f := f) (fd := fd) (N := ["names"]) (ps := ["names"]) (n := 1) (k := 0) (m := m_names_text) F sc_names_text rfl (fun cdv A outer s H E hr tk => bd_names_text T  hr tk)
  exact ⟨f, fd, F, h, g, F.bindsN fun _ _ _ _ _ _ us hl => match us, hl with | [_], _ => rfl⟩
abbrev s_read_names : Stmt := top 13
theorem sc_read_names : FnScope ["text", "words", "word"] ["text"] (defScope s_read_names) := ⟨rfl, rfl, rfl, by decide +kernel, rfl, by decide +kernel, by decide +kernel⟩
theorem bd_read_names {P : Program} {w : World} {K : PySem.W.Frag} {mg : Str → Option Value} {base : Heap} (T : Txt K mg) (c_is_name : Cal P w K mg base "is_name" s_is_name 1 ["thing"] (f_is_name)) {f : Addr} {cdv : Value} {A : Around} {outer : List PySem.Env} {s : Shared} {H : Hp} {E : XK} (hr : Room 1 (A.deeper (PyProof.Rows.envOfC "read_names" (defScope s_read_names) s.heap.objs.size f cdv))) (tk : Takes (cxOf (L2.CX P w) P w K mg base ["text", "words", "word"] "read_names" (defScope s_read_names) f cdv A outer s H E) (WE E)) : PSs (cxOf (L2.CX P w) P w K mg base ["text", "words", "word"] "read_names" (defScope s_read_names) f cdv A outer s H E) (defBody s_read_names) (tS K mg (WE E) m_read_names) := by
  have nd := sc_read_names.nd
  exact yCons (uSet 1 nd (xIf (tNe_ hr (uV 0) (uStrC T.k_NOTHING)) (uMeth PySem.F.plainAttrs_str PySem.F.slot_str_split PySem.F.type_str_split mt_split mSplit_ok (uV 0) (uCons (uStrC T.k_BLANK) (zNil))) (xLst (zNil))))
      (yCons (yIf (wNot (tVal (uAll T.z_all (uCons (uLc [("word", 2)] (.nm 2) nd tk (jSeq (uV 1)) (by rfl) (fun _ _ _ _ _ _ => (pg_name (i := 2) nd rfl (by first | exact Or.inl rfl | exact Or.inr rfl))) (fun _ _ _ _ _ _ _ q => kNil) (fun _ _ _ _ _ _ _ q => uCall c_is_name hr q (uCons (uV 2) (zNil)))) (zNil))))) (yOne (yRaise0 PySem.F.excBase_ValueError T.e_BadText.q T.e_BadText.g T.e_BadText.k T.e_BadText.r rfl (by decide) rfl tk)) (yNil))
      (yOne (yRet (uTuple T.z_tuple (uCons (uV 1) (zNil))))))
theorem ok_read_names {P : Program} {w : World} {K : PySem.W.Frag} {mg : Str → Option Value} {base : Heap} (T : Txt K mg) (dd : Dfd K mg "read_names" s_read_names) (c_is_name : Cal P w K mg base "is_name" s_is_name 1 ["thing"] (f_is_name)) : Cal P w K mg base "read_names" s_read_names 2 ["text"] f_read_names := by
  obtain ⟨f, fd, F, g⟩ := dd.ex
  have h := fn_ok (P := P) (w := w) (K := K) (mg := mg) (base := base) (x := "read_names") (qual := "read_names") (params := defArgs s_read_names) (body := defBody s_read_names) (scope := defScope s_read_names) (dvs := []) (kws := []) (f := f) (fd := fd) (N := ["text", "words", "word"]) (ps := ["text"]) (n := 1) (k := 1) (m := m_read_names) F sc_read_names rfl (fun cdv A outer s H E hr tk => bd_read_names T c_is_name hr tk)
  exact ⟨f, fd, F, h, g, F.bindsN fun _ _ _ _ _ _ us hl => match us, hl with | [_], _ => rfl⟩
abbrev s_turns_text : Stmt := top 14
theorem sc_turns_text : FnScope ["turns", "name", "number"] ["turns"] (defScope s_turns_text) := ⟨rfl, rfl, rfl, by decide +kernel, rfl, by decide +kernel, by decide +kernel⟩
theorem bd_turns_text {P : Program} {w : World} {K : PySem.W.Frag} {mg : Str → Option Value} {base : Heap} (T : Txt K mg) (c_names_text : Cal P w K mg base "names_text" s_names_text 1 ["names"] (f_names_text)) {f : Addr} {cdv : Value} {A : Around} {outer : List PySem.Env} {s : Shared} {H : Hp} {E : XK} (hr : Room 1 (A.deeper (PyProof.Rows.envOfC "turns_text" (defScope s_turns_text) s.heap.objs.size f cdv))) (tk : Takes (cxOf (L2.CX P w) P w K mg base ["turns", "name", "number"] "turns_text" (defScope s_turns_text) f cdv A outer s H E) (WE E)) : PSs (cxOf (L2.CX P w) P w K mg base ["turns", "name", "number"] "turns_text" (defScope s_turns_text) f cdv A outer s H E) (defBody s_turns_text) (tS K mg (WE E) m_turns_text) := by
  have nd := sc_turns_text.nd
  exact yOne (yRet (uCall c_names_text hr (Psg.of tk) (uCons (uLc [("name", 1), ("number", 2)] (.tp [1, 2]) nd tk (jSeq (uV 0)) (by rfl) (fun _ _ _ _ _ _ => (pg_tp rfl (pgs_cons (pg_name (i := 1) nd rfl (by first | exact Or.inl rfl | exact Or.inr rfl)) (pgs_cons (pg_name (i := 2) nd rfl (by first | exact Or.inl rfl | exact Or.inr rfl)) pgs_nil)))) (fun _ _ _ _ _ _ _ q => kNil) (fun _ _ _ _ _ _ _ q => uAdd (uV 1) (uStr T.z_str (uCons (uV 2) (zNil))))) (zNil))))
theorem ok_turns_text {P : Program} {w : World} {K : PySem.W.Frag} {mg : Str → Option Value} {base : Heap} (T : Txt K mg) (dd : Dfd K mg "turns_text" s_turns_text) (c_names_text : Cal P w K mg base "names_text" s_names_text 1 ["names"] (f_names_text)) : Cal P w K mg base "turns_text" s_turns_text 2 ["turns"] f_turns_text := by
  obtain ⟨f, fd, F, g⟩ := dd.ex
  have h := fn_ok (P := P) (w := w) (K := K) (mg := mg) (base := base) (x := "turns_text") (qual := "turns_text") (params := defArgs s_turns_text) (body := defBody s_turns_text) (scope := defScope s_turns_text) (dvs := []) (kws := []) (f := f) (fd := fd) (N := ["turns", "name", "number"]) (ps := ["turns"]) (n := 1) (k := 1) (m := m_turns_text) F sc_turns_text rfl (fun cdv A outer s H E hr tk => bd_turns_text T c_names_text hr tk)
  exact ⟨f, fd, F, h, g, F.bindsN fun _ _ _ _ _ _ us hl => match us, hl with | [_], _ => rfl⟩
abbrev s_turn_in : Stmt := top 15
theorem sc_turn_in : FnScope ["word", "name", "number"] ["word"] (defScope s_turn_in) := ⟨rfl, rfl, rfl, by decide +kernel, rfl, by decide +kernel, by decide +kernel⟩
theorem bd_turn_in {P : Program} {w : World} {K : PySem.W.Frag} {mg : Str → Option Value} {base : Heap} (T : Txt K mg) (c_is_name : Cal P w K mg base "is_name" s_is_name 1 ["thing"] (f_is_name)) (c_number_in : Cal P w K mg base "number_in" s_number_in 1 ["text"] (f_number_in)) {f : Addr} {cdv : Value} {A : Around} {outer : List PySem.Env} {s : Shared} {H : Hp} {E : XK} (hr : Room 1 (A.deeper (PyProof.Rows.envOfC "turn_in" (defScope s_turn_in) s.heap.objs.size f cdv))) (tk : Takes (cxOf (L2.CX P w) P w K mg base ["word", "name", "number"] "turn_in" (defScope s_turn_in) f cdv A outer s H E) (WE E)) : PSs (cxOf (L2.CX P w) P w K mg base ["word", "name", "number"] "turn_in" (defScope s_turn_in) f cdv A outer s H E) (defBody s_turn_in) (tS K mg (WE E) m_turn_in) := by
  have nd := sc_turn_in.nd
  exact yCons (uSet 1 nd (uMeth PySem.F.plainAttrs_str PySem.F.slot_str_rstrip PySem.F.type_str_rstrip mt_rstripChars mRstrip_ok (uV 0) (uCons (uStrC T.k_DIGITS) (zNil))))
      (yCons (uSet 2 nd (uCall c_number_in hr (Psg.of tk) (uCons (xSl (uV 0) (oYes (uLen T.z_len (uCons (uV 1) (zNil)))) (oNo)) (zNil))))
      (yCons (yIf (wPt (wOr (wNot (tVal (uCall c_is_name hr (Psg.of tk) (uCons (uV 1) (zNil))))) (wOr1 (tIsN_ (uV 2) (xNon))))) (yOne (yRaise0 PySem.F.excBase_ValueError T.e_BadText.q T.e_BadText.g T.e_BadText.k T.e_BadText.r rfl (by decide) rfl tk)) (yNil))
      (yOne (yRet (xTup (uCons (uV 1) (uCons (uV 2) (zNil))))))))
theorem ok_turn_in {P : Program} {w : World} {K : PySem.W.Frag} {mg : Str → Option Value} {base : Heap} (T : Txt K mg) (dd : Dfd K mg "turn_in" s_turn_in) (c_is_name : Cal P w K mg base "is_name" s_is_name 1 ["thing"] (f_is_name)) (c_number_in : Cal P w K mg base "number_in" s_number_in 1 ["text"] (f_number_in)) : Cal P w K mg base "turn_in" s_turn_in 2 ["word"] f_turn_in := by
  obtain ⟨f, fd, F, g⟩ := dd.ex
  have h := fn_ok (P := P) (w := w) (K := K) (mg := mg) (base := base) (x := "turn_in") (qual := "turn_in") (params := defArgs s_turn_in) (body := defBody s_turn_in) (scope := defScope s_turn_in) (dvs := []) (kws := []) (f := f) (fd := fd) (N := ["word", "name", "number"]) (ps := ["word"]) (n := 1) (k := 1) (m := m_turn_in) F sc_turn_in rfl (fun cdv A outer s H E hr tk => bd_turn_in T c_is_name c_number_in hr tk)
  exact ⟨f, fd, F, h, g, F.bindsN fun _ _ _ _ _ _ us hl => match us, hl with | [_], _ => rfl⟩
abbrev s_read_turns : Stmt := top 16
theorem sc_read_turns : FnScope ["text", "found", "word", "name", "number"] ["text"] (defScope s_read_turns) := ⟨rfl, rfl, rfl, by decide +kernel, rfl, by decide +kernel, by decide +kernel⟩
theorem bd_read_turns {P : Program} {w : World} {K : PySem.W.Frag} {mg : Str → Option Value} {base : Heap} (T : Txt K mg) (c_ascends : Cal P w K mg base "ascends" s_ascends 1 ["row"] (f_ascends)) (c_turn_in : Cal P w K mg base "turn_in" s_turn_in 2 ["word"] (f_turn_in)) {f : Addr} {cdv : Value} {A : Around} {outer : List PySem.Env} {s : Shared} {H : Hp} {E : XK} (hr : Room 2 (A.deeper (PyProof.Rows.envOfC "read_turns" (defScope s_read_turns) s.heap.objs.size f cdv))) (tk : Takes (cxOf (L2.CX P w) P w K mg base ["text", "found", "word", "name", "number"] "read_turns" (defScope s_read_turns) f cdv A outer s H E) (WE E)) : PSs (cxOf (L2.CX P w) P w K mg base ["text", "found", "word", "name", "number"] "read_turns" (defScope s_read_turns) f cdv A outer s H E) (defBody s_read_turns) (tS K mg (WE E) m_read_turns) := by
  have nd := sc_read_turns.nd
  exact yCons (uSet 1 nd (xIf (tNe_ hr (uV 0) (uStrC T.k_NOTHING)) (uLc [("word", 2)] (.nm 2) nd tk (jSeq (uMeth PySem.F.plainAttrs_str PySem.F.slot_str_split PySem.F.type_str_split mt_split mSplit_ok (uV 0) (uCons (uStrC T.k_BLANK) (zNil)))) (by rfl) (fun _ _ _ _ _ _ => (pg_name (i := 2) nd rfl (by first | exact Or.inl rfl | exact Or.inr rfl))) (fun _ _ _ _ _ _ _ q => kNil) (fun _ _ _ _ _ _ _ q => uCall c_turn_in hr q (uCons (uV 2) (zNil)))) (xLst (zNil))))
      (yCons (yIf (wNot (tVal (uCall c_ascends hr (Psg.of tk) (uCons (uLc [("name", 3), ("number", 4)] (.tp [3, 4]) nd tk (jSeq (uV 1)) (by rfl) (fun _ _ _ _ _ _ => (pg_tp rfl (pgs_cons (pg_name (i := 3) nd rfl (by first | exact Or.inl rfl | exact Or.inr rfl)) (pgs_cons (pg_name (i := 4) nd rfl (by first | exact Or.inl rfl | exact Or.inr rfl)) pgs_nil)))) (fun _ _ _ _ _ _ _ q => kNil) (fun _ _ _ _ _ _ _ q => uV 3)) (zNil))))) (yOne (yRaise0 PySem.F.excBase_ValueError T.e_BadText.q T.e_BadText.g T.e_BadText.k T.e_BadText.r rfl (by decide) rfl tk)) (yNil))
      (yOne (yRet (uTuple T.z_tuple (uCons (uV 1) (zNil))))))
theorem ok_read_turns {P : Program} {w : World} {K : PySem.W.Frag} {mg : Str → Option Value} {base : Heap} (T : Txt K mg) (dd : Dfd K mg "read_turns" s_read_turns) (c_ascends : Cal P w K mg base "ascends" s_ascends 1 ["row"] (f_ascends)) (c_turn_in : Cal P w K mg base "turn_in" s_turn_in 2 ["word"] (f_turn_in)) : Cal P w K mg base "read_turns" s_read_turns 3 ["text"] f_read_turns := by
  obtain ⟨f, fd, F, g⟩ := dd.ex
  have h := fn_ok (P := P) (w := w) (K := K) (mg := mg) (base := base) (x := "read_turns") (qual := "read_turns") (params := defArgs s_read_turns) (body := defBody s_read_turns) (scope := defScope s_read_turns) (dvs := []) (kws := []) (f := f) (fd := fd) (N := ["text", "found", "word", "name", "number"]) (ps := ["text"]) (n := 1) (k := 2) (m := m_read_turns) F sc_read_turns rfl (fun cdv A outer s H E hr tk => bd_read_turns T c_ascends c_turn_in hr tk)
  exact ⟨f, fd, F, h, g, F.bindsN fun _ _ _ _ _ _ us hl => match us, hl with | [_], _ => rfl⟩
abbrev s_law_box : Stmt := top 18
theorem sc_law_box : FnScope ["_law_script", "_law_k", "_law_cell"] ["_law_script", "_law_k"] (defScope s_law_box) := ⟨rfl, rfl, rfl, by decide +kernel, rfl, by decide +kernel, by decide +kernel⟩
theorem bd_law_box {P : Program} {w : World} {K : PySem.W.Frag} {mg : Str → Option Value} {base : Heap} (T : Txt K mg) {f : Addr} {cdv : Value} {A : Around} {outer : List PySem.Env} {s : Shared} {H : Hp} {E : XK} (hr : Room 0 (A.deeper (PyProof.Rows.envOfC "_law_box" (defScope s_law_box) s.heap.objs.size f cdv))) (tk : Takes (cxOf (L2.CX P w) P w K mg base ["_law_script", "_law_k", "_law_cell"] "_law_box" (defScope s_law_box) f cdv A outer s H E) (WE E)) : PSs (cxOf (L2.CX P w) P w K mg base ["_law_script", "_law_k", "_law_cell"] "_law_box" (defScope s_law_box) f cdv A outer s H E) (defBody s_law_box) (tS K mg (WE E) m_law_box) := by
  have nd := sc_law_box.nd
  exact yCons (uSet 2 nd (xIf (tLt_ (uV 1) (uLen T.z_len (uCons (uV 0) (zNil)))) (uIx (uV 0) (uV 1)) (xInt)))
      (yOne (yRet (xLstC (uCons (uMul (uAbs T.z_abs (uCons (uV 2) (zNil))) (uInt T.z_int (uCons (uGe (uAbs T.z_abs (uCons (uV 2) (zNil))) (uPow (xInt) (xInt))) (zNil)))) (uCons (uAdd (uAdd (uMod (uInt T.z_int (uCons (uV 2) (zNil))) (xInt)) (uMul (xInt) (uV 1))) (xInt)) (uCons (xInt) (zNil)))))))
theorem ok_law_box {P : Program} {w : World} {K : PySem.W.Frag} {mg : Str → Option Value} {base : Heap} (T : Txt K mg) (dd : Dfd K mg "_law_box" s_law_box) : Cal P w K mg base "_law_box" s_law_box 1 ["_law_script", "_law_k"] f_law_box := by
  obtain ⟨f, fd, F, g⟩ := dd.ex
  have h := fn_okR (P := P) (w := w) (K := K) (mg := mg) (base := base) (x := "_law_box") (qual := "_law_box") (params := defArgs s_law_box) (body := defBody s_law_box) (scope := defScope s_law_box) (dvs := []) (kws := []) (f := f) (fd := fd) (N := ["_law_script", "_law_k", "_law_cell"]) (ps := ["_law_script", "_law_k"]) (n := 2) (k := 0) (m := m_law_box) F sc_law_box rfl (fun cdv A outer s H E hr tk => bd_law_box T  hr tk)
  exact ⟨f, fd, F, h, g, F.bindsN fun _ _ _ _ _ _ us hl => match us, hl with | [_, _], _ => rfl⟩
abbrev s_law_take : Stmt := top 19
theorem sc_law_take : FnScope ["_law_box_here", "_law_below_so", "_law_drawn_so", "_law_once", "_law_far_so", "_law_twice_so"] ["_law_box_here", "_law_below_so"] (defScope s_law_take) := ⟨rfl, rfl, rfl, by decide +kernel, rfl, by decide +kernel, by decide +kernel⟩
theorem bd_law_take {P : Program} {w : World} {K : PySem.W.Frag} {mg : Str → Option Value} {base : Heap} (T : Txt K mg) {f : Addr} {cdv : Value} {A : Around} {outer : List PySem.Env} {s : Shared} {H : Hp} {E : XK} (hr : Room 0 (A.deeper (PyProof.Rows.envOfC "_law_take" (defScope s_law_take) s.heap.objs.size f cdv))) (tk : Takes (cxOf (L2.CX P w) P w K mg base ["_law_box_here", "_law_below_so", "_law_drawn_so", "_law_once", "_law_far_so", "_law_twice_so"] "_law_take" (defScope s_law_take) f cdv A outer s H E) (WE E)) : PSs (cxOf (L2.CX P w) P w K mg base ["_law_box_here", "_law_below_so", "_law_drawn_so", "_law_once", "_law_far_so", "_law_twice_so"] "_law_take" (defScope s_law_take) f cdv A outer s H E) (defBody s_law_take) (tS K mg (WE E) m_law_take) := by
  have nd := sc_law_take.nd
  exact yCons (yIf (tGt_ (uIx (uV 0) (xInt)) (xInt)) (yCons (uSet 2 nd (uMod (uInt T.z_int (uCons (uIx (uV 0) (xInt)) (zNil))) (uV 1)))
      (yCons (uPut (uDiv (uIx (uV 0) (xInt)) (uV 1)) (uV 0) (xInt))
      (yOne (yRet (uV 2))))) (yNil))
      (yCons (uPut (uAdd (uIx (uV 0) (xInt)) (xInt)) (uV 0) (xInt))
      (yCons (uSet 3 nd (uMod (uInt T.z_int (uCons (uMul (uAdd (uIx (uV 0) (xInt)) (uMul (xInt) (uIx (uV 0) (xInt)))) (uAdd (xInt) (uIx (uV 0) (xInt)))) (zNil))) (xInt)))
      (yCons (uSet 4 nd (uAdd (uMod (uInt T.z_int (uCons (uV 3) (zNil))) (xInt)) (xInt)))
      (yCons (uSet 5 nd (uMod (uInt T.z_int (uCons (uMul (uAdd (uAdd (uV 3) (uIx (uV 0) (xInt))) (uDiv (uIx (uV 0) (xInt)) (xInt))) (uV 4)) (zNil))) (xInt)))
      (yOne (yRet (uMod (uInt T.z_int (uCons (uDiv (uMod (uInt T.z_int (uCons (uAdd (uMul (uV 5) (xInt)) (uV 3)) (zNil))) (xInt)) (xInt)) (zNil))) (uV 1))))))))
theorem ok_law_take {P : Program} {w : World} {K : PySem.W.Frag} {mg : Str → Option Value} {base : Heap} (T : Txt K mg) (dd : Dfd K mg "_law_take" s_law_take) : Cal P w K mg base "_law_take" s_law_take 1 ["_law_box_here", "_law_below_so"] f_law_take := by
  obtain ⟨f, fd, F, g⟩ := dd.ex
  have h := fn_ok (P := P) (w := w) (K := K) (mg := mg) (base := base) (x := "_law_take") (qual := "_law_take") (params := defArgs s_law_take) (body := defBody s_law_take) (scope := defScope s_law_take) (dvs := []) (kws := []) (f := f) (fd := fd) (N := ["_law_box_here", "_law_below_so", "_law_drawn_so", "_law_once", "_law_far_so", "_law_twice_so"]) (ps := ["_law_box_here", "_law_below_so"]) (n := 2) (k := 0) (m := m_law_take) F sc_law_take rfl (fun cdv A outer s H E hr tk => bd_law_take T  hr tk)
  exact ⟨f, fd, F, h, g, F.bindsN fun _ _ _ _ _ _ us hl => match us, hl with | [_, _], _ => rfl⟩
abbrev s_law_cells : Stmt := top 20
theorem sc_law_cells : FnScope ["_law_script", "_law_most_so", "_law_cells_here", "_law_k", "_law_cell", "_law_at_so"] ["_law_script", "_law_most_so"] (defScope s_law_cells) := ⟨rfl, rfl, rfl, by decide +kernel, rfl, by decide +kernel, by decide +kernel⟩
theorem bd_law_cells {P : Program} {w : World} {K : PySem.W.Frag} {mg : Str → Option Value} {base : Heap} (T : Txt K mg) {f : Addr} {cdv : Value} {A : Around} {outer : List PySem.Env} {s : Shared} {H : Hp} {E : XK} (hr : Room 0 (A.deeper (PyProof.Rows.envOfC "_law_cells" (defScope s_law_cells) s.heap.objs.size f cdv))) (tk : Takes (cxOf (L2.CX P w) P w K mg base ["_law_script", "_law_most_so", "_law_cells_here", "_law_k", "_law_cell", "_law_at_so"] "_law_cells" (defScope s_law_cells) f cdv A outer s H E) (WE E)) : PSs (cxOf (L2.CX P w) P w K mg base ["_law_script", "_law_most_so", "_law_cells_here", "_law_k", "_law_cell", "_law_at_so"] "_law_cells" (defScope s_law_cells) f cdv A outer s H E) (defBody s_law_cells) (tS K mg (WE E) m_law_cells) := by
  have nd := sc_law_cells.nd
  have pso : PassesOwn (model P w) (A.deeper (PyProof.Rows.envOfC "_law_cells" (defScope s_law_cells) s.heap.objs.size f cdv)) (PyProof.Rows.envOfC "_law_cells" (defScope s_law_cells) s.heap.objs.size f cdv) (cxOf (L2.CX P w) P w K mg base ["_law_script", "_law_most_so", "_law_cells_here", "_law_k", "_law_cell", "_law_at_so"] "_law_cells" (defScope s_law_cells) f cdv A outer s H E).xe := passes_of (X := cxOf (L2.CX P w) P w K mg base ["_law_script", "_law_most_so", "_law_cells_here", "_law_k", "_law_cell", "_law_at_so"] "_law_cells" (defScope s_law_cells) f cdv A outer s H E) rfl
  exact yCons (uSet 2 nd (xOrL (uListC T.z_list (uCons (xSl (uV 0) (oNo) (oYes (uV 1))) (zNil))) (xOne (xLstC (uCons (xInt) (zNil))))))
      (yCons (uFor (.tp [3, 4]) pso (uEnum T.z_enumerate (uCons (xSl (uV 0) (oYes (uV 1)) (oYes (xInt))) (zNil))) (pg_tp rfl (pgs_cons (pg_name (i := 3) nd rfl (by first | exact Or.inl rfl | exact Or.inr rfl)) (pgs_cons (pg_name (i := 4) nd rfl (by first | exact Or.inl rfl | exact Or.inr rfl)) pgs_nil))) (yCons (uSet 5 nd (uMod (uInt T.z_int (uCons (uV 3) (zNil))) (uV 1)))
      (yOne (uPut (uAdd (uIx (uV 2) (uV 5)) (uMul (uV 4) (uAdd (uV 3) (xInt)))) (uV 2) (uV 5)))))
      (yOne (yRet (uV 2))))
theorem ok_law_cells {P : Program} {w : World} {K : PySem.W.Frag} {mg : Str → Option Value} {base : Heap} (T : Txt K mg) (dd : Dfd K mg "_law_cells" s_law_cells) : Cal P w K mg base "_law_cells" s_law_cells 1 ["_law_script", "_law_most_so"] f_law_cells := by
  obtain ⟨f, fd, F, g⟩ := dd.ex
  have h := fn_okC (P := P) (w := w) (K := K) (mg := mg) (base := base) (x := "_law_cells") (qual := "_law_cells") (params := defArgs s_law_cells) (body := defBody s_law_cells) (scope := defScope s_law_cells) (dvs := []) (kws := []) (f := f) (fd := fd) (N := ["_law_script", "_law_most_so", "_law_cells_here", "_law_k", "_law_cell", "_law_at_so"]) (ps := ["_law_script", "_law_most_so"]) (n := 2) (k := 0) (m := m_law_cells) F sc_law_cells rfl (fun cdv A outer s H E hr tk => bd_law_cells T  hr tk)
  exact ⟨f, fd, F, h, g, F.bindsN fun _ _ _ _ _ _ us hl => match us, hl with | [_, _], _ => rfl⟩
abbrev s_law_of : Stmt := top 21
theorem sc_law_of : FnScope ["_law_box_here", "_law_pool_so"] ["_law_box_here", "_law_pool_so"] (defScope s_law_of) := ⟨rfl, rfl, rfl, by decide +kernel, rfl, by decide +kernel, by decide +kernel⟩
theorem bd_law_of {P : Program} {w : World} {K : PySem.W.Frag} {mg : Str → Option Value} {base : Heap} (T : Txt K mg) (c_law_take : Cal P w K mg base "_law_take" s_law_take 1 ["_law_box_here", "_law_below_so"] (f_law_take)) {f : Addr} {cdv : Value} {A : Around} {outer : List PySem.Env} {s : Shared} {H : Hp} {E : XK} (hr : Room 1 (A.deeper (PyProof.Rows.envOfC "_law_of" (defScope s_law_of) s.heap.objs.size f cdv))) (tk : Takes (cxOf (L2.CX P w) P w K mg base ["_law_box_here", "_law_pool_so"] "_law_of" (defScope s_law_of) f cdv A outer s H E) (WE E)) : PSs (cxOf (L2.CX P w) P w K mg base ["_law_box_here", "_law_pool_so"] "_law_of" (defScope s_law_of) f cdv A outer s H E) (defBody s_law_of) (tS K mg (WE E) m_law_of) := by
  have nd := sc_law_of.nd
  exact yOne (yRet (uIx (uV 1) (uCall c_law_take hr (Psg.of tk) (uCons (uV 0) (uCons (uLen T.z_len (uCons (uV 1) (zNil))) (zNil))))))
theorem ok_law_of {P : Program} {w : World} {K : PySem.W.Frag} {mg : Str → Option Value} {base : Heap} (T : Txt K mg) (dd : Dfd K mg "_law_of" s_law_of) (c_law_take : Cal P w K mg base "_law_take" s_law_take 1 ["_law_box_here", "_law_below_so"] (f_law_take)) : Cal P w K mg base "_law_of" s_law_of 2 ["_law_box_here", "_law_pool_so"] f_law_of := by
  obtain ⟨f, fd, F, g⟩ := dd.ex
  have h := fn_ok (P := P) (w := w) (K := K) (mg := mg) (base := base) (x := "_law_of") (qual := "_law_of") (params := defArgs s_law_of) (body := defBody s_law_of) (scope := defScope s_law_of) (dvs := []) (kws := []) (f := f) (fd := fd) (N := ["_law_box_here", "_law_pool_so"]) (ps := ["_law_box_here", "_law_pool_so"]) (n := 2) (k := 1) (m := m_law_of) F sc_law_of rfl (fun cdv A outer s H E hr tk => bd_law_of T c_law_take hr tk)
  exact ⟨f, fd, F, h, g, F.bindsN fun _ _ _ _ _ _ us hl => match us, hl with | [_, _], _ => rfl⟩
abbrev s_law_lists : Stmt := top 22
theorem sc_law_lists : FnScope ["_law_matter", "_law_bit"] ["_law_matter"] (defScope s_law_lists) := ⟨rfl, rfl, rfl, by decide +kernel, rfl, by decide +kernel, by decide +kernel⟩
theorem bd_law_lists {P : Program} {w : World} {K : PySem.W.Frag} {mg : Str → Option Value} {base : Heap} (T : Txt K mg) {k : Nat} {φ : Fn} (ih : Cal P w K mg base "_law_lists" s_law_lists (k + 1) ["_law_matter"] φ) {f : Addr} {cdv : Value} {A : Around} {outer : List PySem.Env} {s : Shared} {H : Hp} {E : XK} (hr : Room (k + 1) (A.deeper (PyProof.Rows.envOfC "_law_lists" (defScope s_law_lists) s.heap.objs.size f cdv))) (tk : Takes (cxOf (L2.CX P w) P w K mg base ["_law_matter", "_law_bit"] "_law_lists" (defScope s_law_lists) f cdv A outer s H E) (WE E)) : PSs (cxOf (L2.CX P w) P w K mg base ["_law_matter", "_law_bit"] "_law_lists" (defScope s_law_lists) f cdv A outer s H E) (defBody s_law_lists) (tS K mg (WE E) (m_law_lists φ)) := by
  have nd := sc_law_lists.nd
  exact yOne (yRet (xIf (tVal (uIsi2 T.z_isinstance T.z_list T.z_tuple (uV 0))) (uLc [("_law_bit", 1)] (.nm 1) nd tk (jSeq (uV 0)) (by rfl) (fun _ _ _ _ _ _ => (pg_name (i := 1) nd rfl (by first | exact Or.inl rfl | exact Or.inr rfl))) (fun _ _ _ _ _ _ _ q => kNil) (fun _ _ _ _ _ _ _ q => uCall ih hr q (uCons (uV 1) (zNil)) (hk := by omega))) (uV 0)))
theorem ok_law_lists {P : Program} {w : World} {K : PySem.W.Frag} {mg : Str → Option Value} {base : Heap} (T : Txt K mg) (dd : Dfd K mg "_law_lists" s_law_lists) : ∀ k : Nat, Cal P w K mg base "_law_lists" s_law_lists (k + 1) ["_law_matter"] (f_law_lists k)
  | 0 => by
    obtain ⟨f, fd, F, g⟩ := dd.ex
    exact ⟨f, fd, F, fn_bad, g, F.bindsN fun _ _ _ _ _ _ us hl => match us, hl with | [_], _ => rfl⟩
  | k + 1 => by
    have ih := ok_law_lists (P := P) (w := w) (base := base) T dd  k
    obtain ⟨f, fd, F, g⟩ := dd.ex
    have h := fn_ok (P := P) (w := w) (K := K) (mg := mg) (base := base) (x := "_law_lists") (qual := "_law_lists") (params := defArgs s_law_lists) (body := defBody s_law_lists) (scope := defScope s_law_lists) (dvs := []) (kws := []) (f := f) (fd := fd) (N := ["_law_matter", "_law_bit"]) (ps := ["_law_matter"]) (n := 1) (k := k + 1) (m := m_law_lists (f_law_lists k)) F sc_law_lists rfl (fun cdv A outer s H E hr tk => bd_law_lists T  ih hr tk)
    exact ⟨f, fd, F, h, g, F.bindsN fun _ _ _ _ _ _ us hl => match us, hl with | [_], _ => rfl⟩
abbrev s_law_same : Stmt := top 23
theorem sc_law_same : FnScope ["_law_got", "_law_due_so", "_law_its", "_law_mine"] ["_law_got", "_law_due_so"] (defScope s_law_same) := ⟨rfl, rfl, rfl, by decide +kernel, rfl, by decide +kernel, by decide +kernel⟩
theorem bd_law_same {P : Program} {w : World} {K : PySem.W.Frag} {mg : Str → Option Value} {base : Heap} (T : Txt K mg) {k : Nat} {φ : Fn} (ih : Cal P w K mg base "_law_same" s_law_same (k + 1) ["_law_got", "_law_due_so"] φ) {f : Addr} {cdv : Value} {A : Around} {outer : List PySem.Env} {s : Shared} {H : Hp} {E : XK} (hr : Room (k + 1) (A.deeper (PyProof.Rows.envOfC "_law_same" (defScope s_law_same) s.heap.objs.size f cdv))) (tk : Takes (cxOf (L2.CX P w) P w K mg base ["_law_got", "_law_due_so", "_law_its", "_law_mine"] "_law_same" (defScope s_law_same) f cdv A outer s H E) (WE E)) : PSs (cxOf (L2.CX P w) P w K mg base ["_law_got", "_law_due_so", "_law_its", "_law_mine"] "_law_same" (defScope s_law_same) f cdv A outer s H E) (defBody s_law_same) (tS K mg (WE E) (m_law_same φ)) := by
  have nd := sc_law_same.nd
  exact yCons (yIf (tVal (uIsi2 T.z_isinstance T.z_list T.z_tuple (uV 1))) (yCons (yIf (wPt (wOr (tNe_ hr (uIsi T.xt T.z_isinstance T.z_list (uV 0)) (uIsi T.xt T.z_isinstance T.z_list (uV 1))) (wOr1 (tNe_ hr (uIsi T.xt T.z_isinstance T.z_tuple (uV 0)) (uIsi T.xt T.z_isinstance T.z_tuple (uV 1)))))) (yOne (yRet (xBl))) (yNil))
      (yOne (yRet (xAnd (uEq hr (uLen T.z_len (uCons (uV 0) (zNil))) (uLen T.z_len (uCons (uV 1) (zNil)))) (xOne (uAll T.z_all (uCons (uLc [("_law_mine", 3), ("_law_its", 2)] (.tp [3, 2]) nd tk (uZip T.z_zip (uCons (uV 0) (uCons (uV 1) (zNil)))) (by rfl) (fun _ _ _ _ _ _ => (pg_tp rfl (pgs_cons (pg_name (i := 3) nd rfl (by first | exact Or.inl rfl | exact Or.inr rfl)) (pgs_cons (pg_name (i := 2) nd rfl (by first | exact Or.inl rfl | exact Or.inr rfl)) pgs_nil)))) (fun _ _ _ _ _ _ _ q => kNil) (fun _ _ _ _ _ _ _ q => uCall ih hr q (uCons (uV 3) (uCons (uV 2) (zNil))) (hk := by omega))) (zNil)))))))) (yNil))
      (yCons (yIf (wPt (wOr (tIsN_ (uV 1) (xNon)) (wOr1 (tVal (uIsi2 T.z_isinstance T.z_bool T.z_str (uV 1)))))) (yOne (yRet (xAnd (uEq hr (uV 0) (uV 1)) (xAnd (uEq hr (uIsi T.xt T.z_isinstance T.z_bool (uV 0)) (uIsi T.xt T.z_isinstance T.z_bool (uV 1))) (xOne (uEq hr (uIsN (uV 0) (xNon)) (uIsN (uV 1) (xNon)))))))) (yNil))
      (yOne (yRet (xAnd (uIsi T.xt T.z_isinstance T.z_int (uV 0)) (xAnd (xNot (uIsi T.xt T.z_isinstance T.z_bool (uV 0))) (xOne (uEq hr (uV 0) (uV 1))))))))
theorem ok_law_same {P : Program} {w : World} {K : PySem.W.Frag} {mg : Str → Option Value} {base : Heap} (T : Txt K mg) (dd : Dfd K mg "_law_same" s_law_same) : ∀ k : Nat, Cal P w K mg base "_law_same" s_law_same (k + 1) ["_law_got", "_law_due_so"] (f_law_same k)
  | 0 => by
    obtain ⟨f, fd, F, g⟩ := dd.ex
    exact ⟨f, fd, F, fn_bad, g, F.bindsN fun _ _ _ _ _ _ us hl => match us, hl with | [_, _], _ => rfl⟩
  | k + 1 => by
    have ih := ok_law_same (P := P) (w := w) (base := base) T dd  k
    obtain ⟨f, fd, F, g⟩ := dd.ex
    have h := fn_ok (P := P) (w := w) (K := K) (mg := mg) (base := base) (x := "_law_same") (qual := "_law_same") (params := defArgs s_law_same) (body := defBody s_law_same) (scope := defScope s_law_same) (dvs := []) (kws := []) (f := f) (fd := fd) (N := ["_law_got", "_law_due_so", "_law_its", "_law_mine"]) (ps := ["_law_got", "_law_due_so"]) (n := 2) (k := k + 1) (m := m_law_same (f_law_same k)) F sc_law_same rfl (fun cdv A outer s H E hr tk => bd_law_same T  ih hr tk)
    exact ⟨f, fd, F, h, g, F.bindsN fun _ _ _ _ _ _ us hl => match us, hl with | [_, _], _ => rfl⟩
abbrev s_law_mixed : Stmt := top 24
theorem sc_law_mixed : FnScope ["_law_box_here", "_law_rows_so", "_law_rest_so", "_law_found", "_law_turn", "_law_at_so"] ["_law_box_here", "_law_rows_so"] (defScope s_law_mixed) := ⟨rfl, rfl, rfl, by decide +kernel, rfl, by decide +kernel, by decide +kernel⟩
theorem bd_law_mixed {P : Program} {w : World} {K : PySem.W.Frag} {mg : Str → Option Value} {base : Heap} (T : Txt K mg) (c_law_take : Cal P w K mg base "_law_take" s_law_take 1 ["_law_box_here", "_law_below_so"] (f_law_take)) {f : Addr} {cdv : Value} {A : Around} {outer : List PySem.Env} {s : Shared} {H : Hp} {E : XK} (hr : Room 1 (A.deeper (PyProof.Rows.envOfC "_law_mixed" (defScope s_law_mixed) s.heap.objs.size f cdv))) (tk : Takes (cxOf (L2.CX P w) P w K mg base ["_law_box_here", "_law_rows_so", "_law_rest_so", "_law_found", "_law_turn", "_law_at_so"] "_law_mixed" (defScope s_law_mixed) f cdv A outer s H E) (WE E)) : PSs (cxOf (L2.CX P w) P w K mg base ["_law_box_here", "_law_rows_so", "_law_rest_so", "_law_found", "_law_turn", "_law_at_so"] "_law_mixed" (defScope s_law_mixed) f cdv A outer s H E) (defBody s_law_mixed) (tS K mg (WE E) m_law_mixed) := by
  have nd := sc_law_mixed.nd
  have pso : PassesOwn (model P w) (A.deeper (PyProof.Rows.envOfC "_law_mixed" (defScope s_law_mixed) s.heap.objs.size f cdv)) (PyProof.Rows.envOfC "_law_mixed" (defScope s_law_mixed) s.heap.objs.size f cdv) (cxOf (L2.CX P w) P w K mg base ["_law_box_here", "_law_rows_so", "_law_rest_so", "_law_found", "_law_turn", "_law_at_so"] "_law_mixed" (defScope s_law_mixed) f cdv A outer s H E).xe := passes_of (X := cxOf (L2.CX P w) P w K mg base ["_law_box_here", "_law_rows_so", "_law_rest_so", "_law_found", "_law_turn", "_law_at_so"] "_law_mixed" (defScope s_law_mixed) f cdv A outer s H E) rfl
  exact yCons (uPar 2 3 nd (uCons (uList T.z_list (uCons (uV 1) (zNil))) (uCons (xLstC (zNil)) (zNil))))
      (yCons (uFor (.nm 4) pso (uRng1 T.z_range (uCons (uLen T.z_len (uCons (uV 1) (zNil))) (zNil))) (pg_name (i := 4) nd rfl (by first | exact Or.inl rfl | exact Or.inr rfl)) (yCons (uSet 5 nd (uCall c_law_take hr (Psg.of tk) (uCons (uV 0) (uCons (uLen T.z_len (uCons (uV 2) (zNil))) (zNil)))))
      (yCons (uDo (uMeth PySem.F.plainAttrs_list PySem.F.slot_list_append PySem.F.type_list_append mt_append mAppend_ok (uV 3) (uCons (uIx (uV 2) (uV 5)) (zNil))))
      (yOne (uSet 2 nd (uAdd (xSl (uV 2) (oNo) (oYes (uV 5))) (xSl (uV 2) (oYes (uAdd (uV 5) (xInt))) (oNo))))))))
      (yOne (yRet (uV 3))))
theorem ok_law_mixed {P : Program} {w : World} {K : PySem.W.Frag} {mg : Str → Option Value} {base : Heap} (T : Txt K mg) (dd : Dfd K mg "_law_mixed" s_law_mixed) (c_law_take : Cal P w K mg base "_law_take" s_law_take 1 ["_law_box_here", "_law_below_so"] (f_law_take)) : Cal P w K mg base "_law_mixed" s_law_mixed 2 ["_law_box_here", "_law_rows_so"] f_law_mixed := by
  obtain ⟨f, fd, F, g⟩ := dd.ex
  have h := fn_okC (P := P) (w := w) (K := K) (mg := mg) (base := base) (x := "_law_mixed") (qual := "_law_mixed") (params := defArgs s_law_mixed) (body := defBody s_law_mixed) (scope := defScope s_law_mixed) (dvs := []) (kws := []) (f := f) (fd := fd) (N := ["_law_box_here", "_law_rows_so", "_law_rest_so", "_law_found", "_law_turn", "_law_at_so"]) (ps := ["_law_box_here", "_law_rows_so"]) (n := 2) (k := 1) (m := m_law_mixed) F sc_law_mixed rfl (fun cdv A outer s H E hr tk => bd_law_mixed T c_law_take hr tk)
  exact ⟨f, fd, F, h, g, F.bindsN fun _ _ _ _ _ _ us hl => match us, hl with | [_, _], _ => rfl⟩
abbrev s_law_tags : Stmt := top 25
theorem sc_law_tags : FnScope ["_law_box_here", "_law_many_so", "_law_letters_so", "_law_sort_so", "_law_front_so", "_law_tail_so", "_law_found", "_law_own", "_law_k"] ["_law_box_here", "_law_many_so"] (defScope s_law_tags) := ⟨rfl, rfl, rfl, by decide +kernel, rfl, by decide +kernel, by decide +kernel⟩
theorem bd_law_tags {P : Program} {w : World} {K : PySem.W.Frag} {mg : Str → Option Value} {base : Heap} (T : Txt K mg) (c_law_take : Cal P w K mg base "_law_take" s_law_take 1 ["_law_box_here", "_law_below_so"] (f_law_take)) (c_law_mixed : Cal P w K mg base "_law_mixed" s_law_mixed 2 ["_law_box_here", "_law_rows_so"] (f_law_mixed)) {f : Addr} {cdv : Value} {A : Around} {outer : List PySem.Env} {s : Shared} {H : Hp} {E : XK} (hr : Room 2 (A.deeper (PyProof.Rows.envOfC "_law_tags" (defScope s_law_tags) s.heap.objs.size f cdv))) (tk : Takes (cxOf (L2.CX P w) P w K mg base ["_law_box_here", "_law_many_so", "_law_letters_so", "_law_sort_so", "_law_front_so", "_law_tail_so", "_law_found", "_law_own", "_law_k"] "_law_tags" (defScope s_law_tags) f cdv A outer s H E) (WE E)) : PSs (cxOf (L2.CX P w) P w K mg base ["_law_box_here", "_law_many_so", "_law_letters_so", "_law_sort_so", "_law_front_so", "_law_tail_so", "_law_found", "_law_own", "_law_k"] "_law_tags" (defScope s_law_tags) f cdv A outer s H E) (defBody s_law_tags) (tS K mg (WE E) m_law_tags) := by
  have nd := sc_law_tags.nd
  exact yCons (uSet 2 nd (uCall c_law_mixed hr (Psg.of tk) (uCons (uV 0) (uCons (xStr) (zNil)))))
      (yCons (uSet 3 nd (uCall c_law_take hr (Psg.of tk) (uCons (uV 0) (uCons (xInt) (zNil)))))
      (yCons (uAsg (.tp [4, 5]) (xTup (uCons (uIx (xLst (uCons (xStr) (uCons (xStr) (uCons (xStr) (uCons (xStr) (zNil)))))) (uV 3)) (uCons (uIx (xLst (uCons (xStr) (uCons (xStr) (uCons (xStr) (uCons (xStr) (zNil)))))) (uV 3)) (zNil)))) (pg_tp rfl (pgs_cons (pg_name (i := 4) nd rfl (by first | exact Or.inl rfl | exact Or.inr rfl)) (pgs_cons (pg_name (i := 5) nd rfl (by first | exact Or.inl rfl | exact Or.inr rfl)) pgs_nil))))
      (yCons (uSetLc 6 [("_law_own", 7)] (.nm 7) nd tk (jSeq (xSl (uV 2) (oNo) (oYes (uMin2 T.z_min (uCons (uV 1) (uCons (xInt) (zNil))))))) (by rfl) (fun _ _ _ _ _ _ => (pg_name (i := 7) nd rfl (by first | exact Or.inl rfl | exact Or.inr rfl))) (fun _ _ _ _ _ _ _ q => kNil) (fun _ _ _ _ _ _ _ q => uAdd (uAdd (uV 4) (uV 7)) (uV 5)))
      (yOne (yRet (uAdd (uV 6) (uLc [("_law_k", 8)] (.nm 8) nd tk (uRng1 T.z_range (uCons (uSub (uV 1) (uLen T.z_len (uCons (uV 6) (zNil)))) (zNil))) (by rfl) (fun _ _ _ _ _ _ => (pg_name (i := 8) nd rfl (by first | exact Or.inl rfl | exact Or.inr rfl))) (fun _ _ _ _ _ _ _ q => kNil) (fun _ _ _ _ _ _ _ q => uAdd (uAdd (xStr) (uIx (uV 2) (uDiv (uV 8) (xInt)))) (uIx (uV 2) (uMod (uInt T.z_int (uCons (uV 8) (zNil))) (xInt)))))))))))
theorem ok_law_tags {P : Program} {w : World} {K : PySem.W.Frag} {mg : Str → Option Value} {base : Heap} (T : Txt K mg) (dd : Dfd K mg "_law_tags" s_law_tags) (c_law_take : Cal P w K mg base "_law_take" s_law_take 1 ["_law_box_here", "_law_below_so"] (f_law_take)) (c_law_mixed : Cal P w K mg base "_law_mixed" s_law_mixed 2 ["_law_box_here", "_law_rows_so"] (f_law_mixed)) : Cal P w K mg base "_law_tags" s_law_tags 3 ["_law_box_here", "_law_many_so"] f_law_tags := by
  obtain ⟨f, fd, F, g⟩ := dd.ex
  have h := fn_ok (P := P) (w := w) (K := K) (mg := mg) (base := base) (x := "_law_tags") (qual := "_law_tags") (params := defArgs s_law_tags) (body := defBody s_law_tags) (scope := defScope s_law_tags) (dvs := []) (kws := []) (f := f) (fd := fd) (N := ["_law_box_here", "_law_many_so", "_law_letters_so", "_law_sort_so", "_law_front_so", "_law_tail_so", "_law_found", "_law_own", "_law_k"]) (ps := ["_law_box_here", "_law_many_so"]) (n := 2) (k := 2) (m := m_law_tags) F sc_law_tags rfl (fun cdv A outer s H E hr tk => bd_law_tags T c_law_take c_law_mixed hr tk)
  exact ⟨f, fd, F, h, g, F.bindsN fun _ _ _ _ _ _ us hl => match us, hl with | [_, _], _ => rfl⟩
abbrev s_law_heard : Stmt := top 26
theorem sc_law_heard : FnScope ["_law_door", "_law_word_so", "_law_caught", "_law_told", "error"] ["_law_door", "_law_word_so"] (defScope s_law_heard) := ⟨rfl, rfl, rfl, by decide +kernel, rfl, by decide +kernel, by decide +kernel⟩
theorem bd_law_heard {P : Program} {w : World} {K : PySem.W.Frag} {mg : Str → Option Value} {base : Heap} (T : Txt K mg) (c_read_names : Cal P w K mg base "read_names" s_read_names 2 ["text"] (f_read_names)) (c_read_turns : Cal P w K mg base "read_turns" s_read_turns 3 ["text"] (f_read_turns)) {f : Addr} {cdv : Value} {A : Around} {outer : List PySem.Env} {s : Shared} {H : Hp} {E : XK} (hr : Room 3 (A.deeper (PyProof.Rows.envOfC "_law_heard" (defScope s_law_heard) s.heap.objs.size f cdv))) (tk : Takes (cxOf (L2.CX P w) P w K mg base ["_law_door", "_law_word_so", "_law_caught", "_law_told", "error"] "_law_heard" (defScope s_law_heard) f cdv A outer s H E) (WE E)) : PSs (cxOf (L2.CX P w) P w K mg base ["_law_door", "_law_word_so", "_law_caught", "_law_told", "error"] "_law_heard" (defScope s_law_heard) f cdv A outer s H E) (defBody s_law_heard) (tS K mg (WE E) m_law_heard) := by
  have nd := sc_law_heard.nd
  exact yCons (uAsg (.tp [2, 3]) (xTup (uCons (xNon) (uCons (xNon) (zNil)))) (pg_tp rfl (pgs_cons (pg_name (i := 2) nd rfl (by first | exact Or.inl rfl | exact Or.inr rfl)) (pgs_cons (pg_name (i := 3) nd rfl (by first | exact Or.inl rfl | exact Or.inr rfl)) pgs_nil))))
      (yCons (yTry (i := 4) rfl rfl rfl nd rfl rfl ⟨rfl, by decide, .inl T.e_BadText.g⟩ tk T.xm_BadText (fun _ _ _ tk2 ps2 => yOne (uSet 3 nd (xIf (tEq_ hr (uV 0) (xInt)) (uCall c_read_names hr (Psg.of tk2) (uCons (uV 1) (zNil))) (uCall c_read_turns hr (Psg.of tk2) (uCons (uV 1) (zNil)))))) (fun _ => yOne (uSet 2 nd (uV 4))))
      (yOne (yRet (xIf (tIsN_ (uV 2) (xNon)) (uV 3) (xLst (uCons (xStr) (uCons (uIsi T.xt T.z_isinstance T.z_ValueError (uV 2)) (zNil))))))))
theorem ok_law_heard {P : Program} {w : World} {K : PySem.W.Frag} {mg : Str → Option Value} {base : Heap} (T : Txt K mg) (dd : Dfd K mg "_law_heard" s_law_heard) (c_read_names : Cal P w K mg base "read_names" s_read_names 2 ["text"] (f_read_names)) (c_read_turns : Cal P w K mg base "read_turns" s_read_turns 3 ["text"] (f_read_turns)) : Cal P w K mg base "_law_heard" s_law_heard 4 ["_law_door", "_law_word_so"] f_law_heard := by
  obtain ⟨f, fd, F, g⟩ := dd.ex
  have h := fn_ok (P := P) (w := w) (K := K) (mg := mg) (base := base) (x := "_law_heard") (qual := "_law_heard") (params := defArgs s_law_heard) (body := defBody s_law_heard) (scope := defScope s_law_heard) (dvs := []) (kws := []) (f := f) (fd := fd) (N := ["_law_door", "_law_word_so", "_law_caught", "_law_told", "error"]) (ps := ["_law_door", "_law_word_so"]) (n := 2) (k := 3) (m := m_law_heard) F sc_law_heard rfl (fun cdv A outer s H E hr tk => bd_law_heard T c_read_names c_read_turns hr tk)
  exact ⟨f, fd, F, h, g, F.bindsN fun _ _ _ _ _ _ us hl => match us, hl with | [_, _], _ => rfl⟩
abbrev s_law_is_tag : Stmt := top 27
theorem sc_law_is_tag : FnScope ["_law_word_so", "_law_own"] ["_law_word_so"] (defScope s_law_is_tag) := ⟨rfl, rfl, rfl, by decide +kernel, rfl, by decide +kernel, by decide +kernel⟩
theorem bd_law_is_tag {P : Program} {w : World} {K : PySem.W.Frag} {mg : Str → Option Value} {base : Heap} (T : Txt K mg) {f : Addr} {cdv : Value} {A : Around} {outer : List PySem.Env} {s : Shared} {H : Hp} {E : XK} (hr : Room 0 (A.deeper (PyProof.Rows.envOfC "_law_is_tag" (defScope s_law_is_tag) s.heap.objs.size f cdv))) (tk : Takes (cxOf (L2.CX P w) P w K mg base ["_law_word_so", "_law_own"] "_law_is_tag" (defScope s_law_is_tag) f cdv A outer s H E) (WE E)) : PSs (cxOf (L2.CX P w) P w K mg base ["_law_word_so", "_law_own"] "_law_is_tag" (defScope s_law_is_tag) f cdv A outer s H E) (defBody s_law_is_tag) (tS K mg (WE E) m_law_is_tag) := by
  have nd := sc_law_is_tag.nd
  exact yOne (yRet (xAnd (uLtLt (xInt) (uLen T.z_len (uCons (uV 0) (zNil))) (xInt)) (xOne (uEq hr (uLc [("_law_own", 1)] (.nm 1) nd tk (jStrs (uV 0)) (by rfl) (fun _ _ _ _ _ _ => (pg_name (i := 1) nd rfl (by first | exact Or.inl rfl | exact Or.inr rfl))) (fun _ _ _ _ _ _ _ q => kOne (tNotIn_ hr (uV 1) (xStr))) (fun _ _ _ _ _ _ _ q => uV 1)) (xLst (zNil))))))
theorem ok_law_is_tag {P : Program} {w : World} {K : PySem.W.Frag} {mg : Str → Option Value} {base : Heap} (T : Txt K mg) (dd : Dfd K mg "_law_is_tag" s_law_is_tag) : Cal P w K mg base "_law_is_tag" s_law_is_tag 1 ["_law_word_so"] f_law_is_tag := by
  obtain ⟨f, fd, F, g⟩ := dd.ex
  have h := fn_ok (P := P) (w := w) (K := K) (mg := mg) (base := base) (x := "_law_is_tag") (qual := "_law_is_tag") (params := defArgs s_law_is_tag) (body := defBody s_law_is_tag) (scope := defScope s_law_is_tag) (dvs := []) (kws := []) (f := f) (fd := fd) (N := ["_law_word_so", "_law_own"]) (ps := ["_law_word_so"]) (n := 1) (k := 0) (m := m_law_is_tag) F sc_law_is_tag rfl (fun cdv A outer s H E hr tk => bd_law_is_tag T  hr tk)
  exact ⟨f, fd, F, h, g, F.bindsN fun _ _ _ _ _ _ us hl => match us, hl with | [_], _ => rfl⟩
abbrev s_law_tags_in : Stmt := top 28
theorem sc_law_tags_in : FnScope ["_law_word_so", "_law_words_so", "_law_own"] ["_law_word_so"] (defScope s_law_tags_in) := ⟨rfl, rfl, rfl, by decide +kernel, rfl, by decide +kernel, by decide +kernel⟩
theorem bd_law_tags_in {P : Program} {w : World} {K : PySem.W.Frag} {mg : Str → Option Value} {base : Heap} (T : Txt K mg) (c_law_is_tag : Cal P w K mg base "_law_is_tag" s_law_is_tag 1 ["_law_word_so"] (f_law_is_tag)) {f : Addr} {cdv : Value} {A : Around} {outer : List PySem.Env} {s : Shared} {H : Hp} {E : XK} (hr : Room 1 (A.deeper (PyProof.Rows.envOfC "_law_tags_in" (defScope s_law_tags_in) s.heap.objs.size f cdv))) (tk : Takes (cxOf (L2.CX P w) P w K mg base ["_law_word_so", "_law_words_so", "_law_own"] "_law_tags_in" (defScope s_law_tags_in) f cdv A outer s H E) (WE E)) : PSs (cxOf (L2.CX P w) P w K mg base ["_law_word_so", "_law_words_so", "_law_own"] "_law_tags_in" (defScope s_law_tags_in) f cdv A outer s H E) (defBody s_law_tags_in) (tS K mg (WE E) m_law_tags_in) := by
  have nd := sc_law_tags_in.nd
  exact yCons (uSet 1 nd (xIf (tEq_ hr (uV 0) (xStr)) (xLst (zNil)) (uMeth PySem.F.plainAttrs_str PySem.F.slot_str_split PySem.F.type_str_split mt_split mSplit_ok (uV 0) (uCons (xStr) (zNil)))))
      (yOne (yRet (xIf (tNe_ hr (uLc [("_law_own", 2)] (.nm 2) nd tk (jSeq (uV 1)) (by rfl) (fun _ _ _ _ _ _ => (pg_name (i := 2) nd rfl (by first | exact Or.inl rfl | exact Or.inr rfl))) (fun _ _ _ _ _ _ _ q => kOne (wNot (tVal (uCall c_law_is_tag hr q (uCons (uV 2) (zNil)))))) (fun _ _ _ _ _ _ _ q => uV 2)) (xLst (zNil))) (xLst (uCons (xStr) (uCons (xBl) (zNil)))) (uTuple T.z_tuple (uCons (uV 1) (zNil))))))
theorem ok_law_tags_in {P : Program} {w : World} {K : PySem.W.Frag} {mg : Str → Option Value} {base : Heap} (T : Txt K mg) (dd : Dfd K mg "_law_tags_in" s_law_tags_in) (c_law_is_tag : Cal P w K mg base "_law_is_tag" s_law_is_tag 1 ["_law_word_so"] (f_law_is_tag)) : Cal P w K mg base "_law_tags_in" s_law_tags_in 2 ["_law_word_so"] f_law_tags_in := by
  obtain ⟨f, fd, F, g⟩ := dd.ex
  have h := fn_ok (P := P) (w := w) (K := K) (mg := mg) (base := base) (x := "_law_tags_in") (qual := "_law_tags_in") (params := defArgs s_law_tags_in) (body := defBody s_law_tags_in) (scope := defScope s_law_tags_in) (dvs := []) (kws := []) (f := f) (fd := fd) (N := ["_law_word_so", "_law_words_so", "_law_own"]) (ps := ["_law_word_so"]) (n := 1) (k := 1) (m := m_law_tags_in) F sc_law_tags_in rfl (fun cdv A outer s H E hr tk => bd_law_tags_in T c_law_is_tag hr tk)
  exact ⟨f, fd, F, h, g, F.bindsN fun _ _ _ _ _ _ us hl => match us, hl with | [_], _ => rfl⟩
abbrev s_law_turn_in : Stmt := top 29
theorem sc_law_turn_in : FnScope ["_law_word_so", "_law_k", "_law_tag_so", "_law_tail_so", "_law_own"] ["_law_word_so"] (defScope s_law_turn_in) := ⟨rfl, rfl, rfl, by decide +kernel, rfl, by decide +kernel, by decide +kernel⟩
theorem bd_law_turn_in {P : Program} {w : World} {K : PySem.W.Frag} {mg : Str → Option Value} {base : Heap} (T : Txt K mg) (c_law_is_tag : Cal P w K mg base "_law_is_tag" s_law_is_tag 1 ["_law_word_so"] (f_law_is_tag)) {f : Addr} {cdv : Value} {A : Around} {outer : List PySem.Env} {s : Shared} {H : Hp} {E : XK} (hr : Room 1 (A.deeper (PyProof.Rows.envOfC "_law_turn_in" (defScope s_law_turn_in) s.heap.objs.size f cdv))) (tk : Takes (cxOf (L2.CX P w) P w K mg base ["_law_word_so", "_law_k", "_law_tag_so", "_law_tail_so", "_law_own"] "_law_turn_in" (defScope s_law_turn_in) f cdv A outer s H E) (WE E)) : PSs (cxOf (L2.CX P w) P w K mg base ["_law_word_so", "_law_k", "_law_tag_so", "_law_tail_so", "_law_own"] "_law_turn_in" (defScope s_law_turn_in) f cdv A outer s H E) (defBody s_law_turn_in) (tS K mg (WE E) m_law_turn_in) := by
  have nd := sc_law_turn_in.nd
  exact yCons (uSet 1 nd (uLen T.z_len (uCons (uLc [("_law_own", 4)] (.nm 4) nd tk (jStrs (uV 0)) (by rfl) (fun _ _ _ _ _ _ => (pg_name (i := 4) nd rfl (by first | exact Or.inl rfl | exact Or.inr rfl))) (fun _ _ _ _ _ _ _ q => kOne (tNotIn_ hr (uV 4) (xStr))) (fun _ _ _ _ _ _ _ q => uV 4)) (zNil))))
      (yCons (uPar 2 3 nd (uCons (xSl (uV 0) (oNo) (oYes (uV 1))) (uCons (xSl (uV 0) (oYes (uV 1)) (oNo)) (zNil))))
      (yCons (yIf (wPt (wOr (wNot (tVal (uCall c_law_is_tag hr (Psg.of tk) (uCons (uV 2) (zNil))))) (wOr (tEq_ hr (uV 3) (xStr)) (wOr1 (tNe_ hr (uLc [("_law_own", 4)] (.nm 4) nd tk (jStrs (uV 3)) (by rfl) (fun _ _ _ _ _ _ => (pg_name (i := 4) nd rfl (by first | exact Or.inl rfl | exact Or.inr rfl))) (fun _ _ _ _ _ _ _ q => kOne (tNotIn_ hr (uV 4) (xStr))) (fun _ _ _ _ _ _ _ q => uV 4)) (xLst (zNil))))))) (yOne (yRet (xNon))) (yNil))
      (yOne (yRet (xIf (wPt (wAnd (tGt_ (uLen T.z_len (uCons (uV 3) (zNil))) (xInt)) (wAnd1 (tEq_ hr (uIx (uV 3) (xInt)) (xStr))))) (xNon) (xTup (uCons (uV 2) (uCons (uInt T.z_int (uCons (uV 3) (zNil))) (zNil)))))))))
theorem ok_law_turn_in {P : Program} {w : World} {K : PySem.W.Frag} {mg : Str → Option Value} {base : Heap} (T : Txt K mg) (dd : Dfd K mg "_law_turn_in" s_law_turn_in) (c_law_is_tag : Cal P w K mg base "_law_is_tag" s_law_is_tag 1 ["_law_word_so"] (f_law_is_tag)) : Cal P w K mg base "_law_turn_in" s_law_turn_in 2 ["_law_word_so"] f_law_turn_in := by
  obtain ⟨f, fd, F, g⟩ := dd.ex
  have h := fn_ok (P := P) (w := w) (K := K) (mg := mg) (base := base) (x := "_law_turn_in") (qual := "_law_turn_in") (params := defArgs s_law_turn_in) (body := defBody s_law_turn_in) (scope := defScope s_law_turn_in) (dvs := []) (kws := []) (f := f) (fd := fd) (N := ["_law_word_so", "_law_k", "_law_tag_so", "_law_tail_so", "_law_own"]) (ps := ["_law_word_so"]) (n := 1) (k := 1) (m := m_law_turn_in) F sc_law_turn_in rfl (fun cdv A outer s H E hr tk => bd_law_turn_in T c_law_is_tag hr tk)
  exact ⟨f, fd, F, h, g, F.bindsN fun _ _ _ _ _ _ us hl => match us, hl with | [_], _ => rfl⟩
abbrev s_law_turns_in : Stmt := top 30
theorem sc_law_turns_in : FnScope ["_law_word_so", "_law_found", "_law_own", "_law_k"] ["_law_word_so"] (defScope s_law_turns_in) := ⟨rfl, rfl, rfl, by decide +kernel, rfl, by decide +kernel, by decide +kernel⟩
theorem bd_law_turns_in {P : Program} {w : World} {K : PySem.W.Frag} {mg : Str → Option Value} {base : Heap} (T : Txt K mg) (c_law_turn_in : Cal P w K mg base "_law_turn_in" s_law_turn_in 2 ["_law_word_so"] (f_law_turn_in)) {f : Addr} {cdv : Value} {A : Around} {outer : List PySem.Env} {s : Shared} {H : Hp} {E : XK} (hr : Room 2 (A.deeper (PyProof.Rows.envOfC "_law_turns_in" (defScope s_law_turns_in) s.heap.objs.size f cdv))) (tk : Takes (cxOf (L2.CX P w) P w K mg base ["_law_word_so", "_law_found", "_law_own", "_law_k"] "_law_turns_in" (defScope s_law_turns_in) f cdv A outer s H E) (WE E)) : PSs (cxOf (L2.CX P w) P w K mg base ["_law_word_so", "_law_found", "_law_own", "_law_k"] "_law_turns_in" (defScope s_law_turns_in) f cdv A outer s H E) (defBody s_law_turns_in) (tS K mg (WE E) m_law_turns_in) := by
  have nd := sc_law_turns_in.nd
  exact yCons (uSet 1 nd (xIf (tEq_ hr (uV 0) (xStr)) (xLst (zNil)) (uLc [("_law_own", 2)] (.nm 2) nd tk (jSeq (uMeth PySem.F.plainAttrs_str PySem.F.slot_str_split PySem.F.type_str_split mt_split mSplit_ok (uV 0) (uCons (xStr) (zNil)))) (by rfl) (fun _ _ _ _ _ _ => (pg_name (i := 2) nd rfl (by first | exact Or.inl rfl | exact Or.inr rfl))) (fun _ _ _ _ _ _ _ q => kNil) (fun _ _ _ _ _ _ _ q => uCall c_law_turn_in hr q (uCons (uV 2) (zNil))))))
      (yCons (yIf (tIn_ hr (xNon) (uV 1)) (yOne (yRet (xLst (uCons (xStr) (uCons (xBl) (zNil)))))) (yNil))
      (yCons (yIf (tNe_ hr (uLc [("_law_k", 3)] (.nm 3) nd tk (uRng2 T.z_range (uCons (xInt) (uCons (uLen T.z_len (uCons (uV 1) (zNil))) (zNil)))) (by rfl) (fun _ _ _ _ _ _ => (pg_name (i := 3) nd rfl (by first | exact Or.inl rfl | exact Or.inr rfl))) (fun _ _ _ _ _ _ _ q => kOne (tLe_ (uIx (uIx (uV 1) (uV 3)) (xInt)) (uIx (uIx (uV 1) (uSub (uV 3) (xInt))) (xInt)))) (fun _ _ _ _ _ _ _ q => uV 3)) (xLst (zNil))) (yOne (yRet (xLst (uCons (xStr) (uCons (xBl) (zNil)))))) (yNil))
      (yOne (yRet (uTuple T.z_tuple (uCons (uV 1) (zNil)))))))
theorem ok_law_turns_in {P : Program} {w : World} {K : PySem.W.Frag} {mg : Str → Option Value} {base : Heap} (T : Txt K mg) (dd : Dfd K mg "_law_turns_in" s_law_turns_in) (c_law_turn_in : Cal P w K mg base "_law_turn_in" s_law_turn_in 2 ["_law_word_so"] (f_law_turn_in)) : Cal P w K mg base "_law_turns_in" s_law_turns_in 3 ["_law_word_so"] f_law_turns_in := by
  obtain ⟨f, fd, F, g⟩ := dd.ex
  have h := fn_ok (P := P) (w := w) (K := K) (mg := mg) (base := base) (x := "_law_turns_in") (qual := "_law_turns_in") (params := defArgs s_law_turns_in) (body := defBody s_law_turns_in) (scope := defScope s_law_turns_in) (dvs := []) (kws := []) (f := f) (fd := fd) (N := ["_law_word_so", "_law_found", "_law_own", "_law_k"]) (ps := ["_law_word_so"]) (n := 1) (k := 2) (m := m_law_turns_in) F sc_law_turns_in rfl (fun cdv A outer s H E hr tk => bd_law_turns_in T c_law_turn_in hr tk)
  exact ⟨f, fd, F, h, g, F.bindsN fun _ _ _ _ _ _ us hl => match us, hl with | [_], _ => rfl⟩
abbrev s_law_bent : Stmt := top 31
theorem sc_law_bent : FnScope ["_law_box_here", "_law_word_so", "_law_k", "_law_own", "_law_some"] ["_law_box_here", "_law_word_so"] (defScope s_law_bent) := ⟨rfl, rfl, rfl, by decide +kernel, rfl, by decide +kernel, by decide +kernel⟩
theorem bd_law_bent {P : Program} {w : World} {K : PySem.W.Frag} {mg : Str → Option Value} {base : Heap} (T : Txt K mg) (c_law_take : Cal P w K mg base "_law_take" s_law_take 1 ["_law_box_here", "_law_below_so"] (f_law_take)) (c_law_of : Cal P w K mg base "_law_of" s_law_of 2 ["_law_box_here", "_law_pool_so"] (f_law_of)) {f : Addr} {cdv : Value} {A : Around} {outer : List PySem.Env} {s : Shared} {H : Hp} {E : XK} (hr : Room 2 (A.deeper (PyProof.Rows.envOfC "_law_bent" (defScope s_law_bent) s.heap.objs.size f cdv))) (tk : Takes (cxOf (L2.CX P w) P w K mg base ["_law_box_here", "_law_word_so", "_law_k", "_law_own", "_law_some"] "_law_bent" (defScope s_law_bent) f cdv A outer s H E) (WE E)) : PSs (cxOf (L2.CX P w) P w K mg base ["_law_box_here", "_law_word_so", "_law_k", "_law_own", "_law_some"] "_law_bent" (defScope s_law_bent) f cdv A outer s H E) (defBody s_law_bent) (tS K mg (WE E) m_law_bent) := by
  have nd := sc_law_bent.nd
  exact yCons (uPar 2 3 nd (uCons (uCall c_law_take hr (Psg.of tk) (uCons (uV 0) (uCons (uAdd (uLen T.z_len (uCons (uV 1) (zNil))) (xInt)) (zNil)))) (uCons (uCall c_law_of hr (Psg.of tk) (uCons (uV 0) (uCons (uList T.z_list (uCons (xStr) (zNil))) (zNil)))) (zNil))))
      (yCons (uSet 4 nd (xLstC (uCons (uAdd (uAdd (xSl (uV 1) (oNo) (oYes (uV 2))) (uV 3)) (xSl (uV 1) (oYes (uV 2)) (oNo))) (uCons (uAdd (xSl (uV 1) (oNo) (oYes (uV 2))) (xSl (uV 1) (oYes (uAdd (uV 2) (xInt))) (oNo))) (zNil)))))
      (yCons (uDo (uMeth PySem.F.plainAttrs_list PySem.F.slot_list_append PySem.F.type_list_append mt_append mAppend_ok (uV 4) (uCons (uAdd (uAdd (xSl (uV 1) (oNo) (oYes (uV 2))) (uV 3)) (xSl (uV 1) (oYes (uAdd (uV 2) (xInt))) (oNo))) (zNil))))
      (yCons (uDo (uMeth PySem.F.plainAttrs_list PySem.F.slot_list_append PySem.F.type_list_append mt_append mAppend_ok (uV 4) (uCons (uAdd (uAdd (xSl (uV 1) (oNo) (oYes (uV 2))) (xRev (xSl (uV 1) (oYes (uV 2)) (oYes (uAdd (uV 2) (xInt)))))) (xSl (uV 1) (oYes (uAdd (uV 2) (xInt))) (oNo))) (zNil))))
      (yOne (yRet (uAdd (uV 4) (xLst (uCons (uAdd (uV 1) (xStr)) (uCons (uAdd (xStr) (uV 1)) (uCons (uAdd (uV 1) (uV 3)) (zNil)))))))))))
theorem ok_law_bent {P : Program} {w : World} {K : PySem.W.Frag} {mg : Str → Option Value} {base : Heap} (T : Txt K mg) (dd : Dfd K mg "_law_bent" s_law_bent) (c_law_take : Cal P w K mg base "_law_take" s_law_take 1 ["_law_box_here", "_law_below_so"] (f_law_take)) (c_law_of : Cal P w K mg base "_law_of" s_law_of 2 ["_law_box_here", "_law_pool_so"] (f_law_of)) : Cal P w K mg base "_law_bent" s_law_bent 3 ["_law_box_here", "_law_word_so"] f_law_bent := by
  obtain ⟨f, fd, F, g⟩ := dd.ex
  have h := fn_okC (P := P) (w := w) (K := K) (mg := mg) (base := base) (x := "_law_bent") (qual := "_law_bent") (params := defArgs s_law_bent) (body := defBody s_law_bent) (scope := defScope s_law_bent) (dvs := []) (kws := []) (f := f) (fd := fd) (N := ["_law_box_here", "_law_word_so", "_law_k", "_law_own", "_law_some"]) (ps := ["_law_box_here", "_law_word_so"]) (n := 2) (k := 2) (m := m_law_bent) F sc_law_bent rfl (fun cdv A outer s H E hr tk => bd_law_bent T c_law_take c_law_of hr tk)
  exact ⟨f, fd, F, h, g, F.bindsN fun _ _ _ _ _ _ us hl => match us, hl with | [_, _], _ => rfl⟩
abbrev s_law_case_right : Stmt := top 32
theorem sc_law_case_right : FnScope ["_law_box_here", "_law_tags_so", "_law_own", "_law_word_so", "_law_line_so", "_law_got", "_law_many_so", "_law_tag_so"] ["_law_box_here", "_law_tags_so", "_law_own"] (defScope s_law_case_right) := ⟨rfl, rfl, rfl, by decide +kernel, rfl, by decide +kernel, by decide +kernel⟩
theorem bd_law_case_right {P : Program} {w : World} {K : PySem.W.Frag} {mg : Str → Option Value} {base : Heap} (T : Txt K mg) (c_names_text : Cal P w K mg base "names_text" s_names_text 1 ["names"] (f_names_text)) (c_read_names : Cal P w K mg base "read_names" s_read_names 2 ["text"] (f_read_names)) (c_turns_text : Cal P w K mg base "turns_text" s_turns_text 2 ["turns"] (f_turns_text)) (c_read_turns : Cal P w K mg base "read_turns" s_read_turns 3 ["text"] (f_read_turns)) (c_law_lists : Cal P w K mg base "_law_lists" s_law_lists 5 ["_law_matter"] (f_law_lists 4)) (c_law_same : Cal P w K mg base "_law_same" s_law_same 7 ["_law_got", "_law_due_so"] (f_law_same 6)) (c_law_heard : Cal P w K mg base "_law_heard" s_law_heard 4 ["_law_door", "_law_word_so"] (f_law_heard)) (c_law_tags_in : Cal P w K mg base "_law_tags_in" s_law_tags_in 2 ["_law_word_so"] (f_law_tags_in)) (c_law_turns_in : Cal P w K mg base "_law_turns_in" s_law_turns_in 3 ["_law_word_so"] (f_law_turns_in)) (c_law_bent : Cal P w K mg base "_law_bent" s_law_bent 3 ["_law_box_here", "_law_word_so"] (f_law_bent)) {f : Addr} {cdv : Value} {A : Around} {outer : List PySem.Env} {s : Shared} {H : Hp} {E : XK} (hr : Room 7 (A.deeper (PyProof.Rows.envOfC "_law_case_right" (defScope s_law_case_right) s.heap.objs.size f cdv))) (tk : Takes (cxOf (L2.CX P w) P w K mg base ["_law_box_here", "_law_tags_so", "_law_own", "_law_word_so", "_law_line_so", "_law_got", "_law_many_so", "_law_tag_so"] "_law_case_right" (defScope s_law_case_right) f cdv A outer s H E) (WE E)) : PSs (cxOf (L2.CX P w) P w K mg base ["_law_box_here", "_law_tags_so", "_law_own", "_law_word_so", "_law_line_so", "_law_got", "_law_many_so", "_law_tag_so"] "_law_case_right" (defScope s_law_case_right) f cdv A outer s H E) (defBody s_law_case_right) (tS K mg (WE E) m_law_case_right) := by
  have nd := sc_law_case_right.nd
  have pso : PassesOwn (model P w) (A.deeper (PyProof.Rows.envOfC "_law_case_right" (defScope s_law_case_right) s.heap.objs.size f cdv)) (PyProof.Rows.envOfC "_law_case_right" (defScope s_law_case_right) s.heap.objs.size f cdv) (cxOf (L2.CX P w) P w K mg base ["_law_box_here", "_law_tags_so", "_law_own", "_law_word_so", "_law_line_so", "_law_got", "_law_many_so", "_law_tag_so"] "_law_case_right" (defScope s_law_case_right) f cdv A outer s H E).xe := passes_of (X := cxOf (L2.CX P w) P w K mg base ["_law_box_here", "_law_tags_so", "_law_own", "_law_word_so", "_law_line_so", "_law_got", "_law_many_so", "_law_tag_so"] "_law_case_right" (defScope s_law_case_right) f cdv A outer s H E) rfl
  exact yCons (uSet 3 nd (xIf (tNe_ hr (uV 1) (xTup (zNil))) (uMeth PySem.F.plainAttrs_str PySem.F.slot_str_join PySem.F.type_str_join mt_join mJoin_ok (xStr) (uCons (uV 1) (zNil))) (xStr)))
      (yCons (uSet 4 nd (xIf (tNe_ hr (uV 2) (xTup (zNil))) (uMeth PySem.F.plainAttrs_str PySem.F.slot_str_join PySem.F.type_str_join mt_join mJoin_ok (xStr) (uCons (uLc [("_law_tag_so", 7), ("_law_many_so", 6)] (.tp [7, 6]) nd tk (jSeq (uV 2)) (by rfl) (fun _ _ _ _ _ _ => (pg_tp rfl (pgs_cons (pg_name (i := 7) nd rfl (by first | exact Or.inl rfl | exact Or.inr rfl)) (pgs_cons (pg_name (i := 6) nd rfl (by first | exact Or.inl rfl | exact Or.inr rfl)) pgs_nil)))) (fun _ _ _ _ _ _ _ q => kNil) (fun _ _ _ _ _ _ _ q => uAdd (uV 7) (uStr T.z_str (uCons (uV 6) (zNil))))) (zNil))) (xStr)))
      (yCons (uSet 5 nd (xLst (uCons (uCall c_names_text hr (Psg.of tk) (uCons (uV 1) (zNil))) (uCons (uCallK0 [0] ["names"] c_names_text hr (Psg.of tk) (fun _ _ _ _ _ _ ws hl => match ws, hl with | [_], _ => rfl) (zKw (uList T.z_list (uCons (uV 1) (zNil))) (zKw0))) (uCons (uCall c_read_names hr (Psg.of tk) (uCons (uV 3) (zNil))) (uCons (uCallK0 [0] ["text"] c_read_names hr (Psg.of tk) (fun _ _ _ _ _ _ ws hl => match ws, hl with | [_], _ => rfl) (zKw (uV 3) (zKw0))) (zNil)))))))
      (yCons (uSet 5 nd (uAdd (uV 5) (xLst (uCons (uCall c_turns_text hr (Psg.of tk) (uCons (uV 2) (zNil))) (uCons (uCallK0 [0] ["turns"] c_turns_text hr (Psg.of tk) (fun _ _ _ _ _ _ ws hl => match ws, hl with | [_], _ => rfl) (zKw (uCall c_law_lists hr (Psg.of tk) (uCons (uV 2) (zNil))) (zKw0))) (uCons (uCall c_read_turns hr (Psg.of tk) (uCons (uV 4) (zNil))) (uCons (uCallK0 [0] ["text"] c_read_turns hr (Psg.of tk) (fun _ _ _ _ _ _ ws hl => match ws, hl with | [_], _ => rfl) (zKw (uV 4) (zKw0))) (zNil))))))))
      (yCons (yIf (wNot (tVal (uCall c_law_same hr (Psg.of tk) (uCons (uV 5) (uCons (xLst (uCons (uV 3) (uCons (uV 3) (uCons (uV 1) (uCons (uV 1) (uCons (uV 4) (uCons (uV 4) (uCons (uV 2) (uCons (uV 2) (zNil)))))))))) (zNil)))))) (yOne (yRet (xBl))) (yNil))
      (yCons (uFor (.nm 3) pso (jSeq (uAdd (uAdd (uCall c_law_bent hr (Psg.of tk) (uCons (uV 0) (uCons (uV 3) (zNil)))) (uCall c_law_bent hr (Psg.of tk) (uCons (uV 0) (uCons (uV 4) (zNil))))) (xLst (uCons (uV 3) (uCons (uV 4) (zNil)))))) (pg_name (i := 3) nd rfl (by first | exact Or.inl rfl | exact Or.inr rfl)) (yOne (yIf (wNot (tVal (uCall c_law_same hr (Psg.of tk) (uCons (xLst (uCons (uCall c_law_heard hr (Psg.of tk) (uCons (xInt) (uCons (uV 3) (zNil)))) (uCons (uCall c_law_heard hr (Psg.of tk) (uCons (xInt) (uCons (uV 3) (zNil)))) (zNil)))) (uCons (xLst (uCons (uCall c_law_tags_in hr (Psg.of tk) (uCons (uV 3) (zNil))) (uCons (uCall c_law_turns_in hr (Psg.of tk) (uCons (uV 3) (zNil))) (zNil)))) (zNil)))))) (yOne (yRet (xBl))) (yNil))))
      (yOne (yRet (xBl))))))))
theorem ok_law_case_right {P : Program} {w : World} {K : PySem.W.Frag} {mg : Str → Option Value} {base : Heap} (T : Txt K mg) (dd : Dfd K mg "_law_case_right" s_law_case_right) (c_names_text : Cal P w K mg base "names_text" s_names_text 1 ["names"] (f_names_text)) (c_read_names : Cal P w K mg base "read_names" s_read_names 2 ["text"] (f_read_names)) (c_turns_text : Cal P w K mg base "turns_text" s_turns_text 2 ["turns"] (f_turns_text)) (c_read_turns : Cal P w K mg base "read_turns" s_read_turns 3 ["text"] (f_read_turns)) (c_law_lists : Cal P w K mg base "_law_lists" s_law_lists 5 ["_law_matter"] (f_law_lists 4)) (c_law_same : Cal P w K mg base "_law_same" s_law_same 7 ["_law_got", "_law_due_so"] (f_law_same 6)) (c_law_heard : Cal P w K mg base "_law_heard" s_law_heard 4 ["_law_door", "_law_word_so"] (f_law_heard)) (c_law_tags_in : Cal P w K mg base "_law_tags_in" s_law_tags_in 2 ["_law_word_so"] (f_law_tags_in)) (c_law_turns_in : Cal P w K mg base "_law_turns_in" s_law_turns_in 3 ["_law_word_so"] (f_law_turns_in)) (c_law_bent : Cal P w K mg base "_law_bent" s_law_bent 3 ["_law_box_here", "_law_word_so"] (f_law_bent)) : Cal P w K mg base "_law_case_right" s_law_case_right 8 ["_law_box_here", "_law_tags_so", "_law_own"] f_law_case_right := by
  obtain ⟨f, fd, F, g⟩ := dd.ex
  have h := fn_ok (P := P) (w := w) (K := K) (mg := mg) (base := base) (x := "_law_case_right") (qual := "_law_case_right") (params := defArgs s_law_case_right) (body := defBody s_law_case_right) (scope := defScope s_law_case_right) (dvs := []) (kws := []) (f := f) (fd := fd) (N := ["_law_box_here", "_law_tags_so", "_law_own", "_law_word_so", "_law_line_so", "_law_got", "_law_many_so", "_law_tag_so"]) (ps := ["_law_box_here", "_law_tags_so", "_law_own"]) (n := 3) (k := 7) (m := m_law_case_right) F sc_law_case_right rfl (fun cdv A outer s H E hr tk => bd_law_case_right T c_names_text c_read_names c_turns_text c_read_turns c_law_lists c_law_same c_law_heard c_law_tags_in c_law_turns_in c_law_bent hr tk)
  exact ⟨f, fd, F, h, g, F.bindsN fun _ _ _ _ _ _ us hl => match us, hl with | [_, _, _], _ => rfl⟩
abbrev s_law_by_hand_right : Stmt := top 33
theorem sc_law_by_hand_right : FnScope ["_law_got", "_law_due_so", "_law_bad_so", "_law_letters_so", "_law_wide_so", "_law_own", "_law_k"] [] (defScope s_law_by_hand_right) := ⟨rfl, rfl, rfl, by decide +kernel, rfl, by decide +kernel, by decide +kernel⟩
theorem bd_law_by_hand_right {P : Program} {w : World} {K : PySem.W.Frag} {mg : Str → Option Value} {base : Heap} (T : Txt K mg) (c_names_text : Cal P w K mg base "names_text" s_names_text 1 ["names"] (f_names_text)) (c_read_names : Cal P w K mg base "read_names" s_read_names 2 ["text"] (f_read_names)) (c_turns_text : Cal P w K mg base "turns_text" s_turns_text 2 ["turns"] (f_turns_text)) (c_read_turns : Cal P w K mg base "read_turns" s_read_turns 3 ["text"] (f_read_turns)) (c_law_same : Cal P w K mg base "_law_same" s_law_same 7 ["_law_got", "_law_due_so"] (f_law_same 6)) (c_law_heard : Cal P w K mg base "_law_heard" s_law_heard 4 ["_law_door", "_law_word_so"] (f_law_heard)) {f : Addr} {cdv : Value} {A : Around} {outer : List PySem.Env} {s : Shared} {H : Hp} {E : XK} (hr : Room 7 (A.deeper (PyProof.Rows.envOfC "_law_by_hand_right" (defScope s_law_by_hand_right) s.heap.objs.size f cdv))) (tk : Takes (cxOf (L2.CX P w) P w K mg base ["_law_got", "_law_due_so", "_law_bad_so", "_law_letters_so", "_law_wide_so", "_law_own", "_law_k"] "_law_by_hand_right" (defScope s_law_by_hand_right) f cdv A outer s H E) (WE E)) : PSs (cxOf (L2.CX P w) P w K mg base ["_law_got", "_law_due_so", "_law_bad_so", "_law_letters_so", "_law_wide_so", "_law_own", "_law_k"] "_law_by_hand_right" (defScope s_law_by_hand_right) f cdv A outer s H E) (defBody s_law_by_hand_right) (tS K mg (WE E) m_law_by_hand_right) := by
  have nd := sc_law_by_hand_right.nd
  exact yCons (uSet 0 nd (xLst (uCons (uCall c_names_text hr (Psg.of tk) (uCons (xTup (uCons (xStr) (uCons (xStr) (uCons (xStr) (zNil))))) (zNil))) (uCons (uCall c_names_text hr (Psg.of tk) (uCons (xTup (zNil)) (zNil))) (uCons (uCall c_read_names hr (Psg.of tk) (uCons (xStr) (zNil))) (uCons (uCall c_read_names hr (Psg.of tk) (uCons (xStr) (zNil))) (uCons (uCall c_turns_text hr (Psg.of tk) (uCons (xTup (uCons (xTup (uCons (xStr) (uCons (xInt) (zNil)))) (uCons (xTup (uCons (xStr) (uCons (xInt) (zNil)))) (zNil)))) (zNil))) (zNil))))))))
      (yCons (uSet 1 nd (xLst (uCons (xStr) (uCons (xStr) (uCons (xTup (uCons (xStr) (uCons (xStr) (uCons (xStr) (zNil))))) (uCons (xTup (zNil)) (uCons (xStr) (zNil))))))))
      (yCons (uSet 0 nd (uAdd (uV 0) (xLst (uCons (uCall c_read_turns hr (Psg.of tk) (uCons (xStr) (zNil))) (uCons (uCall c_read_turns hr (Psg.of tk) (uCons (xStr) (zNil))) (uCons (uCall c_turns_text hr (Psg.of tk) (uCons (xTup (zNil)) (zNil))) (uCons (uCall c_read_turns hr (Psg.of tk) (uCons (uAdd (xStr) (uMul (xStr) (xInt))) (zNil))) (zNil))))))))
      (yCons (uSet 1 nd (uAdd (uV 1) (xLst (uCons (xTup (uCons (xTup (uCons (xStr) (uCons (xInt) (zNil)))) (uCons (xTup (uCons (xStr) (uCons (xInt) (zNil)))) (zNil)))) (uCons (xTup (zNil)) (uCons (xStr) (uCons (xTup (uCons (xTup (uCons (xStr) (uCons (xInt) (zNil)))) (uCons (xTup (uCons (xStr) (uCons (uSub (uPow (xInt) (xInt)) (xInt)) (zNil)))) (zNil)))) (zNil))))))))
      (yCons (uSet 2 nd (xLst (uCons (xStr) (uCons (xStr) (uCons (xStr) (uCons (xStr) (uCons (xStr) (uCons (xStr) (uCons (xStr) (uCons (xStr) (uCons (xStr) (uCons (xStr) (uCons (xStr) (uCons (xStr) (uCons (xStr) (zNil))))))))))))))))
      (yCons (uSet 0 nd (uAdd (uV 0) (xLst (uCons (uLc [("_law_own", 5)] (.nm 5) nd tk (jSeq (uV 2)) (by rfl) (fun _ _ _ _ _ _ => (pg_name (i := 5) nd rfl (by first | exact Or.inl rfl | exact Or.inr rfl))) (fun _ _ _ _ _ _ _ q => kNil) (fun _ _ _ _ _ _ _ q => uCall c_law_heard hr q (uCons (xInt) (uCons (uV 5) (zNil))))) (zNil)))))
      (yCons (uSet 1 nd (uAdd (uV 1) (xLst (uCons (uMul (xLst (uCons (xLst (uCons (xStr) (uCons (xBl) (zNil)))) (zNil))) (uLen T.z_len (uCons (uV 2) (zNil)))) (zNil)))))
      (yCons (uSet 2 nd (xLst (uCons (xStr) (uCons (xStr) (uCons (xStr) (uCons (xStr) (uCons (xStr) (uCons (xStr) (uCons (xStr) (uCons (xStr) (uCons (xStr) (uCons (xStr) (uCons (xStr) (uCons (xStr) (uCons (xStr) (uCons (xStr) (uCons (xStr) (uCons (xStr) (uCons (xStr) (uCons (xStr) (uCons (xStr) (zNil))))))))))))))))))))))
      (yCons (uSet 0 nd (uAdd (uV 0) (xLst (uCons (uLc [("_law_own", 5)] (.nm 5) nd tk (jSeq (uV 2)) (by rfl) (fun _ _ _ _ _ _ => (pg_name (i := 5) nd rfl (by first | exact Or.inl rfl | exact Or.inr rfl))) (fun _ _ _ _ _ _ _ q => kNil) (fun _ _ _ _ _ _ _ q => uCall c_law_heard hr q (uCons (xInt) (uCons (uV 5) (zNil))))) (uCons (uCall c_read_turns hr (Psg.of tk) (uCons (uAdd (xStr) (uStr T.z_str (uCons (uPow (xInt) (xInt)) (zNil)))) (zNil))) (zNil))))))
      (yCons (uSet 1 nd (uAdd (uV 1) (xLst (uCons (uMul (xLst (uCons (xLst (uCons (xStr) (uCons (xBl) (zNil)))) (zNil))) (uLen T.z_len (uCons (uV 2) (zNil)))) (uCons (xTup (uCons (xTup (uCons (xStr) (uCons (uPow (xInt) (xInt)) (zNil)))) (zNil))) (zNil))))))
      (yCons (uSet 3 nd (xStr))
      (yCons (uSet 4 nd (uTuple T.z_tuple (uCons (uLc [("_law_k", 6)] (.nm 6) nd tk (uRng1 T.z_range (uCons (xInt) (zNil))) (by rfl) (fun _ _ _ _ _ _ => (pg_name (i := 6) nd rfl (by first | exact Or.inl rfl | exact Or.inr rfl))) (fun _ _ _ _ _ _ _ q => kNil) (fun _ _ _ _ _ _ _ q => uAdd (uAdd (xStr) (uIx (uV 3) (uDiv (uV 6) (xInt)))) (uIx (uV 3) (uMod (uInt T.z_int (uCons (uV 6) (zNil))) (xInt))))) (zNil))))
      (yCons (uSet 0 nd (uAdd (uV 0) (xLst (uCons (uLen T.z_len (uCons (uCall c_names_text hr (Psg.of tk) (uCons (uV 4) (zNil))) (zNil))) (uCons (uEq hr (uCall c_read_names hr (Psg.of tk) (uCons (uCall c_names_text hr (Psg.of tk) (uCons (uV 4) (zNil))) (zNil))) (uV 4)) (zNil))))))
      (yOne (yRet (uCall c_law_same hr (Psg.of tk) (uCons (uV 0) (uCons (uAdd (uV 1) (xLst (uCons (xInt) (uCons (xBl) (zNil))))) (zNil))))))))))))))))))
theorem ok_law_by_hand_right {P : Program} {w : World} {K : PySem.W.Frag} {mg : Str → Option Value} {base : Heap} (T : Txt K mg) (dd : Dfd K mg "_law_by_hand_right" s_law_by_hand_right) (c_names_text : Cal P w K mg base "names_text" s_names_text 1 ["names"] (f_names_text)) (c_read_names : Cal P w K mg base "read_names" s_read_names 2 ["text"] (f_read_names)) (c_turns_text : Cal P w K mg base "turns_text" s_turns_text 2 ["turns"] (f_turns_text)) (c_read_turns : Cal P w K mg base "read_turns" s_read_turns 3 ["text"] (f_read_turns)) (c_law_same : Cal P w K mg base "_law_same" s_law_same 7 ["_law_got", "_law_due_so"] (f_law_same 6)) (c_law_heard : Cal P w K mg base "_law_heard" s_law_heard 4 ["_law_door", "_law_word_so"] (f_law_heard)) : Cal P w K mg base "_law_by_hand_right" s_law_by_hand_right 8 [] f_law_by_hand_right := by
  obtain ⟨f, fd, F, g⟩ := dd.ex
  have h := fn_ok (P := P) (w := w) (K := K) (mg := mg) (base := base) (x := "_law_by_hand_right") (qual := "_law_by_hand_right") (params := defArgs s_law_by_hand_right) (body := defBody s_law_by_hand_right) (scope := defScope s_law_by_hand_right) (dvs := []) (kws := []) (f := f) (fd := fd) (N := ["_law_got", "_law_due_so", "_law_bad_so", "_law_letters_so", "_law_wide_so", "_law_own", "_law_k"]) (ps := []) (n := 0) (k := 7) (m := m_law_by_hand_right) F sc_law_by_hand_right rfl (fun cdv A outer s H E hr tk => bd_law_by_hand_right T c_names_text c_read_names c_turns_text c_read_turns c_law_same c_law_heard hr tk)
  exact ⟨f, fd, F, h, g, F.bindsN fun _ _ _ _ _ _ us hl => match us, hl with | [], _ => rfl⟩
abbrev s_law_right : Stmt := top 34
theorem sc_law_right : FnScope ["_law_box_here", "_law_tags_so", "_law_mixed_so", "_law_some_so", "_law_own", "_law_turn", "_law_tag_so"] ["_law_box_here"] (defScope s_law_right) := ⟨rfl, rfl, rfl, by decide +kernel, rfl, by decide +kernel, by decide +kernel⟩
theorem bd_law_right {P : Program} {w : World} {K : PySem.W.Frag} {mg : Str → Option Value} {base : Heap} (T : Txt K mg) (c_law_take : Cal P w K mg base "_law_take" s_law_take 1 ["_law_box_here", "_law_below_so"] (f_law_take)) (c_law_of : Cal P w K mg base "_law_of" s_law_of 2 ["_law_box_here", "_law_pool_so"] (f_law_of)) (c_law_tags : Cal P w K mg base "_law_tags" s_law_tags 3 ["_law_box_here", "_law_many_so"] (f_law_tags)) (c_law_case_right : Cal P w K mg base "_law_case_right" s_law_case_right 8 ["_law_box_here", "_law_tags_so", "_law_own"] (f_law_case_right)) {f : Addr} {cdv : Value} {A : Around} {outer : List PySem.Env} {s : Shared} {H : Hp} {E : XK} (hr : Room 8 (A.deeper (PyProof.Rows.envOfC "_law_right" (defScope s_law_right) s.heap.objs.size f cdv))) (tk : Takes (cxOf (L2.CX P w) P w K mg base ["_law_box_here", "_law_tags_so", "_law_mixed_so", "_law_some_so", "_law_own", "_law_turn", "_law_tag_so"] "_law_right" (defScope s_law_right) f cdv A outer s H E) (WE E)) : PSs (cxOf (L2.CX P w) P w K mg base ["_law_box_here", "_law_tags_so", "_law_mixed_so", "_law_some_so", "_law_own", "_law_turn", "_law_tag_so"] "_law_right" (defScope s_law_right) f cdv A outer s H E) (defBody s_law_right) (tS K mg (WE E) m_law_right) := by
  have nd := sc_law_right.nd
  exact yCons (uSet 1 nd (uCall c_law_tags hr (Psg.of tk) (uCons (uV 0) (uCons (uAdd (xInt) (uCall c_law_take hr (Psg.of tk) (uCons (uV 0) (uCons (xInt) (zNil))))) (zNil)))))
      (yCons (uSet 2 nd (uTuple T.z_tuple (uCons (uLc [("_law_turn", 5)] (.nm 5) nd tk (uRng1 T.z_range (uCons (uCall c_law_take hr (Psg.of tk) (uCons (uV 0) (uCons (xInt) (zNil)))) (zNil))) (by rfl) (fun _ _ _ _ _ _ => (pg_name (i := 5) nd rfl (by first | exact Or.inl rfl | exact Or.inr rfl))) (fun _ _ _ _ _ _ _ q => kNil) (fun _ _ _ _ _ _ _ q => uCall c_law_of hr q (uCons (uV 0) (uCons (uV 1) (zNil))))) (zNil))))
      (yCons (uSet 3 nd (xSl (uSortS T.z_sorted (uCons (uV 1) (zNil))) (oNo) (oYes (uCall c_law_take hr (Psg.of tk) (uCons (uV 0) (uCons (xInt) (zNil)))))))
      (yCons (uSet 4 nd (uTuple T.z_tuple (uCons (uLc [("_law_tag_so", 6)] (.nm 6) nd tk (jSeq (uV 3)) (by rfl) (fun _ _ _ _ _ _ => (pg_name (i := 6) nd rfl (by first | exact Or.inl rfl | exact Or.inr rfl))) (fun _ _ _ _ _ _ _ q => kNil) (fun _ _ _ _ _ _ _ q => xTup (uCons (uV 6) (uCons (uCall c_law_of hr q (uCons (uV 0) (uCons (xLst (uCons (xInt) (uCons (xInt) (uCons (uCall c_law_take hr q (uCons (uV 0) (uCons (xInt) (zNil)))) (uCons (uSub (uPow (xInt) (xInt)) (uCall c_law_take hr q (uCons (uV 0) (uCons (xInt) (zNil))))) (zNil)))))) (zNil)))) (zNil))))) (zNil))))
      (yOne (yRet (uCall c_law_case_right hr (Psg.of tk) (uCons (uV 0) (uCons (uV 2) (uCons (uV 4) (zNil))))))))))
theorem ok_law_right {P : Program} {w : World} {K : PySem.W.Frag} {mg : Str → Option Value} {base : Heap} (T : Txt K mg) (dd : Dfd K mg "_law_right" s_law_right) (c_law_take : Cal P w K mg base "_law_take" s_law_take 1 ["_law_box_here", "_law_below_so"] (f_law_take)) (c_law_of : Cal P w K mg base "_law_of" s_law_of 2 ["_law_box_here", "_law_pool_so"] (f_law_of)) (c_law_tags : Cal P w K mg base "_law_tags" s_law_tags 3 ["_law_box_here", "_law_many_so"] (f_law_tags)) (c_law_case_right : Cal P w K mg base "_law_case_right" s_law_case_right 8 ["_law_box_here", "_law_tags_so", "_law_own"] (f_law_case_right)) : Cal P w K mg base "_law_right" s_law_right 9 ["_law_box_here"] f_law_right := by
  obtain ⟨f, fd, F, g⟩ := dd.ex
  have h := fn_ok (P := P) (w := w) (K := K) (mg := mg) (base := base) (x := "_law_right") (qual := "_law_right") (params := defArgs s_law_right) (body := defBody s_law_right) (scope := defScope s_law_right) (dvs := []) (kws := []) (f := f) (fd := fd) (N := ["_law_box_here", "_law_tags_so", "_law_mixed_so", "_law_some_so", "_law_own", "_law_turn", "_law_tag_so"]) (ps := ["_law_box_here"]) (n := 1) (k := 8) (m := m_law_right) F sc_law_right rfl (fun cdv A outer s H E hr tk => bd_law_right T c_law_take c_law_of c_law_tags c_law_case_right hr tk)
  exact ⟨f, fd, F, h, g, F.bindsN fun _ _ _ _ _ _ us hl => match us, hl with | [_], _ => rfl⟩
abbrev s_law : Stmt := top 35
theorem sc_law : FnScope ["_law_script", "_law_cells_here", "_law_k", "_law_box_here", "_law_turn"] ["_law_script"] (defScope s_law) := ⟨rfl, rfl, rfl, by decide +kernel, rfl, by decide +kernel, by decide +kernel⟩
theorem bd_law {P : Program} {w : World} {K : PySem.W.Frag} {mg : Str → Option Value} {base : Heap} (T : Txt K mg) (c_law_box : Cal P w K mg base "_law_box" s_law_box 1 ["_law_script", "_law_k"] (f_law_box)) (c_law_cells : Cal P w K mg base "_law_cells" s_law_cells 1 ["_law_script", "_law_most_so"] (f_law_cells)) (c_law_by_hand_right : Cal P w K mg base "_law_by_hand_right" s_law_by_hand_right 8 [] (f_law_by_hand_right)) (c_law_right : Cal P w K mg base "_law_right" s_law_right 9 ["_law_box_here"] (f_law_right)) {f : Addr} {cdv : Value} {A : Around} {outer : List PySem.Env} {s : Shared} {H : Hp} {E : XK} (hr : Room 9 (A.deeper (PyProof.Rows.envOfC "law" (defScope s_law) s.heap.objs.size f cdv))) (tk : Takes (cxOf (L2.CX P w) P w K mg base ["_law_script", "_law_cells_here", "_law_k", "_law_box_here", "_law_turn"] "law" (defScope s_law) f cdv A outer s H E) (WE E)) : PSs (cxOf (L2.CX P w) P w K mg base ["_law_script", "_law_cells_here", "_law_k", "_law_box_here", "_law_turn"] "law" (defScope s_law) f cdv A outer s H E) (defBody s_law) (tS K mg (WE E) m_law) := by
  have nd := sc_law.nd
  have pso : PassesOwn (model P w) (A.deeper (PyProof.Rows.envOfC "law" (defScope s_law) s.heap.objs.size f cdv)) (PyProof.Rows.envOfC "law" (defScope s_law) s.heap.objs.size f cdv) (cxOf (L2.CX P w) P w K mg base ["_law_script", "_law_cells_here", "_law_k", "_law_box_here", "_law_turn"] "law" (defScope s_law) f cdv A outer s H E).xe := passes_of (X := cxOf (L2.CX P w) P w K mg base ["_law_script", "_law_cells_here", "_law_k", "_law_box_here", "_law_turn"] "law" (defScope s_law) f cdv A outer s H E) rfl
  exact yCons (yIf (wNot (tVal (uCall0 c_law_by_hand_right hr (Psg.of tk)))) (yOne (yRet (xBl))) (yNil))
      (yCons (uSet 1 nd (uCall c_law_cells hr (Psg.of tk) (uCons (uV 0) (uCons (xInt) (zNil)))))
      (yCons (uFor (.nm 2) pso (uRng1 T.z_range (uCons (uLen T.z_len (uCons (uV 1) (zNil))) (zNil))) (pg_name (i := 2) nd rfl (by first | exact Or.inl rfl | exact Or.inr rfl)) (yCons (uSet 3 nd (uCall c_law_box hr (Psg.of tk) (uCons (uV 1) (uCons (uV 2) (zNil)))))
      (yOne (yIf (wNot (tVal (uAll T.z_all (uCons (uLc [("_law_turn", 4)] (.nm 4) nd tk (uRng1 T.z_range (uCons (xInt) (zNil))) (by rfl) (fun _ _ _ _ _ _ => (pg_name (i := 4) nd rfl (by first | exact Or.inl rfl | exact Or.inr rfl))) (fun _ _ _ _ _ _ _ q => kNil) (fun _ _ _ _ _ _ _ q => uCall c_law_right hr q (uCons (uV 3) (zNil)))) (zNil))))) (yOne (yRet (xBl))) (yNil)))))
      (yOne (yRet (xBl)))))
theorem ok_law {P : Program} {w : World} {K : PySem.W.Frag} {mg : Str → Option Value} {base : Heap} (T : Txt K mg) (dd : Dfd K mg "law" s_law) (c_law_box : Cal P w K mg base "_law_box" s_law_box 1 ["_law_script", "_law_k"] (f_law_box)) (c_law_cells : Cal P w K mg base "_law_cells" s_law_cells 1 ["_law_script", "_law_most_so"] (f_law_cells)) (c_law_by_hand_right : Cal P w K mg base "_law_by_hand_right" s_law_by_hand_right 8 [] (f_law_by_hand_right)) (c_law_right : Cal P w K mg base "_law_right" s_law_right 9 ["_law_box_here"] (f_law_right)) : Cal P w K mg base "law" s_law 10 ["_law_script"] f_law := by
  obtain ⟨f, fd, F, g⟩ := dd.ex
  have h := fn_okR (P := P) (w := w) (K := K) (mg := mg) (base := base) (x := "law") (qual := "law") (params := defArgs s_law) (body := defBody s_law) (scope := defScope s_law) (dvs := []) (kws := []) (f := f) (fd := fd) (N := ["_law_script", "_law_cells_here", "_law_k", "_law_box_here", "_law_turn"]) (ps := ["_law_script"]) (n := 1) (k := 9) (m := m_law) F sc_law rfl (fun cdv A outer s H E hr tk => bd_law T c_law_box c_law_cells c_law_by_hand_right c_law_right hr tk)
  exact ⟨f, fd, F, h, g, F.bindsN fun _ _ _ _ _ _ us hl => match us, hl with | [_], _ => rfl⟩
end K20
end S_K20Ok
section S_K20M1
set_option Elab.async false
set_option linter.all false
set_option maxRecDepth 100000
set_option maxHeartbeats 0
namespace K20
open PySem L2 T
theorem by_hand : f_law_by_hand_right [] [] = .ok (.bl true) [] := by kernel_rfl
end K20
end S_K20M1
section S_K20M2
set_option Elab.async false
set_option linter.all false
set_option maxRecDepth 100000
set_option maxHeartbeats 4000000
namespace K20
open PySem L2 T
theorem take_ok {S : Sto} {n : Nat} {a b c m : Int} (h : S[n]? = some (bx a b c)) (c0 : 0 ≤ c) (c1 : c < 2 ^ 62) (m0 : 0 < m) (m1 : m < 1073741824) :
   ∃ v a' c' : Int, f_law_take [.cell n, .int m] S = .ok (.int v) (S.set n (bx a' b c')) ∧ 0 ≤ v ∧ v < m ∧ c ≤ c' ∧ c' ≤ c + 1 := by
  unfold f_law_take m_law_take
  have e0 := (ix_bx h).1
  have ix0 : ixN (0+1+1+1) 0 = some 0 := rfl
  have ix2 : ixN (0+1+1+1) 2 = some 2 := rfl
  by_cases ha : 0 < a
  · refine ⟨a % m, a / m, c, ?_, Int.emod_nonneg _ (by omega), Int.emod_lt_of_pos _ m0, Int.le_refl _, by omega⟩
    (simp only [fnOf, fnEnd, sSeq, sIf, sRet, sRetN, sNext, sDo, sAsg, gN, gTg, tgE, isB, cAnd, cOr, cNot, sAnd, sOr, sNot, sIfx, sTup, sLst, sChain, sOp, sV, sC, aNil, aCons, sCall, sF, sCallK, perm, bind_ok, bind_exc, bind_bad, ofE_ok, ofE_exc, entry, List.length_cons, List.length_nil, List.map_cons, List.map_nil, Nat.reduceAdd, Nat.reduceSub, Nat.zero_add, List.reduceReplicate, List.cons_append, List.nil_append, List.getElem?_cons_zero, List.getElem?_cons_succ, List.set_cons_zero, List.set_cons_succ, if_true, if_false, ite_true, ite_false, reduceIte, List.zip_cons_cons, List.zip_nil_left, List.zip_nil_right, List.foldl_cons, List.foldl_nil, ↓reduceIte])
    simp only [e0, h, e_gt, decide_eq_true ha, bind_ok, ofE_ok, if_true, e_int, e_mod m0, e_div (And.intro m0 m1), List.getElem?_cons_zero, List.getElem?_cons_succ, List.set_cons_zero, e_gIx0 h, List.set_cons_succ]
    rw [fin_ok (List.length_set ..)]
  · have h2 := set_bx (y := bx a b (c + 1)) h
    have e1 := ix_bx h2
    have w1 : ∀ x, fMulA (S.set n (bx a b (c+1))) (.int x) (.int (39373 + (c + 1))) = .ok (.int (x * (39373 + (c + 1)))) (S.set n (bx a b (c+1))) := fun x => e_mulR ⟨by omega, by omega⟩
    have w2 : ∀ x, fMulA (S.set n (bx a b (c+1))) (.int 48271) (.int x) = .ok (.int (48271 * x)) (S.set n (bx a b (c+1))) := fun x => e_mulL ⟨by decide, by decide⟩
    have w3 : ∀ x, fMulA (S.set n (bx a b (c+1))) (.int x) (.int 48271) = .ok (.int (x * 48271)) (S.set n (bx a b (c+1))) := fun x => e_mulR ⟨by decide, by decide⟩
    have w4 : ∀ x y, fMulA (S.set n (bx a b (c+1))) (.int x) (.int (y % 40009 + 7)) = .ok (.int (x * (y % 40009 + 7))) (S.set n (bx a b (c+1))) := fun x y => e_mulR ⟨by omega, by omega⟩
    suffices z : ∃ z : Int, f_law_take [.cell n, .int m] S = .ok (.int (z % m)) (S.set n (bx a b (c + 1))) by
      obtain ⟨z, e⟩ := z
      exact ⟨_, a, c + 1, e, Int.emod_nonneg _ (by omega), Int.emod_lt_of_pos _ m0, by omega, Int.le_refl _⟩
    unfold f_law_take m_law_take
    apply Exists.intro
    (simp only [fnOf, fnEnd, sSeq, sIf, sRet, sRetN, sNext, sDo, sAsg, gN, gTg, tgE, isB, cAnd, cOr, cNot, sAnd, sOr, sNot, sIfx, sTup, sLst, sChain, sOp, sV, sC, aNil, aCons, sCall, sF, sCallK, perm, bind_ok, bind_exc, bind_bad, ofE_ok, ofE_exc, entry, List.length_cons, List.length_nil, List.map_cons, List.map_nil, Nat.reduceAdd, Nat.reduceSub, Nat.zero_add, List.reduceReplicate, List.cons_append, List.nil_append, List.getElem?_cons_zero, List.getElem?_cons_succ, List.set_cons_zero, List.set_cons_succ, if_true, if_false, ite_true, ite_false, reduceIte, List.zip_cons_cons, List.zip_nil_left, List.zip_nil_right, List.foldl_cons, List.foldl_nil, ↓reduceIte])
    simp only [e0, (ix_bx h).2.2, e_gt, decide_eq_false ha, bind_ok, ofE_ok, if_false, Bool.false_eq_true, e_int, e_add, List.getElem?_cons_zero, List.getElem?_cons_succ, e_gIx2 h, e1.1, e1.2.1, e1.2.2, w1, w2, w3, w4, e_mod (show (0:Int) < 2147483647 by decide), e_mod (show (0:Int) < 40009 by decide), List.set_cons_zero, List.set_cons_succ, e_div (show (0:Int) < 1000003 ∧ (1000003 : Int) < 1073741824 by decide), e_mod (show (0:Int) < 2147483629 by decide), e_mod (show (0:Int) < 2147483587 by decide), e_div (show (0:Int) < 64 ∧ (64 : Int) < 1073741824 by decide), e_mod m0, List.length_set, fin_ok]
    exact rfl
end K20
end S_K20M2
section S_K20M3
set_option Elab.async false
set_option linter.all false
set_option maxRecDepth 100000
set_option maxHeartbeats 4000000
namespace K20
open PySem L2 T
def isL (c : Nat) : Bool := decide (c ∈ ("abcdefghijklmnopqrstuvwxyz" : Str).cps.toList)
def isD (c : Nat) : Bool := decide (c ∈ ("0123456789" : Str).cps.toList)
def nmB (x : Str) : Bool := decide ((1 : Int) ≤ x.length) && (decide ((x.length : Int) ≤ 8) && x.cps.toList.all isL)
theorem is_name_ok {x : Str} {S : Sto} (hx : x.length ≤ lim) : f_is_name [.str x] S = .ok (.bl (nmB x)) S := by
  have hl : x.cps.toList.length ≤ lim := by rw [Array.length_toList]; exact hx
  unfold f_is_name m_is_name
  have e1 : sIsi xt "str" (sV 0) [some (D.str x), none] S = .ok (.bl true) S := sIsi_ok (rfl : sV 0 [some (D.str x), none] S = .ok (.str x) S) rfl
  have e2 : sLc [1] (iStrs (sV 0)) (.nm 1) cYes (sOp fIn (sV 1) (sC (.str "abcdefghijklmnopqrstuvwxyz"))) [some (D.str x), none] S = .ok (.lst (x.cps.toList.map fun c => .bl (isL c))) S :=
    sLc_ok (rfl : _ = Res.ok (signs x) S) (lc_map (f := fun c => D.str ⟨#[c]⟩) _ (fun c _ => ⟨_, rfl, rfl, rfl⟩) hl)
  (simp only [fnOf, fnEnd, sSeq, sIf, sRet, sRetN, sNext, sDo, sAsg, gN, gTg, tgE, isB, cAnd, cOr, cNot, sAnd, sOr, sNot, sIfx, sTup, sLst, sChain, sOp, sV, sC, aNil, aCons, sCall, sF, sCallK, perm, bind_ok, bind_exc, bind_bad, ofE_ok, ofE_exc, entry, List.length_cons, List.length_nil, List.map_cons, List.map_nil, Nat.reduceAdd, Nat.reduceSub, Nat.zero_add, List.reduceReplicate, List.cons_append, List.nil_append, List.getElem?_cons_zero, List.getElem?_cons_succ, List.set_cons_zero, List.set_cons_succ, if_true, if_false, ite_true, ite_false, reduceIte, List.zip_cons_cons, List.zip_nil_left, List.zip_nil_right, List.foldl_cons, List.foldl_nil, ↓reduceIte])
  simp only [e1, bind_ok, len_str hx, e_le]
  unfold nmB
  generalize decide ((1 : Int) ≤ x.length) = b1
  generalize decide ((x.length : Int) ≤ 8) = b2
  cases b1 <;> cases b2 <;> (simp only [bind_ok, bind_exc, ofE_ok, ofE_exc, Bool.not_true, Bool.not_false, Bool.false_eq_true, Bool.true_and, Bool.false_and, Bool.and_true, Bool.and_false, if_true, if_false, ite_true, ite_false, fin_ok, all_map, List.set_cons_zero, List.set_cons_succ, List.getElem?_cons_zero, List.getElem?_cons_succ])
  rw [e2]
  (simp only [bind_ok, bind_exc, ofE_ok, ofE_exc, Bool.not_true, Bool.not_false, Bool.false_eq_true, Bool.true_and, Bool.false_and, Bool.and_true, Bool.and_false, if_true, if_false, ite_true, ite_false, fin_ok, all_map, List.set_cons_zero, List.set_cons_succ, List.getElem?_cons_zero, List.getElem?_cons_succ])
def Asc (x : Str) : Prop := ∀ c ∈ x.cps.toList, c < 128
theorem Asc.ok {x : Str} (h : Asc x) : PyData.strOk x = true := by
  unfold PyData.strOk
  rw [Array.all_eq_true_iff_forall_mem]
  intro c hc
  have := h c (Array.mem_toList_iff.mpr hc)
  exact decide_eq_true (by omega)
theorem asc_sign {c : Nat} (h : c < 128) : Asc ⟨#[c]⟩ := by
  intro d hd
  simp at hd
  omega
theorem fil_empty {p : Nat → Bool} : ∀ l : List Nat, (l.filter fun c => !p c).isEmpty = l.all p
  | [] => rfl
  | c :: l => by
    rw [List.filter_cons, List.all_cons, ← fil_empty l]
    cases p c <;> rfl
theorem is_tag_ok {x : Str} {S : Sto} (hx : x.length ≤ lim) (ha : Asc x) : f_law_is_tag [.str x] S = .ok (.bl (nmB x)) S := by
  have hl : x.cps.toList.length ≤ lim := by rw [Array.length_toList]; exact hx
  unfold f_law_is_tag m_law_is_tag
  have e2 : sLc [1] (iStrs (sV 0)) (.nm 1) (isB (sOp fNotIn (sV 1) (sC (.str "abcdefghijklmnopqrstuvwxyz")))) (sV 1) [some (D.str x), none] S = .ok (.lst ((x.cps.toList.filter fun c => !isL c).map fun c => D.str ⟨#[c]⟩)) S :=
    sLc_ok (rfl : _ = Res.ok (signs x) S) (by
      have z := lc_fil (t := .nm 1) (c := isB (sOp fNotIn (sV 1) (sC (.str "abcdefghijklmnopqrstuvwxyz")))) (e := sV 1) (env := wipeE [some (D.str x), none] [1]) (S := S) (f := fun c => D.str ⟨#[c]⟩) (p := fun c => !isL c) (g := fun c => D.str ⟨#[c]⟩) x.cps.toList [] (fun c _ => ⟨_, rfl, rfl, fun _ => rfl⟩) (by simpa using hl)
      exact z)
  have e3 : ((x.cps.toList.filter fun c => !isL c).map fun c => D.str ⟨#[c]⟩).isEmpty = x.cps.toList.all isL := by rw [List.isEmpty_map, fil_empty]
  have e4 : ∀ d ∈ (x.cps.toList.filter fun c => !isL c).map (fun c => D.str ⟨#[c]⟩), Pla S 20 d := fun d hd => by
    obtain ⟨c, hc, rfl⟩ := List.mem_map.mp hd
    exact .str (asc_sign (ha c (List.mem_filter.mp hc).1)).ok
  (simp only [fnOf, fnEnd, sSeq, sIf, sRet, sRetN, sNext, sDo, sAsg, gN, gTg, tgE, isB, cAnd, cOr, cNot, sAnd, sOr, sNot, sIfx, sTup, sLst, sChain, sOp, sV, sC, aNil, aCons, sCall, sF, sCallK, perm, bind_ok, bind_exc, bind_bad, ofE_ok, ofE_exc, entry, List.length_cons, List.length_nil, List.map_cons, List.map_nil, Nat.reduceAdd, Nat.reduceSub, Nat.zero_add, List.reduceReplicate, List.cons_append, List.nil_append, List.getElem?_cons_zero, List.getElem?_cons_succ, List.set_cons_zero, List.set_cons_succ, if_true, if_false, ite_true, ite_false, reduceIte, List.zip_cons_cons, List.zip_nil_left, List.zip_nil_right, List.foldl_cons, List.foldl_nil, ↓reduceIte])
  simp only [e2, bind_ok, len_str hx, e_lt, eq_nil e4, e3]
  unfold nmB
  rw [show decide ((1 : Int) ≤ x.length) = decide ((0 : Int) < x.length) from decide_eq_decide.mpr ⟨fun h => by omega, fun h => by omega⟩, show decide ((x.length : Int) ≤ 8) = decide ((x.length : Int) < 9) from decide_eq_decide.mpr ⟨fun h => by omega, fun h => by omega⟩]
  generalize decide ((0 : Int) < x.length) = b1
  generalize decide ((x.length : Int) < 9) = b2
  cases b1 <;> cases b2 <;> (simp only [bind_ok, bind_exc, ofE_ok, ofE_exc, Bool.not_true, Bool.not_false, Bool.false_eq_true, Bool.true_and, Bool.false_and, Bool.and_true, Bool.and_false, if_true, if_false, ite_true, ite_false, fin_ok, all_map, List.set_cons_zero, List.set_cons_succ, List.getElem?_cons_zero, List.getElem?_cons_succ])
  rw [e2]
  simp only [bind_ok, if_pos (Nat.zero_le lim), eq_nil e4, e3, ofE_ok]
  rw [fin_ok rfl]
/-! ### rows of names -/
theorem spl_in {Z : List Nat} : ∀ (l : List Nat) (k : Nat) (acc p : List Nat), p ∈ TL.spl Z k acc l → p.length ≤ acc.length + l.length ∧ ∀ c ∈ p, c ∈ acc ∨ c ∈ l
  | [], k, acc, p, h => by
    rw [TL.spl_nil, List.mem_singleton] at h
    subst h
    exact ⟨by simp, fun c hc => .inl hc⟩
  | c :: r, 0, acc, p, h => by
    unfold TL.spl at h
    split at h
    · rcases List.mem_cons.mp h with rfl | h
      · exact ⟨by omega, fun c hc => .inl hc⟩
      · obtain ⟨h1, h2⟩ := spl_in r _ _ _ h
        refine ⟨by simp at h1 ⊢; omega, fun d hd => .inr ?_⟩
        rcases h2 d hd with z | z
        · cases z
        · exact List.mem_cons_of_mem _ z
    · obtain ⟨h1, h2⟩ := spl_in r _ _ _ h
      refine ⟨by simp at h1 ⊢; omega, fun d hd => ?_⟩
      rcases h2 d hd with z | z
      · rcases List.mem_append.mp z with z | z
        · exact .inl z
        · rw [List.mem_singleton] at z
          subst z
          exact .inr List.mem_cons_self
      · exact .inr (List.mem_cons_of_mem _ z)
  | c :: r, k + 1, acc, p, h => by
    unfold TL.spl at h
    obtain ⟨h1, h2⟩ := spl_in r _ _ _ h
    refine ⟨by simp; omega, fun d hd => ?_⟩
    rcases h2 d hd with z | z
    · exact .inl z
    · exact .inr (List.mem_cons_of_mem _ z)
theorem spl_count {Z : List Nat} : ∀ (l : List Nat) (k : Nat) (acc : List Nat), (TL.spl Z k acc l).length ≤ l.length + 1
  | [], k, acc => by rw [TL.spl_nil]; simp
  | c :: r, 0, acc => by
    unfold TL.spl
    split
    · have := spl_count (Z := Z) r (Z.length - 1) []
      simp; omega
    · have := spl_count (Z := Z) r 0 (acc ++ [c])
      simp; omega
  | c :: r, k + 1, acc => by
    unfold TL.spl
    have := spl_count (Z := Z) r k acc
    simp; omega
def words (x : Str) : List Str := splitS x " "
theorem word_in {x w : Str} (h : w ∈ words x) : w.length ≤ x.length ∧ ∀ c ∈ w.cps.toList, c ∈ x.cps.toList := by
  unfold words splitS at h
  obtain ⟨p, hp, rfl⟩ := List.mem_map.mp h
  obtain ⟨h1, h2⟩ := spl_in _ _ _ _ hp
  refine ⟨?_, fun c hc => ?_⟩
  · show p.toArray.size ≤ _
    simp at h1 ⊢
    exact h1
  · rcases h2 c hc with z | z
    · cases z
    · exact z
theorem words_count (x : Str) : (words x).length ≤ x.length + 1 := by
  unfold words splitS
  rw [List.length_map]
  exact Nat.le_trans (spl_count _ _ _) (by simp [TL.tl]; exact Nat.le_refl _)
abbrev sts (l : List Str) : List D := l.map D.str
theorem split_ok {x : Str} {S : Sto} (hx : x.length ≤ lim) : mSplit S (.str x) [.str " "] = .ok (.lst (sts (words x))) S := if_pos (by
  rw [decide_eq_true hx]
  decide +kernel)
def wds (x : Str) : List Str := if x = "-" then [] else words x
theorem wd_in {x w : Str} (h : w ∈ wds x) : w.length ≤ x.length ∧ ∀ c ∈ w.cps.toList, c ∈ x.cps.toList := by
  unfold wds at h
  split at h
  · cases h
  · exact word_in h
theorem wds_count (x : Str) : (wds x).length ≤ x.length + 1 := by
  unfold wds
  split
  · simp
  · exact words_count x
theorem read_names_ok {x : Str} {S : Sto} (hx : x.length < lim) : f_read_names [.str x] S = if (wds x).all nmB then .ok (.tup (sts (wds x))) S else .exc "BadText" [] S := by
  have hx' : x.length ≤ lim := Nat.le_of_lt hx
  unfold f_read_names m_read_names
  have e2 : ∀ env0 : Option D, sLc [2] (iSeq (sV 1)) (.nm 2) cYes (sCall f_is_name (aCons (sV 2) aNil)) [env0, some (.lst (sts (wds x))), none] S = .ok (.lst ((wds x).map fun w => .bl (nmB w))) S := fun env0 =>
    sLc_ok (rfl : _ = Res.ok (sts (wds x)) S) (lc_map (f := D.str) _ (fun w hw => ⟨_, rfl, rfl, by
      show f_is_name [.str w] S = _
      exact is_name_ok (Nat.le_trans (wd_in hw).1 hx')⟩) (Nat.le_trans (wds_count x) hx))
  have e1 : fNe S (.str x) (.str "-") = .ok (.bl (!decide (x = "-"))) S := rfl
  have e3 : sIfx (isB (sOp fNe (sV 0) (sC (.str "-")))) (sM "str" mSplit (sV 0) (aCons (sC (.str " ")) aNil)) (sLst aNil) [some (.str x), none, none] S = .ok (.lst (sts (wds x))) S := by
    (simp only [fnOf, fnEnd, sSeq, sIf, sRet, sRetN, sNext, sDo, sAsg, gN, gTg, tgE, isB, cAnd, cOr, cNot, sAnd, sOr, sNot, sIfx, sTup, sLst, sChain, sOp, sV, sC, aNil, aCons, sCall, sF, sCallK, perm, bind_ok, bind_exc, bind_bad, ofE_ok, ofE_exc, entry, List.length_cons, List.length_nil, List.map_cons, List.map_nil, Nat.reduceAdd, Nat.reduceSub, Nat.zero_add, List.reduceReplicate, List.cons_append, List.nil_append, List.getElem?_cons_zero, List.getElem?_cons_succ, List.set_cons_zero, List.set_cons_succ, if_true, if_false, ite_true, ite_false, reduceIte, List.zip_cons_cons, List.zip_nil_left, List.zip_nil_right, List.foldl_cons, List.foldl_nil, ↓reduceIte])
    simp only [e1, bind_ok]
    unfold wds
    by_cases h : x = "-"
    · simp only [decide_eq_true h, Bool.not_true, Bool.false_eq_true, if_false, if_pos h, if_pos (Nat.zero_le lim)]
      rfl
    · simp only [decide_eq_false h, Bool.not_false, if_true, if_neg h]
      exact split_ok hx'
  refine (fnOf_eq (by rfl)).trans ?_
  show fnEnd S.length (sSeq _ _ [some (.str x), none, none] S) = _
  rw [sSeq_nx (sAsg_gN e3)]
  show fnEnd S.length (sSeq _ _ [some (.str x), some (.lst (sts (wds x))), none] S) = _
  (simp only [fnOf, fnEnd, sSeq, sIf, sRet, sRetN, sNext, sDo, sAsg, gN, gTg, tgE, isB, cAnd, cOr, cNot, sAnd, sOr, sNot, sIfx, sTup, sLst, sChain, sOp, sV, sC, aNil, aCons, sCall, sF, sCallK, perm, bind_ok, bind_exc, bind_bad, ofE_ok, ofE_exc, entry, List.length_cons, List.length_nil, List.map_cons, List.map_nil, Nat.reduceAdd, Nat.reduceSub, Nat.zero_add, List.reduceReplicate, List.cons_append, List.nil_append, List.getElem?_cons_zero, List.getElem?_cons_succ, List.set_cons_zero, List.set_cons_succ, if_true, if_false, ite_true, ite_false, reduceIte, List.zip_cons_cons, List.zip_nil_left, List.zip_nil_right, List.foldl_cons, List.foldl_nil, ↓reduceIte])
  simp only [e2, bind_ok, all_map]
  cases (wds x).all nmB
  · (simp only [bind_ok, bind_exc, ofE_ok, ofE_exc, Bool.not_true, Bool.not_false, Bool.false_eq_true, Bool.true_and, Bool.false_and, Bool.and_true, Bool.and_false, if_true, if_false, ite_true, ite_false, fin_ok, all_map, List.set_cons_zero, List.set_cons_succ, List.getElem?_cons_zero, List.getElem?_cons_succ])
    simp only [sRaise, if_true]
  · (simp only [bind_ok, bind_exc, ofE_ok, ofE_exc, Bool.not_true, Bool.not_false, Bool.false_eq_true, Bool.true_and, Bool.false_and, Bool.and_true, Bool.and_false, if_true, if_false, ite_true, ite_false, fin_ok, all_map, List.set_cons_zero, List.set_cons_succ, List.getElem?_cons_zero, List.getElem?_cons_succ])
    simp only [bTuple, rd, ofE_ok]
    rw [fin_ok rfl]
theorem tags_in_ok {x : Str} {S : Sto} (hx : x.length < lim) (ha : Asc x) : f_law_tags_in [.str x] S = .ok (if (wds x).all nmB then .tup (sts (wds x)) else .lst [.str "bad", .bl true]) S := by
  have hx' : x.length ≤ lim := Nat.le_of_lt hx
  unfold f_law_tags_in m_law_tags_in
  have aw : ∀ w ∈ wds x, Asc w := fun w hw c hc => ha c ((wd_in hw).2 c hc)
  have e2 : sLc [2] (iSeq (sV 1)) (.nm 2) (cNot (isB (sCall f_law_is_tag (aCons (sV 2) aNil)))) (sV 2) [some (.str x), some (.lst (sts (wds x))), none] S = .ok (.lst (((wds x).filter fun w => !nmB w).map D.str)) S :=
    sLc_ok (rfl : _ = Res.ok (sts (wds x)) S) (by
      have z := lc_fil (t := .nm 2) (c := cNot (isB (sCall f_law_is_tag (aCons (sV 2) aNil)))) (e := sV 2) (env := wipeE [some (.str x), some (.lst (sts (wds x))), none] [2]) (S := S) (f := D.str) (p := fun w => !nmB w) (g := D.str) (wds x) [] (fun w hw => ⟨_, rfl, by
        show ((f_law_is_tag [.str w] S).bind _).bind _ = _
        rw [is_tag_ok (Nat.le_trans (wd_in hw).1 hx') (aw w hw)]
        rfl, fun _ => rfl⟩) (by simpa using Nat.le_trans (wds_count x) hx)
      exact z)
  have e1 : fEq S (.str x) (.str "-") = .ok (.bl (decide (x = "-"))) S := rfl
  have e3 : sIfx (isB (sOp fEq (sV 0) (sC (.str "-")))) (sLst aNil) (sM "str" mSplit (sV 0) (aCons (sC (.str " ")) aNil)) [some (.str x), none, none] S = .ok (.lst (sts (wds x))) S := by
    (simp only [fnOf, fnEnd, sSeq, sIf, sRet, sRetN, sNext, sDo, sAsg, gN, gTg, tgE, isB, cAnd, cOr, cNot, sAnd, sOr, sNot, sIfx, sTup, sLst, sChain, sOp, sV, sC, aNil, aCons, sCall, sF, sCallK, perm, bind_ok, bind_exc, bind_bad, ofE_ok, ofE_exc, entry, List.length_cons, List.length_nil, List.map_cons, List.map_nil, Nat.reduceAdd, Nat.reduceSub, Nat.zero_add, List.reduceReplicate, List.cons_append, List.nil_append, List.getElem?_cons_zero, List.getElem?_cons_succ, List.set_cons_zero, List.set_cons_succ, if_true, if_false, ite_true, ite_false, reduceIte, List.zip_cons_cons, List.zip_nil_left, List.zip_nil_right, List.foldl_cons, List.foldl_nil, ↓reduceIte])
    simp only [e1, bind_ok]
    unfold wds
    by_cases h : x = "-"
    · simp only [decide_eq_true h, if_true, if_pos h, if_pos (Nat.zero_le lim)]
      rfl
    · simp only [decide_eq_false h, Bool.false_eq_true, if_false, if_neg h]
      exact split_ok hx'
  have e4 : ∀ d ∈ ((wds x).filter fun w => !nmB w).map D.str, Pla S 20 d := fun d hd => by
    obtain ⟨w, hw, rfl⟩ := List.mem_map.mp hd
    exact .str (aw w (List.mem_filter.mp hw).1).ok
  have e5 : (((wds x).filter fun w => !nmB w).map D.str).isEmpty = (wds x).all nmB := by
    rw [List.isEmpty_map]
    generalize wds x = l
    induction l with
    | nil => rfl
    | cons w l ih =>
      rw [List.filter_cons, List.all_cons, ← ih]
      cases nmB w <;> rfl
  refine (fnOf_eq (by rfl)).trans ?_
  show fnEnd S.length (sSeq _ _ [some (.str x), none, none] S) = _
  rw [sSeq_nx (sAsg_gN e3)]
  show fnEnd S.length (sRet _ [some (.str x), some (.lst (sts (wds x))), none] S) = _
  (simp only [fnOf, fnEnd, sSeq, sIf, sRet, sRetN, sNext, sDo, sAsg, gN, gTg, tgE, isB, cAnd, cOr, cNot, sAnd, sOr, sNot, sIfx, sTup, sLst, sChain, sOp, sV, sC, aNil, aCons, sCall, sF, sCallK, perm, bind_ok, bind_exc, bind_bad, ofE_ok, ofE_exc, entry, List.length_cons, List.length_nil, List.map_cons, List.map_nil, Nat.reduceAdd, Nat.reduceSub, Nat.zero_add, List.reduceReplicate, List.cons_append, List.nil_append, List.getElem?_cons_zero, List.getElem?_cons_succ, List.set_cons_zero, List.set_cons_succ, if_true, if_false, ite_true, ite_false, reduceIte, List.zip_cons_cons, List.zip_nil_left, List.zip_nil_right, List.foldl_cons, List.foldl_nil, ↓reduceIte])
  simp only [e2, bind_ok, if_pos (Nat.zero_le lim), ne_nil e4, e5]
  cases (wds x).all nmB
  · (simp only [bind_ok, bind_exc, ofE_ok, ofE_exc, Bool.not_true, Bool.not_false, Bool.false_eq_true, Bool.true_and, Bool.false_and, Bool.and_true, Bool.and_false, if_true, if_false, ite_true, ite_false, fin_ok, all_map, List.set_cons_zero, List.set_cons_succ, List.getElem?_cons_zero, List.getElem?_cons_succ])
    rw [if_pos (by decide)]
    (simp only [bind_ok, bind_exc, ofE_ok, ofE_exc, Bool.not_true, Bool.not_false, Bool.false_eq_true, Bool.true_and, Bool.false_and, Bool.and_true, Bool.and_false, if_true, if_false, ite_true, ite_false, fin_ok, all_map, List.set_cons_zero, List.set_cons_succ, List.getElem?_cons_zero, List.getElem?_cons_succ])
  · (simp only [bind_ok, bind_exc, ofE_ok, ofE_exc, Bool.not_true, Bool.not_false, Bool.false_eq_true, Bool.true_and, Bool.false_and, Bool.and_true, Bool.and_false, if_true, if_false, ite_true, ite_false, fin_ok, all_map, List.set_cons_zero, List.set_cons_succ, List.getElem?_cons_zero, List.getElem?_cons_succ])
    simp only [bTuple, rd, ofE_ok]
    rw [fin_ok rfl]
end K20
end S_K20M3
section S_K20M4
set_option Elab.async false
set_option linter.all false
set_option maxRecDepth 100000
set_option maxHeartbeats 4000000
namespace K20
open PySem L2 T
theorem isD_iff {c : Nat} : isD c = true ↔ 48 ≤ c ∧ c ≤ 57 := by
  unfold isD
  rw [decide_eq_true_eq, show ("0123456789" : Str).cps.toList = [48, 49, 50, 51, 52, 53, 54, 55, 56, 57] from by decide +kernel]
  simp
  omega
theorem isL_iff {c : Nat} : isL c = true ↔ 97 ≤ c ∧ c ≤ 122 := by
  unfold isL
  rw [decide_eq_true_eq, show ("abcdefghijklmnopqrstuvwxyz" : Str).cps.toList = [97, 98, 99, 100, 101, 102, 103, 104, 105, 106, 107, 108, 109, 110, 111, 112, 113, 114, 115, 116, 117, 118, 119, 120, 121, 122] from by decide +kernel]
  simp
  omega
theorem cutS_drop {z : Str} {n : Nat} (h : n ≤ z.length) : cutS z (some (n : Int)) none = mkS (z.cps.toList.drop n) := by
  unfold cutS mkS
  rw [HT.sIx_nat, HT.sIx_none, Nat.min_eq_left h, List.take_of_length_le (by rw [List.length_drop, Array.length_toList]; exact Nat.le_refl _)]
theorem cutS_take {z : Str} {n : Nat} (h : n ≤ z.length) : cutS z none (some (n : Int)) = mkS (z.cps.toList.take n) := by
  unfold cutS mkS
  rw [HT.sIx_nat, HT.sIx_none, Nat.min_eq_left h, List.drop_zero, Nat.sub_zero]
def numV (l : List Nat) : Option Int := if l.isEmpty || !l.all isD || (decide (l.head? = some 48) && decide (1 < l.length)) then none else some ((NumText.digitsVal l : Nat) : Int)
def oInt : Option Int → D
  | some v => .int v
  | none => .non
theorem number_in_ok {t : Str} {S : Sto} (ht : t.length ≤ 640) : f_number_in [.str t] S = .ok (oInt (numV t.cps.toList)) S := by
  have hl : t.cps.toList.length ≤ lim := by rw [Array.length_toList]; exact Nat.le_trans ht (by decide)
  have e2 : sLc [1] (iStrs (sV 0)) (.nm 1) cYes (sOp fIn (sV 1) (sC (.str "0123456789"))) [some (D.str t), none] S = .ok (.lst (t.cps.toList.map fun c => .bl (isD c))) S :=
    sLc_ok (rfl : _ = Res.ok (signs t) S) (lc_map (f := fun c => D.str ⟨#[c]⟩) _ (fun c _ => ⟨_, rfl, rfl, rfl⟩) hl)
  have e1 : ∀ y : Str, fEq S (.str t) (.str y) = .ok (.bl (decide (t = y))) S := fun y => rfl
  have e1' : ∀ y : Str, fNe S (.str t) (.str y) = .ok (.bl (!decide (t = y))) S := fun y => rfl
  obtain ⟨⟨l⟩⟩ := t
  unfold f_number_in m_number_in
  cases l with
  | nil =>
    have n1 : decide ((⟨⟨[]⟩⟩ : Str) = ("" : Str)) = true := by decide +kernel
    (simp only [fnOf, fnEnd, sSeq, sIf, sRet, sRetN, sNext, sDo, sAsg, gN, gTg, tgE, isB, cAnd, cOr, cNot, sAnd, sOr, sNot, sIfx, sTup, sLst, sChain, sOp, sV, sC, aNil, aCons, sCall, sF, sCallK, perm, bind_ok, bind_exc, bind_bad, ofE_ok, ofE_exc, entry, List.length_cons, List.length_nil, List.map_cons, List.map_nil, Nat.reduceAdd, Nat.reduceSub, Nat.zero_add, List.reduceReplicate, List.cons_append, List.nil_append, List.getElem?_cons_zero, List.getElem?_cons_succ, List.set_cons_zero, List.set_cons_succ, if_true, if_false, ite_true, ite_false, reduceIte, List.zip_cons_cons, List.zip_nil_left, List.zip_nil_right, List.foldl_cons, List.foldl_nil, ↓reduceIte])
    simp only [e1, n1, bind_ok]
    (simp only [bind_ok, bind_exc, ofE_ok, ofE_exc, Bool.not_true, Bool.not_false, Bool.false_eq_true, Bool.true_and, Bool.false_and, Bool.and_true, Bool.and_false, if_true, if_false, ite_true, ite_false, fin_ok, all_map, List.set_cons_zero, List.set_cons_succ, List.getElem?_cons_zero, List.getElem?_cons_succ])
    rfl
  | cons c r =>
    have n0 : ¬ (⟨⟨c :: r⟩⟩ : Str) = ("" : Str) := fun e => by
      have := congrArg (fun z : Str => z.cps.toList) e
      cases this
    have e3 : fIx S (.str ⟨⟨c :: r⟩⟩) (.int 0) = .ok (.str ⟨#[c]⟩) S := by
      show (if _ then (match atI (c :: r) 0 with | some c => Res.ok (D.str ⟨#[c]⟩) S | none => .bad) else .bad) = _
      rw [if_pos (Nat.le_trans ht (by decide)), show atI (c :: r) 0 = some c from by
        unfold atI ixN
        rw [if_pos (Int.le_refl 0), if_pos (by rw [List.length_cons]; omega)]
        rfl]
    have e4 : fEq S (.str ⟨#[c]⟩) (.str "0") = .ok (.bl (decide (c = 48))) S := by
      show Res.ok (D.bl (decide ((⟨#[c]⟩ : Str) = ("0" : Str)))) S = _
      congr 2
      apply decide_eq_decide.mpr
      constructor
      · intro e
        have := congrArg (fun z : Str => z.cps.toList) e
        rw [show ("0" : Str).cps.toList = [48] from by decide +kernel] at this
        simpa using this
      · intro e
        subst e
        decide +kernel
    have e5 : decide ((⟨⟨c :: r⟩⟩ : Str) = ("0" : Str)) = (decide (c = 48) && r.isEmpty) := by
      rw [Bool.eq_iff_iff]
      simp only [decide_eq_true_eq, Bool.and_eq_true]
      constructor
      · intro e
        have := congrArg (fun z : Str => z.cps.toList) e
        rw [show ("0" : Str).cps.toList = [48] from by decide +kernel] at this
        simp at this
        exact ⟨this.1, by rw [this.2]; rfl⟩
      · intro ⟨e, h⟩
        subst e
        rw [List.isEmpty_iff.mp h]
        decide +kernel
    (simp only [fnOf, fnEnd, sSeq, sIf, sRet, sRetN, sNext, sDo, sAsg, gN, gTg, tgE, isB, cAnd, cOr, cNot, sAnd, sOr, sNot, sIfx, sTup, sLst, sChain, sOp, sV, sC, aNil, aCons, sCall, sF, sCallK, perm, bind_ok, bind_exc, bind_bad, ofE_ok, ofE_exc, entry, List.length_cons, List.length_nil, List.map_cons, List.map_nil, Nat.reduceAdd, Nat.reduceSub, Nat.zero_add, List.reduceReplicate, List.cons_append, List.nil_append, List.getElem?_cons_zero, List.getElem?_cons_succ, List.set_cons_zero, List.set_cons_succ, if_true, if_false, ite_true, ite_false, reduceIte, List.zip_cons_cons, List.zip_nil_left, List.zip_nil_right, List.foldl_cons, List.foldl_nil, ↓reduceIte])
    simp only [e1, decide_eq_false n0, bind_ok, e2, all_map, e3, e4, e1', e5]
    have e6 : (c :: r).all isD = true → bInt S [.str ⟨⟨c :: r⟩⟩] = .ok (.int ((NumText.digitsVal (c :: r) : Nat) : Int)) S := fun h => by
      show (if _ then (match intText? ⟨⟨c :: r⟩⟩ with | some n => Res.ok (D.int n) S | none => .bad) else .bad) = _
      rw [if_pos ht, intText_digits (x := ⟨⟨c :: r⟩⟩) (fun d hd => isD_iff.mp (List.all_eq_true.mp h d hd)) (by simp) (Nat.le_trans ht (by decide))]
    unfold numV
    show _ = Res.ok (oInt (if (false || !(c :: r).all isD || (decide (some c = some 48) && decide (1 < (c :: r).length))) then none else some _)) S
    rw [show decide (some c = some 48) = decide (c = 48) from decide_eq_decide.mpr ⟨fun h => by injection h, fun h => by rw [h]⟩, show decide (1 < (c :: r).length) = !r.isEmpty from by cases r <;> simp]
    cases b1 : (c :: r).all isD with
    | false =>
      (simp only [bind_ok, bind_exc, ofE_ok, ofE_exc, Bool.not_true, Bool.not_false, Bool.false_eq_true, Bool.true_and, Bool.false_and, Bool.and_true, Bool.and_false, if_true, if_false, ite_true, ite_false, fin_ok, all_map, List.set_cons_zero, List.set_cons_succ, List.getElem?_cons_zero, List.getElem?_cons_succ])
      rfl
    | true =>
      have e7 := e6 b1
      generalize decide (c = 48) = b2
      generalize r.isEmpty = b3
      cases b2 <;> cases b3 <;> (simp only [bind_ok, bind_exc, ofE_ok, ofE_exc, Bool.not_true, Bool.not_false, Bool.false_eq_true, Bool.true_and, Bool.false_and, Bool.and_true, Bool.and_false, if_true, if_false, ite_true, ite_false, fin_ok, all_map, List.set_cons_zero, List.set_cons_succ, List.getElem?_cons_zero, List.getElem?_cons_succ]) <;> first | rfl | (rw [e7]; (simp only [bind_ok, bind_exc, ofE_ok, ofE_exc, Bool.not_true, Bool.not_false, Bool.false_eq_true, Bool.true_and, Bool.false_and, Bool.and_true, Bool.and_false, if_true, if_false, ite_true, ite_false, fin_ok, all_map, List.set_cons_zero, List.set_cons_succ, List.getElem?_cons_zero, List.getElem?_cons_succ]); rfl)
/-! ### turns -/
theorem rstrip_app {p : Nat → Bool} {a b : List Nat} (hb : ∀ c ∈ b, p c = true) (ha : ∀ c ∈ a, p c = false) : rstripL p (a ++ b) = a := by
  unfold rstripL
  have e : ((a ++ b).reverse.takeWhile p).length = b.length := by
    rw [List.reverse_append, List.takeWhile_append_of_pos (fun c hc => hb c (List.mem_reverse.mp hc))]
    have : a.reverse.takeWhile p = [] := by
      cases q : a.reverse with
      | nil => rfl
      | cons c r =>
        have hc : p c = false := ha c (List.mem_reverse.mp (by rw [q]; exact List.mem_cons_self))
        rw [List.takeWhile_cons, hc]
        rfl
    rw [this, List.append_nil, List.length_reverse]
  rw [e, List.length_append, Nat.add_sub_cancel, List.take_left']
  rfl
theorem rstrip_cut (p : Nat → Bool) (l : List Nat) : ∃ b, l = rstripL p l ++ b ∧ (∀ c ∈ b, p c = true) ∧ (rstripL p l).length ≤ l.length := by
  have e := List.takeWhile_append_dropWhile (p := p) (l := l.reverse)
  have e2 : l = (l.reverse.dropWhile p).reverse ++ (l.reverse.takeWhile p).reverse := by
    have := congrArg List.reverse e
    rw [List.reverse_append, List.reverse_reverse] at this
    exact this.symm
  have e3 : rstripL p l = (l.reverse.dropWhile p).reverse := by
    unfold rstripL
    have hl : l.length - (l.reverse.takeWhile p).length = (l.reverse.dropWhile p).reverse.length := by
      have := congrArg List.length e
      rw [List.length_append, List.length_reverse] at this
      rw [List.length_reverse]
      omega
    rw [hl]
    conv => lhs; arg 2; rw [e2]
    rw [List.take_left']
    rfl
  refine ⟨(l.reverse.takeWhile p).reverse, by rw [e3]; exact e2, fun c hc => ?_, ?_⟩
  · exact List.all_eq_true.mp (List.all_takeWhile (p := p) (l := l.reverse)) c (List.mem_reverse.mp hc)
  · unfold rstripL
    rw [List.length_take]
    omega
end K20
end S_K20M4
section S_K20M5
set_option Elab.async false
set_option linter.all false
set_option maxRecDepth 100000
set_option maxHeartbeats 4000000
namespace K20
open PySem L2 T
theorem sSl_from {m n : SemE} {env : T.Env} {S : Sto} {z : Str} {k : Nat} (h1 : m env S = .ok (.str z) S) (h2 : n env S = .ok (.int (k : Int)) S) (hz : z.length ≤ lim) (hk : k ≤ z.length) : sSl m (oSome n) oNone env S = .ok (.str (mkS (z.cps.toList.drop k))) S := by
  unfold sSl oSome oNone
  rw [h1, bind_ok, h2, bind_ok, bind_ok, bind_ok]
  show (if z.length ≤ lim then Res.ok (D.str (cutS z (some (k : Int)) none)) S else .bad) = _
  rw [if_pos hz, cutS_drop hk]
theorem sSl_to {m n : SemE} {env : T.Env} {S : Sto} {z : Str} {k : Nat} (h1 : m env S = .ok (.str z) S) (h2 : n env S = .ok (.int (k : Int)) S) (hz : z.length ≤ lim) (hk : k ≤ z.length) : sSl m oNone (oSome n) env S = .ok (.str (mkS (z.cps.toList.take k))) S := by
  unfold sSl oSome oNone
  rw [h1, bind_ok, bind_ok, h2, bind_ok, bind_ok]
  show (if z.length ≤ lim then Res.ok (D.str (cutS z none (some (k : Int)))) S else .bad) = _
  rw [if_pos hz, cutS_take hk]
/-- a turn in a word: the name's signs, the number -/
def turnV (l : List Nat) : Option (Str × Int) := if nmB (mkS (rstripL isD l)) then (numV (l.drop (rstripL isD l).length)).map fun v => (mkS (rstripL isD l), v) else none
def turnW (l : List Nat) : Option (Str × Int) := if nmB (mkS (l.take (l.filter fun c => !isD c).length)) then (numV (l.drop (l.filter fun c => !isD c).length)).map fun v => (mkS (l.take (l.filter fun c => !isD c).length), v) else none
theorem nmB_all {l : List Nat} (h : nmB (mkS l) = true) : (∀ c ∈ l, isL c = true) ∧ 1 ≤ l.length ∧ l.length ≤ 8 := by
  unfold nmB at h
  rw [Bool.and_eq_true, Bool.and_eq_true, decide_eq_true_eq, decide_eq_true_eq] at h
  obtain ⟨h1, h2, h3⟩ := h
  have e : (mkS l).length = l.length := rfl
  rw [e] at h1 h2
  exact ⟨fun c hc => List.all_eq_true.mp h3 c hc, by omega, by omega⟩
theorem letter_no {c : Nat} (h : isL c = true) : isD c = false := by
  have := isL_iff.mp h
  cases q : isD c with
  | false => rfl
  | true => have := isD_iff.mp q; omega
theorem numV_some {l : List Nat} {v : Int} (h : numV l = some v) : (∀ c ∈ l, isD c = true) ∧ l ≠ [] := by
  unfold numV at h
  split at h
  · cases h
  · rename_i q
    rw [Bool.or_eq_true, Bool.or_eq_true, not_or, not_or] at q
    obtain ⟨⟨q1, q2⟩, _⟩ := q
    refine ⟨fun c hc => ?_, fun e => q1 (by rw [e]; rfl)⟩
    cases z : l.all isD with
    | true => exact List.all_eq_true.mp z c hc
    | false => rw [z] at q2; exact absurd rfl q2
theorem fil_self {p : Nat → Bool} {a b : List Nat} (ha : ∀ c ∈ a, p c = false) (hb : ∀ c ∈ b, p c = true) : (a ++ b).filter (fun c => !p c) = a := by
  rw [List.filter_append, List.filter_eq_self.mpr (fun c hc => by rw [ha c hc]; rfl), List.filter_eq_nil_iff.mpr (fun c hc => by rw [hb c hc]; simp), List.append_nil]
theorem turn_same (l : List Nat) : turnV l = turnW l := by
  by_cases h : nmB (mkS (rstripL isD l)) = true
  · obtain ⟨b, e, hb, _⟩ := rstrip_cut isD l
    have ha : ∀ c ∈ rstripL isD l, isD c = false := fun c hc => letter_no ((nmB_all h).1 c hc)
    have k : (l.filter fun c => !isD c) = rstripL isD l := by
      conv => lhs; rw [e]
      exact fil_self ha hb
    have t : l.take (rstripL isD l).length = rstripL isD l := by
      conv => lhs; arg 2; rw [e]
      rw [List.take_left']
      rfl
    unfold turnV turnW
    rw [k, t]
  · have z : turnV l = none := by unfold turnV; rw [if_neg h]
    rw [z]
    unfold turnW
    split
    · rename_i q
      cases w : numV (l.drop (l.filter fun c => !isD c).length) with
      | none => rfl
      | some v =>
        exfalso
        obtain ⟨d1, d2⟩ := numV_some w
        have e := List.take_append_drop (l.filter fun c => !isD c).length l
        have r := rstrip_app (p := isD) (a := l.take (l.filter fun c => !isD c).length) d1 (fun c hc => letter_no ((nmB_all q).1 c hc))
        rw [e] at r
        rw [r] at h
        exact h q
    · rfl
def oTurn : Option (Str × Int) → D
  | some p => .tup [.str p.1, .int p.2]
  | none => .non
theorem goes_isD : (fun c => ("0123456789" : Str).cps.contains c) = isD := by
  funext c
  unfold isD
  rw [Bool.eq_iff_iff, decide_eq_true_eq, Array.contains_iff_mem, Array.mem_toList_iff]
theorem rstrip_ok {x : Str} {S : Sto} (hx : x.length ≤ lim) : mRstrip S (.str x) [.str "0123456789"] = .ok (.str (mkS (rstripL isD x.cps.toList))) S := by
  show (if x.length ≤ lim then Res.ok (D.str (rstripS x "0123456789")) S else .bad) = _
  rw [if_pos hx]
  unfold rstripS
  rw [goes_isD]
theorem turn_in_ok {x : Str} {S : Sto} (hx : x.length ≤ 640) : f_turn_in [.str x] S = (match turnV x.cps.toList with | some p => .ok (.tup [.str p.1, .int p.2]) S | none => .exc "BadText" [] S) := by
  have hx' : x.length ≤ lim := Nat.le_trans hx (by decide)
  obtain ⟨b, eb, _, hl⟩ := rstrip_cut isD x.cps.toList
  rw [Array.length_toList] at hl
  have hn : (mkS (rstripL isD x.cps.toList)).length ≤ lim := Nat.le_trans hl hx'
  unfold f_turn_in m_turn_in
  refine (fnOf_eq (by rfl)).trans ?_
  show fnEnd S.length (sSeq _ _ [some (.str x), none, none] S) = _
  rw [sSeq_nx (sAsg_gN (d := .str (mkS (rstripL isD x.cps.toList))) (S1 := S) (rstrip_ok hx'))]
  show fnEnd S.length (sSeq _ _ [some (.str x), some (.str (mkS (rstripL isD x.cps.toList))), none] S) = _
  have e2 : sCall f_number_in (aCons (sSl (sV 0) (oSome (sF bLen (aCons (sV 1) aNil))) oNone) aNil) [some (.str x), some (.str (mkS (rstripL isD x.cps.toList))), none] S = .ok (oInt (numV (x.cps.toList.drop (rstripL isD x.cps.toList).length))) S := by
    have z : sSl (sV 0) (oSome (sF bLen (aCons (sV 1) aNil))) oNone [some (.str x), some (.str (mkS (rstripL isD x.cps.toList))), none] S = .ok (.str (mkS (x.cps.toList.drop (rstripL isD x.cps.toList).length))) S :=
      sSl_from (z := x) (k := (rstripL isD x.cps.toList).length) rfl (by
        show bLen S [.str (mkS (rstripL isD x.cps.toList))] = _
        rw [len_str hn]
        rfl) hx' hl
    rw [call1 z, number_in_ok (by
      show (x.cps.toList.drop (rstripL isD x.cps.toList).length).length ≤ 640
      rw [List.length_drop, Array.length_toList]
      exact Nat.le_trans (Nat.sub_le _ _) hx)]
    rfl
  rw [sSeq_nx (sAsg_gN e2)]
  show fnEnd S.length (sSeq _ _ [some (.str x), some (.str (mkS (rstripL isD x.cps.toList))), some (oInt (numV (x.cps.toList.drop (rstripL isD x.cps.toList).length)))] S) = _
  unfold turnV
  (simp only [fnOf, fnEnd, sSeq, sIf, sRet, sRetN, sNext, sDo, sAsg, gN, gTg, tgE, isB, cAnd, cOr, cNot, sAnd, sOr, sNot, sIfx, sTup, sLst, sChain, sOp, sV, sC, aNil, aCons, sCall, sF, sCallK, perm, bind_ok, bind_exc, bind_bad, ofE_ok, ofE_exc, entry, List.length_cons, List.length_nil, List.map_cons, List.map_nil, Nat.reduceAdd, Nat.reduceSub, Nat.zero_add, List.reduceReplicate, List.cons_append, List.nil_append, List.getElem?_cons_zero, List.getElem?_cons_succ, List.set_cons_zero, List.set_cons_succ, if_true, if_false, ite_true, ite_false, reduceIte, List.zip_cons_cons, List.zip_nil_left, List.zip_nil_right, List.foldl_cons, List.foldl_nil, ↓reduceIte])
  simp only [is_name_ok hn, bind_ok]
  cases nmB (mkS (rstripL isD x.cps.toList)) with
  | false =>
    (simp only [bind_ok, bind_exc, ofE_ok, ofE_exc, Bool.not_true, Bool.not_false, Bool.false_eq_true, Bool.true_and, Bool.false_and, Bool.and_true, Bool.and_false, if_true, if_false, ite_true, ite_false, fin_ok, all_map, List.set_cons_zero, List.set_cons_succ, List.getElem?_cons_zero, List.getElem?_cons_succ])
    simp only [sRaise, if_true]
  | true =>
    cases q : numV (x.cps.toList.drop (rstripL isD x.cps.toList).length) with
    | none =>
      simp only [oInt, fIsN]
      (simp only [bind_ok, bind_exc, ofE_ok, ofE_exc, Bool.not_true, Bool.not_false, Bool.false_eq_true, Bool.true_and, Bool.false_and, Bool.and_true, Bool.and_false, if_true, if_false, ite_true, ite_false, fin_ok, all_map, List.set_cons_zero, List.set_cons_succ, List.getElem?_cons_zero, List.getElem?_cons_succ])
      simp only [sRaise, if_true]
      rfl
    | some v =>
      simp only [oInt, fIsN]
      (simp only [bind_ok, bind_exc, ofE_ok, ofE_exc, Bool.not_true, Bool.not_false, Bool.false_eq_true, Bool.true_and, Bool.false_and, Bool.and_true, Bool.and_false, if_true, if_false, ite_true, ite_false, fin_ok, all_map, List.set_cons_zero, List.set_cons_succ, List.getElem?_cons_zero, List.getElem?_cons_succ])
      simp only [List.length_cons, List.length_nil, if_pos (show 0 + 1 + 1 ≤ lim by decide)]
      (simp only [bind_ok, bind_exc, ofE_ok, ofE_exc, Bool.not_true, Bool.not_false, Bool.false_eq_true, Bool.true_and, Bool.false_and, Bool.and_true, Bool.and_false, if_true, if_false, ite_true, ite_false, fin_ok, all_map, List.set_cons_zero, List.set_cons_succ, List.getElem?_cons_zero, List.getElem?_cons_succ])
      rfl
theorem law_turn_in_ok {x : Str} {S : Sto} (hx : x.length ≤ 640) (ha : Asc x) : f_law_turn_in [.str x] S = .ok (oTurn (turnV x.cps.toList)) S := by
  have hx' : x.length ≤ lim := Nat.le_trans hx (by decide)
  rw [turn_same]
  have hl : x.cps.toList.length ≤ lim := by rw [Array.length_toList]; exact hx'
  have kl : (x.cps.toList.filter fun c => !isD c).length ≤ x.length := by
    have := List.length_filter_le (fun c => !isD c) x.cps.toList
    rw [Array.length_toList] at this
    exact this
  unfold f_law_turn_in m_law_turn_in
  refine (fnOf_eq (by rfl)).trans ?_
  show fnEnd S.length (sSeq _ _ [some (.str x), none, none, none, none] S) = _
  have comp : ∀ (z : Str) (i : Nat) (env : T.Env), z.cps.toList.length ≤ lim → env[i]? = some (some (.str z)) → 4 < env.length → sLc [4] (iStrs (sV i)) (.nm 4) (isB (sOp fNotIn (sV 4) (sC (.str "0123456789")))) (sV 4) env S = .ok (.lst ((z.cps.toList.filter fun c => !isD c).map fun c => D.str ⟨#[c]⟩)) S := fun z i env hz hv hlen =>
    sLc_ok (S1 := S) (ds := signs z) (by unfold iStrs; rw [sV_at hv]; rfl) (by
      have w := lc_fil (t := .nm 4) (c := isB (sOp fNotIn (sV 4) (sC (.str "0123456789")))) (e := sV 4) (env := wipeE env [4]) (S := S) (f := fun c => D.str ⟨#[c]⟩) (p := fun c => !isD c) (g := fun c => D.str ⟨#[c]⟩) z.cps.toList [] (fun c _ => by
        have g : ((wipeE env [4]).set 4 (some (D.str ⟨#[c]⟩)))[4]? = some (some (D.str ⟨#[c]⟩)) := by
          rw [List.getElem?_set_self]
          show 4 < (env.set 4 none).length
          rw [List.length_set]
          exact hlen
        refine ⟨_, rfl, ?_, fun _ => sV_at g⟩
        unfold isB sOp
        rw [sV_at g]
        rfl) (by simpa using hz)
      exact w)
  have e1 : sF bLen (aCons (sLc [4] (iStrs (sV 0)) (.nm 4) (isB (sOp fNotIn (sV 4) (sC (.str "0123456789")))) (sV 4)) aNil) [some (.str x), none, none, none, none] S = .ok (.int ((x.cps.toList.filter fun c => !isD c).length : Nat)) S := by
    rw [sF1 (comp x 0 [some (.str x), none, none, none, none] hl rfl (Nat.lt_succ_self 4)), len_lst, List.length_map]
  rw [sSeq_nx (sAsg_gN e1)]
  generalize hk : (x.cps.toList.filter fun c => !isD c).length = k at kl
  show fnEnd S.length (sSeq _ _ [some (.str x), some (.int (k : Int)), none, none, none] S) = _
  have t1 : sSl (sV 0) oNone (oSome (sV 1)) [some (.str x), some (.int (k : Int)), none, none, none] S = .ok (.str (mkS (x.cps.toList.take k))) S := sSl_to rfl rfl hx' kl
  have t2 : sSl (sV 0) (oSome (sV 1)) oNone [some (.str x), some (.int (k : Int)), none, none, none] S = .ok (.str (mkS (x.cps.toList.drop k))) S := sSl_from rfl rfl hx' kl
  have e2 : sAsg (sTup (aCons (sSl (sV 0) oNone (oSome (sV 1))) (aCons (sSl (sV 0) (oSome (sV 1)) oNone) aNil))) (gTg (.tp [2, 3])) [some (.str x), some (.int (k : Int)), none, none, none] S = .nx [some (.str x), some (.int (k : Int)), some (.str (mkS (x.cps.toList.take k))), some (.str (mkS (x.cps.toList.drop k))), none] S := by
    unfold sAsg sTup aCons
    rw [t1, bind_ok]
    show ofE (Res.bind (Res.bind (Res.bind (sSl (sV 0) (oSome (sV 1)) oNone _ S) _) _) _) _ _ = _
    rw [t2]
    rfl
  rw [sSeq_nx e2]
  have hd : (mkS (x.cps.toList.drop k)).length ≤ 640 := by
    show (x.cps.toList.drop k).length ≤ 640
    rw [List.length_drop, Array.length_toList]
    exact Nat.le_trans (Nat.sub_le _ _) hx
  have ht : (mkS (x.cps.toList.take k)).length ≤ lim := by
    show (x.cps.toList.take k).length ≤ lim
    rw [List.length_take]
    exact Nat.le_trans (Nat.min_le_right _ _) hl
  have at_ : Asc (mkS (x.cps.toList.take k)) := fun c hc => ha c (List.mem_of_mem_take hc)
  have ad_ : Asc (mkS (x.cps.toList.drop k)) := fun c hc => ha c (List.mem_of_mem_drop hc)
  unfold turnW
  rw [hk]
  generalize mkS (x.cps.toList.take k) = tg at ht at_
  generalize hdl : x.cps.toList.drop k = dl at hd ad_
  have e3 : sLc [4] (iStrs (sV 3)) (.nm 4) (isB (sOp fNotIn (sV 4) (sC (.str "0123456789")))) (sV 4) [some (.str x), some (.int (k : Int)), some (.str tg), some (.str (mkS dl)), none] S = .ok (.lst ((dl.filter fun c => !isD c).map fun c => D.str ⟨#[c]⟩)) S := comp (mkS dl) 3 [some (.str x), some (.int (k : Int)), some (.str tg), some (.str (mkS dl)), none] (Nat.le_trans hd (by decide)) rfl (Nat.lt_succ_self 4)
  have e4 : ∀ d ∈ (dl.filter fun c => !isD c).map (fun c => D.str ⟨#[c]⟩), Pla S 20 d := fun d hd => by
    obtain ⟨c, hc, rfl⟩ := List.mem_map.mp hd
    exact .str (asc_sign (ad_ c (List.mem_filter.mp hc).1)).ok
  have e5 : ((dl.filter fun c => !isD c).map fun c => D.str ⟨#[c]⟩).isEmpty = dl.all isD := by rw [List.isEmpty_map, fil_empty]
  have e6 : fEq S (.str (mkS dl)) (.str "") = .ok (.bl dl.isEmpty) S := by
    show Res.ok (D.bl (decide (mkS dl = ("" : Str)))) S = _
    congr 2
    rw [Bool.eq_iff_iff, decide_eq_true_eq, List.isEmpty_iff]
    constructor
    · intro e
      exact congrArg (fun z : Str => z.cps.toList) e
    · intro e
      subst e
      rfl
  have hdl' : (mkS dl).length ≤ lim := Nat.le_trans hd (by decide)
  have e7 : dl.all isD = true → dl ≠ [] → bInt S [.str (mkS dl)] = .ok (.int ((NumText.digitsVal dl : Nat) : Int)) S := fun h h2 => by
    show (if _ then (match intText? (mkS dl) with | some n => Res.ok (D.int n) S | none => .bad) else .bad) = _
    rw [if_pos hd, intText_digits (x := mkS dl) (fun d hd => isD_iff.mp (List.all_eq_true.mp h d hd)) h2 (Nat.le_trans hd (by decide))]
    rfl
  have e8 : ∀ (c : Nat) (r : List Nat), dl = c :: r → fIx S (.str (mkS dl)) (.int 0) = .ok (.str ⟨#[c]⟩) S := fun c r e => by
    subst e
    show (if _ then (match atI (c :: r) 0 with | some c => Res.ok (D.str ⟨#[c]⟩) S | none => .bad) else .bad) = _
    rw [if_pos hdl', show atI (c :: r) 0 = some c from by
        unfold atI ixN
        rw [if_pos (Int.le_refl 0), if_pos (by rw [List.length_cons]; omega)]
        rfl]
  have e9 : ∀ c : Nat, fEq S (.str ⟨#[c]⟩) (.str "0") = .ok (.bl (decide (c = 48))) S := fun c => by
    show Res.ok (D.bl (decide ((⟨#[c]⟩ : Str) = ("0" : Str)))) S = _
    congr 2
    apply decide_eq_decide.mpr
    constructor
    · intro e
      have := congrArg (fun z : Str => z.cps.toList) e
      rw [show ("0" : Str).cps.toList = [48] from by decide +kernel] at this
      simpa using this
    · intro e
      subst e
      decide +kernel
  (simp only [fnOf, fnEnd, sSeq, sIf, sRet, sRetN, sNext, sDo, sAsg, gN, gTg, tgE, isB, cAnd, cOr, cNot, sAnd, sOr, sNot, sIfx, sTup, sLst, sChain, sOp, sV, sC, aNil, aCons, sCall, sF, sCallK, perm, bind_ok, bind_exc, bind_bad, ofE_ok, ofE_exc, entry, List.length_cons, List.length_nil, List.map_cons, List.map_nil, Nat.reduceAdd, Nat.reduceSub, Nat.zero_add, List.reduceReplicate, List.cons_append, List.nil_append, List.getElem?_cons_zero, List.getElem?_cons_succ, List.set_cons_zero, List.set_cons_succ, if_true, if_false, ite_true, ite_false, reduceIte, List.zip_cons_cons, List.zip_nil_left, List.zip_nil_right, List.foldl_cons, List.foldl_nil, ↓reduceIte])
  simp only [is_tag_ok ht at_, bind_ok, e6, e3, if_pos (Nat.zero_le lim), ne_nil e4, e5, len_str hdl', e_gt]
  unfold numV
  cases nmB tg with
  | false => (simp only [bind_ok, bind_exc, ofE_ok, ofE_exc, Bool.not_true, Bool.not_false, Bool.false_eq_true, Bool.true_and, Bool.false_and, Bool.and_true, Bool.and_false, if_true, if_false, ite_true, ite_false, fin_ok, all_map, List.set_cons_zero, List.set_cons_succ, List.getElem?_cons_zero, List.getElem?_cons_succ]); rfl
  | true =>
    cases dl with
    | nil =>
      simp only [List.isEmpty_nil]
      (simp only [bind_ok, bind_exc, ofE_ok, ofE_exc, Bool.not_true, Bool.not_false, Bool.false_eq_true, Bool.true_and, Bool.false_and, Bool.and_true, Bool.and_false, if_true, if_false, ite_true, ite_false, fin_ok, all_map, List.set_cons_zero, List.set_cons_succ, List.getElem?_cons_zero, List.getElem?_cons_succ])
      rfl
    | cons c r =>
      simp only [List.isEmpty_cons]
      cases b1 : (c :: r).all isD with
      | false => (simp only [bind_ok, bind_exc, ofE_ok, ofE_exc, Bool.not_true, Bool.not_false, Bool.false_eq_true, Bool.true_and, Bool.false_and, Bool.and_true, Bool.and_false, if_true, if_false, ite_true, ite_false, fin_ok, all_map, List.set_cons_zero, List.set_cons_succ, List.getElem?_cons_zero, List.getElem?_cons_succ]); rfl
      | true =>
        (simp only [bind_ok, bind_exc, ofE_ok, ofE_exc, Bool.not_true, Bool.not_false, Bool.false_eq_true, Bool.true_and, Bool.false_and, Bool.and_true, Bool.and_false, if_true, if_false, ite_true, ite_false, fin_ok, all_map, List.set_cons_zero, List.set_cons_succ, List.getElem?_cons_zero, List.getElem?_cons_succ])
        simp only [len_str hdl', bind_ok, e_gt, e8 c r rfl, e9, e7 b1 (by simp)]
        show _ = Res.ok (oTurn (if true = true then Option.map _ (if (false || !true || (decide (some c = some 48) && decide (1 < (c :: r).length))) then none else some _) else none)) S
        rw [show decide (some c = some 48) = decide (c = 48) from decide_eq_decide.mpr ⟨fun h => by injection h, fun h => by rw [h]⟩, show decide (1 < (c :: r).length) = decide (((mkS (c :: r)).length : Int) > 1) from decide_eq_decide.mpr ⟨fun h => by show ((c :: r).length : Int) > 1; omega, fun h => by have h : ((c :: r).length : Int) > 1 := h; omega⟩]
        generalize decide (((mkS (c :: r)).length : Int) > 1) = b2
        generalize decide (c = 48) = b3
        cases b2 <;> cases b3 <;> (simp only [bind_ok, bind_exc, ofE_ok, ofE_exc, Bool.not_true, Bool.not_false, Bool.false_eq_true, Bool.true_and, Bool.false_and, Bool.and_true, Bool.and_false, if_true, if_false, ite_true, ite_false, fin_ok, all_map, List.set_cons_zero, List.set_cons_succ, List.getElem?_cons_zero, List.getElem?_cons_succ]) <;> first | rfl | (rw [e7 b1 (by simp)]; simp only [bind_ok, List.length_cons, List.length_nil, if_pos (show 0 + 1 + 1 ≤ lim by decide), ofE_ok]; rw [fin_ok rfl]; rfl)
end K20
end S_K20M5
section S_K20M6
set_option Elab.async false
set_option linter.all false
set_option maxRecDepth 100000
set_option maxHeartbeats 4000000
namespace K20
open PySem L2 T
def ascZ (ns : List Str) : Bool := (ns.zip (ns.drop 1)).all fun p => sLt p.1 p.2
theorem zip_drop (ns : List Str) : zipD (sts ns) ((sts ns).drop 1) = (ns.zip (ns.drop 1)).map fun p => D.tup [.str p.1, .str p.2] := by
  unfold zipD
  rw [← List.map_drop, List.zipWith_map, List.zip_eq_zipWith, List.map_zipWith]
theorem cut1 (ds : List D) : cutD ds (some 1) none = ds.drop 1 := by
  unfold cutD
  rw [HT.sIx_none, show (some (1 : Int)) = some ((1 : Nat) : Int) from rfl, HT.sIx_nat]
  cases ds with
  | nil => rfl
  | cons d r =>
    rw [List.length_cons, Nat.min_eq_left (by omega), List.take_of_length_le (by simp)]
theorem ascends_ok {ns : List Str} {S : Sto} (hn : ns.length ≤ lim) : f_ascends [.lst (sts ns)] S = .ok (.bl (ascZ ns)) S := by
  unfold f_ascends m_ascends
  refine (fnOf_eq (by rfl)).trans ?_
  show fnEnd S.length (sRet _ [some (.lst (sts ns)), none, none] S) = _
  have e1 : iZipS (aCons (sV 0) (aCons (sSl (sV 0) (oSome (sC (.int 1))) oNone) aNil)) [some (.lst (sts ns)), none, none] S = .ok ((ns.zip (ns.drop 1)).map fun p => D.tup [.str p.1, .str p.2]) S := by
    rw [← zip_drop, ← cut1]
    rfl
  have e2 := sLc_ok (vs := [1, 2]) (t := .tp [1, 2]) (c := cYes) (e := sOp fLt (sV 1) (sV 2)) e1 (lc_map (g := fun p => D.bl (sLt p.1 p.2)) (ns.zip (ns.drop 1)) (fun p _ => ⟨_, rfl, rfl, rfl⟩) (by
    rw [List.length_zip]
    exact Nat.le_trans (Nat.min_le_left _ _) hn))
  unfold sRet
  rw [sF1 e2, all_map]
  exact fin_ok rfl
theorem all_idx {ns : List Str} : ascZ ns = true ↔ ∀ i (h : i + 1 < ns.length), sLt (ns[i]'(by omega)) ns[i + 1] = true := by
  unfold ascZ
  rw [List.all_eq_true]
  constructor
  · intro z i h
    have hm : (ns[i]'(by omega), ns[i + 1]) ∈ ns.zip (ns.drop 1) := by
      rw [List.mem_iff_getElem]
      refine ⟨i, by rw [List.length_zip, List.length_drop]; omega, ?_⟩
      rw [List.getElem_zip, List.getElem_drop]
      congr 2
      omega
    exact z _ hm
  · intro z p hp
    obtain ⟨i, hi, rfl⟩ := List.mem_iff_getElem.mp hp
    have hi' := hi
    rw [List.length_zip, List.length_drop] at hi'
    rw [List.getElem_zip, List.getElem_drop]
    have := z i (by omega)
    simp only [Nat.add_comm 1 i]
    exact this
theorem atI_nat {α : Type} {xs : List α} {j : Int} {k : Nat} (hj : j = (k : Int)) (hk : k < xs.length) : atI xs j = some xs[k] := by
  subst hj
  unfold atI ixN
  rw [if_pos (by omega), if_pos (by omega)]
  show xs[(k : Int).toNat]? = _
  rw [Int.toNat_natCast, List.getElem?_eq_getElem hk]
abbrev oT (p : Str × Int) : D := .tup [.str p.1, .int p.2]
def tvs (x : Str) : List (Str × Int) := (wds x).filterMap fun w => turnV w.cps.toList
def tOk (x : Str) : Bool := (wds x).all (fun w => (turnV w.cps.toList).isSome) && ascZ ((tvs x).map (·.1))
theorem tvs_count (x : Str) : (tvs x).length ≤ x.length + 1 := Nat.le_trans (List.length_filterMap_le _ _) (wds_count x)
end K20
end S_K20M6
section S_K20M7
set_option Elab.async false
set_option linter.all false
set_option maxRecDepth 100000
set_option maxHeartbeats 4000000
namespace K20
open PySem L2 T
theorem read_turns_ok {x : Str} {S : Sto} (hx : x.length ≤ 640) : f_read_turns [.str x] S = if tOk x then .ok (.tup ((tvs x).map oT)) S else .exc "BadText" [] S := by
  have hx' : x.length ≤ lim := Nat.le_trans hx (by decide)
  have hx1 : x.length + 1 ≤ lim := Nat.le_trans (Nat.succ_le_succ hx) (by decide)
  unfold f_read_turns m_read_turns
  refine (fnOf_eq (by rfl)).trans ?_
  show fnEnd S.length (sSeq _ _ [some (.str x), none, none, none, none] S) = _
  have e1 : fNe S (.str x) (.str "-") = .ok (.bl (!decide (x = "-"))) S := rfl
  have e3 : sIfx (isB (sOp fNe (sV 0) (sC (.str "-")))) (sLc [2] (iSeq (sM "str" mSplit (sV 0) (aCons (sC (.str " ")) aNil))) (.nm 2) cYes (sCall f_turn_in (aCons (sV 2) aNil))) (sLst aNil) [some (.str x), none, none, none, none] S
      = if (wds x).all (fun w => (turnV w.cps.toList).isSome) then .ok (.lst ((tvs x).map oT)) S else .exc "BadText" [] S := by
    unfold sIfx
    show (Res.bind (Res.bind (fNe S (.str x) (.str "-")) _) _) = _
    rw [e1]
    unfold tvs wds
    by_cases h : x = "-"
    · simp only [bind_ok, decide_eq_true h, Bool.not_true, Bool.false_eq_true, if_false, if_pos h]
      rfl
    · simp only [bind_ok, decide_eq_false h, Bool.not_false, if_true, if_neg h]
      have z : lcGo (.nm 2) cYes (sCall f_turn_in (aCons (sV 2) aNil)) (wipeE [some (.str x), none, none, none, none] [2]) ((words x).map D.str) [] S = _ := lc_exc (g := fun w : Str => (turnV w.cps.toList).map oT) (C := "BadText") (words x) [] (fun w hw => ⟨_, rfl, rfl, by
        show f_turn_in [.str w] S = _
        rw [turn_in_ok (Nat.le_trans (word_in hw).1 hx)]
        cases turnV w.cps.toList <;> rfl⟩) (by simpa using Nat.le_trans (words_count x) hx1)
      unfold sLc iSeq
      show Res.bind (Res.bind (mSplit S (.str x) [.str " "]) _) _ = _
      rw [split_ok hx']
      show Res.bind (lcGo (.nm 2) cYes (sCall f_turn_in (aCons (sV 2) aNil)) (wipeE [some (.str x), none, none, none, none] [2]) ((words x).map D.str) [] S) _ = _
      rw [z]
      simp only [Option.isSome_map, List.nil_append]
      split
      · rw [bind_ok]
        rw [List.map_filterMap]
      · rfl
  cases q : (wds x).all (fun w => (turnV w.cps.toList).isSome) with
  | false =>
    rw [q] at e3
    have e4 : sAsg (sIfx (isB (sOp fNe (sV 0) (sC (.str "-")))) (sLc [2] (iSeq (sM "str" mSplit (sV 0) (aCons (sC (.str " ")) aNil))) (.nm 2) cYes (sCall f_turn_in (aCons (sV 2) aNil))) (sLst aNil)) (gN 1) [some (.str x), none, none, none, none] S = .exc "BadText" [] [some (.str x), none, none, none, none] S := by
      unfold sAsg
      rw [e3]
      rfl
    unfold sSeq
    rw [e4]
    unfold tOk
    rw [q]
    show (if S.length = S.length then Res.exc "BadText" [] S else .bad) = _
    rw [if_pos rfl]
    rfl
  | true =>
    rw [q] at e3
    rw [sSeq_nx (sAsg_gN e3)]
    show fnEnd S.length (sSeq _ _ [some (.str x), some (.lst ((tvs x).map oT)), none, none, none] S) = _
    have cl : (tvs x).length ≤ lim := Nat.le_trans (tvs_count x) hx1
    have e5 : sLc [3, 4] (iSeq (sV 1)) (.tp [3, 4]) cYes (sV 3) [some (.str x), some (.lst ((tvs x).map oT)), none, none, none] S = .ok (.lst (sts ((tvs x).map (·.1)))) S := by
      have z := sLc_ok (vs := [3, 4]) (i := iSeq (sV 1)) (t := .tp [3, 4]) (c := cYes) (e := sV 3) (env := [some (.str x), some (.lst ((tvs x).map oT)), none, none, none]) (S := S) (rfl : _ = Res.ok ((tvs x).map oT) S) (lc_map (f := oT) (g := fun p => D.str p.1) (tvs x) (fun p _ => ⟨_, rfl, rfl, rfl⟩) cl)
      rw [z, sts, List.map_map]
      rfl
    (simp only [fnOf, fnEnd, sSeq, sIf, sRet, sRetN, sNext, sDo, sAsg, gN, gTg, tgE, isB, cAnd, cOr, cNot, sAnd, sOr, sNot, sIfx, sTup, sLst, sChain, sOp, sV, sC, aNil, aCons, sCall, sF, sCallK, perm, bind_ok, bind_exc, bind_bad, ofE_ok, ofE_exc, entry, List.length_cons, List.length_nil, List.map_cons, List.map_nil, Nat.reduceAdd, Nat.reduceSub, Nat.zero_add, List.reduceReplicate, List.cons_append, List.nil_append, List.getElem?_cons_zero, List.getElem?_cons_succ, List.set_cons_zero, List.set_cons_succ, if_true, if_false, ite_true, ite_false, reduceIte, List.zip_cons_cons, List.zip_nil_left, List.zip_nil_right, List.foldl_cons, List.foldl_nil, ↓reduceIte])
    simp only [e5, bind_ok, ascends_ok (show ((tvs x).map (·.1)).length ≤ lim by rw [List.length_map]; exact cl)]
    unfold tOk
    rw [q]
    cases ascZ ((tvs x).map (·.1))
    · (simp only [bind_ok, bind_exc, ofE_ok, ofE_exc, Bool.not_true, Bool.not_false, Bool.false_eq_true, Bool.true_and, Bool.false_and, Bool.and_true, Bool.and_false, if_true, if_false, ite_true, ite_false, fin_ok, all_map, List.set_cons_zero, List.set_cons_succ, List.getElem?_cons_zero, List.getElem?_cons_succ])
      simp only [sRaise, if_true]
    · (simp only [bind_ok, bind_exc, ofE_ok, ofE_exc, Bool.not_true, Bool.not_false, Bool.false_eq_true, Bool.true_and, Bool.false_and, Bool.and_true, Bool.and_false, if_true, if_false, ite_true, ite_false, fin_ok, all_map, List.set_cons_zero, List.set_cons_succ, List.getElem?_cons_zero, List.getElem?_cons_succ])
      simp only [bTuple, rd, ofE_ok]
      rw [fin_ok rfl]
end K20
end S_K20M7
section S_K20M8
set_option Elab.async false
set_option linter.all false
set_option maxRecDepth 100000
set_option maxHeartbeats 4000000
namespace K20
open PySem L2 T
theorem any_non_map (x : Str) : ((wds x).map fun w => oTurn (turnV w.cps.toList)).any isNon = !(wds x).all (fun w => (turnV w.cps.toList).isSome) := by
  generalize wds x = l
  induction l with
  | nil => rfl
  | cons w l ih =>
    rw [List.map_cons, List.any_cons, ih, List.all_cons]
    cases turnV w.cps.toList <;> simp [oTurn, T.isNon]
theorem found_eq {x : Str} (h : (wds x).all (fun w => (turnV w.cps.toList).isSome) = true) : ((wds x).map fun w => oTurn (turnV w.cps.toList)) = (tvs x).map oT := by
  unfold tvs
  generalize wds x = l at h
  induction l with
  | nil => rfl
  | cons w l ih =>
    rw [List.all_cons, Bool.and_eq_true] at h
    rw [List.map_cons, ih h.2, List.filterMap_cons]
    cases q : turnV w.cps.toList with
    | none => rw [q] at h; cases h.1
    | some p => rfl
theorem turn_asc {x w : Str} (ha : Asc x) (hw : w ∈ wds x) {p : Str × Int} (h : turnV w.cps.toList = some p) : Asc p.1 := by
  unfold turnV at h
  split at h
  · cases q : numV (w.cps.toList.drop (rstripL isD w.cps.toList).length) with
    | none => rw [q] at h; cases h
    | some v =>
      rw [q] at h
      cases h
      intro c hc
      have hc : c ∈ rstripL isD w.cps.toList := hc
      unfold rstripL at hc
      exact ha c ((wd_in hw).2 c (List.mem_of_mem_take hc))
  · cases h
theorem tvs_asc {x : Str} (ha : Asc x) : ∀ p ∈ tvs x, Asc p.1 := fun p hp => by
  unfold tvs at hp
  obtain ⟨w, hw, e⟩ := List.mem_filterMap.mp hp
  exact turn_asc ha hw e
theorem pla_oT {S : Sto} {p : Str × Int} (h : Asc p.1) : Pla S 20 (oT p) := Pla.tup (k := 19) fun d hd => by
  rcases List.mem_cons.mp hd with rfl | hd
  · exact .str h.ok
  · rw [List.mem_singleton] at hd
    subst hd
    exact .int
theorem turns_in_ok {x : Str} {S : Sto} (hx : x.length ≤ 640) (ha : Asc x) : f_law_turns_in [.str x] S = .ok (if tOk x then .tup ((tvs x).map oT) else .lst [.str "bad", .bl true]) S := by
  have hx' : x.length ≤ lim := Nat.le_trans hx (by decide)
  have hx1 : x.length + 1 ≤ lim := Nat.le_trans (Nat.succ_le_succ hx) (by decide)
  unfold f_law_turns_in m_law_turns_in
  refine (fnOf_eq (by rfl)).trans ?_
  show fnEnd S.length (sSeq _ _ [some (.str x), none, none, none] S) = _
  have e1 : fEq S (.str x) (.str "-") = .ok (.bl (decide (x = "-"))) S := rfl
  have e3 : sIfx (isB (sOp fEq (sV 0) (sC (.str "-")))) (sLst aNil) (sLc [2] (iSeq (sM "str" mSplit (sV 0) (aCons (sC (.str " ")) aNil))) (.nm 2) cYes (sCall f_law_turn_in (aCons (sV 2) aNil))) [some (.str x), none, none, none] S
      = .ok (.lst ((wds x).map fun w => oTurn (turnV w.cps.toList))) S := by
    unfold sIfx
    show (Res.bind (Res.bind (fEq S (.str x) (.str "-")) _) _) = _
    rw [e1]
    unfold wds
    by_cases h : x = "-"
    · simp only [bind_ok, decide_eq_true h, if_true, if_pos h]
      rfl
    · simp only [bind_ok, decide_eq_false h, Bool.false_eq_true, if_false, if_neg h]
      have z : lcGo (.nm 2) cYes (sCall f_law_turn_in (aCons (sV 2) aNil)) (wipeE [some (.str x), none, none, none] [2]) ((words x).map D.str) [] S = .ok ((words x).map fun w => oTurn (turnV w.cps.toList)) S := lc_map (words x) (fun w hw => ⟨_, rfl, rfl, by
        show f_law_turn_in [.str w] S = _
        exact law_turn_in_ok (Nat.le_trans (word_in hw).1 hx) (fun c hc => ha c ((word_in hw).2 c hc))⟩) (Nat.le_trans (words_count x) hx1)
      unfold sLc iSeq
      show Res.bind (Res.bind (mSplit S (.str x) [.str " "]) _) _ = _
      rw [split_ok hx']
      show Res.bind (lcGo (.nm 2) cYes (sCall f_law_turn_in (aCons (sV 2) aNil)) (wipeE [some (.str x), none, none, none] [2]) ((words x).map D.str) [] S) _ = _
      rw [z]
      rfl
  have pl : ∀ d ∈ (wds x).map (fun w => oTurn (turnV w.cps.toList)), Pla S 20 d := fun d hd => by
    obtain ⟨w, hw, rfl⟩ := List.mem_map.mp hd
    cases q : turnV w.cps.toList with
    | none => exact .non
    | some p => exact pla_oT (turn_asc ha hw q)
  rw [sSeq_nx (sAsg_gN e3)]
  show fnEnd S.length (sSeq _ _ [some (.str x), some (.lst ((wds x).map fun w => oTurn (turnV w.cps.toList))), none, none] S) = _
  have e4 : ∀ n : SemS, sSeq (sIf (isB (sOp fIn (sC .non) (sV 1))) (sRet (sLst (aCons (sC (.str "bad")) (aCons (sC (.bl true)) aNil)))) sNext) n [some (.str x), some (.lst ((wds x).map fun w => oTurn (turnV w.cps.toList))), none, none] S
      = if (wds x).all (fun w => (turnV w.cps.toList).isSome) then n [some (.str x), some (.lst ((wds x).map fun w => oTurn (turnV w.cps.toList))), none, none] S else .rt (.lst [.str "bad", .bl true]) S := fun n => by
    (simp only [fnOf, fnEnd, sSeq, sIf, sRet, sRetN, sNext, sDo, sAsg, gN, gTg, tgE, isB, cAnd, cOr, cNot, sAnd, sOr, sNot, sIfx, sTup, sLst, sChain, sOp, sV, sC, aNil, aCons, sCall, sF, sCallK, perm, bind_ok, bind_exc, bind_bad, ofE_ok, ofE_exc, entry, List.length_cons, List.length_nil, List.map_cons, List.map_nil, Nat.reduceAdd, Nat.reduceSub, Nat.zero_add, List.reduceReplicate, List.cons_append, List.nil_append, List.getElem?_cons_zero, List.getElem?_cons_succ, List.set_cons_zero, List.set_cons_succ, if_true, if_false, ite_true, ite_false, reduceIte, List.zip_cons_cons, List.zip_nil_left, List.zip_nil_right, List.foldl_cons, List.foldl_nil, ↓reduceIte])
    rw [non_in pl, any_non_map]
    cases (wds x).all (fun w => (turnV w.cps.toList).isSome) <;> (simp only [bind_ok, bind_exc, ofE_ok, ofE_exc, Bool.not_true, Bool.not_false, Bool.false_eq_true, Bool.true_and, Bool.false_and, Bool.and_true, Bool.and_false, if_true, if_false, ite_true, ite_false, fin_ok, all_map, List.set_cons_zero, List.set_cons_succ, List.getElem?_cons_zero, List.getElem?_cons_succ])
    simp only [List.length_cons, List.length_nil, if_pos (show 0 + 1 + 1 ≤ lim by decide), ofE_ok]
  rw [e4]
  cases q : (wds x).all (fun w => (turnV w.cps.toList).isSome) with
  | false =>
    unfold tOk
    rw [q]
    exact fin_ok rfl
  | true =>
    rw [if_pos rfl, found_eq q]
    have cl : (tvs x).length ≤ lim := Nat.le_trans (tvs_count x) hx1
    have rng : T.iRng2 (aCons (sC (.int 1)) (aCons (sF bLen (aCons (sV 1) aNil)) aNil)) [some (.str x), some (.lst ((tvs x).map oT)), none, none] S = .ok ((List.range ((tvs x).length - 1)).map fun i : Nat => D.int (1 + (i : Int))) S := by
      unfold T.iRng2 aCons
      show (if decide (-1000000 ≤ (1 : Int) ∧ (1 : Int) ≤ 1000000 ∧ -1000000 ≤ (((tvs x).map oT).length : Int) ∧ (((tvs x).map oT).length : Int) ≤ 1000000) then Res.ok (rngD 1 ((((tvs x).map oT).length : Int) - 1).toNat) S else .bad) = _
      rw [List.length_map, if_pos (decide_eq_true ⟨by omega, by omega, by omega, by unfold lim at cl; omega⟩)]
      unfold rngD
      rw [show (((tvs x).length : Int) - 1).toNat = (tvs x).length - 1 by omega]
    let nm : Nat → Str := fun i => (((tvs x)[i]?).getD ("", 0)).1
    have ixs : ∀ (k : Nat) (j : Int), j = (k : Int) → k < (tvs x).length → fIx S (.lst ((tvs x).map oT)) (.int j) = .ok (.tup [.str (nm k), .int ((((tvs x)[k]?).getD ("", 0)).2)]) S := fun k j hj hk => by
      show (match atI ((tvs x).map oT) j with | some d => Res.ok d S | none => .bad) = _
      rw [atI_nat hj (by rw [List.length_map]; exact hk)]
      show Res.ok (((tvs x).map oT)[k]'_) S = _
      rw [List.getElem_map]
      show Res.ok (oT ((tvs x)[k])) S = _
      rw [show nm k = ((tvs x)[k]).1 from by show (((tvs x)[k]?).getD ("", 0)).1 = _; rw [List.getElem?_eq_getElem hk]; rfl, List.getElem?_eq_getElem hk]
      rfl
    have cmp : sLc [3] (T.iRng2 (aCons (sC (.int 1)) (aCons (sF bLen (aCons (sV 1) aNil)) aNil))) (.nm 3) (isB (sOp fLe (sOp fIx (sOp fIx (sV 1) (sV 3)) (sC (.int 0))) (sOp fIx (sOp fIx (sV 1) (sOp fSub (sV 3) (sC (.int 1)))) (sC (.int 0))))) (sV 3) [some (.str x), some (.lst ((tvs x).map oT)), none, none] S
        = .ok (.lst (((List.range ((tvs x).length - 1)).filter fun i => !sLt (nm i) (nm (i + 1))).map fun i : Nat => D.int (1 + (i : Int)))) S :=
      sLc_ok rng (by
        have z := lc_fil (t := .nm 3) (c := isB (sOp fLe (sOp fIx (sOp fIx (sV 1) (sV 3)) (sC (.int 0))) (sOp fIx (sOp fIx (sV 1) (sOp fSub (sV 3) (sC (.int 1)))) (sC (.int 0))))) (e := sV 3) (env := wipeE [some (.str x), some (.lst ((tvs x).map oT)), none, none] [3]) (S := S) (f := fun i : Nat => D.int (1 + (i : Int))) (p := fun i => !sLt (nm i) (nm (i + 1))) (g := fun i : Nat => D.int (1 + (i : Int))) (List.range ((tvs x).length - 1)) [] (fun i hi => ⟨_, rfl, by
          have hi' : i < (tvs x).length - 1 := List.mem_range.mp hi
          show Res.bind (Res.bind (Res.bind (fIx S (.lst ((tvs x).map oT)) (.int (1 + (i : Int)))) _) fun a S1 => Res.bind (Res.bind (fIx S1 (.lst ((tvs x).map oT)) (.int (1 + (i : Int) - 1))) _) _) _ = _
          rw [ixs (i + 1) _ (by omega) (by omega)]
          show Res.bind (Res.bind (Res.bind (fIx S (.lst ((tvs x).map oT)) (.int (1 + (i : Int) - 1))) _) _) _ = _
          rw [ixs i _ (by omega) (by omega)]
          rfl, fun _ => rfl⟩) (by
            rw [List.length_range]
            simp
            omega)
        exact z)
    have emp : (((List.range ((tvs x).length - 1)).filter fun i => !sLt (nm i) (nm (i + 1))).map fun i : Nat => D.int (1 + (i : Int))).isEmpty = ascZ ((tvs x).map (·.1)) := by
      rw [List.isEmpty_map, Bool.eq_iff_iff, List.isEmpty_iff, List.filter_eq_nil_iff, all_idx]
      have nme : ∀ k (h : k < (tvs x).length), nm k = ((tvs x)[k]).1 := fun k h => by
        show (((tvs x)[k]?).getD ("", 0)).1 = _
        rw [List.getElem?_eq_getElem h]
        rfl
      constructor
      · intro z i h
        rw [List.length_map] at h
        have w := z i (List.mem_range.mpr (by omega))
        rw [List.getElem_map, List.getElem_map, ← nme i (by omega), ← nme (i + 1) h]
        simpa using w
      · intro z i hi
        have hi' : i < (tvs x).length - 1 := List.mem_range.mp hi
        have w := z i (by rw [List.length_map]; omega)
        rw [List.getElem_map, List.getElem_map, ← nme i (by omega), ← nme (i + 1) (by omega)] at w
        rw [w]
        simp
    have pl2 : ∀ d ∈ ((List.range ((tvs x).length - 1)).filter fun i => !sLt (nm i) (nm (i + 1))).map (fun i : Nat => D.int (1 + (i : Int))), Pla S 20 d := fun d hd => by
      obtain ⟨i, _, rfl⟩ := List.mem_map.mp hd
      exact .int
    (simp only [fnOf, fnEnd, sSeq, sIf, sRet, sRetN, sNext, sDo, sAsg, gN, gTg, tgE, isB, cAnd, cOr, cNot, sAnd, sOr, sNot, sIfx, sTup, sLst, sChain, sOp, sV, sC, aNil, aCons, sCall, sF, sCallK, perm, bind_ok, bind_exc, bind_bad, ofE_ok, ofE_exc, entry, List.length_cons, List.length_nil, List.map_cons, List.map_nil, Nat.reduceAdd, Nat.reduceSub, Nat.zero_add, List.reduceReplicate, List.cons_append, List.nil_append, List.getElem?_cons_zero, List.getElem?_cons_succ, List.set_cons_zero, List.set_cons_succ, if_true, if_false, ite_true, ite_false, reduceIte, List.zip_cons_cons, List.zip_nil_left, List.zip_nil_right, List.foldl_cons, List.foldl_nil, ↓reduceIte])
    rw [cmp]
    simp only [bind_ok, if_pos (Nat.zero_le lim), ne_nil pl2, emp]
    unfold tOk
    rw [q]
    cases ascZ ((tvs x).map (·.1))
    · (simp only [bind_ok, bind_exc, ofE_ok, ofE_exc, Bool.not_true, Bool.not_false, Bool.false_eq_true, Bool.true_and, Bool.false_and, Bool.and_true, Bool.and_false, if_true, if_false, ite_true, ite_false, fin_ok, all_map, List.set_cons_zero, List.set_cons_succ, List.getElem?_cons_zero, List.getElem?_cons_succ])
      simp only [List.length_cons, List.length_nil, if_pos (show 0 + 1 + 1 ≤ lim by decide), ofE_ok]
      rw [fin_ok rfl]
    · (simp only [bind_ok, bind_exc, ofE_ok, ofE_exc, Bool.not_true, Bool.not_false, Bool.false_eq_true, Bool.true_and, Bool.false_and, Bool.and_true, Bool.and_false, if_true, if_false, ite_true, ite_false, fin_ok, all_map, List.set_cons_zero, List.set_cons_succ, List.getElem?_cons_zero, List.getElem?_cons_succ])
      simp only [bTuple, rd, ofE_ok]
      rw [fin_ok rfl]
end K20
end S_K20M8
section S_K20M9
set_option Elab.async false
set_option linter.all false
set_option maxRecDepth 100000
set_option maxHeartbeats 4000000
namespace K20
open PySem L2 T
theorem heard_gen {x : Str} {S : Sto} {k : Int} {d : D} {b : Bool} (h : sIfx (isB (sOp fEq (sV 0) (sC (.int 0)))) (sCall f_read_names (aCons (sV 1) aNil)) (sCall f_read_turns (aCons (sV 1) aNil)) [some (.int k), some (.str x), some .non, some .non, none] S = if b then .ok d S else .exc "BadText" [] S) :
    f_law_heard [.int k, .str x] S = .ok (if b then d else .lst [.str "bad", .bl true]) S := by
  unfold f_law_heard m_law_heard
  refine (fnOf_eq (by rfl)).trans ?_
  show fnEnd S.length (sSeq _ _ [some (.int k), some (.str x), none, none, none] S) = _
  rw [sSeq_nx (show sAsg (sTup (aCons (sC .non) (aCons (sC .non) aNil))) (gTg (.tp [2, 3])) [some (.int k), some (.str x), none, none, none] S = .nx [some (.int k), some (.str x), some .non, some .non, none] S from rfl)]
  cases b with
  | true =>
    have e : sTry (sAsg (sIfx (isB (sOp fEq (sV 0) (sC (.int 0)))) (sCall f_read_names (aCons (sV 1) aNil)) (sCall f_read_turns (aCons (sV 1) aNil))) (gN 3)) xm_BadText 4 (sAsg (sV 4) (gN 2)) [some (.int k), some (.str x), some .non, some .non, none] S = .nx [some (.int k), some (.str x), some .non, some d, none] S := by
      unfold sTry
      rw [sAsg_gN (h.trans (if_pos rfl))]
      rfl
    rw [sSeq_nx e]
    exact fin_ok rfl
  | false =>
    have e : sTry (sAsg (sIfx (isB (sOp fEq (sV 0) (sC (.int 0)))) (sCall f_read_names (aCons (sV 1) aNil)) (sCall f_read_turns (aCons (sV 1) aNil))) (gN 3)) xm_BadText 4 (sAsg (sV 4) (gN 2)) [some (.int k), some (.str x), some .non, some .non, none] S = .nx [some (.int k), some (.str x), some (.exc "BadText" []), some .non, none] S := by
      unfold sTry
      rw [show sAsg (sIfx (isB (sOp fEq (sV 0) (sC (.int 0)))) (sCall f_read_names (aCons (sV 1) aNil)) (sCall f_read_turns (aCons (sV 1) aNil))) (gN 3) [some (.int k), some (.str x), some .non, some .non, none] S = .exc "BadText" [] [some (.int k), some (.str x), some .non, some .non, none] S from by
        unfold sAsg
        rw [h.trans (if_neg (by decide))]
        rfl]
      simp only [show xm_BadText "BadText" = some true from by decide +kernel]
      rfl
    rw [sSeq_nx e]
    have e2 : sIsi xt "ValueError" (sV 2) [some (.int k), some (.str x), some (.exc "BadText" []), some .non, none] S = .ok (.bl true) S := sIsi_ok (d := .exc "BadText" []) rfl (show xt "BadText" "ValueError" = some true from by decide +kernel)
    (simp only [fnOf, fnEnd, sSeq, sIf, sRet, sRetN, sNext, sDo, sAsg, gN, gTg, tgE, isB, cAnd, cOr, cNot, sAnd, sOr, sNot, sIfx, sTup, sLst, sChain, sOp, sV, sC, aNil, aCons, sCall, sF, sCallK, perm, bind_ok, bind_exc, bind_bad, ofE_ok, ofE_exc, entry, List.length_cons, List.length_nil, List.map_cons, List.map_nil, Nat.reduceAdd, Nat.reduceSub, Nat.zero_add, List.reduceReplicate, List.cons_append, List.nil_append, List.getElem?_cons_zero, List.getElem?_cons_succ, List.set_cons_zero, List.set_cons_succ, if_true, if_false, ite_true, ite_false, reduceIte, List.zip_cons_cons, List.zip_nil_left, List.zip_nil_right, List.foldl_cons, List.foldl_nil, ↓reduceIte])
    simp only [fIsN, bind_ok]
    (simp only [bind_ok, bind_exc, ofE_ok, ofE_exc, Bool.not_true, Bool.not_false, Bool.false_eq_true, Bool.true_and, Bool.false_and, Bool.and_true, Bool.and_false, if_true, if_false, ite_true, ite_false, fin_ok, all_map, List.set_cons_zero, List.set_cons_succ, List.getElem?_cons_zero, List.getElem?_cons_succ])
    rw [e2]
    simp only [bind_ok, List.length_cons, List.length_nil, if_pos (show 0 + 1 + 1 ≤ lim by decide), ofE_ok]
    rw [fin_ok rfl]
theorem heard0_ok {x : Str} {S : Sto} (hx : x.length ≤ 640) : f_law_heard [.int 0, .str x] S = .ok (if (wds x).all nmB then .tup (sts (wds x)) else .lst [.str "bad", .bl true]) S :=
  heard_gen (by
    show f_read_names [.str x] S = _
    exact read_names_ok (Nat.lt_of_le_of_lt hx (by decide)))
theorem heard1_ok {x : Str} {S : Sto} (hx : x.length ≤ 640) : f_law_heard [.int 1, .str x] S = .ok (if tOk x then .tup ((tvs x).map oT) else .lst [.str "bad", .bl true]) S :=
  heard_gen (by
    show f_read_turns [.str x] S = _
    exact read_turns_ok hx)
/-! ### the same data -/
inductive Sm : Nat → D → Prop
  | non {k} : Sm (k + 1) .non
  | bl {k b} : Sm (k + 1) (.bl b)
  | int {k i} : Sm (k + 1) (.int i)
  | str {k x} : Sm (k + 1) (.str x)
  | tup {k ds} : ds.length ≤ lim → (∀ d ∈ ds, Sm k d) → Sm (k + 1) (.tup ds)
  | lst {k ds} : ds.length ≤ lim → (∀ d ∈ ds, Sm k d) → Sm (k + 1) (.lst ds)
theorem zip_self (ds : List D) : zipD ds ds = ds.map fun d => D.tup [d, d] := by
  unfold zipD
  induction ds with
  | nil => rfl
  | cons d r ih => rw [List.zipWith_cons_cons, ih, List.map_cons]
theorem all_true {S : Sto} (ds : List D) : bAll S [.lst (ds.map fun _ => D.bl true)] = .ok (.bl true) S := by
  rw [all_map]
  congr 2
  exact List.all_eq_true.mpr fun _ _ => rfl
theorem same_ok {S : Sto} : ∀ (k : Nat) (d : D), Sm k d → f_law_same k [d, d] S = .ok (.bl true) S := by
  intro k
  induction k with
  | zero => intro d h; cases h
  | succ k ih =>
    intro d h
    unfold f_law_same m_law_same
    refine (fnOf_eq (by rfl)).trans ?_
    show fnEnd S.length (sSeq _ _ [some d, some d, none, none] S) = _
    cases h with
    | non => exact fin_ok rfl
    | bl =>
      rename_i b
      cases b <;> exact fin_ok rfl
    | int =>
      rename_i i
      refine Eq.trans (b := fin S.length (.bl (decide (i = i))) S) rfl ?_
      rw [decide_eq_true rfl]
      exact fin_ok rfl
    | str =>
      rename_i x
      have e : fEq S (.str x) (.str x) = .ok (.bl true) S := by
        show Res.ok (D.bl (decide (x = x))) S = _
        rw [decide_eq_true rfl]
      have e1 : sIsi2 "list" "tuple" (sV 1) [some (.str x), some (.str x), none, none] S = .ok (.bl false) S := rfl
      have e2 : sIsi2 "bool" "str" (sV 1) [some (.str x), some (.str x), none, none] S = .ok (.bl true) S := rfl
      have e3 : sIsi xt "bool" (sV 0) [some (.str x), some (.str x), none, none] S = .ok (.bl false) S := rfl
      have e4 : sIsi xt "bool" (sV 1) [some (.str x), some (.str x), none, none] S = .ok (.bl false) S := rfl
      (simp only [fnOf, fnEnd, sSeq, sIf, sRet, sRetN, sNext, sDo, sAsg, gN, gTg, tgE, isB, cAnd, cOr, cNot, sAnd, sOr, sNot, sIfx, sTup, sLst, sChain, sOp, sV, sC, aNil, aCons, sCall, sF, sCallK, perm, bind_ok, bind_exc, bind_bad, ofE_ok, ofE_exc, entry, List.length_cons, List.length_nil, List.map_cons, List.map_nil, Nat.reduceAdd, Nat.reduceSub, Nat.zero_add, List.reduceReplicate, List.cons_append, List.nil_append, List.getElem?_cons_zero, List.getElem?_cons_succ, List.set_cons_zero, List.set_cons_succ, if_true, if_false, ite_true, ite_false, reduceIte, List.zip_cons_cons, List.zip_nil_left, List.zip_nil_right, List.foldl_cons, List.foldl_nil, ↓reduceIte])
      simp only [e1, bind_ok]
      (simp only [bind_ok, bind_exc, ofE_ok, ofE_exc, Bool.not_true, Bool.not_false, Bool.false_eq_true, Bool.true_and, Bool.false_and, Bool.and_true, Bool.and_false, if_true, if_false, ite_true, ite_false, fin_ok, all_map, List.set_cons_zero, List.set_cons_succ, List.getElem?_cons_zero, List.getElem?_cons_succ])
      simp only [fIsN, bind_ok]
      (simp only [bind_ok, bind_exc, ofE_ok, ofE_exc, Bool.not_true, Bool.not_false, Bool.false_eq_true, Bool.true_and, Bool.false_and, Bool.and_true, Bool.and_false, if_true, if_false, ite_true, ite_false, fin_ok, all_map, List.set_cons_zero, List.set_cons_succ, List.getElem?_cons_zero, List.getElem?_cons_succ])
      simp only [e2, bind_ok]
      (simp only [bind_ok, bind_exc, ofE_ok, ofE_exc, Bool.not_true, Bool.not_false, Bool.false_eq_true, Bool.true_and, Bool.false_and, Bool.and_true, Bool.and_false, if_true, if_false, ite_true, ite_false, fin_ok, all_map, List.set_cons_zero, List.set_cons_succ, List.getElem?_cons_zero, List.getElem?_cons_succ])
      simp only [e, e3, e4, bind_ok]
      rw [show fEq S (.bl false) (.bl false) = .ok (.bl true) S from rfl]
      simp only [bind_ok, ofE_ok]
      exact fin_ok rfl
    | tup hl hd =>
      rename_i ds
      have e1 : sIsi2 "list" "tuple" (sV 1) [some (.tup ds), some (.tup ds), none, none] S = .ok (.bl true) S := rfl
      have e2 : sIsi xt "list" (sV 0) [some (.tup ds), some (.tup ds), none, none] S = .ok (.bl false) S := rfl
      have e3 : sIsi xt "list" (sV 1) [some (.tup ds), some (.tup ds), none, none] S = .ok (.bl false) S := rfl
      have e4 : sIsi xt "tuple" (sV 0) [some (.tup ds), some (.tup ds), none, none] S = .ok (.bl true) S := rfl
      have e5 : sIsi xt "tuple" (sV 1) [some (.tup ds), some (.tup ds), none, none] S = .ok (.bl true) S := rfl
      have e6 : sLc [3, 2] (iZipS (aCons (sV 0) (aCons (sV 1) aNil))) (.tp [3, 2]) cYes (sCall (f_law_same k) (aCons (sV 3) (aCons (sV 2) aNil))) [some (.tup ds), some (.tup ds), none, none] S = .ok (.lst (ds.map fun _ => .bl true)) S :=
        sLc_ok (S1 := S) (ds := ds.map fun d => D.tup [d, d]) (by rw [← zip_self]; rfl) (lc_map ds (fun d h => ⟨_, rfl, rfl, by
          show f_law_same k [d, d] S = _
          exact ih d (hd d h)⟩) hl)
      have e7 : fEq S (.int (ds.length : Int)) (.int (ds.length : Int)) = .ok (.bl true) S := by
        show Res.ok (D.bl (decide ((ds.length : Int) = ds.length))) S = _
        rw [decide_eq_true rfl]
      (simp only [fnOf, fnEnd, sSeq, sIf, sRet, sRetN, sNext, sDo, sAsg, gN, gTg, tgE, isB, cAnd, cOr, cNot, sAnd, sOr, sNot, sIfx, sTup, sLst, sChain, sOp, sV, sC, aNil, aCons, sCall, sF, sCallK, perm, bind_ok, bind_exc, bind_bad, ofE_ok, ofE_exc, entry, List.length_cons, List.length_nil, List.map_cons, List.map_nil, Nat.reduceAdd, Nat.reduceSub, Nat.zero_add, List.reduceReplicate, List.cons_append, List.nil_append, List.getElem?_cons_zero, List.getElem?_cons_succ, List.set_cons_zero, List.set_cons_succ, if_true, if_false, ite_true, ite_false, reduceIte, List.zip_cons_cons, List.zip_nil_left, List.zip_nil_right, List.foldl_cons, List.foldl_nil, ↓reduceIte])
      simp only [e1, bind_ok]
      (simp only [bind_ok, bind_exc, ofE_ok, ofE_exc, Bool.not_true, Bool.not_false, Bool.false_eq_true, Bool.true_and, Bool.false_and, Bool.and_true, Bool.and_false, if_true, if_false, ite_true, ite_false, fin_ok, all_map, List.set_cons_zero, List.set_cons_succ, List.getElem?_cons_zero, List.getElem?_cons_succ])
      simp only [e2, e3, e4, e5, bind_ok]
      rw [show fNe S (.bl false) (.bl false) = .ok (.bl false) S from rfl]
      simp only [bind_ok]
      (simp only [bind_ok, bind_exc, ofE_ok, ofE_exc, Bool.not_true, Bool.not_false, Bool.false_eq_true, Bool.true_and, Bool.false_and, Bool.and_true, Bool.and_false, if_true, if_false, ite_true, ite_false, fin_ok, all_map, List.set_cons_zero, List.set_cons_succ, List.getElem?_cons_zero, List.getElem?_cons_succ])
      simp only [e4, e5, bind_ok]
      rw [show fNe S (.bl true) (.bl true) = .ok (.bl false) S from rfl]
      simp only [bind_ok]
      (simp only [bind_ok, bind_exc, ofE_ok, ofE_exc, Bool.not_true, Bool.not_false, Bool.false_eq_true, Bool.true_and, Bool.false_and, Bool.and_true, Bool.and_false, if_true, if_false, ite_true, ite_false, fin_ok, all_map, List.set_cons_zero, List.set_cons_succ, List.getElem?_cons_zero, List.getElem?_cons_succ])
      simp only [len_tup, bind_ok, e7, e6, all_true, ofE_ok]
      exact fin_ok rfl
    | lst hl hd =>
      rename_i ds
      have e1 : sIsi2 "list" "tuple" (sV 1) [some (.lst ds), some (.lst ds), none, none] S = .ok (.bl true) S := rfl
      have e2 : sIsi xt "list" (sV 0) [some (.lst ds), some (.lst ds), none, none] S = .ok (.bl true) S := rfl
      have e3 : sIsi xt "list" (sV 1) [some (.lst ds), some (.lst ds), none, none] S = .ok (.bl true) S := rfl
      have e4 : sIsi xt "tuple" (sV 0) [some (.lst ds), some (.lst ds), none, none] S = .ok (.bl false) S := rfl
      have e5 : sIsi xt "tuple" (sV 1) [some (.lst ds), some (.lst ds), none, none] S = .ok (.bl false) S := rfl
      have e6 : sLc [3, 2] (iZipS (aCons (sV 0) (aCons (sV 1) aNil))) (.tp [3, 2]) cYes (sCall (f_law_same k) (aCons (sV 3) (aCons (sV 2) aNil))) [some (.lst ds), some (.lst ds), none, none] S = .ok (.lst (ds.map fun _ => .bl true)) S :=
        sLc_ok (S1 := S) (ds := ds.map fun d => D.tup [d, d]) (by rw [← zip_self]; rfl) (lc_map ds (fun d h => ⟨_, rfl, rfl, by
          show f_law_same k [d, d] S = _
          exact ih d (hd d h)⟩) hl)
      have e7 : fEq S (.int (ds.length : Int)) (.int (ds.length : Int)) = .ok (.bl true) S := by
        show Res.ok (D.bl (decide ((ds.length : Int) = ds.length))) S = _
        rw [decide_eq_true rfl]
      (simp only [fnOf, fnEnd, sSeq, sIf, sRet, sRetN, sNext, sDo, sAsg, gN, gTg, tgE, isB, cAnd, cOr, cNot, sAnd, sOr, sNot, sIfx, sTup, sLst, sChain, sOp, sV, sC, aNil, aCons, sCall, sF, sCallK, perm, bind_ok, bind_exc, bind_bad, ofE_ok, ofE_exc, entry, List.length_cons, List.length_nil, List.map_cons, List.map_nil, Nat.reduceAdd, Nat.reduceSub, Nat.zero_add, List.reduceReplicate, List.cons_append, List.nil_append, List.getElem?_cons_zero, List.getElem?_cons_succ, List.set_cons_zero, List.set_cons_succ, if_true, if_false, ite_true, ite_false, reduceIte, List.zip_cons_cons, List.zip_nil_left, List.zip_nil_right, List.foldl_cons, List.foldl_nil, ↓reduceIte])
      simp only [e1, bind_ok]
      (simp only [bind_ok, bind_exc, ofE_ok, ofE_exc, Bool.not_true, Bool.not_false, Bool.false_eq_true, Bool.true_and, Bool.false_and, Bool.and_true, Bool.and_false, if_true, if_false, ite_true, ite_false, fin_ok, all_map, List.set_cons_zero, List.set_cons_succ, List.getElem?_cons_zero, List.getElem?_cons_succ])
      simp only [e2, e3, e4, e5, bind_ok]
      rw [show fNe S (.bl true) (.bl true) = .ok (.bl false) S from rfl]
      simp only [bind_ok]
      (simp only [bind_ok, bind_exc, ofE_ok, ofE_exc, Bool.not_true, Bool.not_false, Bool.false_eq_true, Bool.true_and, Bool.false_and, Bool.and_true, Bool.and_false, if_true, if_false, ite_true, ite_false, fin_ok, all_map, List.set_cons_zero, List.set_cons_succ, List.getElem?_cons_zero, List.getElem?_cons_succ])
      simp only [e4, e5, bind_ok]
      rw [show fNe S (.bl false) (.bl false) = .ok (.bl false) S from rfl]
      simp only [bind_ok]
      (simp only [bind_ok, bind_exc, ofE_ok, ofE_exc, Bool.not_true, Bool.not_false, Bool.false_eq_true, Bool.true_and, Bool.false_and, Bool.and_true, Bool.and_false, if_true, if_false, ite_true, ite_false, fin_ok, all_map, List.set_cons_zero, List.set_cons_succ, List.getElem?_cons_zero, List.getElem?_cons_succ])
      simp only [len_lst, bind_ok, e7, e6, all_true, ofE_ok]
      exact fin_ok rfl
end K20
end S_K20M9
section S_K20M10
set_option Elab.async false
set_option linter.all false
set_option maxRecDepth 100000
set_option maxHeartbeats 4000000
namespace K20
open PySem L2 T
def rowT (l : List Str) : Str := if l.isEmpty then "-" else joinS " " l
theorem join_okL {l : List Str} {S : Sto} (h : sumLen l + l.length ≤ lim) : mJoin S (.str " ") [.lst (sts l)] = .ok (.str (joinS " " l)) S := by
  show (match strsOf (sts l) with | some ys => if sumLen ys + ys.length * (" " : Str).length ≤ lim then Res.ok (D.str (joinS " " ys)) S else .bad | none => .bad) = _
  rw [strs_map]
  show (if sumLen l + l.length * 1 ≤ lim then _ else _) = _
  rw [if_pos (by omega)]
theorem join_okT {l : List Str} {S : Sto} (h : sumLen l + l.length ≤ lim) : mJoin S (.str " ") [.tup (sts l)] = .ok (.str (joinS " " l)) S := by
  show (match strsOf (sts l) with | some ys => if sumLen ys + ys.length * (" " : Str).length ≤ lim then Res.ok (D.str (joinS " " ys)) S else .bad | none => .bad) = _
  rw [strs_map]
  show (if sumLen l + l.length * 1 ≤ lim then _ else _) = _
  rw [if_pos (by omega)]
theorem names_textL {l : List Str} {S : Sto} (h : sumLen l + l.length ≤ lim) : f_names_text [.lst (sts l)] S = .ok (.str (rowT l)) S := by
  unfold f_names_text m_names_text
  refine (fnOf_eq (by rfl)).trans ?_
  show fnEnd S.length (sRet _ [some (.lst (sts l))] S) = _
  have e : sM "str" mJoin (sC (.str " ")) (aCons (sV 0) aNil) [some (.lst (sts l))] S = .ok (.str (joinS " " l)) S := join_okL h
  unfold rowT
  (simp only [fnOf, fnEnd, sSeq, sIf, sRet, sRetN, sNext, sDo, sAsg, gN, gTg, tgE, isB, cAnd, cOr, cNot, sAnd, sOr, sNot, sIfx, sTup, sLst, sChain, sOp, sV, sC, aNil, aCons, sCall, sF, sCallK, perm, bind_ok, bind_exc, bind_bad, ofE_ok, ofE_exc, entry, List.length_cons, List.length_nil, List.map_cons, List.map_nil, Nat.reduceAdd, Nat.reduceSub, Nat.zero_add, List.reduceReplicate, List.cons_append, List.nil_append, List.getElem?_cons_zero, List.getElem?_cons_succ, List.set_cons_zero, List.set_cons_succ, if_true, if_false, ite_true, ite_false, reduceIte, List.zip_cons_cons, List.zip_nil_left, List.zip_nil_right, List.foldl_cons, List.foldl_nil, ↓reduceIte])
  simp only [len_lst, bind_ok, e_gt, e]
  cases l with
  | nil => exact fin_ok rfl
  | cons a r =>
    rw [show decide ((0 : Int) < ((sts (a :: r)).length : Nat)) = true from decide_eq_true (by simp)]
    simp only [if_true, ofE_ok]
    exact fin_ok rfl
theorem names_textT {l : List Str} {S : Sto} (h : sumLen l + l.length ≤ lim) : f_names_text [.tup (sts l)] S = .ok (.str (rowT l)) S := by
  unfold f_names_text m_names_text
  refine (fnOf_eq (by rfl)).trans ?_
  show fnEnd S.length (sRet _ [some (.tup (sts l))] S) = _
  have e : sM "str" mJoin (sC (.str " ")) (aCons (sV 0) aNil) [some (.tup (sts l))] S = .ok (.str (joinS " " l)) S := join_okT h
  unfold rowT
  (simp only [fnOf, fnEnd, sSeq, sIf, sRet, sRetN, sNext, sDo, sAsg, gN, gTg, tgE, isB, cAnd, cOr, cNot, sAnd, sOr, sNot, sIfx, sTup, sLst, sChain, sOp, sV, sC, aNil, aCons, sCall, sF, sCallK, perm, bind_ok, bind_exc, bind_bad, ofE_ok, ofE_exc, entry, List.length_cons, List.length_nil, List.map_cons, List.map_nil, Nat.reduceAdd, Nat.reduceSub, Nat.zero_add, List.reduceReplicate, List.cons_append, List.nil_append, List.getElem?_cons_zero, List.getElem?_cons_succ, List.set_cons_zero, List.set_cons_succ, if_true, if_false, ite_true, ite_false, reduceIte, List.zip_cons_cons, List.zip_nil_left, List.zip_nil_right, List.foldl_cons, List.foldl_nil, ↓reduceIte])
  simp only [len_tup, bind_ok, e_gt, e]
  cases l with
  | nil => exact fin_ok rfl
  | cons a r =>
    rw [show decide ((0 : Int) < ((sts (a :: r)).length : Nat)) = true from decide_eq_true (by simp)]
    simp only [if_true, ofE_ok]
    exact fin_ok rfl
/-- a turn's word -/
def tw (p : Str × Int) : Str := p.1 ++ Str.ofString (toString p.2)
structure GoodT (p : Str × Int) : Prop where
  nm : nmB p.1 = true
  lo : 0 ≤ p.2
  hi : p.2 < 10 ^ 39
theorem nm_len {x : Str} (h : nmB x = true) : x.length ≤ 8 := by
  have := (nmB_all (l := x.cps.toList) h).2.2
  rw [Array.length_toList] at this
  exact this
theorem num_nat {v : Int} (h : 0 ≤ v) : ∃ n : Nat, v = (n : Int) := ⟨v.toNat, by omega⟩
theorem num_len {v : Int} (h0 : 0 ≤ v) (h1 : v < 10 ^ 39) : (Str.ofString (toString v)).length ≤ 39 := by
  obtain ⟨n, rfl⟩ := num_nat h0
  rw [TL.len_tl, TL.tl_num]
  exact TL.numL_len (by decide) (by
    have : ((n : Nat) : Int) < ((10 ^ 39 : Nat) : Int) := by simpa using h1
    omega)
theorem num_log {v : Int} (h0 : 0 ≤ v) (h1 : v < 10 ^ 39) : v.natAbs.log2 < 1920 := by
  have h : v.natAbs < 2 ^ 1920 := by
    have : v.natAbs < 10 ^ 39 := by omega
    exact Nat.lt_of_lt_of_le this (Nat.le_trans (show 10 ^ 39 ≤ 2 ^ 200 by decide) (Nat.pow_le_pow_right (by decide) (by decide)))
  by_cases z : v.natAbs = 0
  · rw [z]; decide
  · exact (Nat.log2_lt z).mpr h
theorem tw_ok {p : Str × Int} {S : Sto} (g : GoodT p) : (bStr S [.int p.2]).bind (fun y S2 => fAdd S2 (.str p.1) y) = .ok (.str (tw p)) S := by
  show Res.bind (if p.2.natAbs.log2 < 1920 then Res.ok (D.str (Str.ofString (toString p.2))) S else .bad) _ = _
  rw [if_pos (num_log g.lo g.hi), bind_ok]
  show (if p.1.length + (Str.ofString (toString p.2)).length ≤ lim then _ else _) = _
  rw [if_pos (by have := nm_len g.nm; have := num_len g.lo g.hi; unfold lim; omega)]
  rfl
end K20
end S_K20M10
section S_K20M11
set_option Elab.async false
set_option linter.all false
set_option maxRecDepth 100000
set_option maxHeartbeats 4000000
namespace K20
open PySem L2 T
theorem num_head (n : Nat) (h : 1 ≤ n) : (TL.numL n).head? ≠ some 48 := by
  induction n using Nat.strongRecOn with
  | _ n ih =>
    by_cases q : n < 10
    · rw [TL.numL_lt q]
      simp
      omega
    · rw [TL.numL_step (by omega)]
      have z := ih (n / 10) (by omega) (by omega)
      have ne := TL.numL_ne (n / 10)
      cases w : TL.numL (n / 10) with
      | nil => exact absurd w ne
      | cons c r =>
        rw [w] at z
        exact z
theorem numV_num (n : Nat) : numV (TL.numL n) = some (n : Int) := by
  unfold numV
  have h1 : (TL.numL n).isEmpty = false := by
    cases q : TL.numL n with
    | nil => exact absurd q (TL.numL_ne n)
    | cons c r => rfl
  have h2 : (TL.numL n).all isD = true := List.all_eq_true.mpr fun c hc => isD_iff.mpr (TL.numL_digits n c hc)
  have h3 : (decide ((TL.numL n).head? = some 48) && decide (1 < (TL.numL n).length)) = false := by
    by_cases q : 1 ≤ n
    · rw [decide_eq_false (num_head n q)]
      rfl
    · have : n = 0 := by omega
      subst this
      decide +kernel
  rw [h1, h2, h3, TL.numL_val]
  rfl
theorem tw_codes {p : Str × Int} (g : GoodT p) : (tw p).cps.toList = p.1.cps.toList ++ TL.numL p.2.toNat := by
  obtain ⟨n, e⟩ := num_nat g.lo
  unfold tw
  rw [e, Int.toNat_natCast]
  have := TL.tl_append p.1 (Str.ofString (toString ((n : Nat) : Int)))
  rw [TL.tl_num] at this
  exact this
theorem turnV_tw {p : Str × Int} (g : GoodT p) : turnV (tw p).cps.toList = some p := by
  have al := (nmB_all (l := p.1.cps.toList) g.nm).1
  have r := rstrip_app (p := isD) (a := p.1.cps.toList) (b := TL.numL p.2.toNat) (fun c hc => isD_iff.mpr (TL.numL_digits _ c hc)) (fun c hc => letter_no (al c hc))
  unfold turnV
  rw [tw_codes g, r, List.drop_left', numV_num]
  · rw [show mkS p.1.cps.toList = p.1 from rfl, if_pos g.nm]
    show some (p.1, ((p.2.toNat : Nat) : Int)) = some p
    rw [Int.toNat_of_nonneg g.lo]
  · rfl
theorem tl_cps (x : Str) : TL.tl x = x.cps.toList := rfl
theorem words_join {l : List Str} (h : l ≠ []) (hn : ∀ w ∈ l, 32 ∉ w.cps.toList) : words (joinS " " l) = l := by
  unfold words splitS joinS
  have e : TL.tl (" " : Str) = [32] := by decide +kernel
  rw [e]
  show ((TL.spl [32] 0 [] (TL.joinL [32] (l.map TL.tl))).map mkS) = l
  rw [TL.spl_join (by simpa using h) (fun p hp => by
    obtain ⟨w, hw, rfl⟩ := List.mem_map.mp hp
    exact hn w hw), List.map_map]
  exact (List.map_congr_left (fun x _ => rfl)).trans (List.map_id _)
theorem joinL_head {c : Nat} {r : List Nat} {ps : List (List Nat)} {Z : List Nat} : (TL.joinL Z ((c :: r) :: ps)).head? = some c := by
  cases ps <;> rfl
theorem wds_row {l : List Str} (hn : ∀ w ∈ l, 32 ∉ w.cps.toList) (h0 : ∀ w ∈ l, ∃ c r, w.cps.toList = c :: r ∧ c ≠ 45) : wds (rowT l) = l := by
  unfold rowT
  cases l with
  | nil => decide +kernel
  | cons a r =>
    show wds (joinS " " (a :: r)) = _
    unfold wds
    rw [if_neg, words_join (by simp) hn]
    intro e
    obtain ⟨c, t, ec, nc⟩ := h0 a List.mem_cons_self
    have z := congrArg (fun z : Str => z.cps.toList.head?) e
    have y : (joinS " " (a :: r)).cps.toList.head? = some c := by
      show (TL.joinL (TL.tl " ") (TL.tl a :: r.map TL.tl)).head? = some c
      rw [tl_cps a, ec]
      exact joinL_head
    have z : (joinS " " (a :: r)).cps.toList.head? = ("-" : Str).cps.toList.head? := z
    rw [y, show ("-" : Str).cps.toList = [45] from by decide +kernel] at z
    simp at z
    exact nc z
theorem name_facts {w : Str} (h : nmB w = true) : 32 ∉ w.cps.toList ∧ ∃ c r, w.cps.toList = c :: r ∧ c ≠ 45 := by
  obtain ⟨h1, h2, h3⟩ := nmB_all (l := w.cps.toList) h
  refine ⟨fun hm => by have := isL_iff.mp (h1 32 hm); omega, ?_⟩
  cases q : w.cps.toList with
  | nil => rw [q] at h2; simp at h2
  | cons c r => exact ⟨c, r, rfl, fun e => by have := isL_iff.mp (h1 c (by rw [q]; exact List.mem_cons_self)); omega⟩
theorem tw_facts {p : Str × Int} (g : GoodT p) : 32 ∉ (tw p).cps.toList ∧ ∃ c r, (tw p).cps.toList = c :: r ∧ c ≠ 45 := by
  obtain ⟨h1, c, r, e, nc⟩ := name_facts g.nm
  rw [tw_codes g]
  refine ⟨fun hm => ?_, c, r ++ TL.numL p.2.toNat, by rw [e]; rfl, nc⟩
  rcases List.mem_append.mp hm with z | z
  · exact h1 z
  · exact TL.numL_free (by omega) z
theorem tags_trip {l : List Str} (h : ∀ w ∈ l, nmB w = true) : wds (rowT l) = l ∧ (wds (rowT l)).all nmB = true := by
  have e := wds_row (l := l) (fun w hw => (name_facts (h w hw)).1) (fun w hw => (name_facts (h w hw)).2)
  exact ⟨e, by rw [e]; exact List.all_eq_true.mpr h⟩
theorem turns_trip {ps : List (Str × Int)} (h : ∀ p ∈ ps, GoodT p) (ha : ascZ (ps.map (·.1)) = true) : tvs (rowT (ps.map tw)) = ps ∧ tOk (rowT (ps.map tw)) = true := by
  have e := wds_row (l := ps.map tw) (fun w hw => by obtain ⟨p, hp, rfl⟩ := List.mem_map.mp hw; exact (tw_facts (h p hp)).1) (fun w hw => by obtain ⟨p, hp, rfl⟩ := List.mem_map.mp hw; exact (tw_facts (h p hp)).2)
  have t : tvs (rowT (ps.map tw)) = ps := by
    unfold tvs
    rw [e]
    clear e ha
    induction ps with
    | nil => rfl
    | cons p r ih => rw [List.map_cons, List.filterMap_cons, turnV_tw (h p List.mem_cons_self), ih fun q hq => h q (List.mem_cons_of_mem _ hq)]
  refine ⟨t, ?_⟩
  unfold tOk
  rw [t, ha, e, Bool.and_true, List.all_map]
  exact List.all_eq_true.mpr fun p hp => by
    show (turnV (tw p).cps.toList).isSome = true
    rw [turnV_tw (h p hp)]
    rfl
end K20
end S_K20M11
section S_K20M12
set_option Elab.async false
set_option linter.all false
set_option maxRecDepth 100000
set_option maxHeartbeats 4000000
namespace K20
open PySem L2 T
abbrev oL (p : Str × Int) : D := .lst [.str p.1, .int p.2]
theorem sum_tw {ps : List (Str × Int)} (h : ∀ p ∈ ps, GoodT p) : sumLen (ps.map tw) ≤ ps.length * 47 := by
  unfold sumLen
  induction ps with
  | nil => simp
  | cons p r ih =>
    have := ih fun q hq => h q (List.mem_cons_of_mem _ hq)
    have g := h p List.mem_cons_self
    have l1 : (tw p).length ≤ 47 := by
      have e := congrArg List.length (tw_codes g)
      rw [Array.length_toList, List.length_append, Array.length_toList] at e
      have a := nm_len g.nm
      have b : (TL.numL p.2.toNat).length ≤ 39 := TL.numL_len (by decide) (by
        have := g.hi
        have := g.lo
        omega)
      show (tw p).cps.size ≤ 47
      have a : p.1.cps.size ≤ 8 := a
      omega
    simp only [List.map_cons, List.sum_cons, List.length_cons] at *
    omega
theorem turns_textT {ps : List (Str × Int)} {S : Sto} (h : ∀ p ∈ ps, GoodT p) (hl : ps.length ≤ 1000) : f_turns_text [.tup (ps.map oT)] S = .ok (.str (rowT (ps.map tw))) S := by
  unfold f_turns_text m_turns_text
  refine (fnOf_eq (by rfl)).trans ?_
  show fnEnd S.length (sRet _ [some (.tup (ps.map oT)), none, none] S) = _
  have e : sLc [1, 2] (iSeq (sV 0)) (.tp [1, 2]) cYes (sOp fAdd (sV 1) (sF bStr (aCons (sV 2) aNil))) [some (.tup (ps.map oT)), none, none] S = .ok (.lst (sts (ps.map tw))) S := by
    have z := sLc_ok (vs := [1, 2]) (i := iSeq (sV 0)) (t := .tp [1, 2]) (c := cYes) (e := sOp fAdd (sV 1) (sF bStr (aCons (sV 2) aNil))) (env := [some (.tup (ps.map oT)), none, none]) (S := S) (rfl : _ = Res.ok (ps.map oT) S) (lc_map (f := oT) (g := fun p => D.str (tw p)) ps (fun p hp => ⟨_, rfl, rfl, tw_ok (h p hp)⟩) (by unfold lim; omega))
    rw [z, sts, List.map_map]
    rfl
  unfold sRet
  rw [call1 e, names_textL (by have := sum_tw h; rw [List.length_map]; unfold lim; omega)]
  exact fin_ok rfl
theorem turns_textL {ps : List (Str × Int)} {S : Sto} (h : ∀ p ∈ ps, GoodT p) (hl : ps.length ≤ 1000) : f_turns_text [.lst (ps.map oL)] S = .ok (.str (rowT (ps.map tw))) S := by
  unfold f_turns_text m_turns_text
  refine (fnOf_eq (by rfl)).trans ?_
  show fnEnd S.length (sRet _ [some (.lst (ps.map oL)), none, none] S) = _
  have e : sLc [1, 2] (iSeq (sV 0)) (.tp [1, 2]) cYes (sOp fAdd (sV 1) (sF bStr (aCons (sV 2) aNil))) [some (.lst (ps.map oL)), none, none] S = .ok (.lst (sts (ps.map tw))) S := by
    have z := sLc_ok (vs := [1, 2]) (i := iSeq (sV 0)) (t := .tp [1, 2]) (c := cYes) (e := sOp fAdd (sV 1) (sF bStr (aCons (sV 2) aNil))) (env := [some (.lst (ps.map oL)), none, none]) (S := S) (rfl : _ = Res.ok (ps.map oL) S) (lc_map (f := oL) (g := fun p => D.str (tw p)) ps (fun p hp => ⟨_, rfl, rfl, tw_ok (h p hp)⟩) (by unfold lim; omega))
    rw [z, sts, List.map_map]
    rfl
  unfold sRet
  rw [call1 e, names_textL (by have := sum_tw h; rw [List.length_map]; unfold lim; omega)]
  exact fin_ok rfl
theorem lists_leaf {S : Sto} {k : Nat} {d : D} (h : ∃ x, d = .str x ∨ ∃ i, d = .int i) : f_law_lists (k + 1) [d] S = .ok d S := by
  obtain ⟨x, rfl | ⟨i, rfl⟩⟩ := h
  · exact (fnOf_eq (by rfl)).trans (fin_ok rfl)
  · exact (fnOf_eq (by rfl)).trans (fin_ok rfl)
theorem lists_tup {S : Sto} {k : Nat} {α : Type} {l : List α} {f g : α → D} (h : ∀ a ∈ l, f_law_lists k [f a] S = .ok (g a) S) (hl : l.length ≤ lim) : f_law_lists (k + 1) [.tup (l.map f)] S = .ok (.lst (l.map g)) S := by
  refine (fnOf_eq (by rfl)).trans ?_
  show fnEnd S.length (sRet (sIfx (isB (sIsi2 "list" "tuple" (sV 0))) (sLc [1] (iSeq (sV 0)) (.nm 1) cYes (sCall (f_law_lists k) (aCons (sV 1) aNil))) (sV 0)) [some (.tup (l.map f)), none] S) = _
  have e1 : sIsi2 "list" "tuple" (sV 0) [some (.tup (l.map f)), none] S = .ok (.bl true) S := rfl
  have e2 : sLc [1] (iSeq (sV 0)) (.nm 1) cYes (sCall (f_law_lists k) (aCons (sV 1) aNil)) [some (.tup (l.map f)), none] S = .ok (.lst (l.map g)) S :=
    sLc_ok (rfl : _ = Res.ok (l.map f) S) (lc_map l (fun a ha => ⟨_, rfl, rfl, by
      show f_law_lists k [f a] S = _
      exact h a ha⟩) hl)
  unfold sRet sIfx isB
  rw [e1]
  simp only [bind_ok, if_true]
  rw [e2]
  exact fin_ok rfl
theorem lists_ok {S : Sto} {ps : List (Str × Int)} (hl : ps.length ≤ 1000) : f_law_lists 4 [.tup (ps.map oT)] S = .ok (.lst (ps.map oL)) S :=
  lists_tup (fun p _ => by
    have z := lists_tup (S := S) (k := 2) (l := [D.str p.1, D.int p.2]) (f := id) (g := id) (fun d hd => lists_leaf (k := 1) (by
      rcases List.mem_cons.mp hd with rfl | hd
      · exact ⟨p.1, .inl rfl⟩
      · rw [List.mem_singleton] at hd
        subst hd
        exact ⟨p.1, .inr ⟨p.2, rfl⟩⟩)) (show 2 ≤ lim by decide)
    exact z) (by unfold lim; omega)
end K20
end S_K20M12
section S_K20M13
set_option Elab.async false
set_option linter.all false
set_option maxRecDepth 100000
set_option maxHeartbeats 4000000
namespace K20
open PySem L2 T
/-- the store in the draws: boxes alone -/
structure Bx (L n : Nat) (k : Int) (S : Sto) : Prop where
  len : S.length = L
  all : ∀ c ∈ S, ∃ a b d, c = bx a b d
  at_ : ∃ a b c, S[n]? = some (bx a b c) ∧ 0 ≤ c ∧ c ≤ k
theorem Bx.up {L n : Nat} {k k' : Int} {S : Sto} (h : Bx L n k S) (e : k ≤ k') : Bx L n k' S := by
  obtain ⟨a, b, c, h1, h2, h3⟩ := h.at_
  exact ⟨h.len, h.all, a, b, c, h1, h2, by omega⟩
theorem all_set {S : Sto} {n : Nat} {a b c : Int} (h : ∀ c ∈ S, ∃ a b d, c = bx a b d) : ∀ x ∈ S.set n (bx a b c), ∃ a b d, x = bx a b d := fun x hx => by
  rcases List.mem_or_eq_of_mem_set hx with z | z
  · exact h x z
  · exact ⟨a, b, c, z⟩
theorem take_bx {L n : Nat} {k m : Int} {S : Sto} (h : Bx L n k S) (hk : k < 2 ^ 61) (m0 : 0 < m) (m1 : m < 1073741824) : ∃ v S', f_law_take [.cell n, .int m] S = .ok (.int v) S' ∧ 0 ≤ v ∧ v < m ∧ Bx L n (k + 1) S' := by
  obtain ⟨a, b, c, h1, h2, h3⟩ := h.at_
  obtain ⟨v, a', c', e, v0, v1, c1, c2⟩ := take_ok h1 h2 (by omega) m0 m1
  exact ⟨v, _, e, v0, v1, by rw [List.length_set]; exact h.len, all_set h.all, a', b, c', set_bx h1, by omega, by omega⟩
theorem of_bx {L n : Nat} {k : Int} {S : Sto} {ds : List D} (h : Bx L n k S) (hk : k < 2 ^ 61) (h0 : ds ≠ []) (h1 : ds.length < 1073741824) : ∃ d S', f_law_of [.cell n, .lst ds] S = .ok d S' ∧ d ∈ ds ∧ Bx L n (k + 1) S' := by
  have pos : 0 < ds.length := List.length_pos_iff.mpr h0
  obtain ⟨v, S', e, v0, v1, B⟩ := take_bx (m := (ds.length : Int)) h hk (by omega) (by omega)
  have hv : v.toNat < ds.length := by omega
  refine ⟨ds[v.toNat], S', ?_, List.getElem_mem hv, B⟩
  unfold f_law_of m_law_of
  refine (fnOf_eq (by rfl)).trans ?_
  show fnEnd S.length (sRet (sOp fIx (sV 1) (sCall f_law_take (aCons (sV 0) (aCons (sF bLen (aCons (sV 1) aNil)) aNil)))) [some (.cell n), some (.lst ds)] S) = _
  have e2 : sCall f_law_take (aCons (sV 0) (aCons (sF bLen (aCons (sV 1) aNil)) aNil)) [some (.cell n), some (.lst ds)] S = .ok (.int v) S' := (call2 (d := .cell n) (e := .int ds.length) (S1 := S) (S2 := S) rfl rfl).trans e
  have e3 : sOp fIx (sV 1) (sCall f_law_take (aCons (sV 0) (aCons (sF bLen (aCons (sV 1) aNil)) aNil))) [some (.cell n), some (.lst ds)] S = .ok ds[v.toNat] S' := by
    unfold sOp
    rw [show sV 1 [some (.cell n), some (.lst ds)] S = .ok (.lst ds) S from rfl, bind_ok, e2, bind_ok]
    show (match atI ds v with | some d => Res.ok d S' | none => .bad) = _
    rw [atI_nat (k := v.toNat) (by omega) hv]
  unfold sRet
  rw [e3]
  exact fin_ok (B.len.trans h.len.symm)
end K20
end S_K20M13
section S_K20M14
set_option Elab.async false
set_option linter.all false
set_option maxRecDepth 100000
set_option maxHeartbeats 4000000
namespace K20
open PySem L2 T
theorem cutD_to {ds : List D} {k : Nat} (h : k ≤ ds.length) : cutD ds none (some (k : Int)) = ds.take k := by
  unfold cutD
  rw [HT.sIx_nat, HT.sIx_none, Nat.min_eq_left h, List.drop_zero, Nat.sub_zero]
theorem cutD_from {ds : List D} {k : Nat} : cutD ds (some (k : Int)) none = ds.drop k := by
  unfold cutD
  rw [HT.sIx_nat, HT.sIx_none]
  by_cases h : k ≤ ds.length
  · rw [Nat.min_eq_left h, List.take_of_length_le (by rw [List.length_drop]; exact Nat.le_refl _)]
  · rw [Nat.min_eq_right (by omega), List.drop_of_length_le (Nat.le_refl _), List.drop_of_length_le (by omega), List.take_nil]
theorem belowL_all {n : Nat} : ∀ {ds : List D}, (∀ d ∈ ds, below n d = true) → belowL n ds = true
  | [], _ => rfl
  | d :: ds, h => by
    unfold belowL
    rw [h d List.mem_cons_self, belowL_all fun e he => h e (List.mem_cons_of_mem _ he)]
    rfl
theorem belowB {n : Nat} {S : Sto} (h : ∀ c ∈ S, ∃ a b d, c = bx a b d) : S.all (belowC n) = true := List.all_eq_true.mpr fun c hc => by
  obtain ⟨a, b, d, rfl⟩ := h c hc
  rfl
def mixB : SemS := sSeq (sAsg (sCall f_law_take (aCons (sV 0) (aCons (sF bLen (aCons (sV 2) aNil)) aNil))) (gN 5))
  (sSeq (sDo (sM "list" mAppend (sV 3) (aCons (sOp fIx (sV 2) (sV 5)) aNil)))
  (sAsg (sOp fAdd (sSl (sV 2) oNone (oSome (sV 5))) (sSl (sV 2) (oSome (sOp fAdd (sV 5) (sC (.int 1)))) oNone)) (gN 2)))
/-- one turn of the loop -/
theorem mix_step {L n : Nat} {k : Int} {S : Sto} {rest found : List D} {z : D} {w5 : Option D} {t : D} (h : Bx L n k S) (hk : k < 2 ^ 61) (h0 : rest ≠ []) (h1 : rest.length ≤ 1000) (h2 : found.length ≤ 1000) :
    ∃ (v : Nat) (S' : Sto), ∃ hv : v < rest.length, mixB [some (.cell n), some z, some (.lst rest), some (.cell L), some t, w5] (S ++ [.lv (.lst found)]) = .nx [some (.cell n), some z, some (.lst (rest.take v ++ rest.drop (v + 1))), some (.cell L), some t, some (.int (v : Int))] (S' ++ [.lv (.lst (found ++ [rest[v]]))]) ∧ Bx L n (k + 1) S' := by
  have pos : 0 < rest.length := List.length_pos_iff.mpr h0
  obtain ⟨a, b, c, q1, q2, q3⟩ := h.at_
  have nl : n < S.length := (List.getElem?_eq_some_iff.mp q1).1
  have q1' : (S ++ [Cel.lv (.lst found)])[n]? = some (bx a b c) := by rw [List.getElem?_append_left nl]; exact q1
  obtain ⟨v, a', c', e, v0, v1, c1, c2⟩ := take_ok (m := (rest.length : Int)) q1' q2 (by omega) (by omega) (by omega)
  have es : (S ++ [Cel.lv (.lst found)]).set n (bx a' b c') = S.set n (bx a' b c') ++ [Cel.lv (.lst found)] := List.set_append_left _ _ nl
  rw [es] at e
  obtain ⟨vn, rfl⟩ : ∃ vn : Nat, v = (vn : Int) := ⟨v.toNat, by omega⟩
  have hv : vn < rest.length := by omega
  refine ⟨vn, S.set n (bx a' b c'), hv, ?_, by rw [List.length_set]; exact h.len, all_set h.all, a', b, c', set_bx q1, by omega, by omega⟩
  generalize hS : S.set n (bx a' b c') = S' at e
  have lS : S'.length = L := by rw [← hS, List.length_set]; exact h.len
  unfold mixB
  rw [sSeq_nx (sAsg_gN (d := .int (vn : Int)) (S1 := S' ++ [.lv (.lst found)]) ((call2 (d := .cell n) (e := .int rest.length) rfl rfl).trans e))]
  show sSeq _ _ [some (.cell n), some z, some (.lst rest), some (.cell L), some t, some (.int (vn : Int))] (S' ++ [.lv (.lst found)]) = _
  have gl : (S' ++ [Cel.lv (.lst found)])[L]? = some (.lv (.lst found)) := by
    rw [List.getElem?_append_right (by omega), lS, Nat.sub_self]
    rfl
  have sl : (S' ++ [Cel.lv (.lst found)]).set L (.lv (.lst (found ++ [rest[vn]]))) = S' ++ [.lv (.lst (found ++ [rest[vn]]))] := by
    rw [List.set_append_right _ _ (by omega), lS, Nat.sub_self]
    rfl
  have ix : fIx (S' ++ [.lv (.lst found)]) (.lst rest) (.int (vn : Int)) = .ok rest[vn] (S' ++ [.lv (.lst found)]) := by
    show (match atI rest (vn : Int) with | some d => Res.ok d _ | none => .bad) = _
    rw [atI_nat rfl hv]
  have st : sDo (sM "list" mAppend (sV 3) (aCons (sOp fIx (sV 2) (sV 5)) aNil)) [some (.cell n), some z, some (.lst rest), some (.cell L), some t, some (.int (vn : Int))] (S' ++ [.lv (.lst found)]) = .nx [some (.cell n), some z, some (.lst rest), some (.cell L), some t, some (.int (vn : Int))] (S' ++ [.lv (.lst (found ++ [rest[vn]]))]) := by
    have ty : tyIs "list" (S' ++ [.lv (.lst found)]) (.cell L) = true := by
      have r : rd (S' ++ [Cel.lv (.lst found)]) (.cell L) = .lst found := by
        show cget _ L = _
        unfold cget
        rw [gl]
      unfold tyIs
      simp only [r]
    have ap : mAppend (S' ++ [.lv (.lst found)]) (.cell L) [rest[vn]] = .ok .non (S' ++ [.lv (.lst (found ++ [rest[vn]]))]) := by
      unfold mAppend
      simp only [gl]
      rw [if_pos (by unfold lim; omega), sl]
    have ar : aCons (sOp fIx (sV 2) (sV 5)) aNil [some (.cell n), some z, some (.lst rest), some (.cell L), some t, some (.int (vn : Int))] (S' ++ [.lv (.lst found)]) = .ok [rest[vn]] (S' ++ [.lv (.lst found)]) := by
      unfold aCons
      show Res.bind (fIx (S' ++ [.lv (.lst found)]) (.lst rest) (.int (vn : Int))) _ = _
      rw [ix]
      rfl
    unfold sDo sM
    show ofE (Res.bind (Res.ok (D.cell L) (S' ++ [.lv (.lst found)])) _) _ _ = _
    rw [bind_ok, if_pos ty, ar, bind_ok, ap]
    rfl
  rw [sSeq_nx st]
  have c1 : sSl (sV 2) oNone (oSome (sV 5)) [some (.cell n), some z, some (.lst rest), some (.cell L), some t, some (.int (vn : Int))] (S' ++ [.lv (.lst (found ++ [rest[vn]]))]) = .ok (.lst (rest.take vn)) (S' ++ [.lv (.lst (found ++ [rest[vn]]))]) := by
    rw [← cutD_to (Nat.le_of_lt hv)]
    rfl
  have c2 : sSl (sV 2) (oSome (sOp fAdd (sV 5) (sC (.int 1)))) oNone [some (.cell n), some z, some (.lst rest), some (.cell L), some t, some (.int (vn : Int))] (S' ++ [.lv (.lst (found ++ [rest[vn]]))]) = .ok (.lst (rest.drop (vn + 1))) (S' ++ [.lv (.lst (found ++ [rest[vn]]))]) := by
    rw [← cutD_from (k := vn + 1), show (((vn + 1 : Nat)) : Int) = (vn : Int) + 1 from by omega]
    rfl
  refine sAsg_gN (d := .lst (rest.take vn ++ rest.drop (vn + 1))) ?_
  rw [sOp_ok c1 c2]
  show (if (rest.take vn).length + (rest.drop (vn + 1)).length ≤ lim then Res.ok (D.lst (rest.take vn ++ rest.drop (vn + 1))) _ else .bad) = _
  rw [if_pos (by rw [List.length_take, List.length_drop]; unfold lim; omega)]
end K20
end S_K20M14
section S_K20M15
set_option Elab.async false
set_option linter.all false
set_option maxRecDepth 100000
set_option maxHeartbeats 4000000
namespace K20
open PySem L2 T
theorem mix_loop {L n : Nat} {z : D} : ∀ (ts : List D) (k : Int) (S : Sto) (rest found : List D) (w4 w5 : Option D), Bx L n k S → k + ts.length < 2 ^ 61 → rest.length = ts.length → rest.length ≤ 1000 → found.length + rest.length ≤ 1000 →
    ∃ (ys : List D) (S' : Sto) (env' : T.Env), forGo (.nm 4) mixB ts [some (.cell n), some z, some (.lst rest), some (.cell L), w4, w5] (S ++ [.lv (.lst found)]) = .nx env' (S' ++ [.lv (.lst (found ++ ys))]) ∧ env'[3]? = some (some (.cell L)) ∧ ys.Perm rest ∧ Bx L n (k + ts.length) S'
  | [], k, S, rest, found, w4, w5, h, hk, hr, h1, h2 => by
    have : rest = [] := List.length_eq_zero_iff.mp hr
    subst this
    exact ⟨[], S, _, by rw [List.append_nil]; rfl, rfl, List.Perm.refl _, by simpa using h⟩
  | t :: ts, k, S, rest, found, w4, w5, h, hk, hr, h1, h2 => by
    rw [List.length_cons] at hr hk
    obtain ⟨v, S1, hv, e, B⟩ := mix_step (z := z) (w5 := w5) (t := t) (found := found) h (by omega) (show rest ≠ [] from fun q => by subst q; simp at hr) h1 (by omega)
    have hl : (rest.take v ++ rest.drop (v + 1)).length = ts.length := by
      rw [List.length_append, List.length_take, List.length_drop]
      omega
    obtain ⟨ys, S', env', e2, e3, e4, e5⟩ := mix_loop ts (k + 1) S1 (rest.take v ++ rest.drop (v + 1)) (found ++ [rest[v]]) (some t) (some (.int (v : Int))) B (by omega) hl (by omega) (by rw [List.length_append, List.length_singleton]; omega)
    refine ⟨rest[v] :: ys, S', env', ?_, e3, ?_, ?_⟩
    · rw [forGo_nx (env1 := [some (.cell n), some z, some (.lst rest), some (.cell L), some t, w5]) rfl e, e2, List.append_assoc]
      rfl
    · exact ((List.Perm.cons _ e4).trans (perm_cut rest v hv).symm)
    · rw [List.length_cons, show k + ((ts.length + 1 : Nat) : Int) = k + 1 + ts.length by omega]
      exact e5
theorem finC_own {L : Nat} {S S' : Sto} {ys : List D} (hL : S.length = L) (hS : S'.length = L) (b1 : S'.all (belowC L) = true) (b2 : belowL L ys = true) : finC S.length (.cell L) (S' ++ [.lv (.lst ys)]) = .ok (.lst ys) S' := by
  have tS : (S' ++ [Cel.lv (.lst ys)]).take S.length = S' := by rw [hL, ← hS, List.take_left']; rfl
  show (if L < S.length then (if ((S' ++ [Cel.lv (.lst ys)]).take S.length).all (belowC S.length) then Res.ok (D.cell L) ((S' ++ [Cel.lv (.lst ys)]).take S.length) else .bad) else (match (S' ++ [Cel.lv (.lst ys)])[L]? with
    | some (.lv (.lst ds)) => if belowL S.length ds && ((S' ++ [Cel.lv (.lst ys)]).take S.length).all (belowC S.length) then Res.ok (.lst ds) ((S' ++ [Cel.lv (.lst ys)]).take S.length) else .bad
    | some (.fz (.lst ds)) => if belowL S.length ds && ((S' ++ [Cel.lv (.lst ys)]).take S.length).all (belowC S.length) then Res.ok (.lst ds) ((S' ++ [Cel.lv (.lst ys)]).take S.length) else .bad
    | _ => .bad)) = _
  rw [if_neg (by omega), tS, show (S' ++ [Cel.lv (.lst ys)])[L]? = some (.lv (.lst ys)) from by rw [List.getElem?_append_right (by omega), hS, Nat.sub_self]; rfl]
  show (if belowL S.length ys && S'.all (belowC S.length) then Res.ok (D.lst ys) S' else .bad) = _
  rw [hL, b1, b2]
  rfl
theorem mixed_ok {L n : Nat} {k : Int} {S : Sto} {z : Str} (h : Bx L n k S) (hk : k < 2 ^ 60) (hz : z.length ≤ 500) : ∃ ys S', f_law_mixed [.cell n, .str z] S = .ok (.lst ys) S' ∧ ys.Perm (signs z) ∧ Bx L n (k + z.length) S' := by
  have ls : (signs z).length = z.length := by unfold signs; rw [List.length_map, Array.length_toList]; rfl
  have h1 : f_law_mixed [.cell n, .str z] S = fnEndC S.length (m_law_mixed [some (.cell n), some (.str z), none, none, none, none] S) := rfl
  rw [h1]
  have a1 : sAsg (sTup (aCons (sF bListA (aCons (sV 1) (aNil))) (aCons (sLstC (aNil)) (aNil)))) (gTg (.tp [2, 3])) [some (.cell n), some (.str z), none, none, none, none] S = .nx [some (.cell n), some (.str z), some (.lst (signs z)), some (.cell L), none, none] (S ++ [.lv (.lst [])]) := by
    have e : sF bListA (aCons (sV 1) (aNil)) [some (.cell n), some (.str z), none, none, none, none] S = .ok (.lst (signs z)) S := if_pos (by unfold lim; omega)
    refine (sAsg_ok (sTup_ok (aCons_ok e (aCons_ok (sLstC_ok rfl (by decide)) rfl)) (by simp [lim]))).trans ?_
    rw [h.len]
    rfl
  have a2 : T.iRng1 (aCons (sF bLen (aCons (sV 1) (aNil))) (aNil)) [some (.cell n), some (.str z), some (.lst (signs z)), some (.cell L), none, none] (S ++ [.lv (.lst [])]) = .ok (rngD 0 z.length) (S ++ [.lv (.lst [])]) := by
    have e : sF bLen (aCons (sV 1) (aNil)) [some (.cell n), some (.str z), some (.lst (signs z)), some (.cell L), none, none] (S ++ [.lv (.lst [])]) = .ok (.int z.length) (S ++ [.lv (.lst [])]) := if_pos (by unfold lim; omega)
    exact iRng1_ok (aCons_ok e rfl) rfl (by omega)
  obtain ⟨ys, S', env', e1, e2, e3, e4⟩ := mix_loop (z := .str z) (rngD 0 z.length) k S (signs z) [] none none h (by rw [rngD_len]; omega) (by rw [ls, rngD_len]) (by rw [ls]; omega) (by rw [ls]; simp; omega)
  rw [List.nil_append] at e1
  have a3 := (sFor_ok (t := .nm 4) (b := mixB) a2).trans e1
  refine ⟨ys, S', ?_, e3, by rw [rngD_len] at e4; exact e4⟩
  have a4 : sRet (sV 3) env' (S' ++ [.lv (.lst ys)]) = .rt (.cell L) (S' ++ [.lv (.lst ys)]) := sRet_ok (sV_at e2)
  have a5 : m_law_mixed [some (.cell n), some (.str z), none, none, none, none] S = .rt (.cell L) (S' ++ [.lv (.lst ys)]) := (sSeq_nx a1).trans ((sSeq_nx a3).trans a4)
  rw [a5]
  refine finC_own h.len e4.len (belowB e4.all) (belowL_all fun d hd => ?_)
  have := e3.mem_iff.mp hd
  unfold signs at this
  obtain ⟨c, _, rfl⟩ := List.mem_map.mp this
  rfl
end K20
end S_K20M15
section S_K20M16
set_option Elab.async false
set_option linter.all false
set_option maxRecDepth 100000
set_option maxHeartbeats 4000000
namespace K20
open PySem L2 T
theorem perm_map {α β : Type} {f : α → β} {ys zs : List β} (p : ys.Perm zs) : ∀ {l : List α}, zs = l.map f → ∃ l' : List α, l'.Perm l ∧ ys = l'.map f := by
  induction p with
  | nil => intro l h; exact ⟨l, .refl _, h⟩
  | cons x p ih =>
    intro l h
    cases l with
    | nil => cases h
    | cons a l =>
      rw [List.map_cons] at h
      injection h with h1 h2
      obtain ⟨l', q1, q2⟩ := ih h2
      exact ⟨a :: l', q1.cons a, by rw [h1, q2]; rfl⟩
  | swap x y l2 =>
    intro l h
    cases l with
    | nil => cases h
    | cons a l =>
      cases l with
      | nil => cases h
      | cons b l =>
        rw [List.map_cons, List.map_cons] at h
        injection h with h1 h2
        injection h2 with h2 h3
        exact ⟨b :: a :: l, .swap .., by rw [h1, h2, h3]; rfl⟩
  | trans p q ih1 ih2 =>
    intro l h
    obtain ⟨l', q1, q2⟩ := ih2 h
    obtain ⟨l2, q3, q4⟩ := ih1 q2
    exact ⟨l2, q3.trans q1, q4⟩
def abc : List Nat := [97, 98, 99, 100, 101, 102, 103, 104, 105, 106, 107, 108, 109, 110, 111, 112, 113, 114, 115, 116, 117, 118, 119, 120, 121, 122]
theorem abc_eq : ("abcdefghijklmnopqrstuvwxyz" : Str).cps.toList = abc := by decide +kernel
theorem append_cps (x y : Str) : (x ++ y).cps.toList = x.cps.toList ++ y.cps.toList := TL.tl_append x y
def one (c : Nat) : Str := ⟨#[c]⟩
theorem nmB_mk {x : Str} {l : List Nat} (e : x.cps.toList = l) (h1 : 1 ≤ l.length) (h2 : l.length ≤ 8) (h3 : l.all isL = true) : nmB x = true := by
  have : x.length = l.length := by rw [← e, Array.length_toList]; rfl
  unfold nmB
  rw [e, h3, this, decide_eq_true (by omega), decide_eq_true (by omega)]
  rfl
theorem cut_min {ds : List D} {k : Nat} (h : k ≤ ds.length) : cutD ds none (some (k : Int)) = ds.take k := cutD_to h
/-- what tags are -/
structure Tags (m : Nat) (l : List Str) : Prop where
  len : l.length = m
  nd : l.Nodup
  nm : ∀ x ∈ l, nmB x = true
theorem tags_mk {front tail : Str} {cs : List Nat} {m : Nat} (h : cs.Perm abc) (hm : m ≤ 26) (hf : front.cps.toList.all isL = true) (ht : tail.cps.toList.all isL = true) (hl : front.cps.toList.length + tail.cps.toList.length ≤ 7) : Tags m ((cs.take m).map fun c => front ++ one c ++ tail) := by
  have lc : cs.length = 26 := h.length_eq
  refine ⟨by rw [List.length_map, List.length_take]; omega, ?_, fun x hx => ?_⟩
  · rw [List.nodup_iff_pairwise_ne, List.pairwise_map]
    have nd : (cs.take m).Nodup := (h.nodup_iff.mpr (by decide)).sublist (List.take_sublist _ _)
    refine (List.nodup_iff_pairwise_ne.mp nd).imp fun {a b} ne e => ne ?_
    have := congrArg (fun z : Str => z.cps.toList) e
    simp only [append_cps] at this
    have := List.append_cancel_right this
    have := List.append_cancel_left this
    simpa [one] using this
  · obtain ⟨c, hc, rfl⟩ := List.mem_map.mp hx
    have hc' : c ∈ abc := h.mem_iff.mp (List.mem_of_mem_take hc)
    refine nmB_mk (l := front.cps.toList ++ [c] ++ tail.cps.toList) (by simp only [append_cps]; rfl) (by simp; omega) (by simp at hl ⊢; omega) ?_
    rw [List.all_append, List.all_append, hf, ht, List.all_cons, show isL c = true from by unfold isL; rw [abc_eq]; exact decide_eq_true hc']
    rfl
theorem add_str {S : Sto} {a b : Str} (h : a.length + b.length ≤ lim) : fAdd S (.str a) (.str b) = .ok (.str (a ++ b)) S := by
  show (if a.length + b.length ≤ lim then _ else _) = _
  rw [if_pos h]
theorem append_len (x y : Str) : (x ++ y).length = x.length + y.length := by
  have := congrArg List.length (append_cps x y)
  rw [List.length_append, Array.length_toList, Array.length_toList, Array.length_toList] at this
  exact this
theorem tags_ok {L n : Nat} {k : Int} {S : Sto} {m : Nat} (h : Bx L n k S) (hk : k < 2 ^ 59) (hm : m ≤ 20) : ∃ l S', f_law_tags [.cell n, .int m] S = .ok (.lst (sts l)) S' ∧ Tags m l ∧ Bx L n (k + 27) S' := by
  obtain ⟨ys, S1, e1, p1, B1⟩ := mixed_ok (z := "abcdefghijklmnopqrstuvwxyz") h (by omega) (by decide)
  obtain ⟨cs, pc, ec⟩ := perm_map (f := fun c => D.str (one c)) p1 (l := abc) (by unfold signs; rw [abc_eq]; rfl)
  subst ec
  have B1 : Bx L n (k + 26) S1 := B1
  obtain ⟨v, S2, e2, v0, v1, B2⟩ := take_bx (m := 4) B1 (by omega) (by omega) (by omega)
  rw [show k + 26 + 1 = k + 27 by omega] at B2
  have lc : cs.length = 26 := pc.length_eq
  obtain ⟨front, tail, g1, g2, hf, ht, hl⟩ : ∃ front tail : Str, fIx S2 (.lst [.str "", .str "", .str "gate", .str "z"]) (.int v) = .ok (.str front) S2 ∧ fIx S2 (.lst [.str "", .str "", .str "", .str "yyyyyy"]) (.int v) = .ok (.str tail) S2 ∧ front.cps.toList.all isL = true ∧ tail.cps.toList.all isL = true ∧ front.cps.toList.length + tail.cps.toList.length ≤ 7 := by
    have : v = 0 ∨ v = 1 ∨ v = 2 ∨ v = 3 := by omega
    rcases this with rfl | rfl | rfl | rfl
    · exact ⟨"", "", rfl, rfl, by decide +kernel, by decide +kernel, by decide +kernel⟩
    · exact ⟨"", "", rfl, rfl, by decide +kernel, by decide +kernel, by decide +kernel⟩
    · exact ⟨"gate", "", rfl, rfl, by decide +kernel, by decide +kernel, by decide +kernel⟩
    · exact ⟨"z", "yyyyyy", rfl, rfl, by decide +kernel, by decide +kernel, by decide +kernel⟩
  have T0 := tags_mk pc (show m ≤ 26 by omega) hf ht hl
  refine ⟨_, S2, ?_, T0, B2⟩
  generalize hL : (cs.take m).map (fun c => front ++ one c ++ tail) = l at T0
  refine (fnOf_eq (by rfl)).trans ?_
  have b1 : sAsg (sCall (f_law_mixed) (aCons (sV 0) (aCons (sC (.str "abcdefghijklmnopqrstuvwxyz")) (aNil)))) (gN 2) (entry 9 [.cell n, .int (m : Int)]) S = .nx [some (.cell n), some (.int (m : Int)), some (.lst (cs.map fun c => D.str (one c))), none, none, none, none, none, none] S1 := sAsg_gN ((call2 rfl rfl).trans e1)
  have b2 : sAsg (sCall (f_law_take) (aCons (sV 0) (aCons (sC (.int 4)) (aNil)))) (gN 3) [some (.cell n), some (.int (m : Int)), some (.lst (cs.map fun c => D.str (one c))), none, none, none, none, none, none] S1 = .nx [some (.cell n), some (.int (m : Int)), some (.lst (cs.map fun c => D.str (one c))), some (.int v), none, none, none, none, none] S2 := sAsg_gN ((call2 rfl rfl).trans e2)
  have b3 : sAsg (sTup (aCons (sOp fIx (sLst (aCons (sC (.str "")) (aCons (sC (.str "")) (aCons (sC (.str "gate")) (aCons (sC (.str "z")) (aNil)))))) (sV 3)) (aCons (sOp fIx (sLst (aCons (sC (.str "")) (aCons (sC (.str "")) (aCons (sC (.str "")) (aCons (sC (.str "yyyyyy")) (aNil)))))) (sV 3)) (aNil)))) (gTg (.tp [4, 5])) [some (.cell n), some (.int (m : Int)), some (.lst (cs.map fun c => D.str (one c))), some (.int v), none, none, none, none, none] S2 = .nx [some (.cell n), some (.int (m : Int)), some (.lst (cs.map fun c => D.str (one c))), some (.int v), some (.str front), some (.str tail), none, none, none] S2 :=
    (sAsg_ok (sTup_ok (aCons_ok ((sOp_ok (d := .lst [.str "", .str "", .str "gate", .str "z"]) rfl rfl).trans g1) (aCons_ok ((sOp_ok (d := .lst [.str "", .str "", .str "", .str "yyyyyy"]) rfl rfl).trans g2) rfl)) (by simp [lim]))).trans rfl
  have b4 : sAsg (sLc [7] (iSeq (sSl (sV 2) (oNone) (oSome (sF bMin2 (aCons (sV 1) (aCons (sC (.int 26)) (aNil))))))) (.nm 7) (cYes) (sOp fAdd (sOp fAdd (sV 4) (sV 7)) (sV 5))) (gN 6) [some (.cell n), some (.int (m : Int)), some (.lst (cs.map fun c => D.str (one c))), some (.int v), some (.str front), some (.str tail), none, none, none] S2 = .nx [some (.cell n), some (.int (m : Int)), some (.lst (cs.map fun c => D.str (one c))), some (.int v), some (.str front), some (.str tail), some (.lst (sts l)), none, none] S2 := by
    refine sAsg_gN ?_
    have q : (iSeq (sSl (sV 2) (oNone) (oSome (sF bMin2 (aCons (sV 1) (aCons (sC (.int 26)) (aNil))))))) [some (.cell n), some (.int (m : Int)), some (.lst (cs.map fun c => D.str (one c))), some (.int v), some (.str front), some (.str tail), none, none, none] S2 = .ok ((cs.take m).map fun c => D.str (one c)) S2 := by
      have z : cutD (cs.map fun c => D.str (one c)) none (some (if (26 : Int) < m then 26 else m)) = (cs.take m).map fun c => D.str (one c) := by
        rw [if_neg (by omega), cutD_to (by rw [List.length_map]; omega), List.map_take]
      rw [← z]
      rfl
    rw [← hL, sts, List.map_map]
    refine sLc_ok q (lc_map _ (fun c _ => ⟨_, rfl, rfl, ?_⟩) (by rw [List.length_take]; unfold lim; omega))
    have h1 : front.length = front.cps.toList.length := by rw [Array.length_toList]; rfl
    have h2 : tail.length = tail.cps.toList.length := by rw [Array.length_toList]; rfl
    have h3 : (one c).length = 1 := rfl
    refine (sOp_ok (d := .str (front ++ one c)) (e := .str tail) (S1 := S2) (S2 := S2) ((sOp_ok (d := .str front) (e := .str (one c)) rfl rfl).trans (add_str (by unfold lim; omega))) rfl).trans (add_str (by rw [append_len]; unfold lim; omega))
  have b5 : sRet (sOp fAdd (sV 6) (sLc [8] (T.iRng1 (aCons (sOp fSub (sV 1) (sF bLen (aCons (sV 6) (aNil)))) (aNil))) (.nm 8) (cYes) (sOp fAdd (sOp fAdd (sC (.str "more")) (sOp fIx (sV 2) (sOp fDiv (sV 8) (sC (.int 26))))) (sOp fIx (sV 2) (sOp fMod (sF bInt (aCons (sV 8) (aNil))) (sC (.int 26))))))) [some (.cell n), some (.int (m : Int)), some (.lst (cs.map fun c => D.str (one c))), some (.int v), some (.str front), some (.str tail), some (.lst (sts l)), none, none] S2 = .rt (.lst (sts l)) S2 := by
    refine sRet_ok ?_
    have q : (T.iRng1 (aCons (sOp fSub (sV 1) (sF bLen (aCons (sV 6) (aNil)))) (aNil))) [some (.cell n), some (.int (m : Int)), some (.lst (cs.map fun c => D.str (one c))), some (.int v), some (.str front), some (.str tail), some (.lst (sts l)), none, none] S2 = .ok [] S2 := by
      refine (iRng1_ok (k := 0) (j := (m : Int) - ((sts l).length : Nat)) rfl ?_ (by decide)).trans rfl
      rw [List.length_map, T0.len]
      omega
    refine (sOp_ok (d := .lst (sts l)) (e := .lst []) (S1 := S2) (S2 := S2) rfl (sLc_ok q rfl)).trans ?_
    show (if (sts l).length + 0 ≤ lim then Res.ok (D.lst (sts l ++ [])) S2 else .bad) = _
    rw [if_pos (by rw [List.length_map, T0.len]; unfold lim; omega), List.append_nil]
  have b6 : m_law_tags (entry 9 [.cell n, .int (m : Int)]) S = .rt (.lst (sts l)) S2 := (sSeq_nx b1).trans ((sSeq_nx b2).trans ((sSeq_nx b3).trans ((sSeq_nx b4).trans b5)))
  rw [b6]
  exact fin_ok (B2.len.trans h.len.symm)
end K20
end S_K20M16
section S_K20M17
set_option Elab.async false
set_option linter.all false
set_option maxRecDepth 100000
set_option maxHeartbeats 4000000
namespace K20
open PySem L2 T
theorem app_ok {L i : Nat} {S' : Sto} {env : T.Env} {ds : List D} {e : SemE} {d : D} (hS : S'.length = L) (hi : env[i]? = some (some (.cell L))) (he : e env (S' ++ [.lv (.lst ds)]) = .ok d (S' ++ [.lv (.lst ds)])) (hl : ds.length < lim) : sDo (sM "list" mAppend (sV i) (aCons e aNil)) env (S' ++ [.lv (.lst ds)]) = .nx env (S' ++ [.lv (.lst (ds ++ [d]))]) := by
  have gl : (S' ++ [Cel.lv (.lst ds)])[L]? = some (.lv (.lst ds)) := by
    rw [List.getElem?_append_right (by omega), hS, Nat.sub_self]
    rfl
  have sl : (S' ++ [Cel.lv (.lst ds)]).set L (.lv (.lst (ds ++ [d]))) = S' ++ [.lv (.lst (ds ++ [d]))] := by
    rw [List.set_append_right _ _ (by omega), hS, Nat.sub_self]
    rfl
  have ty : tyIs "list" (S' ++ [.lv (.lst ds)]) (.cell L) = true := by
    have r : rd (S' ++ [Cel.lv (.lst ds)]) (.cell L) = .lst ds := by
      show cget _ L = _
      unfold cget
      rw [gl]
    unfold tyIs
    simp only [r]
  refine sDo_ok (d := .non) ((sM_ok (sV_at hi) ty (aCons_ok he rfl)).trans ?_)
  unfold mAppend
  simp only [gl]
  rw [if_pos hl, sl]
theorem cutS_from {z : Str} {n : Nat} : cutS z (some (n : Int)) none = mkS (z.cps.toList.drop n) := by
  unfold cutS mkS
  rw [HT.sIx_nat, HT.sIx_none]
  have lz : z.cps.toList.length = z.length := by rw [Array.length_toList]; rfl
  by_cases h : n ≤ z.length
  · rw [Nat.min_eq_left h, List.take_of_length_le (by rw [List.length_drop, lz]; exact Nat.le_refl _)]
  · rw [Nat.min_eq_right (by omega), List.drop_of_length_le (by omega), List.drop_of_length_le (by omega), List.take_nil]
theorem cutS_mid {z : Str} {n m : Nat} (h : n ≤ z.length) : cutS z (some (n : Int)) (some ((n + m : Nat) : Int)) = mkS ((z.cps.toList.drop n).take m) := by
  unfold cutS mkS
  rw [HT.sIx_nat, HT.sIx_nat, Nat.min_eq_left h]
  have lz : z.cps.toList.length = z.length := by rw [Array.length_toList]; rfl
  by_cases h2 : n + m ≤ z.length
  · rw [Nat.min_eq_left h2, Nat.add_sub_cancel_left]
  · rw [Nat.min_eq_right (by omega), List.take_of_length_le (by rw [List.length_drop]; omega), List.take_of_length_le (by rw [List.length_drop]; omega)]
theorem mkS_app (a b : List Nat) : mkS a ++ mkS b = mkS (a ++ b) := by
  have := append_cps (mkS a) (mkS b)
  apply TL.ext_tl
  exact this
theorem mkS_len (a : List Nat) : (mkS a).length = a.length := rfl
theorem add_mk {m n : SemE} {env : T.Env} {S : Sto} {a b : List Nat} (h1 : m env S = .ok (.str (mkS a)) S) (h2 : n env S = .ok (.str (mkS b)) S) (h : a.length + b.length ≤ 100000) : sOp fAdd m n env S = .ok (.str (mkS (a ++ b))) S :=
  (sOp_ok h1 h2).trans ((add_str (by rw [mkS_len, mkS_len]; unfold lim; omega)).trans (by rw [mkS_app]))
section
variable {env : T.Env} {S : Sto} {cs : List Nat} {v i j : Nat}
theorem sl_to (hi : env[i]? = some (some (.str (mkS cs)))) (hj : env[j]? = some (some (.int (v : Int)))) (hl : cs.length ≤ 1000) (hv : v ≤ cs.length) : sSl (sV i) oNone (oSome (sV j)) env S = .ok (.str (mkS (cs.take v))) S :=
  sSl_to (sV_at hi) (sV_at hj) (by rw [mkS_len]; unfold lim; omega) hv
theorem sl_from {n : SemE} (hi : env[i]? = some (some (.str (mkS cs)))) (hn : n env S = .ok (.int (v : Int)) S) (hl : cs.length ≤ 1000) : sSl (sV i) (oSome n) oNone env S = .ok (.str (mkS (cs.drop v))) S := by
  unfold sSl oSome oNone
  rw [sV_at hi, bind_ok, hn, bind_ok]
  show (if (mkS cs).length ≤ lim then Res.ok (D.str (cutS (mkS cs) (some (v : Int)) none)) S else .bad) = _
  rw [if_pos (by rw [mkS_len]; unfold lim; omega), cutS_from]
  rfl
theorem sl_mid {n : SemE} {m : Nat} (hi : env[i]? = some (some (.str (mkS cs)))) (hj : env[j]? = some (some (.int (v : Int)))) (hn : n env S = .ok (.int ((v + m : Nat) : Int)) S) (hl : cs.length ≤ 1000) (hv : v ≤ cs.length) : sSl (sV i) (oSome (sV j)) (oSome n) env S = .ok (.str (mkS ((cs.drop v).take m))) S := by
  unfold sSl oSome
  rw [sV_at hi, bind_ok, sV_at hj, bind_ok]
  show Res.bind (Res.bind (n env S) _) _ = _
  rw [hn, bind_ok]
  show (if (mkS cs).length ≤ lim then Res.ok (D.str (cutS (mkS cs) (some (v : Int)) (some ((v + m : Nat) : Int)))) S else .bad) = _
  rw [if_pos (by rw [mkS_len]; unfold lim; omega), cutS_mid hv]
  rfl
theorem at_add {m : Nat} {k : Int} (hj : env[j]? = some (some (.int (v : Int)))) (hk : k = m) : sOp fAdd (sV j) (sC (.int k)) env S = .ok (.int ((v + m : Nat) : Int)) S := by
  refine (sOp_ok (sV_at hj) rfl).trans ?_
  rw [e_add, hk]
  congr 2
theorem rev_mk {m : SemE} (h : m env S = .ok (.str (mkS cs)) S) (hl : cs.length ≤ 1000) : sRev m env S = .ok (.str (mkS cs.reverse)) S := by
  unfold sRev
  rw [h, bind_ok]
  show (if (mkS cs).length ≤ lim then _ else _) = _
  rw [if_pos (by rw [mkS_len]; unfold lim; omega)]
  rfl
end
/-- near to cs -/
def Near (cs xs : List Nat) : Prop := xs.length ≤ cs.length + 1 ∧ ∀ c ∈ xs, c < 128
theorem tk_ds {cs : List Nat} (h : ∀ c ∈ cs, c < 128) (v : Nat) : (∀ c ∈ cs.take v, c < 128) ∧ ∀ c ∈ cs.drop v, c < 128 := ⟨fun c hc => h c (List.mem_of_mem_take hc), fun c hc => h c (List.mem_of_mem_drop hc)⟩
theorem bent_ok {L n : Nat} {k : Int} {S : Sto} {cs : List Nat} (h : Bx L n k S) (hk : k < 2 ^ 59) (hl : cs.length ≤ 600) (ha : ∀ c ∈ cs, c < 128) : ∃ (l : List (List Nat)) (S' : Sto), f_law_bent [.cell n, .str (mkS cs)] S = .ok (.lst (l.map fun xs => D.str (mkS xs))) S' ∧ (∀ xs ∈ l, Near cs xs) ∧ l.length = 7 ∧ Bx L n (k + 2) S' := by
  obtain ⟨v, S1, e1, v0, v1, B1⟩ := take_bx (m := (cs.length : Int) + 1) h (by omega) (by omega) (by omega)
  obtain ⟨own, S2, e2, o1, B2⟩ := of_bx (ds := signs "  -ab0191A;>z_") B1 (by omega) (by decide +kernel) (by decide +kernel)
  rw [show k + 1 + 1 = k + 2 by omega] at B2
  obtain ⟨v, rfl⟩ : ∃ v' : Nat, v = (v' : Int) := ⟨v.toNat, by omega⟩
  have hv : v ≤ cs.length := by omega
  obtain ⟨c, c1, ec⟩ : ∃ c, c < 128 ∧ own = .str (mkS [c]) := by
    unfold signs at o1
    obtain ⟨c, hc, rfl⟩ := List.mem_map.mp o1
    refine ⟨c, ?_, rfl⟩
    have : ∀ c ∈ ("  -ab0191A;>z_" : Str).cps.toList, c < 128 := by decide +kernel
    exact this c hc
  subst ec
  have lt := fun v => List.length_take (i := v) (l := cs)
  have ld := fun v => List.length_drop (i := v) (l := cs)
  have k1 := fun v => (tk_ds ha v).1
  have k2 := fun v => (tk_ds ha v).2
  let xs : List (List Nat) := [cs.take v ++ [c] ++ cs.drop v, cs.take v ++ cs.drop (v + 1)]
  let x3 := cs.take v ++ [c] ++ cs.drop (v + 1)
  let x4 := cs.take v ++ ((cs.drop v).take 2).reverse ++ cs.drop (v + 2)
  let ys : List (List Nat) := [cs ++ [32], [32] ++ cs, cs ++ [c]]
  refine ⟨xs ++ [x3] ++ [x4] ++ ys, S2, ?_, ?_, rfl, B2⟩
  · have h1 : f_law_bent [.cell n, .str (mkS cs)] S = fnEndC S.length (m_law_bent [some (.cell n), some (.str (mkS cs)), none, none, none] S) := rfl
    rw [h1]
    have lS : S2.length = L := B2.len
    have b1 : sAsg (sTup (aCons (sCall (f_law_take) (aCons (sV 0) (aCons (sOp fAdd (sF bLen (aCons (sV 1) (aNil))) (sC (.int 1))) (aNil)))) (aCons (sCall (f_law_of) (aCons (sV 0) (aCons (sF bListA (aCons (sC (.str "  -ab0191A;>z_")) (aNil))) (aNil)))) (aNil)))) (gTg (.tp [2, 3])) [some (.cell n), some (.str (mkS cs)), none, none, none] S = .nx [some (.cell n), some (.str (mkS cs)), some (.int (v : Int)), some (.str (mkS [c])), none] S2 := by
      refine (sAsg_ok (sTup_ok (aCons_ok ((call2 (d := .cell n) (e := .int ((cs.length : Int) + 1)) (S1 := S) (S2 := S) rfl ?_).trans e1) (aCons_ok ((call2 (d := .cell n) rfl (if_pos (e := Res.bad) (show ("  -ab0191A;>z_" : Str).length ≤ lim by decide +kernel))).trans e2) rfl)) (by simp [lim]))).trans rfl
      refine (sOp_ok (d := .int (cs.length : Int)) (S1 := S) ((sF1 (d := .str (mkS cs)) (S1 := S) rfl).trans (len_str (by rw [mkS_len]; unfold lim; omega))) rfl).trans rfl
    have b2 : sAsg (sLstC (aCons (sOp fAdd (sOp fAdd (sSl (sV 1) (oNone) (oSome (sV 2))) (sV 3)) (sSl (sV 1) (oSome (sV 2)) (oNone))) (aCons (sOp fAdd (sSl (sV 1) (oNone) (oSome (sV 2))) (sSl (sV 1) (oSome (sOp fAdd (sV 2) (sC (.int 1)))) (oNone))) (aNil)))) (gN 4) [some (.cell n), some (.str (mkS cs)), some (.int (v : Int)), some (.str (mkS [c])), none] S2 = .nx [some (.cell n), some (.str (mkS cs)), some (.int (v : Int)), some (.str (mkS [c])), some (.cell L)] (S2 ++ [.lv (.lst (xs.map fun xs => D.str (mkS xs)))]) := by
      rw [← lS]
      refine sAsg_gN (sLstC_ok (aCons_ok (add_mk (add_mk (sl_to rfl rfl (by omega) hv) rfl ?_) (sl_from rfl rfl (by omega)) ?_) (aCons_ok (add_mk (sl_to rfl rfl (by omega) hv) (sl_from rfl (at_add (m := 1) rfl rfl) (by omega)) ?_) rfl)) (show 2 ≤ lim by decide))
      · simp [lt]; omega
      · simp [lt, ld]; omega
      · simp [lt, ld]; omega
    have b3 : sDo (sM "list" mAppend (sV 4) (aCons (sOp fAdd (sOp fAdd (sSl (sV 1) (oNone) (oSome (sV 2))) (sV 3)) (sSl (sV 1) (oSome (sOp fAdd (sV 2) (sC (.int 1)))) (oNone))) (aNil))) [some (.cell n), some (.str (mkS cs)), some (.int (v : Int)), some (.str (mkS [c])), some (.cell L)] (S2 ++ [.lv (.lst (xs.map fun xs => D.str (mkS xs)))]) = .nx [some (.cell n), some (.str (mkS cs)), some (.int (v : Int)), some (.str (mkS [c])), some (.cell L)] (S2 ++ [.lv (.lst ((xs.map fun xs => D.str (mkS xs)) ++ [.str (mkS x3)]))]) := by
      refine app_ok lS rfl (add_mk (add_mk (sl_to rfl rfl (by omega) hv) rfl ?_) (sl_from rfl (at_add (m := 1) rfl rfl) (by omega)) ?_) (by rw [List.length_map]; exact (by decide : (2 : Nat) < lim))
      · simp [lt]; omega
      · simp [lt, ld]; omega
    have b4 : sDo (sM "list" mAppend (sV 4) (aCons (sOp fAdd (sOp fAdd (sSl (sV 1) (oNone) (oSome (sV 2))) (sRev (sSl (sV 1) (oSome (sV 2)) (oSome (sOp fAdd (sV 2) (sC (.int 2))))))) (sSl (sV 1) (oSome (sOp fAdd (sV 2) (sC (.int 2)))) (oNone))) (aNil))) [some (.cell n), some (.str (mkS cs)), some (.int (v : Int)), some (.str (mkS [c])), some (.cell L)] (S2 ++ [.lv (.lst ((xs.map fun xs => D.str (mkS xs)) ++ [.str (mkS x3)]))]) = .nx [some (.cell n), some (.str (mkS cs)), some (.int (v : Int)), some (.str (mkS [c])), some (.cell L)] (S2 ++ [.lv (.lst ((xs.map fun xs => D.str (mkS xs)) ++ [.str (mkS x3)] ++ [.str (mkS x4)]))]) := by
      refine app_ok lS rfl (add_mk (add_mk (sl_to rfl rfl (by omega) hv) (rev_mk (sl_mid rfl rfl (at_add (m := 2) rfl rfl) (by omega) hv) ?_) ?_) (sl_from rfl (at_add (m := 2) rfl rfl) (by omega)) ?_) (by rw [List.length_append, List.length_map]; exact (by decide : (3 : Nat) < lim))
      · simp [lt, ld]; omega
      · simp [lt, ld]; omega
      · simp [lt, ld]; omega
    have b5 : sRet (sOp fAdd (sV 4) (sLst (aCons (sOp fAdd (sV 1) (sC (.str " "))) (aCons (sOp fAdd (sC (.str " ")) (sV 1)) (aCons (sOp fAdd (sV 1) (sV 3)) (aNil)))))) [some (.cell n), some (.str (mkS cs)), some (.int (v : Int)), some (.str (mkS [c])), some (.cell L)] (S2 ++ [.lv (.lst ((xs.map fun xs => D.str (mkS xs)) ++ [.str (mkS x3)] ++ [.str (mkS x4)]))]) = .rt (.lst ((xs ++ [x3] ++ [x4] ++ ys).map fun xs => D.str (mkS xs))) (S2 ++ [.lv (.lst ((xs.map fun xs => D.str (mkS xs)) ++ [.str (mkS x3)] ++ [.str (mkS x4)]))]) := by
      have q : (" " : Str) = mkS [32] := by decide +kernel
      rw [q]
      refine sRet_ok ((sOp_ok rfl (sLst_ok (aCons_ok (add_mk (a := cs) rfl rfl ?_) (aCons_ok (add_mk rfl (b := cs) rfl ?_) (aCons_ok (add_mk (a := cs) rfl rfl ?_) rfl))) (by simp [lim]))).trans ?_)
      · simp; omega
      · simp; omega
      · simp; omega
      · have r : tk (S2 ++ [.lv (.lst ((xs.map fun xs => D.str (mkS xs)) ++ [.str (mkS x3)] ++ [.str (mkS x4)]))]) (.cell L) = .lst ((xs.map fun xs => D.str (mkS xs)) ++ [.str (mkS x3)] ++ [.str (mkS x4)]) := by
          show cget _ L = _
          unfold cget
          rw [List.getElem?_append_right (by omega), lS, Nat.sub_self]
          rfl
        unfold fAdd
        rw [r]
        exact if_pos (show 7 ≤ lim by decide)
    have b6 : m_law_bent [some (.cell n), some (.str (mkS cs)), none, none, none] S = .rt (.lst ((xs ++ [x3] ++ [x4] ++ ys).map fun xs => D.str (mkS xs))) (S2 ++ [.lv (.lst ((xs.map fun xs => D.str (mkS xs)) ++ [.str (mkS x3)] ++ [.str (mkS x4)]))]) := (sSeq_nx b1).trans ((sSeq_nx b2).trans ((sSeq_nx b3).trans ((sSeq_nx b4).trans b5)))
    rw [b6]
    have tS : (S2 ++ [Cel.lv (.lst ((xs.map fun xs => D.str (mkS xs)) ++ [.str (mkS x3)] ++ [.str (mkS x4)]))]).take S.length = S2 := by rw [h.len, ← lS, List.take_left']; rfl
    show (if belowL S.length _ && ((S2 ++ [Cel.lv (.lst ((xs.map fun xs => D.str (mkS xs)) ++ [.str (mkS x3)] ++ [.str (mkS x4)]))]).take S.length).all (belowC S.length) then Res.ok (D.lst ((xs ++ [x3] ++ [x4] ++ ys).map fun xs => D.str (mkS xs))) ((S2 ++ [Cel.lv (.lst ((xs.map fun xs => D.str (mkS xs)) ++ [.str (mkS x3)] ++ [.str (mkS x4)]))]).take S.length) else .bad) = _
    rw [tS, belowB B2.all, belowL_all fun d hd => ?_]
    · rfl
    · obtain ⟨x, _, rfl⟩ := List.mem_map.mp hd
      rfl
  · intro x hx
    have hx : x = cs.take v ++ [c] ++ cs.drop v ∨ x = cs.take v ++ cs.drop (v + 1) ∨ x = cs.take v ++ [c] ++ cs.drop (v + 1) ∨ x = cs.take v ++ ((cs.drop v).take 2).reverse ++ cs.drop (v + 2) ∨ x = cs ++ [32] ∨ x = [32] ++ cs ∨ x = cs ++ [c] := by
      simpa [xs, ys, x3, x4] using hx
    unfold Near
    rcases hx with rfl | rfl | rfl | rfl | rfl | rfl | rfl
    · refine ⟨by simp [lt, ld]; omega, fun d hd => ?_⟩
      simp only [List.mem_append, List.mem_singleton] at hd
      rcases hd with (hd | rfl) | hd
      · exact k1 _ _ hd
      · exact c1
      · exact k2 _ _ hd
    · refine ⟨by simp [lt, ld]; omega, fun d hd => ?_⟩
      simp only [List.mem_append] at hd
      rcases hd with hd | hd
      · exact k1 _ _ hd
      · exact k2 _ _ hd
    · refine ⟨by simp [lt, ld]; omega, fun d hd => ?_⟩
      simp only [List.mem_append, List.mem_singleton] at hd
      rcases hd with (hd | rfl) | hd
      · exact k1 _ _ hd
      · exact c1
      · exact k2 _ _ hd
    · refine ⟨by simp [lt, ld]; omega, fun d hd => ?_⟩
      simp only [List.mem_append, List.mem_reverse] at hd
      rcases hd with (hd | hd) | hd
      · exact k1 _ _ hd
      · exact k2 _ _ (List.mem_of_mem_take hd)
      · exact k2 _ _ hd
    · refine ⟨by simp, fun d hd => ?_⟩
      simp only [List.mem_append, List.mem_singleton] at hd
      rcases hd with hd | rfl
      · exact ha _ hd
      · omega
    · refine ⟨by simp, fun d hd => ?_⟩
      simp only [List.mem_append, List.mem_singleton] at hd
      rcases hd with rfl | hd
      · omega
      · exact ha _ hd
    · refine ⟨by simp, fun d hd => ?_⟩
      simp only [List.mem_append, List.mem_singleton] at hd
      rcases hd with hd | rfl
      · exact ha _ hd
      · exact c1
end K20
end S_K20M17
section S_K20M18
set_option Elab.async false
set_option linter.all false
set_option maxRecDepth 100000
set_option maxHeartbeats 4000000
namespace K20
open PySem L2 T
theorem joinL_in {Z : List Nat} : ∀ (ps : List (List Nat)), (∀ c ∈ TL.joinL Z ps, c ∈ Z ∨ ∃ p ∈ ps, c ∈ p) ∧ (TL.joinL Z ps).length ≤ (ps.map List.length).sum + ps.length * Z.length
  | [] => ⟨fun c hc => (by cases hc), by simp [TL.joinL]⟩
  | [p] => ⟨fun c hc => .inr ⟨p, List.mem_singleton.mpr rfl, hc⟩, by simp [TL.joinL]⟩
  | p :: q :: r => by
    obtain ⟨h1, h2⟩ := joinL_in (Z := Z) (q :: r)
    have e : TL.joinL Z (p :: q :: r) = p ++ (Z ++ TL.joinL Z (q :: r)) := by
      simp [TL.joinL]
    rw [e]
    refine ⟨fun c hc => ?_, ?_⟩
    · rcases List.mem_append.mp hc with z | z
      · exact .inr ⟨p, List.mem_cons_self, z⟩
      · rcases List.mem_append.mp z with z | z
        · exact .inl z
        · rcases h1 c z with z | ⟨w, z1, z2⟩
          · exact .inl z
          · exact .inr ⟨w, List.mem_cons_of_mem _ z1, z2⟩
    · simp only [List.length_append, List.map_cons, List.sum_cons, List.length_cons] at h2 ⊢
      have : (r.length + 1 + 1) * Z.length = (r.length + 1) * Z.length + Z.length := by rw [Nat.add_mul (r.length + 1), Nat.one_mul]
      omega
theorem row_facts {l : List Str} (h : ∀ w ∈ l, Asc w) (hs : sumLen l + l.length ≤ 600) : Asc (rowT l) ∧ (rowT l).length ≤ 600 := by
  unfold rowT
  split
  · exact ⟨by unfold Asc; decide +kernel, by decide +kernel⟩
  · have e : (joinS " " l).cps.toList = TL.joinL [32] (l.map TL.tl) := by
      unfold joinS
      have e : TL.tl (" " : Str) = [32] := by decide +kernel
      rw [e]
      rfl
    obtain ⟨h1, h2⟩ := joinL_in (Z := [32]) (l.map TL.tl)
    refine ⟨fun c hc => ?_, ?_⟩
    · rw [e] at hc
      rcases h1 c hc with z | ⟨p, hp, z⟩
      · rw [List.mem_singleton] at z; omega
      · obtain ⟨w, hw, rfl⟩ := List.mem_map.mp hp
        exact h w hw c z
    · have : (joinS " " l).length = (joinS " " l).cps.toList.length := by rw [Array.length_toList]; rfl
      rw [this, e]
      have z : ((l.map TL.tl).map List.length).sum = sumLen l := by
        unfold sumLen
        rw [List.map_map]
        congr 1
      rw [z, List.length_map] at h2
      simp only [List.length_singleton, Nat.mul_one] at h2
      omega
theorem nm_asc {x : Str} (h : nmB x = true) : Asc x := fun c hc => by
  have := isL_iff.mp ((nmB_all (l := x.cps.toList) h).1 c hc)
  omega
theorem tw_asc {p : Str × Int} (g : GoodT p) : Asc (tw p) := fun c hc => by
  rw [tw_codes g] at hc
  rcases List.mem_append.mp hc with z | z
  · exact nm_asc g.nm c z
  · have := TL.numL_digits _ c z
    omega
theorem sum_nm {l : List Str} (h : ∀ x ∈ l, nmB x = true) : sumLen l ≤ l.length * 8 := by
  unfold sumLen
  induction l with
  | nil => simp
  | cons p r ih =>
    have := ih fun q hq => h q (List.mem_cons_of_mem _ hq)
    have := nm_len (h p List.mem_cons_self)
    simp only [List.map_cons, List.sum_cons, List.length_cons] at *
    omega
def loopB : SemS := sIf (cNot (isB (sCall (f_law_same 6) (aCons (sLst (aCons (sCall (f_law_heard) (aCons (sC (.int 0)) (aCons (sV 3) (aNil)))) (aCons (sCall (f_law_heard) (aCons (sC (.int 1)) (aCons (sV 3) (aNil)))) (aNil)))) (aCons (sLst (aCons (sCall (f_law_tags_in) (aCons (sV 3) (aNil))) (aCons (sCall (f_law_turns_in) (aCons (sV 3) (aNil))) (aNil)))) (aNil)))))) (sRet (sC (.bl false))) (sNext)
theorem sm_bad : Sm 5 (.lst [.str "bad", .bl true]) := .lst (by decide) fun d hd => by
  rcases List.mem_cons.mp hd with rfl | hd
  · exact .str
  · rw [List.mem_singleton] at hd
    subst hd
    exact .bl
theorem sm_sts {l : List Str} (h : l.length ≤ lim) : Sm 5 (.tup (sts l)) := .tup (by rw [List.length_map]; exact h) fun d hd => by
  obtain ⟨x, _, rfl⟩ := List.mem_map.mp hd
  exact .str
theorem sm_oT {l : List (Str × Int)} (h : l.length ≤ lim) : Sm 5 (.tup (l.map oT)) := .tup (by rw [List.length_map]; exact h) fun d hd => by
  obtain ⟨x, _, rfl⟩ := List.mem_map.mp hd
  refine .tup (show 2 ≤ lim by decide) fun d hd => ?_
  rcases List.mem_cons.mp hd with rfl | hd
  · exact .str
  · rw [List.mem_singleton] at hd
    subst hd
    exact .int
theorem loop1 {env : T.Env} {S : Sto} {x : Str} (h3 : env[3]? = some (some (.str x))) (hx : x.length ≤ 640) (ha : Asc x) : loopB env S = .nx env S := by
  have h0 := heard0_ok (S := S) hx
  have h1 := heard1_ok (S := S) hx
  have h2 := tags_in_ok (S := S) (show x.length < lim by unfold lim; omega) ha
  have h4 := turns_in_ok (S := S) hx ha
  have c1 := wds_count x
  have c2 := tvs_count x
  generalize hA : (if (wds x).all nmB then D.tup (sts (wds x)) else .lst [.str "bad", .bl true]) = A at h0 h2
  generalize hB : (if tOk x then D.tup ((tvs x).map oT) else .lst [.str "bad", .bl true]) = B at h1 h4
  have sA : Sm 5 A := by
    rw [← hA]
    split
    · exact sm_sts (by unfold lim; omega)
    · exact sm_bad
  have sB : Sm 5 B := by
    rw [← hB]
    split
    · exact sm_oT (by unfold lim; omega)
    · exact sm_bad
  have sm : Sm 6 (.lst [A, B]) := .lst (show 2 ≤ lim by decide) fun d hd => by
    rcases List.mem_cons.mp hd with rfl | hd
    · exact sA
    · rw [List.mem_singleton] at hd
      subst hd
      exact sB
  have v := sV_at (S := S) h3
  unfold loopB
  rw [sIf_f (S1 := S) (cNot_ok (r := true) (isB_ok ((sCall_ok (aCons_ok (sLst_ok (aCons_ok ((call2 rfl v).trans h0) (aCons_ok ((call2 rfl v).trans h1) aNil_ok)) (show 2 ≤ lim by decide)) (aCons_ok (sLst_ok (aCons_ok ((call1 v).trans h2) (aCons_ok ((call1 v).trans h4) aNil_ok)) (show 2 ≤ lim by decide)) aNil_ok))).trans (same_ok 6 _ sm))))]
  rfl
theorem loop_ok {S : Sto} : ∀ (xs : List Str) (env : T.Env), 3 < env.length → (∀ x ∈ xs, x.length ≤ 640 ∧ Asc x) → ∃ env', forGo (.nm 3) loopB (sts xs) env S = .nx env' S
  | [], env, _, _ => ⟨env, rfl⟩
  | x :: xs, env, he, h => by
    obtain ⟨env', e⟩ := loop_ok xs (env.set 3 (some (.str x))) (by rw [List.length_set]; exact he) fun y hy => h y (List.mem_cons_of_mem _ hy)
    refine ⟨env', ?_⟩
    rw [sts, List.map_cons, forGo_nx (env1 := env.set 3 (some (.str x))) rfl (loop1 (x := x) (List.getElem?_set_self he) (h x List.mem_cons_self).1 (h x List.mem_cons_self).2)]
    exact e
end K20
end S_K20M18
section S_K20M19
set_option Elab.async false
set_option linter.all false
set_option maxRecDepth 100000
set_option maxHeartbeats 4000000
namespace K20
open PySem L2 T
theorem sl_mk (x : Str) : mkS x.cps.toList = x := rfl
theorem case_right_ok {L n : Nat} {k : Int} {S : Sto} {l : List Str} {ps : List (Str × Int)} (h : Bx L n k S) (hk : k < 2 ^ 58) (hl : ∀ x ∈ l, nmB x = true) (ll : l.length ≤ 9) (hp : ∀ p ∈ ps, GoodT p) (lp : ps.length ≤ 9) (hs : ascZ (ps.map (·.1)) = true) :
    ∃ S', f_law_case_right [.cell n, .tup (sts l), .tup (ps.map oT)] S = .ok (.bl true) S' ∧ Bx L n (k + 4) S' := by
  have s1 := sum_nm hl
  have s2 := sum_tw hp
  obtain ⟨aW, lW⟩ := row_facts (l := l) (fun w hw => nm_asc (hl w hw)) (by omega)
  obtain ⟨aR, lR⟩ := row_facts (l := ps.map tw) (fun w hw => by obtain ⟨p, hp', rfl⟩ := List.mem_map.mp hw; exact tw_asc (hp p hp')) (by rw [List.length_map]; omega)
  obtain ⟨t1, t2⟩ := tags_trip hl
  obtain ⟨t3, t4⟩ := turns_trip hp hs
  have n1 : ∀ S, f_names_text [.tup (sts l)] S = .ok (.str (rowT l)) S := fun S => names_textT (by unfold lim; omega)
  have n2 : ∀ S, f_names_text [.lst (sts l)] S = .ok (.str (rowT l)) S := fun S => names_textL (by unfold lim; omega)
  have n3 : ∀ S, f_read_names [.str (rowT l)] S = .ok (.tup (sts l)) S := fun S => by rw [read_names_ok (by unfold lim; omega), t2, t1]; rfl
  have n4 : ∀ S, f_turns_text [.tup (ps.map oT)] S = .ok (.str (rowT (ps.map tw))) S := fun S => turns_textT hp (by omega)
  have n5 : ∀ S, f_turns_text [.lst (ps.map oL)] S = .ok (.str (rowT (ps.map tw))) S := fun S => turns_textL hp (by omega)
  have n6 : ∀ S, f_read_turns [.str (rowT (ps.map tw))] S = .ok (.tup (ps.map oT)) S := fun S => by rw [read_turns_ok (by omega), t4, t3]; rfl
  have n7 : ∀ S, f_law_lists 4 [.tup (ps.map oT)] S = .ok (.lst (ps.map oL)) S := fun S => lists_ok (by omega)
  have pl : ∀ S, ∀ d ∈ sts l, Pla S 20 d := fun S d hd => by
    obtain ⟨x, hx, rfl⟩ := List.mem_map.mp hd
    exact .str (nm_asc (hl x hx)).ok
  have pp : ∀ S, ∀ d ∈ ps.map oT, Pla S 20 d := fun S d hd => by
    obtain ⟨p, hp', rfl⟩ := List.mem_map.mp hd
    exact pla_oT (nm_asc (hp p hp').nm)
  let W := rowT l
  let R := rowT (ps.map tw)
  have b1 : sAsg (sIfx (isB (sOp fNe (sV 1) (sTup (aNil)))) (sM "str" mJoin (sC (.str " ")) (aCons (sV 1) (aNil))) (sC (.str "-"))) (gN 3) [some (.cell n), some (.tup (sts l)), some (.tup (ps.map oT)), none, none, none, none, none] S = .nx [some (.cell n), some (.tup (sts l)), some (.tup (ps.map oT)), some (.str W), none, none, none, none] S := by
    refine sAsg_gN ?_
    have c := (sOp_ok (f := fNe) (m := sV 1) (n := sTup aNil) (env := [some (.cell n), some (.tup (sts l)), some (.tup (ps.map oT)), none, none, none, none, none]) (S := S) (d := .tup (sts l)) (e := .tup []) rfl rfl).trans (ne_nilT (pl S))
    show _ = Res.ok (D.str (rowT l)) S
    unfold rowT
    cases q : l.isEmpty
    · rw [List.isEmpty_map, q] at c
      rw [sIfx_t (isB_ok c)]
      exact join_okT (by unfold lim; omega)
    · rw [List.isEmpty_map, q] at c
      rw [sIfx_f (isB_ok c)]
      rfl
  have b2 : sAsg (sIfx (isB (sOp fNe (sV 2) (sTup (aNil)))) (sM "str" mJoin (sC (.str " ")) (aCons (sLc [7, 6] (iSeq (sV 2)) (.tp [7, 6]) (cYes) (sOp fAdd (sV 7) (sF bStr (aCons (sV 6) (aNil))))) (aNil))) (sC (.str "-"))) (gN 4) [some (.cell n), some (.tup (sts l)), some (.tup (ps.map oT)), some (.str W), none, none, none, none] S = .nx [some (.cell n), some (.tup (sts l)), some (.tup (ps.map oT)), some (.str W), some (.str R), none, none, none] S := by
    refine sAsg_gN ?_
    have c := (sOp_ok (f := fNe) (m := sV 2) (n := sTup aNil) (env := [some (.cell n), some (.tup (sts l)), some (.tup (ps.map oT)), some (.str W), none, none, none, none]) (S := S) (d := .tup (ps.map oT)) (e := .tup []) rfl rfl).trans (ne_nilT (pp S))
    have e : sLc [7, 6] (iSeq (sV 2)) (.tp [7, 6]) cYes (sOp fAdd (sV 7) (sF bStr (aCons (sV 6) aNil))) [some (.cell n), some (.tup (sts l)), some (.tup (ps.map oT)), some (.str W), none, none, none, none] S = .ok (.lst (sts (ps.map tw))) S := by
      have z := sLc_ok (vs := [7, 6]) (i := iSeq (sV 2)) (t := .tp [7, 6]) (c := cYes) (e := sOp fAdd (sV 7) (sF bStr (aCons (sV 6) aNil))) (env := [some (.cell n), some (.tup (sts l)), some (.tup (ps.map oT)), some (.str W), none, none, none, none]) (S := S) (rfl : _ = Res.ok (ps.map oT) S) (lc_map (f := oT) (g := fun p => D.str (tw p)) ps (fun p hp' => ⟨_, rfl, rfl, tw_ok (hp p hp')⟩) (by unfold lim; omega))
      rw [z, sts, List.map_map]
      rfl
    show _ = Res.ok (D.str (rowT (ps.map tw))) S
    unfold rowT
    rw [show (ps.map tw).isEmpty = ps.isEmpty from List.isEmpty_map]
    cases q : ps.isEmpty
    · rw [List.isEmpty_map, q] at c
      rw [sIfx_t (isB_ok c)]
      refine (sM_ok (d := .str " ") (S1 := S) rfl rfl (aCons_ok e aNil_ok)).trans (join_okL ?_)
      rw [List.length_map]
      unfold lim
      omega
    · rw [List.isEmpty_map, q] at c
      rw [sIfx_f (isB_ok c)]
      rfl
  have b3 : sAsg (sLst (aCons (sCall (f_names_text) (aCons (sV 1) (aNil))) (aCons (sCallK (f_names_text) 0 1 [0] aNil (aCons (sF bListA (aCons (sV 1) (aNil))) (aNil))) (aCons (sCall (f_read_names) (aCons (sV 3) (aNil))) (aCons (sCallK (f_read_names) 0 1 [0] aNil (aCons (sV 3) (aNil))) (aNil)))))) (gN 5) [some (.cell n), some (.tup (sts l)), some (.tup (ps.map oT)), some (.str W), some (.str R), none, none, none] S = .nx [some (.cell n), some (.tup (sts l)), some (.tup (ps.map oT)), some (.str W), some (.str R), some (.lst [.str W, .str W, .tup (sts l), .tup (sts l)]), none, none] S :=
    sAsg_gN (sLst_ok (aCons_ok ((call1 rfl).trans (n1 S)) (aCons_ok ((callK1 (d := .lst (sts l)) (S1 := S) rfl).trans (n2 S)) (aCons_ok ((call1 rfl).trans (n3 S)) (aCons_ok ((callK1 (S1 := S) rfl).trans (n3 S)) aNil_ok)))) (show 4 ≤ lim by decide))
  have b4 : sAsg (sOp fAdd (sV 5) (sLst (aCons (sCall (f_turns_text) (aCons (sV 2) (aNil))) (aCons (sCallK (f_turns_text) 0 1 [0] aNil (aCons (sCall (f_law_lists 4) (aCons (sV 2) (aNil))) (aNil))) (aCons (sCall (f_read_turns) (aCons (sV 4) (aNil))) (aCons (sCallK (f_read_turns) 0 1 [0] aNil (aCons (sV 4) (aNil))) (aNil))))))) (gN 5) [some (.cell n), some (.tup (sts l)), some (.tup (ps.map oT)), some (.str W), some (.str R), some (.lst [.str W, .str W, .tup (sts l), .tup (sts l)]), none, none] S = .nx [some (.cell n), some (.tup (sts l)), some (.tup (ps.map oT)), some (.str W), some (.str R), some (.lst [.str W, .str W, .tup (sts l), .tup (sts l), .str R, .str R, .tup (ps.map oT), .tup (ps.map oT)]), none, none] S := by
    refine sAsg_gN ((sOp_ok (d := .lst [.str W, .str W, .tup (sts l), .tup (sts l)]) (S1 := S) rfl (sLst_ok (aCons_ok ((call1 rfl).trans (n4 S)) (aCons_ok ((callK1 (d := .lst (ps.map oL)) (S1 := S) ((call1 rfl).trans (n7 S))).trans (n5 S)) (aCons_ok ((call1 rfl).trans (n6 S)) (aCons_ok ((callK1 (S1 := S) rfl).trans (n6 S)) aNil_ok)))) (show 4 ≤ lim by decide))).trans ?_)
    exact if_pos (e := Res.bad) (show 8 ≤ lim by decide)
  have b5 : sIf (cNot (isB (sCall (f_law_same 6) (aCons (sV 5) (aCons (sLst (aCons (sV 3) (aCons (sV 3) (aCons (sV 1) (aCons (sV 1) (aCons (sV 4) (aCons (sV 4) (aCons (sV 2) (aCons (sV 2) (aNil)))))))))) (aNil)))))) (sRet (sC (.bl false))) (sNext) [some (.cell n), some (.tup (sts l)), some (.tup (ps.map oT)), some (.str W), some (.str R), some (.lst [.str W, .str W, .tup (sts l), .tup (sts l), .str R, .str R, .tup (ps.map oT), .tup (ps.map oT)]), none, none] S = .nx [some (.cell n), some (.tup (sts l)), some (.tup (ps.map oT)), some (.str W), some (.str R), some (.lst [.str W, .str W, .tup (sts l), .tup (sts l), .str R, .str R, .tup (ps.map oT), .tup (ps.map oT)]), none, none] S := by
    have z1 : Sm 5 (.tup (sts l)) := sm_sts (by unfold lim; omega)
    have z2 : Sm 5 (.tup (ps.map oT)) := sm_oT (by unfold lim; omega)
    have sm : Sm 6 (.lst [.str W, .str W, .tup (sts l), .tup (sts l), .str R, .str R, .tup (ps.map oT), .tup (ps.map oT)]) := .lst (show 8 ≤ lim by decide) fun d hd => by
      simp only [List.mem_cons, List.not_mem_nil, or_false] at hd
      rcases hd with rfl | rfl | rfl | rfl | rfl | rfl | rfl | rfl <;> first | exact .str | exact z1 | exact z2
    rw [sIf_f (S1 := S) (cNot_ok (r := true) (isB_ok ((sCall_ok (ds := [.lst [.str W, .str W, .tup (sts l), .tup (sts l), .str R, .str R, .tup (ps.map oT), .tup (ps.map oT)], .lst [.str W, .str W, .tup (sts l), .tup (sts l), .str R, .str R, .tup (ps.map oT), .tup (ps.map oT)]]) (S1 := S) rfl).trans (same_ok 6 _ sm))))]
    rfl
  obtain ⟨l1, S1, g1, q1, c1, B1⟩ := bent_ok (cs := W.cps.toList) h (by omega) (by rw [Array.length_toList]; exact lW) aW
  obtain ⟨l2, S2, g2, q2, c2, B2⟩ := bent_ok (cs := R.cps.toList) B1 (by omega) (by rw [Array.length_toList]; exact lR) aR
  rw [sl_mk] at g1 g2
  rw [show k + 2 + 2 = k + 4 by omega] at B2
  let xs : List Str := l1.map mkS ++ l2.map mkS ++ [W, R]
  have hx : ∀ x ∈ xs, x.length ≤ 640 ∧ Asc x := fun x hx => by
    rcases List.mem_append.mp hx with z | z
    · rcases List.mem_append.mp z with z | z
      · obtain ⟨cs, hc, rfl⟩ := List.mem_map.mp z
        obtain ⟨w1, w2⟩ := q1 cs hc
        have z : W.cps.toList.length ≤ 600 := by rw [Array.length_toList]; exact lW
        exact ⟨Nat.le_trans (show cs.length ≤ 601 by omega) (by decide), w2⟩
      · obtain ⟨cs, hc, rfl⟩ := List.mem_map.mp z
        obtain ⟨w1, w2⟩ := q2 cs hc
        have z : R.cps.toList.length ≤ 600 := by rw [Array.length_toList]; exact lR
        exact ⟨Nat.le_trans (show cs.length ≤ 601 by omega) (by decide), w2⟩
    · simp only [List.mem_cons, List.not_mem_nil, or_false] at z
      rcases z with rfl | rfl
      · exact ⟨by show W.length ≤ 640; have : W.length ≤ 600 := lW; omega, aW⟩
      · exact ⟨by show R.length ≤ 640; have : R.length ≤ 600 := lR; omega, aR⟩
  obtain ⟨env', lo⟩ := loop_ok (S := S2) xs [some (.cell n), some (.tup (sts l)), some (.tup (ps.map oT)), some (.str W), some (.str R), some (.lst [.str W, .str W, .tup (sts l), .tup (sts l), .str R, .str R, .tup (ps.map oT), .tup (ps.map oT)]), none, none] (show 3 < 8 by decide) hx
  have b6 : sFor (iSeq (sOp fAdd (sOp fAdd (sCall (f_law_bent) (aCons (sV 0) (aCons (sV 3) (aNil)))) (sCall (f_law_bent) (aCons (sV 0) (aCons (sV 4) (aNil))))) (sLst (aCons (sV 3) (aCons (sV 4) (aNil)))))) (.nm 3) loopB [some (.cell n), some (.tup (sts l)), some (.tup (ps.map oT)), some (.str W), some (.str R), some (.lst [.str W, .str W, .tup (sts l), .tup (sts l), .str R, .str R, .tup (ps.map oT), .tup (ps.map oT)]), none, none] S = .nx env' S2 := by
    refine (sFor_ok (ds := sts xs) (S1 := S2) ?_).trans lo
    unfold iSeq
    have e1 := (sOp_ok (f := fAdd) ((call2 (m := sV 0) (n := sV 3) (env := [some (.cell n), some (.tup (sts l)), some (.tup (ps.map oT)), some (.str W), some (.str R), some (.lst [.str W, .str W, .tup (sts l), .tup (sts l), .str R, .str R, .tup (ps.map oT), .tup (ps.map oT)]), none, none]) (S := S) rfl rfl).trans g1) ((call2 (m := sV 0) (n := sV 4) rfl rfl).trans g2)).trans (show fAdd S2 (.lst (l1.map fun xs => D.str (mkS xs))) (.lst (l2.map fun xs => D.str (mkS xs))) = .ok (.lst (sts (l1.map mkS ++ l2.map mkS))) S2 from by
      show (if (l1.map fun xs => D.str (mkS xs)).length + (l2.map fun xs => D.str (mkS xs)).length ≤ lim then Res.ok (D.lst ((l1.map fun xs => D.str (mkS xs)) ++ l2.map fun xs => D.str (mkS xs))) S2 else .bad) = _
      rw [List.length_map, List.length_map, c1, c2, if_pos (by decide), sts, List.map_append, List.map_map, List.map_map]
      rfl)
    have e2 := (sOp_ok (f := fAdd) e1 (sLst_ok (aCons_ok (d := .str W) (S1 := S2) (m := sV 3) rfl (aCons_ok (d := .str R) (S1 := S2) (m := sV 4) rfl aNil_ok)) (show 2 ≤ lim by decide))).trans (show fAdd S2 (.lst (sts (l1.map mkS ++ l2.map mkS))) (.lst [.str W, .str R]) = .ok (.lst (sts xs)) S2 from by
      show (if (sts (l1.map mkS ++ l2.map mkS)).length + 2 ≤ lim then Res.ok (D.lst (sts (l1.map mkS ++ l2.map mkS) ++ [.str W, .str R])) S2 else .bad) = _
      rw [List.length_map, List.length_append, List.length_map, List.length_map, c1, c2, if_pos (by decide)]
      show _ = Res.ok (D.lst ((l1.map mkS ++ l2.map mkS ++ [W, R]).map D.str)) S2
      rw [List.map_append (l₂ := [W, R])]
      rfl)
    rw [e2]
    rfl
  refine ⟨S2, ?_, B2⟩
  refine (fnOf_eq (by rfl)).trans ?_
  have b7 : m_law_case_right (entry 8 [.cell n, .tup (sts l), .tup (ps.map oT)]) S = .rt (.bl true) S2 := (sSeq_nx b1).trans ((sSeq_nx b2).trans ((sSeq_nx b3).trans ((sSeq_nx b4).trans ((sSeq_nx b5).trans ((sSeq_nx b6).trans rfl)))))
  rw [b7]
  exact fin_ok (B2.len.trans h.len.symm)
end K20
end S_K20M19
section S_K20M20
set_option Elab.async false
set_option linter.all false
set_option maxRecDepth 100000
set_option maxHeartbeats 4000000
namespace K20
open PySem L2 T
theorem strs_in {l : List Str} : ∀ {ys : List D}, (∀ y ∈ ys, y ∈ sts l) → ∃ l', ys = sts l' ∧ ∀ x ∈ l', x ∈ l
  | [], _ => ⟨[], rfl, fun x hx => by cases hx⟩
  | y :: ys, h => by
    obtain ⟨l', e, q⟩ := strs_in fun z hz => h z (List.mem_cons_of_mem _ hz)
    obtain ⟨x, hx, rfl⟩ := List.mem_map.mp (h y List.mem_cons_self)
    refine ⟨x :: l', by rw [e]; rfl, fun z hz => ?_⟩
    rcases List.mem_cons.mp hz with rfl | hz
    · exact hx
    · exact q z hz
def Tn (d y : D) : Prop := ∃ (x : Str) (i : Int), d = .str x ∧ y = .tup [.str x, .int i] ∧ 0 ≤ i ∧ i < 10 ^ 39
theorem turns_of : ∀ {xs : List Str} {ys : List D}, All2 Tn (sts xs) ys → ∃ ps : List (Str × Int), ys = ps.map oT ∧ ps.map (·.1) = xs ∧ ∀ p ∈ ps, 0 ≤ p.2 ∧ p.2 < 10 ^ 39
  | [], _, h => by cases h; exact ⟨[], rfl, rfl, fun p hp => by cases hp⟩
  | x :: xs, _, h => by
    cases h with
    | cons h1 h2 =>
      obtain ⟨ps, e1, e2, e3⟩ := turns_of (xs := xs) h2
      obtain ⟨x', i, e4, e5, e6, e7⟩ := h1
      injection e4 with e4
      subst e4
      refine ⟨(x, i) :: ps, by rw [e5, e1]; rfl, by rw [List.map_cons, e2], fun p hp => ?_⟩
      rcases List.mem_cons.mp hp with rfl | hp
      · exact ⟨e6, e7⟩
      · exact e3 p hp
theorem asc_sorted {l : List Str} (nd : l.Nodup) (v : Nat) : ascZ ((sortS l).take v) = true := by
  have nd2 : ((sortS l).take v).Nodup := ((sortS_perm l).nodup_iff.mpr nd).sublist (List.take_sublist _ _)
  have so : ((sortS l).take v).Pairwise leS := (sortS_sorted l).sublist (List.take_sublist _ _)
  refine all_idx.mpr fun i hi => ?_
  have le := List.pairwise_iff_getElem.mp so i (i + 1) (by omega) hi (by omega)
  have ne := List.pairwise_iff_getElem.mp (List.nodup_iff_pairwise_ne.mp nd2) i (i + 1) (by omega) hi (by omega)
  refine decide_eq_true ?_
  refine Classical.byContradiction fun q => ne ?_
  exact leS_antisymm le q
theorem right_ok {L n : Nat} {k : Int} {S : Sto} (h : Bx L n k S) (hk : k < 2 ^ 57) : ∃ S', f_law_right [.cell n] S = .ok (.bl true) S' ∧ Bx L n (k + 80) S' := by
  obtain ⟨v, S1, e1, v0, v1, B1⟩ := take_bx (m := 9) h (by omega) (by omega) (by omega)
  obtain ⟨l, S2, e2, T0, B2⟩ := tags_ok (m := (1 + v).toNat) B1 (by omega) (by omega)
  rw [show (((1 + v).toNat : Nat) : Int) = 1 + v by omega] at e2
  obtain ⟨w, S3, e3, w0, w1, B3⟩ := take_bx (m := 10) B2 (by omega) (by omega) (by omega)
  have ll : l.length ≤ 9 := by have := T0.len; omega
  have l0 : l ≠ [] := fun e => by have := T0.len; subst e; simp at this; omega
  have b1 : sAsg (sCall (f_law_tags) (aCons (sV 0) (aCons (sOp fAdd (sC (.int 1)) (sCall (f_law_take) (aCons (sV 0) (aCons (sC (.int 9)) (aNil))))) (aNil)))) (gN 1) [some (.cell n), none, none, none, none, none, none] S = .nx [some (.cell n), some (.lst (sts l)), none, none, none, none, none] S2 :=
    sAsg_gN ((call2 (d := .cell n) (S1 := S) rfl ((sOp_ok (d := .int 1) (S1 := S) rfl ((call2 rfl rfl).trans e1)).trans e_add)).trans e2)
  -- the mixed ones
  have q1 : (T.iRng1 (aCons (sCall (f_law_take) (aCons (sV 0) (aCons (sC (.int 10)) (aNil)))) (aNil))) [some (.cell n), some (.lst (sts l)), none, none, none, none, none] S2 = .ok (rngD 0 w.toNat) S3 := iRng1_ok (aCons_ok ((call2 rfl rfl).trans e3) aNil_ok) (by omega) (by omega)
  obtain ⟨ys, S4, e4, B4, r4⟩ := lc_rel' (t := .nm 5) (c := cYes) (e := sCall (f_law_of) (aCons (sV 0) (aCons (sV 1) (aNil)))) (env := [some (.cell n), some (.lst (sts l)), none, none, none, none, none]) (I := fun i S => Bx L n (k + 1 + 27 + 1 + (i : Int)) S) (R := fun _ y => y ∈ sts l) (M := 1000) (rngD 0 w.toNat) 0 [] S3 (fun d _ i S hi B => by
    obtain ⟨y, S', f1, f2, f3⟩ := of_bx (ds := sts l) B (by omega) (by simpa using l0) (by rw [List.length_map]; omega)
    exact ⟨[some (.cell n), some (.lst (sts l)), none, none, none, some d, none], y, S', rfl, rfl, (call2 rfl rfl).trans f1, by rw [show k + 1 + 27 + 1 + ((i + 1 : Nat) : Int) = k + 1 + 27 + 1 + (i : Int) + 1 by omega]; exact f3, f2⟩) (by rw [rngD_len]; omega) (by rw [rngD_len]; unfold lim; simp; omega) (by simpa using B3)
  rw [List.nil_append] at e4
  have m4 := r4.right (P := fun y => y ∈ sts l) fun _ _ z => z
  have n4 := r4.len
  rw [rngD_len] at n4 B4
  obtain ⟨mx, rfl, hmx⟩ := strs_in m4
  rw [List.length_map] at n4
  have b2 : sAsg (sF bTuple (aCons (sLc [5] (T.iRng1 (aCons (sCall (f_law_take) (aCons (sV 0) (aCons (sC (.int 10)) (aNil)))) (aNil))) (.nm 5) (cYes) (sCall (f_law_of) (aCons (sV 0) (aCons (sV 1) (aNil))))) (aNil))) (gN 2) [some (.cell n), some (.lst (sts l)), none, none, none, none, none] S2 = .nx [some (.cell n), some (.lst (sts l)), some (.tup (sts mx)), none, none, none, none] S4 :=
    sAsg_gN ((sF1 (sLc_ok q1 e4)).trans rfl)
  -- some of them, sorted
  obtain ⟨u, S5, e5, u0, u1, B5⟩ := take_bx (m := 10) B4 (by omega) (by omega) (by omega)
  let xs : List Str := (sortS l).take u.toNat
  have b3 : sAsg (sSl (sF bSortS (aCons (sV 1) (aNil))) (oNone) (oSome (sCall (f_law_take) (aCons (sV 0) (aCons (sC (.int 10)) (aNil)))))) (gN 3) [some (.cell n), some (.lst (sts l)), some (.tup (sts mx)), none, none, none, none] S4 = .nx [some (.cell n), some (.lst (sts l)), some (.tup (sts mx)), some (.lst (sts xs)), none, none, none] S5 := by
    refine sAsg_gN ?_
    have s1 : sF bSortS (aCons (sV 1) aNil) [some (.cell n), some (.lst (sts l)), some (.tup (sts mx)), none, none, none, none] S4 = .ok (.lst (sts (sortS l))) S4 := by
      refine (sF1 (d := .lst (sts l)) (S1 := S4) rfl).trans ?_
      show (match strsOf (sts l) with | some ys => if ys.length < 64 then Res.ok (D.lst ((sortS ys).map .str)) S4 else .bad | none => .bad) = _
      rw [strs_map]
      exact if_pos (by omega)
    have s2 : sCall (f_law_take) (aCons (sV 0) (aCons (sC (.int 10)) (aNil))) [some (.cell n), some (.lst (sts l)), some (.tup (sts mx)), none, none, none, none] S4 = .ok (.int u) S5 := (call2 rfl rfl).trans e5
    unfold sSl oSome oNone
    rw [s1, bind_ok, bind_ok, s2, bind_ok]
    show Res.ok (D.lst (cutD (sts (sortS l)) none (some u))) S5 = _
    have s3 : cutD (sts (sortS l)) none (some u) = sts xs := by
      obtain ⟨un, rfl⟩ : ∃ un : Nat, u = (un : Int) := ⟨u.toNat, by omega⟩
      unfold cutD
      rw [HT.sIx_nat, HT.sIx_none, List.drop_zero, Nat.sub_zero]
      show List.take (min un _) (List.map D.str (sortS l)) = List.map D.str ((sortS l).take un)
      rw [← List.map_take]
      congr 1
      rw [List.length_map]
      by_cases z : un ≤ (sortS l).length
      · rw [Nat.min_eq_left z]
      · rw [Nat.min_eq_right (by omega), List.take_of_length_le (Nat.le_refl _), List.take_of_length_le (by omega)]
    rw [s3]
  have lx : xs.length ≤ 9 := by
    show ((sortS l).take u.toNat).length ≤ 9
    rw [List.length_take]
    omega
  -- the turns
  obtain ⟨zs, S6, e6, B6, r6⟩ := lc_rel' (t := .nm 6) (c := cYes) (e := sTup (aCons (sV 6) (aCons (sCall (f_law_of) (aCons (sV 0) (aCons (sLst (aCons (sC (.int 0)) (aCons (sC (.int 1)) (aCons (sCall (f_law_take) (aCons (sV 0) (aCons (sC (.int 30)) (aNil)))) (aCons (sOp fSub (sOp fPow (sC (.int 10)) (sC (.int 38))) (sCall (f_law_take) (aCons (sV 0) (aCons (sC (.int 9)) (aNil))))) (aNil)))))) (aNil)))) (aNil)))) (env := [some (.cell n), some (.lst (sts l)), some (.tup (sts mx)), some (.lst (sts xs)), none, none, none]) (I := fun i S => Bx L n (k + 1 + 27 + 1 + ((0 + w.toNat : Nat) : Int) + 1 + 3 * (i : Int)) S) (R := Tn) (M := 1000) (sts xs) 0 [] S5 (fun d hd i S hi B => by
    obtain ⟨x, hx, rfl⟩ := List.mem_map.mp hd
    obtain ⟨p, S', f1, p0, p1, f2⟩ := take_bx (m := 30) B (by omega) (by omega) (by omega)
    obtain ⟨r, S'', g1, r0, r1, g2⟩ := take_bx (m := 9) f2 (by omega) (by omega) (by omega)
    obtain ⟨y, S3', h1, h2, h3⟩ := of_bx (ds := [.int 0, .int 1, .int p, .int (10 ^ 38 - r)]) g2 (by omega) (by simp) (by simp)
    obtain ⟨i0, rfl, i1, i2⟩ : ∃ i : Int, y = .int i ∧ 0 ≤ i ∧ i < 10 ^ 39 := by
      simp only [List.mem_cons, List.not_mem_nil, or_false] at h2
      rcases h2 with rfl | rfl | rfl | rfl
      · exact ⟨0, rfl, by decide, by decide⟩
      · exact ⟨1, rfl, by decide, by decide⟩
      · exact ⟨p, rfl, p0, by omega⟩
      · exact ⟨_, rfl, by omega, by omega⟩
    refine ⟨[some (.cell n), some (.lst (sts l)), some (.tup (sts mx)), some (.lst (sts xs)), none, none, some (.str x)], .tup [.str x, .int i0], S3', rfl, rfl, ?_, by rw [show k + 1 + 27 + 1 + ((0 + w.toNat : Nat) : Int) + 1 + 3 * ((i + 1 : Nat) : Int) = k + 1 + 27 + 1 + ((0 + w.toNat : Nat) : Int) + 1 + 3 * (i : Int) + 1 + 1 + 1 by omega]; exact h3, x, i0, rfl, rfl, i1, i2⟩
    exact sTup_ok (aCons_ok (S1 := S) rfl (aCons_ok ((call2 (d := .cell n) (S1 := S) rfl (sLst_ok (aCons_ok (S1 := S) rfl (aCons_ok (S1 := S) rfl (aCons_ok ((call2 rfl rfl).trans f1) (aCons_ok ((sOp_ok (d := .int (10 ^ 38)) (S1 := S') rfl ((call2 rfl rfl).trans g1)).trans e_sub) aNil_ok)))) (show 4 ≤ lim by decide))).trans h1) aNil_ok)) (show 2 ≤ lim by decide)) (by rw [List.length_map]; omega) (by rw [List.length_map]; unfold lim; simp; omega) (by simpa using B5)
  rw [List.nil_append] at e6
  obtain ⟨ps, rfl, t1, t2⟩ := turns_of r6
  have b4 : sAsg (sF bTuple (aCons (sLc [6] (iSeq (sV 3)) (.nm 6) (cYes) (sTup (aCons (sV 6) (aCons (sCall (f_law_of) (aCons (sV 0) (aCons (sLst (aCons (sC (.int 0)) (aCons (sC (.int 1)) (aCons (sCall (f_law_take) (aCons (sV 0) (aCons (sC (.int 30)) (aNil)))) (aCons (sOp fSub (sOp fPow (sC (.int 10)) (sC (.int 38))) (sCall (f_law_take) (aCons (sV 0) (aCons (sC (.int 9)) (aNil))))) (aNil)))))) (aNil)))) (aNil))))) (aNil))) (gN 4) [some (.cell n), some (.lst (sts l)), some (.tup (sts mx)), some (.lst (sts xs)), none, none, none] S5 = .nx [some (.cell n), some (.lst (sts l)), some (.tup (sts mx)), some (.lst (sts xs)), some (.tup (ps.map oT)), none, none] S6 :=
    sAsg_gN ((sF1 (sLc_ok (S1 := S5) rfl e6)).trans rfl)
  have lp : ps.length ≤ 9 := by
    have := congrArg List.length t1
    rw [List.length_map] at this
    omega
  rw [List.length_map] at B6
  obtain ⟨S7, e7, B7⟩ := case_right_ok (l := mx) (ps := ps) B6 (by omega) (fun x hx => T0.nm x (hmx x hx)) (by omega) (fun p hp => by
    have : p.1 ∈ xs := by rw [← t1]; exact List.mem_map.mpr ⟨p, hp, rfl⟩
    exact ⟨T0.nm p.1 ((sortS_perm l).mem_iff.mp (List.mem_of_mem_take this)), (t2 p hp).1, (t2 p hp).2⟩) lp (by rw [t1]; exact asc_sorted T0.nd _)
  have B8 : Bx L n (k + 80) S7 := B7.up (by omega)
  refine ⟨S7, ?_, B8⟩
  refine (fnOf_eq (by rfl)).trans ?_
  have b5 : m_law_right (entry 7 [.cell n]) S = .rt (.bl true) S7 := (sSeq_nx b1).trans ((sSeq_nx b2).trans ((sSeq_nx b3).trans ((sSeq_nx b4).trans (sRet_ok ((sCall_ok (ds := [.cell n, .tup (sts mx), .tup (ps.map oT)]) (S1 := S6) rfl).trans e7)))))
  rw [b5]
  exact fin_ok (B8.len.trans h.len.symm)
end K20
end S_K20M20
section S_K20Math
set_option Elab.async false
set_option linter.all false
set_option maxRecDepth 100000
set_option maxHeartbeats 4000000
namespace K20
open PySem L2 T
abbrev nums (l : List Int) : List D := l.map D.int
theorem box_ok {S : Sto} {l : List Int} {k : Nat} (hk : k < l.length) (hl : l.length ≤ 100) : ∃ a b, f_law_box [.lst (nums l), .int (k : Int)] S = .ok (.cell S.length) (S ++ [bx a b 0]) := by
  have lk : k < (nums l).length := by rw [List.length_map]; exact hk
  have ek : atI (nums l) (k : Int) = some (.int l[k]) := by
    rw [atI_nat rfl lk]
    simp
  generalize hx : l[k] = x at ek
  refine ⟨(if x < 0 then -x else x) * (if decide (10 ^ 18 ≤ (if x < 0 then -x else x)) then 1 else 0), x % 2305843009213693951 + 39373 * k + 20879, ?_⟩
  have h1 : f_law_box [.lst (nums l), .int (k : Int)] S = fnEndR (m_law_box [some (.lst (nums l)), some (.int (k : Int)), none] S) := rfl
  rw [h1]
  have b1 : sAsg (sIfx (isB (sOp fLt (sV 1) (sF bLen (aCons (sV 0) (aNil))))) (sOp fIx (sV 0) (sV 1)) (sC (.int 0))) (gN 2) [some (.lst (nums l)), some (.int (k : Int)), none] S = .nx [some (.lst (nums l)), some (.int (k : Int)), some (.int x)] S := by
    refine sAsg_gN ?_
    have c : sOp fLt (sV 1) (sF bLen (aCons (sV 0) aNil)) [some (.lst (nums l)), some (.int (k : Int)), none] S = .ok (.bl true) S := by
      refine (sOp_ok (d := .int (k : Int)) (e := .int ((nums l).length : Int)) (S1 := S) (S2 := S) rfl rfl).trans ?_
      rw [e_lt, decide_eq_true (by omega)]
    rw [sIfx_t (isB_ok c)]
    refine (sOp_ok (d := .lst (nums l)) (e := .int (k : Int)) (S1 := S) (S2 := S) rfl rfl).trans ?_
    show (match atI (nums l) (k : Int) with | some d => Res.ok d S | none => .bad) = _
    rw [ek]
  have g1 : sF bAbs (aCons (sV 2) aNil) [some (.lst (nums l)), some (.int (k : Int)), some (.int x)] S = .ok (.int (if x < 0 then -x else x)) S := rfl
  have g2 : sF bInt (aCons (sOp fGe (sF bAbs (aCons (sV 2) aNil)) (sOp fPow (sC (.int 10)) (sC (.int 18)))) aNil) [some (.lst (nums l)), some (.int (k : Int)), some (.int x)] S = .ok (.int (if decide (10 ^ 18 ≤ (if x < 0 then -x else x)) then 1 else 0)) S := by
    refine (sF1 (d := .bl (decide (10 ^ 18 ≤ (if x < 0 then -x else x)))) (S1 := S) ?_).trans e_intB
    exact (sOp_ok (d := .int (if x < 0 then -x else x)) (e := .int (10 ^ 18)) (S1 := S) (S2 := S) g1 rfl).trans e_ge
  have b2 : sRet (sLstC (aCons (sOp fMulA (sF bAbs (aCons (sV 2) (aNil))) (sF bInt (aCons (sOp fGe (sF bAbs (aCons (sV 2) (aNil))) (sOp fPow (sC (.int 10)) (sC (.int 18)))) (aNil)))) (aCons (sOp fAdd (sOp fAdd (sOp fMod (sF bInt (aCons (sV 2) (aNil))) (sC (.int 2305843009213693951))) (sOp fMulA (sC (.int 39373)) (sV 1))) (sC (.int 20879))) (aCons (sC (.int 0)) (aNil))))) [some (.lst (nums l)), some (.int (k : Int)), some (.int x)] S = .rt (.cell S.length) (S ++ [bx ((if x < 0 then -x else x) * (if decide (10 ^ 18 ≤ (if x < 0 then -x else x)) then 1 else 0)) (x % 2305843009213693951 + 39373 * k + 20879) 0]) := by
    refine sRet_ok (sLstC_ok (aCons_ok ((sOp_ok g1 g2).trans (e_mulR ?_)) (aCons_ok (S1 := S) ((sOp_ok (d := .int (x % 2305843009213693951 + 39373 * k)) (e := .int 20879) (S1 := S) (S2 := S) ?_ rfl).trans e_add) (aCons_ok (d := .int 0) (S1 := S) rfl aNil_ok))) (show 3 ≤ lim by decide))
    · generalize decide (10 ^ 18 ≤ (if x < 0 then -x else x)) = bb
      cases bb <;> decide
    · refine (sOp_ok (d := .int (x % 2305843009213693951)) (e := .int (39373 * k)) (S1 := S) (S2 := S) ?_ ?_).trans e_add
      · exact (sOp_ok (d := .int x) (e := .int 2305843009213693951) (S1 := S) (S2 := S) rfl rfl).trans (e_mod (by decide))
      · exact (sOp_ok (d := .int 39373) (e := .int (k : Int)) (S1 := S) (S2 := S) rfl rfl).trans (e_mulL (by decide))
  have b3 : m_law_box [some (.lst (nums l)), some (.int (k : Int)), none] S = .rt (.cell S.length) (S ++ [bx ((if x < 0 then -x else x) * (if decide (10 ^ 18 ≤ (if x < 0 then -x else x)) then 1 else 0)) (x % 2305843009213693951 + 39373 * k + 20879) 0]) := (sSeq_nx b1).trans b2
  rw [b3]
  rfl
def cellB : SemS := sSeq (sAsg (sOp fMod (sF bInt (aCons (sV 3) (aNil))) (sV 1)) (gN 5))
  (sAsg (sOp fAdd (sOp fIx (sV 2) (sV 5)) (sOp fMulA (sV 4) (sOp fAdd (sV 3) (sC (.int 2))))) (gIx (sV 2) (sV 5)))
/-- the cells' loop at three cells -/
theorem cells_loop {d0 : D} : ∀ (es : List D) (a b c : Int) (w3 w4 w5 : Option D), (∀ e ∈ es, ∃ (i : Nat) (x : Int), i < 100 ∧ e = .tup [.int (i : Int), .int x]) →
    ∃ (a' b' c' : Int) (env' : T.Env), forGo (.tp [3, 4]) cellB es [some d0, some (.int 3), some (.cell 0), w3, w4, w5] [bx a b c] = .nx env' [bx a' b' c'] ∧ env'[2]? = some (some (.cell 0))
  | [], a, b, c, w3, w4, w5, _ => ⟨a, b, c, _, rfl, rfl⟩
  | e :: es, a, b, c, w3, w4, w5, h => by
    obtain ⟨i, x, hi, rfl⟩ := h _ List.mem_cons_self
    have st : ∃ a' b' c', cellB [some d0, some (.int 3), some (.cell 0), some (.int (i : Int)), some (.int x), w5] [bx a b c] = .nx [some d0, some (.int 3), some (.cell 0), some (.int (i : Int)), some (.int x), some (.int ((i : Int) % 3))] [bx a' b' c'] := by
      unfold cellB
      have s1 : sAsg (sOp fMod (sF bInt (aCons (sV 3) (aNil))) (sV 1)) (gN 5) [some d0, some (.int 3), some (.cell 0), some (.int (i : Int)), some (.int x), w5] [bx a b c] = .nx [some d0, some (.int 3), some (.cell 0), some (.int (i : Int)), some (.int x), some (.int ((i : Int) % 3))] [bx a b c] :=
        sAsg_gN ((sOp_ok (d := .int (i : Int)) (e := .int 3) (S1 := [bx a b c]) (S2 := [bx a b c]) rfl rfl).trans (e_mod (by decide)))
      rw [sSeq_nx s1]
      have s2 : sOp fMulA (sV 4) (sOp fAdd (sV 3) (sC (.int 2))) [some d0, some (.int 3), some (.cell 0), some (.int (i : Int)), some (.int x), some (.int ((i : Int) % 3))] [bx a b c] = .ok (.int (x * (i + 2))) [bx a b c] :=
        (sOp_ok (d := .int x) (e := .int ((i : Int) + 2)) (S1 := [bx a b c]) (S2 := [bx a b c]) rfl rfl).trans (e_mulR ⟨by omega, by omega⟩)
      have hb : ([bx a b c] : Sto)[0]? = some (bx a b c) := rfl
      obtain ⟨i0, i1, i2⟩ := ix_bx hb
      have hr : (i : Int) % 3 = 0 ∨ (i : Int) % 3 = 1 ∨ (i : Int) % 3 = 2 := by omega
      rcases hr with hr | hr | hr <;> rw [hr] at s2 ⊢
      · exact ⟨a + x * (i + 2), b, c, (sAsg_ok ((sOp_ok ((sOp_ok (d := .cell 0) (e := .int 0) rfl rfl).trans i0) s2).trans e_add)).trans rfl⟩
      · exact ⟨a, b + x * (i + 2), c, (sAsg_ok ((sOp_ok ((sOp_ok (d := .cell 0) (e := .int 1) rfl rfl).trans i1) s2).trans e_add)).trans rfl⟩
      · exact ⟨a, b, c + x * (i + 2), (sAsg_ok ((sOp_ok ((sOp_ok (d := .cell 0) (e := .int 2) rfl rfl).trans i2) s2).trans e_add)).trans rfl⟩
    obtain ⟨a1, b1, c1, st⟩ := st
    obtain ⟨a', b', c', env', e1, e2⟩ := cells_loop es a1 b1 c1 (some (.int (i : Int))) (some (.int x)) (some (.int ((i : Int) % 3))) fun e he => h e (List.mem_cons_of_mem _ he)
    exact ⟨a', b', c', env', (forGo_nx (env1 := [some d0, some (.int 3), some (.cell 0), some (.int (i : Int)), some (.int x), w5]) rfl st).trans e1, e2⟩
theorem sIx_63 (n : Nat) : HT.sIx n n (some 63) = min 63 n := HT.sIx_nat n n 63
theorem sIx_3 (n : Nat) : HT.sIx n 0 (some 3) = min 3 n := HT.sIx_nat n 0 3
theorem sIx_3' (n : Nat) : HT.sIx n n (some 3) = min 3 n := HT.sIx_nat n n 3
theorem cells_ok (ns : List Int) (h : ns.length ≤ 63) : ∃ l : List Int, f_law_cells [.rdl (nums ns), .int 3] [] = .ok (.lst (nums l)) [] ∧ l.length ≤ 3 := by
  match ns, h with
  | [], _ => exact ⟨[0], rfl, by decide⟩
  | [a], _ => exact ⟨[a], rfl, by simp⟩
  | [a, b], _ => exact ⟨[a, b], rfl, by simp⟩
  | a :: b :: c :: r, h =>
    have hr : r.length ≤ 60 := by simp at h; omega
    have h1 : f_law_cells [.rdl (nums (a :: b :: c :: r)), .int 3] [] = fnEndC 0 (m_law_cells [some (.rdl (nums (a :: b :: c :: r))), some (.int 3), none, none, none, none] []) := rfl
    have b1 : sAsg (sOrL (sF bListAC (aCons (sSl (sV 0) (oNone) (oSome (sV 1))) (aNil))) (sLstC (aCons (sC (.int 0)) (aNil)))) (gN 2) [some (.rdl (nums (a :: b :: c :: r))), some (.int 3), none, none, none, none] [] = .nx [some (.rdl (nums (a :: b :: c :: r))), some (.int 3), some (.cell 0), none, none, none] [bx a b c] := by
      have e : cutD (nums (a :: b :: c :: r)) none (some 3) = [.int a, .int b, .int c] := by
        unfold cutD
        rw [sIx_3', HT.sIx_none, List.drop_zero, Nat.sub_zero, Nat.min_eq_left (by simp)]
        rfl
      have e2 : sF bListAC (aCons (sSl (sV 0) (oNone) (oSome (sV 1))) (aNil)) [some (.rdl (nums (a :: b :: c :: r))), some (.int 3), none, none, none, none] [] = .ok (.cell 0) [bx a b c] := by
        refine (sF1 (d := .lst [.int a, .int b, .int c]) (S1 := []) ?_).trans rfl
        rw [← e]
        rfl
      refine sAsg_gN ?_
      unfold sOrL
      rw [e2]
      rfl
    have e3 : iEnumS (aCons (sSl (sV 0) (oSome (sV 1)) (oSome (sC (.int 63)))) (aNil)) [some (.rdl (nums (a :: b :: c :: r))), some (.int 3), some (.cell 0), none, none, none] [bx a b c] = .ok (enumD (nums r)) [bx a b c] := by
      have e : cutD (nums (a :: b :: c :: r)) (some 3) (some 63) = nums r := by
        unfold cutD
        rw [sIx_3, sIx_63, show min 3 (nums (a :: b :: c :: r)).length = 3 from Nat.min_eq_left (by simp), Nat.min_eq_right (by simp; omega)]
        show List.take _ (nums r) = _
        rw [List.take_of_length_le (by simp)]
      rw [← e]
      rfl
    obtain ⟨a', b', c', env', l1, l2⟩ := cells_loop (d0 := .rdl (nums (a :: b :: c :: r))) (enumD (nums r)) a b c none none none fun e he => by
      obtain ⟨i, hi, e1⟩ := List.mem_iff_getElem.mp he
      obtain ⟨d, h1, h2⟩ := enumD_get (List.getElem?_eq_some_iff.mpr ⟨hi, e1⟩)
      have hi2 := (List.getElem?_eq_some_iff.mp h1).1
      rw [List.length_map] at hi2
      obtain ⟨x, _, rfl⟩ := List.mem_map.mp (List.mem_of_getElem? h1)
      exact ⟨i, x, by omega, h2⟩
    refine ⟨[a', b', c'], ?_, Nat.le_refl 3⟩
    rw [h1]
    have b2 : m_law_cells [some (.rdl (nums (a :: b :: c :: r))), some (.int 3), none, none, none, none] [] = .rt (.cell 0) [bx a' b' c'] := (sSeq_nx b1).trans ((sSeq_nx ((sFor_ok (t := .tp [3, 4]) (b := cellB) e3).trans l1)).trans (sRet_ok (sV_at l2)))
    rw [b2]
    rfl
def lawB : SemS := sSeq (sAsg (sCall (f_law_box) (aCons (sV 1) (aCons (sV 2) (aNil)))) (gN 3))
  (sIf (cNot (isB (sF bAll (aCons (sLc [4] (T.iRng1 (aCons (sC (.int 8)) (aNil))) (.nm 4) (cYes) (sCall (f_law_right) (aCons (sV 3) (aNil)))) (aNil))))) (sRet (sC (.bl false))) (sNext))
theorem trues_of : ∀ {ys : List D}, (∀ y ∈ ys, y = .bl true) → ys = ys.map fun _ => D.bl true
  | [], _ => rfl
  | y :: ys, h => by rw [List.map_cons, ← trues_of fun z hz => h z (List.mem_cons_of_mem _ hz), h y List.mem_cons_self]
theorem turn_ok {S : Sto} {l : List Int} {i : Nat} {d0 : D} {w3 w4 : Option D} (hi : i < l.length) (hl : l.length ≤ 100) (hS : ∀ c ∈ S, ∃ a b d, c = bx a b d) : ∃ S', lawB [some d0, some (.lst (nums l)), some (.int (i : Int)), w3, w4] S = .nx [some d0, some (.lst (nums l)), some (.int (i : Int)), some (.cell S.length), w4] S' ∧ ∀ c ∈ S', ∃ a b d, c = bx a b d := by
  obtain ⟨a, b, e1⟩ := box_ok (S := S) hi hl
  have B0 : Bx (S.length + 1) S.length 0 (S ++ [bx a b 0]) := by
    refine ⟨by simp, fun c hc => ?_, a, b, 0, ?_, by omega, by omega⟩
    · rcases List.mem_append.mp hc with z | z
      · exact hS c z
      · rw [List.mem_singleton] at z
        exact ⟨a, b, 0, z⟩
    · rw [List.getElem?_append_right (Nat.le_refl _), Nat.sub_self]
      rfl
  obtain ⟨ys, S', e2, B, r⟩ := lc_rel' (t := .nm 4) (c := cYes) (e := sCall (f_law_right) (aCons (sV 3) (aNil))) (env := [some d0, some (.lst (nums l)), some (.int (i : Int)), some (.cell S.length), none]) (I := fun i S' => Bx (S.length + 1) S.length (80 * (i : Int)) S') (R := fun _ y => y = .bl true) (M := 100) (rngD 0 8) 0 [] (S ++ [bx a b 0]) (fun d _ j S' hj B => by
    obtain ⟨S'', f1, f2⟩ := right_ok B (by omega)
    exact ⟨[some d0, some (.lst (nums l)), some (.int (i : Int)), some (.cell S.length), some d], .bl true, S'', rfl, rfl, (call1 rfl).trans f1, by rw [show 80 * ((j + 1 : Nat) : Int) = 80 * (j : Int) + 80 by omega]; exact f2, rfl⟩) (by rw [rngD_len]; omega) (by rw [rngD_len]; unfold lim; simp) B0
  rw [List.nil_append] at e2
  have ty := trues_of (r.right (P := fun y => y = .bl true) fun _ _ z => z)
  refine ⟨S', ?_, B.all⟩
  unfold lawB
  have s1 : sAsg (sCall (f_law_box) (aCons (sV 1) (aCons (sV 2) (aNil)))) (gN 3) [some d0, some (.lst (nums l)), some (.int (i : Int)), w3, w4] S = .nx [some d0, some (.lst (nums l)), some (.int (i : Int)), some (.cell S.length), w4] (S ++ [bx a b 0]) := sAsg_gN ((call2 rfl rfl).trans e1)
  rw [sSeq_nx s1]
  have s2 : sLc [4] (T.iRng1 (aCons (sC (.int 8)) (aNil))) (.nm 4) (cYes) (sCall (f_law_right) (aCons (sV 3) (aNil))) [some d0, some (.lst (nums l)), some (.int (i : Int)), some (.cell S.length), w4] (S ++ [bx a b 0]) = .ok (.lst ys) S' := sLc_ok (iRng1_ok (aCons_ok (S1 := S ++ [bx a b 0]) rfl aNil_ok) rfl (by decide)) e2
  rw [sIf_f (S1 := S') (cNot_ok (r := true) (isB_ok ((sF1 s2).trans (by rw [ty]; exact all_true ys))))]
  rfl
theorem turns_ok {l : List Int} {d0 : D} (hl : l.length ≤ 100) : ∀ (is : List Nat) (w2 w3 w4 : Option D) (S : Sto), (∀ i ∈ is, i < l.length) → (∀ c ∈ S, ∃ a b d, c = bx a b d) → ∃ env' S', forGo (.nm 2) lawB (is.map fun i : Nat => D.int (0 + (i : Int))) [some d0, some (.lst (nums l)), w2, w3, w4] S = .nx env' S'
  | [], w2, w3, w4, S, _, _ => ⟨_, _, rfl⟩
  | i :: is, w2, w3, w4, S, h, hS => by
    obtain ⟨S1, e1, h1⟩ := turn_ok (i := i) (d0 := d0) (w3 := w3) (w4 := w4) (h i List.mem_cons_self) hl hS
    obtain ⟨env', S', e2⟩ := turns_ok hl is (some (.int (i : Int))) (some (.cell S.length)) w4 S1 (fun j hj => h j (List.mem_cons_of_mem _ hj)) h1
    refine ⟨env', S', ?_⟩
    rw [List.map_cons, Int.zero_add, forGo_nx (env1 := [some d0, some (.lst (nums l)), some (.int (i : Int)), w3, w4]) rfl e1]
    exact e2
theorem law_math (ns : List Int) (h : ns.length ≤ 63) : ∃ S, f_law [.rdl (ns.map D.int)] [] = .ok (.bl true) S := by
  obtain ⟨l, e1, hl⟩ := cells_ok ns h
  obtain ⟨env', S', e2⟩ := turns_ok (l := l) (d0 := .rdl (ns.map D.int)) (by omega) (List.range l.length) none none none [] (fun i hi => List.mem_range.mp hi) (fun c hc => by cases hc)
  have b1 : sIf (cNot (isB (sCall (f_law_by_hand_right) aNil))) (sRet (sC (.bl false))) (sNext) [some (.rdl (ns.map D.int)), none, none, none, none] [] = .nx [some (.rdl (ns.map D.int)), none, none, none, none] [] := by
    rw [sIf_f (S1 := []) (cNot_ok (r := true) (isB_ok ((sCall_ok aNil_ok).trans by_hand)))]
    rfl
  have b2 : sAsg (sCall (f_law_cells) (aCons (sV 0) (aCons (sC (.int 3)) (aNil)))) (gN 1) [some (.rdl (ns.map D.int)), none, none, none, none] [] = .nx [some (.rdl (ns.map D.int)), some (.lst (nums l)), none, none, none] [] := sAsg_gN ((call2 rfl rfl).trans e1)
  have b3 : T.iRng1 (aCons (sF bLen (aCons (sV 1) (aNil))) (aNil)) [some (.rdl (ns.map D.int)), some (.lst (nums l)), none, none, none] [] = .ok (rngD 0 l.length) [] := iRng1_ok (j := ((nums l).length : Int)) rfl (by rw [List.length_map]) (by omega)
  have b4 : m_law [some (.rdl (ns.map D.int)), none, none, none, none] [] = .rt (.bl true) S' := (sSeq_nx b1).trans ((sSeq_nx b2).trans ((sSeq_nx ((sFor_ok (t := .nm 2) (b := lawB) b3).trans e2)).trans rfl))
  refine ⟨S', ?_⟩
  have h1 : f_law [.rdl (ns.map D.int)] [] = fnEndR (m_law [some (.rdl (ns.map D.int)), none, none, none, none] []) := rfl
  rw [h1, b4]
  rfl
end K20
end S_K20Math
section S_K20Head
set_option Elab.async false
set_option linter.all false
set_option maxRecDepth 100000
set_option maxHeartbeats 0
namespace K20
open PySem PySem.Spec PyProof.Rows L2 T
def fa0 : List He.Fa := [.glo "is_name", .glo "ascends", .glo "number_in", .glo "names_text", .glo "read_names", .glo "turns_text", .glo "turn_in", .glo "read_turns", .glo "_law_box", .glo "_law_take", .glo "_law_cells", .glo "_law_of", .glo "_law_lists", .glo "_law_same", .glo "_law_mixed", .glo "_law_tags", .glo "_law_heard", .glo "_law_is_tag", .glo "_law_tags_in", .glo "_law_turn_in", .glo "_law_turns_in", .glo "_law_bent", .glo "_law_case_right", .glo "_law_by_hand_right", .glo "_law_right", .glo "law", .glo "BadText", .free "ValueError", .free "abs", .free "all"]
def fa1 : List He.Fa := [.free "bool", .free "enumerate", .free "int", .free "isinstance", .free "len", .free "list", .free "min", .free "range", .free "sorted", .free "str", .free "tuple", .free "zip", .str "LETTERS" "abcdefghijklmnopqrstuvwxyz", .str "DIGITS" "0123456789", .int "MOST_LETTERS" 8, .str "BLANK" " ", .str "NOTHING" "-", .exc "BadText", .exm "BadText" "BadText" true]
def fa : List He.Fa := fa0 ++ fa1
def fn0 : List He.DefD := [⟨("is_name", none), "is_name", "is_name", defArgs s_is_name, defBody s_is_name, defScope s_is_name, [], []⟩, ⟨("ascends", none), "ascends", "ascends", defArgs s_ascends, defBody s_ascends, defScope s_ascends, [], []⟩, ⟨("number_in", none), "number_in", "number_in", defArgs s_number_in, defBody s_number_in, defScope s_number_in, [], []⟩, ⟨("names_text", none), "names_text", "names_text", defArgs s_names_text, defBody s_names_text, defScope s_names_text, [], []⟩, ⟨("read_names", none), "read_names", "read_names", defArgs s_read_names, defBody s_read_names, defScope s_read_names, [], []⟩, ⟨("turns_text", none), "turns_text", "turns_text", defArgs s_turns_text, defBody s_turns_text, defScope s_turns_text, [], []⟩, ⟨("turn_in", none), "turn_in", "turn_in", defArgs s_turn_in, defBody s_turn_in, defScope s_turn_in, [], []⟩, ⟨("read_turns", none), "read_turns", "read_turns", defArgs s_read_turns, defBody s_read_turns, defScope s_read_turns, [], []⟩, ⟨("_law_box", none), "_law_box", "_law_box", defArgs s_law_box, defBody s_law_box, defScope s_law_box, [], []⟩, ⟨("_law_take", none), "_law_take", "_law_take", defArgs s_law_take, defBody s_law_take, defScope s_law_take, [], []⟩, ⟨("_law_cells", none), "_law_cells", "_law_cells", defArgs s_law_cells, defBody s_law_cells, defScope s_law_cells, [], []⟩, ⟨("_law_of", none), "_law_of", "_law_of", defArgs s_law_of, defBody s_law_of, defScope s_law_of, [], []⟩, ⟨("_law_lists", none), "_law_lists", "_law_lists", defArgs s_law_lists, defBody s_law_lists, defScope s_law_lists, [], []⟩, ⟨("_law_same", none), "_law_same", "_law_same", defArgs s_law_same, defBody s_law_same, defScope s_law_same, [], []⟩, ⟨("_law_mixed", none), "_law_mixed", "_law_mixed", defArgs s_law_mixed, defBody s_law_mixed, defScope s_law_mixed, [], []⟩, ⟨("_law_tags", none), "_law_tags", "_law_tags", defArgs s_law_tags, defBody s_law_tags, defScope s_law_tags, [], []⟩, ⟨("_law_heard", none), "_law_heard", "_law_heard", defArgs s_law_heard, defBody s_law_heard, defScope s_law_heard, [], []⟩, ⟨("_law_is_tag", none), "_law_is_tag", "_law_is_tag", defArgs s_law_is_tag, defBody s_law_is_tag, defScope s_law_is_tag, [], []⟩, ⟨("_law_tags_in", none), "_law_tags_in", "_law_tags_in", defArgs s_law_tags_in, defBody s_law_tags_in, defScope s_law_tags_in, [], []⟩, ⟨("_law_turn_in", none), "_law_turn_in", "_law_turn_in", defArgs s_law_turn_in, defBody s_law_turn_in, defScope s_law_turn_in, [], []⟩, ⟨("_law_turns_in", none), "_law_turns_in", "_law_turns_in", defArgs s_law_turns_in, defBody s_law_turns_in, defScope s_law_turns_in, [], []⟩, ⟨("_law_bent", none), "_law_bent", "_law_bent", defArgs s_law_bent, defBody s_law_bent, defScope s_law_bent, [], []⟩, ⟨("_law_case_right", none), "_law_case_right", "_law_case_right", defArgs s_law_case_right, defBody s_law_case_right, defScope s_law_case_right, [], []⟩, ⟨("_law_by_hand_right", none), "_law_by_hand_right", "_law_by_hand_right", defArgs s_law_by_hand_right, defBody s_law_by_hand_right, defScope s_law_by_hand_right, [], []⟩, ⟨("_law_right", none), "_law_right", "_law_right", defArgs s_law_right, defBody s_law_right, defScope s_law_right, [], []⟩, ⟨("law", none), "law", "law", defArgs s_law, defBody s_law, defScope s_law, [], []⟩]
def fn : List He.DefD := fn0
def ex (K : PySem.W.Frag) : Bool := xkB K ("BadText", "ValueError", true)
abbrev R : PySem.W.OpenRow := PySem.W.OpenLaw.row PySem.Challenge.rw_gatekeys_k20_names_and_turns_as_texts
abbrev hk : PySem.W.Hook := He.hookX 5 fa fn [] [] ex
def ob (s : PySem.W.SharedT) : He.AlX := He.obsX 5 fa fn [] [] ex (HandSHeadRun.getT s)
theorem ob_eq (s : PySem.W.SharedT) : ob s = hk.obs s.abs := He.obsX_eq (HandSHeadRun.getT_eq s)
abbrev loose0 : List Str := ["BadText", "LETTERS", "DIGITS", "MOST_LETTERS", "is_name", "ascends", "number_in", "BLANK", "NOTHING", "names_text", "read_names", "turns_text", "turn_in", "read_turns", "_law_box", "_law_take", "_law_cells", "_law_of", "_law_lists", "_law_same", "_law_mixed", "_law_tags", "_law_heard", "_law_is_tag", "_law_tags_in", "_law_turn_in", "_law_turns_in", "_law_bent", "_law_case_right", "_law_by_hand_right"]
abbrev loose1 : List Str := ["_law_right"]
abbrev loose : List Str := loose0 ++ loose1
theorem run (w : World) : HandSHeadRun.RunEq R (PySem.W.view R.prog [35]) hk ob 3000 loose w := by
  intro os
  kernel_rfl
theorem txt {K : PySem.W.Frag} {h : Heap} {mg : Str → Option Value} (X : K.In h) (G : h.Ns mainGlobals mg) (c : He.SaysD fa fn K) (e : ex K = true) : Txt K mg := by
  refine ⟨free_of X G c 27 rfl, free_of X G c 28 rfl, free_of X G c 29 rfl, free_of X G c 30 rfl, free_of X G c 31 rfl, free_of X G c 32 rfl, free_of X G c 33 rfl, free_of X G c 34 rfl, free_of X G c 35 rfl, free_of X G c 36 rfl, free_of X G c 37 rfl, free_of X G c 38 rfl, free_of X G c 39 rfl, free_of X G c 40 rfl, free_of X G c 41 rfl, str_of X G c 42 rfl, str_of X G c 43 rfl, int_of X G c 44 rfl, str_of X G c 45 rfl, str_of X G c 46 rfl, exc_of X G c 26 47 rfl rfl, ?_, ?_⟩
  · intro C ca n b h1 h2
    unfold xt at h1
    split at h1
    case isTrue hC =>
      split at h1
      case isTrue hn =>
        cases h1
        subst hC; subst hn
        have g := He.glo_ok X G (c.fact 26 (f := .glo "BadText") rfl)
        rw [g] at h2
        cases h2
        exact xkB_ok e
      case isFalse => cases h1
    case isFalse => cases h1
  · intro C ca b h1 h2
    unfold xm_BadText at h1
    split at h1
    case isTrue hC =>
      cases h1
      subst hC
      have g := He.glo_ok X G (c.fact 26 (f := .glo "BadText") rfl)
      rw [g] at h2
      cases h2
      exact He.exm_ok (c.fact 48 (f := .exm "BadText" "BadText" true) rfl)
    case isFalse => cases h1
theorem cal {P : Program} {w : World} {K : PySem.W.Frag} {mg : Str → Option Value} {base h : Heap} (X : K.In h) (G : h.Ns mainGlobals mg) (c : He.SaysD fa fn K) (e : ex K = true) : Cal P w K mg base "law" s_law 10 ["_law_script"] f_law := by
  have T := txt X G c e
  have c_is_name := ok_is_name (P := P) (w := w) (base := base) T (dfd_of X G c (x := "is_name") (st := s_is_name) 0 0 rfl rfl) 
  have c_ascends := ok_ascends (P := P) (w := w) (base := base) T (dfd_of X G c (x := "ascends") (st := s_ascends) 1 1 rfl rfl) 
  have c_number_in := ok_number_in (P := P) (w := w) (base := base) T (dfd_of X G c (x := "number_in") (st := s_number_in) 2 2 rfl rfl) 
  have c_names_text := ok_names_text (P := P) (w := w) (base := base) T (dfd_of X G c (x := "names_text") (st := s_names_text) 3 3 rfl rfl) 
  have c_read_names := ok_read_names (P := P) (w := w) (base := base) T (dfd_of X G c (x := "read_names") (st := s_read_names) 4 4 rfl rfl) c_is_name
  have c_turns_text := ok_turns_text (P := P) (w := w) (base := base) T (dfd_of X G c (x := "turns_text") (st := s_turns_text) 5 5 rfl rfl) c_names_text
  have c_turn_in := ok_turn_in (P := P) (w := w) (base := base) T (dfd_of X G c (x := "turn_in") (st := s_turn_in) 6 6 rfl rfl) c_is_name c_number_in
  have c_read_turns := ok_read_turns (P := P) (w := w) (base := base) T (dfd_of X G c (x := "read_turns") (st := s_read_turns) 7 7 rfl rfl) c_ascends c_turn_in
  have c_law_box := ok_law_box (P := P) (w := w) (base := base) T (dfd_of X G c (x := "_law_box") (st := s_law_box) 8 8 rfl rfl) 
  have c_law_take := ok_law_take (P := P) (w := w) (base := base) T (dfd_of X G c (x := "_law_take") (st := s_law_take) 9 9 rfl rfl) 
  have c_law_cells := ok_law_cells (P := P) (w := w) (base := base) T (dfd_of X G c (x := "_law_cells") (st := s_law_cells) 10 10 rfl rfl) 
  have c_law_of := ok_law_of (P := P) (w := w) (base := base) T (dfd_of X G c (x := "_law_of") (st := s_law_of) 11 11 rfl rfl) c_law_take
  have c_law_lists := ok_law_lists (P := P) (w := w) (base := base) T (dfd_of X G c (x := "_law_lists") (st := s_law_lists) 12 12 rfl rfl)  4
  have c_law_same := ok_law_same (P := P) (w := w) (base := base) T (dfd_of X G c (x := "_law_same") (st := s_law_same) 13 13 rfl rfl)  6
  have c_law_mixed := ok_law_mixed (P := P) (w := w) (base := base) T (dfd_of X G c (x := "_law_mixed") (st := s_law_mixed) 14 14 rfl rfl) c_law_take
  have c_law_tags := ok_law_tags (P := P) (w := w) (base := base) T (dfd_of X G c (x := "_law_tags") (st := s_law_tags) 15 15 rfl rfl) c_law_take c_law_mixed
  have c_law_heard := ok_law_heard (P := P) (w := w) (base := base) T (dfd_of X G c (x := "_law_heard") (st := s_law_heard) 16 16 rfl rfl) c_read_names c_read_turns
  have c_law_is_tag := ok_law_is_tag (P := P) (w := w) (base := base) T (dfd_of X G c (x := "_law_is_tag") (st := s_law_is_tag) 17 17 rfl rfl) 
  have c_law_tags_in := ok_law_tags_in (P := P) (w := w) (base := base) T (dfd_of X G c (x := "_law_tags_in") (st := s_law_tags_in) 18 18 rfl rfl) c_law_is_tag
  have c_law_turn_in := ok_law_turn_in (P := P) (w := w) (base := base) T (dfd_of X G c (x := "_law_turn_in") (st := s_law_turn_in) 19 19 rfl rfl) c_law_is_tag
  have c_law_turns_in := ok_law_turns_in (P := P) (w := w) (base := base) T (dfd_of X G c (x := "_law_turns_in") (st := s_law_turns_in) 20 20 rfl rfl) c_law_turn_in
  have c_law_bent := ok_law_bent (P := P) (w := w) (base := base) T (dfd_of X G c (x := "_law_bent") (st := s_law_bent) 21 21 rfl rfl) c_law_take c_law_of
  have c_law_case_right := ok_law_case_right (P := P) (w := w) (base := base) T (dfd_of X G c (x := "_law_case_right") (st := s_law_case_right) 22 22 rfl rfl) c_names_text c_read_names c_turns_text c_read_turns c_law_lists c_law_same c_law_heard c_law_tags_in c_law_turns_in c_law_bent
  have c_law_by_hand_right := ok_law_by_hand_right (P := P) (w := w) (base := base) T (dfd_of X G c (x := "_law_by_hand_right") (st := s_law_by_hand_right) 23 23 rfl rfl) c_names_text c_read_names c_turns_text c_read_turns c_law_same c_law_heard
  have c_law_right := ok_law_right (P := P) (w := w) (base := base) T (dfd_of X G c (x := "_law_right") (st := s_law_right) 24 24 rfl rfl) c_law_take c_law_of c_law_tags c_law_case_right
  have c_law := ok_law (P := P) (w := w) (base := base) T (dfd_of X G c (x := "law") (st := s_law) 25 25 rfl rfl) c_law_box c_law_cells c_law_by_hand_right c_law_right
  exact c_law
end K20
open PySem PySem.W PySem.Calls PyProof.Rows
theorem PySem.Challenge.cw_gatekeys_k20_names_and_turns_as_texts_holds : PySem.Challenge.rw_gatekeys_k20_names_and_turns_as_texts.Holds := by
  w_on; o_law
  refine HandSHeadRun.head_any (r := OpenLaw.row PySem.Challenge.rw_gatekeys_k20_names_and_turns_as_texts) (q := view (OpenLaw.row PySem.Challenge.rw_gatekeys_k20_names_and_turns_as_texts).prog [35]) (H := K20.hk) (ob := K20.ob) (M := 3000) (loose := K20.loose) (d := HandSHeadRun.topDef (OpenLaw.row PySem.Challenge.rw_gatekeys_k20_names_and_turns_as_texts).prog 35) (kwd := []) K20.ob_eq
    (by kernel_rfl) (fun s => by kernel_rfl) K20.run (by kernel_rfl) (by kernel_rfl) (by kernel_rfl) (by rfl) (by first | assumption | decide +kernel) (by decide +kernel) ⟨rfl, rfl, rfl, rfl, rfl, by decide +kernel⟩ ?hw ?hc
  case hw => w_witness2
  case hc =>
    refine L2.walk_ofE (l := PySem.Challenge.rw_gatekeys_k20_names_and_turns_as_texts) (n := 63) (k := 10) (x := "_law_script") (CX := L2.CX0) rfl (by decide) (by kernel_rfl) ⟨rfl, by decide, by decide⟩ ?F (fun _ _ _ _ z => z)
    intro w mg fa h Y G hmg0
    obtain ⟨K, KX, c⟩ := Y
    have hmg : mg ("law" : PySem.Str) = some (.ref fa) := by
      have e : (HandSHeadRun.topDef (OpenLaw.row PySem.Challenge.rw_gatekeys_k20_names_and_turns_as_texts).prog 35).name = ("law" : PySem.Str) := by kernel_rfl
      rw [← e]
      exact hmg0
    have cc := fun base : Heap => K20.cal (P := (PySem.Challenge.rw_gatekeys_k20_names_and_turns_as_texts).prog) (w := w) (base := base) KX G c.t.d c.more
    obtain ⟨fd, F, _⟩ := T.law_true (cc h) hmg
    have b := L2.FunD.bindsA (ps := ["_law_script"]) F fun _ _ _ _ _ _ us hl => match us, hl with | [_], _ => rfl
    refine ⟨K, fd, fun vs H Q _ => T.spF K20.f_law K mg vs H Q fun _ _ _ => False, KX, fun s u => b s [u] rfl, fun H a ns hl _ hS => T.script_read hS (K20.law_math ns hl), fun base _ _ => ?_⟩
    obtain ⟨fd', F', ok⟩ := T.law_true (cc base) hmg
    have e := T.fd_one F F'
    subst e
    exact ok
end S_K20Head
