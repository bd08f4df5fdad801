import PyProof.Rows.All
import Wide.All
import OpenK.AllK
import Wide.FinOn
import HandS.ForMost
import HandS.ForExc
import HandS.Flow
import HandS.Style
import HandS.Conv
import HandS.Deep
import HandS.TupAny
import HandS.TupMul
import HandS.TupLe
import HandS.StrMore
import HandS.IsInst
import HandS.Wide
import HandS.Zip
import HandS.Defaults
import HandS.SortInts
import HandS.ExcIs
import KE.GoesMore
import KE.GoesZip
import KE.GoesEnum
import KE.KStateDown
import HandS.Head0
import HandS.Head1
import HandS.Head2
import HandS.HeadEnd
import HandS.HeadHook1
import HandS.HeadHook2
import PySem.Challenge.RW_lotscales_k81_bench_ends
section
set_option Elab.async false
set_option linter.all false
set_option maxRecDepth 10000
/-! Pure values, the store of cells, results; the relation to the layer's heap. -/
namespace Lq
open PySem PySem.Spec PyProof.Rows L2

inductive PV where
  | non | bl (b : Bool) | int (i : Int) | str (s : Str)
  | tup (xs : List PV) | lst (xs : List PV) | scr (xs : List Int)
  | own (k : Nat) | glo (x : Str)
  deriving Inhabited

/-- a mutable object -/
inductive Cell where
  | lst (xs : List PV)
  | frz (xs : List PV)
  | dct (kvs : List (PV × PV))
  | ins (C : Str) (fs : List (Str × PV))
  | exc (c : Str)
  deriving Inhabited

abbrev Store := List Cell
abbrev Ev := List (Option PV)

inductive R (α : Type) where
  | ok (a : α) (s : Store)
  | ex (c : Str) (s : Store)
  | no

def R.bind {α β : Type} (r : R α) (k : α → Store → R β) : R β := match r with
  | .ok a s => k a s
  | .ex c s => .ex c s
  | .no => .no

inductive Fl where
  | nx (e : Ev) | rt (v : PV) | bk (e : Ev) | ct (e : Ev)

abbrev XE := Ev → Store → R PV
abbrev XL := Ev → Store → R (List PV)
abbrev XS := Ev → Store → R Fl
abbrev Fn := List PV → Store → R PV

/-! ### representation -/
section
variable (K : PySem.W.Frag) (mg : Str → Option Value)

mutual
def Rep (Fz : Hp) (ρ : List Addr) : PV → V → Prop
  | .non, v => v = .non
  | .bl b, v => v = .bl b
  | .int i, v => v = .int i
  | .str s, v => v = .str s
  | .tup xs, v => ∃ a vs, v = .ref a ∧ SqT K Fz a vs ∧ xs.length ≤ sizeLine ∧ RepL Fz ρ xs vs
  | .lst xs, v => ∃ a vs, v = .ref a ∧ Fz a = some (.lst vs) ∧ xs.length ≤ sizeLine ∧ RepL Fz ρ xs vs
  | .scr ns, v => ∃ a, v = .ref a ∧ SqL K Fz a (ns.map V.int) ∧ ns.length ≤ sizeLine
  | .own k, v => ∃ a, ρ[k]? = some a ∧ v = .ref a
  | .glo x, v => ∃ a, mg x = some (.ref a) ∧ v = .ref a
def RepL (Fz : Hp) (ρ : List Addr) : List PV → List V → Prop
  | [], vs => vs = []
  | x :: xs, vs => ∃ v r, vs = v :: r ∧ Rep Fz ρ x v ∧ RepL Fz ρ xs r
end

def RepO (Fz : Hp) (ρ : List Addr) : Option PV → Option V → Prop
  | none, _ => True
  | some p, v => ∃ w, v = some w ∧ Rep K mg Fz ρ p w
/-- the slots -/
def REnv (Fz : Hp) (ρ : List Addr) (env : Ev) (σ : L2.St) : Prop :=
  env.length = σ.length ∧ ∀ (i : Nat) (p : PV), env[i]? = some (some p) → ∃ v, σ[i]? = some (some v) ∧ Rep K mg Fz ρ p v
def RepF (Fz : Hp) (ρ : List Addr) : List (Str × PV) → List (Str × V) → Prop := fun ps vs =>
  PySem.Paired (fun (p : Str × PV) (q : Str × V) => p.1 = q.1 ∧ Rep K mg Fz ρ p.2 q.2) ps vs

/-- an error that is held: its class -/
def XcO (cls : Value) (a : Addr) : HO := .ext fun h => ∃ (oe : Obj) (vs : Array Value), h.get? a = some oe ∧ Zc cls none oe ∧ oe.data = .fields vs

def DctOk (Fz : Hp) (ρ : List Addr) (H : Hp) (a : Addr) (kvs : List (PV × PV)) : Prop := False

def CellOk (Fz : Hp) (ρ : List Addr) (H : Hp) (a : Addr) : Cell → Prop
  | .lst xs => ∃ vs, H a = some (.lst vs) ∧ xs.length ≤ sizeLine ∧ RepL K mg Fz ρ xs vs
  | .frz xs => ∃ vs, Fz a = some (.lst vs) ∧ xs.length ≤ sizeLine ∧ RepL K mg Fz ρ xs vs
  | .dct kvs => DctOk Fz ρ H a kvs
  | .ins x fs => ∃ C dx vs, mg x = some (.ref C) ∧ H a = some (.ins C dx vs) ∧ fs.length ≤ 900 ∧ RepF K mg Fz ρ fs vs
  | .exc c => ∃ C, mg c = some (.ref C) ∧ H a = some (XcO (.ref C) a)

def Cell.live : Cell → Bool
  | .frz _ => false
  | _ => true

/-- the abstract heap and the pure state -/
structure Rel (Z Fz : Hp) (ρ : List Addr) (st : Store) (H : Hp) : Prop where
  zf : ∀ a o, Z a = some o → H a = some o ∧ Fz a = none ∧ a ∉ ρ
  fz : ∀ a o, Fz a = some o → H a = some o
  len : ρ.length = st.length
  cell : ∀ (k : Nat) (a : Addr) (x : Cell), ρ[k]? = some a → st[k]? = some x → CellOk K mg Fz ρ H a x
  apart : ∀ (k : Nat) (a : Addr) (x : Cell), ρ[k]? = some a → st[k]? = some x → x.live = true → Fz a = none
  nd : ρ.Nodup

structure Ext (Fz : Hp) (ρ : List Addr) (Fz' : Hp) (ρ' : List Addr) : Prop where
  fz : ∀ a o, Fz a = some o → Fz' a = some o
  pre : ρ <+: ρ'

theorem Ext.refl {Fz : Hp} {ρ : List Addr} : Ext Fz ρ Fz ρ := ⟨fun _ _ h => h, List.prefix_refl _⟩
theorem Ext.trans {F1 F2 F3 : Hp} {r1 r2 r3 : List Addr} (a : Ext F1 r1 F2 r2) (b : Ext F2 r2 F3 r3) : Ext F1 r1 F3 r3 :=
  ⟨fun x o h => b.fz x o (a.fz x o h), a.pre.trans b.pre⟩

theorem Rd.mono {F F' : Hp} (h : ∀ a o, F a = some o → F' a = some o) {a : Addr} {u : HO} (r : Rd F a u) : Rd F' a u := by
  rcases r with r | ⟨o, r⟩
  · exact .inl (h _ _ r)
  · exact .inr ⟨o, h _ _ r⟩
variable {K mg}
theorem sqT_mono {F F' : Hp} (h : ∀ a o, F a = some o → F' a = some o) {a : Addr} {vs : List V} (r : SqT K F a vs) : SqT K F' a vs := by
  rcases r with r | r
  · exact .inl (Rd.mono h r)
  · exact .inr r
theorem sqL_mono {F F' : Hp} (h : ∀ a o, F a = some o → F' a = some o) {a : Addr} {vs : List V} (r : SqL K F a vs) : SqL K F' a vs := by
  rcases r with r | r
  · exact .inl (Rd.mono h r)
  · exact .inr r
theorem prefix_get {α : Type} {l l' : List α} (h : l <+: l') {k : Nat} {a : α} (e : l[k]? = some a) : l'[k]? = some a := by
  obtain ⟨t, rfl⟩ := h
  have hk : k < l.length := (List.getElem?_eq_some_iff.mp e).1
  rw [List.getElem?_append_left hk]; exact e

mutual
theorem Rep.mono {Fz Fz' : Hp} {ρ ρ' : List Addr} (e : Ext Fz ρ Fz' ρ') : ∀ {p : PV} {v : V}, Rep K mg Fz ρ p v → Rep K mg Fz' ρ' p v
  | .non, _, h => by simpa [Rep] using h
  | .bl _, _, h => by simpa [Rep] using h
  | .int _, _, h => by simpa [Rep] using h
  | .str _, _, h => by simpa [Rep] using h
  | .tup xs, _, h => by
    rw [Rep] at h ⊢
    obtain ⟨a, vs, e1, e2, e3, e4⟩ := h
    exact ⟨a, vs, e1, sqT_mono e.fz e2, e3, RepL.mono e e4⟩
  | .lst xs, _, h => by
    rw [Rep] at h ⊢
    obtain ⟨a, vs, e1, e2, e3, e4⟩ := h
    exact ⟨a, vs, e1, e.fz _ _ e2, e3, RepL.mono e e4⟩
  | .scr ns, _, h => by
    rw [Rep] at h ⊢
    obtain ⟨a, e1, e2, e3⟩ := h
    exact ⟨a, e1, sqL_mono e.fz e2, e3⟩
  | .own k, _, h => by
    rw [Rep] at h ⊢
    obtain ⟨a, e1, e2⟩ := h
    exact ⟨a, prefix_get e.pre e1, e2⟩
  | .glo x, _, h => by simpa [Rep] using h
theorem RepL.mono {Fz Fz' : Hp} {ρ ρ' : List Addr} (e : Ext Fz ρ Fz' ρ') : ∀ {ps : List PV} {vs : List V}, RepL K mg Fz ρ ps vs → RepL K mg Fz' ρ' ps vs
  | [], _, h => by simpa [RepL] using h
  | x :: xs, _, h => by
    rw [RepL] at h ⊢
    obtain ⟨v, r, e1, e2, e3⟩ := h
    exact ⟨v, r, e1, Rep.mono e e2, RepL.mono e e3⟩
end
theorem REnv.mono {Fz Fz' : Hp} {ρ ρ' : List Addr} (e : Ext Fz ρ Fz' ρ') {env : Ev} {σ : L2.St} (h : REnv K mg Fz ρ env σ) : REnv K mg Fz' ρ' env σ :=
  ⟨h.1, fun i p q => let ⟨v, a, b⟩ := h.2 i p q; ⟨v, a, b.mono e⟩⟩
theorem RepF.mono {Fz Fz' : Hp} {ρ ρ' : List Addr} (e : Ext Fz ρ Fz' ρ') {ps : List (Str × PV)} {vs : List (Str × V)} (h : RepF K mg Fz ρ ps vs) : RepF K mg Fz' ρ' ps vs :=
  L2.Paired.mapP h fun _ _ q => ⟨q.1, q.2.mono e⟩

/-! ### lists of values -/
theorem RepL.len {Fz : Hp} {ρ : List Addr} : ∀ {ps : List PV} {vs : List V}, RepL K mg Fz ρ ps vs → ps.length = vs.length
  | [], _, h => by rw [RepL] at h; subst h; rfl
  | x :: xs, _, h => by
    rw [RepL] at h
    obtain ⟨v, r, rfl, _, h⟩ := h
    simp [RepL.len h]
theorem RepL.get {Fz : Hp} {ρ : List Addr} : ∀ {ps : List PV} {vs : List V} {i : Nat} {p : PV}, RepL K mg Fz ρ ps vs → ps[i]? = some p → ∃ v, vs[i]? = some v ∧ Rep K mg Fz ρ p v
  | [], _, _, _, _, e => by simp at e
  | x :: xs, _, 0, p, h, e => by
    rw [RepL] at h
    obtain ⟨v, r, rfl, h1, _⟩ := h
    simp at e; subst e
    exact ⟨v, rfl, h1⟩
  | x :: xs, _, i + 1, p, h, e => by
    rw [RepL] at h
    obtain ⟨v, r, rfl, _, h⟩ := h
    obtain ⟨v', e1, e2⟩ := RepL.get (i := i) h (by simpa using e)
    exact ⟨v', by simpa using e1, e2⟩
theorem RepL.app {Fz : Hp} {ρ : List Addr} : ∀ {ps qs : List PV} {vs ws : List V}, RepL K mg Fz ρ ps vs → RepL K mg Fz ρ qs ws → RepL K mg Fz ρ (ps ++ qs) (vs ++ ws)
  | [], _, _, _, h, h' => by rw [RepL] at h; subst h; exact h'
  | x :: xs, qs, _, ws, h, h' => by
    rw [RepL] at h
    obtain ⟨v, r, rfl, h1, h⟩ := h
    show RepL K mg Fz ρ (x :: (xs ++ qs)) (v :: (r ++ ws))
    rw [RepL]
    exact ⟨v, _, rfl, h1, RepL.app h h'⟩
theorem RepL.nil {Fz : Hp} {ρ : List Addr} : RepL K mg Fz ρ [] [] := by rw [RepL]
theorem RepL.cons {Fz : Hp} {ρ : List Addr} {p : PV} {v : V} {ps : List PV} {vs : List V} (h : Rep K mg Fz ρ p v) (h' : RepL K mg Fz ρ ps vs) : RepL K mg Fz ρ (p :: ps) (v :: vs) := by
  rw [RepL]; exact ⟨_, _, rfl, h, h'⟩
theorem RepL.drop {Fz : Hp} {ρ : List Addr} : ∀ {ps : List PV} {vs : List V} (n : Nat), RepL K mg Fz ρ ps vs → RepL K mg Fz ρ (ps.drop n) (vs.drop n)
  | _, _, 0, h => h
  | [], _, _ + 1, h => by rw [RepL] at h; subst h; exact RepL.nil
  | x :: xs, _, n + 1, h => by
    rw [RepL] at h
    obtain ⟨v, r, rfl, _, h⟩ := h
    exact RepL.drop n h
theorem RepL.take {Fz : Hp} {ρ : List Addr} : ∀ {ps : List PV} {vs : List V} (n : Nat), RepL K mg Fz ρ ps vs → RepL K mg Fz ρ (ps.take n) (vs.take n)
  | _, _, 0, _ => RepL.nil
  | [], _, _ + 1, h => by rw [RepL] at h; subst h; exact RepL.nil
  | x :: xs, _, n + 1, h => by
    rw [RepL] at h
    obtain ⟨v, r, rfl, h1, h⟩ := h
    exact RepL.cons h1 (RepL.take n h)
theorem RepL.set {Fz : Hp} {ρ : List Addr} {p : PV} {v : V} (hp : Rep K mg Fz ρ p v) : ∀ {ps : List PV} {vs : List V} (n : Nat), RepL K mg Fz ρ ps vs → RepL K mg Fz ρ (ps.set n p) (vs.set n v)
  | [], _, _, h => by rw [RepL] at h; subst h; exact RepL.nil
  | x :: xs, _, 0, h => by
    rw [RepL] at h
    obtain ⟨w, r, rfl, _, h⟩ := h
    exact RepL.cons hp h
  | x :: xs, _, n + 1, h => by
    rw [RepL] at h
    obtain ⟨w, r, rfl, h1, h⟩ := h
    exact RepL.cons h1 (RepL.set hp n h)
theorem RepL.rev {Fz : Hp} {ρ : List Addr} : ∀ {ps : List PV} {vs : List V}, RepL K mg Fz ρ ps vs → RepL K mg Fz ρ ps.reverse vs.reverse
  | [], _, h => by rw [RepL] at h; subst h; exact RepL.nil
  | x :: xs, _, h => by
    rw [RepL] at h
    obtain ⟨v, r, rfl, h1, h⟩ := h
    rw [List.reverse_cons, List.reverse_cons]
    exact RepL.app (RepL.rev h) (RepL.cons h1 RepL.nil)
theorem RepL.flat {Fz : Hp} {ρ : List Addr} {ps : List PV} {vs : List V} (h : RepL K mg Fz ρ ps vs) : ∀ n : Nat, RepL K mg Fz ρ (List.replicate n ps).flatten (List.replicate n vs).flatten
  | 0 => RepL.nil
  | n + 1 => by
    rw [List.replicate_succ, List.replicate_succ, List.flatten_cons, List.flatten_cons]
    exact RepL.app h (RepL.flat h n)
theorem RepL.ints {Fz : Hp} {ρ : List Addr} : ∀ ns : List Int, RepL K mg Fz ρ (ns.map PV.int) (ns.map V.int)
  | [] => RepL.nil
  | n :: ns => RepL.cons (by rw [Rep]) (RepL.ints ns)
theorem RepL.of_ints {Fz : Hp} {ρ : List Addr} : ∀ {ns : List Int} {vs : List V}, RepL K mg Fz ρ (ns.map PV.int) vs → vs = ns.map V.int
  | [], _, h => by rw [List.map_nil, RepL] at h; exact h
  | n :: ns, _, h => by
    rw [List.map_cons, RepL] at h
    obtain ⟨v, r, rfl, h1, h⟩ := h
    rw [Rep] at h1
    rw [h1, RepL.of_ints h]; rfl

theorem nodup_ix {l : List Addr} (h : l.Nodup) {i j : Nat} {a : Addr} (ei : l[i]? = some a) (ej : l[j]? = some a) : i = j := by
  obtain ⟨hi, qi⟩ := List.getElem?_eq_some_iff.mp ei
  obtain ⟨hj, qj⟩ := List.getElem?_eq_some_iff.mp ej
  have P := List.pairwise_iff_getElem.mp h
  rcases Nat.lt_trichotomy i j with z | z | z
  · exact absurd (qi.trans qj.symm) (P i j hi hj z)
  · exact z
  · exact absurd (qj.trans qi.symm) (P j i hj hi z)
/-! ### the relation: new objects, writes -/
section
variable {Z Fz : Hp} {ρ : List Addr} {st : Store} {H : Hp}
theorem CellOk.mono {Fz' : Hp} {ρ' : List Addr} {H' : Hp} {a : Addr} (e : Ext Fz ρ Fz' ρ') (hH : ∀ o, H a = some o → H' a = some o) : ∀ {c : Cell}, CellOk K mg Fz ρ H a c → CellOk K mg Fz' ρ' H' a c
  | .lst xs, h => let ⟨vs, h1, h2, h3⟩ := h; ⟨vs, hH _ h1, h2, h3.mono e⟩
  | .frz xs, h => let ⟨vs, h1, h2, h3⟩ := h; ⟨vs, e.fz _ _ h1, h2, h3.mono e⟩
  | .dct kvs, h => h
  | .ins x fs, h => let ⟨C, dx, vs, h0, h1, h2, h3⟩ := h; ⟨C, dx, vs, h0, hH _ h1, h2, h3.mono e⟩
  | .exc c, h => let ⟨C, h0, h1⟩ := h; ⟨C, h0, hH _ h1⟩
theorem CellOk.some {a : Addr} (hf : ∀ a o, Fz a = some o → H a = some o) : ∀ {c : Cell}, CellOk K mg Fz ρ H a c → ∃ o, H a = some o
  | .lst xs, h => let ⟨vs, h1, _⟩ := h; ⟨_, h1⟩
  | .frz xs, h => let ⟨vs, h1, _⟩ := h; ⟨_, hf _ _ h1⟩
  | .dct kvs, h => h.elim
  | .ins x fs, h => let ⟨C, dx, vs, h0, h1, _⟩ := h; ⟨_, h1⟩
  | .exc c, h => let ⟨C, h0, h1⟩ := h; ⟨_, h1⟩
theorem Rel.at (r : Rel K mg Z Fz ρ st H) {k : Nat} {a : Addr} (e : ρ[k]? = some a) : ∃ c, st[k]? = some c ∧ CellOk K mg Fz ρ H a c := by
  have hk : k < st.length := by rw [← r.len]; exact (List.getElem?_eq_some_iff.mp e).1
  exact ⟨st[k], by simp [hk], r.cell k a _ e (by simp [hk])⟩
theorem Rel.addr (r : Rel K mg Z Fz ρ st H) {k : Nat} {c : Cell} (e : st[k]? = some c) : ∃ a, ρ[k]? = some a := by
  have hk : k < ρ.length := by rw [r.len]; exact (List.getElem?_eq_some_iff.mp e).1
  exact ⟨ρ[k], by simp [hk]⟩
theorem Rel.free (r : Rel K mg Z Fz ρ st H) {p : Addr} (hp : H p = none) : Fz p = none ∧ p ∉ ρ := by
  refine ⟨?_, fun hm => ?_⟩
  · cases e : Fz p with
    | none => rfl
    | some o => rw [r.fz _ _ e] at hp; cases hp
  · obtain ⟨k, hk, e⟩ := List.getElem_of_mem hm
    have e' : ρ[k]? = some p := by rw [List.getElem?_eq_getElem hk, e]
    obtain ⟨c, _, h⟩ := r.at e'
    obtain ⟨o, q⟩ := h.some r.fz
    rw [q] at hp; cases hp
/-- a new object that stays as it is -/
theorem Rel.frozen (r : Rel K mg Z Fz ρ st H) {p : Addr} (hp : H p = none) (o : HO) : Rel K mg Z (upd Fz p o) ρ st (upd H p o) ∧ Ext Fz ρ (upd Fz p o) ρ := by
  obtain ⟨hf, hm⟩ := r.free hp
  have ex : Ext Fz ρ (upd Fz p o) ρ := ⟨fun a u e => by rw [upd_ne (fun z => by subst z; rw [hf] at e; cases e)]; exact e, List.prefix_refl _⟩
  refine ⟨⟨fun a u e => ?_, fun a u e => ?_, r.len, fun k a x e1 e2 => (r.cell k a x e1 e2).mono ex fun u q => ?_, fun k a x e1 e2 e3 => ?_, r.nd⟩, ex⟩
  · obtain ⟨z1, z2, z3⟩ := r.zf a u e
    have hap : a ≠ p := fun z => by subst z; rw [hp] at z1; cases z1
    exact ⟨by rw [upd_ne hap]; exact z1, by rw [upd_ne hap]; exact z2, z3⟩
  · by_cases h : a = p
    · subst h; rw [upd_same] at e ⊢; exact e
    · rw [upd_ne h] at e ⊢; exact r.fz _ _ e
  · rw [upd_ne (fun z => by subst z; rw [hp] at q; cases q)]; exact q
  · have hap : a ≠ p := fun z => hm (by subst z; exact List.mem_of_getElem? e1)
    rw [upd_ne hap]; exact r.apart k a x e1 e2 e3
/-- a new object of its own -/
theorem Rel.owned (r : Rel K mg Z Fz ρ st H) {p : Addr} (hp : H p = none) {o : HO} {c : Cell} (hl : c.live = true) (hc : CellOk K mg Fz (ρ ++ [p]) (upd H p o) p c) :
    Rel K mg Z Fz (ρ ++ [p]) (st ++ [c]) (upd H p o) ∧ Ext Fz ρ Fz (ρ ++ [p]) := by
  obtain ⟨hf, hm⟩ := r.free hp
  have ex : Ext Fz ρ Fz (ρ ++ [p]) := ⟨fun a u e => e, List.prefix_append _ _⟩
  have split : ∀ (k : Nat) (a : Addr) (x : Cell), (ρ ++ [p])[k]? = some a → (st ++ [c])[k]? = some x → (ρ[k]? = some a ∧ st[k]? = some x) ∨ (a = p ∧ x = c) := fun k a x e1 e2 => by
    by_cases h : k < ρ.length
    · rw [List.getElem?_append_left h] at e1
      rw [List.getElem?_append_left (by rw [← r.len]; exact h)] at e2
      exact .inl ⟨e1, e2⟩
    · have hk : k = ρ.length := by
        have := (List.getElem?_eq_some_iff.mp e1).1
        simp at this; omega
      subst hk
      rw [List.getElem?_append_right (Nat.le_refl _)] at e1
      rw [List.getElem?_append_right (by rw [r.len]; exact Nat.le_refl _), r.len] at e2
      simp at e1 e2
      exact .inr ⟨e1.symm, e2.symm⟩
  refine ⟨⟨fun a u e => ?_, fun a u e => ?_, by simp [r.len], fun k a x e1 e2 => ?_, fun k a x e1 e2 e3 => ?_, ?_⟩, ex⟩
  · obtain ⟨z1, z2, z3⟩ := r.zf a u e
    have hap : a ≠ p := fun z => by subst z; rw [hp] at z1; cases z1
    exact ⟨by rw [upd_ne hap]; exact z1, z2, fun h => by
      rcases List.mem_append.mp h with h | h
      · exact z3 h
      · exact hap (by simpa using h)⟩
  · rw [upd_ne (fun z => by subst z; rw [hf] at e; cases e)]; exact r.fz _ _ e
  · rcases split k a x e1 e2 with ⟨q1, q2⟩ | ⟨rfl, rfl⟩
    · have hap : a ≠ p := fun z => hm (by subst z; exact List.mem_of_getElem? q1)
      exact (r.cell k a x q1 q2).mono ex fun u q => by rw [upd_ne hap]; exact q
    · exact hc
  · rcases split k a x e1 e2 with ⟨q1, q2⟩ | ⟨rfl, rfl⟩
    · exact r.apart k a x q1 q2 e3
    · exact hf
  · rw [List.nodup_append]
    exact ⟨r.nd, by simp, fun a ha b hb => by simp at hb; subst hb; exact fun z => hm (by rw [← z]; exact ha)⟩
/-- a write to a cell -/
theorem Rel.write (r : Rel K mg Z Fz ρ st H) {k : Nat} {a : Addr} {c0 c : Cell} {o : HO} (e : ρ[k]? = some a) (e0 : st[k]? = some c0) (h0 : c0.live = true) (hl : c.live = true) (hc : CellOk K mg Fz ρ (upd H a o) a c) :
    Rel K mg Z Fz ρ (st.set k c) (upd H a o) := by
  have hf := r.apart k a c0 e e0 h0
  have hk : k < st.length := (List.getElem?_eq_some_iff.mp e0).1
  have diff : ∀ (j : Nat) (b : Addr), ρ[j]? = some b → j ≠ k → b ≠ a := fun j b ej hjk z => by
    subst z
    exact hjk (nodup_ix r.nd ej e)
  refine ⟨fun b u q => ?_, fun b u q => ?_, by simp [r.len], fun j b x e1 e2 => ?_, fun j b x e1 e2 e3 => ?_, r.nd⟩
  · obtain ⟨z1, z2, z3⟩ := r.zf b u q
    have hba : b ≠ a := fun z => z3 (by rw [z]; exact List.mem_of_getElem? e)
    exact ⟨by rw [upd_ne hba]; exact z1, z2, z3⟩
  · rw [upd_ne (fun z => by subst z; rw [hf] at q; cases q)]; exact r.fz _ _ q
  · by_cases hj : j = k
    · subst hj
      rw [List.getElem?_set_self hk] at e2
      rw [e] at e1; cases e1; cases e2
      exact hc
    · rw [List.getElem?_set_ne (fun z => hj z.symm)] at e2
      exact (r.cell j b x e1 e2).mono Ext.refl fun u q => by rw [upd_ne (diff j b e1 hj)]; exact q
  · by_cases hj : j = k
    · subst hj
      rw [e] at e1; cases e1
      exact hf
    · rw [List.getElem?_set_ne (fun z => hj z.symm)] at e2
      exact r.apart j b x e1 e2 e3
/-- a list cell is frozen -/
theorem Rel.freeze (r : Rel K mg Z Fz ρ st H) {k : Nat} {a : Addr} {xs : List PV} (e : ρ[k]? = some a) (e0 : st[k]? = some (.lst xs)) :
    ∃ vs, H a = some (.lst vs) ∧ RepL K mg Fz ρ xs vs ∧ xs.length ≤ sizeLine ∧ Rel K mg Z (upd Fz a (.lst vs)) ρ (st.set k (.frz xs)) H ∧ Ext Fz ρ (upd Fz a (.lst vs)) ρ := by
  obtain ⟨vs, h1, h2, h3⟩ := r.cell k a _ e e0
  have hf := r.apart k a _ e e0 rfl
  have hk : k < st.length := (List.getElem?_eq_some_iff.mp e0).1
  have ex : Ext Fz ρ (upd Fz a (.lst vs)) ρ := ⟨fun b u q => by rw [upd_ne (fun z => by subst z; rw [hf] at q; cases q)]; exact q, List.prefix_refl _⟩
  refine ⟨vs, h1, h3, h2, ⟨fun b u q => ?_, fun b u q => ?_, by simp [r.len], fun j b x e1 e2 => ?_, fun j b x e1 e2 e3 => ?_, r.nd⟩, ex⟩
  · obtain ⟨z1, z2, z3⟩ := r.zf b u q
    have hba : b ≠ a := fun z => z3 (by rw [z]; exact List.mem_of_getElem? e)
    exact ⟨z1, by rw [upd_ne hba]; exact z2, z3⟩
  · by_cases hb : b = a
    · subst hb; rw [upd_same] at q; cases q; exact h1
    · rw [upd_ne hb] at q; exact r.fz _ _ q
  · by_cases hj : j = k
    · subst hj
      rw [List.getElem?_set_self hk] at e2
      rw [e] at e1; cases e1; cases e2
      exact ⟨vs, upd_same, h2, h3.mono ex⟩
    · rw [List.getElem?_set_ne (fun z => hj z.symm)] at e2
      exact (r.cell j b x e1 e2).mono ex fun u q => q
  · by_cases hj : j = k
    · subst hj
      rw [List.getElem?_set_self hk] at e2
      cases e2; cases e3
    · rw [List.getElem?_set_ne (fun z => hj z.symm)] at e2
      have hba : b ≠ a := fun z => by
        subst z
        exact hj (nodup_ix r.nd e1 e)
      rw [upd_ne hba]; exact r.apart j b x e1 e2 e3
end
end
end Lq
end
section
set_option Elab.async false
set_option linter.all false
set_option maxRecDepth 10000
/-! Judgements: a piece of syntax and what it computes on pure values. -/
namespace Lq
open PySem PySem.Spec PyProof.Rows L2

section
variable (K : PySem.W.Frag) (mg : Str → Option Value)
/-- what is wanted behind a result -/
def Out {α : Type} (Z : Hp) (E : XK) (Fz : Hp) (ρ : List Addr) (r : R α) (P : α → Store → Hp → List Addr → Hp → Prop) : Prop := match r with
  | .ok a st => ∀ Fz' ρ' H', Ext Fz ρ Fz' ρ' → Rel K mg Z Fz' ρ' st H' → P a st Fz' ρ' H'
  | .ex c st => ∀ Fz' ρ' H', Ext Fz ρ Fz' ρ' → Rel K mg Z Fz' ρ' st H' → ∃ C, mg c = some (.ref C) ∧ E (.ref C) none H'
  | .no => False
end
section
variable {K : PySem.W.Frag} {mg : Str → Option Value} {Z : Hp} {E : XK} {Fz : Hp} {ρ : List Addr}
theorem Out.mono {α : Type} {r : R α} {P P' : α → Store → Hp → List Addr → Hp → Prop} (h : Out K mg Z E Fz ρ r P)
    (f : ∀ a st Fz' ρ' H', r = .ok a st → Ext Fz ρ Fz' ρ' → Rel K mg Z Fz' ρ' st H' → P a st Fz' ρ' H' → P' a st Fz' ρ' H') : Out K mg Z E Fz ρ r P' := by
  cases r with
  | ok a st => exact fun F' r' H' e q => f a st F' r' H' rfl e q (h F' r' H' e q)
  | ex c st => exact h
  | no => exact h
theorem Out.on {α : Type} {r : R α} {P : α → Store → Hp → List Addr → Hp → Prop} {Fz' : Hp} {ρ' : List Addr} (h : Out K mg Z E Fz ρ r P) (e : Ext Fz ρ Fz' ρ') : Out K mg Z E Fz' ρ' r P := by
  cases r with
  | ok a st => exact fun F2 r2 H' e2 q => h F2 r2 H' (e.trans e2) q
  | ex c st => exact fun F2 r2 H' e2 q => h F2 r2 H' (e.trans e2) q
  | no => exact h
theorem Out.seq {α β : Type} {r : R α} {k : α → Store → R β} {P : β → Store → Hp → List Addr → Hp → Prop} (h : Out K mg Z E Fz ρ (r.bind k) P) :
    Out K mg Z E Fz ρ r (fun a st Fz' ρ' H' => Out K mg Z E Fz' ρ' (k a st) P) := by
  cases r with
  | ok a st => exact fun F' r' H' e q => Out.on (K := K) (mg := mg) h e
  | ex c st => exact h
  | no => exact h
/-- at the result itself -/
theorem Out.here {α : Type} {a : α} {st : Store} {P : α → Store → Hp → List Addr → Hp → Prop} {H : Hp} (h : Out K mg Z E Fz ρ (.ok a st) P) (r : Rel K mg Z Fz ρ st H) : P a st Fz ρ H := h Fz ρ H Ext.refl r
end

section
variable (K : PySem.W.Frag) (mg : Str → Option Value) (E : XK)
def SE (t : TE) (f : XE) : Prop := ∀ Z Fz ρ env st σ H Q, Rel K mg Z Fz ρ st H → REnv K mg Fz ρ env σ →
  Out K mg Z E Fz ρ (f env st) (fun v _ Fz' ρ' H' => ∀ v', Rep K mg Fz' ρ' v v' → Q v' H') → t σ H Q
def STt (t : TT) (f : Ev → Store → R Bool) : Prop := ∀ Z Fz ρ env st σ H Q, Rel K mg Z Fz ρ st H → REnv K mg Fz ρ env σ →
  Out K mg Z E Fz ρ (f env st) (fun b _ _ _ H' => Q b H') → t σ H Q
def SA (t : TA) (f : XL) : Prop := ∀ Z Fz ρ env st σ H Q, Rel K mg Z Fz ρ st H → REnv K mg Fz ρ env σ →
  Out K mg Z E Fz ρ (f env st) (fun vs _ Fz' ρ' H' => ∀ vs', RepL K mg Fz' ρ' vs vs' → Q vs' H') → t σ H Q
/-- a new list -/
def SF (t : TE) (f : XL) : Prop := ∀ Z Fz ρ env st σ H Q, Rel K mg Z Fz ρ st H → REnv K mg Fz ρ env σ →
  Out K mg Z E Fz ρ (f env st) (fun xs _ Fz' ρ' H' => ∀ p vs, H' p = none → xs.length ≤ sizeLine → RepL K mg Fz' ρ' xs vs → Q (.ref p) (upd H' p (.lst vs))) → t σ H Q
def FlP (D : Ends) (fl : Fl) (Fz : Hp) (ρ : List Addr) (H : Hp) : Prop := match fl with
  | .nx e => ∀ σ, REnv K mg Fz ρ e σ → D.nx σ H
  | .bk e => ∀ σ, REnv K mg Fz ρ e σ → D.bk σ H
  | .ct e => ∀ σ, REnv K mg Fz ρ e σ → D.ct σ H
  | .rt v => ∀ v', Rep K mg Fz ρ v v' → D.rt v' H
def SS (t : TS) (f : XS) : Prop := ∀ Z Fz ρ env st σ H D, Rel K mg Z Fz ρ st H → REnv K mg Fz ρ env σ →
  Out K mg Z E Fz ρ (f env st) (fun fl _ Fz' ρ' H' => FlP K mg D fl Fz' ρ' H') → t D σ H
/-- a target: what is stored, the slots and the store behind -/
def SG (t : TG) (f : PV → Ev → Store → R Ev) : Prop := ∀ Z Fz ρ env st σ H p v Q, Rel K mg Z Fz ρ st H → REnv K mg Fz ρ env σ → Rep K mg Fz ρ p v →
  Out K mg Z E Fz ρ (f p env st) (fun e _ Fz' ρ' H' => ∀ σ', REnv K mg Fz' ρ' e σ' → Q σ' H') → t v σ H Q
end

/-! ### judgements -/
def JE (X : Cx) (E : XK) (e : Expr) (f : XE) : Prop := ∃ t, PE X e t ∧ SE X.K X.mg E t f
def JT (X : Cx) (E : XK) (e : Expr) (f : Ev → Store → R Bool) : Prop := ∃ t, PT X e t ∧ STt X.K X.mg E t f
def JW (X : Cx) (E : XK) (e : Expr) (f : Ev → Store → R Bool) : Prop := ∃ t, PW X e t ∧ STt X.K X.mg E t f
def JA (X : Cx) (E : XK) (es : List Expr) (f : XL) : Prop := ∃ t, PA X es t ∧ SA X.K X.mg E t f
def JF (X : Cx) (E : XK) (e : Expr) (f : XL) : Prop := ∃ t, PE X e t ∧ SF X.K X.mg E t f
def JS (X : Cx) (E : XK) (st : Stmt) (f : XS) : Prop := ∃ t, PS X st t ∧ SS X.K X.mg E t f
def JSs (X : Cx) (E : XK) (st : List Stmt) (f : XS) : Prop := ∃ t, PSs X st t ∧ SS X.K X.mg E t f
def JG (X : Cx) (E : XK) (e : Expr) (f : PV → Ev → Store → R Ev) : Prop := ∃ t, PG X e t ∧ SG X.K X.mg E t f
def JOp (X : Cx) (f : Value → Value → Sem Value) (o : PV → PV → Store → Option PV) : Prop := ∃ r : R2, OpR X f r ∧
  ∀ Z Fz ρ st H x y px py pz Q, Rel X.K X.mg Z Fz ρ st H → Rep X.K X.mg Fz ρ px x → Rep X.K X.mg Fz ρ py y → o px py st = some pz →
    (∀ Fz' ρ' H' v', Ext Fz ρ Fz' ρ' → Rel X.K X.mg Z Fz' ρ' st H' → Rep X.K X.mg Fz' ρ' pz v' → Q v' H') → r x y H Q

/-! ### combinators -/
def oget {α β : Type} (o : Option α) (st : Store) (k : α → Store → R β) : R β := match o with
  | some a => k a st
  | none => .no
def eVar (i : Nat) : XE := fun env st => match env[i]? with
  | some (some v) => .ok v st
  | _ => .no
def eC (v : PV) : XE := fun _ st => .ok v st
def eBin (o : PV → PV → Store → Option PV) (a b : XE) : XE := fun env st => (a env st).bind fun x s1 => (b env s1).bind fun y s2 => match o x y s2 with
  | some z => .ok z s2
  | none => .no
def eUn (o : PV → Option PV) (a : XE) : XE := fun env st => (a env st).bind fun x s1 => match o x with
  | some z => .ok z s1
  | none => .no
def aNil : XL := fun _ st => .ok [] st
def aCons (a : XE) (r : XL) : XL := fun env st => (a env st).bind fun x s1 => (r env s1).bind fun xs s2 => .ok (x :: xs) s2
def eTup (a : XL) : XE := fun env st => (a env st).bind fun xs s1 => if xs.length ≤ sizeLine then .ok (.tup xs) s1 else .no
def fDisp (a : XL) : XL := fun env st => (a env st).bind fun xs s1 => if xs.length ≤ sizeLine then .ok xs s1 else .no
/-- a new list kept as a value; as a cell -/
def eFz (a : XL) : XE := fun env st => (a env st).bind fun xs s1 => .ok (.lst xs) s1
def eOw (a : XL) : XE := fun env st => (a env st).bind fun xs s1 => .ok (.own s1.length) (s1 ++ [.lst xs])

section
variable {X : Cx} {E : XK} {a b e : Expr} {es : List Expr} {pos : Pos} {fa fb : XE}
theorem je_var (i : Nat) {x : Str} (hN : X.N[i]? = some x := by rfl) (hv : Vis X.env.scope x := by first | exact .inl rfl | exact .inr (.inl rfl) | exact .inr (.inr rfl)) (hd : (x == ("__debug__" : Str)) = false := by decide) (hcd : (x == ("__classdict__" : Str)) = false := by decide) : JE X E (.Name x pos) (eVar i) := by
  refine ⟨tVar i, pe_var hN hv hd hcd, fun Z Fz ρ env st σ H Q r h o => ?_⟩
  unfold eVar at o
  split at o
  · rename_i v ev
    obtain ⟨v', e1, e2⟩ := h.2 i v ev
    exact ⟨v', e1, o.here r v' e2⟩
  · exact o.elim
theorem je_const {v : PV} {v' : V} (hp : PE X e (tC v')) (hr : ∀ Fz ρ, Rep X.K X.mg Fz ρ v v') : JE X E e (eC v) :=
  ⟨_, hp, fun Z Fz ρ env st σ H Q r h o => o.here r v' (hr Fz ρ)⟩
theorem je_int {i : Int} {j pos} : JE X E (.Constant (.int i) j pos) (eC (.int i)) := je_const pe_int fun _ _ => by rw [Rep]
theorem je_str {x : Str} {j pos} : JE X E (.Constant (.str x) j pos) (eC (.str x)) := je_const pe_str fun _ _ => by rw [Rep]
theorem je_bl {b : Bool} {j pos} : JE X E (.Constant (.bool b) j pos) (eC (.bl b)) := je_const pe_bl fun _ _ => by rw [Rep]
theorem je_non {j pos} : JE X E (.Constant .none j pos) (eC .non) := je_const pe_non fun _ _ => by rw [Rep]
theorem je_bin {op : Operator} {o} (h : JOp X (binaryOp op) o) (ha : JE X E a fa) (hb : JE X E b fb) : JE X E (.BinOp a op b pos) (eBin o fa fb) := by
  obtain ⟨r, hr, sr⟩ := h
  obtain ⟨ta, pa, sa⟩ := ha
  obtain ⟨tb, pb, sb⟩ := hb
  refine ⟨tOp r ta tb, pe_op hr pa pb, fun Z Fz ρ env st σ H Q rl h o => ?_⟩
  refine sa Z Fz ρ env st σ H _ rl h (o.seq.mono fun x s1 F1 r1 H1 _ ex1 rl1 o1 x' rx => ?_)
  refine sb Z F1 r1 env s1 σ H1 _ rl1 (h.mono ex1) (o1.seq.mono fun y s2 F2 r2 H2 _ ex2 rl2 o2 y' ry => ?_)
  split at o2
  · rename_i z ez
    exact sr Z F2 r2 s2 H2 x' y' x y z Q rl2 (rx.mono ex2) ry ez fun F3 r3 H3 v' ex3 rl3 rz => o2 F3 r3 H3 ex3 rl3 v' rz
  · exact o2.elim

theorem sbin {r : R2} {ta tb : TE} {o} (sr : ∀ Z Fz ρ st H x y px py pz Q, Rel X.K X.mg Z Fz ρ st H → Rep X.K X.mg Fz ρ px x → Rep X.K X.mg Fz ρ py y → o px py st = some pz →
    (∀ Fz' ρ' H' v', Ext Fz ρ Fz' ρ' → Rel X.K X.mg Z Fz' ρ' st H' → Rep X.K X.mg Fz' ρ' pz v' → Q v' H') → r x y H Q) (sa : SE X.K X.mg E ta fa) (sb : SE X.K X.mg E tb fb) : SE X.K X.mg E (tOp r ta tb) (eBin o fa fb) := fun Z Fz ρ env st σ H Q rl h o => by
  refine sa Z Fz ρ env st σ H _ rl h (o.seq.mono fun x s1 F1 r1 H1 _ ex1 rl1 o1 x' rx => ?_)
  refine sb Z F1 r1 env s1 σ H1 _ rl1 (h.mono ex1) (o1.seq.mono fun y s2 F2 r2 H2 _ ex2 rl2 o2 y' ry => ?_)
  split at o2
  · rename_i z ez
    exact sr Z F2 r2 s2 H2 x' y' x y z Q rl2 (rx.mono ex2) ry ez fun F3 r3 H3 v' ex3 rl3 rz => o2 F3 r3 H3 ex3 rl3 v' rz
  · exact o2.elim
theorem je_cmp {op : CmpOp} {o} (h : JOp X (compareOp op) o) (ha : JE X E a fa) (hb : JE X E b fb) (hm : behindInMarks op b = false := by rfl) : JE X E (.Compare a [op] [b] pos) (eBin o fa fb) := by
  obtain ⟨r, hr, sr⟩ := h
  obtain ⟨ta, pa, sa⟩ := ha
  obtain ⟨tb, pb, sb⟩ := hb
  exact ⟨tOp r ta tb, pe_cmpR hr pa pb hm, sbin sr sa sb⟩

/-- a bool -/
def toB (r : R PV) : R Bool := r.bind fun v s => match v with
  | .bl b => .ok b s
  | _ => .no
def tE (f : XE) : Ev → Store → R Bool := fun env st => toB (f env st)
def tAndF (a b : Ev → Store → R Bool) : Ev → Store → R Bool := fun env st => (a env st).bind fun c s => if c = true then b env s else .ok false s
def tOrF (a b : Ev → Store → R Bool) : Ev → Store → R Bool := fun env st => (a env st).bind fun c s => if c = true then .ok true s else b env s
def tNotF (a : Ev → Store → R Bool) : Ev → Store → R Bool := fun env st => (a env st).bind fun c s => .ok (!c) s
/-- a test as a value -/
def eB (t : Ev → Store → R Bool) : XE := fun env st => (t env st).bind fun c s => .ok (.bl c) s
def eIf (c : Ev → Store → R Bool) (a b : XE) : XE := fun env st => (c env st).bind fun k s => if k = true then a env s else b env s

theorem st_tE {t : TE} {f : XE} (h : SE X.K X.mg E t f) : STt X.K X.mg E (fun σ H Q => t σ H fun x H1 => ∃ c, x = .bl c ∧ Q c H1) (tE f) := fun Z Fz ρ env st σ H Q rl hh o => by
  refine h Z Fz ρ env st σ H _ rl hh (o.seq.mono fun x s1 F1 r1 H1 _ ex1 rl1 o1 x' rx => ?_)
  split at o1
  · rw [Rep] at rx; exact ⟨_, rx, o1.here rl1⟩
  · exact o1.elim
theorem jt_cmp {op : CmpOp} {o} (h : JOp X (compareOp op) o) (ha : JE X E a fa) (hb : JE X E b fb) (hm : behindInMarks op b = false := by rfl) : JT X E (.Compare a [op] [b] pos) (tE (eBin o fa fb)) := by
  obtain ⟨r, hr, sr⟩ := h
  obtain ⟨ta, pa, sa⟩ := ha
  obtain ⟨tb, pb, sb⟩ := hb
  exact ⟨_, pt_cmpR hr pa pb hm, st_tE (sbin sr sa sb)⟩
/-- a test that is a value (a call, a name) -/
theorem jt_val (h : JE X E e fa) (he : ∀ whole, isTrue e X.env whole = (do let v ← whole; standAt e.pos; holding [v] (truthy v)) := by intro _; rfl) : JT X E e (tE fa) := by
  obtain ⟨t, p, s⟩ := h
  exact ⟨_, pt_val p he, st_tE s⟩
theorem jt_not {f} (h : JT X E a f) : JT X E (.UnaryOp .Not a pos) (tNotF f) := by
  obtain ⟨t, p, s⟩ := h
  exact ⟨_, pt_not p, fun Z Fz ρ env st σ H Q rl hh o => s Z Fz ρ env st σ H _ rl hh (o.seq.mono fun c s1 F1 r1 H1 _ ex1 rl1 o1 => o1.here rl1)⟩
theorem st_and {ta tb : TT} {f g} (ha : STt X.K X.mg E ta f) (hb : STt X.K X.mg E tb g) : STt X.K X.mg E (tAnd ta tb) (tAndF f g) := fun Z Fz ρ env st σ H Q rl hh o => by
  refine ha Z Fz ρ env st σ H _ rl hh (o.seq.mono fun c s1 F1 r1 H1 _ ex1 rl1 o1 => ?_)
  cases c with
  | true => exact hb Z F1 r1 env s1 σ H1 _ rl1 (hh.mono ex1) o1
  | false => exact o1.here rl1
theorem st_or {ta tb : TT} {f g} (ha : STt X.K X.mg E ta f) (hb : STt X.K X.mg E tb g) : STt X.K X.mg E (tOr ta tb) (tOrF f g) := fun Z Fz ρ env st σ H Q rl hh o => by
  refine ha Z Fz ρ env st σ H _ rl hh (o.seq.mono fun c s1 F1 r1 H1 _ ex1 rl1 o1 => ?_)
  cases c with
  | false => exact hb Z F1 r1 env s1 σ H1 _ rl1 (hh.mono ex1) o1
  | true => exact o1.here rl1
theorem jw_and1 {f} (h : JT X E a f) : JW X E (.BoolOp .And [a] pos) f := let ⟨t, p, s⟩ := h; ⟨t, pw_and1 p, s⟩
theorem jw_or1 {f} (h : JT X E a f) : JW X E (.BoolOp .Or [a] pos) f := let ⟨t, p, s⟩ := h; ⟨t, pw_or1 p, s⟩
theorem jw_and {rest : List Expr} {f g} (h : JT X E a f) (h' : JW X E (.BoolOp .And (b :: rest) pos) g) : JW X E (.BoolOp .And (a :: b :: rest) pos) (tAndF f g) := by
  obtain ⟨t, p, s⟩ := h
  obtain ⟨t', p', s'⟩ := h'
  exact ⟨_, pw_and p p', st_and s s'⟩
theorem jw_or {rest : List Expr} {f g} (h : JT X E a f) (h' : JW X E (.BoolOp .Or (b :: rest) pos) g) : JW X E (.BoolOp .Or (a :: b :: rest) pos) (tOrF f g) := by
  obtain ⟨t, p, s⟩ := h
  obtain ⟨t', p', s'⟩ := h'
  exact ⟨_, pw_or p p', st_or s s'⟩
theorem JW.jt {f} (h : JW X E e f) : JT X E e f := let ⟨t, p, s⟩ := h; ⟨t, p.pt, s⟩
/-- and, or of bools as values -/
theorem je_one {op : BoolOp} {f} (h : JE X E a f) : JE X E (.BoolOp op [a] pos) f := let ⟨t, p, s⟩ := h; ⟨t, pe_one p, s⟩
def eAnd (a b : XE) : XE := fun env st => (a env st).bind fun v s => match v with
  | .bl true => b env s
  | .bl false => .ok (.bl false) s
  | _ => .no
def eOr (a b : XE) : XE := fun env st => (a env st).bind fun v s => match v with
  | .bl true => .ok (.bl true) s
  | .bl false => b env s
  | _ => .no
def eNot (a : XE) : XE := fun env st => (a env st).bind fun v s => match v with
  | .bl b => .ok (.bl (!b)) s
  | _ => .no
theorem je_and {rest : List Expr} (h : JE X E a fa) (h' : JE X E (.BoolOp .And (b :: rest) pos) fb) : JE X E (.BoolOp .And (a :: b :: rest) pos) (eAnd fa fb) := by
  obtain ⟨t, p, s⟩ := h
  obtain ⟨t', p', s'⟩ := h'
  refine ⟨_, pe_and p p', fun Z Fz ρ env st σ H Q rl hh o => ?_⟩
  refine s Z Fz ρ env st σ H _ rl hh (o.seq.mono fun c s1 F1 r1 H1 _ ex1 rl1 o1 x' rx => ?_)
  split at o1
  · rw [Rep] at rx; exact ⟨true, rx, s' Z F1 r1 env s1 σ H1 _ rl1 (hh.mono ex1) o1⟩
  · rw [Rep] at rx; exact ⟨false, rx, o1.here rl1 _ (by rw [Rep])⟩
  · exact o1.elim
theorem je_or {rest : List Expr} (h : JE X E a fa) (h' : JE X E (.BoolOp .Or (b :: rest) pos) fb) : JE X E (.BoolOp .Or (a :: b :: rest) pos) (eOr fa fb) := by
  obtain ⟨t, p, s⟩ := h
  obtain ⟨t', p', s'⟩ := h'
  refine ⟨_, pe_or p p', fun Z Fz ρ env st σ H Q rl hh o => ?_⟩
  refine s Z Fz ρ env st σ H _ rl hh (o.seq.mono fun c s1 F1 r1 H1 _ ex1 rl1 o1 x' rx => ?_)
  split at o1
  · rw [Rep] at rx; exact ⟨true, rx, o1.here rl1 _ (by rw [Rep])⟩
  · rw [Rep] at rx; exact ⟨false, rx, s' Z F1 r1 env s1 σ H1 _ rl1 (hh.mono ex1) o1⟩
  · exact o1.elim
theorem je_not (h : JE X E a fa) : JE X E (.UnaryOp .Not a pos) (eNot fa) := by
  obtain ⟨t, p, s⟩ := h
  refine ⟨_, pe_not p, fun Z Fz ρ env st σ H Q rl hh o => ?_⟩
  refine s Z Fz ρ env st σ H _ rl hh (o.seq.mono fun c s1 F1 r1 H1 _ ex1 rl1 o1 x' rx => ?_)
  split at o1
  · rw [Rep] at rx; exact ⟨_, rx, o1.here rl1 _ (by rw [Rep])⟩
  · exact o1.elim
theorem je_ifExp {c : Expr} {fc} (hc : JT X E c fc) (ha : JE X E a fa) (hb : JE X E b fb) : JE X E (.IfExp c a b pos) (eIf fc fa fb) := by
  obtain ⟨t, p, s⟩ := hc
  obtain ⟨ta, pa, sa⟩ := ha
  obtain ⟨tb, pb, sb⟩ := hb
  refine ⟨_, pe_ifExp p pa pb, fun Z Fz ρ env st σ H Q rl hh o => ?_⟩
  refine s Z Fz ρ env st σ H _ rl hh (o.seq.mono fun c s1 F1 r1 H1 _ ex1 rl1 o1 => ?_)
  cases c with
  | true => exact sa Z F1 r1 env s1 σ H1 _ rl1 (hh.mono ex1) o1
  | false => exact sb Z F1 r1 env s1 σ H1 _ rl1 (hh.mono ex1) o1
/-- low <= x <= high -/
def eChain (o o' : PV → PV → Store → Option PV) (a b c : XE) : XE := fun env st => (a env st).bind fun x s1 => (b env s1).bind fun y s2 => match o x y s2 with
  | some (.bl true) => (c env s2).bind fun z s3 => (match o' y z s3 with
    | some w => .ok w s3
    | none => .no)
  | some (.bl false) => .ok (.bl false) s2
  | _ => .no
theorem schain {r r' : R2} {ta tb tc : TE} {fc : XE} {o o'} (sr : ∀ Z Fz ρ st H x y px py pz Q, Rel X.K X.mg Z Fz ρ st H → Rep X.K X.mg Fz ρ px x → Rep X.K X.mg Fz ρ py y → o px py st = some pz →
    (∀ Fz' ρ' H' v', Ext Fz ρ Fz' ρ' → Rel X.K X.mg Z Fz' ρ' st H' → Rep X.K X.mg Fz' ρ' pz v' → Q v' H') → r x y H Q)
    (sr' : ∀ Z Fz ρ st H x y px py pz Q, Rel X.K X.mg Z Fz ρ st H → Rep X.K X.mg Fz ρ px x → Rep X.K X.mg Fz ρ py y → o' px py st = some pz →
    (∀ Fz' ρ' H' v', Ext Fz ρ Fz' ρ' → Rel X.K X.mg Z Fz' ρ' st H' → Rep X.K X.mg Fz' ρ' pz v' → Q v' H') → r' x y H Q)
    (sa : SE X.K X.mg E ta fa) (sb : SE X.K X.mg E tb fb) (sc : SE X.K X.mg E tc fc) : SE X.K X.mg E (tChain r r' ta tb tc) (eChain o o' fa fb fc) := fun Z Fz ρ env st σ H Q rl h o => by
  refine sa Z Fz ρ env st σ H _ rl h (o.seq.mono fun x s1 F1 r1 H1 _ ex1 rl1 o1 x' rx => ?_)
  refine sb Z F1 r1 env s1 σ H1 _ rl1 (h.mono ex1) (o1.seq.mono fun y s2 F2 r2 H2 _ ex2 rl2 o2 y' ry => ?_)
  split at o2
  · rename_i ez
    refine sr Z F2 r2 s2 H2 x' y' x y _ _ rl2 (rx.mono ex2) ry ez fun F3 r3 H3 v' ex3 rl3 rz => ?_
    rw [Rep] at rz
    refine ⟨true, rz, ?_⟩
    rw [if_pos rfl]
    refine sc Z F3 r3 env s2 σ H3 _ rl3 ((h.mono ex1).mono (ex2.trans ex3)) ((o2.seq.on ex3).mono fun z s3 F4 r4 H4 _ ex4 rl4 o3 z' rz' => ?_)
    split at o3
    · rename_i w ew
      exact sr' Z F4 r4 s3 H4 y' z' y z w Q rl4 (ry.mono (ex3.trans ex4)) rz' ew fun F5 r5 H5 v'' ex5 rl5 rw' => o3 F5 r5 H5 ex5 rl5 v'' rw'
    · exact o3.elim
  · rename_i ez
    refine sr Z F2 r2 s2 H2 x' y' x y _ _ rl2 (rx.mono ex2) ry ez fun F3 r3 H3 v' ex3 rl3 rz => ?_
    rw [Rep] at rz
    refine ⟨false, rz, ?_⟩
    rw [if_neg Bool.false_ne_true]
    exact o2 F3 r3 H3 ex3 rl3 _ (by rw [Rep])
  · exact o2.elim
theorem je_chain {op op' : CmpOp} {o o'} {c : Expr} {fc : XE} (h : JOp X (compareOp op) o) (h' : JOp X (compareOp op') o') (ha : JE X E a fa) (hb : JE X E b fb) (hc : JE X E c fc) (hm : lastMarks [op, op'] [b, c] = false := by first | rfl | with_unfolding_all rfl) :
    JE X E (.Compare a [op, op'] [b, c] pos) (eChain o o' fa fb fc) := by
  obtain ⟨r, hr, sr⟩ := h
  obtain ⟨r', hr', sr'⟩ := h'
  obtain ⟨ta, pa, sa⟩ := ha
  obtain ⟨tb, pb, sb⟩ := hb
  obtain ⟨tc, pc, sc⟩ := hc
  exact ⟨tChain r r' ta tb tc, pe_chain hr hr' pa pb pc (hm := hm), schain sr sr' sa sb sc⟩
theorem jt_chain {op op' : CmpOp} {o o'} {c : Expr} {fc : XE} (h : JOp X (compareOp op) o) (h' : JOp X (compareOp op') o') (ha : JE X E a fa) (hb : JE X E b fb) (hc : JE X E c fc) (hm : lastMarks [op, op'] [b, c] = false := by first | rfl | with_unfolding_all rfl) :
    JT X E (.Compare a [op, op'] [b, c] pos) (tE (eChain o o' fa fb fc)) := by
  obtain ⟨r, hr, sr⟩ := h
  obtain ⟨r', hr', sr'⟩ := h'
  obtain ⟨ta, pa, sa⟩ := ha
  obtain ⟨tb, pb, sb⟩ := hb
  obtain ⟨tc, pc, sc⟩ := hc
  exact ⟨_, pt_chain hr hr' pa pb pc (hm := hm), st_tE (schain sr sr' sa sb sc)⟩

/-! ### arguments, displays -/
theorem ja_nil : JA X E [] aNil := ⟨_, pa_nil, fun Z Fz ρ env st σ H Q rl hh o => o.here rl _ RepL.nil⟩
theorem ja_cons {fr : XL} (h : JE X E e fa) (h' : JA X E es fr) (hs : starEach (e :: es) X.env = (false, eval e X.env) :: starEach es X.env := by rfl) : JA X E (e :: es) (aCons fa fr) := by
  obtain ⟨t, p, s⟩ := h
  obtain ⟨t', p', s'⟩ := h'
  refine ⟨_, pa_cons p p' hs, fun Z Fz ρ env st σ H Q rl hh o => ?_⟩
  refine s Z Fz ρ env st σ H _ rl hh (o.seq.mono fun x s1 F1 r1 H1 _ ex1 rl1 o1 x' rx => ?_)
  refine s' Z F1 r1 env s1 σ H1 _ rl1 (hh.mono ex1) (o1.seq.mono fun xs s2 F2 r2 H2 _ ex2 rl2 o2 xs' rxs => ?_)
  exact o2.here rl2 _ (RepL.cons (rx.mono ex2) rxs)
theorem je_tup {f : XL} {x1} (h : JA X E es f) : JE X E (.Tuple es x1 pos) (eTup f) := by
  obtain ⟨t, p, s⟩ := h
  refine ⟨_, pe_tup p, fun Z Fz ρ env st σ H Q rl hh o => ?_⟩
  refine s Z Fz ρ env st σ H _ rl hh (o.seq.mono fun xs s1 F1 r1 H1 _ ex1 rl1 o1 xs' rx => ?_)
  split at o1
  · rename_i hl
    refine ⟨by rw [← rx.len]; exact hl, fun p hp => ?_⟩
    obtain ⟨rl2, ex2⟩ := rl1.frozen hp (.tup xs')
    exact o1 _ _ _ ex2 rl2 _ (by rw [Rep]; exact ⟨p, xs', rfl, SqT.of upd_same, hl, rx.mono ex2⟩)
  · exact o1.elim
theorem jf_lst {f : XL} (h : JA X E es f) : JF X E (.List es pos) (fDisp f) := by
  obtain ⟨t, p, s⟩ := h
  refine ⟨_, pe_lst p, fun Z Fz ρ env st σ H Q rl hh o => ?_⟩
  refine s Z Fz ρ env st σ H _ rl hh (o.seq.mono fun xs s1 F1 r1 H1 _ ex1 rl1 o1 xs' rx => ?_)
  split at o1
  · rename_i hl
    exact ⟨by rw [← rx.len]; exact hl, fun p hp => o1.here rl1 p xs' hp hl rx⟩
  · exact o1.elim
theorem je_fz {f : XL} (h : JF X E e f) : JE X E e (eFz f) := by
  obtain ⟨t, p, s⟩ := h
  refine ⟨t, p, fun Z Fz ρ env st σ H Q rl hh o => s Z Fz ρ env st σ H Q rl hh (o.seq.mono fun xs s1 F1 r1 H1 _ ex1 rl1 o1 p vs hp hl rv => ?_)⟩
  obtain ⟨rl2, ex2⟩ := rl1.frozen hp (.lst vs)
  exact o1 _ _ _ ex2 rl2 _ (by rw [Rep]; exact ⟨p, vs, rfl, upd_same, hl, rv.mono ex2⟩)
theorem je_ow {f : XL} (h : JF X E e f) : JE X E e (eOw f) := by
  obtain ⟨t, p, s⟩ := h
  refine ⟨t, p, fun Z Fz ρ env st σ H Q rl hh o => s Z Fz ρ env st σ H Q rl hh (o.seq.mono fun xs s1 F1 r1 H1 _ ex1 rl1 o1 p vs hp hl rv => ?_)⟩
  have ex0 : Ext F1 r1 F1 (r1 ++ [p]) := ⟨fun _ _ h => h, List.prefix_append _ _⟩
  obtain ⟨rl2, ex2⟩ := rl1.owned hp (o := .lst vs) (c := .lst xs) rfl ⟨vs, upd_same, hl, rv.mono ex0⟩
  exact o1 _ _ _ ex2 rl2 _ (by rw [Rep]; exact ⟨p, by rw [← rl1.len]; simp, rfl⟩)
end
end Lq
end
section
set_option Elab.async false
set_option linter.all false
set_option maxRecDepth 10000
/-! Operators. -/
namespace Lq
open PySem PySem.Spec PyProof.Rows L2

/-! ### lists to be read -/
/-- the items of a list: a value, the script, a cell -/
def asL (st : Store) : PV → Option (List PV)
  | .lst xs => some xs
  | .scr ns => some (ns.map PV.int)
  | .own k => (match st[k]? with
    | some (.lst xs) => some xs
    | some (.frz xs) => some xs
    | _ => none)
  | _ => none
/-- the items of a list that is tracked -/
def asM (st : Store) : PV → Option (List PV)
  | .lst xs => some xs
  | .own k => (match st[k]? with
    | some (.lst xs) => some xs
    | some (.frz xs) => some xs
    | _ => none)
  | _ => none
section
variable {K : PySem.W.Frag} {mg : Str → Option Value} {Z Fz : Hp} {ρ : List Addr} {st : Store} {H : Hp} {p : PV} {v : V} {xs : List PV}
theorem asM_ok (r : Rel K mg Z Fz ρ st H) (h : Rep K mg Fz ρ p v) (e : asM st p = some xs) : ∃ a vs, v = .ref a ∧ H a = some (.lst vs) ∧ xs.length ≤ sizeLine ∧ RepL K mg Fz ρ xs vs := by
  unfold asM at e
  split at e
  · cases e
    rw [Rep] at h
    obtain ⟨a, vs, h1, h2, h3, h4⟩ := h
    exact ⟨a, vs, h1, r.fz _ _ h2, h3, h4⟩
  · rename_i k
    rw [Rep] at h
    obtain ⟨a, h1, h2⟩ := h
    split at e
    · rename_i ys ek
      cases e
      obtain ⟨vs, q1, q2, q3⟩ := r.cell k a _ h1 ek
      exact ⟨a, vs, h2, q1, q2, q3⟩
    · rename_i ys ek
      cases e
      obtain ⟨vs, q1, q2, q3⟩ := r.cell k a _ h1 ek
      exact ⟨a, vs, h2, r.fz _ _ q1, q2, q3⟩
    · cases e
  · cases e
theorem asL_ok (r : Rel K mg Z Fz ρ st H) (h : Rep K mg Fz ρ p v) (e : asL st p = some xs) : ∃ a vs, v = .ref a ∧ SqL K H a vs ∧ xs.length ≤ sizeLine ∧ RepL K mg Fz ρ xs vs := by
  cases p with
  | scr ns =>
    cases e
    rw [Rep] at h
    obtain ⟨a, h1, h2, h3⟩ := h
    exact ⟨a, _, h1, sqL_mono r.fz h2, by simpa using h3, RepL.ints ns⟩
  | lst ys =>
    obtain ⟨a, vs, h1, h2, h3, h4⟩ := asM_ok r h (show asM st (.lst ys) = some xs from e)
    exact ⟨a, vs, h1, SqL.of h2, h3, h4⟩
  | own k =>
    obtain ⟨a, vs, h1, h2, h3, h4⟩ := asM_ok r h (show asM st (.own k) = some xs from e)
    exact ⟨a, vs, h1, SqL.of h2, h3, h4⟩
  | _ => cases e
theorem tup_ok (r : Rel K mg Z Fz ρ st H) (h : Rep K mg Fz ρ (.tup xs) v) : ∃ a vs, v = .ref a ∧ SqT K H a vs ∧ xs.length ≤ sizeLine ∧ RepL K mg Fz ρ xs vs := by
  rw [Rep] at h
  obtain ⟨a, vs, h1, h2, h3, h4⟩ := h
  exact ⟨a, vs, h1, sqT_mono r.fz h2, h3, h4⟩
end

/-! ### two ways -/
def oOr (o o' : PV → PV → Store → Option PV) : PV → PV → Store → Option PV := fun x y st => match o x y st with
  | some z => some z
  | none => o' x y st
section
variable {X : Cx}
theorem JOp.or {f o o'} (h : JOp X f o) (h' : JOp X f o') : JOp X f (oOr o o') := by
  obtain ⟨r, hr, sr⟩ := h
  obtain ⟨r', hr', sr'⟩ := h'
  refine ⟨_, hr.or hr', fun Z Fz ρ st H x y px py pz Q rl rx ry e q => ?_⟩
  unfold oOr at e
  split at e
  · rename_i z ez
    cases e
    exact .inl (sr Z Fz ρ st H x y px py _ Q rl rx ry ez q)
  · exact .inr (sr' Z Fz ρ st H x y px py _ Q rl rx ry e q)
/-- ints -/
def oI (g : Int → Int → Option PV) : PV → PV → Store → Option PV
  | .int i, .int j, _ => g i j
  | _, _, _ => none
theorem jo_I {f : Value → Value → Sem Value} {C : Int → Int → Prop} {g : Int → Int → V} {g' : Int → Int → Option PV} (h : OpR X f (rI C g))
    (hg : ∀ i j z, g' i j = some z → C i j ∧ ∀ Fz ρ, Rep X.K X.mg Fz ρ z (g i j)) : JOp X f (oI g') := by
  refine ⟨_, h, fun Z Fz ρ st H x y px py pz Q rl rx ry e q => ?_⟩
  unfold oI at e
  split at e
  · rename_i i j
    rw [Rep] at rx ry
    obtain ⟨c, rz⟩ := hg i j pz e
    exact ⟨i, j, rx, ry, c, q Fz ρ H _ Ext.refl rl (rz Fz ρ)⟩
  · cases e
theorem jo_I0 {f : Value → Value → Sem Value} {g : Int → Int → V} {g' : Int → Int → PV} (h : OpR X f (rI0 g))
    (hg : ∀ i j, ∀ Fz ρ, Rep X.K X.mg Fz ρ (g' i j) (g i j)) : JOp X f (oI fun i j => some (g' i j)) := by
  refine ⟨_, h, fun Z Fz ρ st H x y px py pz Q rl rx ry e q => ?_⟩
  unfold oI at e
  split at e
  · rename_i i j
    cases e
    rw [Rep] at rx ry
    exact ⟨i, j, rx, ry, q Fz ρ H _ Ext.refl rl (hg i j Fz ρ)⟩
  · cases e
def oAddI := oI fun i j => some (.int (i + j))
def oSub := oI fun i j => some (.int (i - j))
def mulOk (i j : Int) : Bool := (decide (-(2 ^ 64) < i) && decide (i < 2 ^ 64)) || ((decide (-(2 ^ 64) < j) && decide (j < 2 ^ 64)) || decide (i.natAbs.log2 + j.natAbs.log2 < 1000000))
def oMulI := oI fun i j => if mulOk i j = true then some (.int (i * j)) else none
def oDiv := oI fun i j => if 0 < j ∧ j.natAbs.log2 < 9000 then some (.int (i / j)) else none
def oMod := oI fun i j => if 0 < j then some (.int (i % j)) else none
def oPow := oI fun i j => if 0 ≤ j ∧ j ≤ 1000000 ∧ i.natAbs < 2 ^ 64 then some (.int (i ^ j.toNat)) else none
def oLtI := oI fun i j => some (.bl (decide (i < j)))
def oLeI := oI fun i j => some (.bl (decide (i ≤ j)))
def oGtI := oI fun i j => some (.bl (decide (j < i)))
def oGeI := oI fun i j => some (.bl (decide (j ≤ i)))
theorem jo_addI : JOp X (binaryOp .Add) oAddI := jo_I0 op_add fun _ _ _ _ => by rw [Rep]
theorem jo_sub : JOp X (binaryOp .Sub) oSub := jo_I0 op_sub fun _ _ _ _ => by rw [Rep]
theorem mulOk_or : OpR X (binaryOp .Mult) (rI (fun i j => mulOk i j = true) fun i j => .int (i * j)) := fun pins s σ H x y v u Q I rx ry h => by
  obtain ⟨i, j, rfl, rfl, c, q⟩ := h
  unfold mulOk at c
  simp only [Bool.or_eq_true, Bool.and_eq_true, decide_eq_true_eq] at c
  rcases c with c | c | c
  · exact op_mul pins s σ H _ _ v u Q I rx ry ⟨i, j, rfl, rfl, .inl c, q⟩
  · exact op_mul pins s σ H _ _ v u Q I rx ry ⟨i, j, rfl, rfl, .inr c, q⟩
  · exact op_mulW pins s σ H _ _ v u Q I rx ry ⟨i, j, rfl, rfl, c, q⟩
theorem jo_mulI : JOp X (binaryOp .Mult) oMulI := jo_I mulOk_or fun i j z e => by
  split at e
  · rename_i c; cases e; exact ⟨c, fun _ _ => by rw [Rep]⟩
  · cases e
theorem jo_div : JOp X (binaryOp .FloorDiv) oDiv := jo_I op_fdivW fun i j z e => by
  split at e
  · rename_i c; cases e; exact ⟨c, fun _ _ => by rw [Rep]⟩
  · cases e
theorem jo_mod : JOp X (binaryOp .Mod) oMod := jo_I op_mod fun i j z e => by
  split at e
  · rename_i c; cases e; exact ⟨c, fun _ _ => by rw [Rep]⟩
  · cases e
theorem jo_pow : JOp X (binaryOp .Pow) oPow := jo_I op_pow fun i j z e => by
  split at e
  · rename_i c; cases e; exact ⟨c, fun _ _ => by rw [Rep]⟩
  · cases e
theorem jo_ltI : JOp X (compareOp .Lt) oLtI := jo_I0 op_lt fun _ _ _ _ => by rw [Rep]
theorem jo_leI : JOp X (compareOp .LtE) oLeI := jo_I0 op_le fun _ _ _ _ => by rw [Rep]
theorem jo_gtI : JOp X (compareOp .Gt) oGtI := jo_I0 op_gt fun _ _ _ _ => by rw [Rep]
theorem jo_geI : JOp X (compareOp .GtE) oGeI := jo_I0 op_ge fun _ _ _ _ => by rw [Rep]
/-- texts joined -/
def oAddS : PV → PV → Store → Option PV
  | .str a, .str b, _ => if a.length + b.length ≤ sizeLine then some (.str (a ++ b)) else none
  | _, _, _ => none
theorem jo_addS : JOp X (binaryOp .Add) oAddS := by
  refine ⟨_, op_add_str, fun Z Fz ρ st H x y px py pz Q rl rx ry e q => ?_⟩
  unfold oAddS at e
  split at e
  · split at e
    · rename_i c
      cases e
      rw [Rep] at rx ry
      exact ⟨_, _, rx, ry, c, q Fz ρ H _ Ext.refl rl (by rw [Rep])⟩
    · cases e
  · cases e
def oAddT : PV → PV → Store → Option PV
  | .tup xs, .tup ys, _ => if xs.length + ys.length ≤ sizeLine then some (.tup (xs ++ ys)) else none
  | _, _, _ => none
theorem jo_addT : JOp X (binaryOp .Add) oAddT := by
  refine ⟨_, op_catA, fun Z Fz ρ st H x y px py pz Q rl rx ry e q => ?_⟩
  unfold oAddT at e
  split at e
  · rename_i xs ys
    split at e
    · rename_i c
      cases e
      obtain ⟨a, vs, rfl, sa, la, ra⟩ := tup_ok rl rx
      obtain ⟨b, ws, rfl, sb, lb, rb⟩ := tup_ok rl ry
      refine ⟨a, b, vs, ws, rfl, rfl, sa, sb, by rw [← ra.len, ← rb.len]; exact c, fun z => ?_, fun z1 z2 => ?_, fun z1 z2 p hp => ?_⟩
      · have : xs = [] := List.length_eq_zero_iff.mp (by rw [ra.len, z]; rfl)
        subst this
        exact q Fz ρ H _ Ext.refl rl ry
      · have : ys = [] := List.length_eq_zero_iff.mp (by rw [rb.len, z2]; rfl)
        subst this
        rw [List.append_nil] at q
        exact q Fz ρ H _ Ext.refl rl rx
      · obtain ⟨rl2, ex2⟩ := rl.frozen hp (.tup (vs ++ ws))
        exact q _ _ _ _ ex2 rl2 (by rw [Rep]; exact ⟨p, _, rfl, SqT.of upd_same, by simpa using c, (ra.app rb).mono ex2⟩)
    · cases e
  · cases e
def oAddL : PV → PV → Store → Option PV := fun x y st => match asM st x, asM st y with
  | some xs, some ys => if xs.length + ys.length ≤ sizeLine then some (.lst (xs ++ ys)) else none
  | _, _ => none
theorem jo_addL : JOp X (binaryOp .Add) oAddL := by
  refine ⟨_, op_cat, fun Z Fz ρ st H x y px py pz Q rl rx ry e q => ?_⟩
  unfold oAddL at e
  split at e
  · rename_i xs ys ex ey
    split at e
    · rename_i c
      cases e
      obtain ⟨a, vs, rfl, sa, la, ra⟩ := asM_ok rl rx ex
      obtain ⟨b, ws, rfl, sb, lb, rb⟩ := asM_ok rl ry ey
      refine ⟨a, b, vs, ws, rfl, rfl, sa, sb, by rw [← ra.len, ← rb.len]; exact c, fun p hp => ?_⟩
      obtain ⟨rl2, ex2⟩ := rl.frozen hp (.lst (vs ++ ws))
      exact q _ _ _ _ ex2 rl2 (by rw [Rep]; exact ⟨p, _, rfl, upd_same, by simpa using c, (ra.app rb).mono ex2⟩)
    · cases e
  · cases e
def oAdd := oOr oAddI (oOr oAddT (oOr oAddS oAddL))
theorem jo_add : JOp X (binaryOp .Add) oAdd := jo_addI.or (jo_addT.or (jo_addS.or jo_addL))
/-- list * int, tuple * int -/
def oMulL : PV → PV → Store → Option PV := fun x y st => match asM st x, y with
  | some xs, .int k => if -(2 ^ 63) ≤ k ∧ k < 2 ^ 63 ∧ xs.length * k.toNat ≤ sizeLine then some (.lst (List.replicate k.toNat xs).flatten) else none
  | _, _ => none
theorem flat_len {α : Type} (xs : List α) : ∀ n : Nat, (List.replicate n xs).flatten.length = xs.length * n
  | 0 => by simp
  | n + 1 => by rw [List.replicate_succ, List.flatten_cons, List.length_append, flat_len xs n, Nat.mul_succ]; omega
theorem jo_mulL : JOp X (binaryOp .Mult) oMulL := by
  refine ⟨_, op_rep, fun Z Fz ρ st H x y px py pz Q rl rx ry e q => ?_⟩
  unfold oMulL at e
  split at e
  · rename_i xs k ex
    split at e
    · rename_i c
      cases e
      obtain ⟨a, vs, rfl, sa, la, ra⟩ := asM_ok rl rx ex
      rw [Rep] at ry
      refine ⟨a, k, vs, rfl, ry, sa, c.1, c.2.1, by rw [← ra.len]; exact c.2.2, fun p hp => ?_⟩
      obtain ⟨rl2, ex2⟩ := rl.frozen hp (.lst (List.replicate k.toNat vs).flatten)
      exact q _ _ _ _ ex2 rl2 (by rw [Rep]; exact ⟨p, _, rfl, upd_same, by rw [flat_len]; exact c.2.2, (ra.flat _).mono ex2⟩)
    · cases e
  · cases e
def oMulT : PV → PV → Store → Option PV
  | .tup xs, .int k, _ => if xs ≠ [] ∧ 2 ≤ k ∧ k ≤ 1000 ∧ xs.length ≤ 1000 then some (.tup (List.replicate k.toNat xs).flatten) else none
  | _, _, _ => none
theorem jo_mulT : JOp X (binaryOp .Mult) oMulT := by
  refine ⟨_, op_repT, fun Z Fz ρ st H x y px py pz Q rl rx ry e q => ?_⟩
  unfold oMulT at e
  split at e
  · rename_i xs k
    split at e
    · rename_i c
      cases e
      obtain ⟨a, vs, rfl, sa, la, ra⟩ := tup_ok rl rx
      rw [Rep] at ry
      refine ⟨a, k, vs, rfl, ry, sa, fun z => c.1 (List.length_eq_zero_iff.mp (by rw [ra.len, z]; rfl)), c.2.1, c.2.2.1, by rw [← ra.len]; exact c.2.2.2, fun p hp => ?_⟩
      obtain ⟨rl2, ex2⟩ := rl.frozen hp (.tup (List.replicate k.toNat vs).flatten)
      have hl : (List.replicate k.toNat xs).flatten.length ≤ sizeLine := by
        rw [flat_len]
        have h1 : k.toNat ≤ 1000 := by omega
        have h2 : xs.length * k.toNat ≤ 1000 * 1000 := Nat.mul_le_mul c.2.2.2 h1
        exact Nat.le_trans h2 (by decide)
      exact q _ _ _ _ ex2 rl2 (by rw [Rep]; exact ⟨p, _, rfl, SqT.of upd_same, hl, (ra.flat _).mono ex2⟩)
    · cases e
  · cases e
def oMul := oOr oMulI (oOr oMulT oMulL)
theorem jo_mul : JOp X (binaryOp .Mult) oMul := jo_mulI.or (jo_mulT.or jo_mulL)
/-! ### data -/
mutual
def toD : PV → PyData
  | .non => .none
  | .bl b => .bool b
  | .int i => .int i
  | .str x => .str x
  | .tup xs => .tuple (toDs xs)
  | .lst xs => .list (toDs xs)
  | .scr ns => .list (ns.map PyData.int)
  | .own _ => .none
  | .glo _ => .none
def toDs : List PV → List PyData
  | [] => []
  | x :: xs => toD x :: toDs xs
end
mutual
/-- plain data, at most so deep -/
def dOk : Nat → PV → Bool
  | _, .non => true
  | _, .bl _ => true
  | _, .int _ => true
  | _, .str x => PyData.strOk x
  | 0, .tup _ => false
  | n + 1, .tup xs => dOks n xs
  | 0, .lst _ => false
  | n + 1, .lst xs => dOks n xs
  | 0, .scr _ => false
  | _ + 1, .scr _ => true
  | _, .own _ => false
  | _, .glo _ => false
def dOks : Nat → List PV → Bool
  | _, [] => true
  | n, x :: xs => dOk n x && dOks n xs
end
mutual
/-- == -/
def peq : PV → PV → Bool
  | .non, .non => true
  | .bl a, .bl b => a == b
  | .bl a, .int j => (if a then 1 else 0) == j
  | .int i, .bl b => i == (if b then 1 else 0)
  | .int i, .int j => i == j
  | .str x, .str y => x == y
  | .tup xs, .tup ys => peqs xs ys
  | .lst xs, .lst ys => peqs xs ys
  | _, _ => false
def peqs : List PV → List PV → Bool
  | [], [] => true
  | x :: xs, y :: ys => peq x y && peqs xs ys
  | _, _ => false
end
mutual
theorem lay_toD : ∀ (n : Nat) (p : PV), dOk n p = true → (toD p).canLay0 = true ∧ (toD p).depth ≤ n
  | n, .non, h => ⟨rfl, Nat.zero_le _⟩
  | n, .bl _, h => ⟨rfl, Nat.zero_le _⟩
  | n, .int _, h => ⟨rfl, Nat.zero_le _⟩
  | n, .str x, h => by
    refine ⟨?_, Nat.zero_le _⟩
    unfold toD PyData.canLay0
    simpa [dOk] using h
  | 0, .tup _, h => by simp [dOk] at h
  | n + 1, .tup xs, h => by
    rw [dOk] at h
    obtain ⟨a, b⟩ := lay_toDs n xs h
    exact ⟨by unfold toD PyData.canLay0; exact a, by unfold toD PyData.depth; omega⟩
  | 0, .lst _, h => by simp [dOk] at h
  | n + 1, .lst xs, h => by
    rw [dOk] at h
    obtain ⟨a, b⟩ := lay_toDs n xs h
    exact ⟨by unfold toD PyData.canLay0; exact a, by unfold toD PyData.depth; omega⟩
  | 0, .scr _, h => by simp [dOk] at h
  | n + 1, .scr ns, h => by
    have : ∀ ns : List Int, PyData.canLayAll0 (ns.map PyData.int) = true ∧ PyData.depthAll (ns.map PyData.int) = 0 := fun ns => by
      induction ns with
      | nil => exact ⟨rfl, rfl⟩
      | cons a r ih =>
        refine ⟨?_, ?_⟩
        · rw [List.map_cons, PyData.canLayAll0, ih.1]; rfl
        · rw [List.map_cons, PyData.depthAll, ih.2]; rfl
    obtain ⟨a, b⟩ := this ns
    exact ⟨by unfold toD PyData.canLay0; exact a, by unfold toD PyData.depth; omega⟩
  | n, .own _, h => by cases n <;> simp [dOk] at h
  | n, .glo _, h => by cases n <;> simp [dOk] at h
theorem lay_toDs : ∀ (n : Nat) (ps : List PV), dOks n ps = true → PyData.canLayAll0 (toDs ps) = true ∧ PyData.depthAll (toDs ps) ≤ n
  | n, [], h => ⟨rfl, Nat.zero_le _⟩
  | n, x :: xs, h => by
    rw [dOks, Bool.and_eq_true] at h
    obtain ⟨a, b⟩ := lay_toD n x h.1
    obtain ⟨c, d⟩ := lay_toDs n xs h.2
    exact ⟨by unfold toDs PyData.canLayAll0; rw [a, c]; rfl, by unfold toDs PyData.depthAll; omega⟩
end
/-! no script within -/
mutual
def noScr : PV → Bool
  | .tup xs => noScrs xs
  | .lst xs => noScrs xs
  | .scr _ => false
  | .own _ => false
  | .glo _ => false
  | _ => true
def noScrs : List PV → Bool
  | [] => true
  | x :: xs => noScr x && noScrs xs
end
mutual
theorem eqv_toD : ∀ (p q : PV), noScr p = true → noScr q = true → PyData.eqv (toD p) (toD q) = peq p q
  | p, q, hp, hq => by
    cases p <;> cases q <;> first
      | (simp [noScr] at hp; done)
      | (simp [noScr] at hq; done)
      | (unfold toD PyData.eqv peq; rfl)
      | (rename_i xs ys; rw [noScr] at hp hq; unfold toD PyData.eqv peq; exact eqv_toDs xs ys hp hq)
theorem eqv_toDs : ∀ (ps qs : List PV), noScrs ps = true → noScrs qs = true → PyData.eqvAll (toDs ps) (toDs qs) = peqs ps qs
  | [], [], _, _ => by unfold toDs PyData.eqvAll peqs; rfl
  | [], _ :: _, _, _ => by unfold toDs PyData.eqvAll peqs; rfl
  | _ :: _, [], _, _ => by unfold toDs PyData.eqvAll peqs; rfl
  | x :: xs, y :: ys, hp, hq => by
    rw [noScrs, Bool.and_eq_true] at hp hq
    unfold toDs PyData.eqvAll peqs
    rw [eqv_toD x y hp.1 hq.1, eqv_toDs xs ys hp.2 hq.2]
end
section
variable {K : PySem.W.Frag} {mg : Str → Option Value} {Z Fz : Hp} {ρ : List Addr} {st : Store} {H : Hp}
mutual
theorem dp_of (hf : ∀ a o, Fz a = some o → H a = some o) : ∀ (n : Nat) (p : PV) {v : V}, dOk n p = true → noScr p = true → Rep K mg Fz ρ p v → Dp K H v (toD p)
  | n, .non, v, h, _, r => by rw [Rep] at r; subst r; exact .non
  | n, .bl _, v, h, _, r => by rw [Rep] at r; subst r; exact .bl _
  | n, .int _, v, h, _, r => by rw [Rep] at r; subst r; exact .int _
  | n, .str _, v, h, _, r => by rw [Rep] at r; subst r; exact .str _
  | 0, .tup _, _, h, _, _ => by simp [dOk] at h
  | n + 1, .tup xs, v, h, hs, r => by
    rw [dOk] at h
    rw [noScr] at hs
    rw [Rep] at r
    obtain ⟨a, vs, rfl, r1, _, r2⟩ := r
    exact .tup (sqT_mono hf r1) (dp_ofs hf n xs h hs r2)
  | 0, .lst _, _, h, _, _ => by simp [dOk] at h
  | n + 1, .lst xs, v, h, hs, r => by
    rw [dOk] at h
    rw [noScr] at hs
    rw [Rep] at r
    obtain ⟨a, vs, rfl, r1, _, r2⟩ := r
    exact .lst (SqL.of (hf _ _ r1)) (dp_ofs hf n xs h hs r2)
  | n, .scr _, _, _, hs, _ => by simp [noScr] at hs
  | n, .own _, _, h, _, _ => by cases n <;> simp [dOk] at h
  | n, .glo _, _, h, _, _ => by cases n <;> simp [dOk] at h
theorem dp_ofs (hf : ∀ a o, Fz a = some o → H a = some o) : ∀ (n : Nat) (ps : List PV) {vs : List V}, dOks n ps = true → noScrs ps = true → RepL K mg Fz ρ ps vs → DpAll K H vs (toDs ps)
  | n, [], vs, h, _, r => by rw [RepL] at r; subst r; exact .nil
  | n, x :: xs, vs, h, hs, r => by
    rw [dOks, Bool.and_eq_true] at h
    rw [noScrs, Bool.and_eq_true] at hs
    rw [RepL] at r
    obtain ⟨v, w, rfl, r1, r2⟩ := r
    exact .cons (dp_of hf n x h.1 hs.1 r1) (dp_ofs hf n xs h.2 hs.2 r2)
end
end
/-- a list that is read stands as a value -/
def rsv (st : Store) : PV → PV
  | .scr ns => .lst (ns.map PV.int)
  | .own k => (match st[k]? with
    | some (.lst xs) => .lst xs
    | some (.frz xs) => .lst xs
    | _ => .own k)
  | p => p
def dChk (p : PV) : Bool := dOk 60 p && noScr p
theorem dp_rsv {K : PySem.W.Frag} {mg : Str → Option Value} {Z Fz : Hp} {ρ : List Addr} {st : Store} {H : Hp} {p : PV} {v : V} (rl : Rel K mg Z Fz ρ st H) (r : Rep K mg Fz ρ p v) (h : dChk (rsv st p) = true) : Dp K H v (toD (rsv st p)) := by
  unfold dChk at h
  rw [Bool.and_eq_true] at h
  have key : ∀ xs, asL st p = some xs → rsv st p = .lst xs → Dp K H v (toD (rsv st p)) := fun xs e1 e2 => by
    obtain ⟨a, vs, rfl, s, _, rr⟩ := asL_ok rl r e1
    rw [e2] at h ⊢
    rw [dOk] at h
    rw [noScr] at h
    exact .lst s (dp_ofs rl.fz 59 xs h.1 h.2 rr)
  cases p with
  | scr ns => exact key _ rfl rfl
  | own k =>
    cases e : st[k]? with
    | none => simp [rsv, e, dOk] at h
    | some c =>
      cases c with
      | lst xs => exact key xs (by simp [asL, e]) (by simp [rsv, e])
      | frz xs => exact key xs (by simp [asL, e]) (by simp [rsv, e])
      | dct _ => simp [rsv, e, dOk] at h
      | ins _ _ => simp [rsv, e, dOk] at h
      | exc _ => simp [rsv, e, dOk] at h
  | _ => exact dp_of rl.fz 60 _ h.1 h.2 r
theorem shaped_chk {p : PV} (h : dChk p = true) : SeqAt.shaped (toD p) = true := by
  unfold dChk at h
  rw [Bool.and_eq_true] at h
  obtain ⟨a, b⟩ := lay_toD 60 p h.1
  unfold SeqAt.shaped
  rw [a, Bool.true_and, decide_eq_true_eq]
  omega
def oEq : PV → PV → Store → Option PV := fun x y st => if (dChk (rsv st x) && dChk (rsv st y)) = true then some (.bl (peq (rsv st x) (rsv st y))) else none
def oNe : PV → PV → Store → Option PV := fun x y st => if (dChk (rsv st x) && dChk (rsv st y)) = true then some (.bl (!peq (rsv st x) (rsv st y))) else none
theorem jo_eq (hu : X.A.units + 64 < cLine) : JOp X (compareOp .Eq) oEq := by
  refine ⟨_, op_eqD hu, fun Z Fz ρ st H x y px py pz Q rl rx ry e q => ?_⟩
  unfold oEq at e
  split at e
  · rename_i c
    rw [Bool.and_eq_true] at c
    cases e
    refine ⟨_, _, dp_rsv rl rx c.1, dp_rsv rl ry c.2, shaped_chk c.1, shaped_chk c.2, ?_⟩
    have c1 := c.1
    have c2 := c.2
    unfold dChk at c1 c2
    rw [Bool.and_eq_true] at c1 c2
    rw [eqv_toD _ _ c1.2 c2.2]
    exact q Fz ρ H _ Ext.refl rl (by rw [Rep])
  · cases e
theorem jo_ne (hu : X.A.units + 64 < cLine) : JOp X (compareOp .NotEq) oNe := by
  refine ⟨_, op_neD hu, fun Z Fz ρ st H x y px py pz Q rl rx ry e q => ?_⟩
  unfold oNe at e
  split at e
  · rename_i c
    rw [Bool.and_eq_true] at c
    cases e
    refine ⟨_, _, dp_rsv rl rx c.1, dp_rsv rl ry c.2, shaped_chk c.1, shaped_chk c.2, ?_⟩
    have c1 := c.1
    have c2 := c.2
    unfold dChk at c1 c2
    rw [Bool.and_eq_true] at c1 c2
    rw [eqv_toD _ _ c1.2 c2.2]
    exact q Fz ρ H _ Ext.refl rl (by rw [Rep])
  · cases e
/-! ### is -/
def oIsN : PV → PV → Store → Option PV
  | x, .non, _ => some (.bl (match x with
    | .non => true
    | _ => false))
  | .bl a, .bl b, _ => some (.bl (decide (a = b)))
  | _, _, _ => none
def oNotN : PV → PV → Store → Option PV
  | x, .non, _ => some (.bl (match x with
    | .non => false
    | _ => true))
  | .bl a, .bl b, _ => some (.bl (!decide (a = b)))
  | _, _, _ => none
theorem rep_non {K : PySem.W.Frag} {mg : Str → Option Value} {Fz : Hp} {ρ : List Addr} {p : PV} {v : V} (h : Rep K mg Fz ρ p v) : (v = .non) ↔ (p = .non) := by
  cases p <;> rw [Rep] at h
  case non => simp [h]
  case bl => simp [h]
  case int => simp [h]
  case str => simp [h]
  case tup => obtain ⟨_, _, rfl, _⟩ := h; simp
  case lst => obtain ⟨_, _, rfl, _⟩ := h; simp
  case scr => obtain ⟨_, rfl, _⟩ := h; simp
  case own => obtain ⟨_, _, rfl⟩ := h; simp
  case glo => obtain ⟨_, _, rfl⟩ := h; simp
theorem jo_is : JOp X (compareOp .Is) oIsN := by
  refine ⟨_, (op_isN).or (op_isBl), fun Z Fz ρ st H x y px py pz Q rl rx ry e q => ?_⟩
  unfold oIsN at e
  split at e
  · cases e
    rw [Rep] at ry
    refine .inl ⟨ry, q Fz ρ H _ Ext.refl rl ?_⟩
    rw [Rep]
    have z := rep_non rx
    cases px <;> simp_all
  · cases e
    rw [Rep] at rx ry
    exact .inr ⟨_, _, rx, ry, q Fz ρ H _ Ext.refl rl (by rw [Rep])⟩
  · cases e
theorem jo_isnot : JOp X (compareOp .IsNot) oNotN := by
  refine ⟨_, (op_notN).or (op_notBl), fun Z Fz ρ st H x y px py pz Q rl rx ry e q => ?_⟩
  unfold oNotN at e
  split at e
  · cases e
    rw [Rep] at ry
    refine .inl ⟨ry, q Fz ρ H _ Ext.refl rl ?_⟩
    rw [Rep]
    have z := rep_non rx
    cases px <;> simp_all
  · cases e
    rw [Rep] at rx ry
    exact .inr ⟨_, _, rx, ry, q Fz ρ H _ Ext.refl rl (by rw [Rep])⟩
  · cases e
end
end Lq
end
section
set_option Elab.async false
set_option linter.all false
set_option maxRecDepth 10000
/-! in, order, subscripts, slices. -/
namespace Lq
open PySem PySem.Spec PyProof.Rows L2

/-- the items of a list or a tuple -/
def asS (st : Store) : PV → Option (List PV)
  | .tup xs => some xs
  | p => asL st p
section
variable {K : PySem.W.Frag} {mg : Str → Option Value} {Z Fz : Hp} {ρ : List Addr} {st : Store} {H : Hp} {p : PV} {v : V} {xs : List PV}
theorem asS_ok (r : Rel K mg Z Fz ρ st H) (h : Rep K mg Fz ρ p v) (e : asS st p = some xs) : ∃ a vs, v = .ref a ∧ (SqL K H a vs ∨ SqT K H a vs) ∧ xs.length ≤ sizeLine ∧ RepL K mg Fz ρ xs vs := by
  cases p with
  | tup ys =>
    cases e
    obtain ⟨a, vs, h1, h2, h3, h4⟩ := tup_ok r h
    exact ⟨a, vs, h1, .inr h2, h3, h4⟩
  | _ =>
    obtain ⟨a, vs, h1, h2, h3, h4⟩ := asL_ok r h e
    exact ⟨a, vs, h1, .inl h2, h3, h4⟩
end
def flatP : PV → Bool
  | .non => true
  | .bl _ => true
  | .int _ => true
  | .str _ => true
  | _ => false
section
variable {K : PySem.W.Frag} {mg : Str → Option Value} {Z Fz : Hp} {ρ : List Addr}
theorem flat_rep {p : PV} {v : V} (h : Rep K mg Fz ρ p v) (f : flatP p = true) : flatV v = true := by
  cases p <;> first | (simp [flatP] at f; done) | (rw [Rep] at h; subst h; rfl)
theorem flats_rep : ∀ {ps : List PV} {vs : List V}, RepL K mg Fz ρ ps vs → ps.all flatP = true → vs.all flatV = true
  | [], _, h, _ => by rw [RepL] at h; subst h; rfl
  | x :: xs, _, h, f => by
    rw [RepL] at h
    obtain ⟨v, r, rfl, h1, h2⟩ := h
    rw [List.all_cons, Bool.and_eq_true] at f
    rw [List.all_cons, flat_rep h1 f.1, flats_rep h2 f.2]; rfl
theorem eqV_rep {p q : PV} {v u : V} (h : Rep K mg Fz ρ p v) (h' : Rep K mg Fz ρ q u) (f : flatP p = true) (f' : flatP q = true) : eqV v u = peq p q := by
  cases p <;> first | (simp [flatP] at f; done) | (cases q <;> first | (simp [flatP] at f'; done) | (rw [Rep] at h; rw [Rep] at h'; subst h; subst h'; unfold peq; rfl))
theorem inV_rep {p : PV} {v : V} (h : Rep K mg Fz ρ p v) (f : flatP p = true) : ∀ {ps : List PV} {vs : List V}, RepL K mg Fz ρ ps vs → ps.all flatP = true → inV v vs = ps.any fun z => peq z p
  | [], _, h', _ => by rw [RepL] at h'; subst h'; rfl
  | x :: xs, _, h', f' => by
    rw [RepL] at h'
    obtain ⟨w, r, rfl, h1, h2⟩ := h'
    rw [List.all_cons, Bool.and_eq_true] at f'
    have ih := inV_rep h f h2 f'.2
    unfold inV at ih ⊢
    rw [List.any_cons, List.any_cons, eqV_rep h1 h f'.1 f, ih]
end
section
variable {X : Cx}
def oInF : PV → PV → Store → Option PV := fun x y st => match asS st y with
  | some xs => if (flatP x && xs.all flatP) = true then some (.bl (xs.any fun z => peq z x)) else none
  | none => none
def oNinF : PV → PV → Store → Option PV := fun x y st => match asS st y with
  | some xs => if (flatP x && xs.all flatP) = true then some (.bl (!xs.any fun z => peq z x)) else none
  | none => none
theorem jo_inF : JOp X (compareOp .In) oInF := by
  refine ⟨_, op_in_seq, fun Z Fz ρ st H x y px py pz Q rl rx ry e q => ?_⟩
  unfold oInF at e
  split at e
  · rename_i xs es
    split at e
    · rename_i c
      rw [Bool.and_eq_true] at c
      cases e
      obtain ⟨a, vs, rfl, s, _, rr⟩ := asS_ok rl ry es
      refine ⟨a, vs, rfl, s, flat_rep rx c.1, flats_rep rr c.2, ?_⟩
      rw [if_neg Bool.false_ne_true, inV_rep rx c.1 rr c.2]
      exact q Fz ρ H _ Ext.refl rl (by rw [Rep])
    · cases e
  · cases e
theorem jo_ninF : JOp X (compareOp .NotIn) oNinF := by
  refine ⟨_, op_notIn_seq, fun Z Fz ρ st H x y px py pz Q rl rx ry e q => ?_⟩
  unfold oNinF at e
  split at e
  · rename_i xs es
    split at e
    · rename_i c
      rw [Bool.and_eq_true] at c
      cases e
      obtain ⟨a, vs, rfl, s, _, rr⟩ := asS_ok rl ry es
      refine ⟨a, vs, rfl, s, flat_rep rx c.1, flats_rep rr c.2, ?_⟩
      rw [if_pos rfl, inV_rep rx c.1 rr c.2]
      exact q Fz ρ H _ Ext.refl rl (by rw [Rep])
    · cases e
  · cases e
/-- one sign, or any text, in a text -/
def subIn (i j : Str) : Bool := match i.cps.toList with
  | [c] => decide (c ∈ j.cps.toList)
  | _ => !(Builtin.Str.occurrences j i 0 j.length 1).isEmpty
theorem one_sign {i : Str} {c : Nat} (h : i.cps.toList = [c]) : i = ⟨#[c]⟩ := by
  obtain ⟨a⟩ := i
  have h' : a.toList = [c] := h
  have : a = #[c] := by rw [← Array.toArray_toList (xs := a), h']
  rw [this]
def oInS : PV → PV → Store → Option PV
  | .str i, .str j, _ => some (.bl (subIn i j))
  | _, _, _ => none
def oNinS : PV → PV → Store → Option PV
  | .str i, .str j, _ => some (.bl (!subIn i j))
  | _, _, _ => none
theorem jo_inS : JOp X (compareOp .In) oInS := by
  refine ⟨_, (op_in_sign).or op_in_str, fun Z Fz ρ st H x y px py pz Q rl rx ry e q => ?_⟩
  unfold oInS at e
  split at e
  · rename_i i j
    cases e
    rw [Rep] at rx ry
    have z := q Fz ρ H (.bl (subIn i j)) Ext.refl rl (by rw [Rep])
    unfold subIn at z
    split at z
    · rename_i c hc
      exact .inl ⟨c, j, by rw [rx, one_sign hc], ry, z⟩
    · exact .inr ⟨i, j, rx, ry, z⟩
  · cases e
theorem jo_ninS : JOp X (compareOp .NotIn) oNinS := by
  refine ⟨_, (op_notIn_sign).or op_notIn_str, fun Z Fz ρ st H x y px py pz Q rl rx ry e q => ?_⟩
  unfold oNinS at e
  split at e
  · rename_i i j
    cases e
    rw [Rep] at rx ry
    have z := q Fz ρ H (.bl (!subIn i j)) Ext.refl rl (by rw [Rep])
    unfold subIn at z
    split at z
    · rename_i c hc
      exact .inl ⟨c, j, by rw [rx, one_sign hc], ry, z⟩
    · exact .inr ⟨i, j, rx, ry, z⟩
  · cases e
/-- data in a list of data -/
def oInD : PV → PV → Store → Option PV := fun x y st => match rsv st y with
  | .lst xs => if (dChk x && dChk (.lst xs)) = true then some (.bl (xs.any fun z => peq z x)) else none
  | _ => none
def oNinD : PV → PV → Store → Option PV := fun x y st => match rsv st y with
  | .lst xs => if (dChk x && dChk (.lst xs)) = true then some (.bl (!xs.any fun z => peq z x)) else none
  | _ => none
theorem any_toD {x : PV} (hx : noScr x = true) : ∀ (xs : List PV), noScrs xs = true → ((toDs xs).any fun z => PyData.eqv z (toD x)) = xs.any fun z => peq z x
  | [], _ => by unfold toDs; rfl
  | y :: ys, h => by
    rw [noScrs, Bool.and_eq_true] at h
    unfold toDs
    rw [List.any_cons, List.any_cons, eqv_toD y x h.1 hx, any_toD hx ys h.2]
theorem dp_x {Z Fz : Hp} {ρ : List Addr} {st : Store} {H : Hp} {p : PV} {v : V} (rl : Rel X.K X.mg Z Fz ρ st H) (r : Rep X.K X.mg Fz ρ p v) (h : dChk p = true) : Dp X.K H v (toD p) := by
  unfold dChk at h
  rw [Bool.and_eq_true] at h
  exact dp_of rl.fz 60 _ h.1 h.2 r
theorem jo_inD (hu : X.A.units + 65 < cLine) : JOp X (compareOp .In) oInD := by
  refine ⟨_, op_inD hu, fun Z Fz ρ st H x y px py pz Q rl rx ry e q => ?_⟩
  unfold oInD at e
  split at e
  · rename_i xs er
    split at e
    · rename_i c
      rw [Bool.and_eq_true] at c
      cases e
      have d := dp_rsv rl ry (by rw [er]; exact c.2)
      rw [er] at d
      have s2 := shaped_chk c.2
      rw [toD] at d s2
      refine ⟨_, _, dp_x rl rx c.1, d, shaped_chk c.1, s2, ?_⟩
      have c1 := c.1
      have c2 := c.2
      unfold dChk at c1 c2
      rw [Bool.and_eq_true] at c1 c2
      rw [any_toD c1.2 xs (by have := c2.2; rw [noScr] at this; exact this)]
      exact q Fz ρ H _ Ext.refl rl (by rw [Rep])
    · cases e
  · cases e
theorem jo_ninD (hu : X.A.units + 65 < cLine) : JOp X (compareOp .NotIn) oNinD := by
  refine ⟨_, op_notInD hu, fun Z Fz ρ st H x y px py pz Q rl rx ry e q => ?_⟩
  unfold oNinD at e
  split at e
  · rename_i xs er
    split at e
    · rename_i c
      rw [Bool.and_eq_true] at c
      cases e
      have d := dp_rsv rl ry (by rw [er]; exact c.2)
      rw [er] at d
      have s2 := shaped_chk c.2
      rw [toD] at d s2
      refine ⟨_, _, dp_x rl rx c.1, d, shaped_chk c.1, s2, ?_⟩
      have c1 := c.1
      have c2 := c.2
      unfold dChk at c1 c2
      rw [Bool.and_eq_true] at c1 c2
      rw [any_toD c1.2 xs (by have := c2.2; rw [noScr] at this; exact this)]
      exact q Fz ρ H _ Ext.refl rl (by rw [Rep])
    · cases e
  · cases e
def oIn := oOr oInF (oOr oInS oInD)
def oNin := oOr oNinF (oOr oNinS oNinD)
theorem jo_in (hu : X.A.units + 65 < cLine) : JOp X (compareOp .In) oIn := jo_inF.or (jo_inS.or (jo_inD hu))
theorem jo_nin (hu : X.A.units + 65 < cLine) : JOp X (compareOp .NotIn) oNin := jo_ninF.or (jo_ninS.or (jo_ninD hu))

/-! ### order of tuples of asInts -/
def asInts : List PV → Option (List Int)
  | [] => some []
  | .int i :: r => (asInts r).map (i :: ·)
  | _ :: _ => none
theorem asInts_eq : ∀ {xs : List PV} {ns : List Int}, asInts xs = some ns → xs = ns.map PV.int
  | [], ns, h => by cases h; rfl
  | x :: r, ns, h => by
    cases x <;> first | (simp [asInts] at h; done) | skip
    rename_i i
    cases e : asInts r with
    | none => simp [asInts, e] at h
    | some ms =>
      have : ns = i :: ms := by simp [asInts, e] at h; exact h.symm
      subst this
      rw [asInts_eq e]; rfl
def oLtT : PV → PV → Store → Option PV
  | .tup xs, .tup ys, _ => (match asInts xs, asInts ys with
    | some ns, some ms => some (.bl (HT.lexLt ns ms))
    | _, _ => none)
  | _, _, _ => none
theorem jo_ltT (hu : X.A.units < cLine) : JOp X (compareOp .Lt) oLtT := by
  refine ⟨_, op_ltT hu, fun Z Fz ρ st H x y px py pz Q rl rx ry e q => ?_⟩
  unfold oLtT at e
  split at e
  · rename_i xs ys
    split at e
    · rename_i ns ms e1 e2
      cases e
      obtain ⟨a, vs, rfl, sa, _, ra⟩ := tup_ok rl rx
      obtain ⟨b, ws, rfl, sb, _, rb⟩ := tup_ok rl ry
      rw [asInts_eq e1] at ra
      rw [asInts_eq e2] at rb
      rw [RepL.of_ints ra] at sa
      rw [RepL.of_ints rb] at sb
      exact ⟨a, b, ns, ms, rfl, rfl, sa, sb, q Fz ρ H _ Ext.refl rl (by rw [Rep])⟩
    · cases e
  · cases e
def oLt := oOr oLtI oLtT
theorem jo_lt (hu : X.A.units < cLine) : JOp X (compareOp .Lt) oLt := jo_ltI.or (jo_ltT hu)

/-! ### subscripts -/
def JIx (X : Cx) (o : PV → PV → Store → Option PV) : Prop := ∃ r : R2, IxR X r ∧
  ∀ Z Fz ρ st H x y px py pz Q, Rel X.K X.mg Z Fz ρ st H → Rep X.K X.mg Fz ρ px x → Rep X.K X.mg Fz ρ py y → o px py st = some pz →
    (∀ Fz' ρ' H' v', Ext Fz ρ Fz' ρ' → Rel X.K X.mg Z Fz' ρ' st H' → Rep X.K X.mg Fz' ρ' pz v' → Q v' H') → r x y H Q
def oIx : PV → PV → Store → Option PV := fun x y st => match y with
  | .int i => (match x with
    | .str z => if z.length ≤ sizeLine then (atI z.cps.toList i).map fun c => .str ⟨#[c]⟩ else none
    | _ => (match asS st x with
      | some xs => atI xs i
      | none => none))
  | _ => none
theorem atI_rep {K : PySem.W.Frag} {mg : Str → Option Value} {Fz : Hp} {ρ : List Addr} {ps : List PV} {vs : List V} {i : Int} {p : PV} (h : RepL K mg Fz ρ ps vs) (e : atI ps i = some p) : ∃ v, atI vs i = some v ∧ Rep K mg Fz ρ p v := by
  unfold atI at e ⊢
  rw [← h.len]
  cases q : ixN ps.length i with
  | none => rw [q] at e; cases e
  | some j =>
    rw [q] at e
    exact RepL.get (i := j) h e
theorem jx_ix : JIx X oIx := by
  refine ⟨_, ix_seq, fun Z Fz ρ st H x y px py pz Q rl rx ry e q => ?_⟩
  unfold oIx at e
  split at e
  · rename_i i
    rw [Rep] at ry
    split at e
    · rename_i z
      rw [Rep] at rx
      split at e
      · rename_i hz
        cases a : atI z.cps.toList i with
        | none => rw [a] at e; cases e
        | some c =>
          rw [a] at e
          cases e
          exact .inr (.inr ⟨z, i, c, rx, ry, hz, a, q Fz ρ H _ Ext.refl rl (by rw [Rep])⟩)
      · cases e
    · split at e
      · rename_i xs es
        obtain ⟨a, vs, rfl, s, _, rr⟩ := asS_ok rl rx es
        obtain ⟨v, ev, rv⟩ := atI_rep rr e
        rcases s with s | s
        · exact .inl ⟨a, vs, i, v, rfl, ry, s, ev, q Fz ρ H _ Ext.refl rl rv⟩
        · exact .inr (.inl ⟨a, vs, i, v, rfl, ry, s, ev, q Fz ρ H _ Ext.refl rl rv⟩)
      · cases e
  · cases e
variable {E : XK} {a b e : Expr} {es : List Expr} {pos : Pos} {fa fb : XE}
theorem je_ix {o} (h : JIx X o) (ha : JE X E a fa) (hb : JE X E b fb) (hs : PlainIx b := by exact fun _ _ => rfl) : JE X E (.Subscript a b pos) (eBin o fa fb) := by
  obtain ⟨r, hr, sr⟩ := h
  obtain ⟨ta, pa, sa⟩ := ha
  obtain ⟨tb, pb, sb⟩ := hb
  exact ⟨tOp r ta tb, pe_ix hr pa pb hs, sbin sr sa sb⟩

/-! ### slices -/
def cutP (xs : List PV) (lo hi : Option Int) : List PV := (xs.drop (HT.sIx xs.length 0 lo)).take (HT.sIx xs.length xs.length hi - HT.sIx xs.length 0 lo)
theorem cut_rep {K : PySem.W.Frag} {mg : Str → Option Value} {Fz : Hp} {ρ : List Addr} {ps : List PV} {vs : List V} {lo hi : Option Int} (h : RepL K mg Fz ρ ps vs) : RepL K mg Fz ρ (cutP ps lo hi) (cutV vs lo hi) := by
  unfold cutP cutV
  rw [h.len]
  exact (h.drop _).take _
theorem cutP_len (xs : List PV) (lo hi : Option Int) : (cutP xs lo hi).length ≤ xs.length := by
  unfold cutP
  rw [List.length_take, List.length_drop]
  omega
theorem cutP_all (xs : List PV) (lo hi : Option Int) (h : HT.sIx xs.length 0 lo = 0 ∧ HT.sIx xs.length xs.length hi = xs.length) : cutP xs lo hi = xs := by
  unfold cutP
  rw [h.1, h.2, List.drop_zero, Nat.sub_zero, List.take_length]
/-- x[lo:hi] -/
def oCut (x : PV) (lo hi : Option Int) (st : Store) : Option PV := match x with
  | .str z => if z.length ≤ sizeLine then some (.str (cutS z lo hi)) else none
  | .tup xs => some (.tup (cutP xs lo hi))
  | _ => (match asL st x with
    | some xs => some (.lst (cutP xs lo hi))
    | none => none)
/-- a slice's part -/
def XO := Ev → Store → R (Option Int)
def pNone : XO := fun _ st => .ok none st
def pSome (f : XE) : XO := fun env st => (f env st).bind fun v s => match v with
  | .int i => .ok (some i) s
  | _ => .no
def SO (K : PySem.W.Frag) (mg : Str → Option Value) (E : XK) (t : TO) (f : XO) : Prop := ∀ Z Fz ρ env st σ H Q, Rel K mg Z Fz ρ st H → REnv K mg Fz ρ env σ →
  Out K mg Z E Fz ρ (f env st) (fun v _ Fz' ρ' H' => Q v H') → t σ H Q
def JO (X : Cx) (E : XK) (e : Option Expr) (f : XO) : Prop := ∃ t, PO X e t ∧ SO X.K X.mg E t f
theorem jo_none : JO X E none pNone := ⟨_, po_none, fun Z Fz ρ env st σ H Q rl hh o => o.here rl⟩
theorem jo_some (h : JE X E e fa) : JO X E (some e) (pSome fa) := by
  obtain ⟨t, p, s⟩ := h
  refine ⟨_, po_some p, fun Z Fz ρ env st σ H Q rl hh o => ?_⟩
  refine s Z Fz ρ env st σ H _ rl hh (o.seq.mono fun x s1 F1 r1 H1 _ ex1 rl1 o1 x' rx => ?_)
  split at o1
  · rw [Rep] at rx; exact ⟨_, rx, o1.here rl1⟩
  · exact o1.elim
def eCut (f : XE) (lo hi : XO) : XE := fun env st => (f env st).bind fun x s1 => (lo env s1).bind fun l s2 => (hi env s2).bind fun u s3 => match oCut x l u s3 with
  | some z => .ok z s3
  | none => .no
theorem SlR.or {r r' : V → Option Int → Option Int → Hp → VK → Prop} (h : L2.SlR X r) (h' : L2.SlR X r') : L2.SlR X (fun x lo hi H Q => r x lo hi H Q ∨ r' x lo hi H Q) :=
  fun pins s σ H x v vl vu lo hi sl Q I rx a b c q => q.elim (fun q => h pins s σ H x v vl vu lo hi sl Q I rx a b c q) fun q => h' pins s σ H x v vl vu lo hi sl Q I rx a b c q
theorem je_slice {lo hi : Option Expr} {fl fh : XO} {p2 : Pos} (ha : JE X E e fa) (hl : JO X E lo fl) (hh : JO X E hi fh) : JE X E (.Subscript e (.Slice lo hi none p2) pos) (eCut fa fl fh) := by
  obtain ⟨t, p, s⟩ := ha
  obtain ⟨tl, pl, sl⟩ := hl
  obtain ⟨th, ph, sh⟩ := hh
  refine ⟨_, pe_slice (SlR.or sl_str (SlR.or sl_tupA sl_list)) p pl ph, fun Z Fz ρ env st σ H Q rl h o => ?_⟩
  refine s Z Fz ρ env st σ H _ rl h (o.seq.mono fun x s1 F1 r1 H1 _ ex1 rl1 o1 x' rx => ?_)
  refine sl Z F1 r1 env s1 σ H1 _ rl1 (h.mono ex1) (o1.seq.mono fun l s2 F2 r2 H2 _ ex2 rl2 o2 => ?_)
  refine sh Z F2 r2 env s2 σ H2 _ rl2 ((h.mono ex1).mono ex2) (o2.seq.mono fun u s3 F3 r3 H3 _ ex3 rl3 o3 => ?_)
  replace rx := rx.mono (ex2.trans ex3)
  split at o3
  · rename_i z ez
    unfold oCut at ez
    split at ez
    · split at ez
      · rename_i hw
        cases ez
        rw [Rep] at rx
        exact .inl ⟨_, rx, hw, o3.here rl3 _ (by rw [Rep])⟩
      · cases ez
    · cases ez
      obtain ⟨a, vs, rfl, sa, la, ra⟩ := tup_ok rl3 rx
      refine .inr (.inl ⟨a, vs, rfl, sa, fun c => ?_, fun c p hp => ?_⟩)
      · rw [← ra.len] at c
        rw [cutP_all _ _ _ c] at o3
        exact o3.here rl3 _ rx
      · obtain ⟨rl4, ex4⟩ := rl3.frozen hp (.tup (cutV vs l u))
        exact o3 _ _ _ ex4 rl4 _ (by rw [Rep]; exact ⟨p, _, rfl, SqT.of upd_same, Nat.le_trans (cutP_len _ _ _) la, (cut_rep ra).mono ex4⟩)
    · split at ez
      · rename_i xs es
        cases ez
        obtain ⟨a, vs, rfl, sa, la, ra⟩ := asL_ok rl3 rx es
        refine .inr (.inr ⟨a, vs, rfl, sa, fun p hp => ?_⟩)
        obtain ⟨rl4, ex4⟩ := rl3.frozen hp (.lst (cutV vs l u))
        exact o3 _ _ _ ex4 rl4 _ (by rw [Rep]; exact ⟨p, _, rfl, upd_same, Nat.le_trans (cutP_len _ _ _) la, (cut_rep ra).mono ex4⟩)
      · cases ez
  · exact o3.elim
/-! ### - -/
def oNeg : PV → Option PV
  | .int i => some (.int (-i))
  | _ => none
theorem je_neg (h : JE X E a fa) : JE X E (.UnaryOp .USub a pos) (eUn oNeg fa) := by
  obtain ⟨t, p, s⟩ := h
  refine ⟨_, pe_un un_neg p, fun Z Fz ρ env st σ H Q rl hh o => ?_⟩
  refine s Z Fz ρ env st σ H _ rl hh (o.seq.mono fun x s1 F1 r1 H1 _ ex1 rl1 o1 x' rx => ?_)
  split at o1
  · rename_i z ez
    unfold oNeg at ez
    split at ez
    · cases ez
      rw [Rep] at rx
      exact ⟨_, rx, o1.here rl1 _ (by rw [Rep])⟩
    · cases ez
  · exact o1.elim
end
end Lq
end
section
set_option Elab.async false
set_option linter.all false
set_option maxRecDepth 10000
/-! Built-in functions, isinstance, methods of built-in types. -/
namespace Lq
open PySem PySem.Spec PyProof.Rows L2

def JC (X : Cx) (f : Value) (o : List PV → Store → Option PV) : Prop := ∃ r : List V → Hp → VK → Prop, CallR X f r ∧
  ∀ Z Fz ρ st H vs ps pz Q, Rel X.K X.mg Z Fz ρ st H → RepL X.K X.mg Fz ρ ps vs → o ps st = some pz →
    (∀ Fz' ρ' H' v', Ext Fz ρ Fz' ρ' → Rel X.K X.mg Z Fz' ρ' st H' → Rep X.K X.mg Fz' ρ' pz v' → Q v' H') → r vs H Q
def eCB (o : List PV → Store → Option PV) (a : XL) : XE := fun env st => (a env st).bind fun xs s => match o xs s with
  | some z => .ok z s
  | none => .no
section
variable {X : Cx} {E : XK} {a b e : Expr} {es : List Expr} {p pos : Pos} {fa fb : XE} {f : XL} {x : Str} {id T : String}
theorem s_cb {r : List V → Hp → VK → Prop} {t : TA} {o : List PV → Store → Option PV} (sr : ∀ Z Fz ρ st H vs ps pz Q, Rel X.K X.mg Z Fz ρ st H → RepL X.K X.mg Fz ρ ps vs → o ps st = some pz →
    (∀ Fz' ρ' H' v', Ext Fz ρ Fz' ρ' → Rel X.K X.mg Z Fz' ρ' st H' → Rep X.K X.mg Fz' ρ' pz v' → Q v' H') → r vs H Q) (s : SA X.K X.mg E t f) : SE X.K X.mg E (tCB r t) (eCB o f) := fun Z Fz ρ env st σ H Q rl hh o => by
  refine s Z Fz ρ env st σ H _ rl hh (o.seq.mono fun xs s1 F1 r1 H1 _ ex1 rl1 o1 xs' rx => ?_)
  split at o1
  · rename_i z ez
    exact sr Z F1 r1 s1 H1 xs' xs z Q rl1 rx ez fun F2 r2 H2 v' ex2 rl2 rz => o1 F2 r2 H2 ex2 rl2 v' rz
  · exact o1.elim
theorem je_callB {o} (h : JC X (.builtin id) o) (ha : JA X E (e :: es) f) (hm : X.mg x = none) (hv : bootBuiltins x = some (.builtin id)) (hg : Gl X x := by rfl) (hn : x ≠ "__name__" := by decide) (hdb : (x == ("__debug__" : Str)) = false := by decide)
    (he : starEach (e :: es) X.env = (false, eval e X.env) :: starEach es X.env := by rfl) (hpl : (backTo pos (starEach es X.env)).any (·.1) = false := by rfl) : JE X E (.Call (.Name x p) (e :: es) [] pos) (eCB o f) := by
  obtain ⟨r, hr, sr⟩ := h
  obtain ⟨t, pt, st⟩ := ha
  exact ⟨_, pe_callB hr hg hm hv pt hn hdb he hpl, s_cb sr st⟩
theorem je_callTy {o} (h : JC X (.type T) o) (ha : JA X E (e :: es) f) (hm : X.mg x = none) (hv : bootBuiltins x = some (.type T)) (hg : Gl X x := by rfl) (hn : x ≠ "__name__" := by decide) (hdb : (x == ("__debug__" : Str)) = false := by decide)
    (he : starEach (e :: es) X.env = (false, eval e X.env) :: starEach es X.env := by rfl) (hpl : (backTo pos (starEach es X.env)).any (·.1) = false := by rfl) : JE X E (.Call (.Name x p) (e :: es) [] pos) (eCB o f) := by
  obtain ⟨r, hr, sr⟩ := h
  obtain ⟨t, pt, st⟩ := ha
  exact ⟨_, pe_callTy hr hg hm hv pt hn hdb he hpl, s_cb sr st⟩
/-! ### one argument -/
theorem rep1 {K : PySem.W.Frag} {mg : Str → Option Value} {Fz : Hp} {ρ : List Addr} {p : PV} {vs : List V} (h : RepL K mg Fz ρ [p] vs) : ∃ v, vs = [v] ∧ Rep K mg Fz ρ p v := by
  rw [RepL] at h
  obtain ⟨v, r, rfl, h1, h2⟩ := h
  rw [RepL] at h2
  subst h2
  exact ⟨v, rfl, h1⟩
def oLen : List PV → Store → Option PV
  | [.str z], _ => if z.length ≤ sizeLine then some (.int z.length) else none
  | [p], st => (match asS st p with
    | some xs => some (.int xs.length)
    | none => none)
  | _, _ => none
theorem jc_len : JC X (.builtin "len") oLen := by
  refine ⟨_, call_len, fun Z Fz ρ st H vs ps pz Q rl rp e q => ?_⟩
  unfold oLen at e
  split at e
  · obtain ⟨v, rfl, rv⟩ := rep1 rp
    rw [Rep] at rv
    subst rv
    split at e
    · rename_i hz
      cases e
      exact ⟨_, _, rfl, ⟨hz, rfl⟩, q Fz ρ H _ Ext.refl rl (by rw [Rep])⟩
    · cases e
  · obtain ⟨v, rfl, rv⟩ := rep1 rp
    split at e
    · rename_i xs es
      cases e
      obtain ⟨a, ws, rfl, s, _, rr⟩ := asS_ok rl rv es
      refine ⟨_, ws.length, rfl, ?_, q Fz ρ H _ Ext.refl rl (by rw [Rep, rr.len])⟩
      exact s.imp (fun s => ⟨ws, s, rfl⟩) fun s => ⟨ws, s, rfl⟩
    · cases e
  · cases e
def oAbs : List PV → Store → Option PV
  | [.int i], _ => some (.int (if i < 0 then -i else i))
  | _, _ => none
theorem jc_abs : JC X (.builtin "abs") oAbs := by
  refine ⟨_, call_abs, fun Z Fz ρ st H vs ps pz Q rl rp e q => ?_⟩
  unfold oAbs at e
  split at e
  · obtain ⟨v, rfl, rv⟩ := rep1 rp
    cases e
    rw [Rep] at rv
    subst rv
    exact ⟨_, rfl, q Fz ρ H _ Ext.refl rl (by rw [Rep])⟩
  · cases e
theorem CallR.or {f : Value} {r r' : List V → Hp → VK → Prop} (h : CallR X f r) (h' : CallR X f r') : CallR X f (fun vs H Q => r vs H Q ∨ r' vs H Q) :=
  fun pins s σ H xs us Q I rv q => q.elim (fun q => h pins s σ H xs us Q I rv q) fun q => h' pins s σ H xs us Q I rv q
def oInt : List PV → Store → Option PV
  | [.int i], _ => some (.int i)
  | [.bl k], _ => some (.int (if k then 1 else 0))
  | [.str z], _ => if z.length ≤ 640 then (PySem.intText? z).map PV.int else none
  | _, _ => none
theorem jc_int : JC X (.type "int") oInt := by
  refine ⟨_, CallR.or call_int1 call_int_str, fun Z Fz ρ st H vs ps pz Q rl rp e q => ?_⟩
  unfold oInt at e
  split at e
  · obtain ⟨v, rfl, rv⟩ := rep1 rp
    cases e
    rw [Rep] at rv
    subst rv
    exact .inl (.inl ⟨_, rfl, q Fz ρ H _ Ext.refl rl (by rw [Rep])⟩)
  · obtain ⟨v, rfl, rv⟩ := rep1 rp
    cases e
    rw [Rep] at rv
    subst rv
    exact .inl (.inr ⟨_, rfl, q Fz ρ H _ Ext.refl rl (by rw [Rep])⟩)
  · obtain ⟨v, rfl, rv⟩ := rep1 rp
    rw [Rep] at rv
    subst rv
    split at e
    · rename_i z hz
      cases en : PySem.intText? z with
      | none => rw [en] at e; cases e
      | some n =>
        rw [en] at e
        cases e
        exact .inr ⟨z, n, rfl, en, hz, q Fz ρ H _ Ext.refl rl (by rw [Rep])⟩
    · cases e
  · cases e
def oStr : List PV → Store → Option PV
  | [.int i], _ => if i.natAbs.log2 < 1920 then some (.str (toString i)) else none
  | _, _ => none
theorem jc_str : JC X (.type "str") oStr := by
  refine ⟨_, call_str_int, fun Z Fz ρ st H vs ps pz Q rl rp e q => ?_⟩
  unfold oStr at e
  split at e
  · obtain ⟨v, rfl, rv⟩ := rep1 rp
    rw [Rep] at rv
    subst rv
    split at e
    · rename_i hz
      cases e
      exact ⟨_, rfl, hz, q Fz ρ H _ Ext.refl rl (by rw [Rep])⟩
    · cases e
  · cases e
/-! ### over lists -/
def oSum : List PV → Store → Option PV
  | [p], st => (match asL st p with
    | some xs => (asInts xs).map fun ns => .int ns.sum
    | none => none)
  | _, _ => none
theorem jc_sum (hc : X.calm = true) : JC X (.builtin "sum") oSum := by
  refine ⟨_, cr_sum hc, fun Z Fz ρ st H vs ps pz Q rl rp e q => ?_⟩
  unfold oSum at e
  split at e
  · obtain ⟨v, rfl, rv⟩ := rep1 rp
    split at e
    · rename_i xs es
      cases en : asInts xs with
      | none => rw [en] at e; cases e
      | some ns =>
        rw [en] at e
        cases e
        obtain ⟨a, ws, rfl, s, _, rr⟩ := asL_ok rl rv es
        rw [asInts_eq en] at rr
        rw [RepL.of_ints rr] at s
        exact ⟨a, ns, rfl, s, q Fz ρ H _ Ext.refl rl (by rw [Rep])⟩
    · cases e
  · cases e
def maxI : Int → List Int → Int
  | m, [] => m
  | m, x :: r => maxI (if m < x then x else m) r
def minI : Int → List Int → Int
  | m, [] => m
  | m, x :: r => minI (if x < m then x else m) r
theorem maxI_spec : ∀ (m : Int) (l : List Int), maxI m l ∈ m :: l ∧ ∀ y ∈ m :: l, y ≤ maxI m l
  | m, [] => ⟨by simp [maxI], by simp [maxI]⟩
  | m, x :: r => by
    obtain ⟨h1, h2⟩ := maxI_spec (if m < x then x else m) r
    unfold maxI
    refine ⟨?_, fun y hy => ?_⟩
    · rcases List.mem_cons.mp h1 with h | h
      · rw [h]; split <;> simp
      · simp [h]
    · have h3 := h2 _ List.mem_cons_self
      rcases List.mem_cons.mp hy with h | h
      · exact Int.le_trans (by rw [h]; split <;> omega) h3
      · rcases List.mem_cons.mp h with h | h
        · exact Int.le_trans (by rw [h]; split <;> omega) h3
        · exact h2 y (List.mem_cons_of_mem _ h)
theorem minI_spec : ∀ (m : Int) (l : List Int), minI m l ∈ m :: l ∧ ∀ y ∈ m :: l, minI m l ≤ y
  | m, [] => ⟨by simp [minI], by simp [minI]⟩
  | m, x :: r => by
    obtain ⟨h1, h2⟩ := minI_spec (if x < m then x else m) r
    unfold minI
    refine ⟨?_, fun y hy => ?_⟩
    · rcases List.mem_cons.mp h1 with h | h
      · rw [h]; split <;> simp
      · simp [h]
    · have h3 := h2 _ List.mem_cons_self
      rcases List.mem_cons.mp hy with h | h
      · exact Int.le_trans h3 (by rw [h]; split <;> omega)
      · rcases List.mem_cons.mp h with h | h
        · exact Int.le_trans h3 (by rw [h]; split <;> omega)
        · exact h2 y (List.mem_cons_of_mem _ h)
def oMax : List PV → Store → Option PV
  | [p], st => (match asL st p with
    | some xs => (match asInts xs with
      | some (n :: ns) => some (.int (maxI n ns))
      | _ => none)
    | none => none)
  | _, _ => none
def oMin : List PV → Store → Option PV
  | [p], st => (match asL st p with
    | some xs => (match asInts xs with
      | some (n :: ns) => some (.int (minI n ns))
      | _ => none)
    | none => none)
  | _, _ => none
theorem jc_max (hc : X.calm = true) : JC X (.builtin "max") oMax := by
  refine ⟨_, cr_max hc, fun Z Fz ρ st H vs ps pz Q rl rp e q => ?_⟩
  unfold oMax at e
  split at e
  · obtain ⟨v, rfl, rv⟩ := rep1 rp
    split at e
    · rename_i xs es
      split at e
      · rename_i n ns en
        cases e
        obtain ⟨a, ws, rfl, s, _, rr⟩ := asL_ok rl rv es
        rw [asInts_eq en] at rr
        rw [RepL.of_ints rr] at s
        refine ⟨a, _, rfl, s, by simp, fun m h1 h2 => ?_⟩
        obtain ⟨k1, k2⟩ := maxI_spec n ns
        have : m = maxI n ns := Int.le_antisymm (k2 m h1) (h2 _ k1)
        rw [this]
        exact q Fz ρ H _ Ext.refl rl (by rw [Rep])
      · cases e
    · cases e
  · cases e
theorem jc_min (hc : X.calm = true) : JC X (.builtin "min") oMin := by
  refine ⟨_, cr_min hc, fun Z Fz ρ st H vs ps pz Q rl rp e q => ?_⟩
  unfold oMin at e
  split at e
  · obtain ⟨v, rfl, rv⟩ := rep1 rp
    split at e
    · rename_i xs es
      split at e
      · rename_i n ns en
        cases e
        obtain ⟨a, ws, rfl, s, _, rr⟩ := asL_ok rl rv es
        rw [asInts_eq en] at rr
        rw [RepL.of_ints rr] at s
        refine ⟨a, _, rfl, s, by simp, fun m h1 h2 => ?_⟩
        obtain ⟨k1, k2⟩ := minI_spec n ns
        have : m = minI n ns := Int.le_antisymm (h2 _ k1) (k2 m h1)
        rw [this]
        exact q Fz ρ H _ Ext.refl rl (by rw [Rep])
      · cases e
    · cases e
  · cases e
def asBools : List PV → Option (List Bool)
  | [] => some []
  | .bl b :: r => (asBools r).map (b :: ·)
  | _ :: _ => none
theorem asBools_eq : ∀ {xs : List PV} {ns : List Bool}, asBools xs = some ns → xs = ns.map PV.bl
  | [], ns, h => by cases h; rfl
  | x :: r, ns, h => by
    cases x <;> first | (simp [asBools] at h; done) | skip
    rename_i i
    cases e : asBools r with
    | none => simp [asBools, e] at h
    | some ms =>
      have : ns = i :: ms := by simp [asBools, e] at h; exact h.symm
      subst this
      rw [asBools_eq e]; rfl
theorem of_bools {K : PySem.W.Frag} {mg : Str → Option Value} {Fz : Hp} {ρ : List Addr} : ∀ {ns : List Bool} {vs : List V}, RepL K mg Fz ρ (ns.map PV.bl) vs → vs = ns.map V.bl
  | [], _, h => by rw [List.map_nil, RepL] at h; exact h
  | n :: ns, _, h => by
    rw [List.map_cons, RepL] at h
    obtain ⟨v, r, rfl, h1, h⟩ := h
    rw [Rep] at h1
    rw [h1, of_bools h]; rfl
def oAll : List PV → Store → Option PV
  | [p], st => (match asL st p with
    | some xs => (asBools xs).map fun ns => .bl (ns.all _root_.id)
    | none => none)
  | _, _ => none
def oAny : List PV → Store → Option PV
  | [p], st => (match asL st p with
    | some xs => (asBools xs).map fun ns => .bl (ns.any _root_.id)
    | none => none)
  | _, _ => none
theorem jc_all (hc : X.calm = true) : JC X (.builtin "all") oAll := by
  refine ⟨_, cr_all hc, fun Z Fz ρ st H vs ps pz Q rl rp e q => ?_⟩
  unfold oAll at e
  split at e
  · obtain ⟨v, rfl, rv⟩ := rep1 rp
    split at e
    · rename_i xs es
      cases en : asBools xs with
      | none => rw [en] at e; cases e
      | some ns =>
        rw [en] at e
        cases e
        obtain ⟨a, ws, rfl, s, _, rr⟩ := asL_ok rl rv es
        rw [asBools_eq en] at rr
        rw [of_bools rr] at s
        exact ⟨a, ns, rfl, s, q Fz ρ H _ Ext.refl rl (by rw [Rep])⟩
    · cases e
  · cases e
theorem jc_any (hc : X.calm = true) : JC X (.builtin "any") oAny := by
  refine ⟨_, cr_any hc, fun Z Fz ρ st H vs ps pz Q rl rp e q => ?_⟩
  unfold oAny at e
  split at e
  · obtain ⟨v, rfl, rv⟩ := rep1 rp
    split at e
    · rename_i xs es
      cases en : asBools xs with
      | none => rw [en] at e; cases e
      | some ns =>
        rw [en] at e
        cases e
        obtain ⟨a, ws, rfl, s, _, rr⟩ := asL_ok rl rv es
        rw [asBools_eq en] at rr
        rw [of_bools rr] at s
        exact ⟨a, ns, rfl, s, q Fz ρ H _ Ext.refl rl (by rw [Rep])⟩
    · cases e
  · cases e
def oTuple : List PV → Store → Option PV
  | [.tup xs], _ => some (.tup xs)
  | [p], st => (match asL st p with
    | some xs => some (.tup xs)
    | none => none)
  | _, _ => none
theorem jc_tuple : JC X (.type "tuple") oTuple := by
  refine ⟨_, call_tuple_of, fun Z Fz ρ st H vs ps pz Q rl rp e q => ?_⟩
  unfold oTuple at e
  split at e
  · obtain ⟨v, rfl, rv⟩ := rep1 rp
    cases e
    obtain ⟨a, ws, rfl, s, _, rr⟩ := tup_ok rl rv
    exact ⟨a, ws, rfl, .inr ⟨s, q Fz ρ H _ Ext.refl rl rv⟩⟩
  · obtain ⟨v, rfl, rv⟩ := rep1 rp
    split at e
    · rename_i xs es
      cases e
      obtain ⟨a, ws, rfl, s, hl, rr⟩ := asL_ok rl rv es
      refine ⟨a, ws, rfl, .inl ⟨s, fun p hp => ?_⟩⟩
      obtain ⟨rl2, ex2⟩ := rl.frozen hp (.tup ws)
      exact q _ _ _ _ ex2 rl2 (by rw [Rep]; exact ⟨p, ws, rfl, SqT.of upd_same, hl, rr.mono ex2⟩)
    · cases e
  · cases e
/-- list(x) of a list or a tuple: a new list -/
def fList (a : XE) : XL := fun env st => (a env st).bind fun p s => match asS s p with
  | some xs => .ok xs s
  | none => .no
theorem jf_list (ha : JE X E a fa) (hm : X.mg "list" = none) (hg : Gl X "list" := by rfl)
    (he : starEach [a] X.env = (false, eval a X.env) :: starEach [] X.env := by rfl) (hpl : (backTo pos (starEach [] X.env)).any (·.1) = false := by rfl) : JF X E (.Call (.Name "list" p) [a] [] pos) (fList fa) := by
  obtain ⟨t, pt, s⟩ := ha
  refine ⟨_, pe_callTy call_list_of hg hm (by decide +kernel) (pa_cons pt pa_nil he) (he := he) (hpl := hpl), fun Z Fz ρ env st σ H Q rl hh o => ?_⟩
  refine s Z Fz ρ env st σ H _ rl hh (o.seq.mono fun x s1 F1 r1 H1 _ ex1 rl1 o1 x' rx => ?_)
  split at o1
  · rename_i xs es
    obtain ⟨a, ws, rfl, s, hl, rr⟩ := asS_ok rl1 rx es
    exact ⟨a, ws, rfl, s, fun p hp => o1.here rl1 p ws hp hl rr⟩
  · exact o1.elim
/-- a + b of lists, a * n: new lists -/
def fAdd (a b : XE) : XL := fun env st => (a env st).bind fun x s1 => (b env s1).bind fun y s2 => match asM s2 x, asM s2 y with
  | some xs, some ys => if xs.length + ys.length ≤ sizeLine then .ok (xs ++ ys) s2 else .no
  | _, _ => .no
theorem jf_add (ha : JE X E a fa) (hb : JE X E b fb) : JF X E (.BinOp a .Add b pos) (fAdd fa fb) := by
  obtain ⟨ta, pa, sa⟩ := ha
  obtain ⟨tb, pb, sb⟩ := hb
  refine ⟨_, pe_op op_cat pa pb, fun Z Fz ρ env st σ H Q rl h o => ?_⟩
  refine sa Z Fz ρ env st σ H _ rl h (o.seq.mono fun x s1 F1 r1 H1 _ ex1 rl1 o1 x' rx => ?_)
  refine sb Z F1 r1 env s1 σ H1 _ rl1 (h.mono ex1) (o1.seq.mono fun y s2 F2 r2 H2 _ ex2 rl2 o2 y' ry => ?_)
  split at o2
  · rename_i xs ys ex ey
    split at o2
    · rename_i c
      obtain ⟨a, vs, rfl, sa, la, ra⟩ := asM_ok rl2 (rx.mono ex2) ex
      obtain ⟨b, ws, rfl, sb, lb, rb⟩ := asM_ok rl2 ry ey
      exact ⟨a, b, vs, ws, rfl, rfl, sa, sb, by rw [← ra.len, ← rb.len]; exact c, fun p hp => o2.here rl2 p _ hp (by simpa using c) (ra.app rb)⟩
    · exact o2.elim
  · exact o2.elim
def fMul (a b : XE) : XL := fun env st => (a env st).bind fun x s1 => (b env s1).bind fun y s2 => match asM s2 x, y with
  | some xs, .int k => if -(2 ^ 63) ≤ k ∧ k < 2 ^ 63 ∧ xs.length * k.toNat ≤ sizeLine then .ok (List.replicate k.toNat xs).flatten s2 else .no
  | _, _ => .no
theorem jf_mul (ha : JE X E a fa) (hb : JE X E b fb) : JF X E (.BinOp a .Mult b pos) (fMul fa fb) := by
  obtain ⟨ta, pa, sa⟩ := ha
  obtain ⟨tb, pb, sb⟩ := hb
  refine ⟨_, pe_op op_rep pa pb, fun Z Fz ρ env st σ H Q rl h o => ?_⟩
  refine sa Z Fz ρ env st σ H _ rl h (o.seq.mono fun x s1 F1 r1 H1 _ ex1 rl1 o1 x' rx => ?_)
  refine sb Z F1 r1 env s1 σ H1 _ rl1 (h.mono ex1) (o1.seq.mono fun y s2 F2 r2 H2 hq2 ex2 rl2 o2 y' ry => ?_)
  clear hq2
  split at o2
  · rename_i xs k ex
    split at o2
    · rename_i c
      obtain ⟨a, vs, rfl, sa, la, ra⟩ := asM_ok rl2 (rx.mono ex2) ex
      rw [Rep] at ry
      exact ⟨a, k, vs, rfl, ry, sa, c.1, c.2.1, by rw [← ra.len]; exact c.2.2, fun p hp => o2.here rl2 p _ hp (by rw [flat_len]; exact c.2.2) (ra.flat _)⟩
    · exact o2.elim
  · exact o2.elim
end

/-! ### isinstance -/
inductive Kd where
  | non | bl | int | str | tup | lst
  deriving DecidableEq
def Kd.nm : Kd → String
  | .non => "NoneType" | .bl => "bool" | .int => "int" | .str => "str" | .tup => "tuple" | .lst => "list"
def Kd.isa : Kd → Kd → Bool
  | .bl, .int => true
  | .non, .non => true | .bl, .bl => true | .int, .int => true | .str, .str => true | .tup, .tup => true | .lst, .lst => true
  | _, _ => false
theorem kitB_ok (a b : Kd) (hb : b ≠ .non) : kitB a.nm b.nm = some (a.isa b) := by
  cases a <;> cases b <;> first | (exact absurd rfl hb) | decide +kernel
def kdOf (st : Store) : PV → Option Kd
  | .non => some .non
  | .bl _ => some .bl
  | .int _ => some .int
  | .str _ => some .str
  | .tup _ => some .tup
  | .lst _ => some .lst
  | .scr _ => some .lst
  | .own k => (match st[k]? with
    | some (.lst _) => some .lst
    | some (.frz _) => some .lst
    | _ => none)
  | .glo _ => none
theorem kd_ok {K : PySem.W.Frag} {mg : Str → Option Value} {Z Fz : Hp} {ρ : List Addr} {st : Store} {H : Hp} {p : PV} {v : V} {k : Kd} (rl : Rel K mg Z Fz ρ st H) (r : Rep K mg Fz ρ p v) (h : kdOf st p = some k) : TyX K H v (.type k.nm) := by
  have tl : ∀ {a : Addr} {vs : List V}, SqL K H a vs → TyX K H (.ref a) (.type "list") := fun {a vs} s => by
    rcases s with (s | ⟨o, s⟩) | ⟨o, its, n, s1, s2, _⟩
    · exact .base (.lst s)
    · exact .base (.frz s)
    · exact .kList s1 s2
  cases p with
  | non => cases h; rw [Rep] at r; subst r; exact .base .non
  | bl b => cases h; rw [Rep] at r; subst r; exact .base (.bl _)
  | int b => cases h; rw [Rep] at r; subst r; exact .base (.int _)
  | str b => cases h; rw [Rep] at r; subst r; exact .base (.str _)
  | tup xs =>
    cases h
    obtain ⟨a, vs, rfl, s, _⟩ := tup_ok rl r
    rcases s with (s | ⟨o, s⟩) | ⟨o, its, n, s1, s2, _⟩
    · exact .base (.tup s)
    · exact .fTuple s
    · exact .kTuple s1 s2
  | lst xs =>
    cases h
    obtain ⟨a, vs, rfl, s, _⟩ := asL_ok (xs := xs) rl r rfl
    exact tl s
  | scr xs =>
    cases h
    obtain ⟨a, vs, rfl, s, _⟩ := asL_ok rl r rfl
    exact tl s
  | own j =>
    have key : ∀ xs, asL st (.own j) = some xs → k = .lst → TyX K H v (.type k.nm) := fun xs e e2 => by
      subst e2
      obtain ⟨a, vs, rfl, s, _⟩ := asL_ok rl r e
      exact tl s
    cases e : st[j]? with
    | none => simp [kdOf, e] at h
    | some c =>
      cases c with
      | lst xs => exact key xs (by simp [asL, e]) (by simp [kdOf, e] at h; exact h.symm)
      | frz xs => exact key xs (by simp [asL, e]) (by simp [kdOf, e] at h; exact h.symm)
      | dct _ => simp [kdOf, e] at h
      | ins _ _ => simp [kdOf, e] at h
      | exc _ => simp [kdOf, e] at h
  | glo x => cases h
def eIsi (b : Kd) (f : XE) : XE := fun env st => (f env st).bind fun p s => match kdOf s p with
  | some k => .ok (.bl (k.isa b)) s
  | none => .no
section
variable {X : Cx} {E : XK} {a b e : Expr} {es : List Expr} {p pos : Pos} {fa fb : XE} {f : XL} {x : Str} {id T : String}
theorem je_isi (k : Kd) {y : Str} {q : Pos} (ha : JE X E a fa) (hm : X.mg "isinstance" = none) (hmT : X.mg y = none) (hvT : bootBuiltins y = some (.type k.nm)) (hk : k ≠ .non := by decide) (hg : Gl X "isinstance" := by rfl) (hgT : Gl X y := by rfl)
    (hnT : y ≠ "__name__" := by decide) (hdT : (y == ("__debug__" : Str)) = false := by decide)
    (he : starEach [a, .Name y q] X.env = (false, eval a X.env) :: starEach [.Name y q] X.env := by rfl) (hpl : (backTo pos (starEach [.Name y q] X.env)).any (·.1) = false := by rfl) : JE X E (.Call (.Name "isinstance" p) [a, .Name y q] [] pos) (eIsi k fa) := by
  obtain ⟨t, pt, s⟩ := ha
  refine ⟨_, pe_callB call_isi hg hm (by decide +kernel) (pa_cons pt (pa_cons (pe_bltn (v := .ty k.nm) hgT hmT hvT rfl hnT hdT) pa_nil) he) (he := he) (hpl := hpl), fun Z Fz ρ env st σ H Q rl hh o => ?_⟩
  refine s Z Fz ρ env st σ H _ rl hh (o.seq.mono fun x s1 F1 r1 H1 _ ex1 rl1 o1 x' rx => ?_)
  split at o1
  · rename_i j ej
    exact ⟨x', .ty k.nm, _, _, j.isa k, rfl, .ty _, kd_ok rl1 rx ej, kit_ty (kitB_ok j k hk), o1.here rl1 _ (by rw [Rep])⟩
  · exact o1.elim
end
end Lq
end
section
set_option Elab.async false
set_option linter.all false
set_option maxRecDepth 10000
/-! Own functions, iteration, comprehensions, statements. -/
namespace Lq
open PySem PySem.Spec PyProof.Rows L2

/-! ### own functions -/
def spF (K : PySem.W.Frag) (mg : Str → Option Value) (n : Nat) (f : Fn) : Sp := fun vs H Q E => vs.length = n ∧ ∃ Z Fz ρ st ps, Rel K mg Z Fz ρ st H ∧ RepL K mg Fz ρ ps vs ∧
  Out K mg Z E Fz ρ (f ps st) (fun v _ Fz' ρ' H' => ∀ v', Rep K mg Fz' ρ' v v' → Q v' H')
/-- a function of the module, by its name -/
structure Cl (P : Program) (w : World) (K : PySem.W.Frag) (mg : Str → Option Value) (base : Heap) (k : Nat) (x : Str) (n : Nat) (f : Fn) : Prop where
  ex : ∃ (a : Addr) (fd : FuncData) (ps : List Str), mg x = some (.ref a) ∧ PySem.W.keepIn K (.ref a) = true ∧ Binds K fd ps [] ∧ FnOk P w K mg base (L2.CX P w) k a fd ps (spF K mg n f)
def eCall (n : Nat) (f : Fn) (a : XL) : XE := fun env st => (a env st).bind fun xs s => if xs.length = n then f xs s else .no
/-- the slots at a call -/
def env0 (m : Nat) (ps : List PV) : Ev := ps.map some ++ List.replicate (m - ps.length) none
def ret (r : R Fl) : R PV := r.bind fun fl s => match fl with
  | .rt v => .ok v s
  | .nx _ => .ok .non s
  | _ => .no
def runF (m : Nat) (g : XS) : Fn := fun ps st => ret (g (env0 m ps) st)
section
variable {X : Cx} {E : XK} {a b e : Expr} {es : List Expr} {p pos : Pos} {fa fb : XE} {x : Str}
theorem s_call {n : Nat} {f : Fn} {t : TA} {fl : XL} (s : SA X.K X.mg E t fl) : SE X.K X.mg E (tCall (spF X.K X.mg n f) [] E t) (eCall n f fl) := fun Z Fz ρ env st σ H Q rl hh o => by
  refine s Z Fz ρ env st σ H _ rl hh (o.seq.mono fun xs s1 F1 r1 H1 _ ex1 rl1 o1 xs' rx => ?_)
  split at o1
  · rename_i hn
    rw [List.append_nil]
    exact ⟨by rw [← rx.len]; exact hn, Z, F1, r1, s1, xs, rl1, rx, o1⟩
  · exact o1.elim
theorem je_call {k j n : Nat} {f : Fn} {fl : XL} (c : Cl X.prog X.w X.K X.mg X.base k x n f) (hr : Room j X.A) (hx : Passes (L2.CX X.prog X.w) X E) (ha : JA X E (e :: es) fl) (hk : k ≤ j := by decide) (hg : Gl X x := by rfl) (hdb : (x == ("__debug__" : Str)) = false := by decide)
    (he : starEach (e :: es) X.env = (false, eval e X.env) :: starEach es X.env := by rfl) (hpl : (backTo pos (starEach es X.env)).any (·.1) = false := by rfl) : JE X E (.Call (.Name x p) (e :: es) [] pos) (eCall n f fl) := by
  obtain ⟨a, fd, ps, hm, hkp, hb, F⟩ := c.ex
  obtain ⟨t, pt, st⟩ := ha
  exact ⟨_, pe_call F (hr.mono hk) hg hm hkp hb .nil hx pt hdb he hpl, s_call st⟩
theorem je_call0 {k j : Nat} {f : Fn} (c : Cl X.prog X.w X.K X.mg X.base k x 0 f) (hr : Room j X.A) (hx : Passes (L2.CX X.prog X.w) X E) (hk : k ≤ j := by decide) (hg : Gl X x := by rfl) (hdb : (x == ("__debug__" : Str)) = false := by decide) :
    JE X E (.Call (.Name x p) [] [] pos) (eCall 0 f aNil) := by
  obtain ⟨a, fd, ps, hm, hkp, hb, F⟩ := c.ex
  exact ⟨_, pe_call0 F (hr.mono hk) hg hm hkp hb .nil hx hdb, s_call fun Z Fz ρ env st σ H Q rl hh o => o.here rl _ RepL.nil⟩
end
theorem renv_start {K : PySem.W.Frag} {mg : Str → Option Value} {Fz : Hp} {ρ : List Addr} {ps : List PV} {vs : List V} (N : List Str) (h : RepL K mg Fz ρ ps vs) : REnv K mg Fz ρ (env0 N.length ps) (L2.start N vs) := by
  unfold env0 L2.start
  refine ⟨by simp [h.len], fun i p e => ?_⟩
  by_cases hi : i < ps.length
  · rw [List.getElem?_append_left (by simpa using hi), List.getElem?_map] at e
    rw [List.getElem?_append_left (by simpa [← h.len] using hi), List.getElem?_map]
    cases q : ps[i]? with
    | none => rw [q] at e; cases e
    | some z =>
      rw [q] at e
      cases e
      obtain ⟨v, e1, e2⟩ := h.get q
      exact ⟨v, by rw [e1]; rfl, e2⟩
  · rw [List.getElem?_append_right (by simpa using hi)] at e
    have := List.mem_of_getElem? e
    simp [List.mem_replicate] at this
/-- a def keeps the promise that its body's function tells -/
theorem fn_body {P : Program} {w : World} {K : PySem.W.Frag} {mg : Str → Option Value} {base : Heap} {x qual : Str} {params : Arguments} {body : List Stmt} {scope : Scope} {f : Addr} {fd : FuncData} {N ps : List Str} {k : Nat} {g : XS}
    (F : FunD K x qual params body scope [] [] f fd) (S : FnScope N ps scope)
    (hJ : ∀ (cdv : Value) (A : Around) (outer : List Env) (s : Shared) (H : Hp) (E : XK), Room k (A.deeper (envOfC qual scope s.heap.objs.size f cdv)) →
      JSs (cxOf (L2.CX P w) P w K mg base N qual scope f cdv A outer s H E) E body g) : FnOk P w K mg base (L2.CX P w) (k + 1) f fd ps (spF K mg ps.length (runF N.length g)) := by
  refine F.ok S (fun vs H Q E h => h.1) (fun cdv A outer s H vs Q E hr h => ?_)
  obtain ⟨t, pt, st⟩ := hJ cdv A outer s H E hr
  obtain ⟨hl, Z, Fz, ρ, sto, pvs, rl, rp, o⟩ := h
  refine ⟨t, pt, st Z Fz ρ (env0 N.length pvs) sto _ H _ rl (renv_start N rp) ?_⟩
  have o2 : Out K mg Z E Fz ρ (ret (g (env0 N.length pvs) sto)) (fun v _ Fz' ρ' H' => ∀ v', Rep K mg Fz' ρ' v v' → Q v' H') := o
  unfold ret at o2
  refine o2.seq.mono fun fl s1 F1 r1 H1 _ ex1 rl1 o1 => ?_
  cases fl with
  | rt v => exact o1.here rl1
  | nx e => exact fun σ _ => o1.here rl1 _ (by rw [Rep])
  | bk e => exact o1.elim
  | ct e => exact o1.elim
theorem cl_of {P : Program} {w : World} {K : PySem.W.Frag} {mg : Str → Option Value} {base : Heap} {k n : Nat} {x qual : Str} {params : Arguments} {body : List Stmt} {scope : Scope} {f : Addr} {fd : FuncData} {ps : List Str} {fn : Fn}
    (F : FunD K x qual params body scope [] [] f fd) (hm : mg x = some (.ref f)) (hb : Binds K fd ps []) (ok : FnOk P w K mg base (L2.CX P w) k f fd ps (spF K mg n fn)) : Cl P w K mg base k x n fn :=
  ⟨f, fd, ps, hm, F.kp, hb, ok⟩

/-! ### nothing is raised -/
def noX {α : Type} (r : R α) : R α := match r with
  | .ok a s => .ok a s
  | _ => .no
theorem out_noX {α : Type} {K : PySem.W.Frag} {mg : Str → Option Value} {Z : Hp} {E E' : XK} {Fz : Hp} {ρ : List Addr} {r : R α} {P : α → Store → Hp → List Addr → Hp → Prop} (h : Out K mg Z E Fz ρ (noX r) P) : Out K mg Z E' Fz ρ r P := by
  cases r with
  | ok a s => exact h
  | ex c s => exact h.elim
  | no => exact h
theorem out_E0 {α : Type} {K : PySem.W.Frag} {mg : Str → Option Value} {Z : Hp} {E' : XK} {Fz : Hp} {ρ : List Addr} {r : R α} {P : α → Store → Hp → List Addr → Hp → Prop} (h : Out K mg Z E' Fz ρ (noX r) P) : ∃ a s, r = .ok a s := by
  cases r with
  | ok a s => exact ⟨a, s, rfl⟩
  | ex c s => exact h.elim
  | no => exact h.elim
theorem noX_bind {α β : Type} (r : R α) (k : α → Store → R β) : noX (r.bind k) = (noX r).bind fun a s => noX (k a s) := by
  cases r <;> rfl

/-! ### what is walked -/
/-- the items of a list or tuple that stays as it is -/
def asV (st : Store) : PV → Option (List PV)
  | .lst xs => some xs
  | .tup xs => some xs
  | .scr ns => some (ns.map PV.int)
  | .own k => (match st[k]? with
    | some (.frz xs) => some xs
    | _ => none)
  | _ => none
def ItV (K : PySem.W.Frag) (mg : Str → Option Value) (J : It) (Z F0 : Hp) (r0 : List Addr) (xs : List PV) : Prop := ∀ Z' Fz ρ st H, Ext F0 r0 Fz ρ → Rel K mg Z' Fz ρ st H →
  (∀ (i : Nat) (x : PV), xs[i]? = some x → J.go i H ∧ ∀ v H', J.yld i H v H' → ∃ Fz', Ext Fz ρ Fz' ρ ∧ Rel K mg Z' Fz' ρ st H' ∧ Rep K mg Fz' ρ x v) ∧ J.stop xs.length H
def SI (K : PySem.W.Frag) (mg : Str → Option Value) (E : XK) (wi : TI) (g : XL) : Prop := ∀ Z Fz ρ env st σ H R, Rel K mg Z Fz ρ st H → REnv K mg Fz ρ env σ →
  Out K mg Z E Fz ρ (g env st) (fun xs _ Fz' ρ' H' => ∀ J, xs.length ≤ sizeLine → ItV K mg J Z Fz' ρ' xs → R J H') → wi σ H R
def JI (X : Cx) (E : XK) (tg iter : Expr) (g : XL) : Prop := ∃ wi, PI X tg iter wi ∧ SI X.K X.mg E wi g
def iVal (f : XE) : XL := fun env st => (f env st).bind fun p s => match asV s p with
  | some xs => .ok xs s
  | none => .no
section
variable {K : PySem.W.Frag} {mg : Str → Option Value} {Z Fz : Hp} {ρ : List Addr}
theorem itv_list {a : Addr} {vs : List V} {xs : List PV} (s : SqL K Fz a vs) (r : RepL K mg Fz ρ xs vs) : ItV K mg (Itl K a) Z Fz ρ xs := fun Z' F1 r1 st H ex rl => by
  have s1 : SqL K H a vs := sqL_mono rl.fz (sqL_mono ex.fz s)
  refine ⟨fun i x e => ?_, ⟨vs, s1, by rw [← r.len]; exact Nat.le_refl _⟩⟩
  obtain ⟨v, e1, rv⟩ := r.get e
  refine ⟨⟨vs, v, s1, e1⟩, fun v' H' y => ?_⟩
  obtain ⟨rfl, y⟩ := y
  have := y vs s1
  rw [e1] at this; cases this
  exact ⟨F1, Ext.refl, rl, rv.mono ex⟩
theorem itv_tup {a : Addr} {vs : List V} {xs : List PV} (s : SqT K Fz a vs) (r : RepL K mg Fz ρ xs vs) : ItV K mg (Itt K a) Z Fz ρ xs := fun Z' F1 r1 st H ex rl => by
  have s1 : SqT K H a vs := sqT_mono rl.fz (sqT_mono ex.fz s)
  refine ⟨fun i x e => ?_, ⟨vs, s1, by rw [← r.len]; exact Nat.le_refl _⟩⟩
  obtain ⟨v, e1, rv⟩ := r.get e
  refine ⟨⟨vs, v, s1, e1⟩, fun v' H' y => ?_⟩
  obtain ⟨rfl, y⟩ := y
  have := y vs s1
  rw [e1] at this; cases this
  exact ⟨F1, Ext.refl, rl, rv.mono ex⟩
/-- where such a list stands -/
theorem asV_ok {st : Store} {H : Hp} {p : PV} {v : V} {xs : List PV} (rl : Rel K mg Z Fz ρ st H) (h : Rep K mg Fz ρ p v) (e : asV st p = some xs) : ∃ a vs, v = .ref a ∧ (SqL K Fz a vs ∨ SqT K Fz a vs) ∧ xs.length ≤ sizeLine ∧ RepL K mg Fz ρ xs vs := by
  cases p with
  | lst ys =>
    cases e
    rw [Rep] at h
    obtain ⟨a, vs, h1, h2, h3, h4⟩ := h
    exact ⟨a, vs, h1, .inl (SqL.of h2), h3, h4⟩
  | tup ys =>
    cases e
    rw [Rep] at h
    obtain ⟨a, vs, h1, h2, h3, h4⟩ := h
    exact ⟨a, vs, h1, .inr h2, h3, h4⟩
  | scr ns =>
    cases e
    rw [Rep] at h
    obtain ⟨a, h1, h2, h3⟩ := h
    exact ⟨a, _, h1, .inl h2, by simpa using h3, RepL.ints ns⟩
  | own k =>
    rw [Rep] at h
    obtain ⟨a, h1, h2⟩ := h
    cases ek : st[k]? with
    | none => simp [asV, ek] at e
    | some c =>
      cases c with
      | frz ys =>
        have : ys = xs := by simpa [asV, ek] using e
        subst this
        obtain ⟨vs, q1, q2, q3⟩ := rl.cell k a _ h1 ek
        exact ⟨a, vs, h2, .inl (SqL.of q1), q2, q3⟩
      | _ => simp [asV, ek] at e
  | _ => cases e
end
section
variable {X : Cx} {E : XK} {a b e l tg : Expr} {es : List Expr} {p pos : Pos} {fa fb : XE} {x : Str}
theorem PI.or {w1 w2 : TI} (h1 : PI X tg l w1) (h2 : PI X tg l w2) : PI X tg l (fun σ H R => w1 σ H R ∨ w2 σ H R) :=
  ⟨fun pins s σ H R I h => h.elim (fun h => h1.run pins s σ H R I h) fun h => h2.run pins s σ H R I h⟩
theorem ji_seq (h : JE X E l fa) : JI X E tg l (iVal fa) := by
  obtain ⟨t, pt, s⟩ := h
  refine ⟨fun σ H R => t σ H fun x H1 => (∃ a, x = .ref a ∧ (∃ xs, SqL X.K H1 a xs) ∧ R (Itl X.K a) H1) ∨ (∃ a, x = .ref a ∧ (∃ xs, SqT X.K H1 a xs) ∧ R (Itt X.K a) H1), ⟨fun pins sh σ H R I h => ?_⟩, fun Z Fz ρ env st σ H R rl hh o => ?_⟩
  · -- from the value on, as a list or as a tuple
    refine thn (pt.run pins sh σ H _ I h) fun u s1 w => ?_
    obtain ⟨y, G, J1, ry, c⟩ := w
    have fresh : ∀ d, d ∈ [s1.heap.objs.size] → FpOk X pins G d := fun d hd => by
      rw [List.mem_singleton] at hd
      rw [hd]
      exact J1.fpOk Nat.le.refl (J1.hok.fresh Nat.le.refl)
    rcases c with ⟨d, rfl, ⟨ws, hw⟩, k⟩ | ⟨d, rfl, ⟨ws, hw⟩, k⟩
    · obtain rfl : u = Value.ref d := ry
      obtain ⟨its, _, hp, _⟩ := J1.list hw
      exact wpAny_pyIter_list hp.isList ⟨_, [s1.heap.objs.size], _, Itl X.K d, G, rfl,
        J1.kept (t' := s1.toks) (fun b o z => Heap.get?_push_of_some _ z), turn_list d _, ⟨_, Heap.get?_push_size _ rfl, rfl, rfl⟩, fresh, k⟩
    · obtain rfl : u = Value.ref d := ry
      obtain ⟨its, _, hp, _⟩ := J1.tuple hw
      exact wpAny_pyIter_tuple (t := d) (items := its.toArray) hp ⟨_, [s1.heap.objs.size], _, Itt X.K d, G, rfl,
        J1.kept (t' := s1.toks) (fun b o z => Heap.get?_push_of_some _ z), turn_tuple d _, ⟨_, Heap.get?_push_size _ rfl, rfl, rfl⟩, fresh, k⟩
  · refine s Z Fz ρ env st σ H _ rl hh (o.seq.mono fun x s1 F1 r1 H1 _ ex1 rl1 o1 x' rx => ?_)
    split at o1
    · rename_i xs es
      obtain ⟨a, vs, rfl, sq, hl, rr⟩ := asV_ok rl1 rx es
      rcases sq with sq | sq
      · exact .inl ⟨a, rfl, ⟨vs, sqL_mono rl1.fz sq⟩, o1.here rl1 _ hl (itv_list sq rr)⟩
      · exact .inr ⟨a, rfl, ⟨vs, sqT_mono rl1.fz sq⟩, o1.here rl1 _ hl (itv_tup sq rr)⟩
    · exact o1.elim

def rng (lo : Int) (n : Nat) : List PV := (List.range n).map fun (k : Nat) => PV.int (lo + (k : Int))
theorem itv_rng {K : PySem.W.Frag} {mg : Str → Option Value} {Z Fz : Hp} {ρ : List Addr} (lo : Int) (n : Nat) : ItV K mg (Itr lo n) Z Fz ρ (rng lo n) := fun Z' F1 r1 st H ex rl => by
  refine ⟨fun i x e => ?_, (show n ≤ (rng lo n).length by simp [rng])⟩
  unfold rng at e
  rw [List.getElem?_map] at e
  by_cases h : i < n
  · rw [List.getElem?_range h] at e
    cases e
    refine ⟨h, fun v H' y => ?_⟩
    obtain ⟨rfl, rfl⟩ := y
    exact ⟨F1, Ext.refl, rl, by rw [Rep]⟩
  · rw [List.getElem?_eq_none (by simpa using h)] at e; cases e
def okR (i : Int) : Bool := decide (-(2 ^ 62) ≤ i) && decide (i < 2 ^ 62)
def iRange1 (f : XL) : XL := fun env st => (f env st).bind fun vs s => match vs with
  | [.int j] => if okR j = true ∧ j.toNat ≤ sizeLine then .ok (rng 0 j.toNat) s else .no
  | _ => .no
def iRange2 (f : XL) : XL := fun env st => (f env st).bind fun vs s => match vs with
  | [.int i, .int j] => if okR i = true ∧ okR j = true ∧ (j - i).toNat ≤ sizeLine then .ok (rng i (j - i).toNat) s else .no
  | _ => .no
theorem ji_range1 {f : XL} (ha : JA X E [a] f) (hm : X.mg "range" = none) (hg : Gl X "range" := by rfl) (hs : starEach [a] X.env = [(false, eval a X.env)] := by rfl) : JI X E tg (.Call (.Name "range" p) [a] [] pos) (iRange1 f) := by
  obtain ⟨t, pt, s⟩ := ha
  refine ⟨_, pi_range1 hg hm pt hs, fun Z Fz ρ env st σ H R rl hh o => ?_⟩
  refine s Z Fz ρ env st σ H _ rl hh (o.seq.mono fun xs s1 F1 r1 H1 hq ex1 rl1 o1 xs' rx => ?_)
  clear hq
  split at o1
  · rename_i j
    obtain ⟨v, rfl, rv⟩ := rep1 rx
    rw [Rep] at rv
    subst rv
    split at o1
    · rename_i c
      have c1 := c.1
      unfold okR at c1
      rw [Bool.and_eq_true, decide_eq_true_eq, decide_eq_true_eq] at c1
      exact ⟨j, rfl, c1.1, c1.2, o1.here rl1 _ (by simpa [rng] using c.2) (itv_rng 0 _)⟩
    · exact o1.elim
  · exact o1.elim
theorem rep2 {K : PySem.W.Frag} {mg : Str → Option Value} {Fz : Hp} {ρ : List Addr} {p q : PV} {vs : List V} (h : RepL K mg Fz ρ [p, q] vs) : ∃ v u, vs = [v, u] ∧ Rep K mg Fz ρ p v ∧ Rep K mg Fz ρ q u := by
  rw [RepL] at h
  obtain ⟨v, r, rfl, h1, h2⟩ := h
  obtain ⟨u, rfl, h3⟩ := rep1 h2
  exact ⟨v, u, rfl, h1, h3⟩
theorem ji_range2 {f : XL} (ha : JA X E [a, b] f) (hm : X.mg "range" = none) (hg : Gl X "range" := by rfl) (hs : starEach [a, b] X.env = [(false, eval a X.env), (false, eval b X.env)] := by rfl) (hs2 : starEach [b] X.env = [(false, eval b X.env)] := by rfl) :
    JI X E tg (.Call (.Name "range" p) [a, b] [] pos) (iRange2 f) := by
  obtain ⟨t, pt, s⟩ := ha
  refine ⟨_, pi_range2 hg hm pt hs hs2, fun Z Fz ρ env st σ H R rl hh o => ?_⟩
  refine s Z Fz ρ env st σ H _ rl hh (o.seq.mono fun xs s1 F1 r1 H1 hq ex1 rl1 o1 xs' rx => ?_)
  clear hq
  split at o1
  · rename_i i j
    obtain ⟨v, u, rfl, rv, ru⟩ := rep2 rx
    rw [Rep] at rv ru
    subst rv ru
    split at o1
    · rename_i c
      have c1 := c.1
      have c2 := c.2.1
      unfold okR at c1 c2
      rw [Bool.and_eq_true, decide_eq_true_eq, decide_eq_true_eq] at c1 c2
      exact ⟨i, j, rfl, ⟨c1.1, c1.2, c2.1, c2.2⟩, o1.here rl1 _ (by simpa [rng] using c.2.2) (itv_rng i _)⟩
    · exact o1.elim
  · exact o1.elim
/-! pairs -/
def pairs : List PV → List PV → List PV
  | x :: xs, y :: ys => .tup [x, y] :: pairs xs ys
  | _, _ => []
theorem pairs_len : ∀ (xs ys : List PV), (pairs xs ys).length = min xs.length ys.length
  | [], _ => by simp [pairs]
  | _ :: _, [] => by simp [pairs]
  | x :: xs, y :: ys => by simp [pairs, pairs_len xs ys]
theorem pairs_get : ∀ (xs ys : List PV) (i : Nat) (z : PV), (pairs xs ys)[i]? = some z → ∃ x y, xs[i]? = some x ∧ ys[i]? = some y ∧ z = .tup [x, y]
  | [], _, _, _, h => by simp [pairs] at h
  | _ :: _, [], _, _, h => by simp [pairs] at h
  | x :: xs, y :: ys, 0, z, h => ⟨x, y, rfl, rfl, by simpa [pairs] using h.symm⟩
  | x :: xs, y :: ys, i + 1, z, h => by
    obtain ⟨a, b, h1, h2, h3⟩ := pairs_get xs ys i z (by simpa [pairs] using h)
    exact ⟨a, b, by simpa using h1, by simpa using h2, h3⟩
theorem rep_pair {K : PySem.W.Frag} {mg : Str → Option Value} {Z Fz : Hp} {ρ : List Addr} {st : Store} {H : Hp} {T : Addr} {p q : PV} {x y : V} (rl : Rel K mg Z Fz ρ st H) (hT : H T = none) (hp : Rep K mg Fz ρ p x) (hq : Rep K mg Fz ρ q y) :
    ∃ Fz', Ext Fz ρ Fz' ρ ∧ Rel K mg Z Fz' ρ st (upd H T (.tup [x, y])) ∧ Rep K mg Fz' ρ (.tup [p, q]) (.ref T) := by
  obtain ⟨rl2, ex2⟩ := rl.frozen hT (.tup [x, y])
  exact ⟨_, ex2, rl2, by rw [Rep]; exact ⟨T, _, rfl, SqT.of upd_same, (by decide : 2 ≤ sizeLine), RepL.cons (hp.mono ex2) (RepL.cons (hq.mono ex2) RepL.nil)⟩⟩
theorem itv_zip {K : PySem.W.Frag} {mg : Str → Option Value} {Z Fz : Hp} {ρ : List Addr} {c d : Addr} {vs ws : List V} {xs ys : List PV} (s : SqL K Fz c vs) (r : RepL K mg Fz ρ xs vs) (s' : SqL K Fz d ws) (r' : RepL K mg Fz ρ ys ws) :
    ItV K mg (Itz K c d) Z Fz ρ (pairs xs ys) := fun Z' F1 r1 st H ex rl => by
  have s1 : SqL K H c vs := sqL_mono rl.fz (sqL_mono ex.fz s)
  have s2 : SqL K H d ws := sqL_mono rl.fz (sqL_mono ex.fz s')
  refine ⟨fun i x e => ?_, ⟨vs, ws, s1, s2, ?_⟩⟩
  · obtain ⟨p, q, e1, e2, rfl⟩ := pairs_get xs ys i x e
    obtain ⟨v, f1, rv⟩ := r.get e1
    obtain ⟨u, f2, ru⟩ := r'.get e2
    refine ⟨⟨vs, ws, v, u, s1, s2, f1, f2⟩, fun z H' y => ?_⟩
    obtain ⟨T, x0, y0, rfl, hT, rfl, k1, k2⟩ := y
    have := k1 vs s1; rw [f1] at this; cases this
    have := k2 ws s2; rw [f2] at this; cases this
    exact rep_pair rl hT (rv.mono ex) (ru.mono ex)
  · rw [pairs_len, r.len, r'.len]
    omega
theorem itv_zipT {K : PySem.W.Frag} {mg : Str → Option Value} {Z Fz : Hp} {ρ : List Addr} {c d : Addr} {vs ws : List V} {xs ys : List PV} (s : SqT K Fz c vs) (r : RepL K mg Fz ρ xs vs) (s' : SqT K Fz d ws) (r' : RepL K mg Fz ρ ys ws) :
    ItV K mg (RZ.ItzT K c d) Z Fz ρ (pairs xs ys) := fun Z' F1 r1 st H ex rl => by
  have s1 : SqT K H c vs := sqT_mono rl.fz (sqT_mono ex.fz s)
  have s2 : SqT K H d ws := sqT_mono rl.fz (sqT_mono ex.fz s')
  refine ⟨fun i x e => ?_, ⟨vs, ws, s1, s2, ?_⟩⟩
  · obtain ⟨p, q, e1, e2, rfl⟩ := pairs_get xs ys i x e
    obtain ⟨v, f1, rv⟩ := r.get e1
    obtain ⟨u, f2, ru⟩ := r'.get e2
    refine ⟨⟨vs, ws, v, u, s1, s2, f1, f2⟩, fun z H' y => ?_⟩
    obtain ⟨T, x0, y0, rfl, hT, rfl, k1, k2⟩ := y
    have := k1 vs s1; rw [f1] at this; cases this
    have := k2 ws s2; rw [f2] at this; cases this
    exact rep_pair rl hT (rv.mono ex) (ru.mono ex)
  · rw [pairs_len, r.len, r'.len]
    omega
/-- of a list that stays: where it stands -/
def asVL (st : Store) : PV → Option (List PV)
  | .tup _ => none
  | p => asV st p
theorem asVL_ok {K : PySem.W.Frag} {mg : Str → Option Value} {Z Fz : Hp} {ρ : List Addr} {st : Store} {H : Hp} {p : PV} {v : V} {xs : List PV} (rl : Rel K mg Z Fz ρ st H) (h : Rep K mg Fz ρ p v) (e : asVL st p = some xs) : ∃ a vs, v = .ref a ∧ SqL K Fz a vs ∧ xs.length ≤ sizeLine ∧ RepL K mg Fz ρ xs vs := by
  cases p with
  | lst ys =>
    cases e
    rw [Rep] at h
    obtain ⟨a, vs, h1, h2, h3, h4⟩ := h
    exact ⟨a, vs, h1, SqL.of h2, h3, h4⟩
  | scr ns =>
    cases e
    rw [Rep] at h
    obtain ⟨a, h1, h2, h3⟩ := h
    exact ⟨a, _, h1, h2, by simpa using h3, RepL.ints ns⟩
  | own k =>
    rw [Rep] at h
    obtain ⟨a, h1, h2⟩ := h
    cases ek : st[k]? with
    | none => simp [asVL, asV, ek] at e
    | some c =>
      cases c with
      | frz ys =>
        have : ys = xs := by simpa [asVL, asV, ek] using e
        subst this
        obtain ⟨vs, q1, q2, q3⟩ := rl.cell k a _ h1 ek
        exact ⟨a, vs, h2, SqL.of q1, q2, q3⟩
      | _ => simp [asVL, asV, ek] at e
  | _ => cases e
def iZipF (f : XL) : XL := fun env st => (f env st).bind fun vs s => match vs with
  | [.tup xs, .tup ys] => .ok (pairs xs ys) s
  | [p, q] => (match asVL s p, asVL s q with
    | some xs, some ys => .ok (pairs xs ys) s
    | _, _ => .no)
  | _ => .no
theorem ji_zip {f : XL} {elts : List Expr} {kk : Nat} {tpos : Pos} (ha : JA X E [a, b] f) (hm : X.mg "zip" = none) (hg : Gl X "zip" := by rfl)
    (hs : starEach [a, b] X.env = (false, eval a X.env) :: starEach [b] X.env := by rfl) (hpl : (backTo pos (starEach [b] X.env)).any (·.1) = false := by rfl) : JI X E (.Tuple elts kk tpos) (.Call (.Name "zip" p) [a, b] [] pos) (iZipF f) := by
  obtain ⟨t, pt, s⟩ := ha
  refine ⟨_, RZ.pi_zipA hg hm pt hs hpl, fun Z Fz ρ env st σ H R rl hh o => ?_⟩
  refine s Z Fz ρ env st σ H _ rl hh (o.seq.mono fun xs s1 F1 r1 H1 hq ex1 rl1 o1 xs' rx => ?_)
  clear hq
  split at o1
  · rename_i ps qs
    obtain ⟨v, u, rfl, rv, ru⟩ := rep2 rx
    rw [Rep] at rv ru
    obtain ⟨c, vs, rfl, sv, lv, rv⟩ := rv
    obtain ⟨d, ws, rfl, sw, lw, rw'⟩ := ru
    exact ⟨c, d, vs, ws, rfl, .inr ⟨sqT_mono rl1.fz sv, sqT_mono rl1.fz sw, o1.here rl1 _ (by rw [pairs_len]; omega) (itv_zipT sv rv sw rw')⟩⟩
  · obtain ⟨v, u, rfl, rv, ru⟩ := rep2 rx
    split at o1
    · rename_i ps qs e1 e2
      obtain ⟨c, vs, rfl, sv, lv, rv⟩ := asVL_ok rl1 rv e1
      obtain ⟨d, ws, rfl, sw, lw, rw'⟩ := asVL_ok rl1 ru e2
      exact ⟨c, d, vs, ws, rfl, .inl ⟨sqL_mono rl1.fz sv, sqL_mono rl1.fz sw, o1.here rl1 _ (by rw [pairs_len]; omega) (itv_zip sv rv sw rw')⟩⟩
    · exact o1.elim
  · exact o1.elim
/-- enumerate -/
def nums (xs : List PV) : List PV := pairs (rng 0 xs.length) xs
theorem rng_get {lo : Int} {n i : Nat} (h : i < n) : (rng lo n)[i]? = some (.int (lo + (i : Int))) := by
  unfold rng
  rw [List.getElem?_map, List.getElem?_range h]
  rfl
def iEnumF (f : XL) : XL := fun env st => (f env st).bind fun vs s => match vs with
  | [p] => (match asVL s p with
    | some xs => .ok (nums xs) s
    | _ => .no)
  | _ => .no
theorem itv_enum {K : PySem.W.Frag} {mg : Str → Option Value} {Z Fz : Hp} {ρ : List Addr} {c : Addr} {vs : List V} {xs : List PV} (s : SqL K Fz c vs) (r : RepL K mg Fz ρ xs vs) : ItV K mg (Ite K c) Z Fz ρ (nums xs) := fun Z' F1 r1 st H ex rl => by
  have s1 : SqL K H c vs := sqL_mono rl.fz (sqL_mono ex.fz s)
  refine ⟨fun i x e => ?_, ⟨vs, s1, ?_⟩⟩
  · obtain ⟨p, q, e1, e2, rfl⟩ := pairs_get _ _ i x e
    obtain ⟨v, f1, rv⟩ := r.get e2
    have hi : i < xs.length := (List.getElem?_eq_some_iff.mp e2).1
    rw [rng_get hi] at e1
    cases e1
    refine ⟨⟨vs, v, s1, f1⟩, fun z H' y => ?_⟩
    obtain ⟨T, x0, rfl, hT, rfl, k1⟩ := y
    have := k1 vs s1; rw [f1] at this; cases this
    exact rep_pair rl hT (by rw [Rep]; simp) (rv.mono ex)
  · unfold nums
    rw [pairs_len]
    simp [rng, r.len]
theorem ji_enum {f : XL} {elts : List Expr} {kk : Nat} {tpos : Pos} (ha : JA X E [a] f) (hm : X.mg "enumerate" = none) (hg : Gl X "enumerate" := by rfl) (hs : starEach [a] X.env = [(false, eval a X.env)] := by rfl) :
    JI X E (.Tuple elts kk tpos) (.Call (.Name "enumerate" p) [a] [] pos) (iEnumF f) := by
  obtain ⟨t, pt, s⟩ := ha
  refine ⟨_, pi_enum hg hm pt hs, fun Z Fz ρ env st σ H R rl hh o => ?_⟩
  refine s Z Fz ρ env st σ H _ rl hh (o.seq.mono fun xs s1 F1 r1 H1 hq ex1 rl1 o1 xs' rx => ?_)
  clear hq
  split at o1
  · obtain ⟨v, rfl, rv⟩ := rep1 rx
    split at o1
    · rename_i ps e1
      obtain ⟨c, vs, rfl, sv, lv, rv⟩ := asVL_ok rl1 rv e1
      exact ⟨c, vs, rfl, sqL_mono rl1.fz sv, o1.here rl1 _ (by unfold nums; rw [pairs_len]; omega) (itv_enum sv rv)⟩
    · exact o1.elim
  · exact o1.elim
/-- the signs of a text -/
def signs (z : Str) : List PV := z.cps.toList.map fun c => PV.str ⟨#[c]⟩
def iStrF (f : XE) : XL := fun env st => (f env st).bind fun v s => match v with
  | .str z => if z.cps.size ≤ sizeLine then .ok (signs z) s else .no
  | _ => .no
theorem ji_str (h : JE X E l fa) : JI X E tg l (iStrF fa) := by
  obtain ⟨t, pt, s⟩ := h
  refine ⟨_, pi_str pt, fun Z Fz ρ env st σ H R rl hh o => ?_⟩
  refine s Z Fz ρ env st σ H _ rl hh (o.seq.mono fun x s1 F1 r1 H1 hq ex1 rl1 o1 x' rx => ?_)
  clear hq
  split at o1
  · rename_i z
    split at o1
    · rename_i hz
      rw [Rep] at rx
      refine ⟨z, rx, o1.here rl1 _ (by simpa [signs] using hz) fun Z' F2 r2 st2 H2 ex rl2 => ⟨fun i x e => ?_, (show z.cps.size ≤ (signs z).length by simp [signs])⟩⟩
      unfold signs at e
      rw [List.getElem?_map] at e
      cases q : z.cps.toList[i]? with
      | none => rw [q] at e; cases e
      | some c =>
        rw [q] at e
        cases e
        have hi := (List.getElem?_eq_some_iff.mp q).1
        refine ⟨(show i < z.cps.size by simpa using hi), fun v H' y => ?_⟩
        obtain ⟨rfl, c', e1, rfl⟩ := y
        have : c' = c := by
          rw [Array.getElem?_toList] at q
          rw [q] at e1; cases e1; rfl
        subst this
        exact ⟨F2, Ext.refl, rl2, by rw [Rep]⟩
    · exact o1.elim
  · exact o1.elim
end
end Lq
end
section
set_option Elab.async false
set_option linter.all false
set_option maxRecDepth 10000
/-! Comprehensions and statements. -/
namespace Lq
open PySem PySem.Spec PyProof.Rows L2

/-! ### the reading that a function tells -/
section
variable (K : PySem.W.Frag) (mg : Str → Option Value) (E : XK)
def tOf (f : XE) : TE := fun σ H Q => ∃ Z Fz ρ env st, Rel K mg Z Fz ρ st H ∧ REnv K mg Fz ρ env σ ∧ Out K mg Z E Fz ρ (f env st) (fun v _ Fz' ρ' H' => ∀ v', Rep K mg Fz' ρ' v v' → Q v' H')
def tOfT (f : Ev → Store → R Bool) : TT := fun σ H Q => ∃ Z Fz ρ env st, Rel K mg Z Fz ρ st H ∧ REnv K mg Fz ρ env σ ∧ Out K mg Z E Fz ρ (f env st) (fun b _ _ _ H' => Q b H')
def tOfI (g : XL) : TI := fun σ H R => ∃ Z Fz ρ env st, Rel K mg Z Fz ρ st H ∧ REnv K mg Fz ρ env σ ∧ Out K mg Z E Fz ρ (g env st) (fun xs _ Fz' ρ' H' => ∀ J, xs.length ≤ sizeLine → ItV K mg J Z Fz' ρ' xs → R J H')
/-- a target that changes the slots vs alone -/
def SGv (vs : List Nat) (t : TG) (f : PV → Ev → Store → R Ev) : Prop := ∀ Z Fz ρ env st σ H p v Q, Rel K mg Z Fz ρ st H → REnv K mg Fz ρ env σ → Rep K mg Fz ρ p v →
  Out K mg Z E Fz ρ (f p env st) (fun e _ Fz' ρ' H' => ∀ σ' : L2.St, REnv K mg Fz' ρ' e σ' → (σ'.length = σ.length ∧ ∀ j : Nat, j ∉ vs → σ'[j]? = σ[j]?) → Q σ' H') → t v σ H Q
def tOfG (vs : List Nat) (f : PV → Ev → Store → R Ev) : TG := fun v σ H Q => ∃ Z Fz ρ env st p, Rel K mg Z Fz ρ st H ∧ REnv K mg Fz ρ env σ ∧ Rep K mg Fz ρ p v ∧
  Out K mg Z E Fz ρ (f p env st) (fun e _ Fz' ρ' H' => ∀ σ' : L2.St, REnv K mg Fz' ρ' e σ' → (σ'.length = σ.length ∧ ∀ j : Nat, j ∉ vs → σ'[j]? = σ[j]?) → Q σ' H')
end
def JGv (X : Cx) (E : XK) (vs : List Nat) (e : Expr) (f : PV → Ev → Store → R Ev) : Prop := ∃ t, PG X e t ∧ SGv X.K X.mg E vs t f
def JTs (X : Cx) (E : XK) (es : List Expr) (f : Ev → Store → R Bool) : Prop := ∃ t, PTs X es t ∧ STt X.K X.mg E t f
section
variable {X : Cx} {E : XK}
theorem JE.pe {e : Expr} {f : XE} (h : JE X E e f) : PE X e (tOf X.K X.mg E f) := by
  obtain ⟨t, p, s⟩ := h
  exact ⟨fun pins sh σ H Q I ⟨Z, Fz, ρ, env, st, rl, re, o⟩ => p.run pins sh σ H Q I (s Z Fz ρ env st σ H Q rl re o)⟩
theorem JTs.pe {e : List Expr} {f} (h : JTs X E e f) : PTs X e (tOfT X.K X.mg E f) := by
  obtain ⟨t, p, s⟩ := h
  exact ⟨fun pins sh σ H Q I ⟨Z, Fz, ρ, env, st, rl, re, o⟩ => p.run pins sh σ H Q I (s Z Fz ρ env st σ H Q rl re o)⟩
theorem JI.pe {tg e : Expr} {f} (h : JI X E tg e f) : PI X tg e (tOfI X.K X.mg E f) := by
  obtain ⟨t, p, s⟩ := h
  exact ⟨fun pins sh σ H Q I ⟨Z, Fz, ρ, env, st, rl, re, o⟩ => p.run pins sh σ H Q I (s Z Fz ρ env st σ H Q rl re o)⟩
theorem JGv.pe {e : Expr} {vs : List Nat} {f} (h : JGv X E vs e f) : PG X e (tOfG X.K X.mg E vs f) := by
  obtain ⟨t, p, s⟩ := h
  exact ⟨fun pins sh σ H v u Q I r ⟨Z, Fz, ρ, env, st, q, rl, re, rv, o⟩ => p.run pins sh σ H v u Q I r (s Z Fz ρ env st σ H q v Q rl re rv o)⟩
theorem jts_nil : JTs X E [] (fun _ st => .ok true st) := ⟨_, pts_nil, fun Z Fz ρ env st σ H Q rl hh o => o.here rl⟩
theorem jts_one {c : Expr} {f} (h : JT X E c f) : JTs X E [c] f := let ⟨t, p, s⟩ := h; ⟨t, pts_one p, s⟩
end

/-! ### slots -/
section
variable {K : PySem.W.Frag} {mg : Str → Option Value} {Fz : Hp} {ρ : List Addr}
theorem REnv.set {env : Ev} {σ : L2.St} {p : PV} {v : V} (h : REnv K mg Fz ρ env σ) (r : Rep K mg Fz ρ p v) (i : Nat) : REnv K mg Fz ρ (env.set i (some p)) (σ.set i (some v)) := by
  refine ⟨by simp [h.1], fun j q e => ?_⟩
  by_cases hj : i = j
  · subst hj
    have hi : i < env.length := by
      have := (List.getElem?_eq_some_iff.mp e).1
      simpa using this
    rw [List.getElem?_set_self hi] at e
    cases e
    exact ⟨v, by rw [List.getElem?_set_self (by rw [← h.1]; exact hi)], r⟩
  · rw [List.getElem?_set_ne hj] at e ⊢
    exact h.2 j q e
def wipeE (env : Ev) : List Nat → Ev
  | [] => env
  | v :: vs => (wipeE env vs).set v none
theorem wipeE_len (env : Ev) : ∀ vs : List Nat, (wipeE env vs).length = env.length
  | [] => rfl
  | v :: vs => by unfold wipeE; rw [List.length_set, wipeE_len env vs]
theorem REnv.wipe {env : Ev} {σ : L2.St} (h : REnv K mg Fz ρ env σ) : ∀ vs : List Nat, REnv K mg Fz ρ (wipeE env vs) (L2.wipe σ vs)
  | [] => h
  | v :: vs => by
    obtain ⟨h1, h2⟩ := REnv.wipe h vs
    unfold wipeE L2.wipe
    refine ⟨by simp [h1], fun j q e => ?_⟩
    by_cases hj : v = j
    · subst hj
      have hi : v < (wipeE env vs).length := by
        have := (List.getElem?_eq_some_iff.mp e).1
        simpa using this
      rw [List.getElem?_set_self hi] at e
      cases e
    · rw [List.getElem?_set_ne hj] at e ⊢
      exact h2 j q e
end
theorem wipe_get (σ : L2.St) : ∀ (vs : List Nat) (j : Nat), (L2.wipe σ vs)[j]? = if j ∈ vs then (if j < σ.length then some none else none) else σ[j]?
  | [], j => by simp [L2.wipe]
  | v :: vs, j => by
    unfold L2.wipe
    by_cases hv : v = j
    · subst hv
      by_cases hl : v < σ.length
      · rw [List.getElem?_set_self (by rw [L2.wipe_length]; exact hl)]; simp [hl]
      · rw [List.getElem?_eq_none (by simp [L2.wipe_length]; omega)]; simp [hl]
    · rw [List.getElem?_set_ne hv, wipe_get σ vs j]
      have : (j ∈ v :: vs) ↔ j ∈ vs := by simp [Ne.symm hv]
      simp only [this]
theorem wipe_eq {σ σ' : L2.St} {vs : List Nat} (hl : σ'.length = σ.length) (h : ∀ j, j ∉ vs → σ'[j]? = (L2.wipe σ vs)[j]?) : L2.wipe σ' vs = L2.wipe σ vs := by
  refine List.ext_getElem? fun j => ?_
  rw [wipe_get, wipe_get, hl]
  by_cases hj : j ∈ vs
  · simp [hj]
  · simp only [hj, if_false]
    rw [h j hj, wipe_get]; simp [hj]

/-! ### targets -/
def gNm (i : Nat) : PV → Ev → Store → R Ev := fun p env st => .ok (env.set i (some p)) st
def gTp (n : Nat) (gs : List PV → Ev → Store → R Ev) : PV → Ev → Store → R Ev := fun p env st => match p with
  | .tup xs => if xs.length = n then gs xs env st else .no
  | _ => .no
def gsNil : List PV → Ev → Store → R Ev := fun xs env st => match xs with
  | [] => .ok env st
  | _ => .no
def gsCons (g : PV → Ev → Store → R Ev) (gs : List PV → Ev → Store → R Ev) : List PV → Ev → Store → R Ev := fun xs env st => match xs with
  | x :: r => (g x env st).bind fun e s => gs r e s
  | [] => .no
def SGsv (K : PySem.W.Frag) (mg : Str → Option Value) (E : XK) (vs : List Nat) (t : TGs) (f : List PV → Ev → Store → R Ev) : Prop := ∀ Z Fz ρ env st σ H p v Q, Rel K mg Z Fz ρ st H → REnv K mg Fz ρ env σ → RepL K mg Fz ρ p v →
  Out K mg Z E Fz ρ (f p env st) (fun e _ Fz' ρ' H' => ∀ σ' : L2.St, REnv K mg Fz' ρ' e σ' → (σ'.length = σ.length ∧ ∀ j : Nat, j ∉ vs → σ'[j]? = σ[j]?) → Q σ' H') → t v σ H Q
def JGsv (X : Cx) (E : XK) (vs : List Nat) (es : List Expr) (f : List PV → Ev → Store → R Ev) : Prop := ∃ t, PGs X es t ∧ SGsv X.K X.mg E vs t f
section
variable {X : Cx} {E : XK} {e : Expr} {es : List Expr} {pos : Pos} {vs ws : List Nat}
theorem jg_name {i : Nat} {x : Str} (hN : X.N.Nodup) (hv : i ∈ vs := by decide) (hi : X.N[i]? = some x := by rfl) (hx : Loc X.env.scope x := by first | exact .inl rfl | exact .inr rfl)
    (hf : X.fn x = true ∨ X.env.scope.names.lookup x = some .local := by first | exact .inl rfl | exact .inr rfl | assumption) : JGv X E vs (.Name x pos) (gNm i) :=
  ⟨_, pg_name hN hi hx hf, fun Z Fz ρ env st σ H p v Q rl re rv o => o.here rl _ (re.set rv i) ⟨by simp, fun j hj => List.getElem?_set_ne fun z => hj (by rw [← z]; exact hv)⟩⟩
theorem jgs_nil : JGsv X E vs [] gsNil := ⟨_, pgs_nil, fun Z Fz ρ env st σ H p v Q rl re rv o => by
  cases p with
  | nil =>
    rw [RepL] at rv
    subst rv
    exact ⟨rfl, o.here rl σ re ⟨rfl, fun _ _ => rfl⟩⟩
  | cons => exact o.elim⟩
theorem jgs_cons {f fs} (h1 : JGv X E vs e f) (h2 : JGsv X E vs es fs) (hs : (assignEach (e :: es) X.env).map (·.2) = assign e X.env :: (assignEach es X.env).map (·.2) := by rfl) : JGsv X E vs (e :: es) (gsCons f fs) := by
  obtain ⟨t, p, s⟩ := h1
  obtain ⟨t', p', s'⟩ := h2
  refine ⟨_, pgs_cons p p' hs, fun Z Fz ρ env st σ H q v Q rl re rv o => ?_⟩
  cases q with
  | nil => exact o.elim
  | cons x r =>
    rw [RepL] at rv
    obtain ⟨v1, vr, rfl, r1, r2⟩ := rv
    refine ⟨v1, vr, rfl, s Z Fz ρ env st σ H x v1 _ rl re r1 ?_⟩
    have o' : Out X.K X.mg Z E Fz ρ ((f x env st).bind fun e s => fs r e s) _ := o
    refine o'.seq.mono fun e1 s1 F1 rr1 H1 _ ex1 rl1 o1 σ1 re1 k1 => ?_
    exact s' Z F1 rr1 e1 s1 σ1 H1 r vr Q rl1 re1 (r2.mono ex1) (o1.mono fun e2 s2 F2 rr2 H2 _ ex2 rl2 o2 σ2 re2 k2 => o2 σ2 re2 ⟨k2.1.trans k1.1, fun j hj => (k2.2 j hj).trans (k1.2 j hj)⟩)
theorem jg_tup {k : Nat} {fs} {n : Nat} (hc : X.calm = true) (h : JGsv X E vs es fs) (hn : (assignEach es X.env).length = n := by rfl) (hst : (assignEach es X.env).findIdx? (·.1) = none := by rfl) : JGv X E vs (.Tuple es k pos) (gTp n fs) := by
  obtain ⟨t, p, s⟩ := h
  refine ⟨_, pg_tup hc p hn hst, fun Z Fz ρ env st σ H q v Q rl re rv o => ?_⟩
  cases q with
  | tup xs =>
    rw [Rep] at rv
    obtain ⟨a, ws, rfl, r1, r2, r3⟩ := rv
    have o' : Out X.K X.mg Z E Fz ρ (if xs.length = n then fs xs env st else .no) _ := o
    split at o'
    · rename_i hl
      exact ⟨a, ws, rfl, sqT_mono rl.fz r1, by rw [← r3.len]; exact hl, s Z Fz ρ env st σ H xs ws Q rl re r3 o'⟩
    · exact o'.elim
  | _ => exact o.elim

/-! ### comprehensions -/
/-- one clause: the items left -/
def compV (ft : PV → Ev → Store → R Ev) (tt : Ev → Store → R Bool) (fe : XE) (env : Ev) : List PV → Store → R (List PV)
  | [], st => .ok [] st
  | x :: xs, st => (ft x env st).bind fun e s1 => (tt e s1).bind fun b s2 =>
    if b = true then (fe e s2).bind fun y s3 => (compV ft tt fe env xs s3).bind fun ys s4 => .ok (y :: ys) s4 else compV ft tt fe env xs s2
def fComp (g : XL) (ft : PV → Ev → Store → R Ev) (tt : Ev → Store → R Bool) (fe : XE) (vs : List Nat) : XL := fun env st => (g env st).bind fun xs s => noX (compV ft tt fe (wipeE env vs) xs s)

theorem bind_ok {α β : Type} {r : R α} {k : α → Store → R β} {b : β} {s : Store} (h : r.bind k = .ok b s) : ∃ a s1, r = .ok a s1 ∧ k a s1 = .ok b s := by
  cases r with
  | ok a s1 => exact ⟨a, s1, rfl, h⟩
  | ex c s1 => cases h
  | no => cases h
/-- a thing apart is written -/
theorem zwrite {K : PySem.W.Frag} {mg : Str → Option Value} {Z Fz : Hp} {ρ : List Addr} {st : Store} {H : Hp} {D : Addr} {o o' : HO} (rl : Rel K mg (upd Z D o) Fz ρ st H) : Rel K mg (upd Z D o') Fz ρ st (upd H D o') := by
  obtain ⟨d1, d2, d3⟩ := rl.zf D o upd_same
  refine ⟨fun a u e => ?_, fun a u e => ?_, rl.len, fun k a x e1 e2 => ?_, rl.apart, rl.nd⟩
  · by_cases h : a = D
    · subst h; rw [upd_same] at e ⊢; exact ⟨e, d2, d3⟩
    · rw [upd_ne h] at e ⊢
      exact rl.zf a u (by rw [upd_ne h]; exact e)
  · rw [upd_ne (fun z => by subst z; rw [d2] at e; cases e)]; exact rl.fz _ _ e
  · exact (rl.cell k a x e1 e2).mono Ext.refl fun u q => by rw [upd_ne (fun z => by subst z; exact d3 (List.mem_of_getElem? e1))]; exact q
/-- .. comes apart -/
theorem znew {K : PySem.W.Frag} {mg : Str → Option Value} {Z Fz : Hp} {ρ : List Addr} {st : Store} {H : Hp} {D : Addr} (rl : Rel K mg Z Fz ρ st H) (hD : H D = none) (o : HO) : Rel K mg (upd Z D o) Fz ρ st (upd H D o) := by
  obtain ⟨d2, d3⟩ := rl.free hD
  refine ⟨fun a u e => ?_, fun a u e => ?_, rl.len, fun k a x e1 e2 => ?_, rl.apart, rl.nd⟩
  · by_cases h : a = D
    · subst h; rw [upd_same] at e ⊢; exact ⟨e, d2, d3⟩
    · rw [upd_ne h] at e ⊢
      exact rl.zf a u e
  · rw [upd_ne (fun z => by subst z; rw [d2] at e; cases e)]; exact rl.fz _ _ e
  · exact (rl.cell k a x e1 e2).mono Ext.refl fun u q => by rw [upd_ne (fun z => by subst z; exact d3 (List.mem_of_getElem? e1))]; exact q
def off (H : Hp) (D : Addr) : Hp := fun b => if b = D then none else H b
theorem off_same {H : Hp} {D : Addr} : off H D D = none := by unfold off; rw [if_pos rfl]
theorem off_ne {H : Hp} {D b : Addr} (h : b ≠ D) : off H D b = H b := by unfold off; rw [if_neg h]
theorem off_upd {H : Hp} {D : Addr} {o : HO} (h : H D = some o) : upd (off H D) D o = H := by
  funext b
  by_cases hb : b = D
  · subst hb; rw [upd_same, h]
  · rw [upd_ne hb, off_ne hb]
/-- .. is taken off -/
theorem zoff {K : PySem.W.Frag} {mg : Str → Option Value} {Z Fz : Hp} {ρ : List Addr} {st : Store} {H : Hp} {D : Addr} {o : HO} (rl : Rel K mg (upd Z D o) Fz ρ st H) (hZ : Z D = none) : Rel K mg Z Fz ρ st (off H D) := by
  obtain ⟨d1, d2, d3⟩ := rl.zf D o upd_same
  refine ⟨fun a u e => ?_, fun a u e => ?_, rl.len, fun k a x e1 e2 => ?_, rl.apart, rl.nd⟩
  · have h : a ≠ D := fun z => by subst z; rw [hZ] at e; cases e
    rw [off_ne h]
    exact rl.zf a u (by rw [upd_ne h]; exact e)
  · rw [off_ne (fun z => by subst z; rw [d2] at e; cases e)]; exact rl.fz _ _ e
  · exact (rl.cell k a x e1 e2).mono Ext.refl fun u q => by rw [off_ne (fun z => by subst z; exact d3 (List.mem_of_getElem? e1))]; exact q
theorem compV_len {ft tt fe} {env : Ev} : ∀ {xs : List PV} {st : Store} {ys : List PV} {s : Store}, compV ft tt fe env xs st = .ok ys s → ys.length ≤ xs.length
  | [], _, _, _, h => by cases h; exact Nat.le_refl _
  | x :: xs, st, ys, s, h => by
    unfold compV at h
    obtain ⟨e, s1, h1, h⟩ := bind_ok h
    obtain ⟨b, s2, h2, h⟩ := bind_ok h
    split at h
    · obtain ⟨y, s3, h3, h⟩ := bind_ok h
      obtain ⟨zs, s4, h4, h⟩ := bind_ok h
      cases h
      have := compV_len h4
      simp; omega
    · have := compV_len h
      simp; omega
section
variable {K : PySem.W.Frag} {mg : Str → Option Value}
/-- the reading of a comprehension's turns -/
theorem lc_read {E : XK} {wi : TI} {g : XL} {ft : PV → Ev → Store → R Ev} {tt : Ev → Store → R Bool} {fe : XE} {vs : List Nat} (sw : SI K mg E wi g) :
    SF K mg E (tLc wi (tOfG K mg E0 vs ft) (tOfT K mg E0 tt) (tOf K mg E0 fe) vs) (fComp g ft tt fe vs) := fun Z Fz ρ env st σ H Q rl re o => by
  refine sw Z Fz ρ env st σ H _ rl re (o.seq.mono fun xs s1 F1 r1 H1 _ ex1 rl1 o1 J hlen it D hD => ?_)
  obtain ⟨ys, sf, ec⟩ := out_E0 o1
  have o2 : Out K mg Z E F1 r1 (noX (compV ft tt fe (wipeE env vs) xs s1)) _ := o1
  rw [ec] at o2
  have hZD : Z D = none := by
    cases e : Z D with
    | none => rfl
    | some u => rw [(rl1.zf D u e).1] at hD; cases hD
  refine ⟨fun i m H => m = xs.length - i ∧ i ≤ xs.length ∧ ∃ (acc : List PV) (accv : List V) (F : Hp) (r : List Addr) (s : Store) (rest : List PV),
    Ext F1 r1 F r ∧ Rel K mg (upd Z D (.lst accv)) F r s H ∧ RepL K mg F r acc accv ∧ acc.length ≤ i ∧ compV ft tt fe (wipeE env vs) (xs.drop i) s = .ok rest sf ∧ acc ++ rest = ys, ?_, ?_⟩
  · exact ⟨_, rfl, Nat.zero_le _, [], [], F1, r1, s1, ys, Ext.refl, znew rl1 hD _, RepL.nil, Nat.le_refl _, by simpa using ec, rfl⟩
  · rintro i m H2 ⟨rfl, hi, acc, accv, F, r, s, rest, ex, rl2, ra, hacc, eq, hy⟩
    obtain ⟨ig, is⟩ := it (upd Z D (.lst accv)) F r s H2 ex rl2
    by_cases hlt : i < xs.length
    · right
      have ed : xs.drop i = xs[i] :: xs.drop (i + 1) := List.drop_eq_getElem_cons hlt
      obtain ⟨go, yl⟩ := ig i xs[i] (by simp [hlt])
      refine ⟨go, fun H' => ∃ (acc : List PV) (accv : List V) (F : Hp) (r : List Addr) (s : Store) (rest : List PV),
        Ext F1 r1 F r ∧ Rel K mg (upd Z D (.lst accv)) F r s H' ∧ RepL K mg F r acc accv ∧ acc.length ≤ i + 1 ∧ compV ft tt fe (wipeE env vs) (xs.drop (i + 1)) s = .ok rest sf ∧ acc ++ rest = ys,
        fun H' h => ⟨xs.length - (i + 1), by omega, rfl, hlt, h⟩, fun x H' y => ?_⟩
      obtain ⟨F3, ex3, rl3, rx⟩ := yl x H' y
      rw [ed] at eq
      unfold compV at eq
      obtain ⟨e1, t1, q1, eq⟩ := bind_ok eq
      obtain ⟨b, t2, q2, eq⟩ := bind_ok eq
      refine ⟨_, F3, r, wipeE env vs, s, xs[i], rl3, ((re.mono ex1).mono (ex.trans ex3)).wipe vs, rx, ?_⟩
      rw [q1]
      intro F4 r4 H4 ex4 rl4 σ4 re4 k4
      have hl4 : σ4.length = σ.length := by rw [k4.1, L2.wipe_length]
      refine ⟨wipe_eq hl4 k4.2, _, F4, r4, e1, t1, rl4, re4, ?_⟩
      rw [q2]
      intro F5 r5 H5 ex5 rl5
      cases b with
      | true =>
        rw [if_pos rfl] at eq ⊢
        obtain ⟨y', t3, q3, eq⟩ := bind_ok eq
        obtain ⟨zs, t4, q4, eq⟩ := bind_ok eq
        cases eq
        refine ⟨_, F5, r5, e1, t2, rl5, re4.mono ex5, ?_⟩
        rw [q3]
        intro F6 r6 H6 ex6 rl6 v6 rv6
        refine ⟨accv, (rl6.zf D _ upd_same).1, ?_, acc ++ [y'], accv ++ [v6], F6, r6, t3, zs, ?_, zwrite rl6, ?_, ?_, q4, ?_⟩
        · have : acc.length = accv.length := ra.len
          rw [← this]; omega
        · exact ex.trans (ex3.trans (ex4.trans (ex5.trans ex6)))
        · exact (ra.mono (ex3.trans (ex4.trans (ex5.trans ex6)))).app (RepL.cons rv6 RepL.nil)
        · simp; omega
        · rw [← hy]; simp
      | false =>
        rw [if_neg Bool.false_ne_true] at eq ⊢
        exact ⟨acc, accv, F5, r5, t2, rest, ex.trans (ex3.trans (ex4.trans ex5)), rl5, ra.mono (ex3.trans (ex4.trans ex5)), by omega, eq, hy⟩
    · left
      have hi' : i = xs.length := by omega
      subst hi'
      refine ⟨is, ?_⟩
      rw [List.drop_length] at eq
      cases eq
      rw [List.append_nil] at hy
      subst hy
      obtain ⟨d1, d2, d3⟩ := rl2.zf D _ upd_same
      have z := o2 F r (off H2 D) ex (zoff rl2 hZD) D accv off_same (by omega) ra
      rw [off_upd d1] at z
      exact z
end

abbrev Blk (X : Cx) (scope : Scope) (p : Cx → Prop) : Prop := ∀ (s : Shared) (H : Hp) (C : Addr) (cl : List (Str × Addr)) (fp : List Addr), p (X.blk s H scope (compEnvC scope cl C X.env) fp)
variable {elt tg iter tg1 iter1 : Expr} {ifs ifs1 : List Expr} {scope : Scope} {own : List (Str × Nat)} {g g1 : XL} {ft ft1 : PV → Ev → Store → R Ev} {tt tt1 : Ev → Store → R Bool} {fe : XE}
theorem jf_lc (hc : X.calm = true) (hN : X.N.Nodup) (ok : BlkOk X.N X.env.scope scope own) (hi : JI X E tg iter g)
    (hg : Blk X scope fun Y => JGv Y E0 (own.map (·.2)) tg ft) (ht : Blk X scope fun Y => JTs Y E0 ifs tt) (he : Blk X scope fun Y => JE Y E0 elt fe)
    (hs : ∀ x, foldedSetIterable iter X.env x = pure x := by intro _; rfl) : JF X E (.ListComp elt [⟨tg, iter, ifs, 0⟩] scope pos) (fComp g ft tt fe (own.map (·.2))) := by
  obtain ⟨wi, pw, sw⟩ := hi
  exact ⟨_, pe_lc hc hN pw ok (fun s H C cl fp => (hg s H C cl fp).pe) (fun s H C cl fp => (ht s H C cl fp).pe) (fun s H C cl fp => (he s H C cl fp).pe) hs, lc_read sw⟩
end
end Lq
end
section
set_option Elab.async false
set_option linter.all false
set_option maxRecDepth 10000
/-! Statements. -/
namespace Lq
open PySem PySem.Spec PyProof.Rows L2

def sNil : XS := fun env st => .ok (.nx env) st
def sSeq (a b : XS) : XS := fun env st => (a env st).bind fun fl s => match fl with
  | .nx e => b e s
  | fl => .ok fl s
def sSet (i : Nat) (f : XE) : XS := fun env st => (f env st).bind fun v s => .ok (.nx (env.set i (some v))) s
def sAsg (f : XE) (g : PV → Ev → Store → R Ev) : XS := fun env st => (f env st).bind fun v s => (g v env s).bind fun e s2 => .ok (.nx e) s2
def sPar (i j : Nat) (f : XL) : XS := fun env st => (f env st).bind fun vs s => match vs with
  | [v, w] => .ok (.nx ((env.set i (some v)).set j (some w))) s
  | _ => .no
def sDrop (f : XE) : XS := fun env st => (f env st).bind fun _ s => .ok (.nx env) s
def sRet (f : XE) : XS := fun env st => (f env st).bind fun v s => .ok (.rt v) s
def sIf (c : Ev → Store → R Bool) (a b : XS) : XS := fun env st => (c env st).bind fun k s => if k = true then a env s else b env s
def sNo : XS := fun _ _ => .no
/-- the turns of a for -/
def loopV (ft : PV → Ev → Store → R Ev) (body : XS) : List PV → Ev → Store → R Fl
  | [], env, st => .ok (.nx env) st
  | x :: xs, env, st => (ft x env st).bind fun e s1 => (body e s1).bind fun fl s2 => match fl with
    | .nx e2 => loopV ft body xs e2 s2
    | .ct e2 => loopV ft body xs e2 s2
    | .bk e2 => .ok (.nx e2) s2
    | .rt v => .ok (.rt v) s2
def sFor (g : XL) (ft : PV → Ev → Store → R Ev) (body : XS) : XS := fun env st => (g env st).bind fun xs s => loopV ft body xs env s
def sWhile (c : Ev → Store → R Bool) (body : XS) : Nat → XS
  | 0 => fun _ _ => .no
  | n + 1 => fun env st => (c env st).bind fun b s => if b = true then (body env s).bind fun fl s2 => (match fl with
    | .nx e => sWhile c body n e s2
    | .ct e => sWhile c body n e s2
    | .bk e => .ok (.nx e) s2
    | .rt v => .ok (.rt v) s2) else .ok (.nx env) s
/-- over a cell's list as it stands at each turn -/
def cellL (st : Store) (k : Nat) : Option (List PV) := match st[k]? with
  | some (.lst xs) => some xs
  | some (.frz xs) => some xs
  | _ => none
def loopC (en : Bool) (k : Nat) (ft : PV → Ev → Store → R Ev) (body : XS) : Nat → Nat → Ev → Store → R Fl
  | 0, _, _, _ => .no
  | n + 1, i, env, st => match cellL st k with
    | none => .no
    | some xs => (match xs[i]? with
      | none => .ok (.nx env) st
      | some x => (ft (if en = true then .tup [.int i, x] else x) env st).bind fun e s1 => (body e s1).bind fun fl s2 => match fl with
        | .nx e2 => loopC en k ft body n (i + 1) e2 s2
        | .ct e2 => loopC en k ft body n (i + 1) e2 s2
        | .bk e2 => .ok (.nx e2) s2
        | .rt v => .ok (.rt v) s2)
def sForC (en : Bool) (f : XE) (ft : PV → Ev → Store → R Ev) (body : XS) : XS := fun env st => (f env st).bind fun v s => match v with
  | .own k => (match cellL s k with
    | some xs => loopC en k ft body (xs.length + 1) 0 env s
    | none => .no)
  | _ => .no

section
variable {X : Cx} {E : XK} {a b e tg iter : Expr} {es : List Expr} {p pos : Pos} {fa fb : XE} {st : Stmt} {sts : List Stmt} {A B : XS}
theorem jss_nil : JSs X E [] sNil := ⟨_, pss_nil, fun Z Fz ρ env st σ H D rl re o => o.here rl σ re⟩
theorem ss_seq {t u : TS} (h1 : SS X.K X.mg E t A) (h2 : SS X.K X.mg E u B) : SS X.K X.mg E (tSeq t u) (sSeq A B) := fun Z Fz ρ env st σ H D rl re o => by
  refine h1 Z Fz ρ env st σ H _ rl re (o.seq.mono fun fl s1 F1 r1 H1 _ ex1 rl1 o1 => ?_)
  cases fl with
  | nx e => exact fun σ1 re1 => h2 Z F1 r1 e s1 σ1 H1 D rl1 re1 o1
  | rt v => exact o1.here rl1
  | bk e => exact o1.here rl1
  | ct e => exact o1.here rl1
theorem jss_cons (h1 : JS X E st A) (h2 : JSs X E sts B) : JSs X E (st :: sts) (sSeq A B) := by
  obtain ⟨t, p, s⟩ := h1
  obtain ⟨t', p', s'⟩ := h2
  exact ⟨_, pss_cons p p', ss_seq s s'⟩
theorem jss_one (h : JS X E st A) : JSs X E [st] A := let ⟨t, p, s⟩ := h; ⟨t, pss_one p, s⟩
theorem jss_never : JSs X E sts sNo := ⟨_, pss_never, fun Z Fz ρ env st σ H D rl re o => o.elim⟩
theorem js_never : JS X E st sNo := ⟨_, ps_never, fun Z Fz ρ env st σ H D rl re o => o.elim⟩
theorem js_pass : JS X E (.Pass pos) sNil := ⟨_, ps_pass, fun Z Fz ρ env st σ H D rl re o => o.here rl σ re⟩
theorem ss_set {te : TE} {f : XE} {i : Nat} (s : SE X.K X.mg E te f) : SS X.K X.mg E (tAsg te (gName i)) (sSet i f) := fun Z Fz ρ env st σ H D rl re o =>
  s Z Fz ρ env st σ H _ rl re (o.seq.mono fun v s1 F1 r1 H1 _ ex1 rl1 o1 v' rv => o1.here rl1 _ ((re.mono ex1).set rv i))
theorem js_set (i : Nat) {x : Str} {pos' : Pos} (hN : X.N.Nodup) (he : JE X E e fa) (hs : swapsWith e (some (.Name x pos')) pos.line X.env = pure false := by rfl) (hi : X.N[i]? = some x := by rfl) (hx : Loc X.env.scope x := by first | exact .inl rfl | exact .inr rfl)
    (hf : X.fn x = true ∨ X.env.scope.names.lookup x = some .local := by first | exact .inl rfl | exact .inr rfl | assumption) : JS X E (.Assign [.Name x pos'] e pos) (sSet i fa) := by
  obtain ⟨t, p, s⟩ := he
  exact ⟨_, ps_set hN hi hx p hs hf, ss_set s⟩
theorem js_asg {f : PV → Ev → Store → R Ev} {vs : List Nat} (he : JE X E e fa) (hg : JGv X E vs tg f) (hs : swapsWithSole [tg] e pos.line X.env = pure false := by rfl) (hw : swappedStores [tg] e X.env = pure none := by rfl)
    (h1 : (assignEach [tg] X.env).map (·.2) = [assign tg X.env] := by rfl) : JS X E (.Assign [tg] e pos) (sAsg fa f) := by
  obtain ⟨t, p, s⟩ := he
  obtain ⟨t', p', s'⟩ := hg
  refine ⟨_, ps_asg p p' hs hw h1, fun Z Fz ρ env st σ H D rl re o => ?_⟩
  refine s Z Fz ρ env st σ H _ rl re (o.seq.mono fun v s1 F1 r1 H1 _ ex1 rl1 o1 v' rv => ?_)
  exact s' Z F1 r1 env s1 σ H1 v v' _ rl1 (re.mono ex1) rv (o1.seq.mono fun e2 s2 F2 r2 H2 _ ex2 rl2 o2 σ2 re2 _ => o2.here rl2 σ2 re2)
theorem js_par {i j : Nat} {x y : Str} {f : XL} {px py pt : Pos} {kt k2 pt2} (hc : X.calm = true) (hN : X.N.Nodup) (ha : JA X E [a, b] f) (hi : X.N[i]? = some x := by rfl) (hj : X.N[j]? = some y := by rfl) (hij : i ≠ j := by decide)
    (hx : X.env.scope.names.lookup x = some .local := by rfl) (hy : X.env.scope.names.lookup y = some .local := by rfl)
    (hw : swappedStores [.Tuple [.Name x px, .Name y py] kt pt] (.Tuple [a, b] k2 pt2) X.env = pure (some [x, y]) := by rfl)
    (hs : swapsWithSole [.Tuple [.Name x px, .Name y py] kt pt] (.Tuple [a, b] k2 pt2) pos.line X.env = pure false := by rfl) :
    JS X E (.Assign [.Tuple [.Name x px, .Name y py] kt pt] (.Tuple [a, b] k2 pt2) pos) (sPar i j f) := by
  obtain ⟨t, p, s⟩ := ha
  refine ⟨_, ps_par hc hN hi hj hij hx hy p hw hs, fun Z Fz ρ env st σ H D rl re o => ?_⟩
  refine s Z Fz ρ env st σ H _ rl re (o.seq.mono fun vs s1 F1 r1 H1 hq ex1 rl1 o1 vs' rv => ?_)
  clear hq
  split at o1
  · obtain ⟨v, u, rfl, r1, r2⟩ := rep2 rv
    exact ⟨v, u, rfl, o1.here rl1 _ (((re.mono ex1).set r1 i).set r2 j)⟩
  · exact o1.elim
theorem js_expr (he : JE X E e fa) (hs : swapsWith e none pos.line X.env = pure false := by rfl) : JS X E (.Expr e pos) (sDrop fa) := by
  obtain ⟨t, p, s⟩ := he
  exact ⟨_, ps_expr p hs, fun Z Fz ρ env st σ H D rl re o => s Z Fz ρ env st σ H _ rl re (o.seq.mono fun v s1 F1 r1 H1 _ ex1 rl1 o1 v' rv => o1.here rl1 σ (re.mono ex1))⟩
theorem js_ret (he : JE X E e fa) : JS X E (.Return (some e) pos) (sRet fa) := by
  obtain ⟨t, p, s⟩ := he
  exact ⟨_, ps_ret p, fun Z Fz ρ env st σ H D rl re o => s Z Fz ρ env st σ H _ rl re (o.seq.mono fun v s1 F1 r1 H1 _ ex1 rl1 o1 v' rv => o1.here rl1 v' rv)⟩
theorem js_if {c : Expr} {x y : List Stmt} {fc} (hc : JT X E c fc) (ha : JSs X E x A) (hb : JSs X E y B) : JS X E (.If c x y pos) (sIf fc A B) := by
  obtain ⟨t, p, s⟩ := hc
  obtain ⟨ta, pa, sa⟩ := ha
  obtain ⟨tb, pb, sb⟩ := hb
  refine ⟨_, ps_if p pa pb, fun Z Fz ρ env st σ H D rl re o => ?_⟩
  refine s Z Fz ρ env st σ H _ rl re (o.seq.mono fun k s1 F1 r1 H1 _ ex1 rl1 o1 => ?_)
  cases k with
  | true => exact sa Z F1 r1 env s1 σ H1 D rl1 (re.mono ex1) o1
  | false => exact sb Z F1 r1 env s1 σ H1 D rl1 (re.mono ex1) o1
theorem js_for {g : XL} {ft : PV → Ev → Store → R Ev} {vs : List Nat} {body : List Stmt} (hp : PassesOwn (model X.prog X.w) X.A X.env X.xe) (hc : X.calm = true) (hi : JI X E tg iter g) (hg : JGv X E vs tg ft) (hb : JSs X E body B)
    (hs : ∀ x, foldedSetIterable iter X.env x = pure x := by intro _; rfl) : JS X E (.For tg iter body [] pos) (sFor g ft B) := by
  obtain ⟨wi, pw, sw⟩ := hi
  obtain ⟨t, p, s⟩ := hg
  obtain ⟨tb, pb, sb⟩ := hb
  refine ⟨_, ps_for hp hc pw p pb hs, fun Z Fz ρ env st σ H D rl re o => ?_⟩
  refine sw Z Fz ρ env st σ H _ rl re (o.seq.mono fun xs s1 F1 r1 H1 _ ex1 rl1 o1 J hlen it => ?_)
  refine ⟨fun i m σ H => m = xs.length - i ∧ i ≤ xs.length ∧ ∃ F r e s, Ext F1 r1 F r ∧ Rel X.K X.mg Z F r s H ∧ REnv X.K X.mg F r e σ ∧ Out X.K X.mg Z E F r (loopV ft B (xs.drop i) e s) (fun fl _ F' r' H' => FlP X.K X.mg D fl F' r' H'), ?_, ?_⟩
  · exact ⟨_, rfl, Nat.zero_le _, F1, r1, env, s1, Ext.refl, rl1, re.mono ex1, by simpa using o1⟩
  · rintro i m σ2 H2 ⟨rfl, hi, F, r, e2, s2, ex2, rl2, re2, o2⟩
    obtain ⟨ig, is⟩ := it Z F r s2 H2 ex2 rl2
    by_cases hlt : i < xs.length
    · right
      have ed : xs.drop i = xs[i] :: xs.drop (i + 1) := List.drop_eq_getElem_cons hlt
      rw [ed] at o2
      unfold loopV at o2
      obtain ⟨go, yl⟩ := ig i xs[i] (by simp [hlt])
      refine ⟨go, fun σ H => ∃ F r e s, Ext F1 r1 F r ∧ Rel X.K X.mg Z F r s H ∧ REnv X.K X.mg F r e σ ∧ Out X.K X.mg Z E F r (loopV ft B (xs.drop (i + 1)) e s) (fun fl _ F' r' H' => FlP X.K X.mg D fl F' r' H'),
        fun σ' H' h => ⟨xs.length - (i + 1), by omega, rfl, hlt, h⟩, fun x H' y => ?_⟩
      obtain ⟨F3, ex3, rl3, rx⟩ := yl x H' y
      refine s Z F3 r e2 s2 σ2 H' xs[i] x _ rl3 (re2.mono ex3) rx ((o2.on ex3).seq.mono fun e4 s4 F4 r4 H4 _ ex4 rl4 o4 σ4 re4 _ => ?_)
      refine sb Z F4 r4 e4 s4 σ4 H4 _ rl4 re4 (o4.seq.mono fun fl s5 F5 r5 H5 _ ex5 rl5 o5 => ?_)
      have exA : Ext F1 r1 F5 r5 := ex2.trans (ex3.trans (ex4.trans ex5))
      cases fl with
      | nx e6 => exact fun σ6 re6 => ⟨F5, r5, e6, s5, exA, rl5, re6, o5⟩
      | ct e6 => exact fun σ6 re6 => ⟨F5, r5, e6, s5, exA, rl5, re6, o5⟩
      | bk e6 => exact fun σ6 re6 => o5.here rl5 σ6 re6
      | rt v => exact o5.here rl5
    · left
      have hi' : i = xs.length := by omega
      subst hi'
      rw [List.drop_length] at o2
      exact ⟨is, o2.here rl2 σ2 re2⟩
theorem js_while (n : Nat) {c : Expr} {fc} {body : List Stmt} (hp : PassesOwn (model X.prog X.w) X.A X.env X.xe) (hc : JT X E c fc) (hb : JSs X E body B) : JS X E (.While c body [] pos) (sWhile fc B n) := by
  obtain ⟨t, p, s⟩ := hc
  obtain ⟨tb, pb, sb⟩ := hb
  refine ⟨_, ps_while hp p pb, fun Z Fz ρ env st σ H D rl re o => ?_⟩
  refine ⟨fun m σ H => ∃ F r e s, Rel X.K X.mg Z F r s H ∧ REnv X.K X.mg F r e σ ∧ Out X.K X.mg Z E F r (sWhile fc B m e s) (fun fl _ F' r' H' => FlP X.K X.mg D fl F' r' H'), ⟨n, Fz, ρ, env, st, rl, re, o⟩, ?_⟩
  rintro m σ2 H2 ⟨F, r, e2, s2, rl2, re2, o2⟩
  cases m with
  | zero => exact o2.elim
  | succ m =>
    unfold sWhile at o2
    refine s Z F r e2 s2 σ2 H2 _ rl2 re2 (o2.seq.mono fun k s3 F3 r3 H3 _ ex3 rl3 o3 => ?_)
    cases k with
    | false => exact o3.here rl3 σ2 (re2.mono ex3)
    | true =>
      rw [if_pos rfl] at o3 ⊢
      refine ⟨fun σ H => ∃ F r e s, Rel X.K X.mg Z F r s H ∧ REnv X.K X.mg F r e σ ∧ Out X.K X.mg Z E F r (sWhile fc B m e s) (fun fl _ F' r' H' => FlP X.K X.mg D fl F' r' H'), fun σ' H' h => ⟨m, Nat.lt_succ_self _, h⟩, ?_⟩
      refine sb Z F3 r3 e2 s3 σ2 H3 _ rl3 (re2.mono ex3) (o3.seq.mono fun fl s5 F5 r5 H5 _ ex5 rl5 o5 => ?_)
      cases fl with
      | nx e6 => exact fun σ6 re6 => ⟨F5, r5, e6, s5, rl5, re6, o5⟩
      | ct e6 => exact fun σ6 re6 => ⟨F5, r5, e6, s5, rl5, re6, o5⟩
      | bk e6 => exact fun σ6 re6 => o5.here rl5 σ6 re6
      | rt v => exact o5.here rl5
/-! ### x[i] = v, a cell's list -/
def gSubL (fo fi : XE) : PV → Ev → Store → R Ev := fun p env st => (fo env st).bind fun o s1 => (fi env s1).bind fun i s2 => match o, i with
  | .own k, .int j => (match s2[k]? with
    | some (.lst xs) => (match ixN xs.length j with
      | some m => .ok env (s2.set k (.lst (xs.set m p)))
      | none => .no)
    | _ => .no)
  | _, _ => .no
theorem jg_sub {o i : Expr} {fo fi : XE} {vs : List Nat} (ho : JE X E o fo) (hi : JE X E i fi) (ha : ∀ v, assign (.Subscript o i pos) X.env v = (do
      let ov ← holding [v] (eval o X.env)
      let iv ← holding [v, ov] (eval i X.env)
      standAt pos
      holding [v, ov, iv] (setItem ov iv v)
      release [v, ov, iv] []) := by intro _; rfl) : JGv X E vs (.Subscript o i pos) (gSubL fo fi) := by
  obtain ⟨t, p, s⟩ := ho
  obtain ⟨t', p', s'⟩ := hi
  refine ⟨_, pg_sub p p' set_list ha, fun Z Fz ρ env st σ H q v Q rl re rv o => ?_⟩
  refine s Z Fz ρ env st σ H _ rl re (o.seq.mono fun x s1 F1 r1 H1 hq1 ex1 rl1 o1 x' rx => ?_)
  refine s' Z F1 r1 env s1 σ H1 _ rl1 (re.mono ex1) (o1.seq.mono fun y s2 F2 r2 H2 hq2 ex2 rl2 o2 y' ry => ?_)
  clear hq1 hq2
  split at o2
  · rename_i k j
    split at o2
    · rename_i xs ek
      split at o2
      · rename_i m em
        replace rx := rx.mono ex2
        rw [Rep] at rx
        rw [Rep] at ry
        obtain ⟨a, ea, rfl⟩ := rx
        obtain ⟨ws, h1, h2, h3⟩ := rl2.cell k a _ ea ek
        refine ⟨a, ws, j, m, rfl, ry, h1, by rw [← h3.len]; exact em, ?_⟩
        have hc : CellOk X.K X.mg F2 r2 (upd H2 a (.lst (ws.set m v))) a (.lst (xs.set m q)) := ⟨_, upd_same, by simpa using h2, h3.set (rv.mono (ex1.trans ex2)) m⟩
        exact o2 F2 r2 _ Ext.refl (rl2.write ea ek rfl rfl hc) σ ((re.mono ex1).mono ex2) ⟨rfl, fun _ _ => rfl⟩
      · exact o2.elim
    · exact o2.elim
  · exact o2.elim
end
end Lq
end
section
set_option Elab.async false
set_option linter.all false
set_option maxRecDepth 10000
/-! Instances, methods, raise. -/
namespace Lq
open PySem PySem.Spec PyProof.Rows L2

/-! ### fields -/
section
variable {K : PySem.W.Frag} {mg : Str → Option Value} {Z Fz : Hp} {ρ : List Addr}
theorem repF_get {f : Str} : ∀ {ps : List (Str × PV)} {vs : List (Str × V)}, RepF K mg Fz ρ ps vs → ∀ {p : PV}, ps.lookup f = some p → ∃ v, vs.lookup f = some v ∧ Rep K mg Fz ρ p v
  | _, _, .nil, _, h => by cases h
  | (g, x) :: ps, (g', y) :: vs, .cons ⟨h1, h2⟩ t, p, h => by
    have h1' : g = g' := h1
    subst h1'
    rw [List.lookup_cons] at h ⊢
    split at h
    · cases h; exact ⟨y, rfl, h2⟩
    · exact repF_get t h
theorem repF_none {f : Str} : ∀ {ps : List (Str × PV)} {vs : List (Str × V)}, RepF K mg Fz ρ ps vs → ps.lookup f = none → vs.lookup f = none
  | _, _, .nil, h => rfl
  | (g, x) :: ps, (g', y) :: vs, .cons ⟨h1, h2⟩ t, h => by
    have h1' : g = g' := h1
    subst h1'
    rw [List.lookup_cons] at h ⊢
    split at h
    · cases h
    · exact repF_none t h
def putP (f : Str) (v : PV) : List (Str × PV) → List (Str × PV)
  | [] => [(f, v)]
  | (g, x) :: r => if g = f then (g, v) :: r else (g, x) :: putP f v r
theorem repF_put {f : Str} {p : PV} {v : V} (r : Rep K mg Fz ρ p v) : ∀ {ps : List (Str × PV)} {vs : List (Str × V)}, RepF K mg Fz ρ ps vs → RepF K mg Fz ρ (putP f p ps) (putF f v vs)
  | _, _, .nil => .cons ⟨rfl, r⟩ .nil
  | (g, x) :: ps, (g', y) :: vs, .cons ⟨h1, h2⟩ t => by
    have h1' : g = g' := h1
    subst h1'
    unfold putP putF
    split
    · exact .cons ⟨rfl, r⟩ t
    · exact .cons ⟨rfl, h2⟩ (repF_put r t)
theorem putP_len {f : Str} {p : PV} : ∀ (ps : List (Str × PV)), (putP f p ps).length ≤ ps.length + 1
  | [] => by simp [putP]
  | (g, x) :: ps => by
    unfold putP
    split
    · simp
    · have := putP_len (f := f) (p := p) ps
      simp; omega
theorem repF_len {ps : List (Str × PV)} {vs : List (Str × V)} (h : RepF K mg Fz ρ ps vs) : ps.length = vs.length := PySem.Paired.length h
/-- a thing that is none of ours -/
theorem Rel.extra {st : Store} {H : Hp} (r : Rel K mg Z Fz ρ st H) {p : Addr} (hp : H p = none) (o : HO) : Rel K mg Z Fz ρ st (upd H p o) := by
  obtain ⟨hf, hm⟩ := r.free hp
  refine ⟨fun a u e => ?_, fun a u e => ?_, r.len, fun k a x e1 e2 => (r.cell k a x e1 e2).mono Ext.refl fun u q => ?_, r.apart, r.nd⟩
  · obtain ⟨z1, z2, z3⟩ := r.zf a u e
    exact ⟨by rw [upd_ne (fun z => by subst z; rw [hp] at z1; cases z1)]; exact z1, z2, z3⟩
  · rw [upd_ne (fun z => by subst z; rw [hf] at e; cases e)]; exact r.fz _ _ e
  · rw [upd_ne (fun z => by subst z; exact hm (List.mem_of_getElem? e1))]; exact q
end
/-- the written facts of a class -/
structure ClsF (K : PySem.W.Frag) (mg : Str → Option Value) (x : Str) (fs : List Str) : Prop where
  ex : ∃ C, mg x = some (.ref C) ∧ Cls K C ∧ ∀ f ∈ fs, NoAttr K C f
def eFld (x f : Str) (fo : XE) : XE := fun env st => (fo env st).bind fun v s => match v with
  | .own k => (match s[k]? with
    | some (.ins y fs) => if y = x then (match fs.lookup f with
      | some p => .ok p s
      | none => .no) else .no
    | _ => .no)
  | _ => .no
def sFldS (x f : Str) (fo fv : XE) : XS := fun env st => (fv env st).bind fun p s1 => (fo env s1).bind fun v s => match v with
  | .own k => (match s[k]? with
    | some (.ins y fs) => if y = x ∧ fs.length < 900 then .ok (.nx env) (s.set k (.ins y (putP f p fs))) else .no
    | _ => .no)
  | _ => .no
section
variable {X : Cx} {E : XK} {a b e o : Expr} {es : List Expr} {p pos apos cpos : Pos} {fa fb fo : XE} {fs : List Str} {x f m : Str}
theorem je_fld (c : ClsF X.K X.mg x fs) (ho : JE X E o fo) (hf : f ∈ fs := by decide) (hb : attributeBase o f X.env (eval o X.env) = eval o X.env := by rfl) : JE X E (.Attribute o f pos) (eFld x f fo) := by
  obtain ⟨t, pt, s⟩ := ho
  obtain ⟨C, hC, cl, hn⟩ := c.ex
  refine ⟨_, pe_fld pt hb, fun Z Fz ρ env st σ H Q rl re o => ?_⟩
  refine s Z Fz ρ env st σ H _ rl re (o.seq.mono fun v s1 F1 r1 H1 hq ex1 rl1 o1 v' rv => ?_)
  clear hq
  split at o1
  · rename_i k
    split at o1
    · rename_i y gs ek
      split at o1
      · rename_i hy
        subst hy
        split at o1
        · rename_i q eq
          rw [Rep] at rv
          obtain ⟨d, ed, rfl⟩ := rv
          obtain ⟨C', dx, vs, h0, h1, h2, h3⟩ := rl1.cell k d _ ed ek
          rw [hC] at h0; cases h0
          obtain ⟨w, ew, rw'⟩ := repF_get h3 eq
          exact ⟨d, C, dx, vs, w, rfl, h1, cl, hn f hf, ew, o1.here rl1 w rw'⟩
        · exact o1.elim
      · exact o1.elim
    · exact o1.elim
  · exact o1.elim
theorem js_fld {pos' : Pos} (c : ClsF X.K X.mg x fs) (ho : JE X E o fo) (hv : JE X E e fa) (hf : f ∈ fs := by decide) (hs : swapsWith e (some (.Attribute o f pos')) pos.line X.env = pure false := by rfl) : JS X E (.Assign [.Attribute o f pos'] e pos) (sFldS x f fo fa) := by
  obtain ⟨t, pt, s⟩ := ho
  obtain ⟨tv, pv, sv⟩ := hv
  obtain ⟨C, hC, cl, hn⟩ := c.ex
  refine ⟨_, ps_fld pt pv hs, fun Z Fz ρ env st σ H D rl re o => ?_⟩
  refine sv Z Fz ρ env st σ H _ rl re (o.seq.mono fun v s1 F1 r1 H1 hq ex1 rl1 o1 v' rv => ?_)
  refine s Z F1 r1 env s1 σ H1 _ rl1 (re.mono ex1) (o1.seq.mono fun w s2 F2 r2 H2 hq2 ex2 rl2 o2 w' rw' => ?_)
  clear hq hq2
  split at o2
  · rename_i k
    split at o2
    · rename_i y gs ek
      split at o2
      · rename_i hy
        obtain ⟨hy, hl⟩ := hy
        subst hy
        rw [Rep] at rw'
        obtain ⟨d, ed, rfl⟩ := rw'
        obtain ⟨C', dx, vs, h0, h1, h2, h3⟩ := rl2.cell k d _ ed ek
        rw [hC] at h0; cases h0
        refine ⟨d, C, dx, vs, rfl, h1, cl, hn f hf, by rw [← repF_len h3]; omega, ?_⟩
        have hc : CellOk X.K X.mg F2 r2 (upd H2 d (.ins C dx (putF f v' vs))) d (.ins y (putP f v gs)) := ⟨C, dx, _, hC, upd_same, by have := putP_len (f := f) (p := v) gs; omega, repF_put (rv.mono ex2) h3⟩
        exact o2 F2 r2 _ Ext.refl (rl2.write ed ek rfl rfl hc) σ ((re.mono ex1).mono ex2)
      · exact o2.elim
    · exact o2.elim
  · exact o2.elim
/-! ### methods of an own class, new instances -/
/-- the method m of the class x -/
structure Me (P : Program) (w : World) (K : PySem.W.Frag) (mg : Str → Option Value) (base : Heap) (k : Nat) (x m : Str) (n : Nat) (f : Fn) : Prop where
  ex : ∃ (C a : Addr) (fd : FuncData) (ps : List Str), mg x = some (.ref C) ∧ Cls K C ∧ Meth K C m a ∧ Binds K fd ps [] ∧ FnOk P w K mg base (L2.CX P w) k a fd ps (spF K mg n f)
structure Mi (P : Program) (w : World) (K : PySem.W.Frag) (mg : Str → Option Value) (base : Heap) (k : Nat) (x : Str) (n : Nat) (f : Fn) : Prop where
  ex : ∃ (C a : Addr) (fd : FuncData) (ps : List Str), mg x = some (.ref C) ∧ Mk K C a ∧ Binds K fd ps [] ∧ FnOk P w K mg base (L2.CX P w) k a fd ps (spF K mg n f)
def eMeth (x m : Str) (n : Nat) (f : Fn) (fo : XE) (fl : XL) : XE := fun env st => (fo env st).bind fun v s => match v with
  | .own k => (match s[k]? with
    | some (.ins y fs) => if y = x ∧ fs.lookup m = none then (fl env s).bind fun vs s2 => if vs.length + 1 = n then f (.own k :: vs) s2 else .no else .no
    | _ => .no)
  | _ => .no
def eMake (x : Str) (n : Nat) (f : Fn) (fl : XL) : XE := fun env st => (fl env st).bind fun vs s => if vs.length + 1 = n then (f (.own s.length :: vs) (s ++ [.ins x []])).bind fun v s2 => (match v with
  | .non => .ok (.own s.length) s2
  | _ => .no) else .no
theorem s_meth {k n : Nat} {g : Fn} {C : Addr} {to : TE} {t : TA} {fl : XL} (hC : X.mg x = some (.ref C)) (so : SE X.K X.mg E to fo) (sa : SA X.K X.mg E t fl) : SE X.K X.mg E (tMeth C m (spF X.K X.mg n g) [] E to t) (eMeth x m n g fo fl) := fun Z Fz ρ env st σ H Q rl re o => by
  refine so Z Fz ρ env st σ H _ rl re (o.seq.mono fun v s1 F1 r1 H1 hq ex1 rl1 o1 v' rv => ?_)
  clear hq
  split at o1
  · rename_i k
    split at o1
    · rename_i y gs ek
      split at o1
      · rename_i hy
        obtain ⟨hy, hl⟩ := hy
        subst hy
        have rv0 := rv
        rw [Rep] at rv
        obtain ⟨d, ed, rfl⟩ := rv
        obtain ⟨C', dx, vs, h0, h1, h2, h3⟩ := rl1.cell k d _ ed ek
        rw [hC] at h0; cases h0
        refine ⟨d, dx, vs, rfl, h1, repF_none h3 hl, ?_⟩
        refine sa Z F1 r1 env s1 σ H1 _ rl1 (re.mono ex1) (o1.seq.mono fun ws s2 F2 r2 H2 hq2 ex2 rl2 o2 ws' rw' => ?_)
        clear hq2
        split at o2
        · rename_i hn
          rw [List.append_nil]
          exact ⟨by simp [← rw'.len]; exact hn, Z, F2, r2, s2, _, rl2, RepL.cons (rv0.mono ex2) rw', o2⟩
        · exact o2.elim
      · exact o1.elim
    · exact o1.elim
  · exact o1.elim
theorem je_meth {k j n : Nat} {g : Fn} {fl : XL} (c : Me X.prog X.w X.K X.mg X.base k x m n g) (hr : Room j X.A) (hx : Passes (L2.CX X.prog X.w) X E) (ho : JE X E o fo) (ha : JA X E (e :: es) fl) (hk : k ≤ j := by decide)
    (hst : starEach (e :: es) X.env = (false, eval e X.env) :: starEach es X.env := by rfl) (hpl : (backTo pos (starEach es X.env)).any (·.1) = false := by rfl) {pl : Sem Bool}
    (ht : eval (.Call (.Attribute o m apos) (e :: es) [] pos) X.env = (do
      let ov ← eval o X.env
      standAt apos.atName
      let (f, first) ← holding [ov] (getMethod ov m pl)
      callWith pos f first (backTo pos (starEach (e :: es) X.env)) (backToKw pos (keywordEach [] X.env))) := by rfl) : JE X E (.Call (.Attribute o m apos) (e :: es) [] pos) (eMeth x m n g fo fl) := by
  obtain ⟨C, a, fd, ps, hC, cl, hm, hb, F⟩ := c.ex
  obtain ⟨t, pt, s⟩ := ho
  obtain ⟨ta, pa, sa⟩ := ha
  exact ⟨_, pe_meth (pl := pl) pt cl hm F (hr.mono hk) hb .nil hx pa hst hpl ht, s_meth (k := k) hC s sa⟩
theorem je_meth0 {k j n : Nat} {g : Fn} (c : Me X.prog X.w X.K X.mg X.base k x m n g) (hr : Room j X.A) (hx : Passes (L2.CX X.prog X.w) X E) (ho : JE X E o fo) (hk : k ≤ j := by decide) {pl : Sem Bool}
    (ht : eval (.Call (.Attribute o m apos) [] [] pos) X.env = (do
      let ov ← eval o X.env
      standAt apos.atName
      let (f, first) ← holding [ov] (getMethod ov m pl)
      callWith pos f first (backTo pos (starEach [] X.env)) (backToKw pos (keywordEach [] X.env))) := by rfl) : JE X E (.Call (.Attribute o m apos) [] [] pos) (eMeth x m n g fo aNil) := by
  obtain ⟨C, a, fd, ps, hC, cl, hm, hb, F⟩ := c.ex
  obtain ⟨t, pt, s⟩ := ho
  exact ⟨_, pe_meth0 (pl := pl) pt cl hm F (hr.mono hk) hb .nil hx ht, s_meth (k := k) hC s fun Z Fz ρ env st σ H Q rl hh o => o.here rl _ RepL.nil⟩
theorem je_make {k j n : Nat} {g : Fn} {fl : XL} (c : Mi X.prog X.w X.K X.mg X.base k x n g) (hr : Room j X.A) (hx : Passes (L2.CX X.prog X.w) X E) (ha : JA X E (e :: es) fl) (hk : k + 1 ≤ j := by decide) (hg : Gl X x := by rfl) (hdb : (x == ("__debug__" : Str)) = false := by decide)
    (he : starEach (e :: es) X.env = (false, eval e X.env) :: starEach es X.env := by rfl) (hpl : (backTo pos (starEach es X.env)).any (·.1) = false := by rfl) : JE X E (.Call (.Name x p) (e :: es) [] pos) (eMake x n g fl) := by
  obtain ⟨C, a, fd, ps, hC, M, hb, F⟩ := c.ex
  obtain ⟨t, pt, sa⟩ := ha
  refine ⟨_, pe_make M F (hr.mono hk) hg hC hb .nil hx pt hdb he hpl, fun Z Fz ρ env st σ H Q rl re o => ?_⟩
  refine sa Z Fz ρ env st σ H _ rl re (o.seq.mono fun vs s1 F1 r1 H1 hq ex1 rl1 o1 vs' rv y dx hy hdx ne => ?_)
  clear hq
  split at o1
  · rename_i hn
    rw [List.append_nil]
    have rl2 := rl1.extra hdx (.own y)
    have hy2 : (upd H1 dx (.own y)) y = none := by rw [upd_ne ne.symm]; exact hy
    have ex0 : Ext F1 r1 F1 (r1 ++ [y]) := ⟨fun _ _ h => h, List.prefix_append _ _⟩
    obtain ⟨rl3, ex3⟩ := rl2.owned hy2 (o := .ins C dx []) (c := .ins x []) rfl ⟨C, dx, [], hC, upd_same, by simp, .nil⟩
    have ry : Rep X.K X.mg F1 (r1 ++ [y]) (.own s1.length) (.ref y) := by rw [Rep]; exact ⟨y, by rw [← rl1.len]; simp, rfl⟩
    refine ⟨by simp [← rv.len]; exact hn, Z, F1, _, _, _, rl3, RepL.cons ry (rv.mono ex3), ?_⟩
    refine (o1.on ex3).seq.mono fun v s4 F4 r4 H4 hq4 ex4 rl4 o4 v' rv' => ?_
    clear hq4
    split at o4
    · rw [Rep] at rv'
      exact ⟨rv', o4.here rl4 _ (ry.mono ex4)⟩
    · exact o4.elim
  · exact o1.elim
/-! ### raise -/
structure ExcF (X : Cx) (x : Str) : Prop where
  ex : ∃ C, X.mg x = some (.ref C) ∧ PySem.W.excIn X.K C [.type "ValueError", .type "Exception", .type "BaseException", .type "object"] "ValueError.__new__" = true ∧ PySem.W.keepIn X.K (.ref C) = true ∧ Raises X (.ref C)
def sRaise (x : Str) : XS := fun _ st => .ex x st
theorem js_raise {z : Str} {j : Nat} {p2 pos2 : Pos} (hc : X.calm = true) (tk : L2.Takes X (fun cls d _ H => E cls d H)) (c : ExcF X x) (hg : Gl X x := by rfl) (hdb : (x == ("__debug__" : Str)) = false := by decide) :
    JS X E (.Raise (some (.Call (.Name x p) [.Constant (.str z) j p2] [] pos)) none pos2) (sRaise x) := by
  obtain ⟨C, gC, q, kC, r⟩ := c.ex
  refine ⟨_, ps_raise hc tk (pmk_own PySem.F.excBase_ValueError q gC kC r hg hdb), fun Z Fz ρ env st σ H D rl re o => ?_⟩
  obtain ⟨C', e1, e2⟩ := o Fz ρ H Ext.refl rl
  rw [gC] at e1; cases e1
  exact e2
end
end Lq
end
section
set_option Elab.async false
set_option linter.all false
set_option maxRecDepth 10000
/-! Methods of lists and texts; a list frozen; a for over a cell; two clauses. -/
namespace Lq
open PySem PySem.Spec PyProof.Rows L2
section
variable {X : Cx} {E : XK} {a b e o tg iter : Expr} {es : List Expr} {p pos apos cpos : Pos} {fa fb fo : XE} {fl : XL} {x f m : Str}
theorem own_list {K : PySem.W.Frag} {mg : Str → Option Value} {Z Fz : Hp} {ρ : List Addr} {st : Store} {H : Hp} {k : Nat} {v : V} {xs : List PV} (rl : Rel K mg Z Fz ρ st H) (r : Rep K mg Fz ρ (.own k) v) (e : st[k]? = some (.lst xs)) :
    ∃ d vs, v = .ref d ∧ ρ[k]? = some d ∧ H d = some (.lst vs) ∧ xs.length ≤ sizeLine ∧ RepL K mg Fz ρ xs vs := by
  rw [Rep] at r
  obtain ⟨d, ed, rfl⟩ := r
  obtain ⟨vs, h1, h2, h3⟩ := rl.cell k d _ ed e
  exact ⟨d, vs, rfl, ed, h1, h2, h3⟩
/-- a method of a cell's list with arguments: go tells the value and the new list -/
def eLm (go : List PV → List PV → Store → Option (PV × List PV)) (fo : XE) (fl : XL) : XE := fun env st => (fo env st).bind fun v s => match v with
  | .own k => (match s[k]? with
    | some (.lst _) => (fl env s).bind fun ys s2 => (match s2[k]? with
      | some (.lst xs) => (match go xs ys s2 with
        | some (z, xs') => .ok z (s2.set k (.lst xs'))
        | none => .no)
      | _ => .no)
    | _ => .no)
  | _ => .no
theorem s_lm {id : String} {go r} {to : TE} {t : TA} (hr : ∀ (Z Fz : Hp) (ρ : List Addr) (st : Store) (H : Hp) (d : Addr) (k : Nat) (vs : List V) (xs ys : List PV) (ws : List V) (z : PV) (xs' : List PV) (Q : VK), Rel X.K X.mg Z Fz ρ st H → ρ[k]? = some d → st[k]? = some (.lst xs) → H d = some (.lst vs) → RepL X.K X.mg Fz ρ xs vs → RepL X.K X.mg Fz ρ ys ws → go xs ys st = some (z, xs') →
    (∀ z' vs', Rep X.K X.mg Fz ρ z z' → RepL X.K X.mg Fz ρ xs' vs' → xs'.length ≤ sizeLine → Q z' (upd H d (.lst vs'))) → xs.length ≤ sizeLine → r (.ref d) ws H Q)
    (so : SE X.K X.mg E to fo) (sa : SA X.K X.mg E t fl) : SE X.K X.mg E (tBM X.K "list" r to t) (eLm go fo fl) := fun Z Fz ρ env st σ H Q rl re o => by
  refine so Z Fz ρ env st σ H _ rl re (o.seq.mono fun v s1 F1 r1 H1 hq ex1 rl1 o1 v' rv => ?_)
  clear hq
  split at o1
  · rename_i k
    split at o1
    · rename_i xs0 ek0
      obtain ⟨d0, vs0, e0, _, h0, _, _⟩ := own_list rl1 rv ek0
      subst e0
      refine ⟨.inl ⟨rfl, vs0, SqL.of h0⟩, sa Z F1 r1 env s1 σ H1 _ rl1 (re.mono ex1) (o1.seq.mono fun ys s2 F2 r2 H2 hq2 ex2 rl2 o2 ys' ry => ?_)⟩
      clear hq2
      split at o2
      · rename_i xs ek
        split at o2
        · rename_i z xs' eg
          obtain ⟨d, vs, e1, ed, hd, hl, rr⟩ := own_list rl2 (rv.mono ex2) ek
          cases e1
          refine hr Z F2 r2 s2 H2 d0 k vs xs ys ys' z xs' Q rl2 ed ek hd rr ry eg (fun z' vs' rz rvs hls => ?_) hl
          exact o2 F2 r2 _ Ext.refl (rl2.write (c := .lst xs') ed ek rfl rfl ⟨vs', upd_same, hls, rvs⟩) z' rz
        · exact o2.elim
      · exact o2.elim
    · exact o1.elim
  · exact o1.elim
def goApp : List PV → List PV → Store → Option (PV × List PV) := fun xs ys _ => match ys with
  | [y] => if xs.length < sizeLine then some (.non, xs ++ [y]) else none
  | _ => none
theorem je_append (ho : JE X E o fo) (ha : JA X E [e] fl) (hbase : attributeBase o "append" X.env (eval o X.env) = eval o X.env := by rfl)
    (hfew : ((backTo cpos (starEach [e] X.env)).all (fun x => !x.1) && (backToKw cpos (keywordEach [] X.env)).all (fun x => x.1.isSome)
      && decide (([e] : List Expr).length + ([] : List Keyword).length + (if ([] : List Keyword).isEmpty then 0 else 1) < 30)) = true := by rfl)
    (hline : (apos.endLine == cpos.line) = true := by rfl) (hs : starEach [e] X.env = (false, eval e X.env) :: starEach [] X.env := by rfl) (hplain : (backTo cpos (starEach [] X.env)).any (·.1) = false := by rfl) :
    JE X E (.Call (.Attribute o "append" apos) [e] [] cpos) (eLm goApp fo fl) := by
  obtain ⟨t, pt, s⟩ := ho
  obtain ⟨ta, pa, sa⟩ := ha
  refine ⟨_, pe_bm PySem.F.plainAttrs_list PySem.F.slot_list_append PySem.F.type_list_append mt_append pt pa hbase hfew hline hs hplain, s_lm (id := "list.append") (fun Z Fz ρ st H d k vs xs ys ws z xs' Q rl ed ek hd rr ry eg q hl => ?_) s sa⟩
  unfold goApp at eg
  split at eg
  · split at eg
    · rename_i hlt
      cases eg
      obtain ⟨v, rfl, rv⟩ := rep1 ry
      exact ⟨d, vs, v, rfl, rfl, hd, by rw [← rr.len]; exact hlt, q _ _ (by rw [Rep]) (rr.app (RepL.cons rv RepL.nil)) (by simp; omega)⟩
    · cases eg
  · cases eg
def goExt : List PV → List PV → Store → Option (PV × List PV) := fun xs ys st => match ys with
  | [y] => (match asM st y with
    | some zs => if xs.length + zs.length ≤ sizeLine then some (.non, xs ++ zs) else none
    | none => none)
  | _ => none
theorem je_extend (ho : JE X E o fo) (ha : JA X E [e] fl) (hbase : attributeBase o "extend" X.env (eval o X.env) = eval o X.env := by rfl)
    (hfew : ((backTo cpos (starEach [e] X.env)).all (fun x => !x.1) && (backToKw cpos (keywordEach [] X.env)).all (fun x => x.1.isSome)
      && decide (([e] : List Expr).length + ([] : List Keyword).length + (if ([] : List Keyword).isEmpty then 0 else 1) < 30)) = true := by rfl)
    (hline : (apos.endLine == cpos.line) = true := by rfl) (hs : starEach [e] X.env = (false, eval e X.env) :: starEach [] X.env := by rfl) (hplain : (backTo cpos (starEach [] X.env)).any (·.1) = false := by rfl) :
    JE X E (.Call (.Attribute o "extend" apos) [e] [] cpos) (eLm goExt fo fl) := by
  obtain ⟨t, pt, s⟩ := ho
  obtain ⟨ta, pa, sa⟩ := ha
  refine ⟨_, pe_bm PySem.F.plainAttrs_list PySem.F.slot_list_extend PySem.F.type_list_extend mt_extend pt pa hbase hfew hline hs hplain, s_lm (id := "list.extend") (fun Z Fz ρ st H d k vs xs ys ws z xs' Q rl ed ek hd rr ry eg q hl => ?_) s sa⟩
  unfold goExt at eg
  split at eg
  · split at eg
    · rename_i y zs ez
      split at eg
      · rename_i hlt
        cases eg
        obtain ⟨v, rfl, rv⟩ := rep1 ry
        obtain ⟨b, us, rfl, hb, hlb, rb⟩ := asM_ok rl rv ez
        exact ⟨d, b, vs, us, rfl, rfl, hd, hb, by rw [← rr.len, ← rb.len]; exact hlt, q _ _ (by rw [Rep]) (rr.app rb) (by simpa using hlt)⟩
      · cases eg
    · cases eg
  · cases eg
def ePop (fo : XE) : XE := fun env st => (fo env st).bind fun v s => match v with
  | .own k => (match s[k]? with
    | some (.lst xs) => (match xs[xs.length - 1]? with
      | some y => .ok y (s.set k (.lst xs.dropLast))
      | none => .no)
    | _ => .no)
  | _ => .no
theorem RepL.dropLast {K : PySem.W.Frag} {mg : Str → Option Value} {Fz : Hp} {ρ : List Addr} {ps : List PV} {vs : List V} (h : RepL K mg Fz ρ ps vs) : RepL K mg Fz ρ ps.dropLast vs.dropLast := by
  rw [List.dropLast_eq_take, List.dropLast_eq_take, h.len]
  exact h.take _
theorem je_pop (ho : JE X E o fo) (hbase : attributeBase o "pop" X.env (eval o X.env) = eval o X.env := by rfl) (hline : (apos.endLine == cpos.line) = true := by rfl) : JE X E (.Call (.Attribute o "pop" apos) [] [] cpos) (ePop fo) := by
  obtain ⟨t, pt, s⟩ := ho
  refine ⟨_, pe_bm0 PySem.F.plainAttrs_list PySem.F.slot_list_pop PySem.F.type_list_pop mt_pop pt hbase hline, fun Z Fz ρ env st σ H Q rl re o => ?_⟩
  refine s Z Fz ρ env st σ H _ rl re (o.seq.mono fun v s1 F1 r1 H1 hq ex1 rl1 o1 v' rv => ?_)
  clear hq
  split at o1
  · rename_i k
    split at o1
    · rename_i xs ek
      split at o1
      · rename_i y ey
        obtain ⟨d, vs, rfl, ed, hd, hl, rr⟩ := own_list rl1 rv ek
        obtain ⟨w, ew, rw'⟩ := rr.get ey
        refine ⟨.inl ⟨rfl, vs, SqL.of hd⟩, d, vs, w, rfl, rfl, hd, by rw [← rr.len]; exact ew, ?_⟩
        exact o1 F1 r1 _ Ext.refl (rl1.write (c := .lst xs.dropLast) ed ek rfl rfl ⟨_, upd_same, by simp; omega, rr.dropLast⟩) w rw'
      · exact o1.elim
    · exact o1.elim
  · exact o1.elim
/-! ### a list frozen: its value from then on -/
def eFrz (fo : XE) : XE := fun env st => (fo env st).bind fun v s => match v with
  | .own k => (match s[k]? with
    | some (.lst xs) => .ok (.lst xs) (s.set k (.frz xs))
    | some (.frz xs) => .ok (.lst xs) s
    | _ => .no)
  | .lst xs => .ok (.lst xs) s
  | _ => .no
theorem je_frz (ho : JE X E o fo) : JE X E o (eFrz fo) := by
  obtain ⟨t, pt, s⟩ := ho
  refine ⟨t, pt, fun Z Fz ρ env st σ H Q rl re o => ?_⟩
  refine s Z Fz ρ env st σ H _ rl re (o.seq.mono fun v s1 F1 r1 H1 hq ex1 rl1 o1 v' rv => ?_)
  clear hq
  split at o1
  · rename_i k
    split at o1
    · rename_i xs ek
      rw [Rep] at rv
      obtain ⟨d, ed, rfl⟩ := rv
      obtain ⟨vs, hd, rr, hl, rl2, ex2⟩ := rl1.freeze ed ek
      exact o1 _ _ _ ex2 rl2 _ (by rw [Rep]; exact ⟨d, vs, rfl, upd_same, hl, rr.mono ex2⟩)
    · rename_i xs ek
      rw [Rep] at rv
      obtain ⟨d, ed, rfl⟩ := rv
      obtain ⟨vs, q1, q2, q3⟩ := rl1.cell k d _ ed ek
      exact o1.here rl1 _ (by rw [Rep]; exact ⟨d, vs, rfl, q1, q2, q3⟩)
    · exact o1.elim
  · exact o1.here rl1 _ rv
  · exact o1.elim
/-! ### methods of texts -/
def asStrs : List PV → Option (List Str)
  | [] => some []
  | .str z :: r => (asStrs r).map (z :: ·)
  | _ :: _ => none
theorem asStrs_eq : ∀ {xs : List PV} {ns : List Str}, asStrs xs = some ns → xs = ns.map PV.str
  | [], ns, h => by cases h; rfl
  | x :: r, ns, h => by
    cases x <;> first | (simp [asStrs] at h; done) | skip
    rename_i i
    cases e : asStrs r with
    | none => simp [asStrs, e] at h
    | some ms =>
      have : ns = i :: ms := by simp [asStrs, e] at h; exact h.symm
      subst this
      rw [asStrs_eq e]; rfl
theorem of_strs {K : PySem.W.Frag} {mg : Str → Option Value} {Fz : Hp} {ρ : List Addr} : ∀ {ns : List Str} {vs : List V}, RepL K mg Fz ρ (ns.map PV.str) vs → vs = ns.map V.str
  | [], _, h => by rw [List.map_nil, RepL] at h; exact h
  | n :: ns, _, h => by
    rw [List.map_cons, RepL] at h
    obtain ⟨v, r, rfl, h1, h⟩ := h
    rw [Rep] at h1
    rw [h1, of_strs h]; rfl
theorem to_strs {K : PySem.W.Frag} {mg : Str → Option Value} {Fz : Hp} {ρ : List Addr} : ∀ (ns : List Str), RepL K mg Fz ρ (ns.map PV.str) (ns.map V.str)
  | [] => RepL.nil
  | n :: ns => RepL.cons (by rw [Rep]) (to_strs ns)
/-- t.m(y): go tells the value -/
def eSm (go : Str → PV → Store → Option PV) (fo fe : XE) : XE := fun env st => (fo env st).bind fun v s => match v with
  | .str z => (fe env s).bind fun y s2 => (match go z y s2 with
    | some w => .ok w s2
    | none => .no)
  | _ => .no
theorem s_sm {go : Str → PV → Store → Option PV} {r : V → List V → Hp → VK → Prop} {to te : TE} (hr : ∀ Z Fz ρ st H z y y' w Q, Rel X.K X.mg Z Fz ρ st H → Rep X.K X.mg Fz ρ y y' → go z y st = some w →
    (∀ Fz' ρ' H' v', Ext Fz ρ Fz' ρ' → Rel X.K X.mg Z Fz' ρ' st H' → Rep X.K X.mg Fz' ρ' w v' → Q v' H') → r (.str z) [y'] H Q)
    (so : SE X.K X.mg E to fo) (se : SE X.K X.mg E te fa) : SE X.K X.mg E (tM1 r to te) (eSm go fo fa) := fun Z Fz ρ env st σ H Q rl re o => by
  refine so Z Fz ρ env st σ H _ rl re (o.seq.mono fun v s1 F1 r1 H1 hq ex1 rl1 o1 v' rv => ?_)
  clear hq
  split at o1
  · rw [Rep] at rv
    refine ⟨⟨_, rv⟩, se Z F1 r1 env s1 σ H1 _ rl1 (re.mono ex1) (o1.seq.mono fun y s2 F2 r2 H2 hq2 ex2 rl2 o2 y' ry => ?_)⟩
    clear hq2
    subst rv
    split at o2
    · rename_i w ew
      exact hr Z F2 r2 s2 H2 _ y y' w Q rl2 ry ew fun F3 r3 H3 v3 ex3 rl3 r3' => o2 F3 r3 H3 ex3 rl3 v3 r3'
    · exact o2.elim
  · exact o1.elim
def smJoin : Str → PV → Store → Option PV := fun z y st => match asL st y with
  | some xs => (match asStrs xs with
    | some ys => if (ys.map (·.length)).sum + ys.length * z.length ≤ 16777216 then some (.str (Txt.join z ys)) else none
    | none => none)
  | none => none
theorem je_join (ho : JE X E o fo) (he : JE X E e fa) (hs : starEach [e] X.env = [(false, eval e X.env)] := by rfl) (hbase : attributeBase o "join" X.env (eval o X.env) = eval o X.env := by rfl) (hline : (apos.endLine == pos.line) = true := by rfl) :
    JE X E (.Call (.Attribute o "join" apos) [e] [] pos) (eSm smJoin fo fa) := by
  obtain ⟨t, pt, s⟩ := ho
  obtain ⟨te, pe, se⟩ := he
  refine ⟨_, pe_join pt pe hs hbase hline, s_sm (fun Z Fz ρ st H z y y' w Q rl ry ew q => ?_) s se⟩
  unfold smJoin at ew
  split at ew
  · rename_i xs ex
    split at ew
    · rename_i ys ey
      split at ew
      · rename_i hl
        cases ew
        obtain ⟨d, vs, rfl, sq, _, rr⟩ := asL_ok rl ry ex
        rw [asStrs_eq ey] at rr
        rw [of_strs rr] at sq
        exact ⟨z, d, ys, rfl, rfl, .inl sq, hl, q _ _ _ _ Ext.refl rl (by rw [Rep])⟩
      · cases ew
    · cases ew
  · cases ew
def smSplit : Str → PV → Store → Option PV := fun z y _ => match y with
  | .str b => if (b.length == 0) = false ∧ z.length + 2 ≤ sizeLine ∧ (Txt.split z b).length ≤ sizeLine then some (.lst ((Txt.split z b).map PV.str)) else none
  | _ => none
theorem je_split (ho : JE X E o fo) (he : JE X E e fa) (hs : starEach [e] X.env = [(false, eval e X.env)] := by rfl) (hbase : attributeBase o "split" X.env (eval o X.env) = eval o X.env := by rfl) (hline : (apos.endLine == pos.line) = true := by rfl) :
    JE X E (.Call (.Attribute o "split" apos) [e] [] pos) (eSm smSplit fo fa) := by
  obtain ⟨t, pt, s⟩ := ho
  obtain ⟨te, pe, se⟩ := he
  refine ⟨_, pe_split pt pe hs hbase hline, s_sm (fun Z Fz ρ st H z y y' w Q rl ry ew q => ?_) s se⟩
  unfold smSplit at ew
  split at ew
  · split at ew
    · rename_i c
      cases ew
      rw [Rep] at ry
      refine ⟨z, _, rfl, by rw [ry], c.1, c.2.1, fun p hp => ?_⟩
      obtain ⟨rl2, ex2⟩ := rl.frozen hp (.lst ((Txt.split z _).map V.str))
      exact q _ _ _ _ ex2 rl2 (by rw [Rep]; exact ⟨p, _, rfl, upd_same, by simpa using c.2.2, to_strs _⟩)
    · cases ew
  · cases ew
def smPart : Str → PV → Store → Option PV := fun z y _ => match y with
  | .str b => if (b.length == 0) = false ∧ z.length ≤ sizeLine then some (.tup [.str (Txt.partition z b).1, .str (Txt.partition z b).2.1, .str (Txt.partition z b).2.2]) else none
  | _ => none
theorem je_partition (ho : JE X E o fo) (he : JE X E e fa) (hs : starEach [e] X.env = [(false, eval e X.env)] := by rfl) (hbase : attributeBase o "partition" X.env (eval o X.env) = eval o X.env := by rfl) (hline : (apos.endLine == pos.line) = true := by rfl) :
    JE X E (.Call (.Attribute o "partition" apos) [e] [] pos) (eSm smPart fo fa) := by
  obtain ⟨t, pt, s⟩ := ho
  obtain ⟨te, pe, se⟩ := he
  refine ⟨_, pe_partition pt pe hs hbase hline, s_sm (fun Z Fz ρ st H z y y' w Q rl ry ew q => ?_) s se⟩
  unfold smPart at ew
  split at ew
  · split at ew
    · rename_i c
      cases ew
      rw [Rep] at ry
      refine ⟨z, _, rfl, by rw [ry], c.1, c.2, fun p hp => ?_⟩
      obtain ⟨rl2, ex2⟩ := rl.frozen hp (.tup [.str (Txt.partition z _).1, .str (Txt.partition z _).2.1, .str (Txt.partition z _).2.2])
      exact q _ _ _ _ ex2 rl2 (by rw [Rep]; exact ⟨p, _, rfl, SqT.of upd_same, (by decide : 3 ≤ sizeLine), RepL.cons (by rw [Rep]) (RepL.cons (by rw [Rep]) (RepL.cons (by rw [Rep]) RepL.nil))⟩)
    · cases ew
  · cases ew
def smEnds : Str → PV → Store → Option PV := fun z y _ => match y with
  | .str b => some (.bl (Txt.endswith z b))
  | _ => none
theorem je_endswith (ho : JE X E o fo) (he : JE X E e fa) (hs : starEach [e] X.env = [(false, eval e X.env)] := by rfl) (hbase : attributeBase o "endswith" X.env (eval o X.env) = eval o X.env := by rfl) (hline : (apos.endLine == pos.line) = true := by rfl) :
    JE X E (.Call (.Attribute o "endswith" apos) [e] [] pos) (eSm smEnds fo fa) := by
  obtain ⟨t, pt, s⟩ := ho
  obtain ⟨te, pe, se⟩ := he
  refine ⟨_, pe_m1 PySem.F.slot_str_endswith PySem.F.type_str_endswith mt_endswith pt pe hs hbase hline, s_sm (fun Z Fz ρ st H z y y' w Q rl ry ew q => ?_) s se⟩
  unfold smEnds at ew
  split at ew
  · cases ew
    rw [Rep] at ry
    exact ⟨z, _, rfl, by rw [ry], q _ _ _ _ Ext.refl rl (by rw [Rep])⟩
  · cases ew
def smLstrip : Str → PV → Store → Option PV := fun z y _ => match y with
  | .str b => if z.length ≤ sizeLine then some (.str (Txt.lstripChars z b)) else none
  | _ => none
theorem je_lstrip (ho : JE X E o fo) (he : JE X E e fa) (hs : starEach [e] X.env = [(false, eval e X.env)] := by rfl) (hbase : attributeBase o "lstrip" X.env (eval o X.env) = eval o X.env := by rfl) (hline : (apos.endLine == pos.line) = true := by rfl) :
    JE X E (.Call (.Attribute o "lstrip" apos) [e] [] pos) (eSm smLstrip fo fa) := by
  obtain ⟨t, pt, s⟩ := ho
  obtain ⟨te, pe, se⟩ := he
  refine ⟨_, pe_m1 PySem.F.slot_str_lstrip PySem.F.type_str_lstrip mt_lstripChars pt pe hs hbase hline, s_sm (fun Z Fz ρ st H z y y' w Q rl ry ew q => ?_) s se⟩
  unfold smLstrip at ew
  split at ew
  · split at ew
    · rename_i c
      cases ew
      rw [Rep] at ry
      exact ⟨z, _, rfl, by rw [ry], c, q _ _ _ _ Ext.refl rl (by rw [Rep])⟩
    · cases ew
  · cases ew
/-! ### for over a cell's list -/
def ItC (K : PySem.W.Frag) (mg : Str → Option Value) (J : It) (en : Bool) (k : Nat) (F0 : Hp) (r0 : List Addr) : Prop := ∀ Z Fz ρ st H, Ext F0 r0 Fz ρ → Rel K mg Z Fz ρ st H → ∀ xs, cellL st k = some xs →
  (∀ (i : Nat) (x : PV), xs[i]? = some x → J.go i H ∧ ∀ v H', J.yld i H v H' → ∃ Fz', Ext Fz ρ Fz' ρ ∧ Rel K mg Z Fz' ρ st H' ∧ Rep K mg Fz' ρ (if en = true then .tup [.int i, x] else x) v) ∧ ∀ i, xs.length ≤ i → J.stop i H
def JIc (X : Cx) (E : XK) (en : Bool) (tg iter : Expr) (f : XE) : Prop := ∃ wi, PI X tg iter wi ∧ ∀ Z Fz ρ env st σ H R, Rel X.K X.mg Z Fz ρ st H → REnv X.K X.mg Fz ρ env σ →
  Out X.K X.mg Z E Fz ρ (f env st) (fun v s F' r' H' => ∃ k xs, v = .own k ∧ cellL s k = some xs ∧ ∀ J, ItC X.K X.mg J en k F' r' → R J H') → wi σ H R
theorem cell_at {K : PySem.W.Frag} {mg : Str → Option Value} {Z Fz : Hp} {ρ : List Addr} {st : Store} {H : Hp} {k : Nat} {d : Addr} {xs : List PV} (rl : Rel K mg Z Fz ρ st H) (ed : ρ[k]? = some d) (e : cellL st k = some xs) : ∃ vs, SqL K H d vs ∧ RepL K mg Fz ρ xs vs := by
  obtain ⟨d', vs, h1, h2, _, h4⟩ := asM_ok (p := .own k) (xs := xs) rl (by rw [Rep]; exact ⟨d, ed, rfl⟩) (by unfold asM; unfold cellL at e; exact e)
  cases h1
  exact ⟨vs, SqL.of h2, h4⟩
theorem ji_cell (h : JE X E iter fa) : JIc X E false tg iter fa := by
  obtain ⟨t, pt, s⟩ := h
  refine ⟨_, pi_list pt, fun Z Fz ρ env st σ H R rl re o => ?_⟩
  refine s Z Fz ρ env st σ H _ rl re (o.mono fun v s1 F1 r1 H1 hq ex1 rl1 o1 v' rv => ?_)
  obtain ⟨k, xs, rfl, ek, q⟩ := o1
  rw [Rep] at rv
  obtain ⟨d, ed, rfl⟩ := rv
  obtain ⟨vs, sq, rr⟩ := cell_at rl1 ed ek
  refine ⟨d, rfl, ⟨vs, sq⟩, q _ fun Z2 F2 r2 s2 H2 ex2 rl2 ys ey => ?_⟩
  obtain ⟨ws, sq2, rr2⟩ := cell_at rl2 (prefix_get ex2.pre ed) ey
  refine ⟨fun i x ex => ?_, fun i hi => ⟨ws, sq2, by rw [← rr2.len]; exact hi⟩⟩
  obtain ⟨w, ew, rw'⟩ := rr2.get ex
  refine ⟨⟨ws, w, sq2, ew⟩, fun v H' y => ?_⟩
  obtain ⟨rfl, y⟩ := y
  have := y ws sq2
  rw [ew] at this; cases this
  exact ⟨F2, Ext.refl, rl2, rw'⟩
theorem ji_enumC {elts : List Expr} {kk : Nat} {tpos : Pos} (h : JE X E a fa) (hm : X.mg "enumerate" = none) (hg : Gl X "enumerate" := by rfl) (hs : starEach [a] X.env = [(false, eval a X.env)] := by rfl) :
    JIc X E true (.Tuple elts kk tpos) (.Call (.Name "enumerate" p) [a] [] pos) fa := by
  obtain ⟨t, pt, s⟩ := h
  refine ⟨_, pi_enum hg hm (pa_cons pt pa_nil hs) hs, fun Z Fz ρ env st σ H R rl re o => ?_⟩
  refine s Z Fz ρ env st σ H _ rl re (o.mono fun v s1 F1 r1 H1 hq ex1 rl1 o1 v' rv => ?_)
  obtain ⟨k, xs, rfl, ek, q⟩ := o1
  rw [Rep] at rv
  obtain ⟨d, ed, rfl⟩ := rv
  obtain ⟨vs, sq, rr⟩ := cell_at rl1 ed ek
  refine ⟨d, vs, rfl, sq, q _ fun Z2 F2 r2 s2 H2 ex2 rl2 ys ey => ?_⟩
  obtain ⟨ws, sq2, rr2⟩ := cell_at rl2 (prefix_get ex2.pre ed) ey
  refine ⟨fun i x ex => ?_, fun i hi => ⟨ws, sq2, by rw [← rr2.len]; exact hi⟩⟩
  obtain ⟨w, ew, rw'⟩ := rr2.get ex
  refine ⟨⟨ws, w, sq2, ew⟩, fun v H' y => ?_⟩
  obtain ⟨T, x0, rfl, hT, rfl, k1⟩ := y
  have := k1 ws sq2
  rw [ew] at this; cases this
  exact rep_pair rl2 hT (by rw [Rep]) rw'
theorem js_forC {en : Bool} {ft : PV → Ev → Store → R Ev} {vs : List Nat} {body : List Stmt} {B : XS} (hp : PassesOwn (model X.prog X.w) X.A X.env X.xe) (hc : X.calm = true) (hi : JIc X E en tg iter fa) (hg : JGv X E vs tg ft) (hb : JSs X E body B)
    (hs : ∀ x, foldedSetIterable iter X.env x = pure x := by intro _; rfl) : JS X E (.For tg iter body [] pos) (sForC en fa ft B) := by
  obtain ⟨wi, pw, sw⟩ := hi
  obtain ⟨t, p, s⟩ := hg
  obtain ⟨tb, pb, sb⟩ := hb
  refine ⟨_, ps_for hp hc pw p pb hs, fun Z Fz ρ env st σ H D rl re o => ?_⟩
  refine sw Z Fz ρ env st σ H _ rl re (o.seq.mono fun v s1 F1 r1 H1 hq ex1 rl1 o1 => ?_)
  clear hq
  split at o1
  · rename_i k
    split at o1
    · rename_i xs ek
      refine ⟨k, xs, rfl, ek, fun J it => ?_⟩
      refine ⟨fun i m σ H => ∃ F r e s, Ext F1 r1 F r ∧ Rel X.K X.mg Z F r s H ∧ REnv X.K X.mg F r e σ ∧ Out X.K X.mg Z E F r (loopC en k ft B m i e s) (fun fl _ F' r' H' => FlP X.K X.mg D fl F' r' H'),
        ⟨_, F1, r1, env, s1, Ext.refl, rl1, re.mono ex1, o1⟩, ?_⟩
      rintro i m σ2 H2 ⟨F, r, e2, s2, ex2, rl2, re2, o2⟩
      cases m with
      | zero => exact o2.elim
      | succ m =>
        unfold loopC at o2
        split at o2
        · exact o2.elim
        · rename_i ys ey
          obtain ⟨ig, is⟩ := it Z F r s2 H2 ex2 rl2 ys ey
          split at o2
          · rename_i en'
            exact .inl ⟨is i (List.getElem?_eq_none_iff.mp en'), o2.here rl2 σ2 re2⟩
          · rename_i x exi
            right
            obtain ⟨go, yl⟩ := ig i x exi
            refine ⟨go, fun σ H => ∃ F r e s, Ext F1 r1 F r ∧ Rel X.K X.mg Z F r s H ∧ REnv X.K X.mg F r e σ ∧ Out X.K X.mg Z E F r (loopC en k ft B m (i + 1) e s) (fun fl _ F' r' H' => FlP X.K X.mg D fl F' r' H'),
              fun σ' H' h => ⟨m, Nat.lt_succ_self _, h⟩, fun v H' y => ?_⟩
            obtain ⟨F3, ex3, rl3, rx⟩ := yl v H' y
            refine s Z F3 r e2 s2 σ2 H' _ v _ rl3 (re2.mono ex3) rx ((o2.on ex3).seq.mono fun e4 s4 F4 r4 H4 _ ex4 rl4 o4 σ4 re4 _ => ?_)
            refine sb Z F4 r4 e4 s4 σ4 H4 _ rl4 re4 (o4.seq.mono fun fl s5 F5 r5 H5 _ ex5 rl5 o5 => ?_)
            have exA : Ext F1 r1 F5 r5 := ex2.trans (ex3.trans (ex4.trans ex5))
            cases fl with
            | nx e6 => exact fun σ6 re6 => ⟨F5, r5, e6, s5, exA, rl5, re6, o5⟩
            | ct e6 => exact fun σ6 re6 => ⟨F5, r5, e6, s5, exA, rl5, re6, o5⟩
            | bk e6 => exact fun σ6 re6 => o5.here rl5 σ6 re6
            | rt v => exact o5.here rl5
    · exact o1.elim
  · exact o1.elim
end
end Lq
end
section
set_option Elab.async false
set_option linter.all false
set_option maxRecDepth 10000
/-! A try whose caught error is kept and asked for its class later. -/
namespace Lq
open PySem PySem.Spec PyProof.Rows L2

theorem xcO_ok {P : Program} {w : World} {H : Hp} {h : Heap} {a : Addr} {cls : Value} {oe : Obj} {vs : Array Value} (e : h.get? a = some oe) (z : Zc cls none oe) (d : oe.data = .fields vs) : ObjOk P w H h a (XcO cls a) :=
  ⟨⟨oe, vs, e, z, d⟩, ⟨oe, e⟩, fun h1 h2 ⟨o, ws, q1, q2, q3⟩ k => ⟨o, ws, k o q1, q2, q3⟩⟩
section
variable {X : Cx} {pins : List (Addr × Obj)} {σ : L2.St} {H : Hp} {s : Shared}
/-- an object that came behind the entry is tracked from now on -/
theorem adopt {u : HO} {a : Addr} {o : Obj} {vs : Array Value} (I : Inv X pins σ H s) (na : H a = none) (ho : s.heap.get? a = some o) (hd : o.data = .fields vs) (n0 : X.s_0.heap.get? a = none) (nL : a ≠ X.env.locals)
    (np : ∀ p ∈ X.pn ++ pins, p.1 ≠ a) (ok : ObjOk X.prog X.w (upd H a u) s.heap a u) : Inv X pins σ (upd H a u) s where
  ok := I.ok
  os := I.os
  bare := I.bare
  base := ⟨I.base.keep, I.base.slot, fun b ob q n hx => by
      rw [upd_ne (fun z => by subst z; rw [n0] at q; cases q)]
      exact I.base.free b ob q n hx, I.base.there,
    fun b xs q => by rw [upd_ne (ne_of_none (I.base.tups b xs q) na)]; exact I.base.tups b xs q,
    fun b ob v q => by rw [upd_ne (ne_of_none (I.base.frzs b ob v q) na)]; exact I.base.frzs b ob v q,
    fun b ps q => by
      obtain ⟨more, z⟩ := I.base.tbls b ps q
      exact ⟨more, by rw [upd_ne (ne_of_none z na)]; exact z⟩⟩
  loc := I.loc
  cell := I.cell
  free := by rw [upd_ne (fun z => nL z.symm)]; exact I.free
  freeC := fun x c e => by
    obtain ⟨v, oc, q1, q2⟩ := I.cell x c e
    rw [upd_ne (fun z => by subst z; rw [ho] at q1; cases q1; rw [hd] at q2; cases q2)]
    exact I.freeC x c e
  pin := fun p hp => by
    obtain ⟨z1, z2, z3⟩ := I.pin p hp
    exact ⟨z1, by rw [upd_ne (np p hp)]; exact z2, z3⟩
  hok := fun b v q => by
    by_cases hb : b = a
    · subst hb; rw [upd_same] at q; cases q; exact ok
    · rw [upd_ne hb] at q
      exact (I.hok b v q).stay (fun _ _ _ z => z) (fun c z => by rw [upd_ne (ne_of_none z na)]; exact z) fun c xs z => by rw [upd_ne (ne_of_none z na)]; exact z
  len := I.len
end
def wTrack (K : PySem.W.Frag) (c : Value) (i j : Nat) (D : Ends) : WX := fun cls d σ H => d = none ∧ PySem.W.exmOne K cls c = some true ∧
  ∀ a, H a = none → D.nx ((((σ.set i (some (.ref a))).set j (some (.ref a))).set i none)) (upd H a (XcO cls a))
section
variable {X : Cx} {x n y : Str} {c : Value} {i j : Nat} {body : List Stmt} {np pos pos' py pn2 pa : Pos} {tb : WX → TS}
theorem ps_try_track (hs : X.stack = X.env :: X.outer) (hf : X.env.frame = some X.env.locals) (hex : X.ex = []) (hN : X.N.Nodup) (hi : X.N[i]? = some n) (hj : X.N[j]? = some y) (hln : X.env.kindOf n = some .local) (hly : X.env.kindOf y = some .local) (hc : Names X x c)
    (hb : ∀ (W : WX) (q : List (Addr × Obj)) (xe : Value → Shared → Prop), L2.Takes (X.tr q xe) W → PassesOwn (model X.prog X.w) X.A X.env xe → PSs (X.tr q xe) body (tb W))
    (hsw : ∀ a q, PSs (X.suite a q) [.Assign [.Name y py] (.Name n pn2) pa] (tAsg (tVar i) (gName j))) :
    PS X (.Try body [.ExceptHandler (some (.Name x np)) (some n) [.Assign [.Name y py] (.Name n pn2) pa] pos'] [] [] pos) (fun D σ H => tb (wTrack X.K c i j D) D σ H) := by
  refine ⟨fun pins s σ H D I hyp => ?_⟩
  have good := I.ok
  have frm : X.A.frames = some (X.env :: X.outer) := by rw [good.frames, hs]
  refine wpAny_Try_except (wpAny_mono ((hb (wTrack X.K c i j D) (X.pn ++ pins) _ ?taken PassesOwn.looking).run [] s σ H D (I.toTry _) hyp) (fun fl s1 sp => ?_) fun e s1 z => z)
  case taken =>
    rintro u t0 ⟨e, B, sB, pb, τ, G, cls, d, rfl, I0, grnd, up0, sky, nG, eos, abr, rfl, mat, want⟩
    have I1 : Inv X pins τ G sB := I0.ofTry good
    rw [show X.stack = X.env :: X.outer from hs] at sky
    refine Sky.land Zc.steady frm hf sky fun hA flA upA => ?_
    have I2 : Inv X pins τ G { t0 with heap := hA } := I1.landed grnd flA.1 (up0.trans upA) eos abr
    obtain ⟨oA, fA, gA, zA, dA⟩ := flA.there
    have off : e ∉ frs (X.env :: X.outer) := fun hm => by
      obtain ⟨_, o', g', nf⟩ := flA.2.2.1.mem hm
      rw [gA] at g'; cases g'
      exact nf _ dA
    have offL : e ≠ X.env.locals := fun z => off (List.mem_filterMap.mpr ⟨X.env, .head _, by rw [hf, z]⟩)
    have offF : e ∉ X.fs := fun hm => by
      obtain ⟨v, hv, q⟩ := List.mem_filterMap.mp hm
      exact off (List.mem_filterMap.mpr ⟨v, .tail _ hv, q⟩)
    have newB : B.get? e = none := flA.2.1
    have newI : sB.heap.get? e = none := by
      cases q : sB.heap.get? e with
      | none => rfl
      | some o =>
        have z := grnd e o q (by rw [hs]; exact off)
        rw [newB] at z; cases z
    have new0 : X.s_0.heap.get? e = none := by
      cases q : X.s_0.heap.get? e with
      | none => rfl
      | some o =>
        obtain ⟨o', z⟩ := I1.base.there e o q (by rw [hex]; simp)
        rw [newI] at z; cases z
    have newP : ∀ p ∈ X.pn ++ pins, p.1 ≠ e := fun p hp z => by
      have q := (I1.pin p hp).1
      rw [z, newI] at q; cases q
    have S2 := I2.suite gA dA nG offL offF
    refine wpAny_handleBy_cons (codeAny_handlers_test ?_) (by intro q; cases q)
    have lk : PySem.W.Looks (model X.prog X.w) hA (typeOf (.ref e)) cls := fun A Q E s k q => wpAny_typeOf_ref (k _ _ gA) (by rw [zA.1]; exact q)
    have asks : ∀ {Q : Value → Shared → Prop} {E : Value → Shared → Prop}, Q c { t0 with heap := hA } → wpAny (model X.prog X.w) (X.A.mark (some (.ref e))) (eval (.Name x np) X.env) Q E { t0 with heap := hA } := fun {Q E} q => by
      rcases hc with ⟨g1, g2, g3 | ⟨g3, g4, g5⟩⟩
      · exact ld_glob (X := X.suite e ((e, oA) :: (X.pn ++ pins))) S2 g1 g3 q g2
      · exact ld_blt (X := X.suite e ((e, oA) :: (X.pn ++ pins))) S2 g1 g3 g4 q g5 g2
    refine asks ((PySem.W.exm_one (M := model X.prog X.w) I2.kIn lk mat).here ?_)
    refine codeAny_handlers_suite_as (HandSPX.lands_againZ flA fun hC flC upC => ?_)
    have I3 : Inv X pins τ G { t0 with heap := hC } := I1.landed grnd flC.1 ((up0.trans upA).trans upC) eos abr
    obtain ⟨oC, fC, gC, zC, dC⟩ := flC.there
    have S3 := I3.suite gC dC nG offL offF
    refine store_ok (X := X.suite e ((e, oC) :: (X.pn ++ pins))) (v := .ref e) S3 hN hi (.inl hln) rfl (fun s5 S5 => ?_) (.inr hln)
    have leni : i < τ.length := by rw [I1.len]; exact (List.getElem?_eq_some_iff.mp hi).1
    refine wpAny_mono ((hsw e ((e, oC) :: (X.pn ++ pins))).run [] s5 _ G { nx := fun σ' H' => σ' = (τ.set i (some (.ref e))).set j (some (.ref e)) ∧ H' = G, rt := fun _ _ => False } S5 ⟨.ref e, by rw [List.getElem?_set_self leni], rfl, rfl⟩) (fun fl s6 sp => ?_) fun _ _ z => z.elim
    cases fl with
    | next =>
      obtain ⟨σ6, H6, S6, rfl, rfl⟩ := sp
      obtain ⟨g6, n6, _⟩ := S6.pin (e, oC) (List.mem_append.mpr (.inl (.head _)))
      have I6 : Inv X pins _ H6 s6 := S6.unsuite good
      have I7 := adopt (u := XcO cls e) I6 nG g6 dC new0 offL newP (xcO_ok g6 zC dC)
      exact gone_ok I7 hN hi hln fun s7 I8 => ⟨_, _, I8, want e nG⟩
    | brk => obtain ⟨_, _, _, z⟩ := sp; exact z.elim
    | cont => obtain ⟨_, _, _, z⟩ := sp; exact z.elim
    | ret u => obtain ⟨_, _, _, _, _, z⟩ := sp; exact z.elim
  cases fl with
  | next => obtain ⟨σ', H', J, q⟩ := sp; exact wpAny_execs_nil ⟨σ', H', J.ofTry good, q⟩
  | brk => obtain ⟨σ', H', J, q⟩ := sp; exact ⟨σ', H', J.ofTry good, q⟩
  | cont => obtain ⟨σ', H', J, q⟩ := sp; exact ⟨σ', H', J.ofTry good, q⟩
  | ret u => obtain ⟨v, σ', H', J, r, q⟩ := sp; exact ⟨v, σ', H', J.ofTry good, r, q⟩

/-! ### r = g(..) tried, the error kept -/
def tOfA (K : PySem.W.Frag) (mg : Str → Option Value) (E : XK) (f : XL) : TA := fun σ H Q => ∃ Z Fz ρ env st, Rel K mg Z Fz ρ st H ∧ REnv K mg Fz ρ env σ ∧ Out K mg Z E Fz ρ (f env st) (fun vs _ Fz' ρ' H' => ∀ vs', RepL K mg Fz' ρ' vs vs' → Q vs' H')
theorem JA.pe {X : Cx} {E : XK} {es : List Expr} {f : XL} (h : JA X E es f) : PA X es (tOfA X.K X.mg E f) := by
  obtain ⟨t, p, s⟩ := h
  exact ⟨fun pos pins sh σ H Q I ⟨Z, Fz, ρ, env, st, rl, re, o⟩ => p.run pos pins sh σ H Q I (s Z Fz ρ env st σ H Q rl re o)⟩
def sTryCall (i j r n : Nat) (cs : List Str) (f : Fn) (fl : XL) : XS := fun env st => (noX (fl env st)).bind fun vs s => if vs.length = n then (match f vs s with
  | .ok v s2 => .ok (.nx (env.set r (some v))) s2
  | .ex c s2 => if c ∈ cs then .ok (.nx ((env.set j (some (.own s2.length))).set i none)) (s2 ++ [.exc c]) else .no
  | .no => .no) else .no
theorem renv_kept {K : PySem.W.Frag} {mg : Str → Option Value} {Fz : Hp} {ρ : List Addr} {env : Ev} {σ : L2.St} {i j : Nat} {p : PV} {v : V} (h : REnv K mg Fz ρ env σ) (r : Rep K mg Fz ρ p v) (hij : i ≠ j) :
    REnv K mg Fz ρ ((env.set j (some p)).set i none) (((σ.set i (some v)).set j (some v)).set i none) := by
  refine ⟨by simp [h.1], fun q z e => ?_⟩
  have hq : i ≠ q := fun w => by
    subst w
    have hl : i < (env.set j (some p)).length := by
      have := (List.getElem?_eq_some_iff.mp e).1
      simpa using this
    rw [List.getElem?_set_self hl] at e; cases e
  rw [List.getElem?_set_ne hq] at e ⊢
  by_cases hj : j = q
  · subst hj
    have hl : j < env.length := by
      have := (List.getElem?_eq_some_iff.mp e).1
      simpa using this
    rw [List.getElem?_set_self hl] at e
    cases e
    exact ⟨v, by rw [List.getElem?_set_self (by simp [← h.1, hl])], r⟩
  · rw [List.getElem?_set_ne hj] at e ⊢
    rw [List.getElem?_set_ne hq]
    exact h.2 q z e
theorem js_tryCall {E : XK} {k l m r : Nat} {g z : Str} {pr pg pc pq : Pos} {e : Expr} {es : List Expr} {f : Fn} {fl : XL} {cs : List Str} (hs : X.stack = X.env :: X.outer) (hf : X.env.frame = some X.env.locals) (hex : X.ex = []) (hN : X.N.Nodup) (hc : Names X x c)
    (hcs : ∀ w ∈ cs, ∃ C, X.mg w = some (.ref C) ∧ PySem.W.exmOne X.K (.ref C) c = some true)
    (F : Cl X.prog X.w X.K X.mg X.base k g m f) (hr : Room l X.A) (ha : ∀ (q : List (Addr × Obj)) (xe : Value → Shared → Prop), JA (X.tr q xe) E0 (e :: es) fl) (hk : k ≤ l := by decide)
    (hi : X.N[i]? = some n := by rfl) (hj : X.N[j]? = some y := by rfl) (hrN : X.N[r]? = some z := by rfl) (hij : i ≠ j := by decide) (hln : X.env.kindOf n = some .local := by rfl) (hly : X.env.kindOf y = some .local := by rfl) (hlz : X.env.kindOf z = some .local := by rfl) (hg : Gl X g := by rfl)
    (hdb : (g == ("__debug__" : Str)) = false := by decide) (he : starEach (e :: es) X.env = (false, eval e X.env) :: starEach es X.env := by rfl) (hpl : (backTo pc (starEach es X.env)).any (·.1) = false := by rfl)
    (hsw : swapsWith (.Call (.Name g pg) (e :: es) [] pc) (some (.Name z pr)) pq.line X.env = pure false := by rfl) (hsw2 : swapsWith (.Name n pn2) (some (.Name y py)) pa.line X.env = pure false := by rfl) (hd1 : (n == ("__debug__" : Str)) = false := by decide) (hd2 : (n == ("__classdict__" : Str)) = false := by decide) :
    JS X E (.Try [.Assign [.Name z pr] (.Call (.Name g pg) (e :: es) [] pc) pq] [.ExceptHandler (some (.Name x np)) (some n) [.Assign [.Name y py] (.Name n pn2) pa] pos'] [] [] pos) (sTryCall i j r m cs f fl) := by
  obtain ⟨d, fd, ps, hm, hkp, hbi, FO⟩ := F.ex
  refine ⟨fun D σ H => tAsg (tCallS (spF X.K X.mg m f) (WE (wTrack X.K c i j D)) (tOfA X.K X.mg E0 fl)) (gName r) D σ H, ps_try_track (tb := fun W => tAsg (tCallS (spF X.K X.mg m f) (WE W) (tOfA X.K X.mg E0 fl)) (gName r)) hs hf hex hN hi hj hln hly hc (fun W q xe tk _ => ?_) (fun a q => ?_), fun Z Fz ρ env st σ H D rl re o => ?_⟩
  · exact L2.pss_one (ps_set (X := X.tr q xe) (i := r) hN hrN (.inl hlz) (pe_callS (X := X.tr q xe) FO (hr.mono hk) hg hm hkp hbi (fun τ => passAt tk τ) (ha q xe).pe hdb he hpl) hsw (.inr hlz))
  · exact L2.pss_one (ps_set (X := X.suite a q) (i := j) hN hj (.inl hly) (pe_var (X := X.suite a q) hi (.inl hln) hd1 hd2) hsw2 (.inr hly))
  · refine ⟨Z, Fz, ρ, env, st, rl, re, ?_⟩
    have o1 : Out X.K X.mg Z E Fz ρ ((noX (fl env st)).bind fun vs s => if vs.length = m then (match f vs s with
      | .ok v s2 => R.ok (Fl.nx (env.set r (some v))) s2
      | .ex c s2 => if c ∈ cs then .ok (.nx ((env.set j (some (.own s2.length))).set i none)) (s2 ++ [.exc c]) else .no
      | .no => .no) else .no) (fun fl _ F' r' H' => FlP X.K X.mg D fl F' r' H') := o
    refine (out_noX o1.seq).mono fun vs s1 F1 r1 H1 _ ex1 rl1 o2 vs' rv => ?_
    split at o2
    · rename_i hn
      refine ⟨by rw [← rv.len]; exact hn, Z, F1, r1, s1, vs, rl1, rv, ?_⟩
      cases ef : f vs s1 with
      | ok v s2 =>
        rw [ef] at o2
        exact fun F2 r2 H2 ex2 rl2 v' rv' => o2 F2 r2 H2 ex2 rl2 _ (((re.mono ex1).mono ex2).set rv' r)
      | ex w s2 =>
        rw [ef] at o2
        have o3 : Out X.K X.mg Z E F1 r1 (if w ∈ cs then .ok (.nx ((env.set j (some (.own s2.length))).set i none)) (s2 ++ [.exc w]) else .no) (fun fl _ F' r' H' => FlP X.K X.mg D fl F' r' H') := o2
        split at o3
        · rename_i hw
          obtain ⟨C, hC, hm2⟩ := hcs w hw
          refine fun F2 r2 H2 ex2 rl2 => ⟨C, hC, rfl, hm2, fun a na => ?_⟩
          have ex0 : Ext F2 r2 F2 (r2 ++ [a]) := ⟨fun _ _ h => h, List.prefix_append _ _⟩
          obtain ⟨rl3, ex3⟩ := rl2.owned na (o := XcO (.ref C) a) (c := .exc w) rfl ⟨C, hC, upd_same⟩
          exact o3 F2 _ _ (ex2.trans ex3) rl3 _ (renv_kept ((re.mono ex1).mono (ex2.trans ex3)) (by rw [Rep]; exact ⟨a, by rw [← rl2.len]; simp, rfl⟩) hij)
        · exact o3.elim
      | no => rw [ef] at o2; exact o2.elim
    · exact o2.elim
/-! ### isinstance of an error that is kept -/
/-- the written facts of the classes of errors: cs may be asked about ys -/
def eIsE (t : Str → Bool) (cs : List Str) (f : XE) : XE := fun env st => (f env st).bind fun p s => match p with
  | .own k => (match s[k]? with
    | some (.exc c) => if c ∈ cs then .ok (.bl (t c)) s else .no
    | _ => .no)
  | _ => .no
theorem call_isX {X : Cx} : CallR X (.builtin "isinstance") (fun xs H Q => ∃ (a D : Addr) (c : V) (cv : Value) (b : Bool), xs = [.ref a, c] ∧ H a = some (XcO (.ref D) a) ∧ ExcC X.K D ∧ (∀ u, RelV c u → u = cv) ∧ PySem.W.kitOne X.K (.ref D) cv = some b ∧ Q (.bl b) H) := by
  intro pins s σ H xs us Q I r h
  obtain ⟨a, D, c, cv, b, rfl, hx, C, hcv, ek, q⟩ := h
  match us, r with
  | [u1, u2], .cons r1 (.cons r2 .nil) =>
    obtain rfl : u1 = Value.ref a := r1
    obtain rfl := hcv u2 r2
    obtain ⟨⟨oe, vs, g1, g2, g3⟩, _, _⟩ := I.hok a _ hx
    have inst : PySem.W.InstAt s.heap a oe D none := by
      obtain ⟨oc, od, oda, osl⟩ := oe
      obtain ⟨k1, k2⟩ := g2
      dsimp only at k1 k2 g3
      subst k1 k2 g3
      exact ⟨g1, rfl, rfl, trivial⟩
    exact PySem.W.kia_one (PySem.W.handS_kitx_exc C.hg C.hk C.hs C.hd C.ha C.hn C.ht C.hm) I.kIn inst ek (fun z => nomatch z) fun tk => ⟨.bl b, H, I.kept (t' := tk) fun _ _ z => z, rfl, q⟩
theorem je_isE {X : Cx} {E : XK} {a : Expr} {p q pos : Pos} {f : XE} {y : Str} {t : Str → Bool} {cs : List Str} {cV : V} {cv : Value} (ha : JE X E a f) (hy : PE X (.Name y q) (tC cV)) (hcv : ∀ u, RelV cV u → u = cv)
    (hcs : ∀ w ∈ cs, ∀ C, X.mg w = some (.ref C) → ExcC X.K C ∧ PySem.W.kitOne X.K (.ref C) cv = some (t w)) (hm : X.mg "isinstance" = none) (hg : Gl X "isinstance" := by rfl)
    (he : starEach [a, .Name y q] X.env = (false, eval a X.env) :: starEach [.Name y q] X.env := by rfl) (hpl : (backTo pos (starEach [.Name y q] X.env)).any (·.1) = false := by rfl) : JE X E (.Call (.Name "isinstance" p) [a, .Name y q] [] pos) (eIsE t cs f) := by
  obtain ⟨ta, pt, s⟩ := ha
  refine ⟨_, pe_callB call_isX hg hm (by decide +kernel) (pa_cons pt (pa_cons hy pa_nil) he) (he := he) (hpl := hpl), fun Z Fz ρ env st σ H Q rl hh o => ?_⟩
  refine s Z Fz ρ env st σ H _ rl hh (o.seq.mono fun x s1 F1 r1 H1 hq ex1 rl1 o1 x' rx => ?_)
  clear hq
  split at o1
  · rename_i k
    split at o1
    · rename_i w ek
      split at o1
      · rename_i hw
        rw [Rep] at rx
        obtain ⟨d, ed, rfl⟩ := rx
        obtain ⟨C, hC, hd⟩ := rl1.cell k d _ ed ek
        obtain ⟨k1, k2⟩ := hcs w hw C hC
        exact ⟨d, C, cV, cv, t w, rfl, hd, k1, hcv, k2, o1.here rl1 _ (by rw [Rep])⟩
      · exact o1.elim
    · exact o1.elim
  · exact o1.elim
end
end Lq
end
section
set_option Elab.async false
set_option linter.all false
set_option maxRecDepth 10000
/-! len of an own instance; index and count of lists. -/
namespace Lq
open PySem PySem.Spec PyProof.Rows L2
section
variable {X : Cx} {E : XK}
theorem call_lenO {k n : Nat} {C f : Addr} {fd : FuncData} {ps : List Str} {g : Fn} (hs : PySem.W.findIn X.K (.ref C) "__len__" = some (some (.ref f))) (hf : PySem.W.isFn X.K (.ref f) = true) (hb : Binds X.K fd ps [])
    (F : FnOk X.prog X.w X.K X.mg X.base (L2.CX X.prog X.w) k f fd ps (spF X.K X.mg n g)) (hr : Room (k + 1) X.A) (hx : Passes (L2.CX X.prog X.w) X E) :
    CallR X (.builtin "len") (fun xs H Q => ∃ a dx fs, xs = [.ref a] ∧ H a = some (.ins C dx fs) ∧ spF X.K X.mg n g [.ref a] H (fun v H' => ∃ m : Int, v = .int m ∧ 0 ≤ m ∧ m < 2 ^ 63 ∧ Q (.int m) H') E) := by
  intro pins s σ H xs us Q I r h
  obtain ⟨a, dx, fs, rfl, ha, hsp⟩ := h
  match us, r with
  | [u], .cons r1 .nil =>
    obtain rfl : u = Value.ref a := r1
    obtain ⟨mA, J, _⟩ := ins_get I.hok ha
    obtain ⟨od, J, _⟩ := J.look
    obtain ⟨m, hF⟩ := I.fr
    refine PySem.W.len_K hF I.ok.mod.kin J hs hf ?_
    have e0 : Env0 X.prog X.w X.K X.mg X.base X.A.in1 X.stack s H := I.env0.in1
    have hl := F.len _ _ _ _ hsp
    have bt := hb s [.ref a] I.kIn (by simpa using hl)
    rw [List.append_nil] at bt
    refine wpAny_call (codeAny_mono (F.run X.A.in1 X.stack s H ⟨[.ref a], []⟩ [.ref a] [.ref a] _ E hr.in1 e0 bt (.cons rfl .nil) hsp) fun r s' hq => ?_)
    cases r with
    | error e => exact hx pins σ H s e s' I hq
    | ok fl =>
      cases fl with
      | ret w =>
        obtain ⟨z, H', I', rz, n', ez, n0, n1, qq⟩ := I.after hq
        subst ez
        obtain ⟨t, rfl⟩ := rz
        exact ⟨⟨n0, n1⟩, .int n', H', I'.tok _, ⟨_, rfl⟩, qq⟩
      | next => exact hq.elim
      | brk => exact hq.elim
      | cont => exact hq.elim
def eLenO (x : Str) (f : Fn) (fo : XE) : XE := fun env st => (fo env st).bind fun v s => match v with
  | .own k => (match s[k]? with
    | some (.ins y _) => if y = x then (f [.own k] s).bind fun r s2 => (match r with
      | .int m => if 0 ≤ m ∧ m < 2 ^ 63 then .ok (.int m) s2 else .no
      | _ => .no) else .no
    | _ => .no)
  | _ => .no
theorem je_lenO {k j : Nat} {x : Str} {g : Fn} {a : Expr} {p pos : Pos} {fo : XE} (c : Me X.prog X.w X.K X.mg X.base k x "__len__" 1 g) (hr : Room j X.A) (hx : Passes (L2.CX X.prog X.w) X E) (ho : JE X E a fo) (hm : X.mg "len" = none) (hk : k + 1 ≤ j := by decide) (hg : Gl X "len" := by rfl)
    (he : starEach [a] X.env = (false, eval a X.env) :: starEach [] X.env := by rfl) (hpl : (backTo pos (starEach [] X.env)).any (·.1) = false := by rfl) : JE X E (.Call (.Name "len" p) [a] [] pos) (eLenO x g fo) := by
  obtain ⟨C, f, fd, ps, hC, cl, me, hb, F⟩ := c.ex
  obtain ⟨t, pt, s⟩ := ho
  refine ⟨_, pe_callB (call_lenO me.at_ me.fn hb F (hr.mono hk) hx) hg hm PySem.boot_len (pa_cons pt pa_nil he) (he := he) (hpl := hpl), fun Z Fz ρ env st σ H Q rl re o => ?_⟩
  refine s Z Fz ρ env st σ H _ rl re (o.seq.mono fun v s1 F1 r1 H1 hq ex1 rl1 o1 v' rv => ?_)
  clear hq
  split at o1
  · rename_i k
    split at o1
    · rename_i y gs ek
      split at o1
      · rename_i hy
        subst hy
        have rv0 := rv
        rw [Rep] at rv
        obtain ⟨d, ed, rfl⟩ := rv
        obtain ⟨C', dx, vs, h0, h1, h2, h3⟩ := rl1.cell k d _ ed ek
        rw [hC] at h0; cases h0
        refine ⟨d, dx, vs, rfl, h1, rfl, Z, F1, r1, s1, _, rl1, RepL.cons rv0 RepL.nil, ?_⟩
        refine o1.seq.mono fun w s2 F2 r2 H2 hq2 ex2 rl2 o2 w' rw' => ?_
        clear hq2
        split at o2
        · split at o2
          · rename_i m hm2
            rw [Rep] at rw'
            exact ⟨m, rw', hm2.1, hm2.2, o2.here rl2 _ (by rw [Rep])⟩
          · exact o2.elim
        · exact o2.elim
      · exact o1.elim
    · exact o1.elim
  · exact o1.elim
end
/-! ### index, count -/
def findP (d : PV) : List PV → Nat → Option Nat
  | [], _ => none
  | x :: xs, i => if peq x d = true then some i else findP d xs (i + 1)
theorem findP_spec {d : PV} : ∀ {xs : List PV} {i j : Nat}, findP d xs i = some j → ∃ k z, j = i + k ∧ xs[k]? = some z ∧ peq z d = true ∧ ∀ m z', m < k → xs[m]? = some z' → peq z' d = false
  | [], _, _, h => by cases h
  | x :: xs, i, j, h => by
    unfold findP at h
    split at h
    · rename_i c
      cases h
      exact ⟨0, x, rfl, rfl, c, fun m z' hm _ => absurd hm (Nat.not_lt_zero _)⟩
    · rename_i c
      obtain ⟨k, z, h1, h2, h3, h4⟩ := findP_spec h
      refine ⟨k + 1, z, by omega, by simpa using h2, h3, fun m z' hm e => ?_⟩
      cases m with
      | zero => simp at e; subst e; simpa using c
      | succ m => exact h4 m z' (by omega) (by simpa using e)
theorem toDs_get : ∀ {xs : List PV} {k : Nat}, (toDs xs)[k]? = (xs[k]?).map toD
  | [], k => by simp [toDs]
  | x :: xs, 0 => by simp [toDs]
  | x :: xs, k + 1 => by simp [toDs, toDs_get]
theorem noScrs_get : ∀ {xs : List PV} {k : Nat} {z : PV}, noScrs xs = true → xs[k]? = some z → noScr z = true
  | [], _, _, _, e => by simp at e
  | x :: xs, 0, z, h, e => by
    rw [noScrs, Bool.and_eq_true] at h
    simp at e; subst e; exact h.1
  | x :: xs, k + 1, z, h, e => by
    rw [noScrs, Bool.and_eq_true] at h
    exact noScrs_get h.2 (by simpa using e)
/-- l.m(y): go tells the value -/
def eLr (go : PV → PV → Store → Option PV) (fo : XE) (fl : XL) : XE := fun env st => (fo env st).bind fun v s => match asL s v with
  | some _ => (fl env s).bind fun ys s2 => (match ys with
    | [y] => (match go v y s2 with
      | some z => .ok z s2
      | none => .no)
    | _ => .no)
  | none => .no
def goIndex : PV → PV → Store → Option PV := fun v y st => match rsv st v with
  | .lst xs => if (dChk y && dChk (.lst xs)) = true then (findP y xs 0).map fun k => .int (k : Int) else none
  | _ => none
def boolsOf : List PV → Option (List Bool) := asBools
section
variable {X : Cx} {E : XK} {e o : Expr} {apos cpos : Pos} {fo : XE} {fl : XL}
theorem s_lr {go : PV → PV → Store → Option PV} {r : V → List V → Hp → VK → Prop} {to : TE} {t : TA} (hr : ∀ (Z Fz : Hp) (ρ : List Addr) (st : Store) (H : Hp) (v y : PV) (v' y' : V) (z : PV) (Q : VK), Rel X.K X.mg Z Fz ρ st H → Rep X.K X.mg Fz ρ v v' → Rep X.K X.mg Fz ρ y y' → go v y st = some z →
    (∀ v'', Rep X.K X.mg Fz ρ z v'' → Q v'' H) → r v' [y'] H Q) (so : SE X.K X.mg E to fo) (sa : SA X.K X.mg E t fl) : SE X.K X.mg E (tBM X.K "list" r to t) (eLr go fo fl) := fun Z Fz ρ env st σ H Q rl re o => by
  refine so Z Fz ρ env st σ H _ rl re (o.seq.mono fun v s1 F1 r1 H1 hq ex1 rl1 o1 v' rv => ?_)
  clear hq
  split at o1
  · rename_i xs ex
    obtain ⟨d, vs, rfl, sq, _, _⟩ := asL_ok rl1 rv ex
    refine ⟨.inl ⟨rfl, vs, sq⟩, sa Z F1 r1 env s1 σ H1 _ rl1 (re.mono ex1) (o1.seq.mono fun ys s2 F2 r2 H2 hq2 ex2 rl2 o2 ys' ry => ?_)⟩
    clear hq2
    split at o2
    · obtain ⟨y', rfl, ry'⟩ := rep1 ry
      split at o2
      · rename_i z ez
        exact hr Z F2 r2 s2 H2 v _ _ y' z Q rl2 (rv.mono ex2) ry' ez fun v'' rz => o2.here rl2 v'' rz
      · exact o2.elim
    · exact o2.elim
  · exact o1.elim
theorem je_index (hu : X.A.units + 65 < cLine) (ho : JE X E o fo) (ha : JA X E [e] fl) (hbase : attributeBase o "index" X.env (eval o X.env) = eval o X.env := by rfl)
    (hfew : ((backTo cpos (starEach [e] X.env)).all (fun x => !x.1) && (backToKw cpos (keywordEach [] X.env)).all (fun x => x.1.isSome)
      && decide (([e] : List Expr).length + ([] : List Keyword).length + (if ([] : List Keyword).isEmpty then 0 else 1) < 30)) = true := by rfl)
    (hline : (apos.endLine == cpos.line) = true := by rfl) (hs : starEach [e] X.env = (false, eval e X.env) :: starEach [] X.env := by rfl) (hplain : (backTo cpos (starEach [] X.env)).any (·.1) = false := by rfl) :
    JE X E (.Call (.Attribute o "index" apos) [e] [] cpos) (eLr goIndex fo fl) := by
  obtain ⟨t, pt, s⟩ := ho
  obtain ⟨ta, pa, sa⟩ := ha
  refine ⟨_, pe_bm PySem.F.plainAttrs_list PySem.F.slot_list_index PySem.F.type_list_index (mt_indexD hu) pt pa hbase hfew hline hs hplain, s_lr (fun Z Fz ρ st H v y v' y' z Q rl rv ry eg q => ?_) s sa⟩
  unfold goIndex at eg
  split at eg
  · rename_i xs ex
    split at eg
    · rename_i c
      rw [Bool.and_eq_true] at c
      cases ef : findP y xs 0 with
      | none => rw [ef] at eg; cases eg
      | some j =>
        rw [ef] at eg
        cases eg
        obtain ⟨k, w, h1, h2, h3, h4⟩ := findP_spec ef
        have hk : j = k := by omega
        subst hk
        have dv := dp_rsv rl rv (by rw [ex]; exact c.2)
        rw [ex, toD] at dv
        have s2 := shaped_chk c.2
        rw [toD] at s2
        have c1 := c.1
        have c2 := c.2
        unfold dChk at c1 c2
        rw [Bool.and_eq_true] at c1 c2
        have ns : noScrs xs = true := by have := c2.2; rw [noScr] at this; exact this
        have isr : ∃ d, v' = .ref d := by cases dv with | lst _ _ => exact ⟨_, rfl⟩
        obtain ⟨d, rfl⟩ := isr
        refine ⟨d, y', toD y, toDs xs, j, toD w, rfl, rfl, dv, dp_x rl ry c.1, s2, shaped_chk c.1, by rw [toDs_get, h2]; rfl, by rw [eqv_toD _ _ (noScrs_get ns h2) c1.2]; exact h3, fun m z' hm e' => ?_, q _ (by rw [Rep])⟩
        rw [toDs_get] at e'
        cases em : xs[m]? with
        | none => rw [em] at e'; cases e'
        | some z2 =>
          rw [em] at e'
          cases e'
          rw [eqv_toD _ _ (noScrs_get ns em) c1.2]
          exact h4 m z2 hm em
    · cases eg
  · cases eg

/-- how often a bool stands in a list of bools -/
def isB (b : Bool) : Value → Bool
  | .bool c => c == b
  | _ => false
theorem vals_bl : ∀ {bs : List Bool} {us : List Value}, Vals (bs.map V.bl) us → us = bs.map Value.bool
  | [], _, .nil => rfl
  | b :: bs, _, .cons r t => by
    have r' : _ = Value.bool b := r
    rw [r', vals_bl t]; rfl
theorem mt_countB : MtR X "list.count" (fun x xs H Q => ∃ (p : Addr) (bs : List Bool) (b : Bool), x = .ref p ∧ xs = [.bl b] ∧ SqL X.K H p (bs.map V.bl) ∧ Q (.int ((bs.count b : Nat) : Int)) H) := by
  intro pins s σ H x xs v us Q I rx rxs h
  obtain ⟨l, bs, b, rfl, rfl, sq, q⟩ := h
  obtain rfl : v = Value.ref l := rx
  match us, rxs with
  | [u], .cons ru .nil =>
    obtain rfl : u = Value.bool b := ru
    obtain ⟨its, rv, ⟨⟨cls, dd, data, sl⟩, n, ho, hc, hdn, hd⟩, hlen⟩ := I.list sq
    have ei := vals_bl rv
    subst ei
    simp only at hc hd
    subst hc hd
    have eqs : ∀ y, y ∈ (bs.map Value.bool).toArray → SeqAt.EqAt X.A.in1 s y (.bool b) (isB b y) := fun y hy => by
      have hy' : y ∈ bs.map Value.bool := by simpa using hy
      obtain ⟨c, _, rfl⟩ := List.mem_map.mp hy'
      exact SeqAt.EqAt.bool_bool c b
    have cnt : ∀ bs : List Bool, (bs.map Value.bool).countP (isB b) = bs.count b := fun bs => by
      induction bs with
      | nil => rfl
      | cons c r ih => rw [List.map_cons, List.countP_cons, ih, List.count_cons]; rfl
    refine call_meets PySem.F.slot_list_count ⟨_, ho, rfl⟩ PySem.F.entry_list_count (PySem.F.args_list_count_2 _ _) (SeqAt.list_countAt l _ n dd sl (.bool b) (isB b)) ⟨ho, eqs, ?_⟩
    refine ⟨.int ((bs.count b : Nat) : Int), H, I.tok _, ⟨s.toks, ?_⟩, q⟩
    show Value.int ((((bs.map Value.bool).toArray.toList.countP (isB b) : Nat) : Int)) s.toks = _
    rw [List.toList_toArray, cnt]
def goCount : PV → PV → Store → Option PV := fun v y st => match asL st v, y with
  | some xs, .bl b => (match asBools xs with
    | some bs => some (.int ((bs.count b : Nat) : Int))
    | none => none)
  | _, _ => none
theorem je_count (ho : JE X E o fo) (ha : JA X E [e] fl) (hbase : attributeBase o "count" X.env (eval o X.env) = eval o X.env := by rfl)
    (hfew : ((backTo cpos (starEach [e] X.env)).all (fun x => !x.1) && (backToKw cpos (keywordEach [] X.env)).all (fun x => x.1.isSome)
      && decide (([e] : List Expr).length + ([] : List Keyword).length + (if ([] : List Keyword).isEmpty then 0 else 1) < 30)) = true := by rfl)
    (hline : (apos.endLine == cpos.line) = true := by rfl) (hs : starEach [e] X.env = (false, eval e X.env) :: starEach [] X.env := by rfl) (hplain : (backTo cpos (starEach [] X.env)).any (·.1) = false := by rfl) :
    JE X E (.Call (.Attribute o "count" apos) [e] [] cpos) (eLr goCount fo fl) := by
  obtain ⟨t, pt, s⟩ := ho
  obtain ⟨ta, pa, sa⟩ := ha
  refine ⟨_, pe_bm PySem.F.plainAttrs_list PySem.F.slot_list_count PySem.F.type_list_count mt_countB pt pa hbase hfew hline hs hplain, s_lr (fun Z Fz ρ st H v y v' y' z Q rl rv ry eg q => ?_) s sa⟩
  unfold goCount at eg
  split at eg
  · rename_i xs b ex
    split at eg
    · rename_i bs eb
      cases eg
      obtain ⟨d, vs, rfl, sq, _, rr⟩ := asL_ok rl rv ex
      rw [asBools_eq eb] at rr
      rw [of_bools rr] at sq
      rw [Rep] at ry
      exact ⟨d, bs, b, rfl, by rw [ry], sq, q _ (by rw [Rep])⟩
    · cases eg
  · cases eg
end
end Lq
end
section
set_option Elab.async false
set_option linter.all false
set_option maxRecDepth 10000
/-! A comprehension given to a name; two clauses; three names at once; truth. -/
namespace Lq
open PySem PySem.Spec PyProof.Rows L2
theorem sf_fz {K : PySem.W.Frag} {mg : Str → Option Value} {E : XK} {t : TE} {f : XL} (s : SF K mg E t f) : SE K mg E t (eFz f) := fun Z Fz ρ env st σ H Q rl hh o => s Z Fz ρ env st σ H Q rl hh (o.seq.mono fun xs s1 F1 r1 H1 _ ex1 rl1 o1 p vs hp hl rv => by
  obtain ⟨rl2, ex2⟩ := rl1.frozen hp (.lst vs)
  exact o1 _ _ _ ex2 rl2 _ (by rw [Rep]; exact ⟨p, vs, rfl, upd_same, hl, rv.mono ex2⟩))
theorem sf_ow {K : PySem.W.Frag} {mg : Str → Option Value} {E : XK} {t : TE} {f : XL} (s : SF K mg E t f) : SE K mg E t (eOw f) := fun Z Fz ρ env st σ H Q rl hh o => s Z Fz ρ env st σ H Q rl hh (o.seq.mono fun xs s1 F1 r1 H1 _ ex1 rl1 o1 p vs hp hl rv => by
  have ex0 : Ext F1 r1 F1 (r1 ++ [p]) := ⟨fun _ _ h => h, List.prefix_append _ _⟩
  obtain ⟨rl2, ex2⟩ := rl1.owned hp (o := .lst vs) (c := .lst xs) rfl ⟨vs, upd_same, hl, rv.mono ex0⟩
  exact o1 _ _ _ ex2 rl2 _ (by rw [Rep]; exact ⟨p, by rw [← rl1.len]; simp, rfl⟩))
/-! ### two clauses -/
def compI (ft1 : PV → Ev → Store → R Ev) (tt1 : Ev → Store → R Bool) (fe : XE) (env : Ev) : List PV → Store → R (List PV) := compV ft1 tt1 fe env
def compW (ft : PV → Ev → Store → R Ev) (tt : Ev → Store → R Bool) (g1 : XL) (ft1 : PV → Ev → Store → R Ev) (tt1 : Ev → Store → R Bool) (fe : XE) (vs1 : List Nat) (env : Ev) : List PV → Store → R (List PV)
  | [], st => .ok [] st
  | x :: xs, st => (ft x env st).bind fun e s1 => (tt e s1).bind fun b s2 =>
    if b = true then (g1 e s2).bind fun ys s3 => (compV ft1 tt1 fe (wipeE e vs1) ys s3).bind fun zs s4 => (compW ft tt g1 ft1 tt1 fe vs1 env xs s4).bind fun ws s5 => .ok (zs ++ ws) s5
    else compW ft tt g1 ft1 tt1 fe vs1 env xs s2
def fComp2 (g : XL) (ft : PV → Ev → Store → R Ev) (tt : Ev → Store → R Bool) (g1 : XL) (ft1 : PV → Ev → Store → R Ev) (tt1 : Ev → Store → R Bool) (fe : XE) (vs vs1 : List Nat) : XL := fun env st => (g env st).bind fun xs s =>
  (noX (compW ft tt g1 ft1 tt1 fe vs1 (wipeE env vs) xs s)).bind fun ys s2 => if ys.length ≤ sizeLine then .ok ys s2 else .no
section
variable {K : PySem.W.Frag} {mg : Str → Option Value}
theorem lc2_read {E : XK} {wi : TI} {g g1 : XL} {ft ft1 : PV → Ev → Store → R Ev} {tt tt1 : Ev → Store → R Bool} {fe : XE} {vs vs1 : List Nat} (sw : SI K mg E wi g) :
    SF K mg E (tLc2 wi (tOfG K mg E0 vs ft) (tOfT K mg E0 tt) (tOfI K mg E0 g1) (tOfG K mg E0 vs1 ft1) (tOfT K mg E0 tt1) (tOf K mg E0 fe) vs vs1) (fComp2 g ft tt g1 ft1 tt1 fe vs vs1) := fun Z Fz ρ env st σ H Q rl re o => by
  refine sw Z Fz ρ env st σ H _ rl re (o.seq.mono fun xs s1 F1 r1 H1 _ ex1 rl1 o1 J hlen it D hD => ?_)
  obtain ⟨ys, sf, ec⟩ := out_E0 o1.seq
  have o2 : Out K mg Z E F1 r1 ((noX (compW ft tt g1 ft1 tt1 fe vs1 (wipeE env vs) xs s1)).bind fun ys s2 => if ys.length ≤ sizeLine then R.ok ys s2 else .no) _ := o1
  rw [ec] at o2
  have hys : ys.length ≤ sizeLine := Decidable.byContradiction fun z => by
    have o3 : Out K mg Z E F1 r1 (if ys.length ≤ sizeLine then R.ok ys sf else .no) _ := o2
    rw [if_neg z] at o3
    exact o3.elim
  have o4 : Out K mg Z E F1 r1 (if ys.length ≤ sizeLine then R.ok ys sf else .no) _ := o2
  rw [if_pos hys] at o4
  have hZD : Z D = none := by
    cases e : Z D with
    | none => rfl
    | some u => rw [(rl1.zf D u e).1] at hD; cases hD
  refine ⟨fun i m H => m = xs.length - i ∧ i ≤ xs.length ∧ ∃ (acc : List PV) (accv : List V) (F : Hp) (r : List Addr) (s : Store) (rest : List PV),
    Ext F1 r1 F r ∧ Rel K mg (upd Z D (.lst accv)) F r s H ∧ RepL K mg F r acc accv ∧ compW ft tt g1 ft1 tt1 fe vs1 (wipeE env vs) (xs.drop i) s = .ok rest sf ∧ acc ++ rest = ys, ?_, ?_⟩
  · exact ⟨_, rfl, Nat.zero_le _, [], [], F1, r1, s1, ys, Ext.refl, znew rl1 hD _, RepL.nil, by simpa using ec, rfl⟩
  · rintro i m H2 ⟨rfl, hi, acc, accv, F, r, s, rest, ex, rl2, ra, eq, hy⟩
    obtain ⟨ig, is⟩ := it (upd Z D (.lst accv)) F r s H2 ex rl2
    by_cases hlt : i < xs.length
    · right
      have ed : xs.drop i = xs[i] :: xs.drop (i + 1) := List.drop_eq_getElem_cons hlt
      obtain ⟨go, yl⟩ := ig i xs[i] (by simp [hlt])
      refine ⟨go, fun H' => ∃ (acc : List PV) (accv : List V) (F : Hp) (r : List Addr) (s : Store) (rest : List PV),
        Ext F1 r1 F r ∧ Rel K mg (upd Z D (.lst accv)) F r s H' ∧ RepL K mg F r acc accv ∧ compW ft tt g1 ft1 tt1 fe vs1 (wipeE env vs) (xs.drop (i + 1)) s = .ok rest sf ∧ acc ++ rest = ys,
        fun H' h => ⟨xs.length - (i + 1), by omega, rfl, hlt, h⟩, fun x H' y => ?_⟩
      obtain ⟨F3, ex3, rl3, rx⟩ := yl x H' y
      rw [ed] at eq
      unfold compW at eq
      obtain ⟨e1, t1, q1, eq⟩ := bind_ok eq
      obtain ⟨b, t2, q2, eq⟩ := bind_ok eq
      refine ⟨_, F3, r, wipeE env vs, s, xs[i], rl3, ((re.mono ex1).mono (ex.trans ex3)).wipe vs, rx, ?_⟩
      rw [q1]
      intro F4 r4 H4 ex4 rl4 σ4 re4 k4
      have hl4 : σ4.length = σ.length := by rw [k4.1, L2.wipe_length]
      refine ⟨wipe_eq hl4 k4.2, _, F4, r4, e1, t1, rl4, re4, ?_⟩
      rw [q2]
      intro F5 r5 H5 ex5 rl5
      cases b with
      | false =>
        rw [if_neg Bool.false_ne_true] at eq ⊢
        exact ⟨acc, accv, F5, r5, t2, rest, ex.trans (ex3.trans (ex4.trans ex5)), rl5, ra.mono (ex3.trans (ex4.trans ex5)), eq, hy⟩
      | true =>
        rw [if_pos rfl] at eq ⊢
        obtain ⟨us, t3, q3, eq⟩ := bind_ok eq
        obtain ⟨zs, t4, q4, eq⟩ := bind_ok eq
        obtain ⟨ws, t5, q5, eq⟩ := bind_ok eq
        cases eq
        have re5 := re4.mono ex5
        refine ⟨_, F5, r5, e1, t2, rl5, re5, ?_⟩
        rw [q3]
        intro F6 r6 H6 ex6 rl6 J1 hl1 it1
        have exB : Ext F1 r1 F6 r6 := ex.trans (ex3.trans (ex4.trans (ex5.trans ex6)))
        have ra6 := ra.mono (ex3.trans (ex4.trans (ex5.trans ex6)))
        refine ⟨fun j k H => k = us.length - j ∧ j ≤ us.length ∧ ∃ (acc : List PV) (accv : List V) (F : Hp) (r : List Addr) (s : Store) (rest : List PV),
          Ext F6 r6 F r ∧ Rel K mg (upd Z D (.lst accv)) F r s H ∧ RepL K mg F r acc accv ∧ compV ft1 tt1 fe (wipeE e1 vs1) (us.drop j) s = .ok rest t4 ∧ acc ++ (rest ++ ws) = ys, ?_, ?_⟩
        · exact ⟨_, rfl, Nat.zero_le _, acc, accv, F6, r6, t3, zs, Ext.refl, rl6, ra6, by simpa using q4, hy⟩
        · rintro j k H7 ⟨rfl, hj, acc7, accv7, F7, r7, s7, rest7, ex7, rl7, ra7, eq7, hy7⟩
          have it7 := it1 (upd Z D (.lst accv7)) F7 r7 s7 H7 ex7 rl7
          obtain ⟨ig7, is7⟩ := it7
          by_cases hlt7 : j < us.length
          · right
            have ed7 : us.drop j = us[j] :: us.drop (j + 1) := List.drop_eq_getElem_cons hlt7
            obtain ⟨go7, yl7⟩ := ig7 j us[j] (by simp [hlt7])
            refine ⟨go7, fun H' => ∃ (acc : List PV) (accv : List V) (F : Hp) (r : List Addr) (s : Store) (rest : List PV),
              Ext F6 r6 F r ∧ Rel K mg (upd Z D (.lst accv)) F r s H' ∧ RepL K mg F r acc accv ∧ compV ft1 tt1 fe (wipeE e1 vs1) (us.drop (j + 1)) s = .ok rest t4 ∧ acc ++ (rest ++ ws) = ys,
              fun H' h => ⟨us.length - (j + 1), by omega, rfl, hlt7, h⟩, fun x8 H8 y8 => ?_⟩
            obtain ⟨F8, ex8, rl8, rx8⟩ := yl7 x8 H8 y8
            rw [ed7] at eq7
            unfold compV at eq7
            obtain ⟨e9, t9, q9, eq7⟩ := bind_ok eq7
            obtain ⟨b9, t10, q10, eq7⟩ := bind_ok eq7
            refine ⟨_, F8, r7, wipeE e1 vs1, s7, us[j], rl8, ((re5.mono ex6).mono (ex7.trans ex8)).wipe vs1, rx8, ?_⟩
            rw [q9]
            intro F9 r9 H9 ex9 rl9 σ9 re9 k9
            have hl9 : σ9.length = σ4.length := by rw [k9.1, L2.wipe_length]
            refine ⟨wipe_eq hl9 k9.2, _, F9, r9, e9, t9, rl9, re9, ?_⟩
            rw [q10]
            intro F10 r10 H10 ex10 rl10
            cases b9 with
            | true =>
              rw [if_pos rfl] at eq7 ⊢
              obtain ⟨y', t11, q11, eq7⟩ := bind_ok eq7
              obtain ⟨zs', t12, q12, eq7⟩ := bind_ok eq7
              cases eq7
              refine ⟨_, F10, r10, e9, t10, rl10, re9.mono ex10, ?_⟩
              rw [q11]
              intro F11 r11 H11 ex11 rl11 v11 rv11
              refine ⟨accv7, (rl11.zf D _ upd_same).1, ?_, acc7 ++ [y'], accv7 ++ [v11], F11, r11, t11, zs', ?_, zwrite rl11, ?_, q12, ?_⟩
              · have h1 : acc7.length = accv7.length := ra7.len
                have h2 : (acc7 ++ (y' :: zs' ++ ws)).length = ys.length := by rw [hy7]
                simp at h2
                omega
              · exact ex7.trans (ex8.trans (ex9.trans (ex10.trans ex11)))
              · exact (ra7.mono (ex8.trans (ex9.trans (ex10.trans ex11)))).app (RepL.cons rv11 RepL.nil)
              · rw [← hy7]; simp
            | false =>
              rw [if_neg Bool.false_ne_true] at eq7 ⊢
              exact ⟨acc7, accv7, F10, r10, t10, rest7, ex7.trans (ex8.trans (ex9.trans ex10)), rl10, ra7.mono (ex8.trans (ex9.trans ex10)), eq7, hy7⟩
          · left
            have hj' : j = us.length := by omega
            subst hj'
            refine ⟨is7, ?_⟩
            rw [List.drop_length] at eq7
            cases eq7
            exact ⟨acc7, accv7, F7, r7, _, ws, exB.trans ex7, rl7, ra7, q5, by simpa using hy7⟩
    · left
      have hi' : i = xs.length := by omega
      subst hi'
      refine ⟨is, ?_⟩
      rw [List.drop_length] at eq
      cases eq
      rw [List.append_nil] at hy
      subst hy
      obtain ⟨d1, d2, d3⟩ := rl2.zf D _ upd_same
      have z := o4 F r (off H2 D) ex (zoff rl2 hZD) D accv off_same hys ra
      rw [off_upd d1] at z
      exact z
end
section
variable {X : Cx} {E : XK} {a b e elt tg iter tg1 iter1 : Expr} {ifs ifs1 : List Expr} {scope : Scope} {own : List (Str × Nat)} {vs1 : List Nat} {g g1 : XL} {ft ft1 : PV → Ev → Store → R Ev} {tt tt1 : Ev → Store → R Bool} {fe fa : XE} {pos : Pos}
theorem jf_lc2 (hc : X.calm = true) (hN : X.N.Nodup) (ok : BlkOk X.N X.env.scope scope own) (hv : ∀ i ∈ vs1, i ∈ own.map (·.2)) (hi : JI X E tg iter g)
    (hg : Blk X scope fun Y => JGv Y E0 (own.map (·.2)) tg ft) (ht : Blk X scope fun Y => JTs Y E0 ifs tt) (hi1 : Blk X scope fun Y => JI Y E0 tg1 iter1 g1) (hg1 : Blk X scope fun Y => JGv Y E0 vs1 tg1 ft1) (ht1 : Blk X scope fun Y => JTs Y E0 ifs1 tt1) (he : Blk X scope fun Y => JE Y E0 elt fe)
    (hs : ∀ x, foldedSetIterable iter X.env x = pure x := by intro _; rfl) (hs1 : ∀ (env : Env) x, foldedSetIterable iter1 env x = pure x := by intro _ _; rfl) : JF X E (.ListComp elt [⟨tg, iter, ifs, 0⟩, ⟨tg1, iter1, ifs1, 0⟩] scope pos) (fComp2 g ft tt g1 ft1 tt1 fe (own.map (·.2)) vs1) := by
  obtain ⟨wi, pw, sw⟩ := hi
  exact ⟨_, pe_lc2 hc hN pw ok hv (fun s H C cl fp => (hg s H C cl fp).pe) (fun s H C cl fp => (ht s H C cl fp).pe) (fun s H C cl fp => (hi1 s H C cl fp).pe) (fun s H C cl fp => (hg1 s H C cl fp).pe) (fun s H C cl fp => (ht1 s H C cl fp).pe) (fun s H C cl fp => (he s H C cl fp).pe) hs hs1, lc2_read sw⟩
theorem js_setLc {i : Nat} {y : Str} {py spos : Pos} (hc : X.calm = true) (hN : X.N.Nodup) (ok : BlkOk X.N X.env.scope scope own) (hi : JI X E tg iter g)
    (hg : Blk X scope fun Y => JGv Y E0 (own.map (·.2)) tg ft) (ht : Blk X scope fun Y => JTs Y E0 ifs tt) (he : Blk X scope fun Y => JE Y E0 elt fe)
    (hsw : swapsWith (.ListComp elt [⟨tg, iter, ifs, 0⟩] scope pos) (some (.Name y py)) spos.line X.env = pure true := by exact sw_true rfl rfl rfl (by decide +kernel)) (hy : X.N[i]? = some y := by rfl) (hyl : X.env.scope.names.lookup y = some .local := by rfl)
    (hs : ∀ x, foldedSetIterable iter X.env x = pure x := by intro _; rfl) : JS X E (.Assign [.Name y py] (.ListComp elt [⟨tg, iter, ifs, 0⟩] scope pos) spos) (sSet i (eFz (fComp g ft tt fe (own.map (·.2))))) := by
  obtain ⟨wi, pw, sw⟩ := hi
  exact ⟨_, ps_setLc hc hN hy hyl hsw pw ok (fun s H C cl fp => (hg s H C cl fp).pe) (fun s H C cl fp => (ht s H C cl fp).pe) (fun s H C cl fp => (he s H C cl fp).pe) hs, ss_set (sf_fz (lc_read sw))⟩
theorem js_setLcOw {i : Nat} {y : Str} {py spos : Pos} (hc : X.calm = true) (hN : X.N.Nodup) (ok : BlkOk X.N X.env.scope scope own) (hi : JI X E tg iter g)
    (hg : Blk X scope fun Y => JGv Y E0 (own.map (·.2)) tg ft) (ht : Blk X scope fun Y => JTs Y E0 ifs tt) (he : Blk X scope fun Y => JE Y E0 elt fe)
    (hsw : swapsWith (.ListComp elt [⟨tg, iter, ifs, 0⟩] scope pos) (some (.Name y py)) spos.line X.env = pure true := by exact sw_true rfl rfl rfl (by decide +kernel)) (hy : X.N[i]? = some y := by rfl) (hyl : X.env.scope.names.lookup y = some .local := by rfl)
    (hs : ∀ x, foldedSetIterable iter X.env x = pure x := by intro _; rfl) : JS X E (.Assign [.Name y py] (.ListComp elt [⟨tg, iter, ifs, 0⟩] scope pos) spos) (sSet i (eOw (fComp g ft tt fe (own.map (·.2))))) := by
  obtain ⟨wi, pw, sw⟩ := hi
  exact ⟨_, ps_setLc hc hN hy hyl hsw pw ok (fun s H C cl fp => (hg s H C cl fp).pe) (fun s H C cl fp => (ht s H C cl fp).pe) (fun s H C cl fp => (he s H C cl fp).pe) hs, ss_set (sf_ow (lc_read sw))⟩
theorem js_setLc2 {i : Nat} {y : Str} {py spos : Pos} (hc : X.calm = true) (hN : X.N.Nodup) (ok : BlkOk X.N X.env.scope scope own) (hv : ∀ i ∈ vs1, i ∈ own.map (·.2)) (hi : JI X E tg iter g)
    (hg : Blk X scope fun Y => JGv Y E0 (own.map (·.2)) tg ft) (ht : Blk X scope fun Y => JTs Y E0 ifs tt) (hi1 : Blk X scope fun Y => JI Y E0 tg1 iter1 g1) (hg1 : Blk X scope fun Y => JGv Y E0 vs1 tg1 ft1) (ht1 : Blk X scope fun Y => JTs Y E0 ifs1 tt1) (he : Blk X scope fun Y => JE Y E0 elt fe)
    (hsw : swapsWith (.ListComp elt [⟨tg, iter, ifs, 0⟩, ⟨tg1, iter1, ifs1, 0⟩] scope pos) (some (.Name y py)) spos.line X.env = pure true := by exact sw_true rfl rfl rfl (by decide +kernel)) (hy : X.N[i]? = some y := by rfl) (hyl : X.env.scope.names.lookup y = some .local := by rfl)
    (hs : ∀ x, foldedSetIterable iter X.env x = pure x := by intro _; rfl) (hs1 : ∀ (env : Env) x, foldedSetIterable iter1 env x = pure x := by intro _ _; rfl) : JS X E (.Assign [.Name y py] (.ListComp elt [⟨tg, iter, ifs, 0⟩, ⟨tg1, iter1, ifs1, 0⟩] scope pos) spos) (sSet i (eFz (fComp2 g ft tt g1 ft1 tt1 fe (own.map (·.2)) vs1))) := by
  obtain ⟨wi, pw, sw⟩ := hi
  exact ⟨_, ps_setLc2 hc hN hy hyl hsw pw ok hv (fun s H C cl fp => (hg s H C cl fp).pe) (fun s H C cl fp => (ht s H C cl fp).pe) (fun s H C cl fp => (hi1 s H C cl fp).pe) (fun s H C cl fp => (hg1 s H C cl fp).pe) (fun s H C cl fp => (ht1 s H C cl fp).pe) (fun s H C cl fp => (he s H C cl fp).pe) hs hs1, ss_set (sf_fz (lc2_read sw))⟩
/-! three names at once -/
def sPar3 (i j l : Nat) (f : XL) : XS := fun env st => (f env st).bind fun vs s => match vs with
  | [v, w, u] => .ok (.nx (((env.set i (some v)).set j (some w)).set l (some u))) s
  | _ => .no
theorem rep3 {K : PySem.W.Frag} {mg : Str → Option Value} {Fz : Hp} {ρ : List Addr} {p q r : PV} {vs : List V} (h : RepL K mg Fz ρ [p, q, r] vs) : ∃ v u w, vs = [v, u, w] ∧ Rep K mg Fz ρ p v ∧ Rep K mg Fz ρ q u ∧ Rep K mg Fz ρ r w := by
  rw [RepL] at h
  obtain ⟨v, r, rfl, h1, h2⟩ := h
  obtain ⟨u, w, rfl, h3, h4⟩ := rep2 h2
  exact ⟨v, u, w, rfl, h1, h3, h4⟩
theorem js_par3 {i j l : Nat} {x y z : Str} {c : Expr} {f : XL} {px py pz pt : Pos} {kt k2 pt2} (hc : X.calm = true) (hN : X.N.Nodup) (ha : JA X E [a, b, c] f) (hi : X.N[i]? = some x := by rfl) (hj : X.N[j]? = some y := by rfl) (hl : X.N[l]? = some z := by rfl) (hij : i ≠ j := by decide) (hil : i ≠ l := by decide) (hjl : j ≠ l := by decide)
    (hx : X.env.scope.names.lookup x = some .local := by rfl) (hy : X.env.scope.names.lookup y = some .local := by rfl) (hz : X.env.scope.names.lookup z = some .local := by rfl)
    (hw : swappedStores [.Tuple [.Name x px, .Name y py, .Name z pz] kt pt] (.Tuple [a, b, c] k2 pt2) X.env = pure (some [x, y, z]) := by rfl)
    (hs : swapsWithSole [.Tuple [.Name x px, .Name y py, .Name z pz] kt pt] (.Tuple [a, b, c] k2 pt2) pos.line X.env = pure false := by rfl) :
    JS X E (.Assign [.Tuple [.Name x px, .Name y py, .Name z pz] kt pt] (.Tuple [a, b, c] k2 pt2) pos) (sPar3 i j l f) := by
  obtain ⟨t, p, s⟩ := ha
  refine ⟨_, ps_par3 hc hN hi hj hl hij hil hjl hx hy hz p hw hs, fun Z Fz ρ env st σ H D rl re o => ?_⟩
  refine s Z Fz ρ env st σ H _ rl re (o.seq.mono fun vs s1 F1 r1 H1 hq ex1 rl1 o1 vs' rv => ?_)
  clear hq
  split at o1
  · obtain ⟨v, u, w, rfl, r1, r2, r3⟩ := rep3 rv
    exact ⟨v, u, w, rfl, o1.here rl1 _ ((((re.mono ex1).set r1 i).set r2 j).set r3 l)⟩
  · exact o1.elim
/-! truth -/
def tTru (f : XE) : Ev → Store → R Bool := fun env st => (f env st).bind fun v s => match v with
  | .str z => if z.length ≤ sizeLine then .ok ((z.length : Int) != 0) s else .no
  | .bl b => .ok b s
  | .non => .ok false s
  | .int i => .ok (i != 0) s
  | _ => .no
theorem jt_truth (h : JE X E a fa) (he : ∀ whole, isTrue a X.env whole = (do let v ← whole; standAt a.pos; holding [v] (truthy v)) := by intro _; rfl) : JT X E a (tTru fa) := by
  obtain ⟨t, p, s⟩ := h
  refine ⟨_, pt_truth p he, fun Z Fz ρ env st σ H Q rl re o => s Z Fz ρ env st σ H _ rl re (o.seq.mono fun v s1 F1 r1 H1 hq ex1 rl1 o1 v' rv => ?_)⟩
  clear hq
  split at o1
  · split at o1
    · rename_i hz
      rw [Rep] at rv
      subst rv
      exact ⟨_, ⟨hz, rfl⟩, o1.here rl1⟩
    · exact o1.elim
  · rw [Rep] at rv; subst rv; exact ⟨_, rfl, o1.here rl1⟩
  · rw [Rep] at rv; subst rv; exact ⟨_, rfl, o1.here rl1⟩
  · rw [Rep] at rv; subst rv; exact ⟨_, rfl, o1.here rl1⟩
  · exact o1.elim
end
end Lq
end
section
set_option Elab.async false
set_option linter.all false
set_option maxRecDepth 100000
/-! enumerate of a tuple; zip of a tuple and a list, of a list and a tuple. -/
namespace Lq
open PySem PySem.Spec PyProof.Rows L2
open AutoSeq1 (wpAny_loadPart')

theorem enum_new_tup (t : Addr) (items : Array Value) (n : Nat) (dct : Option Addr) (sl : Array (Option Value)) :
    Meets (Builtin.«enumerate.__new__» ⟨[.type "enumerate", .ref t], []⟩) (fun _ R s => s.heap.get? t = some { cls := .type "tuple", dict := dct, data := .seq items n, slots := sl } ∧
      R (.ok (.ret (.ref (s.heap.push { cls := .type "tuple_iterator", data := .fields #[.ref t, .int 0 0] }).objs.size)))
        { s with heap := (s.heap.push { cls := .type "tuple_iterator", data := .fields #[.ref t, .int 0 0] }).push { cls := .type "enumerate", data := .fields #[.none, .bool false, .ref s.heap.objs.size, rawInt 0, .none, .none] } }) :=
  .of_wp fun prog w A R s h => by
    obtain ⟨hp, g, d, tk, os⟩ := s
    obtain ⟨ht, h⟩ := h
    have hsub := sub_enumerate
    have hT : Heap.IsTuple (Shared.heap ⟨hp, g, d, tk, os⟩) t items := ⟨_, ht, rfl, n, rfl⟩
    wp_walk using wpAny_loadPart' ht
    refine wpAny_stack_any fun st => wpAny_pure ?_
    split
    · rename_i c _ _ _ _ _
      cases (c == Value.type "enumerate") <;> (wp_walk using wpAny_loadPart' ht, wpAny_pyIter_tuple hT; exact ⟨_, rfl, h⟩)
    · wp_walk using wpAny_loadPart' ht, wpAny_pyIter_tuple hT
      exact ⟨_, rfl, h⟩
theorem call_enum_tup {prog : Program} {w : World} {A : Around} {E : Value → Shared → Prop} {s : Shared} {t : Addr} {items : Array Value} {Q : Value → Shared → Prop} (hT : s.heap.IsTuple t items)
    (h : ∀ h', IsEnum h' (s.heap.objs.size + 1) s.heap.objs.size 0 .none → h'.IsTupleIter s.heap.objs.size t 0 → (∀ b o, s.heap.get? b = some o → h'.get? b = some o) → Q (.ref (s.heap.objs.size + 1)) { s with heap := h' }) :
    wpAny (model prog w) A (call (.type "enumerate") [.ref t]) Q E s := by
  obtain ⟨⟨c, dct, dt, sl⟩, ht, hc, n, hd⟩ := hT
  replace hc : c = .type "tuple" := hc
  replace hd : dt = .seq items n := hd
  subst hc hd
  refine callType_new F.called_enumerate (by decide) (F.typeCall_enumerate_1 _) (F.newCall_enumerate_1 _) (fun obj => F.args_object_init_2 obj _) F.entry_enumerate_new (enum_new_tup t items n dct sl) ⟨ht, ?_⟩
  have z1 : (s.heap.push { cls := .type "tuple_iterator", data := .fields #[.ref t, .int 0 0] }).objs.size = s.heap.objs.size + 1 := Heap.size_push ..
  show _ ∧ _
  rw [z1]
  have e0 := Heap.get?_push_size (s.heap.push { cls := .type "tuple_iterator", data := .fields #[.ref t, .int 0 0] }) (o := { cls := .type "enumerate", data := .fields #[.none, .bool false, .ref s.heap.objs.size, rawInt 0, .none, .none] }) rfl
  rw [z1] at e0
  exact ⟨⟨_, e0, rfl⟩, h _ e0 ⟨_, Heap.get?_push_of_some _ (Heap.get?_push_size _ rfl), rfl, rfl⟩ fun b o x => Heap.get?_push_of_some _ (Heap.get?_push_of_some _ x)⟩
/-- the tuple at a, each item in a new pair with its number -/
def ItE (K : PySem.W.Frag) (a : Addr) : It :=
  ⟨fun i H => ∃ (xs : List V) (x : V), SqT K H a xs ∧ xs[i]? = some x, fun i H v H' => ∃ T x, v = .ref T ∧ H T = none ∧ H' = upd H T (.tup [.int (i : Nat), x]) ∧ ∀ xs, SqT K H a xs → xs[i]? = some x, fun i H => ∃ xs : List V, SqT K H a xs ∧ xs.length = i⟩
theorem turn_enumTup {P : Program} {w : World} {K : PySem.W.Frag} {elts : List Expr} {kk : Nat} {tpos : Pos} (a e it : Addr) :
    Turn P w K (.Tuple elts kk tpos) (ItE K a) [e, it] e (fun i h => (∃ old, IsEnum h e it ((i : Nat) : Int) old) ∧ h.IsTupleIter it a i ∧ e ≠ it) where
  mem := by simp
  obj := fun i h st b hb => by
    obtain ⟨⟨old, he⟩, ⟨o, ho, hc, hd⟩, _⟩ := st
    rw [List.mem_cons, List.mem_singleton] at hb
    rcases hb with rfl | rfl
    · exact ⟨_, he, fun v q => nomatch q⟩
    · exact ⟨o, ho, fun v q => by rw [hd] at q; cases q⟩
  keep := fun i h h' st k => ⟨⟨st.1.choose, k e (by simp) _ st.1.choose_spec⟩, st.2.1.at fun o q => k it (by simp) o q, st.2.2⟩
  item := by
    intro X hP hw hK hc i pins s σ H E I hf st hg
    subst hP hw hK
    obtain ⟨⟨old, he⟩, hit, hne⟩ := st
    obtain ⟨xs, x, hq, hx⟩ := hg
    obtain ⟨its, rv, tp, hz⟩ := I.tuple hq
    obtain ⟨u, hu, ru⟩ := rv.get hx
    have le : e < s.heap.objs.size := Heap.lt_size he
    have li : it < s.heap.objs.size := by obtain ⟨_, q, _⟩ := hit; exact Heap.lt_size q
    have hlt : i < its.toArray.size := by
      have := (List.getElem?_eq_some_iff.mp hu).1
      simpa using this
    have ita : ∀ {b : Addr} {o : Obj}, s.heap.get? b = some o → o.cls = .type "tuple" → b ≠ e ∧ b ≠ it := fun {b o} q qc => by
      refine ⟨fun z => ?_, fun z => ?_⟩
      · subst z; rw [he] at q; cases q; exact absurd qc (by simp)
      · subst z
        obtain ⟨o', q', qc', _⟩ := hit
        rw [q] at q'; cases q'; rw [qc] at qc'; exact absurd qc' (by simp)
    obtain ⟨ot, got, ct, _⟩ := id tp
    obtain ⟨nae, nai⟩ := ita got ct
    refine wpAny_pyNext_enum_itemD (Draws.tuple (A := X.A.in1) (by exact I.ok.hd hc) it a nai its.toArray) he ⟨hit, (show s.heap.IsTuple a its.toArray from tp)⟩ hlt hne (by simp [hne, nae.symm]) fun u' h' tk hP ho st' hT hsz hk => ?_
    have eu : u' = u := by
      have hP' : its.toArray[i]? = some u' := hP
      rw [List.getElem?_toArray, hu] at hP'
      cases hP'; rfl
    subst eu
    refine ⟨_, rfl, wpAny_letOwnedTupleGo_enum (s := { s with heap := h', toks := tk + 1 }) ho fun h'' he' sb => ?_⟩
    have hT2 : h''.get? s.heap.objs.size = some { cls := .type "tuple", data := .seq #[.int i tk, u'] } := (sb.2 _ (Nat.ne_of_gt le)).trans hT
    have new : ObjOk X.prog X.w (upd H s.heap.objs.size (.tup [.int (i : Nat), x])) h'' s.heap.objs.size (.tup [.int (i : Nat), x]) :=
      ⟨(by decide : 2 ≤ sizeLine), [.int i tk, u'], .cons ⟨_, rfl⟩ (.cons ru .nil), ⟨_, hT2, rfl, _, rfl⟩⟩
    have I1 := I.turnedNew (t' := tk + 1) (ch := [e, it]) (fun b ob hb q => (sb.2 b (fun z => hb (by simp [z]))).trans (hk b ob (fun z => hb (by simp [z])) (fun z => hb (by simp [z])) q)) hf Nat.le.refl new
    refine ⟨.ref s.heap.objs.size, _, I1, rfl, ⟨_, x, rfl, I.hok.fresh Nat.le.refl, rfl, fun ys hy => ?_⟩, ⟨⟨u', ?_⟩, st'.1.at fun o q => (sb.2 it hne.symm).trans q, hne⟩, fun b hb => ?_⟩
    · rw [I.tuple_inj hy hq]; exact hx
    · rw [show ((i + 1 : Nat) : Int) = (i : Int) + 1 by omega]; exact he'
    · rw [List.mem_cons, List.mem_singleton] at hb
      have lb : b < s.heap.objs.size := by rcases hb with rfl | rfl <;> assumption
      rw [upd_ne (Nat.ne_of_lt lb)]
      exact (hf b (by simpa using hb)).1
  done := by
    intro X hP hw hK hc i pins s σ H E I hf st hg
    subst hP hw hK
    obtain ⟨⟨old, he⟩, hit, hne⟩ := st
    obtain ⟨xs, hq, hx⟩ := hg
    obtain ⟨its, rv, tp, hz⟩ := I.tuple hq
    obtain ⟨f0, f1, f2, f3, f4, f5⟩ := hf it (by simp)
    have hl := rv.length
    obtain ⟨ot, got, ct, _⟩ := id tp
    have nai : a ≠ it := fun z => by
      subst z
      obtain ⟨o', q', qc', _⟩ := hit
      rw [got] at q'; cases q'; rw [ct] at qc'; exact absurd qc' (by simp)
    have en : i = its.toArray.size := by simp; omega
    subst en
    exact wpAny_pyNext_enum_endD (Draws.tuple (A := X.A.in1) (by exact I.ok.hd hc) it a nai its.toArray) he ⟨hit, (show s.heap.IsTuple a its.toArray from tp)⟩ fun h' eb => ⟨rfl, I.turned (t' := s.toks) (fun b o hb q => eb b o hb q) f0 f1 f3 f4 f5⟩
  self := fun A i s Q E st h => wpAny_pyIter_enum st.1.choose_spec h
/-- enumerate(e), e a list or a tuple -/
theorem pi_enumTup {X : Cx} {e : Expr} {ta : TA} {p pos tpos : Pos} {elts : List Expr} {kk : Nat} (hg : Gl X "enumerate") (hm : X.mg "enumerate" = none) (ha : PA X [e] ta) (hs : starEach [e] X.env = [(false, eval e X.env)] := by rfl) :
    PI X (.Tuple elts kk tpos) (.Call (.Name "enumerate" p) [e] [] pos) (fun σ H R => ta σ H fun vs H1 => ∃ a xs, vs = [.ref a] ∧ SqT X.K H1 a xs ∧ R (ItE X.K a) H1) := by
  refine ⟨fun pins s σ H R I h => ?_⟩
  refine Call_ (ld_blt I hg hm boot_enumerate (PyProof.Rows.callWith_type1 (thn (ha.run pos pins s σ H _ I h) fun us s1 w1 => ?_) hs rfl))
  obtain ⟨vs, G, J, rs, d, xs, rfl, sq, k⟩ := w1
  match us, rs with
  | [u], .cons r1 .nil =>
    obtain rfl : u = Value.ref d := r1
    obtain ⟨its, rv, tp, _⟩ := J.tuple sq
    refine call_enum_tup (show s1.heap.IsTuple d its.toArray from tp) fun h' he hit hk => wpAny_pyIter_enum he ?_
    refine ⟨_, [s1.heap.objs.size + 1, s1.heap.objs.size], _, _, G, rfl, J.kept (t' := s1.toks) hk, turn_enumTup d (s1.heap.objs.size + 1) s1.heap.objs.size, ⟨⟨.none, he⟩, hit, Nat.succ_ne_self _⟩, fun b hb => ?_, k⟩
    have lb : s1.heap.objs.size ≤ b := by
      rw [List.mem_cons, List.mem_singleton] at hb
      rcases hb with rfl | rfl <;> omega
    exact J.fpOk lb (J.hok.fresh lb)
theorem itv_enumT {K : PySem.W.Frag} {mg : Str → Option Value} {Z Fz : Hp} {ρ : List Addr} {c : Addr} {vs : List V} {xs : List PV} (s : SqT K Fz c vs) (r : RepL K mg Fz ρ xs vs) : ItV K mg (ItE K c) Z Fz ρ (nums xs) := fun Z' F1 r1 st H ex rl => by
  have s1 : SqT K H c vs := sqT_mono rl.fz (sqT_mono ex.fz s)
  refine ⟨fun i x e => ?_, ⟨vs, s1, ?_⟩⟩
  · obtain ⟨p, q, e1, e2, rfl⟩ := pairs_get _ _ i x e
    obtain ⟨v, f1, rv⟩ := r.get e2
    have hi : i < xs.length := (List.getElem?_eq_some_iff.mp e2).1
    rw [rng_get hi] at e1
    cases e1
    refine ⟨⟨vs, v, s1, f1⟩, fun z H' y => ?_⟩
    obtain ⟨T, x0, rfl, hT, rfl, k1⟩ := y
    have := k1 vs s1; rw [f1] at this; cases this
    exact rep_pair rl hT (by rw [Rep]; simp) (rv.mono ex)
  · unfold nums
    rw [pairs_len]
    simp [rng, r.len]
def iEnumT (f : XL) : XL := fun env st => (f env st).bind fun vs s => match vs with
  | [.tup xs] => .ok (nums xs) s
  | [p] => (match asVL s p with
    | some xs => .ok (nums xs) s
    | _ => .no)
  | _ => .no
section
variable {X : Cx} {E : XK} {a b : Expr} {p pos : Pos}
theorem ji_enumT {f : XL} {elts : List Expr} {kk : Nat} {tpos : Pos} (ha : JA X E [a] f) (hm : X.mg "enumerate" = none) (hg : Gl X "enumerate" := by rfl) (hs : starEach [a] X.env = [(false, eval a X.env)] := by rfl) :
    JI X E (.Tuple elts kk tpos) (.Call (.Name "enumerate" p) [a] [] pos) (iEnumT f) := by
  have pf := ha.pe
  refine ⟨_, PI.or (pi_enumTup hg hm pf hs) (pi_enum hg hm pf hs), fun Z Fz ρ env st σ H RR rl hh o => ?_⟩
  have o' : Out X.K X.mg Z E Fz ρ ((f env st).bind fun vs s => match vs with
    | [.tup xs] => R.ok (nums xs) s
    | [p] => (match asVL s p with
      | some xs => .ok (nums xs) s
      | _ => .no)
    | _ => .no) _ := o
  cases ef : f env st with
  | no => rw [ef] at o'; exact o'.elim
  | ex c s =>
    refine .inl ⟨Z, Fz, ρ, env, st, rl, hh, ?_⟩
    rw [ef] at o' ⊢
    exact o'
  | ok vs s =>
    rw [ef] at o'
    have o2 : Out X.K X.mg Z E Fz ρ (match vs with
      | [.tup xs] => R.ok (nums xs) s
      | [p] => (match asVL s p with
        | some xs => .ok (nums xs) s
        | _ => .no)
      | _ => .no) _ := o'
    split at o2
    · refine .inl ⟨Z, Fz, ρ, env, st, rl, hh, ?_⟩
      rw [ef]
      intro F1 r1 H1 ex1 rl1 vs' rv0
      obtain ⟨v, rfl, rv⟩ := rep1 rv0
      rw [Rep] at rv
      obtain ⟨d, ws, rfl, sq, hl, rr⟩ := rv
      exact ⟨d, ws, rfl, sqT_mono rl1.fz sq, o2 F1 r1 H1 ex1 rl1 _ (by unfold nums; rw [pairs_len]; omega) (itv_enumT sq rr)⟩
    · split at o2
      · rename_i q ps e1
        refine .inr ⟨Z, Fz, ρ, env, st, rl, hh, ?_⟩
        rw [ef]
        intro F1 r1 H1 ex1 rl1 vs' rv0
        obtain ⟨v, rfl, rv⟩ := rep1 rv0
        obtain ⟨d, ws, rfl, sq, hl, rr⟩ := asVL_ok rl1 rv e1
        exact ⟨d, ws, rfl, sqL_mono rl1.fz sq, o2 F1 r1 H1 ex1 rl1 _ (by unfold nums; rw [pairs_len]; omega) (itv_enum sq rr)⟩
      · exact o2.elim
    · exact o2.elim
end
end Lq
end
section
set_option Elab.async false
set_option linter.all false
set_option maxRecDepth 10000
/-! The head's facts; the end. -/
namespace Lq
open PySem PySem.Spec PyProof.Rows L2

def excs : List Str := ["InvalidThings", "InvalidTold", "InvalidWeights", "InvalidLot", "InvalidComparison", "InvalidNumber", "InvalidText", "NotSure", "NoneAgree", "TooMany", "NothingToUndo"]
/-- isinstance of an error of the class c, asked about y -/
def excIs (y c : Str) : Bool := y == "ValueError" || c == y
def okO (a b : Option (Option Value)) : Bool := decide (a = b)
def exC1 (K : PySem.W.Frag) (D : Addr) : Bool :=
  decide (PySem.W.findIn K (.ref D) "__getattribute__" = some (some (.builtin "BaseException.__getattribute__"))) && (decide (PySem.W.findIn K (.ref D) "__getattr__" = some none) &&
  (decide (PySem.W.subIn K (.ref D) (.type "BaseException") = some true) && (PySem.W.hasDictIn K D &&
  (decide (PySem.W.findIn K (.ref D) "__class__" = some (some (.builtin "object.__class__"))) && (decide (PySem.W.specialIn K (.builtin "object.__class__") "__get__" = some (some (.builtin "getset_descriptor.__get__"))) &&
  (decide (PySem.W.takesIn K (.builtin "object.__class__") = some true) && decide (PySem.W.mroIn K D (.type "object") = some true)))))))
theorem exC1_ok {K : PySem.W.Frag} {D : Addr} (h : exC1 K D = true) : ExcC K D := by
  unfold exC1 at h
  simp only [Bool.and_eq_true, decide_eq_true_eq] at h
  exact ⟨h.1, h.2.1, h.2.2.1, h.2.2.2.1, h.2.2.2.2.1, h.2.2.2.2.2.1, h.2.2.2.2.2.2.1, h.2.2.2.2.2.2.2⟩
/-- what is asked of the classes of errors -/
def exB (K : PySem.W.Frag) : Bool := excs.all fun c =>
  decide (PySem.W.nsIn K mainGlobals c = some (some (.ref (He.ga K c)))) && ((He.Fa.exc c).ok K && (exC1 K (He.ga K c) && (decide (PySem.W.exmOne K (.ref (He.ga K c)) (.ref (He.ga K "ScaleError")) = some true) &&
    (decide (PySem.W.kitOne K (.ref (He.ga K c)) (.type "ValueError") = some true) && excs.all fun y => decide (PySem.W.kitOne K (.ref (He.ga K c)) (.ref (He.ga K y)) = some (c == y))))))
def frB (frees : List Str) (K : PySem.W.Frag) : Bool := frees.all fun x => decide (PySem.W.nsIn K mainGlobals x = some none)
/-- the own classes, their fields -/
def clB (cls : List (Str × List Str)) (K : PySem.W.Frag) : Bool := cls.all fun c => decide (PySem.W.nsIn K mainGlobals c.1 = some (some (.ref (He.ga K c.1)))) && ((He.Fa.cls c.1).ok K && c.2.all fun f => decide (PySem.W.findIn K (.ref (He.ga K c.1)) f = some none))
def sgs : List He.Dv := [.str ">", .str ">=", .str "="]
def sgB (K : PySem.W.Frag) : Bool := decide (PySem.W.nsIn K mainGlobals "SIGNS" = some (some (.ref (He.ga K "SIGNS")))) && He.tupB K "SIGNS" sgs
/-- what is asked of the head: names left free, the errors?, the classes, SIGNS? -/
structure Ask where
  frees : List Str
  exq : Bool
  cls : List (Str × List Str)
  sgq : Bool
/-- what the head tells -/
structure Fx (fa : List He.Fa) (fn : List He.DefD) (q : Ask) (K : PySem.W.Frag) (mg : Str → Option Value) : Prop where
  says : He.SaysD fa fn K
  ns : ∃ h : Heap, K.In h ∧ h.Ns mainGlobals mg
  frs : frB q.frees K = true
  exs : q.exq = true → exB K = true
  clss : clB q.cls K = true
  sgn : q.sgq = true → sgB K = true
def exM (q : Ask) (K : PySem.W.Frag) : Bool := frB q.frees K && ((!q.exq || exB K) && (clB q.cls K && (!q.sgq || sgB K)))
def hookM (n : Nat) (fa : List He.Fa) (fn : List He.DefD) (q : Ask) : PySem.W.Hook where
  α := He.AlD × Bool
  obs := fun s => (He.obsDG n fa fn s.heap.get?, exM q (He.frG s.heap.get? (He.asD s.heap.get? n)))
  val := fun _ => (He.valD fn, true)
  says := fun _ h => ∃ K : PySem.W.Frag, K.In h ∧ He.SaysD fa fn K ∧ exM q K = true
  of := fun _ _ e => ⟨_, He.frG_in, congrArg (fun z : He.AlD × Bool => z.1) e, congrArg (fun z : He.AlD × Bool => z.2) e⟩
  keeps := fun _ _ _ ⟨K, hK, c⟩ k => ⟨K, PySem.W.Frag.In.keeps hK k, c⟩
def obM (n : Nat) (fa : List He.Fa) (fn : List He.DefD) (q : Ask) (s : PySem.W.SharedT) : He.AlD × Bool :=
  (He.obsDG n fa fn (HandSHeadRun.getT s), exM q (He.frG (HandSHeadRun.getT s) (He.asD (HandSHeadRun.getT s) n)))
theorem obM_eq {n : Nat} {fa : List He.Fa} {fn : List He.DefD} {q : Ask} (s : PySem.W.SharedT) : obM n fa fn q s = (hookM n fa fn q).obs s.abs := by
  have e : HandSHeadRun.getT s = s.abs.heap.get? := funext (HandSHeadRun.getT_eq s)
  unfold obM
  rw [e]
  rfl
section
variable {fa : List He.Fa} {fn : List He.DefD} {q : Ask} {K : PySem.W.Frag} {mg : Str → Option Value}
theorem fx_of {h : Heap} (X : K.In h) (G : h.Ns mainGlobals mg) (c : He.SaysD fa fn K) (e : exM q K = true) : Fx fa fn q K mg := by
  unfold exM at e
  simp only [Bool.and_eq_true] at e
  refine ⟨c, ⟨h, X, G⟩, e.1, fun z => ?_, e.2.2.1, fun z => ?_⟩
  · have := e.2.1
    rw [z] at this
    simpa using this
  · have := e.2.2.2
    rw [z] at this
    simpa using this
theorem Fx.fr (G : Fx fa fn q K mg) (x : Str) (hx : x ∈ q.frees) : mg x = none := by
  obtain ⟨h, X, N⟩ := G.ns
  have z := List.all_eq_true.mp G.frs x hx
  exact PySem.W.mg_none_of X N (of_decide_eq_true z)
theorem Fx.glo (G : Fx fa fn q K mg) (i : Nat) {x : Str} (h : fa[i]? = some (.glo x)) : mg x = some (.ref (He.ga K x)) := by
  obtain ⟨hp, X, N⟩ := G.ns
  exact He.glo_ok X N (G.says.fact i h)
theorem Fx.def_ (G : Fx fa fn q K mg) (i : Nat) {d : He.DefD} (h : fn[i]? = some d) (h1 : d.dfl = []) (h2 : d.kwd = []) : ∃ fd, FunD K d.name d.qual d.params d.body d.scope [] [] (He.fAd K d.at_) fd := by
  obtain ⟨fd, F⟩ := G.says.def_ i h
  unfold He.DefD.dvs He.DefD.kws at F
  rw [h1, h2] at F
  exact ⟨fd, F⟩
theorem Fx.exAll (G : Fx fa fn q K mg) (hq : q.exq = true) {c : Str} (hc : c ∈ excs) : mg c = some (.ref (He.ga K c)) ∧ (He.Fa.exc c).ok K = true ∧ ExcC K (He.ga K c) ∧ PySem.W.exmOne K (.ref (He.ga K c)) (.ref (He.ga K "ScaleError")) = some true ∧
    PySem.W.kitOne K (.ref (He.ga K c)) (.type "ValueError") = some true ∧ ∀ y ∈ excs, PySem.W.kitOne K (.ref (He.ga K c)) (.ref (He.ga K y)) = some (c == y) := by
  obtain ⟨hp, X, N⟩ := G.ns
  have z := List.all_eq_true.mp (G.exs hq) c hc
  simp only [Bool.and_eq_true, decide_eq_true_eq] at z
  obtain ⟨z1, z2, z3, z4, z5, z6⟩ := z
  exact ⟨PySem.W.mg_of X N z1, z2, exC1_ok z3, z4, z5, fun y hy => of_decide_eq_true (List.all_eq_true.mp z6 y hy)⟩
theorem Fx.exc (G : Fx fa fn q K mg) (hq : q.exq = true) {X : Cx} (x : Str) (hx : x ∈ excs) (hK : X.K = K := by rfl) (hm : X.mg = mg := by rfl) : ExcF X x := by
  subst hK hm
  obtain ⟨z1, z2, _⟩ := G.exAll hq hx
  obtain ⟨e1, e2, e3, e4⟩ := He.exc_ok z2
  exact ⟨_, z1, e1, e2, raises_own e3 e4⟩
theorem Fx.exm (G : Fx fa fn q K mg) (hq : q.exq = true) {X : Cx} (hK : X.K = K := by rfl) (hm : X.mg = mg := by rfl) : ∀ w ∈ excs, ∃ C, X.mg w = some (.ref C) ∧ PySem.W.exmOne X.K (.ref C) (.ref (He.ga K "ScaleError")) = some true := fun w hw => by
  subst hK hm
  obtain ⟨z1, _, _, z4, _⟩ := G.exAll hq hw
  exact ⟨_, z1, z4⟩
theorem Fx.names (G : Fx fa fn q K mg) (hq : q.exq = true) (i : Nat) (h : fa[i]? = some (.glo "ScaleError")) {X : Cx} (hg : Gl X "ScaleError" := by rfl) (hm : X.mg = mg := by rfl) : Names X "ScaleError" (.ref (He.ga K "ScaleError")) := by
  subst hm
  exact ⟨hg, by decide, .inl (G.glo i h)⟩
/-- isinstance(e, y) of a held error -/
theorem Fx.isE (G : Fx fa fn q K mg) (hq : q.exq = true) {X : Cx} {E : XK} {a : Expr} {p p2 pos : Pos} {f : XE} {y : Str} (hy : y ∈ excs) (ha : JE X E a f) (hi : mg "isinstance" = none) (hK : X.K = K := by rfl) (hm : X.mg = mg := by rfl) (hgy : Gl X y := by rfl) (hdb : (y == ("__debug__" : Str)) = false := by decide)
    (hg : Gl X "isinstance" := by rfl) (hv : (y == "ValueError") = false := by decide) (he : starEach [a, .Name y p2] X.env = (false, eval a X.env) :: starEach [.Name y p2] X.env := by rfl) (hpl : (backTo pos (starEach [.Name y p2] X.env)).any (·.1) = false := by rfl) :
    JE X E (.Call (.Name "isinstance" p) [a, .Name y p2] [] pos) (eIsE (excIs y) excs f) := by
  subst hK hm
  refine je_isE (cV := .ref (He.ga X.K y)) (cv := .ref (He.ga X.K y)) ha (pe_glob hgy (G.exAll hq hy).1 rfl hdb) (fun u r => r) (fun w hw C hC => ?_) hi hg he hpl
  obtain ⟨z1, _, z3, _, _, z6⟩ := G.exAll hq hw
  rw [z1] at hC; cases hC
  refine ⟨z3, ?_⟩
  rw [z6 y hy]
  unfold excIs
  rw [hv, Bool.false_or]
theorem Fx.isV (G : Fx fa fn q K mg) (hq : q.exq = true) {X : Cx} {E : XK} {a : Expr} {p p2 pos : Pos} {f : XE} (ha : JE X E a f) (hi : mg "isinstance" = none) (hv : mg "ValueError" = none) (hK : X.K = K := by rfl) (hm : X.mg = mg := by rfl) (hgy : Gl X "ValueError" := by rfl)
    (hg : Gl X "isinstance" := by rfl) (he : starEach [a, .Name "ValueError" p2] X.env = (false, eval a X.env) :: starEach [.Name "ValueError" p2] X.env := by rfl) (hpl : (backTo pos (starEach [.Name "ValueError" p2] X.env)).any (·.1) = false := by rfl) :
    JE X E (.Call (.Name "isinstance" p) [a, .Name "ValueError" p2] [] pos) (eIsE (excIs "ValueError") excs f) := by
  subst hK hm
  refine je_isE (cV := .ty "ValueError") (cv := .type "ValueError") ha (pe_bltn hgy hv (by decide +kernel) rfl) (fun u r => r) (fun w hw C hC => ?_) hi hg he hpl
  obtain ⟨z1, _, z3, _, z5, _⟩ := G.exAll hq hw
  rw [z1] at hC; cases hC
  exact ⟨z3, z5⟩
end
section
variable {fa : List He.Fa} {fn : List He.DefD} {q : Ask} {P : Program} {w : World} {K : PySem.W.Frag} {mg : Str → Option Value} {base : Heap}
theorem Fx.clsAt (G : Fx fa fn q K mg) (i : Nat) {x : Str} {fs : List Str} (h : q.cls[i]? = some (x, fs)) : mg x = some (.ref (He.ga K x)) ∧ Cls K (He.ga K x) ∧ ∀ f ∈ fs, NoAttr K (He.ga K x) f := by
  obtain ⟨hp, X, N⟩ := G.ns
  have z := List.all_eq_true.mp G.clss _ (List.mem_of_getElem? h)
  simp only [Bool.and_eq_true, decide_eq_true_eq] at z
  exact ⟨PySem.W.mg_of X N z.1, He.cls_ok z.2.1, fun f hf => (show PySem.W.findIn K (.ref (He.ga K x)) f = some none from of_decide_eq_true (List.all_eq_true.mp z.2.2 f hf))⟩
theorem Fx.clsF (G : Fx fa fn q K mg) (i : Nat) {x : Str} {fs : List Str} (h : q.cls[i]? = some (x, fs)) : ClsF K mg x fs := ⟨_, G.clsAt i h⟩
theorem Fx.me (G : Fx fa fn q K mg) (i : Nat) {x m : Str} {fs : List Str} (h : q.cls[i]? = some (x, fs)) (j : Nat) (hm : fa[j]? = some (.meth x m)) {k n : Nat} {f : Fn} {fd : FuncData} {ps : List Str} (hb : Binds K fd ps [])
    (ok : FnOk P w K mg base (L2.CX P w) k (He.fAd K (x, some m)) fd ps (spF K mg n f)) : Me P w K mg base k x m n f :=
  ⟨_, _, fd, ps, (G.clsAt i h).1, (G.clsAt i h).2.1, He.meth_ok (G.says.fact j hm), hb, ok⟩
theorem Fx.mi (G : Fx fa fn q K mg) (i : Nat) {x : Str} {fs : List Str} (h : q.cls[i]? = some (x, fs)) (j : Nat) (hm : fa[j]? = some (.mkr x)) {k n : Nat} {f : Fn} {fd : FuncData} {ps : List Str} (hb : Binds K fd ps [])
    (ok : FnOk P w K mg base (L2.CX P w) k (He.fAd K (x, some "__init__")) fd ps (spF K mg n f)) : Mi P w K mg base k x n f :=
  ⟨_, _, fd, ps, (G.clsAt i h).1, He.mkr_ok (G.says.fact j hm), hb, ok⟩
theorem Fx.signs (G : Fx fa fn q K mg) (hq : q.sgq = true) {X : Cx} {E : XK} {pos : Pos} (hg : Gl X "SIGNS" := by rfl) (hK : X.K = K := by rfl) (hm : X.mg = mg := by rfl) : JE X E (.Name "SIGNS" pos) (eC (.tup [.str ">", .str ">=", .str "="])) := by
  subst hK hm
  obtain ⟨hp, Y, N⟩ := G.ns
  have z := G.sgn hq
  unfold sgB at z
  rw [Bool.and_eq_true, decide_eq_true_eq] at z
  refine je_const (pe_glob hg (PySem.W.mg_of Y N z.1) (v := .ref (He.ga X.K "SIGNS")) rfl) fun Fz ρ => ?_
  rw [Rep]
  exact ⟨_, _, rfl, He.tupB_ok z.2 Fz, (by decide : 3 ≤ sizeLine), RepL.cons (by rw [Rep]; rfl) (RepL.cons (by rw [Rep]; rfl) (RepL.cons (by rw [Rep]; rfl) RepL.nil))⟩
end
section
variable {P : Program} {w : World} {K : PySem.W.Frag} {mg : Str → Option Value} {base : Heap} {N : List Str} {qual : Str} {scope : Scope} {f : Addr} {cdv : Value} {A : Around} {outer : List Env} {s : Shared} {H : Hp} {E : XK}
theorem ctx_tk : L2.Takes (cxOf (L2.CX P w) P w K mg base N qual scope f cdv A outer s H E) (fun cls d _ H => E cls d H) := takes_of rfl rfl rfl rfl
theorem ctx_px : Passes (L2.CX P w) (cxOf (L2.CX P w) P w K mg base N qual scope f cdv A outer s H E) E := passes_call ctx_tk fun _ _ _ _ h => h
theorem ctx_po : PassesOwn (model P w) (cxOf (L2.CX P w) P w K mg base N qual scope f cdv A outer s H E).A (cxOf (L2.CX P w) P w K mg base N qual scope f cdv A outer s H E).env (cxOf (L2.CX P w) P w K mg base N qual scope f cdv A outer s H E).xe := passes_of (X := cxOf (L2.CX P w) P w K mg base N qual scope f cdv A outer s H E) rfl
end
/-- from the law's function to its promise -/
theorem law_sp {K : PySem.W.Frag} {mg : Str → Option Value} {g : Fn} {H : Hp} {a : Addr} {ns : List Int} (hS : SqL K H a (ns.map V.int)) (hl : ns.length ≤ sizeLine) (h : ∃ st, g [.scr ns] [] = .ok (.bl true) st) :
    spF K mg 1 g [.ref a] H (fun v _ => v = .bl true) E0 := by
  obtain ⟨st, e⟩ := h
  have rl : Rel K mg (fun _ => none) H [] [] H := ⟨fun _ _ z => (by cases z), fun _ _ z => z, rfl, fun k a x z => (by cases z), fun k a x z => (by cases z), List.nodup_nil⟩
  refine ⟨rfl, fun _ => none, H, [], [], [.scr ns], rl, RepL.cons (by rw [Rep]; exact ⟨a, rfl, hS, hl⟩) RepL.nil, ?_⟩
  rw [e]
  intro F' r' H' _ _ v' rv
  rw [Rep] at rv
  exact rv
theorem u65 {k : Nat} {A : Around} (hr : Room k A) : A.units + 65 < cLine := by have := hr.un; omega
/-- a def that lets nothing out -/
theorem fn_calm {P : Program} {w : World} {K : PySem.W.Frag} {mg : Str → Option Value} {base : Heap} {k n : Nat} {f : Addr} {fd : FuncData} {ps : List Str} {g : Fn} (F : FnOk P w K mg base (L2.CX P w) k f fd ps (spF K mg n g)) :
    FnOk P w K mg base CX0 k f fd ps (fun vs H Q _ => spF K mg n g vs H Q E0) := by
  refine ⟨fun vs H Q E h => F.len vs H Q E0 h, fun A outer s H args us vs Q E hr he hb hv hs => ?_⟩
  refine codeAny_mono (F.run A outer s H args us vs Q E0 hr he hb hv hs) fun r s' hq => ?_
  cases r with
  | ok fl => cases fl <;> exact hq
  | error e =>
    obtain ⟨_, _, _, _, _, _, _, _, _, _, _, _, z⟩ := hq
    exact z.elim
end Lq
end
section
set_option Elab.async false
set_option linter.all false
set_option maxRecDepth 10000
/-! The law's draws, on pure values. -/
namespace Lq
open PySem PySem.Spec PyProof.Rows L2

def townF : Fn := runF 1
    (sRet (eOw (fAdd (eFz (fDisp (aCons (eC (.int 0)) aNil))) (eFz (fList (eVar 0))))))
def drawF : Fn := runF 6
    (sSeq (sAsg (eBin oAdd (eBin oIx (eVar 1) (eC (.int 0))) (eC (.int 1))) (gSubL (eVar 1) (eC (.int 0))))
    (sSeq (sIf (tE (eBin oEq (eVar 0) (eFz (fDisp aNil)))) (sRet (eBin oMod (eBin oDiv (eBin oMul (eBin oMul (eBin oIx (eVar 1) (eC (.int 0))) (eBin oIx (eVar 1) (eC (.int 0)))) (eC (.int 7))) (eC (.int 3))) (eVar 2))) sNil)
    (sSeq (sSet 3 (eBin oMod (eBin oIx (eVar 1) (eC (.int 0))) (eCB oLen (aCons (eVar 0) aNil))))
    (sSeq (sSet 4 (eBin oIx (eVar 1) (eBin oAdd (eC (.int 1)) (eVar 3))))
    (sSeq (sIf (tAndF (tE (eBin oGeI (eBin oIx (eVar 0) (eVar 3)) (eBin oPow (eC (.int 10)) (eC (.int 18))))) (tE (eBin oGtI (eVar 4) (eC (.int 0))))) (sSeq (sAsg (eBin oDiv (eVar 4) (eVar 2)) (gSubL (eVar 1) (eBin oAdd (eC (.int 1)) (eVar 3))))
    (sRet (eBin oMod (eVar 4) (eVar 2)))) sNil)
    (sSeq (sSet 5 (eBin oMod (eBin oAdd (eBin oIx (eVar 0) (eVar 3)) (eBin oMul (eC (.int 104729)) (eBin oIx (eVar 1) (eC (.int 0))))) (eC (.int 4294967291))))
    (sSeq (sSet 5 (eBin oMod (eBin oPow (eVar 5) (eC (.int 5))) (eC (.int 4294967279))))
    (sRet (eBin oMod (eBin oDiv (eBin oMod (eBin oAdd (eBin oMul (eBin oDiv (eVar 5) (eC (.int 64))) (eC (.int 69621))) (eVar 5)) (eC (.int 4294967231))) (eC (.int 8))) (eVar 2))))))))))
theorem b_ok {α β : Type} {a : α} {s : Store} {k : α → Store → R β} : (R.ok a s).bind k = k a s := rfl
theorem b_no {α β : Type} {k : α → Store → R β} : (R.no : R α).bind k = .no := rfl
theorem b_ex {α β : Type} {c : Str} {s : Store} {k : α → Store → R β} : (R.ex c s : R α).bind k = .ex c s := rfl
/-- what the law keeps of its draws: so many so far, and as many cells as the script has -/
def Town (ns : List Int) (k : Nat) (c : List PV) : Prop := ∃ (n : Int) (ls : List Int), c = (n :: ls).map PV.int ∧ ls.length = ns.length ∧ 0 ≤ n ∧ n ≤ (k : Int)

theorem dOks_ints (m : Nat) : ∀ ns : List Int, dOks m (ns.map PV.int) = true
  | [] => rfl
  | n :: r => by rw [List.map_cons, dOks, dOks_ints m r]; rfl
theorem noScrs_ints : ∀ ns : List Int, noScrs (ns.map PV.int) = true
  | [] => rfl
  | n :: r => by rw [List.map_cons, noScrs, noScrs_ints r]; rfl
theorem town_ok (ns : List Int) (hl : ns.length ≤ 63) : townF [.scr ns] [] = .ok (.own 0) [.lst ((0 :: ns).map PV.int)] := by
  have h : (1 + ns.length ≤ sizeLine) := by
    have : sizeLine = 16777216 := by decide
    omega
  simp [townF, runF, ret, env0, sRet, eOw, fAdd, eFz, fDisp, aCons, aNil, eC, fList, eVar, R.bind, asS, asL, asM, show (1 : Nat) ≤ sizeLine by decide]
  rw [if_pos (by omega)]
  rfl
theorem atI_nat {α : Type} {xs : List α} {i : Nat} {x : α} (h : xs[i]? = some x) : atI xs (i : Int) = some x := by
  have hi := (List.getElem?_eq_some_iff.mp h).1
  unfold atI ixN
  rw [if_pos (Int.natCast_nonneg _), if_pos (by omega)]
  simpa using h
theorem draw_ok {ns : List Int} {k t : Nat} {c : List PV} {st : Store} {lim : Int} (ht : st[t]? = some (.lst c)) (T : Town ns k c) (hk : k < 1000000) (hns : ns.length ≤ 63) (h0 : 0 < lim) (h1 : lim < 1000000) :
    ∃ d c', drawF [.scr ns, .own t, .int lim] st = .ok (.int d) (st.set t (.lst c')) ∧ 0 ≤ d ∧ d < lim ∧ Town ns (k + 1) c' := by
  obtain ⟨n, ls, rfl, hls, n0, nk⟩ := T
  have htl : t < st.length := (List.getElem?_eq_some_iff.mp ht).1
  have slog : ∀ x : Int, 0 ≤ x → x < 2 ^ 64 → x.natAbs.log2 < 9000 := fun x a b => by
    by_cases z : x.natAbs = 0
    · rw [z]; decide
    · have : x.natAbs < 2 ^ 64 := by omega
      exact Nat.lt_trans ((Nat.log2_lt z).mpr this) (by decide)
  have e0 : (env0 6 [.scr ns, .own t, .int lim] : Ev) = [some (.scr ns), some (.own t), some (.int lim), none, none, none] := rfl
  have c1 : (st.set t (.lst (((n + 1) :: ls).map PV.int)))[t]? = some (.lst (((n + 1) :: ls).map PV.int)) := by rw [List.getElem?_set_self htl]
  have ad : ∀ (a b : Int) (s : Store), oAdd (.int a) (.int b) s = some (.int (a + b)) := fun _ _ _ => rfl
  have ix0 : ∀ (a : Int) (s : Store), s[t]? = some (.lst ((a :: ls).map PV.int)) → oIx (.own t) (.int 0) s = some (.int a) := fun a s h => by
    simp [oIx, asS, asL, h, atI, ixN]
  unfold drawF runF
  rw [e0]
  have stepA : ∀ (rest : XS), sSeq (sAsg (eBin oAdd (eBin oIx (eVar 1) (eC (.int 0))) (eC (.int 1))) (gSubL (eVar 1) (eC (.int 0)))) rest [some (.scr ns), some (.own t), some (.int lim), none, none, none] st
      = rest [some (.scr ns), some (.own t), some (.int lim), none, none, none] (st.set t (.lst (((n + 1) :: ls).map PV.int))) := fun rest => by
    simp only [sSeq, sAsg, eBin, eVar, eC, b_ok, List.getElem?_cons_succ, List.getElem?_cons_zero, ix0 n st ht, ad, gSubL, ht]
    have : ixN ((n :: ls).map PV.int).length 0 = some 0 := by simp [ixN]
    rw [this]
    rfl
  rw [stepA]
  generalize hst1 : st.set t (.lst (((n + 1) :: ls).map PV.int)) = st1 at c1
  have stt : ∀ x, st1.set t x = st.set t x := fun x => by rw [← hst1, List.set_set]
  have ht1 : t < st1.length := by rw [← hst1]; simpa using htl
  have town1 : Town ns (k + 1) (((n + 1) :: ls).map PV.int) := ⟨n + 1, ls, rfl, hls, by omega, by omega⟩
  have eqS : oEq (.scr ns) (.lst []) st1 = some (.bl (peqs (ns.map PV.int) [])) := by
    have a1 : dChk (.lst (ns.map PV.int)) = true := by unfold dChk; rw [dOk, noScr, dOks_ints, noScrs_ints]; rfl
    have a2 : dChk (.lst []) = true := rfl
    unfold oEq
    simp only [rsv, a1, a2, Bool.and_self, if_true]
    rw [peq]
  have n63 : sizeLine = 16777216 := by decide
  have sm : ∀ x : Int, x = x % lim → 0 ≤ x ∧ x < lim := fun x hx => by
    have := Int.emod_nonneg x (show lim ≠ 0 by omega)
    have := Int.emod_lt_of_pos x h0
    omega
  have md : ∀ (x : Int), 0 ≤ x % lim ∧ x % lim < lim := fun x => ⟨Int.emod_nonneg x (by omega), Int.emod_lt_of_pos x h0⟩
  have mod_ : ∀ (x y : Int) (s : Store), 0 < y → oMod (.int x) (.int y) s = some (.int (x % y)) := fun x y s h => by simp [oMod, oI, h]
  have mul_ : ∀ (x y : Int) (s : Store), -(2 ^ 64) < y → y < 2 ^ 64 → oMul (.int x) (.int y) s = some (.int (x * y)) := fun x y s a b => by
    have : mulOk x y = true := by
      unfold mulOk
      simp only [Bool.or_eq_true, Bool.and_eq_true, decide_eq_true_eq]
      exact .inr (.inl ⟨a, b⟩)
    simp [oMul, oOr, oMulI, oI, this]
  have div_ : ∀ (x y : Int) (s : Store), 0 < y → y < 2 ^ 64 → oDiv (.int x) (.int y) s = some (.int (x / y)) := fun x y s a b => by
    simp [oDiv, oI, a, slog y (by omega) b]
  by_cases hn : ns = []
  · subst hn
    have r0 : peqs (([] : List Int).map PV.int) [] = true := rfl
    refine ⟨(n + 1) * (n + 1) * 7 / 3 % lim, ((n + 1) :: ls).map PV.int, ?_, (md _).1, (md _).2, town1⟩
    simp only [sSeq, sIf, tE, toB, eBin, eVar, eC, eFz, fDisp, aNil, b_ok, List.getElem?_cons_succ, List.getElem?_cons_zero, List.length_nil, Nat.zero_le, if_true, eqS, r0, sRet, ix0 (n + 1) st1 c1,
      mul_ (n + 1) (n + 1) st1 (by omega) (by omega), mul_ ((n + 1) * (n + 1)) 7 st1 (by omega) (by omega), div_ _ 3 st1 (by omega) (by omega), mod_ _ lim st1 h0, ret]
    rw [← hst1]
  · have r0 : peqs (ns.map PV.int) [] = false := by
      cases ns with
      | nil => exact absurd rfl hn
      | cons _ _ => simp [peqs]
    have lp : 0 < ns.length := List.length_pos_iff.mpr hn
    obtain ⟨j, hj⟩ : ∃ j : Nat, (n + 1) % (ns.length : Int) = (j : Int) := ⟨((n + 1) % (ns.length : Int)).toNat, by
      have := Int.emod_nonneg (n + 1) (show (ns.length : Int) ≠ 0 by omega)
      omega⟩
    have hjl : j < ns.length := by
      have := Int.emod_lt_of_pos (n + 1) (show (0 : Int) < (ns.length : Int) by omega)
      omega
    obtain ⟨x, hx⟩ : ∃ x, ns[j]? = some x := ⟨_, List.getElem?_eq_getElem hjl⟩
    obtain ⟨l, hlj⟩ : ∃ l, ls[j]? = some l := ⟨_, List.getElem?_eq_getElem (by omega)⟩
    have ixS : oIx (.scr ns) (.int (j : Int)) st1 = some (.int x) := by
      simp only [oIx, asS, asL]
      exact atI_nat (by simp [hx])
    have ixT : oIx (.own t) (.int (1 + (j : Int))) st1 = some (.int l) := by
      simp only [oIx, asS, asL, c1]
      have : (1 + (j : Int)) = ((j + 1 : Nat) : Int) := by omega
      rw [this]
      exact atI_nat (by simp [hlj])
    have lenS : oLen [.scr ns] st1 = some (.int (ns.length : Int)) := by
      simp [oLen, asS, asL]
    have pw : ∀ (x y : Int) (s : Store), 0 ≤ y → y ≤ 1000000 → x.natAbs < 2 ^ 64 → oPow (.int x) (.int y) s = some (.int (x ^ y.toNat)) := fun x y s a b c => by simp only [oPow, oI, a, b, c, and_self, if_true]
    have ge : ∀ (a b : Int) (s : Store), oGeI (.int a) (.int b) s = some (.bl (decide (b ≤ a))) := fun _ _ _ => rfl
    have gt : ∀ (a b : Int) (s : Store), oGtI (.int a) (.int b) s = some (.bl (decide (b < a))) := fun _ _ _ => rfl
    have ixw : ixN (((n + 1) :: ls).map PV.int).length (1 + (j : Int)) = some (j + 1) := by
      unfold ixN
      have : ((((n + 1) :: ls).map PV.int).length : Int) = (ls.length : Int) + 1 := by simp
      rw [if_pos (by omega), if_pos (by omega)]
      congr 1
      omega
    have stepB : ∀ (b : XS) (rest : XS), sSeq (sIf (tE (eBin oEq (eVar 0) (eFz (fDisp aNil)))) b sNil) rest [some (.scr ns), some (.own t), some (.int lim), none, none, none] st1
        = rest [some (.scr ns), some (.own t), some (.int lim), none, none, none] st1 := fun b rest => by
      simp only [sSeq, sIf, tE, toB, eBin, eVar, eC, eFz, fDisp, aNil, b_ok, List.getElem?_cons_succ, List.getElem?_cons_zero, List.length_nil, Nat.zero_le, if_true, eqS, r0, sNil]
      rfl
    rw [stepB]
    have stepC : ∀ (rest : XS), sSeq (sSet 3 (eBin oMod (eBin oIx (eVar 1) (eC (.int 0))) (eCB oLen (aCons (eVar 0) aNil)))) rest [some (.scr ns), some (.own t), some (.int lim), none, none, none] st1
        = rest [some (.scr ns), some (.own t), some (.int lim), some (.int (j : Int)), none, none] st1 := fun rest => by
      simp only [sSeq, sSet, eBin, eVar, eC, eCB, aCons, aNil, b_ok, List.getElem?_cons_succ, List.getElem?_cons_zero, ix0 (n + 1) st1 c1, lenS, mod_ (n + 1) (ns.length : Int) st1 (by omega), hj]
      rfl
    rw [stepC]
    have stepD : ∀ (rest : XS), sSeq (sSet 4 (eBin oIx (eVar 1) (eBin oAdd (eC (.int 1)) (eVar 3)))) rest [some (.scr ns), some (.own t), some (.int lim), some (.int (j : Int)), none, none] st1
        = rest [some (.scr ns), some (.own t), some (.int lim), some (.int (j : Int)), some (.int l), none] st1 := fun rest => by
      simp only [sSeq, sSet, eBin, eVar, eC, b_ok, List.getElem?_cons_succ, List.getElem?_cons_zero, ad, ixT]
      rfl
    rw [stepD]
    generalize hE : ([some (.scr ns), some (.own t), some (.int lim), some (.int (j : Int)), some (.int l), none] : Ev) = E1
    have v0 : E1[0]? = some (some (.scr ns)) := by rw [← hE]; rfl
    have v1 : E1[1]? = some (some (.own t)) := by rw [← hE]; rfl
    have v2 : E1[2]? = some (some (.int lim)) := by rw [← hE]; rfl
    have v3 : E1[3]? = some (some (.int (j : Int))) := by rw [← hE]; rfl
    have v4 : E1[4]? = some (some (.int l)) := by rw [← hE]; rfl
    have p18 : oPow (.int 10) (.int 18) st1 = some (.int (10 ^ 18)) := pw 10 18 st1 (by decide) (by decide) (by decide)
    by_cases g : (10 : Int) ^ 18 ≤ x ∧ 0 < l
    · refine ⟨l % lim, (((n + 1) :: ls).map PV.int).set (j + 1) (.int (l / lim)), ?_, (md _).1, (md _).2, ?_⟩
      · have cond : tAndF (tE (eBin oGeI (eBin oIx (eVar 0) (eVar 3)) (eBin oPow (eC (.int 10)) (eC (.int 18))))) (tE (eBin oGtI (eVar 4) (eC (.int 0)))) E1 st1 = .ok true st1 := by
          simp only [tAndF, tE, toB, eBin, eVar, eC, v0, v3, v4, b_ok, ixS, p18, ge, gt, g.1, g.2, decide_true, if_true]
        have st2 : sAsg (eBin oDiv (eVar 4) (eVar 2)) (gSubL (eVar 1) (eBin oAdd (eC (.int 1)) (eVar 3))) E1 st1 = .ok (.nx E1) (st1.set t (.lst ((((n + 1) :: ls).map PV.int).set (j + 1) (.int (l / lim))))) := by
          simp only [sAsg, eBin, eVar, eC, gSubL, v1, v2, v3, v4, b_ok, ad, div_ l lim st1 h0 (by omega), c1, ixw]
        simp only [sSeq, sIf, cond, b_ok, if_true, st2, sRet, eBin, eVar, v4, v2, mod_ l lim _ h0, ret, stt]
      · refine ⟨n + 1, ls.set j (l / lim), ?_, by simpa using hls, by omega, by omega⟩
        simp [List.map_set]
    · have cond : tAndF (tE (eBin oGeI (eBin oIx (eVar 0) (eVar 3)) (eBin oPow (eC (.int 10)) (eC (.int 18))))) (tE (eBin oGtI (eVar 4) (eC (.int 0)))) E1 st1 = .ok false st1 := by
        simp only [tAndF, tE, toB, eBin, eVar, eC, v0, v3, v4, b_ok, ixS, p18, ge, gt]
        by_cases g1 : (10 : Int) ^ 18 ≤ x
        · have g2 : ¬ (0 < l) := fun z => g ⟨g1, z⟩
          simp only [g1, g2, decide_true, decide_false, if_true]
        · simp only [g1, decide_false]
          rfl
      generalize hm : (x + 104729 * (n + 1)) % 4294967291 = m
      have hm0 : 0 ≤ m := by rw [← hm]; exact Int.emod_nonneg _ (by decide)
      have hm1 : m < 4294967291 := by rw [← hm]; exact Int.emod_lt_of_pos _ (by decide)
      have t1 : oMod (.int (x + 104729 * (n + 1))) (.int 4294967291) st1 = some (.int m) := by rw [mod_ _ _ _ (by decide), hm]
      have t0 : oMul (.int 104729) (.int (n + 1)) st1 = some (.int (104729 * (n + 1))) := mul_ _ _ _ (by omega) (by omega)
      have t2 : oPow (.int m) (.int 5) st1 = some (.int (m ^ 5)) := pw m 5 st1 (by decide) (by decide) (by omega)
      generalize hm5 : m ^ 5 % 4294967279 = w
      have t3 : oMod (.int (m ^ 5)) (.int 4294967279) st1 = some (.int w) := by rw [mod_ _ _ _ (by decide), hm5]
      have t4 : oDiv (.int w) (.int 64) st1 = some (.int (w / 64)) := div_ _ _ _ (by decide) (by decide)
      have t5 : oMul (.int (w / 64)) (.int 69621) st1 = some (.int (w / 64 * 69621)) := mul_ _ _ _ (by decide) (by decide)
      have t6 : oMod (.int (w / 64 * 69621 + w)) (.int 4294967231) st1 = some (.int ((w / 64 * 69621 + w) % 4294967231)) := mod_ _ _ _ (by decide)
      have t7 : ∀ z, oDiv (.int z) (.int 8) st1 = some (.int (z / 8)) := fun z => div_ _ _ _ (by decide) (by decide)
      refine ⟨(w / 64 * 69621 + w) % 4294967231 / 8 % lim, ((n + 1) :: ls).map PV.int, ?_, (md _).1, (md _).2, town1⟩
      have s5 : ∀ v, (E1.set 5 v)[5]? = some v := fun v => by rw [← hE]; rfl
      have s2 : ∀ v, (E1.set 5 v)[2]? = some (some (.int lim)) := fun v => by rw [← hE]; rfl
      have s55 : ∀ v w, (E1.set 5 v).set 5 w = E1.set 5 w := fun v w => List.set_set ..
      simp only [sSeq, sIf, cond, b_ok, Bool.false_eq_true, if_false, sNil, sSet, sRet, eBin, eVar, eC, v0, v1, v2, v3, ixS, ix0 (n + 1) st1 c1, t0, ad, t1, s5, t2, t3, s55, t4, t5, t6, t7, s2, mod_ _ lim _ h0, ret]
      rw [← hst1]
end Lq
end
section
set_option Elab.async false
set_option linter.all false
set_option maxRecDepth 100000
set_option maxHeartbeats 0
namespace Gk81
open PySem PySem.Spec PyProof.Rows L2 Lq
def top (i : Nat) : Stmt := PySem.Challenge.pw_lotscales_k81_bench_ends.main.body.getD i (.Pass ⟨0, 0, 0, 0⟩)
def mth (i j : Nat) : Stmt := match top i with
  | .ClassDef _ _ _ b _ _ _ _ _ _ _ => b.getD j (.Pass ⟨0, 0, 0, 0⟩)
  | _ => .Pass ⟨0, 0, 0, 0⟩
def f__law_town : Fn := runF 1
    (sRet (eOw (fAdd (eFz (fDisp (aCons (eC (.int 0)) aNil))) (eFz (fList (eVar 0))))))
def f__law_draw : Fn := runF 6
    (sSeq (sAsg (eBin oAdd (eBin oIx (eVar 1) (eC (.int 0))) (eC (.int 1))) (gSubL (eVar 1) (eC (.int 0))))
    (sSeq (sIf (tE (eBin oEq (eVar 0) (eFz (fDisp aNil)))) (sRet (eBin oMod (eBin oDiv (eBin oMul (eBin oMul (eBin oIx (eVar 1) (eC (.int 0))) (eBin oIx (eVar 1) (eC (.int 0)))) (eC (.int 7))) (eC (.int 3))) (eVar 2))) sNil)
    (sSeq (sSet 3 (eBin oMod (eBin oIx (eVar 1) (eC (.int 0))) (eCB oLen (aCons (eVar 0) aNil))))
    (sSeq (sSet 4 (eBin oIx (eVar 1) (eBin oAdd (eC (.int 1)) (eVar 3))))
    (sSeq (sIf (tAndF (tE (eBin oGeI (eBin oIx (eVar 0) (eVar 3)) (eBin oPow (eC (.int 10)) (eC (.int 18))))) (tE (eBin oGtI (eVar 4) (eC (.int 0))))) (sSeq (sAsg (eBin oDiv (eVar 4) (eVar 2)) (gSubL (eVar 1) (eBin oAdd (eC (.int 1)) (eVar 3))))
    (sRet (eBin oMod (eVar 4) (eVar 2)))) sNil)
    (sSeq (sSet 5 (eBin oMod (eBin oAdd (eBin oIx (eVar 0) (eVar 3)) (eBin oMul (eC (.int 104729)) (eBin oIx (eVar 1) (eC (.int 0))))) (eC (.int 4294967291))))
    (sSeq (sSet 5 (eBin oMod (eBin oPow (eVar 5) (eC (.int 5))) (eC (.int 4294967279))))
    (sRet (eBin oMod (eBin oDiv (eBin oMod (eBin oAdd (eBin oMul (eBin oDiv (eVar 5) (eC (.int 64))) (eC (.int 69621))) (eVar 5)) (eC (.int 4294967231))) (eC (.int 8))) (eVar 2))))))))))
def f_is_between : Fn := runF 3
    (sRet (eAnd (eIsi .int (eVar 0)) (eAnd (eNot (eIsi .bl (eVar 0))) (eChain oLeI oLeI (eVar 1) (eVar 0) (eVar 2)))))
def f_check_things : Fn := runF 1
    (sIf (tNotF (tE (eCall 3 f_is_between (aCons (eVar 0) (aCons (eC (.int 1)) (aCons (eC (.int 5)) aNil)))))) (sRaise "InvalidThings") sNil)
def f_Bench___init__ : Fn := runF 2
    (sSeq (sDrop (eCall 1 f_check_things (aCons (eVar 1) aNil)))
    (sSeq (sFldS "Bench" "things" (eVar 0) (eVar 1))
    (sSeq (sFldS "Bench" "states" (eVar 0) (eOw (fDisp (aCons (eTup aNil) aNil))))
    (sSeq (sFldS "Bench" "done" (eVar 0) (eOw (fDisp aNil)))
    (sFldS "Bench" "undone" (eVar 0) (eOw (fDisp aNil)))))))
def f_is_found_lot : Fn := runF 4
    (sSeq (sIf (tOrF (tNotF (tE (eIsi .tup (eVar 1)))) (tNotF (tE (eCB oAll (aCons (eFz (fComp (iVal (eVar 1)) (gNm 2) (fun _ st => .ok true st) (eCall 3 f_is_between (aCons (eVar 2) (aCons (eC (.int 0)) (aCons (eBin oSub (eVar 0) (eC (.int 1))) aNil)))) [2])) aNil))))) (sRet (eC (.bl false))) sNil)
    (sRet (eCB oAll (aCons (eFz (fComp (iRange1 (aCons (eBin oSub (eCB oLen (aCons (eVar 1) aNil)) (eC (.int 1))) aNil)) (gNm 3) (fun _ st => .ok true st) (eBin oLt (eBin oIx (eVar 1) (eVar 3)) (eBin oIx (eVar 1) (eBin oAdd (eVar 3) (eC (.int 1))))) [3])) aNil))))
def f_is_comparison : Fn := runF 2
    (sSeq (sIf (tOrF (tNotF (tE (eIsi .tup (eVar 1)))) (tOrF (tE (eBin oNe (eCB oLen (aCons (eVar 1) aNil)) (eC (.int 3)))) (tOrF (tNotF (tE (eIsi .str (eBin oIx (eVar 1) (eC (.int 1)))))) (tE (eBin oNin (eBin oIx (eVar 1) (eC (.int 1))) (eC (.tup [.str ">", .str ">=", .str "="]))))))) (sRet (eC (.bl false))) sNil)
    (sRet (eAnd (eCall 2 f_is_found_lot (aCons (eVar 0) (aCons (eBin oIx (eVar 1) (eC (.int 0))) aNil))) (eCall 2 f_is_found_lot (aCons (eVar 0) (aCons (eBin oIx (eVar 1) (eC (.int 2))) aNil))))))
def f_check_comparison : Fn := runF 2
    (sIf (tNotF (tE (eCall 2 f_is_comparison (aCons (eVar 0) (aCons (eVar 1) aNil))))) (sRaise "InvalidComparison") sNil)
def f_Bench_note : Fn := runF 3
    (sSeq (sDrop (eLm goApp (eFld "Bench" "states" (eVar 0)) (aCons (eVar 2) aNil)))
    (sSeq (sDrop (eLm goApp (eFld "Bench" "done" (eVar 0)) (aCons (eVar 1) aNil)))
    (sFldS "Bench" "undone" (eVar 0) (eOw (fDisp aNil)))))
def f_Bench___len__ : Fn := runF 1
    (sRet (eCB oLen (aCons (eBin oIx (eFld "Bench" "states" (eVar 0)) (eUn oNeg (eC (.int 1)))) aNil)))
def f_Bench_told : Fn := runF 1
    (sRet (eBin oIx (eFld "Bench" "states" (eVar 0)) (eUn oNeg (eC (.int 1)))))
def f_divisor_of : Fn := runF 2
    (sSeq (sPar 0 1 (aCons (eCB oAbs (aCons (eVar 0) aNil)) (aCons (eCB oAbs (aCons (eVar 1) aNil)) aNil)))
    (sSeq (sWhile (tE (eBin oNe (eVar 1) (eC (.int 0)))) (sPar 0 1 (aCons (eVar 1) (aCons (eBin oMod (eVar 0) (eVar 1)) aNil))) 2037035976334486086268445688409378161051468393665936250636140449354381299763336706183397376)
    (sRet (eVar 0))))
def f_shortened : Fn := runF 3
    (sSeq (sSet 1 (eC (.int 0)))
    (sSeq (sFor (iVal (eVar 0)) (gNm 2) (sSeq (sSet 1 (eCall 2 f_divisor_of (aCons (eVar 1) (aCons (eVar 2) aNil))))
    (sIf (tE (eBin oEq (eVar 1) (eC (.int 1)))) (sRet (eFz (fList (eVar 0)))) sNil)))
    (sRet (eIf (tE (eBin oGtI (eVar 1) (eC (.int 1)))) (eFz (fComp (iVal (eVar 0)) (gNm 2) (fun _ st => .ok true st) (eBin oDiv (eVar 2) (eVar 1)) [2])) (eFz (fList (eVar 0)))))))
def f_cleared : Fn := runF 7
    (sSeq (sAsg (eTup (aCons (eBin oIx (eVar 0) (eVar 2)) (aCons (eBin oIx (eVar 1) (eVar 2)) aNil))) (gTp 2 (gsCons (gNm 3) (gsCons (gNm 4) gsNil))))
    (sSeq (sIf (tE (eBin oEq (eVar 3) (eC (.int 0)))) (sRet (eVar 0)) sNil)
    (sRet (eCall 1 f_shortened (aCons (eFz (fComp (iZipF (aCons (eVar 0) (aCons (eVar 1) aNil))) (gTp 2 (gsCons (gNm 5) (gsCons (gNm 6) gsNil))) (fun _ st => .ok true st) (eBin oSub (eBin oMul (eVar 5) (eVar 4)) (eBin oMul (eVar 3) (eVar 6))) [5, 6])) aNil)))))
def f_Equations_turn : Fn := runF 6
    (sSeq (sSet 4 (eBin oIx (eFld "Equations" "rows" (eVar 0)) (eVar 2)))
    (sSeq (sFor (iRange1 (aCons (eCB oLen (aCons (eFld "Equations" "rows" (eVar 0)) aNil)) aNil)) (gNm 5) (sIf (tE (eBin oNe (eVar 5) (eVar 2))) (sAsg (eCall 3 f_cleared (aCons (eBin oIx (eFld "Equations" "rows" (eVar 0)) (eVar 5)) (aCons (eVar 4) (aCons (eVar 3) aNil)))) (gSubL (eFld "Equations" "rows" (eVar 0)) (eVar 5))) sNil))
    (sSeq (sAsg (eVar 3) (gSubL (eFld "Equations" "basis" (eVar 0)) (eVar 2)))
    (sRet (eCall 3 f_cleared (aCons (eVar 1) (aCons (eVar 4) (aCons (eVar 3) aNil))))))))
def f_Equations_leaving : Fn := runF 7
    (sSeq (sSet 2 (eC .non))
    (sSeq (sForC true (eFld "Equations" "rows" (eVar 0)) (gTp 2 (gsCons (gNm 3) (gsCons (gNm 4) gsNil))) (sIf (tE (eBin oGtI (eBin oIx (eVar 4) (eVar 1)) (eC (.int 0)))) (sIf (tE (eBin oIsN (eVar 2) (eC .non))) (sSet 2 (eVar 3)) (sSeq (sPar 5 6 (aCons (eBin oMul (eBin oIx (eVar 4) (eUn oNeg (eC (.int 1)))) (eBin oIx (eBin oIx (eFld "Equations" "rows" (eVar 0)) (eVar 2)) (eVar 1))) (aCons (eBin oMul (eBin oIx (eBin oIx (eFld "Equations" "rows" (eVar 0)) (eVar 2)) (eUn oNeg (eC (.int 1)))) (eBin oIx (eVar 4) (eVar 1))) aNil)))
    (sIf (tOrF (tE (eBin oLt (eVar 5) (eVar 6))) (tAndF (tE (eBin oEq (eVar 5) (eVar 6))) (tE (eBin oLt (eBin oIx (eFld "Equations" "basis" (eVar 0)) (eVar 3)) (eBin oIx (eFld "Equations" "basis" (eVar 0)) (eVar 2)))))) (sSet 2 (eVar 3)) sNil))) sNil))
    (sRet (eVar 2))))
def f_fraction : Fn := runF 3
    (sSeq (sSet 2 (eCall 2 f_divisor_of (aCons (eVar 0) (aCons (eVar 1) aNil))))
    (sSeq (sSet 2 (eIf (tE (eBin oGtI (eVar 1) (eC (.int 0)))) (eVar 2) (eUn oNeg (eVar 2))))
    (sRet (eTup (aCons (eBin oDiv (eVar 0) (eVar 2)) (aCons (eBin oDiv (eVar 1) (eVar 2)) aNil))))))
def f_Equations_solved : Fn := runF 10
    (sSeq (sSet 1 (eOw (fMul (eFz (fDisp (aCons (eC (.int 0)) aNil))) (eBin oAdd (eBin oAdd (eFld "Equations" "many" (eVar 0)) (eCB oLen (aCons (eFld "Equations" "rows" (eVar 0)) aNil))) (eC (.int 2))))))
    (sSeq (sForC false (eFld "Equations" "rows" (eVar 0)) (gNm 2) (sSet 1 (eOw (fComp (iZipF (aCons (eFrz (eVar 1)) (aCons (eVar 2) aNil))) (gTp 2 (gsCons (gNm 8) (gsCons (gNm 9) gsNil))) (fun _ st => .ok true st) (eBin oSub (eVar 8) (eVar 9)) [8, 9]))))
    (sSeq (sFor (iRange1 (aCons (eCB oLen (aCons (eFld "Equations" "rows" (eVar 0)) aNil)) aNil)) (gNm 3) (sAsg (eC (.int 0)) (gSubL (eVar 1) (eBin oAdd (eFld "Equations" "many" (eVar 0)) (eVar 3)))))
    (sSeq (sAsg (eC (.int 1)) (gSubL (eVar 1) (eUn oNeg (eC (.int 2)))))
    (sSeq (sSet 4 (eFz (fComp (iRange1 (aCons (eFld "Equations" "many" (eVar 0)) aNil)) (gNm 7) (tE (eBin oLt (eBin oIx (eVar 1) (eVar 7)) (eC (.int 0)))) (eVar 7) [7])))
    (sSeq (sWhile (tE (eBin oNe (eVar 4) (eFz (fDisp aNil)))) (sSeq (sSet 1 (eMeth "Equations" "turn" 4 f_Equations_turn (eVar 0) (aCons (eFrz (eVar 1)) (aCons (eMeth "Equations" "leaving" 2 f_Equations_leaving (eVar 0) (aCons (eBin oIx (eVar 4) (eC (.int 0))) aNil)) (aCons (eBin oIx (eVar 4) (eC (.int 0))) aNil)))))
    (sSet 4 (eFz (fComp (iRange1 (aCons (eFld "Equations" "many" (eVar 0)) aNil)) (gNm 7) (tE (eBin oLt (eBin oIx (eVar 1) (eVar 7)) (eC (.int 0)))) (eVar 7) [7])))) 2037035976334486086268445688409378161051468393665936250636140449354381299763336706183397376)
    (sSeq (sIf (tE (eBin oLt (eBin oIx (eVar 1) (eUn oNeg (eC (.int 1)))) (eC (.int 0)))) (sSeq (sSet 5 (eFz (fComp (iRange1 (aCons (eCB oLen (aCons (eFld "Equations" "rows" (eVar 0)) aNil)) aNil)) (gNm 3) (fun _ st => .ok true st) (eBin oSub (eBin oIx (eVar 1) (eUn oNeg (eC (.int 2)))) (eBin oIx (eVar 1) (eBin oAdd (eFld "Equations" "many" (eVar 0)) (eVar 3)))) [3])))
    (sRet (eTup (aCons (eC .non) (aCons (eFz (fComp (iZipF (aCons (eFld "Equations" "signs" (eVar 0)) (aCons (eVar 5) aNil))) (gTp 2 (gsCons (gNm 8) (gsCons (gNm 9) gsNil))) (fun _ st => .ok true st) (eBin oMul (eVar 8) (eVar 9)) [8, 9])) aNil))))) sNil)
    (sSeq (sSet 6 (eOw (fMul (eFz (fDisp (aCons (eTup (aCons (eC (.int 0)) (aCons (eC (.int 1)) aNil))) aNil))) (eFld "Equations" "many" (eVar 0)))))
    (sSeq (sForC true (eFld "Equations" "basis" (eVar 0)) (gTp 2 (gsCons (gNm 3) (gsCons (gNm 7) gsNil))) (sIf (tE (eBin oLt (eVar 7) (eFld "Equations" "many" (eVar 0)))) (sAsg (eCall 2 f_fraction (aCons (eBin oIx (eBin oIx (eFld "Equations" "rows" (eVar 0)) (eVar 3)) (eUn oNeg (eC (.int 1)))) (aCons (eBin oIx (eBin oIx (eFld "Equations" "rows" (eVar 0)) (eVar 3)) (eVar 7)) aNil))) (gSubL (eVar 6) (eVar 7))) sNil))
    (sRet (eTup (aCons (eFrz (eVar 6)) (aCons (eC .non) aNil)))))))))))))
def f_row_of : Fn := runF 6
    (sSeq (sAsg (eVar 1) (gTp 3 (gsCons (gNm 2) (gsCons (gNm 3) (gsCons (gNm 4) gsNil)))))
    (sRet (eFz (fComp (iRange1 (aCons (eVar 0) aNil)) (gNm 5) (fun _ st => .ok true st) (eBin oSub (eCB oInt (aCons (eBin oIn (eVar 5) (eVar 2)) aNil)) (eCB oInt (aCons (eBin oIn (eVar 5) (eVar 4)) aNil))) [5]))))
def f_common_bottom : Fn := runF 3
    (sSeq (sSet 1 (eC (.int 1)))
    (sSeq (sFor (iVal (eVar 0)) (gNm 2) (sSet 1 (eBin oDiv (eBin oMul (eVar 1) (eBin oIx (eVar 2) (eC (.int 1)))) (eCall 2 f_divisor_of (aCons (eVar 1) (aCons (eBin oIx (eVar 2) (eC (.int 1))) aNil))))))
    (sRet (eVar 1))))
def f_Equations___init__ : Fn := runF 9
    (sSeq (sFldS "Equations" "many" (eVar 0) (eCB oLen (aCons (eBin oIx (eVar 1) (eC (.int 0))) aNil)))
    (sSeq (sFldS "Equations" "signs" (eVar 0) (eFz (fComp (iVal (eVar 2)) (gNm 6) (fun _ st => .ok true st) (eIf (tE (eBin oGeI (eVar 6) (eC (.int 0)))) (eC (.int 1)) (eUn oNeg (eC (.int 1)))) [6])))
    (sSeq (sFldS "Equations" "rows" (eVar 0) (eOw (fDisp aNil)))
    (sSeq (sFor (iEnumT (aCons (eVar 1) aNil)) (gTp 2 (gsCons (gNm 3) (gsCons (gNm 4) gsNil))) (sSeq (sSet 5 (eFz (fComp (iRange1 (aCons (eCB oLen (aCons (eVar 1) aNil)) aNil)) (gNm 7) (fun _ st => .ok true st) (eCB oInt (aCons (eBin oEq (eVar 7) (eVar 3)) aNil)) [7])))
    (sDrop (eLm goApp (eFld "Equations" "rows" (eVar 0)) (aCons (eBin oAdd (eBin oAdd (eFz (fComp (iVal (eVar 4)) (gNm 8) (fun _ st => .ok true st) (eBin oMul (eBin oIx (eFld "Equations" "signs" (eVar 0)) (eVar 3)) (eVar 8)) [8])) (eVar 5)) (eFz (fDisp (aCons (eC (.int 0)) (aCons (eCB oAbs (aCons (eBin oIx (eVar 2) (eVar 3)) aNil)) aNil))))) aNil)))))
    (sFldS "Equations" "basis" (eVar 0) (eOw (fComp (iRange1 (aCons (eCB oLen (aCons (eVar 1) aNil)) aNil)) (gNm 3) (fun _ st => .ok true st) (eBin oAdd (eFld "Equations" "many" (eVar 0)) (eVar 3)) [3])))))))
def f_whole : Fn := runF 2
    (sRet (eBin oMul (eBin oIx (eVar 0) (eC (.int 0))) (eBin oDiv (eVar 1) (eBin oIx (eVar 0) (eC (.int 1))))))
def f_solved : Fn := runF 19
    (sSeq (sAsg (eTup (aCons (eOw (fDisp aNil)) (aCons (eOw (fDisp aNil)) aNil))) (gTp 2 (gsCons (gNm 2) (gsCons (gNm 3) gsNil))))
    (sSeq (sFor (iEnumT (aCons (eVar 1) aNil)) (gTp 2 (gsCons (gNm 4) (gsCons (gNm 5) gsNil))) (sSeq (sSet 6 (eCall 2 f_row_of (aCons (eVar 0) (aCons (eVar 5) aNil))))
    (sSeq (sDrop (eLm goApp (eVar 2) (aCons (eBin oAdd (eVar 6) (eFz (fDisp (aCons (eCB oInt (aCons (eBin oEq (eBin oIx (eVar 5) (eC (.int 1))) (eC (.str ">"))) aNil)) aNil)))) aNil)))
    (sSeq (sDrop (eLm goApp (eVar 3) (aCons (eTup (aCons (eVar 4) (aCons (eC (.int 1)) aNil))) aNil)))
    (sIf (tE (eBin oEq (eBin oIx (eVar 5) (eC (.int 1))) (eC (.str "=")))) (sSeq (sDrop (eLm goApp (eVar 2) (aCons (eBin oAdd (eFz (fComp (iVal (eVar 6)) (gNm 15) (fun _ st => .ok true st) (eUn oNeg (eVar 15)) [15])) (eFz (fDisp (aCons (eC (.int 0)) aNil)))) aNil)))
    (sDrop (eLm goApp (eVar 3) (aCons (eTup (aCons (eVar 4) (aCons (eUn oNeg (eC (.int 1))) aNil))) aNil)))) sNil)))))
    (sSeq (sFor (iRange1 (aCons (eVar 0) aNil)) (gNm 7) (sSeq (sDrop (eLm goApp (eVar 2) (aCons (eBin oAdd (eFz (fComp (iRange1 (aCons (eVar 0) aNil)) (gNm 16) (fun _ st => .ok true st) (eCB oInt (aCons (eBin oEq (eVar 16) (eVar 7)) aNil)) [16])) (eFz (fDisp (aCons (eC (.int 1)) aNil)))) aNil)))
    (sDrop (eLm goApp (eVar 3) (aCons (eTup (aCons (eC .non) (aCons (eC (.int 1)) aNil))) aNil)))))
    (sSeq (sSet 8 (eFz (fComp (iRange1 (aCons (eBin oAdd (eVar 0) (eC (.int 1))) aNil)) (gNm 17) (fun _ st => .ok true st) (eFz (fComp (iVal (eFrz (eVar 2))) (gNm 18) (fun _ st => .ok true st) (eBin oIx (eVar 18) (eVar 17)) [18])) [17])))
    (sSeq (sAsg (eMeth "Equations" "solved" 1 f_Equations_solved (eMake "Equations" 3 f_Equations___init__ (aCons (eVar 8) (aCons (eBin oAdd (eBin oMul (eFz (fDisp (aCons (eC (.int 0)) aNil))) (eVar 0)) (eFz (fDisp (aCons (eC (.int 1)) aNil)))) aNil))) aNil) (gTp 2 (gsCons (gNm 9) (gsCons (gNm 10) gsNil))))
    (sSeq (sIf (tE (eBin oIsN (eVar 9) (eC .non))) (sRet (eTup (aCons (eC .non) (aCons (eCB oTuple (aCons (eCall 1 f_shortened (aCons (eFz (fComp (iVal (eCut (eVar 10) pNone (pSome (eVar 0)))) (gNm 15) (fun _ st => .ok true st) (eUn oNeg (eVar 15)) [15])) aNil)) aNil)) aNil)))) sNil)
    (sSeq (sPar 11 12 (aCons (eCall 1 f_common_bottom (aCons (eVar 9) aNil)) (aCons (eOw (fMul (eFz (fDisp (aCons (eC (.int 0)) aNil))) (eCB oLen (aCons (eVar 1) aNil)))) aNil)))
    (sSeq (sFor (iZipF (aCons (eVar 9) (aCons (eFrz (eVar 3)) aNil))) (gTp 2 (gsCons (gNm 13) (gsCons (gTp 2 (gsCons (gNm 4) (gsCons (gNm 14) gsNil))) gsNil))) (sIf (tE (eBin oNotN (eVar 4) (eC .non))) (sAsg (eBin oAdd (eBin oIx (eVar 12) (eVar 4)) (eBin oMul (eVar 14) (eCall 2 f_whole (aCons (eVar 13) (aCons (eVar 11) aNil))))) (gSubL (eVar 12) (eVar 4))) sNil))
    (sRet (eTup (aCons (eCB oTuple (aCons (eFrz (eVar 12)) aNil)) (aCons (eC .non) aNil))))))))))))
def f_Bench_tell : Fn := runF 2
    (sSeq (sDrop (eCall 2 f_check_comparison (aCons (eFld "Bench" "things" (eVar 0)) (aCons (eVar 1) aNil))))
    (sSeq (sIf (tE (eBin oEq (eLenO "Bench" f_Bench___len__ (eVar 0)) (eC (.int 8)))) (sRaise "TooMany") sNil)
    (sSeq (sDrop (eMeth "Bench" "note" 3 f_Bench_note (eVar 0) (aCons (eC (.str "tell")) (aCons (eBin oAdd (eMeth "Bench" "told" 1 f_Bench_told (eVar 0) aNil) (eTup (aCons (eVar 1) aNil))) aNil))))
    (sRet (eBin oNotN (eBin oIx (eCall 2 f_solved (aCons (eFld "Bench" "things" (eVar 0)) (aCons (eMeth "Bench" "told" 1 f_Bench_told (eVar 0) aNil) aNil))) (eC (.int 1))) (eC .non))))))
def f_Bench_undo : Fn := runF 2
    (sSeq (sIf (tE (eBin oEq (eFld "Bench" "done" (eVar 0)) (eFz (fDisp aNil)))) (sRaise "NothingToUndo") sNil)
    (sSeq (sSet 1 (ePop (eFld "Bench" "done" (eVar 0))))
    (sSeq (sDrop (eLm goApp (eFld "Bench" "undone" (eVar 0)) (aCons (eTup (aCons (eVar 1) (aCons (ePop (eFld "Bench" "states" (eVar 0))) aNil))) aNil)))
    (sRet (eVar 1)))))
def f_Bench_redo : Fn := runF 3
    (sSeq (sIf (tE (eBin oEq (eFld "Bench" "undone" (eVar 0)) (eFz (fDisp aNil)))) (sRaise "NothingToUndo") sNil)
    (sSeq (sAsg (ePop (eFld "Bench" "undone" (eVar 0))) (gTp 2 (gsCons (gNm 1) (gsCons (gNm 2) gsNil))))
    (sSeq (sDrop (eLm goApp (eFld "Bench" "done" (eVar 0)) (aCons (eVar 1) aNil)))
    (sSeq (sDrop (eLm goApp (eFld "Bench" "states" (eVar 0)) (aCons (eVar 2) aNil)))
    (sRet (eVar 1))))))
def f_Bench_drop : Fn := runF 3
    (sSeq (sIf (tNotF (tE (eCall 3 f_is_between (aCons (eVar 1) (aCons (eC (.int 0)) (aCons (eBin oSub (eLenO "Bench" f_Bench___len__ (eVar 0)) (eC (.int 1))) aNil)))))) (sRaise "InvalidNumber") sNil)
    (sSeq (sSet 2 (eBin oIx (eMeth "Bench" "told" 1 f_Bench_told (eVar 0) aNil) (eVar 1)))
    (sSeq (sDrop (eMeth "Bench" "note" 3 f_Bench_note (eVar 0) (aCons (eC (.str "drop")) (aCons (eBin oAdd (eCut (eMeth "Bench" "told" 1 f_Bench_told (eVar 0) aNil) pNone (pSome (eVar 1))) (eCut (eMeth "Bench" "told" 1 f_Bench_told (eVar 0) aNil) (pSome (eBin oAdd (eVar 1) (eC (.int 1)))) pNone)) aNil))))
    (sRet (eVar 2)))))
def f__law_call : Fn := runF 4
    (sSeq (sAsg (eVar 1) (gTp 2 (gsCons (gNm 2) (gsCons (gNm 3) gsNil))))
    (sSeq (sIf (tE (eBin oEq (eVar 0) (eC (.int 0)))) (sRet (eMake "Bench" 2 f_Bench___init__ (aCons (eVar 3) aNil))) sNil)
    (sSeq (sIf (tE (eBin oLt (eVar 0) (eC (.int 3)))) (sRet (eIf (tE (eBin oEq (eVar 0) (eC (.int 1)))) (eMeth "Bench" "tell" 2 f_Bench_tell (eVar 2) (aCons (eVar 3) aNil)) (eMeth "Bench" "drop" 2 f_Bench_drop (eVar 2) (aCons (eVar 3) aNil)))) sNil)
    (sRet (eIf (tE (eBin oEq (eVar 0) (eC (.int 3)))) (eMeth "Bench" "undo" 1 f_Bench_undo (eVar 2) aNil) (eMeth "Bench" "redo" 1 f_Bench_redo (eVar 2) aNil))))))
def f__law_name : Fn := runF 2
    (sSeq (sIf (tNotF (tE (eIsE (excIs "ValueError") excs (eVar 0)))) (sRet (eUn oNeg (eC (.int 1)))) sNil)
    (sSeq (sSet 1 (eFz (fDisp (aCons (eIsE (excIs "InvalidThings") excs (eVar 0)) (aCons (eIsE (excIs "InvalidTold") excs (eVar 0)) aNil)))))
    (sSeq (sSet 1 (eBin oAdd (eVar 1) (eFz (fDisp (aCons (eIsE (excIs "InvalidWeights") excs (eVar 0)) (aCons (eIsE (excIs "InvalidLot") excs (eVar 0)) aNil))))))
    (sSeq (sSet 1 (eBin oAdd (eVar 1) (eFz (fDisp (aCons (eIsE (excIs "InvalidComparison") excs (eVar 0)) (aCons (eIsE (excIs "InvalidNumber") excs (eVar 0)) aNil))))))
    (sSeq (sSet 1 (eBin oAdd (eVar 1) (eFz (fDisp (aCons (eIsE (excIs "InvalidText") excs (eVar 0)) (aCons (eIsE (excIs "NotSure") excs (eVar 0)) aNil))))))
    (sSeq (sSet 1 (eBin oAdd (eVar 1) (eFz (fDisp (aCons (eIsE (excIs "NoneAgree") excs (eVar 0)) (aCons (eIsE (excIs "TooMany") excs (eVar 0)) aNil))))))
    (sSeq (sSet 1 (eBin oAdd (eVar 1) (eFz (fDisp (aCons (eIsE (excIs "NothingToUndo") excs (eVar 0)) aNil)))))
    (sRet (eIf (tE (eBin oEq (eLr goCount (eVar 1) (aCons (eC (.bl true)) aNil)) (eC (.int 1)))) (eLr goIndex (eVar 1) (aCons (eC (.bl true)) aNil)) (eUn oNeg (eC (.int 1))))))))))))
def f__law_outcome : Fn := runF 5
    (sSeq (sSet 2 (eC .non))
    (sSeq (sSet 3 (eC .non))
    (sSeq (sTryCall 4 2 3 2 excs f__law_call (aCons (eVar 0) (aCons (eVar 1) aNil)))
    (sSeq (sIf (tE (eBin oIsN (eVar 2) (eC .non))) (sRet (eTup (aCons (eC (.str "returned")) (aCons (eVar 3) aNil)))) sNil)
    (sRet (eTup (aCons (eC (.str "raised")) (aCons (eCall 1 f__law_name (aCons (eVar 2) aNil)) aNil))))))))
def f__law_raises : Fn := runF 2
    (sSeq (sSet 1 (eFz (fDisp (aCons (eC (.str "things")) (aCons (eC (.str "told")) (aCons (eC (.str "weights")) (aCons (eC (.str "lot")) (aCons (eC (.str "comparison")) (aCons (eC (.str "number")) aNil)))))))))
    (sSeq (sSet 1 (eBin oAdd (eVar 1) (eFz (fDisp (aCons (eC (.str "text")) (aCons (eC (.str "not_sure")) (aCons (eC (.str "none_agree")) (aCons (eC (.str "many")) (aCons (eC (.str "undo")) aNil)))))))))
    (sRet (eTup (aCons (eC (.str "raised")) (aCons (eLr goIndex (eVar 1) (aCons (eVar 0) aNil)) aNil))))))
def f_law : Fn := runF 12
    (sSeq (sSet 1 (eCall 1 f__law_town (aCons (eVar 0) aNil)))
    (sSeq (sSet 2 (eBin oAdd (eC (.int 1)) (eCall 3 f__law_draw (aCons (eVar 0) (aCons (eVar 1) (aCons (eC (.int 5)) aNil))))))
    (sSeq (sPar3 3 4 5 (aCons (eMake "Bench" 2 f_Bench___init__ (aCons (eVar 2) aNil)) (aCons (eMake "Bench" 2 f_Bench___init__ (aCons (eVar 2) aNil)) (aCons (eTup (aCons (eTup (aCons (eC (.int 0)) aNil)) (aCons (eC (.str ">")) (aCons (eTup aNil) aNil)))) aNil))))
    (sSeq (sFor (iRange1 (aCons (eC (.int 8)) aNil)) (gNm 6) (sDrop (eMeth "Bench" "tell" 2 f_Bench_tell (eVar 4) (aCons (eVar 5) aNil))))
    (sSeq (sSet 7 (eOw (fComp (iVal (eTup (aCons (eC .non) (aCons (eC (.int 0)) (aCons (eC (.int 6)) (aCons (eC (.bl true)) (aCons (eC (.str "3")) (aCons (eTup (aCons (eC (.int 1)) aNil)) aNil)))))))) (gNm 8) (fun _ st => .ok true st) (eTup (aCons (eC (.int 0)) (aCons (eTup (aCons (eC .non) (aCons (eVar 8) aNil))) (aCons (eC (.str "things")) aNil)))) [8])))
    (sSeq (sSet 7 (eOw (fAdd (eFrz (eVar 7)) (eFz (fDisp (aCons (eTup (aCons (eC (.int 3)) (aCons (eTup (aCons (eVar 3) (aCons (eC .non) aNil))) (aCons (eC (.str "undo")) aNil)))) (aCons (eTup (aCons (eC (.int 4)) (aCons (eTup (aCons (eVar 3) (aCons (eC .non) aNil))) (aCons (eC (.str "undo")) aNil)))) (aCons (eTup (aCons (eC (.int 4)) (aCons (eTup (aCons (eVar 4) (aCons (eC .non) aNil))) (aCons (eC (.str "undo")) aNil)))) aNil))))))))
    (sSeq (sFor (iVal (eTup (aCons (eC .non) (aCons (eTup aNil) (aCons (eTup (aCons (eTup (aCons (eC (.int 0)) aNil)) (aCons (eC (.str ">")) aNil))) (aCons (eTup (aCons (eTup (aCons (eVar 2) aNil)) (aCons (eC (.str ">")) (aCons (eTup aNil) aNil)))) (aCons (eTup (aCons (eTup (aCons (eC (.int 0)) aNil)) (aCons (eC (.str "<")) (aCons (eTup aNil) aNil)))) (aCons (eFz (fDisp (aCons (eTup (aCons (eC (.int 0)) aNil)) (aCons (eC (.str ">")) (aCons (eTup aNil) aNil))))) (aCons (eC (.str "0>-")) aNil))))))))) (gNm 8) (sSet 7 (eOw (fAdd (eFrz (eVar 7)) (eFz (fDisp (aCons (eTup (aCons (eC (.int 1)) (aCons (eTup (aCons (eVar 3) (aCons (eVar 8) aNil))) (aCons (eC (.str "comparison")) aNil)))) (aCons (eTup (aCons (eC (.int 1)) (aCons (eTup (aCons (eVar 4) (aCons (eVar 8) aNil))) (aCons (eC (.str "comparison")) aNil)))) aNil))))))))
    (sSeq (sFor (iVal (eTup (aCons (eC .non) (aCons (eUn oNeg (eC (.int 1))) (aCons (eC (.int 8)) (aCons (eC (.bl true)) (aCons (eC (.str "0")) (aCons (eVar 5) aNil)))))))) (gNm 8) (sDrop (eLm goApp (eVar 7) (aCons (eTup (aCons (eC (.int 2)) (aCons (eTup (aCons (eVar 4) (aCons (eVar 8) aNil))) (aCons (eC (.str "number")) aNil)))) aNil))))
    (sSeq (sSet 7 (eOw (fAdd (eFrz (eVar 7)) (eFz (fDisp (aCons (eTup (aCons (eC (.int 2)) (aCons (eTup (aCons (eVar 3) (aCons (eC (.int 0)) aNil))) (aCons (eC (.str "number")) aNil)))) (aCons (eTup (aCons (eC (.int 1)) (aCons (eTup (aCons (eVar 4) (aCons (eVar 5) aNil))) (aCons (eC (.str "many")) aNil)))) (aCons (eTup (aCons (eC (.int 3)) (aCons (eTup (aCons (eVar 3) (aCons (eC .non) aNil))) (aCons (eC (.str "undo")) aNil)))) aNil))))))))
    (sSeq (sFor (iVal (eFrz (eVar 7))) (gTp 3 (gsCons (gNm 9) (gsCons (gNm 10) (gsCons (gNm 11) gsNil)))) (sIf (tE (eBin oNe (eCall 2 f__law_outcome (aCons (eVar 9) (aCons (eVar 10) aNil))) (eCall 1 f__law_raises (aCons (eVar 11) aNil)))) (sRet (eC (.bl false))) sNil))
    (sSeq (sIf (tOrF (tE (eBin oNe (eLenO "Bench" f_Bench___len__ (eVar 3)) (eC (.int 0)))) (tOrF (tE (eBin oNe (eLenO "Bench" f_Bench___len__ (eVar 4)) (eC (.int 8)))) (tOrF (tE (eBin oNe (eMeth "Bench" "told" 1 f_Bench_told (eVar 4) aNil) (eBin oMul (eTup (aCons (eVar 5) aNil)) (eC (.int 8))))) (tE (eBin oNe (eMeth "Bench" "drop" 2 f_Bench_drop (eVar 4) (aCons (eC (.int 3)) aNil)) (eVar 5)))))) (sRet (eC (.bl false))) sNil)
    (sSeq (sIf (tOrF (tE (eBin oNotN (eMeth "Bench" "tell" 2 f_Bench_tell (eVar 4) (aCons (eTup (aCons (eTup aNil) (aCons (eC (.str ">=")) (aCons (eTup (aCons (eC (.int 0)) aNil)) aNil)))) aNil)) (eC (.bl false)))) (tOrF (tE (eBin oNe (eMeth "Bench" "undo" 1 f_Bench_undo (eVar 4) aNil) (eC (.str "tell")))) (tOrF (tE (eBin oNe (eMeth "Bench" "undo" 1 f_Bench_undo (eVar 4) aNil) (eC (.str "drop")))) (tE (eBin oNe (eLenO "Bench" f_Bench___len__ (eVar 4)) (eC (.int 8))))))) (sRet (eC (.bl false))) sNil)
    (sSeq (sIf (tOrF (tE (eBin oNe (eMeth "Bench" "redo" 1 f_Bench_redo (eVar 4) aNil) (eC (.str "drop")))) (tOrF (tE (eBin oNe (eMeth "Bench" "redo" 1 f_Bench_redo (eVar 4) aNil) (eC (.str "tell")))) (tE (eBin oNe (eBin oIx (eMeth "Bench" "told" 1 f_Bench_told (eVar 4) aNil) (eC (.int 7))) (eTup (aCons (eTup aNil) (aCons (eC (.str ">=")) (aCons (eTup (aCons (eC (.int 0)) aNil)) aNil)))))))) (sRet (eC (.bl false))) sNil)
    (sSeq (sIf (tOrF (tE (eBin oNotN (eMeth "Bench" "tell" 2 f_Bench_tell (eVar 3) (aCons (eVar 5) aNil)) (eC (.bl true)))) (tOrF (tE (eBin oNe (eMeth "Bench" "undo" 1 f_Bench_undo (eVar 3) aNil) (eC (.str "tell")))) (tE (eBin oNe (eLenO "Bench" f_Bench___len__ (eVar 3)) (eC (.int 0)))))) (sRet (eC (.bl false))) sNil)
    (sRet (eAnd (eBin oEq (eCall 2 f__law_outcome (aCons (eC (.int 3)) (aCons (eTup (aCons (eVar 3) (aCons (eC .non) aNil))) aNil))) (eCall 1 f__law_raises (aCons (eC (.str "undo")) aNil))) (eBin oEq (eMeth "Bench" "redo" 1 f_Bench_redo (eVar 3) aNil) (eC (.str "tell")))))))))))))))))))
def d0 : He.DefD := ⟨("_law_town", none), "_law_town", "_law_town", defArgs (top 38), defBody (top 38), defScope (top 38), [], []⟩
def d1 : He.DefD := ⟨("_law_draw", none), "_law_draw", "_law_draw", defArgs (top 39), defBody (top 39), defScope (top 39), [], []⟩
def d2 : He.DefD := ⟨("is_between", none), "is_between", "is_between", defArgs (top 14), defBody (top 14), defScope (top 14), [], []⟩
def d3 : He.DefD := ⟨("check_things", none), "check_things", "check_things", defArgs (top 24), defBody (top 24), defScope (top 24), [], []⟩
def d4 : He.DefD := ⟨("Bench", some "__init__"), "__init__", "Bench.__init__", defArgs (mth 36 0), defBody (mth 36 0), defScope (mth 36 0), [], []⟩
def d5 : He.DefD := ⟨("is_found_lot", none), "is_found_lot", "is_found_lot", defArgs (top 22), defBody (top 22), defScope (top 22), [], []⟩
def d6 : He.DefD := ⟨("is_comparison", none), "is_comparison", "is_comparison", defArgs (top 23), defBody (top 23), defScope (top 23), [], []⟩
def d7 : He.DefD := ⟨("check_comparison", none), "check_comparison", "check_comparison", defArgs (top 25), defBody (top 25), defScope (top 25), [], []⟩
def d8 : He.DefD := ⟨("Bench", some "note"), "note", "Bench.note", defArgs (mth 36 4), defBody (mth 36 4), defScope (mth 36 4), [], []⟩
def d9 : He.DefD := ⟨("Bench", some "__len__"), "__len__", "Bench.__len__", defArgs (mth 36 1), defBody (mth 36 1), defScope (mth 36 1), [], []⟩
def d10 : He.DefD := ⟨("Bench", some "told"), "told", "Bench.told", defArgs (mth 36 7), defBody (mth 36 7), defScope (mth 36 7), [], []⟩
def d11 : He.DefD := ⟨("divisor_of", none), "divisor_of", "divisor_of", defArgs (top 15), defBody (top 15), defScope (top 15), [], []⟩
def d12 : He.DefD := ⟨("shortened", none), "shortened", "shortened", defArgs (top 16), defBody (top 16), defScope (top 16), [], []⟩
def d13 : He.DefD := ⟨("cleared", none), "cleared", "cleared", defArgs (top 31), defBody (top 31), defScope (top 31), [], []⟩
def d14 : He.DefD := ⟨("Equations", some "turn"), "turn", "Equations.turn", defArgs (mth 30 1), defBody (mth 30 1), defScope (mth 30 1), [], []⟩
def d15 : He.DefD := ⟨("Equations", some "leaving"), "leaving", "Equations.leaving", defArgs (mth 30 2), defBody (mth 30 2), defScope (mth 30 2), [], []⟩
def d16 : He.DefD := ⟨("fraction", none), "fraction", "fraction", defArgs (top 17), defBody (top 17), defScope (top 17), [], []⟩
def d17 : He.DefD := ⟨("Equations", some "solved"), "solved", "Equations.solved", defArgs (mth 30 3), defBody (mth 30 3), defScope (mth 30 3), [], []⟩
def d18 : He.DefD := ⟨("row_of", none), "row_of", "row_of", defArgs (top 33), defBody (top 33), defScope (top 33), [], []⟩
def d19 : He.DefD := ⟨("common_bottom", none), "common_bottom", "common_bottom", defArgs (top 18), defBody (top 18), defScope (top 18), [], []⟩
def d20 : He.DefD := ⟨("Equations", some "__init__"), "__init__", "Equations.__init__", defArgs (mth 30 0), defBody (mth 30 0), defScope (mth 30 0), [], []⟩
def d21 : He.DefD := ⟨("whole", none), "whole", "whole", defArgs (top 19), defBody (top 19), defScope (top 19), [], []⟩
def d22 : He.DefD := ⟨("solved", none), "solved", "solved", defArgs (top 34), defBody (top 34), defScope (top 34), [], []⟩
def d23 : He.DefD := ⟨("Bench", some "tell"), "tell", "Bench.tell", defArgs (mth 36 5), defBody (mth 36 5), defScope (mth 36 5), [], []⟩
def d24 : He.DefD := ⟨("Bench", some "undo"), "undo", "Bench.undo", defArgs (mth 36 8), defBody (mth 36 8), defScope (mth 36 8), [], []⟩
def d25 : He.DefD := ⟨("Bench", some "redo"), "redo", "Bench.redo", defArgs (mth 36 9), defBody (mth 36 9), defScope (mth 36 9), [], []⟩
def d26 : He.DefD := ⟨("Bench", some "drop"), "drop", "Bench.drop", defArgs (mth 36 6), defBody (mth 36 6), defScope (mth 36 6), [], []⟩
def d27 : He.DefD := ⟨("_law_call", none), "_law_call", "_law_call", defArgs (top 43), defBody (top 43), defScope (top 43), [], []⟩
def d28 : He.DefD := ⟨("_law_name", none), "_law_name", "_law_name", defArgs (top 41), defBody (top 41), defScope (top 41), [], []⟩
def d29 : He.DefD := ⟨("_law_outcome", none), "_law_outcome", "_law_outcome", defArgs (top 40), defBody (top 40), defScope (top 40), [], []⟩
def d30 : He.DefD := ⟨("_law_raises", none), "_law_raises", "_law_raises", defArgs (top 42), defBody (top 42), defScope (top 42), [], []⟩
def d31 : He.DefD := ⟨("law", none), "law", "law", defArgs (top 44), defBody (top 44), defScope (top 44), [], []⟩
def fn : List He.DefD := ([d0, d1, d2, d3, d4, d5, d6, d7, d8, d9, d10, d11, d12, d13, d14, d15, d16, d17, d18, d19, d20, d21, d22, d23, d24, d25, d26, d27, d28, d29] : List He.DefD) ++ ([d30, d31] : List He.DefD)
def fa : List He.Fa := ([.glo "_law_town", .glo "_law_draw", .glo "is_between", .glo "check_things", .mkr "Bench", .glo "is_found_lot", .glo "is_comparison", .glo "check_comparison", .meth "Bench" "note", .meth "Bench" "__len__", .meth "Bench" "told", .glo "divisor_of", .glo "shortened", .glo "cleared", .meth "Equations" "turn", .meth "Equations" "leaving", .glo "fraction", .meth "Equations" "solved", .glo "row_of", .glo "common_bottom", .mkr "Equations", .glo "whole", .glo "solved", .meth "Bench" "tell", .meth "Bench" "undo", .meth "Bench" "redo", .meth "Bench" "drop", .glo "_law_call", .glo "_law_name", .glo "ScaleError"] : List He.Fa) ++ ([.glo "_law_outcome", .glo "_law_raises", .glo "law"] : List He.Fa)
def qs : Ask := ⟨(["ValueError", "abs", "all", "bool", "enumerate", "int", "isinstance", "len", "list", "range", "str", "tuple", "zip"] : List Str), true, [("Equations", ["many", "signs", "rows", "basis"]), ("Bench", ["things", "states", "done", "undone"])], true⟩
def loose : List Str := (["ScaleError", "InvalidThings", "InvalidTold", "InvalidWeights", "InvalidLot", "InvalidComparison", "InvalidNumber", "InvalidText", "NotSure", "NoneAgree", "TooMany", "NothingToUndo", "is_between", "divisor_of", "shortened", "fraction", "common_bottom", "whole", "SIGNS", "is_found_lot", "is_comparison", "check_things", "check_comparison", "lot_text", "told_text", "Equations", "cleared", "row_of", "solved", "Bench"] : List Str) ++ (["_law_town", "_law_draw", "_law_outcome", "_law_name", "_law_raises", "_law_call"] : List Str)
end Gk81
end
section
set_option Elab.async false
set_option linter.all false
set_option maxRecDepth 100000
set_option maxHeartbeats 0
namespace Gk81
open PySem PySem.Spec PyProof.Rows L2 Lq
section
variable {P : Program} {w : World} {K : PySem.W.Frag} {mg : Str → Option Value} {base : Heap}
theorem fr_ValueError (G : Fx fa fn qs K mg) : mg "ValueError" = none := G.fr "ValueError" (by decide)
theorem fr_abs (G : Fx fa fn qs K mg) : mg "abs" = none := G.fr "abs" (by decide)
theorem fr_all (G : Fx fa fn qs K mg) : mg "all" = none := G.fr "all" (by decide)
theorem fr_bool (G : Fx fa fn qs K mg) : mg "bool" = none := G.fr "bool" (by decide)
theorem fr_enumerate (G : Fx fa fn qs K mg) : mg "enumerate" = none := G.fr "enumerate" (by decide)
theorem fr_int (G : Fx fa fn qs K mg) : mg "int" = none := G.fr "int" (by decide)
theorem fr_isinstance (G : Fx fa fn qs K mg) : mg "isinstance" = none := G.fr "isinstance" (by decide)
theorem fr_len (G : Fx fa fn qs K mg) : mg "len" = none := G.fr "len" (by decide)
theorem fr_list (G : Fx fa fn qs K mg) : mg "list" = none := G.fr "list" (by decide)
theorem fr_range (G : Fx fa fn qs K mg) : mg "range" = none := G.fr "range" (by decide)
theorem fr_str (G : Fx fa fn qs K mg) : mg "str" = none := G.fr "str" (by decide)
theorem fr_tuple (G : Fx fa fn qs K mg) : mg "tuple" = none := G.fr "tuple" (by decide)
theorem fr_zip (G : Fx fa fn qs K mg) : mg "zip" = none := G.fr "zip" (by decide)
theorem c_Equations (G : Fx fa fn qs K mg) : ClsF K mg "Equations" ["many", "signs", "rows", "basis"] := G.clsF 0 rfl
theorem c_Bench (G : Fx fa fn qs K mg) : ClsF K mg "Bench" ["things", "states", "done", "undone"] := G.clsF 1 rfl
theorem sc__law_town : FnScope ["script"] ["script"] (defScope (top 38)) := ⟨rfl, rfl, rfl, by decide +kernel, rfl, by decide +kernel, by decide +kernel⟩
theorem ok__law_town (G : Fx fa fn qs K mg) : Cl P w K mg base 1 "_law_town" 1 f__law_town := by
  obtain ⟨fd, F⟩ := G.def_ 0 (d := d0) rfl rfl rfl
  refine cl_of F (G.glo 0 rfl) (F.bindsN fun _ _ _ _ _ _ us hl => match us, hl with | [_], _ => rfl) (fn_body (N := ["script"]) (ps := ["script"]) F sc__law_town fun cdv A outer s H E hr => ?_)
  have nd := sc__law_town.nd
  exact (jss_one (js_ret (je_ow (jf_add (je_fz (jf_lst (ja_cons je_int ja_nil))) (je_fz (jf_list (je_var 0) (fr_list G)))))))
theorem sc__law_draw : FnScope ["script", "town", "limit", "at", "left", "number"] ["script", "town", "limit"] (defScope (top 39)) := ⟨rfl, rfl, rfl, by decide +kernel, rfl, by decide +kernel, by decide +kernel⟩
theorem ok__law_draw (G : Fx fa fn qs K mg) : Cl P w K mg base 1 "_law_draw" 3 f__law_draw := by
  obtain ⟨fd, F⟩ := G.def_ 1 (d := d1) rfl rfl rfl
  refine cl_of F (G.glo 1 rfl) (F.bindsN fun _ _ _ _ _ _ us hl => match us, hl with | [_, _, _], _ => rfl) (fn_body (N := ["script", "town", "limit", "at", "left", "number"]) (ps := ["script", "town", "limit"]) F sc__law_draw fun cdv A outer s H E hr => ?_)
  have nd := sc__law_draw.nd
  exact (jss_cons (js_asg (vs := []) (je_bin jo_add (je_ix jx_ix (je_var 1) je_int) je_int) (jg_sub (je_var 1) je_int))
    (jss_cons (js_if (jt_cmp (jo_eq hr.units) (je_var 0) (je_fz (jf_lst ja_nil))) (jss_one (js_ret (je_bin jo_mod (je_bin jo_div (je_bin jo_mul (je_bin jo_mul (je_ix jx_ix (je_var 1) je_int) (je_ix jx_ix (je_var 1) je_int)) je_int) je_int) (je_var 2)))) jss_nil)
    (jss_cons (js_set 3 nd (je_bin jo_mod (je_ix jx_ix (je_var 1) je_int) (je_callB jc_len (ja_cons (je_var 0) ja_nil) (fr_len G) PySem.boot_len)))
    (jss_cons (js_set 4 nd (je_ix jx_ix (je_var 1) (je_bin jo_add je_int (je_var 3))))
    (jss_cons (js_if (JW.jt (jw_and (jt_cmp jo_geI (je_ix jx_ix (je_var 0) (je_var 3)) (je_bin jo_pow je_int je_int)) (jw_and1 (jt_cmp jo_gtI (je_var 4) je_int)))) (jss_cons (js_asg (vs := []) (je_bin jo_div (je_var 4) (je_var 2)) (jg_sub (je_var 1) (je_bin jo_add je_int (je_var 3))))
    (jss_one (js_ret (je_bin jo_mod (je_var 4) (je_var 2))))) jss_nil)
    (jss_cons (js_set 5 nd (je_bin jo_mod (je_bin jo_add (je_ix jx_ix (je_var 0) (je_var 3)) (je_bin jo_mul je_int (je_ix jx_ix (je_var 1) je_int))) je_int))
    (jss_cons (js_set 5 nd (je_bin jo_mod (je_bin jo_pow (je_var 5) je_int) je_int))
    (jss_one (js_ret (je_bin jo_mod (je_bin jo_div (je_bin jo_mod (je_bin jo_add (je_bin jo_mul (je_bin jo_div (je_var 5) je_int) je_int) (je_var 5)) je_int) je_int) (je_var 2)))))))))))
theorem sc_is_between : FnScope ["value", "low", "high"] ["value", "low", "high"] (defScope (top 14)) := ⟨rfl, rfl, rfl, by decide +kernel, rfl, by decide +kernel, by decide +kernel⟩
theorem ok_is_between (G : Fx fa fn qs K mg) : Cl P w K mg base 1 "is_between" 3 f_is_between := by
  obtain ⟨fd, F⟩ := G.def_ 2 (d := d2) rfl rfl rfl
  refine cl_of F (G.glo 2 rfl) (F.bindsN fun _ _ _ _ _ _ us hl => match us, hl with | [_, _, _], _ => rfl) (fn_body (N := ["value", "low", "high"]) (ps := ["value", "low", "high"]) F sc_is_between fun cdv A outer s H E hr => ?_)
  have nd := sc_is_between.nd
  exact (jss_one (js_ret (je_and (je_isi .int (je_var 0) (fr_isinstance G) (fr_int G) (by decide +kernel)) (je_and (je_not (je_isi .bl (je_var 0) (fr_isinstance G) (fr_bool G) (by decide +kernel))) (je_one (je_chain jo_leI jo_leI (je_var 1) (je_var 0) (je_var 2)))))))
theorem sc_check_things : FnScope ["value"] ["value"] (defScope (top 24)) := ⟨rfl, rfl, rfl, by decide +kernel, rfl, by decide +kernel, by decide +kernel⟩
theorem ok_check_things (G : Fx fa fn qs K mg) : Cl P w K mg base 2 "check_things" 1 f_check_things := by
  obtain ⟨fd, F⟩ := G.def_ 3 (d := d3) rfl rfl rfl
  refine cl_of F (G.glo 3 rfl) (F.bindsN fun _ _ _ _ _ _ us hl => match us, hl with | [_], _ => rfl) (fn_body (N := ["value"]) (ps := ["value"]) F sc_check_things fun cdv A outer s H E hr => ?_)
  have nd := sc_check_things.nd
  exact (jss_one (js_if (jt_not (jt_val (je_call (ok_is_between G) hr ctx_px (ja_cons (je_var 0) (ja_cons je_int (ja_cons je_int ja_nil)))))) (jss_one (js_raise rfl ctx_tk (G.exc rfl "InvalidThings" (by decide)))) jss_nil))
theorem sc_Bench___init__ : FnScope ["self", "things"] ["self", "things"] (defScope (mth 36 0)) := ⟨rfl, rfl, rfl, by decide +kernel, rfl, by decide +kernel, by decide +kernel⟩
theorem ok_Bench___init__ (G : Fx fa fn qs K mg) : Mi P w K mg base 3 "Bench" 2 f_Bench___init__ := by
  obtain ⟨fd, F⟩ := G.def_ 4 (d := d4) rfl rfl rfl
  refine G.mi 1 rfl 4 rfl (F.bindsN fun _ _ _ _ _ _ us hl => match us, hl with | [_, _], _ => rfl) (fn_body (N := ["self", "things"]) (ps := ["self", "things"]) F sc_Bench___init__ fun cdv A outer s H E hr => ?_)
  have nd := sc_Bench___init__.nd
  exact (jss_cons (js_expr (je_call (ok_check_things G) hr ctx_px (ja_cons (je_var 1) ja_nil)))
    (jss_cons (js_fld (c_Bench G) (je_var 0) (je_var 1))
    (jss_cons (js_fld (c_Bench G) (je_var 0) (je_ow (jf_lst (ja_cons (je_tup ja_nil) ja_nil))))
    (jss_cons (js_fld (c_Bench G) (je_var 0) (je_ow (jf_lst ja_nil)))
    (jss_one (js_fld (c_Bench G) (je_var 0) (je_ow (jf_lst ja_nil))))))))
theorem sc_is_found_lot : FnScope ["things", "value", "one", "k"] ["things", "value"] (defScope (top 22)) := ⟨rfl, rfl, rfl, by decide +kernel, rfl, by decide +kernel, by decide +kernel⟩
theorem ok_is_found_lot (G : Fx fa fn qs K mg) : Cl P w K mg base 2 "is_found_lot" 2 f_is_found_lot := by
  obtain ⟨fd, F⟩ := G.def_ 5 (d := d5) rfl rfl rfl
  refine cl_of F (G.glo 5 rfl) (F.bindsN fun _ _ _ _ _ _ us hl => match us, hl with | [_, _], _ => rfl) (fn_body (N := ["things", "value", "one", "k"]) (ps := ["things", "value"]) F sc_is_found_lot fun cdv A outer s H E hr => ?_)
  have nd := sc_is_found_lot.nd
  exact (jss_cons (js_if (JW.jt (jw_or (jt_not (jt_val (je_isi .tup (je_var 1) (fr_isinstance G) (fr_tuple G) (by decide +kernel)))) (jw_or1 (jt_not (jt_val (je_callB (jc_all rfl) (ja_cons (je_fz (jf_lc (own := [("one", 2)]) rfl nd (blkOk_by (by kernel_rfl)) (ji_seq (je_var 1)) (fun _ _ _ _ _ => (jg_name (i := 2) nd)) (fun _ _ _ _ _ => jts_nil) (fun _ _ _ _ _ => (je_call (ok_is_between G) hr passL (ja_cons (je_var 2) (ja_cons je_int (ja_cons (je_bin jo_sub (je_var 0) je_int) ja_nil))))))) ja_nil) (fr_all G) (by decide +kernel))))))) (jss_one (js_ret je_bl)) jss_nil)
    (jss_one (js_ret (je_callB (jc_all rfl) (ja_cons (je_fz (jf_lc (own := [("k", 3)]) rfl nd (blkOk_by (by kernel_rfl)) (ji_range1 (ja_cons (je_bin jo_sub (je_callB jc_len (ja_cons (je_var 1) ja_nil) (fr_len G) PySem.boot_len) je_int) ja_nil) (fr_range G)) (fun _ _ _ _ _ => (jg_name (i := 3) nd)) (fun _ _ _ _ _ => jts_nil) (fun _ _ _ _ _ => (je_cmp (jo_lt hr.units0) (je_ix jx_ix (je_var 1) (je_var 3)) (je_ix jx_ix (je_var 1) (je_bin jo_add (je_var 3) je_int)))))) ja_nil) (fr_all G) (by decide +kernel)))))
theorem sc_is_comparison : FnScope ["things", "value"] ["things", "value"] (defScope (top 23)) := ⟨rfl, rfl, rfl, by decide +kernel, rfl, by decide +kernel, by decide +kernel⟩
theorem ok_is_comparison (G : Fx fa fn qs K mg) : Cl P w K mg base 3 "is_comparison" 2 f_is_comparison := by
  obtain ⟨fd, F⟩ := G.def_ 6 (d := d6) rfl rfl rfl
  refine cl_of F (G.glo 6 rfl) (F.bindsN fun _ _ _ _ _ _ us hl => match us, hl with | [_, _], _ => rfl) (fn_body (N := ["things", "value"]) (ps := ["things", "value"]) F sc_is_comparison fun cdv A outer s H E hr => ?_)
  have nd := sc_is_comparison.nd
  exact (jss_cons (js_if (JW.jt (jw_or (jt_not (jt_val (je_isi .tup (je_var 1) (fr_isinstance G) (fr_tuple G) (by decide +kernel)))) (jw_or (jt_cmp (jo_ne hr.units) (je_callB jc_len (ja_cons (je_var 1) ja_nil) (fr_len G) PySem.boot_len) je_int) (jw_or (jt_not (jt_val (je_isi .str (je_ix jx_ix (je_var 1) je_int) (fr_isinstance G) (fr_str G) (by decide +kernel)))) (jw_or1 (jt_cmp (jo_nin (u65 hr)) (je_ix jx_ix (je_var 1) je_int) (G.signs rfl))))))) (jss_one (js_ret je_bl)) jss_nil)
    (jss_one (js_ret (je_and (je_call (ok_is_found_lot G) hr ctx_px (ja_cons (je_var 0) (ja_cons (je_ix jx_ix (je_var 1) je_int) ja_nil))) (je_one (je_call (ok_is_found_lot G) hr ctx_px (ja_cons (je_var 0) (ja_cons (je_ix jx_ix (je_var 1) je_int) ja_nil))))))))
theorem sc_check_comparison : FnScope ["things", "value"] ["things", "value"] (defScope (top 25)) := ⟨rfl, rfl, rfl, by decide +kernel, rfl, by decide +kernel, by decide +kernel⟩
theorem ok_check_comparison (G : Fx fa fn qs K mg) : Cl P w K mg base 4 "check_comparison" 2 f_check_comparison := by
  obtain ⟨fd, F⟩ := G.def_ 7 (d := d7) rfl rfl rfl
  refine cl_of F (G.glo 7 rfl) (F.bindsN fun _ _ _ _ _ _ us hl => match us, hl with | [_, _], _ => rfl) (fn_body (N := ["things", "value"]) (ps := ["things", "value"]) F sc_check_comparison fun cdv A outer s H E hr => ?_)
  have nd := sc_check_comparison.nd
  exact (jss_one (js_if (jt_not (jt_val (je_call (ok_is_comparison G) hr ctx_px (ja_cons (je_var 0) (ja_cons (je_var 1) ja_nil))))) (jss_one (js_raise rfl ctx_tk (G.exc rfl "InvalidComparison" (by decide)))) jss_nil))
theorem sc_Bench_note : FnScope ["self", "operation", "state"] ["self", "operation", "state"] (defScope (mth 36 4)) := ⟨rfl, rfl, rfl, by decide +kernel, rfl, by decide +kernel, by decide +kernel⟩
theorem ok_Bench_note (G : Fx fa fn qs K mg) : Me P w K mg base 1 "Bench" "note" 3 f_Bench_note := by
  obtain ⟨fd, F⟩ := G.def_ 8 (d := d8) rfl rfl rfl
  refine G.me 1 rfl 8 rfl (F.bindsN fun _ _ _ _ _ _ us hl => match us, hl with | [_, _, _], _ => rfl) (fn_body (N := ["self", "operation", "state"]) (ps := ["self", "operation", "state"]) F sc_Bench_note fun cdv A outer s H E hr => ?_)
  have nd := sc_Bench_note.nd
  exact (jss_cons (js_expr (je_append (je_fld (c_Bench G) (je_var 0)) (ja_cons (je_var 2) ja_nil)))
    (jss_cons (js_expr (je_append (je_fld (c_Bench G) (je_var 0)) (ja_cons (je_var 1) ja_nil)))
    (jss_one (js_fld (c_Bench G) (je_var 0) (je_ow (jf_lst ja_nil))))))
theorem sc_Bench___len__ : FnScope ["self"] ["self"] (defScope (mth 36 1)) := ⟨rfl, rfl, rfl, by decide +kernel, rfl, by decide +kernel, by decide +kernel⟩
theorem ok_Bench___len__ (G : Fx fa fn qs K mg) : Me P w K mg base 1 "Bench" "__len__" 1 f_Bench___len__ := by
  obtain ⟨fd, F⟩ := G.def_ 9 (d := d9) rfl rfl rfl
  refine G.me 1 rfl 9 rfl (F.bindsN fun _ _ _ _ _ _ us hl => match us, hl with | [_], _ => rfl) (fn_body (N := ["self"]) (ps := ["self"]) F sc_Bench___len__ fun cdv A outer s H E hr => ?_)
  have nd := sc_Bench___len__.nd
  exact (jss_one (js_ret (je_callB jc_len (ja_cons (je_ix jx_ix (je_fld (c_Bench G) (je_var 0)) (je_neg je_int)) ja_nil) (fr_len G) PySem.boot_len)))
theorem sc_Bench_told : FnScope ["self"] ["self"] (defScope (mth 36 7)) := ⟨rfl, rfl, rfl, by decide +kernel, rfl, by decide +kernel, by decide +kernel⟩
theorem ok_Bench_told (G : Fx fa fn qs K mg) : Me P w K mg base 1 "Bench" "told" 1 f_Bench_told := by
  obtain ⟨fd, F⟩ := G.def_ 10 (d := d10) rfl rfl rfl
  refine G.me 1 rfl 10 rfl (F.bindsN fun _ _ _ _ _ _ us hl => match us, hl with | [_], _ => rfl) (fn_body (N := ["self"]) (ps := ["self"]) F sc_Bench_told fun cdv A outer s H E hr => ?_)
  have nd := sc_Bench_told.nd
  exact (jss_one (js_ret (je_ix jx_ix (je_fld (c_Bench G) (je_var 0)) (je_neg je_int))))
theorem sc_divisor_of : FnScope ["one", "other"] ["one", "other"] (defScope (top 15)) := ⟨rfl, rfl, rfl, by decide +kernel, rfl, by decide +kernel, by decide +kernel⟩
theorem ok_divisor_of (G : Fx fa fn qs K mg) : Cl P w K mg base 1 "divisor_of" 2 f_divisor_of := by
  obtain ⟨fd, F⟩ := G.def_ 11 (d := d11) rfl rfl rfl
  refine cl_of F (G.glo 11 rfl) (F.bindsN fun _ _ _ _ _ _ us hl => match us, hl with | [_, _], _ => rfl) (fn_body (N := ["one", "other"]) (ps := ["one", "other"]) F sc_divisor_of fun cdv A outer s H E hr => ?_)
  have nd := sc_divisor_of.nd
  exact (jss_cons (js_par (i := 0) (j := 1) rfl nd (ja_cons (je_callB jc_abs (ja_cons (je_var 0) ja_nil) (fr_abs G) (by decide +kernel)) (ja_cons (je_callB jc_abs (ja_cons (je_var 1) ja_nil) (fr_abs G) (by decide +kernel)) ja_nil)))
    (jss_cons (js_while 2037035976334486086268445688409378161051468393665936250636140449354381299763336706183397376 ctx_po (jt_cmp (jo_ne hr.units) (je_var 1) je_int) (jss_one (js_par (i := 0) (j := 1) rfl nd (ja_cons (je_var 1) (ja_cons (je_bin jo_mod (je_var 0) (je_var 1)) ja_nil)))))
    (jss_one (js_ret (je_var 0)))))
theorem sc_shortened : FnScope ["numbers", "by", "one"] ["numbers"] (defScope (top 16)) := ⟨rfl, rfl, rfl, by decide +kernel, rfl, by decide +kernel, by decide +kernel⟩
theorem ok_shortened (G : Fx fa fn qs K mg) : Cl P w K mg base 2 "shortened" 1 f_shortened := by
  obtain ⟨fd, F⟩ := G.def_ 12 (d := d12) rfl rfl rfl
  refine cl_of F (G.glo 12 rfl) (F.bindsN fun _ _ _ _ _ _ us hl => match us, hl with | [_], _ => rfl) (fn_body (N := ["numbers", "by", "one"]) (ps := ["numbers"]) F sc_shortened fun cdv A outer s H E hr => ?_)
  have nd := sc_shortened.nd
  exact (jss_cons (js_set 1 nd je_int)
    (jss_cons (js_for (vs := [2]) ctx_po rfl (ji_seq (je_var 0)) (jg_name (i := 2) nd) (jss_cons (js_set 1 nd (je_call (ok_divisor_of G) hr ctx_px (ja_cons (je_var 1) (ja_cons (je_var 2) ja_nil))))
    (jss_one (js_if (jt_cmp (jo_eq hr.units) (je_var 1) je_int) (jss_one (js_ret (je_fz (jf_list (je_var 0) (fr_list G))))) jss_nil))))
    (jss_one (js_ret (je_ifExp (jt_cmp jo_gtI (je_var 1) je_int) (je_fz (jf_lc (own := [("one", 2)]) rfl nd (blkOk_by (by kernel_rfl)) (ji_seq (je_var 0)) (fun _ _ _ _ _ => (jg_name (i := 2) nd)) (fun _ _ _ _ _ => jts_nil) (fun _ _ _ _ _ => (je_bin jo_div (je_var 2) (je_var 1))))) (je_fz (jf_list (je_var 0) (fr_list G))))))))
theorem sc_cleared : FnScope ["row", "other", "place", "factor", "pivot", "one", "two"] ["row", "other", "place"] (defScope (top 31)) := ⟨rfl, rfl, rfl, by decide +kernel, rfl, by decide +kernel, by decide +kernel⟩
theorem ok_cleared (G : Fx fa fn qs K mg) : Cl P w K mg base 3 "cleared" 3 f_cleared := by
  obtain ⟨fd, F⟩ := G.def_ 13 (d := d13) rfl rfl rfl
  refine cl_of F (G.glo 13 rfl) (F.bindsN fun _ _ _ _ _ _ us hl => match us, hl with | [_, _, _], _ => rfl) (fn_body (N := ["row", "other", "place", "factor", "pivot", "one", "two"]) (ps := ["row", "other", "place"]) F sc_cleared fun cdv A outer s H E hr => ?_)
  have nd := sc_cleared.nd
  exact (jss_cons (js_asg (vs := [3, 4]) (je_tup (ja_cons (je_ix jx_ix (je_var 0) (je_var 2)) (ja_cons (je_ix jx_ix (je_var 1) (je_var 2)) ja_nil))) (jg_tup rfl (jgs_cons (jg_name (i := 3) nd) (jgs_cons (jg_name (i := 4) nd) jgs_nil))))
    (jss_cons (js_if (jt_cmp (jo_eq hr.units) (je_var 3) je_int) (jss_one (js_ret (je_var 0))) jss_nil)
    (jss_one (js_ret (je_call (ok_shortened G) hr ctx_px (ja_cons (je_fz (jf_lc (own := [("one", 5), ("two", 6)]) rfl nd (blkOk_by (by kernel_rfl)) (ji_zip (ja_cons (je_var 0) (ja_cons (je_var 1) ja_nil)) (fr_zip G)) (fun _ _ _ _ _ => (jg_tup rfl (jgs_cons (jg_name (i := 5) nd) (jgs_cons (jg_name (i := 6) nd) jgs_nil)))) (fun _ _ _ _ _ => jts_nil) (fun _ _ _ _ _ => (je_bin jo_sub (je_bin jo_mul (je_var 5) (je_var 4)) (je_bin jo_mul (je_var 3) (je_var 6)))))) ja_nil))))))
theorem sc_Equations_turn : FnScope ["self", "costs", "at", "place", "row", "number"] ["self", "costs", "at", "place"] (defScope (mth 30 1)) := ⟨rfl, rfl, rfl, by decide +kernel, rfl, by decide +kernel, by decide +kernel⟩
theorem ok_Equations_turn (G : Fx fa fn qs K mg) : Me P w K mg base 4 "Equations" "turn" 4 f_Equations_turn := by
  obtain ⟨fd, F⟩ := G.def_ 14 (d := d14) rfl rfl rfl
  refine G.me 0 rfl 14 rfl (F.bindsN fun _ _ _ _ _ _ us hl => match us, hl with | [_, _, _, _], _ => rfl) (fn_body (N := ["self", "costs", "at", "place", "row", "number"]) (ps := ["self", "costs", "at", "place"]) F sc_Equations_turn fun cdv A outer s H E hr => ?_)
  have nd := sc_Equations_turn.nd
  exact (jss_cons (js_set 4 nd (je_ix jx_ix (je_fld (c_Equations G) (je_var 0)) (je_var 2)))
    (jss_cons (js_for (vs := [5]) ctx_po rfl (ji_range1 (ja_cons (je_callB jc_len (ja_cons (je_fld (c_Equations G) (je_var 0)) ja_nil) (fr_len G) PySem.boot_len) ja_nil) (fr_range G)) (jg_name (i := 5) nd) (jss_one (js_if (jt_cmp (jo_ne hr.units) (je_var 5) (je_var 2)) (jss_one (js_asg (vs := []) (je_call (ok_cleared G) hr ctx_px (ja_cons (je_ix jx_ix (je_fld (c_Equations G) (je_var 0)) (je_var 5)) (ja_cons (je_var 4) (ja_cons (je_var 3) ja_nil)))) (jg_sub (je_fld (c_Equations G) (je_var 0)) (je_var 5)))) jss_nil)))
    (jss_cons (js_asg (vs := []) (je_var 3) (jg_sub (je_fld (c_Equations G) (je_var 0)) (je_var 2)))
    (jss_one (js_ret (je_call (ok_cleared G) hr ctx_px (ja_cons (je_var 1) (ja_cons (je_var 4) (ja_cons (je_var 3) ja_nil)))))))))
theorem sc_Equations_leaving : FnScope ["self", "place", "best", "number", "row", "one", "two"] ["self", "place"] (defScope (mth 30 2)) := ⟨rfl, rfl, rfl, by decide +kernel, rfl, by decide +kernel, by decide +kernel⟩
theorem ok_Equations_leaving (G : Fx fa fn qs K mg) : Me P w K mg base 1 "Equations" "leaving" 2 f_Equations_leaving := by
  obtain ⟨fd, F⟩ := G.def_ 15 (d := d15) rfl rfl rfl
  refine G.me 0 rfl 15 rfl (F.bindsN fun _ _ _ _ _ _ us hl => match us, hl with | [_, _], _ => rfl) (fn_body (N := ["self", "place", "best", "number", "row", "one", "two"]) (ps := ["self", "place"]) F sc_Equations_leaving fun cdv A outer s H E hr => ?_)
  have nd := sc_Equations_leaving.nd
  exact (jss_cons (js_set 2 nd je_non)
    (jss_cons (js_forC (vs := [3, 4]) ctx_po rfl (ji_enumC (je_fld (c_Equations G) (je_var 0)) (fr_enumerate G)) (jg_tup rfl (jgs_cons (jg_name (i := 3) nd) (jgs_cons (jg_name (i := 4) nd) jgs_nil))) (jss_one (js_if (jt_cmp jo_gtI (je_ix jx_ix (je_var 4) (je_var 1)) je_int) (jss_one (js_if (jt_cmp jo_is (je_var 2) je_non) (jss_one (js_set 2 nd (je_var 3))) (jss_cons (js_par (i := 5) (j := 6) rfl nd (ja_cons (je_bin jo_mul (je_ix jx_ix (je_var 4) (je_neg je_int)) (je_ix jx_ix (je_ix jx_ix (je_fld (c_Equations G) (je_var 0)) (je_var 2)) (je_var 1))) (ja_cons (je_bin jo_mul (je_ix jx_ix (je_ix jx_ix (je_fld (c_Equations G) (je_var 0)) (je_var 2)) (je_neg je_int)) (je_ix jx_ix (je_var 4) (je_var 1))) ja_nil)))
    (jss_one (js_if (JW.jt (jw_or (jt_cmp (jo_lt hr.units0) (je_var 5) (je_var 6)) (jw_or1 (JW.jt (jw_and (jt_cmp (jo_eq hr.units) (je_var 5) (je_var 6)) (jw_and1 (jt_cmp (jo_lt hr.units0) (je_ix jx_ix (je_fld (c_Equations G) (je_var 0)) (je_var 3)) (je_ix jx_ix (je_fld (c_Equations G) (je_var 0)) (je_var 2))))))))) (jss_one (js_set 2 nd (je_var 3))) jss_nil))))) jss_nil)))
    (jss_one (js_ret (je_var 2)))))
theorem sc_fraction : FnScope ["top", "bottom", "by"] ["top", "bottom"] (defScope (top 17)) := ⟨rfl, rfl, rfl, by decide +kernel, rfl, by decide +kernel, by decide +kernel⟩
theorem ok_fraction (G : Fx fa fn qs K mg) : Cl P w K mg base 2 "fraction" 2 f_fraction := by
  obtain ⟨fd, F⟩ := G.def_ 16 (d := d16) rfl rfl rfl
  refine cl_of F (G.glo 16 rfl) (F.bindsN fun _ _ _ _ _ _ us hl => match us, hl with | [_, _], _ => rfl) (fn_body (N := ["top", "bottom", "by"]) (ps := ["top", "bottom"]) F sc_fraction fun cdv A outer s H E hr => ?_)
  have nd := sc_fraction.nd
  exact (jss_cons (js_set 2 nd (je_call (ok_divisor_of G) hr ctx_px (ja_cons (je_var 0) (ja_cons (je_var 1) ja_nil))))
    (jss_cons (js_set 2 nd (je_ifExp (jt_cmp jo_gtI (je_var 1) je_int) (je_var 2) (je_neg (je_var 2))))
    (jss_one (js_ret (je_tup (ja_cons (je_bin jo_div (je_var 0) (je_var 2)) (ja_cons (je_bin jo_div (je_var 1) (je_var 2)) ja_nil)))))))
theorem sc_Equations_solved : FnScope ["self", "costs", "row", "number", "some", "found", "unknowns", "place", "one", "two"] ["self"] (defScope (mth 30 3)) := ⟨rfl, rfl, rfl, by decide +kernel, rfl, by decide +kernel, by decide +kernel⟩
theorem ok_Equations_solved (G : Fx fa fn qs K mg) : Me P w K mg base 5 "Equations" "solved" 1 f_Equations_solved := by
  obtain ⟨fd, F⟩ := G.def_ 17 (d := d17) rfl rfl rfl
  refine G.me 0 rfl 17 rfl (F.bindsN fun _ _ _ _ _ _ us hl => match us, hl with | [_], _ => rfl) (fn_body (N := ["self", "costs", "row", "number", "some", "found", "unknowns", "place", "one", "two"]) (ps := ["self"]) F sc_Equations_solved fun cdv A outer s H E hr => ?_)
  have nd := sc_Equations_solved.nd
  exact (jss_cons (js_set 1 nd (je_ow (jf_mul (je_fz (jf_lst (ja_cons je_int ja_nil))) (je_bin jo_add (je_bin jo_add (je_fld (c_Equations G) (je_var 0)) (je_callB jc_len (ja_cons (je_fld (c_Equations G) (je_var 0)) ja_nil) (fr_len G) PySem.boot_len)) je_int))))
    (jss_cons (js_forC (vs := [2]) ctx_po rfl (ji_cell (je_fld (c_Equations G) (je_var 0))) (jg_name (i := 2) nd) (jss_one (js_set 1 nd (je_ow (jf_lc (own := [("one", 8), ("two", 9)]) rfl nd (blkOk_by (by kernel_rfl)) (ji_zip (ja_cons (je_frz (je_var 1)) (ja_cons (je_var 2) ja_nil)) (fr_zip G)) (fun _ _ _ _ _ => (jg_tup rfl (jgs_cons (jg_name (i := 8) nd) (jgs_cons (jg_name (i := 9) nd) jgs_nil)))) (fun _ _ _ _ _ => jts_nil) (fun _ _ _ _ _ => (je_bin jo_sub (je_var 8) (je_var 9))))))))
    (jss_cons (js_for (vs := [3]) ctx_po rfl (ji_range1 (ja_cons (je_callB jc_len (ja_cons (je_fld (c_Equations G) (je_var 0)) ja_nil) (fr_len G) PySem.boot_len) ja_nil) (fr_range G)) (jg_name (i := 3) nd) (jss_one (js_asg (vs := []) je_int (jg_sub (je_var 1) (je_bin jo_add (je_fld (c_Equations G) (je_var 0)) (je_var 3))))))
    (jss_cons (js_asg (vs := []) je_int (jg_sub (je_var 1) (je_neg je_int)))
    (jss_cons (js_setLc (i := 4) (own := [("place", 7)]) rfl nd (blkOk_by (by kernel_rfl)) (ji_range1 (ja_cons (je_fld (c_Equations G) (je_var 0)) ja_nil) (fr_range G)) (fun _ _ _ _ _ => (jg_name (i := 7) nd)) (fun _ _ _ _ _ => (jts_one (jt_cmp (jo_lt hr.units0) (je_ix jx_ix (je_var 1) (je_var 7)) je_int))) (fun _ _ _ _ _ => (je_var 7)))
    (jss_cons (js_while 2037035976334486086268445688409378161051468393665936250636140449354381299763336706183397376 ctx_po (jt_cmp (jo_ne hr.units) (je_var 4) (je_fz (jf_lst ja_nil))) (jss_cons (js_set 1 nd (je_meth (ok_Equations_turn G) hr ctx_px (je_var 0) (ja_cons (je_frz (je_var 1)) (ja_cons (je_meth (ok_Equations_leaving G) hr ctx_px (je_var 0) (ja_cons (je_ix jx_ix (je_var 4) je_int) ja_nil)) (ja_cons (je_ix jx_ix (je_var 4) je_int) ja_nil)))))
    (jss_one (js_setLc (i := 4) (own := [("place", 7)]) rfl nd (blkOk_by (by kernel_rfl)) (ji_range1 (ja_cons (je_fld (c_Equations G) (je_var 0)) ja_nil) (fr_range G)) (fun _ _ _ _ _ => (jg_name (i := 7) nd)) (fun _ _ _ _ _ => (jts_one (jt_cmp (jo_lt hr.units0) (je_ix jx_ix (je_var 1) (je_var 7)) je_int))) (fun _ _ _ _ _ => (je_var 7))))))
    (jss_cons (js_if (jt_cmp (jo_lt hr.units0) (je_ix jx_ix (je_var 1) (je_neg je_int)) je_int) (jss_cons (js_setLc (i := 5) (own := [("number", 3)]) rfl nd (blkOk_by (by kernel_rfl)) (ji_range1 (ja_cons (je_callB jc_len (ja_cons (je_fld (c_Equations G) (je_var 0)) ja_nil) (fr_len G) PySem.boot_len) ja_nil) (fr_range G)) (fun _ _ _ _ _ => (jg_name (i := 3) nd)) (fun _ _ _ _ _ => jts_nil) (fun _ _ _ _ _ => (je_bin jo_sub (je_ix jx_ix (je_var 1) (je_neg je_int)) (je_ix jx_ix (je_var 1) (je_bin jo_add (je_fld (c_Equations G) (je_var 0)) (je_var 3))))))
    (jss_one (js_ret (je_tup (ja_cons je_non (ja_cons (je_fz (jf_lc (own := [("one", 8), ("two", 9)]) rfl nd (blkOk_by (by kernel_rfl)) (ji_zip (ja_cons (je_fld (c_Equations G) (je_var 0)) (ja_cons (je_var 5) ja_nil)) (fr_zip G)) (fun _ _ _ _ _ => (jg_tup rfl (jgs_cons (jg_name (i := 8) nd) (jgs_cons (jg_name (i := 9) nd) jgs_nil)))) (fun _ _ _ _ _ => jts_nil) (fun _ _ _ _ _ => (je_bin jo_mul (je_var 8) (je_var 9))))) ja_nil)))))) jss_nil)
    (jss_cons (js_set 6 nd (je_ow (jf_mul (je_fz (jf_lst (ja_cons (je_tup (ja_cons je_int (ja_cons je_int ja_nil))) ja_nil))) (je_fld (c_Equations G) (je_var 0)))))
    (jss_cons (js_forC (vs := [3, 7]) ctx_po rfl (ji_enumC (je_fld (c_Equations G) (je_var 0)) (fr_enumerate G)) (jg_tup rfl (jgs_cons (jg_name (i := 3) nd) (jgs_cons (jg_name (i := 7) nd) jgs_nil))) (jss_one (js_if (jt_cmp (jo_lt hr.units0) (je_var 7) (je_fld (c_Equations G) (je_var 0))) (jss_one (js_asg (vs := []) (je_call (ok_fraction G) hr ctx_px (ja_cons (je_ix jx_ix (je_ix jx_ix (je_fld (c_Equations G) (je_var 0)) (je_var 3)) (je_neg je_int)) (ja_cons (je_ix jx_ix (je_ix jx_ix (je_fld (c_Equations G) (je_var 0)) (je_var 3)) (je_var 7)) ja_nil))) (jg_sub (je_var 6) (je_var 7)))) jss_nil)))
    (jss_one (js_ret (je_tup (ja_cons (je_frz (je_var 6)) (ja_cons je_non ja_nil))))))))))))))
theorem sc_row_of : FnScope ["things", "comparison", "one", "sign", "other", "thing"] ["things", "comparison"] (defScope (top 33)) := ⟨rfl, rfl, rfl, by decide +kernel, rfl, by decide +kernel, by decide +kernel⟩
theorem ok_row_of (G : Fx fa fn qs K mg) : Cl P w K mg base 1 "row_of" 2 f_row_of := by
  obtain ⟨fd, F⟩ := G.def_ 18 (d := d18) rfl rfl rfl
  refine cl_of F (G.glo 18 rfl) (F.bindsN fun _ _ _ _ _ _ us hl => match us, hl with | [_, _], _ => rfl) (fn_body (N := ["things", "comparison", "one", "sign", "other", "thing"]) (ps := ["things", "comparison"]) F sc_row_of fun cdv A outer s H E hr => ?_)
  have nd := sc_row_of.nd
  exact (jss_cons (js_asg (vs := [2, 3, 4]) (je_var 1) (jg_tup rfl (jgs_cons (jg_name (i := 2) nd) (jgs_cons (jg_name (i := 3) nd) (jgs_cons (jg_name (i := 4) nd) jgs_nil)))))
    (jss_one (js_ret (je_fz (jf_lc (own := [("thing", 5)]) rfl nd (blkOk_by (by kernel_rfl)) (ji_range1 (ja_cons (je_var 0) ja_nil) (fr_range G)) (fun _ _ _ _ _ => (jg_name (i := 5) nd)) (fun _ _ _ _ _ => jts_nil) (fun _ _ _ _ _ => (je_bin jo_sub (je_callTy jc_int (ja_cons (je_cmp (jo_in (u65 hr)) (je_var 5) (je_var 2)) ja_nil) (fr_int G) (by decide +kernel)) (je_callTy jc_int (ja_cons (je_cmp (jo_in (u65 hr)) (je_var 5) (je_var 4)) ja_nil) (fr_int G) (by decide +kernel)))))))))
theorem sc_common_bottom : FnScope ["some", "found", "one"] ["some"] (defScope (top 18)) := ⟨rfl, rfl, rfl, by decide +kernel, rfl, by decide +kernel, by decide +kernel⟩
theorem ok_common_bottom (G : Fx fa fn qs K mg) : Cl P w K mg base 2 "common_bottom" 1 f_common_bottom := by
  obtain ⟨fd, F⟩ := G.def_ 19 (d := d19) rfl rfl rfl
  refine cl_of F (G.glo 19 rfl) (F.bindsN fun _ _ _ _ _ _ us hl => match us, hl with | [_], _ => rfl) (fn_body (N := ["some", "found", "one"]) (ps := ["some"]) F sc_common_bottom fun cdv A outer s H E hr => ?_)
  have nd := sc_common_bottom.nd
  exact (jss_cons (js_set 1 nd je_int)
    (jss_cons (js_for (vs := [2]) ctx_po rfl (ji_seq (je_var 0)) (jg_name (i := 2) nd) (jss_one (js_set 1 nd (je_bin jo_div (je_bin jo_mul (je_var 1) (je_ix jx_ix (je_var 2) je_int)) (je_call (ok_divisor_of G) hr ctx_px (ja_cons (je_var 1) (ja_cons (je_ix jx_ix (je_var 2) je_int) ja_nil)))))))
    (jss_one (js_ret (je_var 1)))))
theorem sc_Equations___init__ : FnScope ["self", "rows", "goals", "number", "row", "own", "goal", "other", "one"] ["self", "rows", "goals"] (defScope (mth 30 0)) := ⟨rfl, rfl, rfl, by decide +kernel, rfl, by decide +kernel, by decide +kernel⟩
theorem ok_Equations___init__ (G : Fx fa fn qs K mg) : Mi P w K mg base 1 "Equations" 3 f_Equations___init__ := by
  obtain ⟨fd, F⟩ := G.def_ 20 (d := d20) rfl rfl rfl
  refine G.mi 0 rfl 20 rfl (F.bindsN fun _ _ _ _ _ _ us hl => match us, hl with | [_, _, _], _ => rfl) (fn_body (N := ["self", "rows", "goals", "number", "row", "own", "goal", "other", "one"]) (ps := ["self", "rows", "goals"]) F sc_Equations___init__ fun cdv A outer s H E hr => ?_)
  have nd := sc_Equations___init__.nd
  exact (jss_cons (js_fld (c_Equations G) (je_var 0) (je_callB jc_len (ja_cons (je_ix jx_ix (je_var 1) je_int) ja_nil) (fr_len G) PySem.boot_len))
    (jss_cons (js_fld (c_Equations G) (je_var 0) (je_fz (jf_lc (own := [("goal", 6)]) rfl nd (blkOk_by (by kernel_rfl)) (ji_seq (je_var 2)) (fun _ _ _ _ _ => (jg_name (i := 6) nd)) (fun _ _ _ _ _ => jts_nil) (fun _ _ _ _ _ => (je_ifExp (jt_cmp jo_geI (je_var 6) je_int) je_int (je_neg je_int))))))
    (jss_cons (js_fld (c_Equations G) (je_var 0) (je_ow (jf_lst ja_nil)))
    (jss_cons (js_for (vs := [3, 4]) ctx_po rfl (ji_enumT (ja_cons (je_var 1) ja_nil) (fr_enumerate G)) (jg_tup rfl (jgs_cons (jg_name (i := 3) nd) (jgs_cons (jg_name (i := 4) nd) jgs_nil))) (jss_cons (js_setLc (i := 5) (own := [("other", 7)]) rfl nd (blkOk_by (by kernel_rfl)) (ji_range1 (ja_cons (je_callB jc_len (ja_cons (je_var 1) ja_nil) (fr_len G) PySem.boot_len) ja_nil) (fr_range G)) (fun _ _ _ _ _ => (jg_name (i := 7) nd)) (fun _ _ _ _ _ => jts_nil) (fun _ _ _ _ _ => (je_callTy jc_int (ja_cons (je_cmp (jo_eq hr.units) (je_var 7) (je_var 3)) ja_nil) (fr_int G) (by decide +kernel))))
    (jss_one (js_expr (je_append (je_fld (c_Equations G) (je_var 0)) (ja_cons (je_bin jo_add (je_bin jo_add (je_fz (jf_lc (own := [("one", 8)]) rfl nd (blkOk_by (by kernel_rfl)) (ji_seq (je_var 4)) (fun _ _ _ _ _ => (jg_name (i := 8) nd)) (fun _ _ _ _ _ => jts_nil) (fun _ _ _ _ _ => (je_bin jo_mul (je_ix jx_ix (je_fld (c_Equations G) (je_var 0)) (je_var 3)) (je_var 8))))) (je_var 5)) (je_fz (jf_lst (ja_cons je_int (ja_cons (je_callB jc_abs (ja_cons (je_ix jx_ix (je_var 2) (je_var 3)) ja_nil) (fr_abs G) (by decide +kernel)) ja_nil))))) ja_nil))))))
    (jss_one (js_fld (c_Equations G) (je_var 0) (je_ow (jf_lc (own := [("number", 3)]) rfl nd (blkOk_by (by kernel_rfl)) (ji_range1 (ja_cons (je_callB jc_len (ja_cons (je_var 1) ja_nil) (fr_len G) PySem.boot_len) ja_nil) (fr_range G)) (fun _ _ _ _ _ => (jg_name (i := 3) nd)) (fun _ _ _ _ _ => jts_nil) (fun _ _ _ _ _ => (je_bin jo_add (je_fld (c_Equations G) (je_var 0)) (je_var 3)))))))))))
theorem sc_whole : FnScope ["one", "bottom"] ["one", "bottom"] (defScope (top 19)) := ⟨rfl, rfl, rfl, by decide +kernel, rfl, by decide +kernel, by decide +kernel⟩
theorem ok_whole (G : Fx fa fn qs K mg) : Cl P w K mg base 1 "whole" 2 f_whole := by
  obtain ⟨fd, F⟩ := G.def_ 21 (d := d21) rfl rfl rfl
  refine cl_of F (G.glo 21 rfl) (F.bindsN fun _ _ _ _ _ _ us hl => match us, hl with | [_, _], _ => rfl) (fn_body (N := ["one", "bottom"]) (ps := ["one", "bottom"]) F sc_whole fun cdv A outer s H E hr => ?_)
  have nd := sc_whole.nd
  exact (jss_one (js_ret (je_bin jo_mul (je_ix jx_ix (je_var 0) je_int) (je_bin jo_div (je_var 1) (je_ix jx_ix (je_var 0) je_int)))))
theorem sc_solved : FnScope ["things", "told", "columns", "names", "number", "comparison", "row", "thing", "rows", "shares", "numbers", "bottom", "found", "share", "sign", "one", "other", "k", "column"] ["things", "told"] (defScope (top 34)) := ⟨rfl, rfl, rfl, by decide +kernel, rfl, by decide +kernel, by decide +kernel⟩
theorem ok_solved (G : Fx fa fn qs K mg) : Cl P w K mg base 6 "solved" 2 f_solved := by
  obtain ⟨fd, F⟩ := G.def_ 22 (d := d22) rfl rfl rfl
  refine cl_of F (G.glo 22 rfl) (F.bindsN fun _ _ _ _ _ _ us hl => match us, hl with | [_, _], _ => rfl) (fn_body (N := ["things", "told", "columns", "names", "number", "comparison", "row", "thing", "rows", "shares", "numbers", "bottom", "found", "share", "sign", "one", "other", "k", "column"]) (ps := ["things", "told"]) F sc_solved fun cdv A outer s H E hr => ?_)
  have nd := sc_solved.nd
  exact (jss_cons (js_asg (vs := [2, 3]) (je_tup (ja_cons (je_ow (jf_lst ja_nil)) (ja_cons (je_ow (jf_lst ja_nil)) ja_nil))) (jg_tup rfl (jgs_cons (jg_name (i := 2) nd) (jgs_cons (jg_name (i := 3) nd) jgs_nil))))
    (jss_cons (js_for (vs := [4, 5]) ctx_po rfl (ji_enumT (ja_cons (je_var 1) ja_nil) (fr_enumerate G)) (jg_tup rfl (jgs_cons (jg_name (i := 4) nd) (jgs_cons (jg_name (i := 5) nd) jgs_nil))) (jss_cons (js_set 6 nd (je_call (ok_row_of G) hr ctx_px (ja_cons (je_var 0) (ja_cons (je_var 5) ja_nil))))
    (jss_cons (js_expr (je_append (je_var 2) (ja_cons (je_bin jo_add (je_var 6) (je_fz (jf_lst (ja_cons (je_callTy jc_int (ja_cons (je_cmp (jo_eq hr.units) (je_ix jx_ix (je_var 5) je_int) je_str) ja_nil) (fr_int G) (by decide +kernel)) ja_nil)))) ja_nil)))
    (jss_cons (js_expr (je_append (je_var 3) (ja_cons (je_tup (ja_cons (je_var 4) (ja_cons je_int ja_nil))) ja_nil)))
    (jss_one (js_if (jt_cmp (jo_eq hr.units) (je_ix jx_ix (je_var 5) je_int) je_str) (jss_cons (js_expr (je_append (je_var 2) (ja_cons (je_bin jo_add (je_fz (jf_lc (own := [("one", 15)]) rfl nd (blkOk_by (by kernel_rfl)) (ji_seq (je_var 6)) (fun _ _ _ _ _ => (jg_name (i := 15) nd)) (fun _ _ _ _ _ => jts_nil) (fun _ _ _ _ _ => (je_neg (je_var 15))))) (je_fz (jf_lst (ja_cons je_int ja_nil)))) ja_nil)))
    (jss_one (js_expr (je_append (je_var 3) (ja_cons (je_tup (ja_cons (je_var 4) (ja_cons (je_neg je_int) ja_nil))) ja_nil))))) jss_nil))))))
    (jss_cons (js_for (vs := [7]) ctx_po rfl (ji_range1 (ja_cons (je_var 0) ja_nil) (fr_range G)) (jg_name (i := 7) nd) (jss_cons (js_expr (je_append (je_var 2) (ja_cons (je_bin jo_add (je_fz (jf_lc (own := [("other", 16)]) rfl nd (blkOk_by (by kernel_rfl)) (ji_range1 (ja_cons (je_var 0) ja_nil) (fr_range G)) (fun _ _ _ _ _ => (jg_name (i := 16) nd)) (fun _ _ _ _ _ => jts_nil) (fun _ _ _ _ _ => (je_callTy jc_int (ja_cons (je_cmp (jo_eq hr.units) (je_var 16) (je_var 7)) ja_nil) (fr_int G) (by decide +kernel))))) (je_fz (jf_lst (ja_cons je_int ja_nil)))) ja_nil)))
    (jss_one (js_expr (je_append (je_var 3) (ja_cons (je_tup (ja_cons je_non (ja_cons je_int ja_nil))) ja_nil))))))
    (jss_cons (js_setLc (i := 8) (own := [("k", 17)]) rfl nd (blkOk_by (by kernel_rfl)) (ji_range1 (ja_cons (je_bin jo_add (je_var 0) je_int) ja_nil) (fr_range G)) (fun _ _ _ _ _ => (jg_name (i := 17) nd)) (fun _ _ _ _ _ => jts_nil) (fun _ _ _ _ _ => (je_fz (jf_lc (own := [("column", 18)]) rfl nd (blkOk_by (by kernel_rfl)) (ji_seq (je_frz (je_var 2))) (fun _ _ _ _ _ => (jg_name (i := 18) nd)) (fun _ _ _ _ _ => jts_nil) (fun _ _ _ _ _ => (je_ix jx_ix (je_var 18) (je_var 17)))))))
    (jss_cons (js_asg (vs := [9, 10]) (je_meth0 (ok_Equations_solved G) hr ctx_px (je_make (ok_Equations___init__ G) hr ctx_px (ja_cons (je_var 8) (ja_cons (je_bin jo_add (je_bin jo_mul (je_fz (jf_lst (ja_cons je_int ja_nil))) (je_var 0)) (je_fz (jf_lst (ja_cons je_int ja_nil)))) ja_nil)))) (jg_tup rfl (jgs_cons (jg_name (i := 9) nd) (jgs_cons (jg_name (i := 10) nd) jgs_nil))))
    (jss_cons (js_if (jt_cmp jo_is (je_var 9) je_non) (jss_one (js_ret (je_tup (ja_cons je_non (ja_cons (je_callTy jc_tuple (ja_cons (je_call (ok_shortened G) hr ctx_px (ja_cons (je_fz (jf_lc (own := [("one", 15)]) rfl nd (blkOk_by (by kernel_rfl)) (ji_seq (je_slice (je_var 10) jo_none (jo_some (je_var 0)))) (fun _ _ _ _ _ => (jg_name (i := 15) nd)) (fun _ _ _ _ _ => jts_nil) (fun _ _ _ _ _ => (je_neg (je_var 15))))) ja_nil)) ja_nil) (fr_tuple G) (by decide +kernel)) ja_nil))))) jss_nil)
    (jss_cons (js_par (i := 11) (j := 12) rfl nd (ja_cons (je_call (ok_common_bottom G) hr ctx_px (ja_cons (je_var 9) ja_nil)) (ja_cons (je_ow (jf_mul (je_fz (jf_lst (ja_cons je_int ja_nil))) (je_callB jc_len (ja_cons (je_var 1) ja_nil) (fr_len G) PySem.boot_len))) ja_nil)))
    (jss_cons (js_for (vs := [13, 4, 14]) ctx_po rfl (ji_zip (ja_cons (je_var 9) (ja_cons (je_frz (je_var 3)) ja_nil)) (fr_zip G)) (jg_tup rfl (jgs_cons (jg_name (i := 13) nd) (jgs_cons (jg_tup rfl (jgs_cons (jg_name (i := 4) nd) (jgs_cons (jg_name (i := 14) nd) jgs_nil))) jgs_nil))) (jss_one (js_if (jt_cmp jo_isnot (je_var 4) je_non) (jss_one (js_asg (vs := []) (je_bin jo_add (je_ix jx_ix (je_var 12) (je_var 4)) (je_bin jo_mul (je_var 14) (je_call (ok_whole G) hr ctx_px (ja_cons (je_var 13) (ja_cons (je_var 11) ja_nil))))) (jg_sub (je_var 12) (je_var 4)))) jss_nil)))
    (jss_one (js_ret (je_tup (ja_cons (je_callTy jc_tuple (ja_cons (je_frz (je_var 12)) ja_nil) (fr_tuple G) (by decide +kernel)) (ja_cons je_non ja_nil)))))))))))))
theorem sc_Bench_tell : FnScope ["self", "comparison"] ["self", "comparison"] (defScope (mth 36 5)) := ⟨rfl, rfl, rfl, by decide +kernel, rfl, by decide +kernel, by decide +kernel⟩
theorem ok_Bench_tell (G : Fx fa fn qs K mg) : Me P w K mg base 7 "Bench" "tell" 2 f_Bench_tell := by
  obtain ⟨fd, F⟩ := G.def_ 23 (d := d23) rfl rfl rfl
  refine G.me 1 rfl 23 rfl (F.bindsN fun _ _ _ _ _ _ us hl => match us, hl with | [_, _], _ => rfl) (fn_body (N := ["self", "comparison"]) (ps := ["self", "comparison"]) F sc_Bench_tell fun cdv A outer s H E hr => ?_)
  have nd := sc_Bench_tell.nd
  exact (jss_cons (js_expr (je_call (ok_check_comparison G) hr ctx_px (ja_cons (je_fld (c_Bench G) (je_var 0)) (ja_cons (je_var 1) ja_nil))))
    (jss_cons (js_if (jt_cmp (jo_eq hr.units) (je_lenO (ok_Bench___len__ G) hr ctx_px (je_var 0) (fr_len G)) je_int) (jss_one (js_raise rfl ctx_tk (G.exc rfl "TooMany" (by decide)))) jss_nil)
    (jss_cons (js_expr (je_meth (ok_Bench_note G) hr ctx_px (je_var 0) (ja_cons je_str (ja_cons (je_bin jo_add (je_meth0 (ok_Bench_told G) hr ctx_px (je_var 0)) (je_tup (ja_cons (je_var 1) ja_nil))) ja_nil))))
    (jss_one (js_ret (je_cmp jo_isnot (je_ix jx_ix (je_call (ok_solved G) hr ctx_px (ja_cons (je_fld (c_Bench G) (je_var 0)) (ja_cons (je_meth0 (ok_Bench_told G) hr ctx_px (je_var 0)) ja_nil))) je_int) je_non))))))
theorem sc_Bench_undo : FnScope ["self", "operation"] ["self"] (defScope (mth 36 8)) := ⟨rfl, rfl, rfl, by decide +kernel, rfl, by decide +kernel, by decide +kernel⟩
theorem ok_Bench_undo (G : Fx fa fn qs K mg) : Me P w K mg base 1 "Bench" "undo" 1 f_Bench_undo := by
  obtain ⟨fd, F⟩ := G.def_ 24 (d := d24) rfl rfl rfl
  refine G.me 1 rfl 24 rfl (F.bindsN fun _ _ _ _ _ _ us hl => match us, hl with | [_], _ => rfl) (fn_body (N := ["self", "operation"]) (ps := ["self"]) F sc_Bench_undo fun cdv A outer s H E hr => ?_)
  have nd := sc_Bench_undo.nd
  exact (jss_cons (js_if (jt_cmp (jo_eq hr.units) (je_fld (c_Bench G) (je_var 0)) (je_fz (jf_lst ja_nil))) (jss_one (js_raise rfl ctx_tk (G.exc rfl "NothingToUndo" (by decide)))) jss_nil)
    (jss_cons (js_set 1 nd (je_pop (je_fld (c_Bench G) (je_var 0))))
    (jss_cons (js_expr (je_append (je_fld (c_Bench G) (je_var 0)) (ja_cons (je_tup (ja_cons (je_var 1) (ja_cons (je_pop (je_fld (c_Bench G) (je_var 0))) ja_nil))) ja_nil)))
    (jss_one (js_ret (je_var 1))))))
theorem sc_Bench_redo : FnScope ["self", "operation", "state"] ["self"] (defScope (mth 36 9)) := ⟨rfl, rfl, rfl, by decide +kernel, rfl, by decide +kernel, by decide +kernel⟩
theorem ok_Bench_redo (G : Fx fa fn qs K mg) : Me P w K mg base 1 "Bench" "redo" 1 f_Bench_redo := by
  obtain ⟨fd, F⟩ := G.def_ 25 (d := d25) rfl rfl rfl
  refine G.me 1 rfl 25 rfl (F.bindsN fun _ _ _ _ _ _ us hl => match us, hl with | [_], _ => rfl) (fn_body (N := ["self", "operation", "state"]) (ps := ["self"]) F sc_Bench_redo fun cdv A outer s H E hr => ?_)
  have nd := sc_Bench_redo.nd
  exact (jss_cons (js_if (jt_cmp (jo_eq hr.units) (je_fld (c_Bench G) (je_var 0)) (je_fz (jf_lst ja_nil))) (jss_one (js_raise rfl ctx_tk (G.exc rfl "NothingToUndo" (by decide)))) jss_nil)
    (jss_cons (js_asg (vs := [1, 2]) (je_pop (je_fld (c_Bench G) (je_var 0))) (jg_tup rfl (jgs_cons (jg_name (i := 1) nd) (jgs_cons (jg_name (i := 2) nd) jgs_nil))))
    (jss_cons (js_expr (je_append (je_fld (c_Bench G) (je_var 0)) (ja_cons (je_var 1) ja_nil)))
    (jss_cons (js_expr (je_append (je_fld (c_Bench G) (je_var 0)) (ja_cons (je_var 2) ja_nil)))
    (jss_one (js_ret (je_var 1)))))))
theorem sc_Bench_drop : FnScope ["self", "number", "comparison"] ["self", "number"] (defScope (mth 36 6)) := ⟨rfl, rfl, rfl, by decide +kernel, rfl, by decide +kernel, by decide +kernel⟩
theorem ok_Bench_drop (G : Fx fa fn qs K mg) : Me P w K mg base 3 "Bench" "drop" 2 f_Bench_drop := by
  obtain ⟨fd, F⟩ := G.def_ 26 (d := d26) rfl rfl rfl
  refine G.me 1 rfl 26 rfl (F.bindsN fun _ _ _ _ _ _ us hl => match us, hl with | [_, _], _ => rfl) (fn_body (N := ["self", "number", "comparison"]) (ps := ["self", "number"]) F sc_Bench_drop fun cdv A outer s H E hr => ?_)
  have nd := sc_Bench_drop.nd
  exact (jss_cons (js_if (jt_not (jt_val (je_call (ok_is_between G) hr ctx_px (ja_cons (je_var 1) (ja_cons je_int (ja_cons (je_bin jo_sub (je_lenO (ok_Bench___len__ G) hr ctx_px (je_var 0) (fr_len G)) je_int) ja_nil)))))) (jss_one (js_raise rfl ctx_tk (G.exc rfl "InvalidNumber" (by decide)))) jss_nil)
    (jss_cons (js_set 2 nd (je_ix jx_ix (je_meth0 (ok_Bench_told G) hr ctx_px (je_var 0)) (je_var 1)))
    (jss_cons (js_expr (je_meth (ok_Bench_note G) hr ctx_px (je_var 0) (ja_cons je_str (ja_cons (je_bin jo_add (je_slice (je_meth0 (ok_Bench_told G) hr ctx_px (je_var 0)) jo_none (jo_some (je_var 1))) (je_slice (je_meth0 (ok_Bench_told G) hr ctx_px (je_var 0)) (jo_some (je_bin jo_add (je_var 1) je_int)) jo_none)) ja_nil))))
    (jss_one (js_ret (je_var 2))))))
theorem sc__law_call : FnScope ["how", "arguments", "bench", "one"] ["how", "arguments"] (defScope (top 43)) := ⟨rfl, rfl, rfl, by decide +kernel, rfl, by decide +kernel, by decide +kernel⟩
theorem ok__law_call (G : Fx fa fn qs K mg) : Cl P w K mg base 8 "_law_call" 2 f__law_call := by
  obtain ⟨fd, F⟩ := G.def_ 27 (d := d27) rfl rfl rfl
  refine cl_of F (G.glo 27 rfl) (F.bindsN fun _ _ _ _ _ _ us hl => match us, hl with | [_, _], _ => rfl) (fn_body (N := ["how", "arguments", "bench", "one"]) (ps := ["how", "arguments"]) F sc__law_call fun cdv A outer s H E hr => ?_)
  have nd := sc__law_call.nd
  exact (jss_cons (js_asg (vs := [2, 3]) (je_var 1) (jg_tup rfl (jgs_cons (jg_name (i := 2) nd) (jgs_cons (jg_name (i := 3) nd) jgs_nil))))
    (jss_cons (js_if (jt_cmp (jo_eq hr.units) (je_var 0) je_int) (jss_one (js_ret (je_make (ok_Bench___init__ G) hr ctx_px (ja_cons (je_var 3) ja_nil)))) jss_nil)
    (jss_cons (js_if (jt_cmp (jo_lt hr.units0) (je_var 0) je_int) (jss_one (js_ret (je_ifExp (jt_cmp (jo_eq hr.units) (je_var 0) je_int) (je_meth (ok_Bench_tell G) hr ctx_px (je_var 2) (ja_cons (je_var 3) ja_nil)) (je_meth (ok_Bench_drop G) hr ctx_px (je_var 2) (ja_cons (je_var 3) ja_nil))))) jss_nil)
    (jss_one (js_ret (je_ifExp (jt_cmp (jo_eq hr.units) (je_var 0) je_int) (je_meth0 (ok_Bench_undo G) hr ctx_px (je_var 2)) (je_meth0 (ok_Bench_redo G) hr ctx_px (je_var 2))))))))
theorem sc__law_name : FnScope ["caught", "found"] ["caught"] (defScope (top 41)) := ⟨rfl, rfl, rfl, by decide +kernel, rfl, by decide +kernel, by decide +kernel⟩
theorem ok__law_name (G : Fx fa fn qs K mg) : Cl P w K mg base 1 "_law_name" 1 f__law_name := by
  obtain ⟨fd, F⟩ := G.def_ 28 (d := d28) rfl rfl rfl
  refine cl_of F (G.glo 28 rfl) (F.bindsN fun _ _ _ _ _ _ us hl => match us, hl with | [_], _ => rfl) (fn_body (N := ["caught", "found"]) (ps := ["caught"]) F sc__law_name fun cdv A outer s H E hr => ?_)
  have nd := sc__law_name.nd
  exact (jss_cons (js_if (jt_not (jt_val (G.isV rfl (je_var 0) (fr_isinstance G) (fr_ValueError G)))) (jss_one (js_ret (je_neg je_int))) jss_nil)
    (jss_cons (js_set 1 nd (je_fz (jf_lst (ja_cons (G.isE rfl (y := "InvalidThings") (by decide) (je_var 0) (fr_isinstance G)) (ja_cons (G.isE rfl (y := "InvalidTold") (by decide) (je_var 0) (fr_isinstance G)) ja_nil)))))
    (jss_cons (js_set 1 nd (je_bin jo_add (je_var 1) (je_fz (jf_lst (ja_cons (G.isE rfl (y := "InvalidWeights") (by decide) (je_var 0) (fr_isinstance G)) (ja_cons (G.isE rfl (y := "InvalidLot") (by decide) (je_var 0) (fr_isinstance G)) ja_nil))))))
    (jss_cons (js_set 1 nd (je_bin jo_add (je_var 1) (je_fz (jf_lst (ja_cons (G.isE rfl (y := "InvalidComparison") (by decide) (je_var 0) (fr_isinstance G)) (ja_cons (G.isE rfl (y := "InvalidNumber") (by decide) (je_var 0) (fr_isinstance G)) ja_nil))))))
    (jss_cons (js_set 1 nd (je_bin jo_add (je_var 1) (je_fz (jf_lst (ja_cons (G.isE rfl (y := "InvalidText") (by decide) (je_var 0) (fr_isinstance G)) (ja_cons (G.isE rfl (y := "NotSure") (by decide) (je_var 0) (fr_isinstance G)) ja_nil))))))
    (jss_cons (js_set 1 nd (je_bin jo_add (je_var 1) (je_fz (jf_lst (ja_cons (G.isE rfl (y := "NoneAgree") (by decide) (je_var 0) (fr_isinstance G)) (ja_cons (G.isE rfl (y := "TooMany") (by decide) (je_var 0) (fr_isinstance G)) ja_nil))))))
    (jss_cons (js_set 1 nd (je_bin jo_add (je_var 1) (je_fz (jf_lst (ja_cons (G.isE rfl (y := "NothingToUndo") (by decide) (je_var 0) (fr_isinstance G)) ja_nil)))))
    (jss_one (js_ret (je_ifExp (jt_cmp (jo_eq hr.units) (je_count (je_var 1) (ja_cons je_bl ja_nil)) je_int) (je_index (u65 hr) (je_var 1) (ja_cons je_bl ja_nil)) (je_neg je_int)))))))))))
theorem sc__law_outcome : FnScope ["how", "arguments", "caught", "result", "error"] ["how", "arguments"] (defScope (top 40)) := ⟨rfl, rfl, rfl, by decide +kernel, rfl, by decide +kernel, by decide +kernel⟩
theorem ok__law_outcome (G : Fx fa fn qs K mg) : Cl P w K mg base 9 "_law_outcome" 2 f__law_outcome := by
  obtain ⟨fd, F⟩ := G.def_ 29 (d := d29) rfl rfl rfl
  refine cl_of F (G.glo 30 rfl) (F.bindsN fun _ _ _ _ _ _ us hl => match us, hl with | [_, _], _ => rfl) (fn_body (N := ["how", "arguments", "caught", "result", "error"]) (ps := ["how", "arguments"]) F sc__law_outcome fun cdv A outer s H E hr => ?_)
  have nd := sc__law_outcome.nd
  exact (jss_cons (js_set 2 nd je_non)
    (jss_cons (js_set 3 nd je_non)
    (jss_cons (js_tryCall (i := 4) (j := 2) (r := 3) rfl rfl rfl nd (G.names rfl 29 rfl) (G.exm rfl) (ok__law_call G) hr (fun _ _ => (ja_cons (je_var 0) (ja_cons (je_var 1) ja_nil))))
    (jss_cons (js_if (jt_cmp jo_is (je_var 2) je_non) (jss_one (js_ret (je_tup (ja_cons je_str (ja_cons (je_var 3) ja_nil))))) jss_nil)
    (jss_one (js_ret (je_tup (ja_cons je_str (ja_cons (je_call (ok__law_name G) hr ctx_px (ja_cons (je_var 2) ja_nil)) ja_nil)))))))))
theorem sc__law_raises : FnScope ["name", "some"] ["name"] (defScope (top 42)) := ⟨rfl, rfl, rfl, by decide +kernel, rfl, by decide +kernel, by decide +kernel⟩
theorem ok__law_raises (G : Fx fa fn qs K mg) : Cl P w K mg base 1 "_law_raises" 1 f__law_raises := by
  obtain ⟨fd, F⟩ := G.def_ 30 (d := d30) rfl rfl rfl
  refine cl_of F (G.glo 31 rfl) (F.bindsN fun _ _ _ _ _ _ us hl => match us, hl with | [_], _ => rfl) (fn_body (N := ["name", "some"]) (ps := ["name"]) F sc__law_raises fun cdv A outer s H E hr => ?_)
  have nd := sc__law_raises.nd
  exact (jss_cons (js_set 1 nd (je_fz (jf_lst (ja_cons je_str (ja_cons je_str (ja_cons je_str (ja_cons je_str (ja_cons je_str (ja_cons je_str ja_nil)))))))))
    (jss_cons (js_set 1 nd (je_bin jo_add (je_var 1) (je_fz (jf_lst (ja_cons je_str (ja_cons je_str (ja_cons je_str (ja_cons je_str (ja_cons je_str ja_nil)))))))))
    (jss_one (js_ret (je_tup (ja_cons je_str (ja_cons (je_index (u65 hr) (je_var 1) (ja_cons (je_var 0) ja_nil)) ja_nil)))))))
theorem sc_law : FnScope ["script", "town", "things", "bench", "full", "fine", "k", "calls", "bad", "how", "arguments", "word"] ["script"] (defScope (top 44)) := ⟨rfl, rfl, rfl, by decide +kernel, rfl, by decide +kernel, by decide +kernel⟩
theorem ok_law (G : Fx fa fn qs K mg) : Cl P w K mg base 10 "law" 1 f_law := by
  obtain ⟨fd, F⟩ := G.def_ 31 (d := d31) rfl rfl rfl
  refine cl_of F (G.glo 32 rfl) (F.bindsN fun _ _ _ _ _ _ us hl => match us, hl with | [_], _ => rfl) (fn_body (N := ["script", "town", "things", "bench", "full", "fine", "k", "calls", "bad", "how", "arguments", "word"]) (ps := ["script"]) F sc_law fun cdv A outer s H E hr => ?_)
  have nd := sc_law.nd
  exact (jss_cons (js_set 1 nd (je_call (ok__law_town G) hr ctx_px (ja_cons (je_var 0) ja_nil)))
    (jss_cons (js_set 2 nd (je_bin jo_add je_int (je_call (ok__law_draw G) hr ctx_px (ja_cons (je_var 0) (ja_cons (je_var 1) (ja_cons je_int ja_nil))))))
    (jss_cons (js_par3 (i := 3) (j := 4) (l := 5) rfl nd (ja_cons (je_make (ok_Bench___init__ G) hr ctx_px (ja_cons (je_var 2) ja_nil)) (ja_cons (je_make (ok_Bench___init__ G) hr ctx_px (ja_cons (je_var 2) ja_nil)) (ja_cons (je_tup (ja_cons (je_tup (ja_cons je_int ja_nil)) (ja_cons je_str (ja_cons (je_tup ja_nil) ja_nil)))) ja_nil))))
    (jss_cons (js_for (vs := [6]) ctx_po rfl (ji_range1 (ja_cons je_int ja_nil) (fr_range G)) (jg_name (i := 6) nd) (jss_one (js_expr (je_meth (ok_Bench_tell G) hr ctx_px (je_var 4) (ja_cons (je_var 5) ja_nil)))))
    (jss_cons (js_setLcOw (i := 7) (own := [("bad", 8)]) rfl nd (blkOk_by (by kernel_rfl)) (ji_seq (je_tup (ja_cons je_non (ja_cons je_int (ja_cons je_int (ja_cons je_bl (ja_cons je_str (ja_cons (je_tup (ja_cons je_int ja_nil)) ja_nil)))))))) (fun _ _ _ _ _ => (jg_name (i := 8) nd)) (fun _ _ _ _ _ => jts_nil) (fun _ _ _ _ _ => (je_tup (ja_cons je_int (ja_cons (je_tup (ja_cons je_non (ja_cons (je_var 8) ja_nil))) (ja_cons je_str ja_nil))))))
    (jss_cons (js_set 7 nd (je_ow (jf_add (je_frz (je_var 7)) (je_fz (jf_lst (ja_cons (je_tup (ja_cons je_int (ja_cons (je_tup (ja_cons (je_var 3) (ja_cons je_non ja_nil))) (ja_cons je_str ja_nil)))) (ja_cons (je_tup (ja_cons je_int (ja_cons (je_tup (ja_cons (je_var 3) (ja_cons je_non ja_nil))) (ja_cons je_str ja_nil)))) (ja_cons (je_tup (ja_cons je_int (ja_cons (je_tup (ja_cons (je_var 4) (ja_cons je_non ja_nil))) (ja_cons je_str ja_nil)))) ja_nil))))))))
    (jss_cons (js_for (vs := [8]) ctx_po rfl (ji_seq (je_tup (ja_cons je_non (ja_cons (je_tup ja_nil) (ja_cons (je_tup (ja_cons (je_tup (ja_cons je_int ja_nil)) (ja_cons je_str ja_nil))) (ja_cons (je_tup (ja_cons (je_tup (ja_cons (je_var 2) ja_nil)) (ja_cons je_str (ja_cons (je_tup ja_nil) ja_nil)))) (ja_cons (je_tup (ja_cons (je_tup (ja_cons je_int ja_nil)) (ja_cons je_str (ja_cons (je_tup ja_nil) ja_nil)))) (ja_cons (je_fz (jf_lst (ja_cons (je_tup (ja_cons je_int ja_nil)) (ja_cons je_str (ja_cons (je_tup ja_nil) ja_nil))))) (ja_cons je_str ja_nil))))))))) (jg_name (i := 8) nd) (jss_one (js_set 7 nd (je_ow (jf_add (je_frz (je_var 7)) (je_fz (jf_lst (ja_cons (je_tup (ja_cons je_int (ja_cons (je_tup (ja_cons (je_var 3) (ja_cons (je_var 8) ja_nil))) (ja_cons je_str ja_nil)))) (ja_cons (je_tup (ja_cons je_int (ja_cons (je_tup (ja_cons (je_var 4) (ja_cons (je_var 8) ja_nil))) (ja_cons je_str ja_nil)))) ja_nil)))))))))
    (jss_cons (js_for (vs := [8]) ctx_po rfl (ji_seq (je_tup (ja_cons je_non (ja_cons (je_neg je_int) (ja_cons je_int (ja_cons je_bl (ja_cons je_str (ja_cons (je_var 5) ja_nil)))))))) (jg_name (i := 8) nd) (jss_one (js_expr (je_append (je_var 7) (ja_cons (je_tup (ja_cons je_int (ja_cons (je_tup (ja_cons (je_var 4) (ja_cons (je_var 8) ja_nil))) (ja_cons je_str ja_nil)))) ja_nil)))))
    (jss_cons (js_set 7 nd (je_ow (jf_add (je_frz (je_var 7)) (je_fz (jf_lst (ja_cons (je_tup (ja_cons je_int (ja_cons (je_tup (ja_cons (je_var 3) (ja_cons je_int ja_nil))) (ja_cons je_str ja_nil)))) (ja_cons (je_tup (ja_cons je_int (ja_cons (je_tup (ja_cons (je_var 4) (ja_cons (je_var 5) ja_nil))) (ja_cons je_str ja_nil)))) (ja_cons (je_tup (ja_cons je_int (ja_cons (je_tup (ja_cons (je_var 3) (ja_cons je_non ja_nil))) (ja_cons je_str ja_nil)))) ja_nil))))))))
    (jss_cons (js_for (vs := [9, 10, 11]) ctx_po rfl (ji_seq (je_frz (je_var 7))) (jg_tup rfl (jgs_cons (jg_name (i := 9) nd) (jgs_cons (jg_name (i := 10) nd) (jgs_cons (jg_name (i := 11) nd) jgs_nil)))) (jss_one (js_if (jt_cmp (jo_ne hr.units) (je_call (ok__law_outcome G) hr ctx_px (ja_cons (je_var 9) (ja_cons (je_var 10) ja_nil))) (je_call (ok__law_raises G) hr ctx_px (ja_cons (je_var 11) ja_nil))) (jss_one (js_ret je_bl)) jss_nil)))
    (jss_cons (js_if (JW.jt (jw_or (jt_cmp (jo_ne hr.units) (je_lenO (ok_Bench___len__ G) hr ctx_px (je_var 3) (fr_len G)) je_int) (jw_or (jt_cmp (jo_ne hr.units) (je_lenO (ok_Bench___len__ G) hr ctx_px (je_var 4) (fr_len G)) je_int) (jw_or (jt_cmp (jo_ne hr.units) (je_meth0 (ok_Bench_told G) hr ctx_px (je_var 4)) (je_bin jo_mul (je_tup (ja_cons (je_var 5) ja_nil)) je_int)) (jw_or1 (jt_cmp (jo_ne hr.units) (je_meth (ok_Bench_drop G) hr ctx_px (je_var 4) (ja_cons je_int ja_nil)) (je_var 5))))))) (jss_one (js_ret je_bl)) jss_nil)
    (jss_cons (js_if (JW.jt (jw_or (jt_cmp jo_isnot (je_meth (ok_Bench_tell G) hr ctx_px (je_var 4) (ja_cons (je_tup (ja_cons (je_tup ja_nil) (ja_cons je_str (ja_cons (je_tup (ja_cons je_int ja_nil)) ja_nil)))) ja_nil)) je_bl) (jw_or (jt_cmp (jo_ne hr.units) (je_meth0 (ok_Bench_undo G) hr ctx_px (je_var 4)) je_str) (jw_or (jt_cmp (jo_ne hr.units) (je_meth0 (ok_Bench_undo G) hr ctx_px (je_var 4)) je_str) (jw_or1 (jt_cmp (jo_ne hr.units) (je_lenO (ok_Bench___len__ G) hr ctx_px (je_var 4) (fr_len G)) je_int)))))) (jss_one (js_ret je_bl)) jss_nil)
    (jss_cons (js_if (JW.jt (jw_or (jt_cmp (jo_ne hr.units) (je_meth0 (ok_Bench_redo G) hr ctx_px (je_var 4)) je_str) (jw_or (jt_cmp (jo_ne hr.units) (je_meth0 (ok_Bench_redo G) hr ctx_px (je_var 4)) je_str) (jw_or1 (jt_cmp (jo_ne hr.units) (je_ix jx_ix (je_meth0 (ok_Bench_told G) hr ctx_px (je_var 4)) je_int) (je_tup (ja_cons (je_tup ja_nil) (ja_cons je_str (ja_cons (je_tup (ja_cons je_int ja_nil)) ja_nil))))))))) (jss_one (js_ret je_bl)) jss_nil)
    (jss_cons (js_if (JW.jt (jw_or (jt_cmp jo_isnot (je_meth (ok_Bench_tell G) hr ctx_px (je_var 3) (ja_cons (je_var 5) ja_nil)) je_bl) (jw_or (jt_cmp (jo_ne hr.units) (je_meth0 (ok_Bench_undo G) hr ctx_px (je_var 3)) je_str) (jw_or1 (jt_cmp (jo_ne hr.units) (je_lenO (ok_Bench___len__ G) hr ctx_px (je_var 3) (fr_len G)) je_int))))) (jss_one (js_ret je_bl)) jss_nil)
    (jss_one (js_ret (je_and (je_cmp (jo_eq hr.units) (je_call (ok__law_outcome G) hr ctx_px (ja_cons je_int (ja_cons (je_tup (ja_cons (je_var 3) (ja_cons je_non ja_nil))) ja_nil))) (je_call (ok__law_raises G) hr ctx_px (ja_cons je_str ja_nil))) (je_one (je_cmp (jo_eq hr.units) (je_meth0 (ok_Bench_redo G) hr ctx_px (je_var 3)) je_str)))))))))))))))))))
theorem law_fn (G : Fx fa fn qs K mg) {fd : FuncData} (F : FunD K "law" "law" (defArgs (top 44)) (defBody (top 44)) (defScope (top 44)) [] [] (He.ga K "law") fd) : FnOk P w K mg base (L2.CX P w) 10 (He.ga K "law") fd ["script"] (spF K mg 1 f_law) := by
  refine fn_body (N := ["script", "town", "things", "bench", "full", "fine", "k", "calls", "bad", "how", "arguments", "word"]) (ps := ["script"]) F sc_law fun cdv A outer s H E hr => ?_
  have nd := sc_law.nd
  exact (jss_cons (js_set 1 nd (je_call (ok__law_town G) hr ctx_px (ja_cons (je_var 0) ja_nil)))
    (jss_cons (js_set 2 nd (je_bin jo_add je_int (je_call (ok__law_draw G) hr ctx_px (ja_cons (je_var 0) (ja_cons (je_var 1) (ja_cons je_int ja_nil))))))
    (jss_cons (js_par3 (i := 3) (j := 4) (l := 5) rfl nd (ja_cons (je_make (ok_Bench___init__ G) hr ctx_px (ja_cons (je_var 2) ja_nil)) (ja_cons (je_make (ok_Bench___init__ G) hr ctx_px (ja_cons (je_var 2) ja_nil)) (ja_cons (je_tup (ja_cons (je_tup (ja_cons je_int ja_nil)) (ja_cons je_str (ja_cons (je_tup ja_nil) ja_nil)))) ja_nil))))
    (jss_cons (js_for (vs := [6]) ctx_po rfl (ji_range1 (ja_cons je_int ja_nil) (fr_range G)) (jg_name (i := 6) nd) (jss_one (js_expr (je_meth (ok_Bench_tell G) hr ctx_px (je_var 4) (ja_cons (je_var 5) ja_nil)))))
    (jss_cons (js_setLcOw (i := 7) (own := [("bad", 8)]) rfl nd (blkOk_by (by kernel_rfl)) (ji_seq (je_tup (ja_cons je_non (ja_cons je_int (ja_cons je_int (ja_cons je_bl (ja_cons je_str (ja_cons (je_tup (ja_cons je_int ja_nil)) ja_nil)))))))) (fun _ _ _ _ _ => (jg_name (i := 8) nd)) (fun _ _ _ _ _ => jts_nil) (fun _ _ _ _ _ => (je_tup (ja_cons je_int (ja_cons (je_tup (ja_cons je_non (ja_cons (je_var 8) ja_nil))) (ja_cons je_str ja_nil))))))
    (jss_cons (js_set 7 nd (je_ow (jf_add (je_frz (je_var 7)) (je_fz (jf_lst (ja_cons (je_tup (ja_cons je_int (ja_cons (je_tup (ja_cons (je_var 3) (ja_cons je_non ja_nil))) (ja_cons je_str ja_nil)))) (ja_cons (je_tup (ja_cons je_int (ja_cons (je_tup (ja_cons (je_var 3) (ja_cons je_non ja_nil))) (ja_cons je_str ja_nil)))) (ja_cons (je_tup (ja_cons je_int (ja_cons (je_tup (ja_cons (je_var 4) (ja_cons je_non ja_nil))) (ja_cons je_str ja_nil)))) ja_nil))))))))
    (jss_cons (js_for (vs := [8]) ctx_po rfl (ji_seq (je_tup (ja_cons je_non (ja_cons (je_tup ja_nil) (ja_cons (je_tup (ja_cons (je_tup (ja_cons je_int ja_nil)) (ja_cons je_str ja_nil))) (ja_cons (je_tup (ja_cons (je_tup (ja_cons (je_var 2) ja_nil)) (ja_cons je_str (ja_cons (je_tup ja_nil) ja_nil)))) (ja_cons (je_tup (ja_cons (je_tup (ja_cons je_int ja_nil)) (ja_cons je_str (ja_cons (je_tup ja_nil) ja_nil)))) (ja_cons (je_fz (jf_lst (ja_cons (je_tup (ja_cons je_int ja_nil)) (ja_cons je_str (ja_cons (je_tup ja_nil) ja_nil))))) (ja_cons je_str ja_nil))))))))) (jg_name (i := 8) nd) (jss_one (js_set 7 nd (je_ow (jf_add (je_frz (je_var 7)) (je_fz (jf_lst (ja_cons (je_tup (ja_cons je_int (ja_cons (je_tup (ja_cons (je_var 3) (ja_cons (je_var 8) ja_nil))) (ja_cons je_str ja_nil)))) (ja_cons (je_tup (ja_cons je_int (ja_cons (je_tup (ja_cons (je_var 4) (ja_cons (je_var 8) ja_nil))) (ja_cons je_str ja_nil)))) ja_nil)))))))))
    (jss_cons (js_for (vs := [8]) ctx_po rfl (ji_seq (je_tup (ja_cons je_non (ja_cons (je_neg je_int) (ja_cons je_int (ja_cons je_bl (ja_cons je_str (ja_cons (je_var 5) ja_nil)))))))) (jg_name (i := 8) nd) (jss_one (js_expr (je_append (je_var 7) (ja_cons (je_tup (ja_cons je_int (ja_cons (je_tup (ja_cons (je_var 4) (ja_cons (je_var 8) ja_nil))) (ja_cons je_str ja_nil)))) ja_nil)))))
    (jss_cons (js_set 7 nd (je_ow (jf_add (je_frz (je_var 7)) (je_fz (jf_lst (ja_cons (je_tup (ja_cons je_int (ja_cons (je_tup (ja_cons (je_var 3) (ja_cons je_int ja_nil))) (ja_cons je_str ja_nil)))) (ja_cons (je_tup (ja_cons je_int (ja_cons (je_tup (ja_cons (je_var 4) (ja_cons (je_var 5) ja_nil))) (ja_cons je_str ja_nil)))) (ja_cons (je_tup (ja_cons je_int (ja_cons (je_tup (ja_cons (je_var 3) (ja_cons je_non ja_nil))) (ja_cons je_str ja_nil)))) ja_nil))))))))
    (jss_cons (js_for (vs := [9, 10, 11]) ctx_po rfl (ji_seq (je_frz (je_var 7))) (jg_tup rfl (jgs_cons (jg_name (i := 9) nd) (jgs_cons (jg_name (i := 10) nd) (jgs_cons (jg_name (i := 11) nd) jgs_nil)))) (jss_one (js_if (jt_cmp (jo_ne hr.units) (je_call (ok__law_outcome G) hr ctx_px (ja_cons (je_var 9) (ja_cons (je_var 10) ja_nil))) (je_call (ok__law_raises G) hr ctx_px (ja_cons (je_var 11) ja_nil))) (jss_one (js_ret je_bl)) jss_nil)))
    (jss_cons (js_if (JW.jt (jw_or (jt_cmp (jo_ne hr.units) (je_lenO (ok_Bench___len__ G) hr ctx_px (je_var 3) (fr_len G)) je_int) (jw_or (jt_cmp (jo_ne hr.units) (je_lenO (ok_Bench___len__ G) hr ctx_px (je_var 4) (fr_len G)) je_int) (jw_or (jt_cmp (jo_ne hr.units) (je_meth0 (ok_Bench_told G) hr ctx_px (je_var 4)) (je_bin jo_mul (je_tup (ja_cons (je_var 5) ja_nil)) je_int)) (jw_or1 (jt_cmp (jo_ne hr.units) (je_meth (ok_Bench_drop G) hr ctx_px (je_var 4) (ja_cons je_int ja_nil)) (je_var 5))))))) (jss_one (js_ret je_bl)) jss_nil)
    (jss_cons (js_if (JW.jt (jw_or (jt_cmp jo_isnot (je_meth (ok_Bench_tell G) hr ctx_px (je_var 4) (ja_cons (je_tup (ja_cons (je_tup ja_nil) (ja_cons je_str (ja_cons (je_tup (ja_cons je_int ja_nil)) ja_nil)))) ja_nil)) je_bl) (jw_or (jt_cmp (jo_ne hr.units) (je_meth0 (ok_Bench_undo G) hr ctx_px (je_var 4)) je_str) (jw_or (jt_cmp (jo_ne hr.units) (je_meth0 (ok_Bench_undo G) hr ctx_px (je_var 4)) je_str) (jw_or1 (jt_cmp (jo_ne hr.units) (je_lenO (ok_Bench___len__ G) hr ctx_px (je_var 4) (fr_len G)) je_int)))))) (jss_one (js_ret je_bl)) jss_nil)
    (jss_cons (js_if (JW.jt (jw_or (jt_cmp (jo_ne hr.units) (je_meth0 (ok_Bench_redo G) hr ctx_px (je_var 4)) je_str) (jw_or (jt_cmp (jo_ne hr.units) (je_meth0 (ok_Bench_redo G) hr ctx_px (je_var 4)) je_str) (jw_or1 (jt_cmp (jo_ne hr.units) (je_ix jx_ix (je_meth0 (ok_Bench_told G) hr ctx_px (je_var 4)) je_int) (je_tup (ja_cons (je_tup ja_nil) (ja_cons je_str (ja_cons (je_tup (ja_cons je_int ja_nil)) ja_nil))))))))) (jss_one (js_ret je_bl)) jss_nil)
    (jss_cons (js_if (JW.jt (jw_or (jt_cmp jo_isnot (je_meth (ok_Bench_tell G) hr ctx_px (je_var 3) (ja_cons (je_var 5) ja_nil)) je_bl) (jw_or (jt_cmp (jo_ne hr.units) (je_meth0 (ok_Bench_undo G) hr ctx_px (je_var 3)) je_str) (jw_or1 (jt_cmp (jo_ne hr.units) (je_lenO (ok_Bench___len__ G) hr ctx_px (je_var 3) (fr_len G)) je_int))))) (jss_one (js_ret je_bl)) jss_nil)
    (jss_one (js_ret (je_and (je_cmp (jo_eq hr.units) (je_call (ok__law_outcome G) hr ctx_px (ja_cons je_int (ja_cons (je_tup (ja_cons (je_var 3) (ja_cons je_non ja_nil))) ja_nil))) (je_call (ok__law_raises G) hr ctx_px (ja_cons je_str ja_nil))) (je_one (je_cmp (jo_eq hr.units) (je_meth0 (ok_Bench_redo G) hr ctx_px (je_var 3)) je_str)))))))))))))))))))
end
end Gk81
end
section
set_option Elab.async false
set_option linter.all false
set_option maxRecDepth 100000
set_option maxHeartbeats 0
namespace Gk81
open PySem PySem.Spec PyProof.Rows L2 Lq
abbrev R_ : PySem.W.OpenRow := PySem.W.OpenLaw.row PySem.Challenge.rw_lotscales_k81_bench_ends
abbrev hk : PySem.W.Hook := hookM 4 fa fn qs
abbrev ob : PySem.W.SharedT → He.AlD × Bool := obM 4 fa fn qs
theorem run (w : World) : HandSHeadRun.RunEq R_ (PySem.W.view R_.prog [44]) hk ob 6000 loose w := by
  intro os
  kernel_rfl
end Gk81
end
section
set_option Elab.async false
set_option linter.all false
set_option maxRecDepth 100000
namespace Gk81
open PySem PySem.Spec PyProof.Rows L2 Lq

def isT : R PV → Bool
  | .ok (.bl true) _ => true
  | _ => false
theorem isT_ok : ∀ {r : R PV}, isT r = true → ∃ st, r = .ok (.bl true) st
  | .ok (.bl true) st, _ => ⟨st, rfl⟩
def law_r : XS :=
    (sSeq (sPar3 3 4 5 (aCons (eMake "Bench" 2 f_Bench___init__ (aCons (eVar 2) aNil)) (aCons (eMake "Bench" 2 f_Bench___init__ (aCons (eVar 2) aNil)) (aCons (eTup (aCons (eTup (aCons (eC (.int 0)) aNil)) (aCons (eC (.str ">")) (aCons (eTup aNil) aNil)))) aNil))))
    (sSeq (sFor (iRange1 (aCons (eC (.int 8)) aNil)) (gNm 6) (sDrop (eMeth "Bench" "tell" 2 f_Bench_tell (eVar 4) (aCons (eVar 5) aNil))))
    (sSeq (sSet 7 (eOw (fComp (iVal (eTup (aCons (eC .non) (aCons (eC (.int 0)) (aCons (eC (.int 6)) (aCons (eC (.bl true)) (aCons (eC (.str "3")) (aCons (eTup (aCons (eC (.int 1)) aNil)) aNil)))))))) (gNm 8) (fun _ st => .ok true st) (eTup (aCons (eC (.int 0)) (aCons (eTup (aCons (eC .non) (aCons (eVar 8) aNil))) (aCons (eC (.str "things")) aNil)))) [8])))
    (sSeq (sSet 7 (eOw (fAdd (eFrz (eVar 7)) (eFz (fDisp (aCons (eTup (aCons (eC (.int 3)) (aCons (eTup (aCons (eVar 3) (aCons (eC .non) aNil))) (aCons (eC (.str "undo")) aNil)))) (aCons (eTup (aCons (eC (.int 4)) (aCons (eTup (aCons (eVar 3) (aCons (eC .non) aNil))) (aCons (eC (.str "undo")) aNil)))) (aCons (eTup (aCons (eC (.int 4)) (aCons (eTup (aCons (eVar 4) (aCons (eC .non) aNil))) (aCons (eC (.str "undo")) aNil)))) aNil))))))))
    (sSeq (sFor (iVal (eTup (aCons (eC .non) (aCons (eTup aNil) (aCons (eTup (aCons (eTup (aCons (eC (.int 0)) aNil)) (aCons (eC (.str ">")) aNil))) (aCons (eTup (aCons (eTup (aCons (eVar 2) aNil)) (aCons (eC (.str ">")) (aCons (eTup aNil) aNil)))) (aCons (eTup (aCons (eTup (aCons (eC (.int 0)) aNil)) (aCons (eC (.str "<")) (aCons (eTup aNil) aNil)))) (aCons (eFz (fDisp (aCons (eTup (aCons (eC (.int 0)) aNil)) (aCons (eC (.str ">")) (aCons (eTup aNil) aNil))))) (aCons (eC (.str "0>-")) aNil))))))))) (gNm 8) (sSet 7 (eOw (fAdd (eFrz (eVar 7)) (eFz (fDisp (aCons (eTup (aCons (eC (.int 1)) (aCons (eTup (aCons (eVar 3) (aCons (eVar 8) aNil))) (aCons (eC (.str "comparison")) aNil)))) (aCons (eTup (aCons (eC (.int 1)) (aCons (eTup (aCons (eVar 4) (aCons (eVar 8) aNil))) (aCons (eC (.str "comparison")) aNil)))) aNil))))))))
    (sSeq (sFor (iVal (eTup (aCons (eC .non) (aCons (eUn oNeg (eC (.int 1))) (aCons (eC (.int 8)) (aCons (eC (.bl true)) (aCons (eC (.str "0")) (aCons (eVar 5) aNil)))))))) (gNm 8) (sDrop (eLm goApp (eVar 7) (aCons (eTup (aCons (eC (.int 2)) (aCons (eTup (aCons (eVar 4) (aCons (eVar 8) aNil))) (aCons (eC (.str "number")) aNil)))) aNil))))
    (sSeq (sSet 7 (eOw (fAdd (eFrz (eVar 7)) (eFz (fDisp (aCons (eTup (aCons (eC (.int 2)) (aCons (eTup (aCons (eVar 3) (aCons (eC (.int 0)) aNil))) (aCons (eC (.str "number")) aNil)))) (aCons (eTup (aCons (eC (.int 1)) (aCons (eTup (aCons (eVar 4) (aCons (eVar 5) aNil))) (aCons (eC (.str "many")) aNil)))) (aCons (eTup (aCons (eC (.int 3)) (aCons (eTup (aCons (eVar 3) (aCons (eC .non) aNil))) (aCons (eC (.str "undo")) aNil)))) aNil))))))))
    (sSeq (sFor (iVal (eFrz (eVar 7))) (gTp 3 (gsCons (gNm 9) (gsCons (gNm 10) (gsCons (gNm 11) gsNil)))) (sIf (tE (eBin oNe (eCall 2 f__law_outcome (aCons (eVar 9) (aCons (eVar 10) aNil))) (eCall 1 f__law_raises (aCons (eVar 11) aNil)))) (sRet (eC (.bl false))) sNil))
    (sSeq (sIf (tOrF (tE (eBin oNe (eLenO "Bench" f_Bench___len__ (eVar 3)) (eC (.int 0)))) (tOrF (tE (eBin oNe (eLenO "Bench" f_Bench___len__ (eVar 4)) (eC (.int 8)))) (tOrF (tE (eBin oNe (eMeth "Bench" "told" 1 f_Bench_told (eVar 4) aNil) (eBin oMul (eTup (aCons (eVar 5) aNil)) (eC (.int 8))))) (tE (eBin oNe (eMeth "Bench" "drop" 2 f_Bench_drop (eVar 4) (aCons (eC (.int 3)) aNil)) (eVar 5)))))) (sRet (eC (.bl false))) sNil)
    (sSeq (sIf (tOrF (tE (eBin oNotN (eMeth "Bench" "tell" 2 f_Bench_tell (eVar 4) (aCons (eTup (aCons (eTup aNil) (aCons (eC (.str ">=")) (aCons (eTup (aCons (eC (.int 0)) aNil)) aNil)))) aNil)) (eC (.bl false)))) (tOrF (tE (eBin oNe (eMeth "Bench" "undo" 1 f_Bench_undo (eVar 4) aNil) (eC (.str "tell")))) (tOrF (tE (eBin oNe (eMeth "Bench" "undo" 1 f_Bench_undo (eVar 4) aNil) (eC (.str "drop")))) (tE (eBin oNe (eLenO "Bench" f_Bench___len__ (eVar 4)) (eC (.int 8))))))) (sRet (eC (.bl false))) sNil)
    (sSeq (sIf (tOrF (tE (eBin oNe (eMeth "Bench" "redo" 1 f_Bench_redo (eVar 4) aNil) (eC (.str "drop")))) (tOrF (tE (eBin oNe (eMeth "Bench" "redo" 1 f_Bench_redo (eVar 4) aNil) (eC (.str "tell")))) (tE (eBin oNe (eBin oIx (eMeth "Bench" "told" 1 f_Bench_told (eVar 4) aNil) (eC (.int 7))) (eTup (aCons (eTup aNil) (aCons (eC (.str ">=")) (aCons (eTup (aCons (eC (.int 0)) aNil)) aNil)))))))) (sRet (eC (.bl false))) sNil)
    (sSeq (sIf (tOrF (tE (eBin oNotN (eMeth "Bench" "tell" 2 f_Bench_tell (eVar 3) (aCons (eVar 5) aNil)) (eC (.bl true)))) (tOrF (tE (eBin oNe (eMeth "Bench" "undo" 1 f_Bench_undo (eVar 3) aNil) (eC (.str "tell")))) (tE (eBin oNe (eLenO "Bench" f_Bench___len__ (eVar 3)) (eC (.int 0)))))) (sRet (eC (.bl false))) sNil)
    (sRet (eAnd (eBin oEq (eCall 2 f__law_outcome (aCons (eC (.int 3)) (aCons (eTup (aCons (eVar 3) (aCons (eC .non) aNil))) aNil))) (eCall 1 f__law_raises (aCons (eC (.str "undo")) aNil))) (eBin oEq (eMeth "Bench" "redo" 1 f_Bench_redo (eVar 3) aNil) (eC (.str "tell")))))))))))))))))
theorem law_eq : f_law = runF 12 (sSeq (sSet 1 (eCall 1 f__law_town (aCons (eVar 0) aNil)))
    (sSeq (sSet 2 (eBin oAdd (eC (.int 1)) (eCall 3 f__law_draw (aCons (eVar 0) (aCons (eVar 1) (aCons (eC (.int 5)) aNil)))))) law_r)) := rfl
theorem t1 (ns : List Int) (c : List PV) : isT (ret (law_r [some (.scr ns), some (.own 0), some (.int 1), none, none, none, none, none, none, none, none, none] [.lst c])) = true := by kernel_rfl
theorem t2 (ns : List Int) (c : List PV) : isT (ret (law_r [some (.scr ns), some (.own 0), some (.int 2), none, none, none, none, none, none, none, none, none] [.lst c])) = true := by kernel_rfl
theorem t3 (ns : List Int) (c : List PV) : isT (ret (law_r [some (.scr ns), some (.own 0), some (.int 3), none, none, none, none, none, none, none, none, none] [.lst c])) = true := by kernel_rfl
theorem t4 (ns : List Int) (c : List PV) : isT (ret (law_r [some (.scr ns), some (.own 0), some (.int 4), none, none, none, none, none, none, none, none, none] [.lst c])) = true := by kernel_rfl
theorem t5 (ns : List Int) (c : List PV) : isT (ret (law_r [some (.scr ns), some (.own 0), some (.int 5), none, none, none, none, none, none, none, none, none] [.lst c])) = true := by kernel_rfl
theorem start (ns : List Int) (d : Int) (c : List PV) (hl : ns.length ≤ 63) (hd : drawF [.scr ns, .own 0, .int 5] [.lst ((0 :: ns).map PV.int)] = .ok (.int d) [.lst c]) (r : XS) :
    runF 12 (sSeq (sSet 1 (eCall 1 f__law_town (aCons (eVar 0) aNil)))
    (sSeq (sSet 2 (eBin oAdd (eC (.int 1)) (eCall 3 f__law_draw (aCons (eVar 0) (aCons (eVar 1) (aCons (eC (.int 5)) aNil)))))) r)) [.scr ns] [] = ret (r [some (.scr ns), some (.own 0), some (.int (1 + d)), none, none, none, none, none, none, none, none, none] [.lst c]) := by
  have e1 : f__law_town [.scr ns] [] = _ := town_ok ns hl
  have e2 : f__law_draw [.scr ns, .own 0, .int 5] [.lst ((0 :: ns).map PV.int)] = _ := hd
  have c1 : eCall 1 f__law_town (aCons (eVar 0) aNil) (env0 12 [.scr ns]) [] = f__law_town [.scr ns] [] := rfl
  have c2 : eCall 3 f__law_draw (aCons (eVar 0) (aCons (eVar 1) (aCons (eC (.int 5)) aNil))) ((env0 12 [.scr ns]).set 1 (some (.own 0))) [.lst ((0 :: ns).map PV.int)] = f__law_draw [.scr ns, .own 0, .int 5] [.lst ((0 :: ns).map PV.int)] := rfl
  have c2' := c2.trans e2
  have d1 : sSet 1 (eCall 1 f__law_town (aCons (eVar 0) aNil)) (env0 12 [.scr ns]) [] = .ok (.nx ((env0 12 [.scr ns]).set 1 (some (.own 0)))) [.lst ((0 :: ns).map PV.int)] := by rw [sSet, c1, e1]; rfl
  have d2 : sSet 2 (eBin oAdd (eC (.int 1)) (eCall 3 f__law_draw (aCons (eVar 0) (aCons (eVar 1) (aCons (eC (.int 5)) aNil))))) ((env0 12 [.scr ns]).set 1 (some (.own 0))) [.lst ((0 :: ns).map PV.int)] = .ok (.nx (((env0 12 [.scr ns]).set 1 (some (.own 0))).set 2 (some (.int (1 + d))))) [.lst c] := by
    rw [sSet, eBin, eC, b_ok, c2', b_ok]
    rfl
  rw [runF, sSeq, d1, b_ok]
  simp only [sSeq]
  rw [d2]
  rfl
theorem cases5 (ns : List Int) (c : List PV) (m : Int) (h0 : 0 < m) (h5 : m ≤ 5) : isT (ret (law_r [some (.scr ns), some (.own 0), some (.int m), none, none, none, none, none, none, none, none, none] [.lst c])) = true := by
  have : m = 1 ∨ m = 2 ∨ m = 3 ∨ m = 4 ∨ m = 5 := by omega
  rcases this with h | h | h | h | h
  · rw [h]; exact t1 ns c
  · rw [h]; exact t2 ns c
  · rw [h]; exact t3 ns c
  · rw [h]; exact t4 ns c
  · rw [h]; exact t5 ns c
theorem pure_law (ns : List Int) (hl : ns.length ≤ 63) : ∃ st, f_law [.scr ns] [] = .ok (.bl true) st := by
  have T0 : Town ns 0 ((0 :: ns).map PV.int) := ⟨0, ns, rfl, rfl, by omega, by omega⟩
  obtain ⟨d, c, hd, d0, d5, _⟩ := draw_ok (t := 0) (st := [.lst ((0 :: ns).map PV.int)]) (lim := 5) rfl T0 (by decide) hl (by decide) (by decide)
  rw [law_eq, start ns d c hl hd law_r]
  exact isT_ok (cases5 ns c (1 + d) (by omega) (by omega))
end Gk81
end
section
set_option Elab.async false
set_option linter.all false
open PySem PySem.W PySem.Calls PyProof.Rows
set_option maxRecDepth 100000 in
set_option maxHeartbeats 0 in
theorem PySem.Challenge.cw_lotscales_k81_bench_ends_holds : PySem.Challenge.rw_lotscales_k81_bench_ends.Holds := by
  w_on; o_law
  refine HandSHeadRun.head_any (r := OpenLaw.row PySem.Challenge.rw_lotscales_k81_bench_ends) (q := view (OpenLaw.row PySem.Challenge.rw_lotscales_k81_bench_ends).prog [44]) (H := Gk81.hk) (ob := Gk81.ob) (M := 6000) (loose := Gk81.loose) (d := HandSHeadRun.topDef (OpenLaw.row PySem.Challenge.rw_lotscales_k81_bench_ends).prog 44) (kwd := [])
    (fun s => Lq.obM_eq s) (by kernel_rfl) (fun s => by kernel_rfl) Gk81.run (by kernel_rfl) (by kernel_rfl) (by kernel_rfl) (by rfl) (by first | assumption | decide +kernel) (by decide +kernel) ⟨rfl, rfl, rfl, rfl, rfl, by decide +kernel⟩ ?hw ?hc
  case hw => w_witness2
  case hc =>
    refine L2.walk_ofE (l := PySem.Challenge.rw_lotscales_k81_bench_ends) (n := 63) (k := 10) (x := "script") (CX := L2.CX0) rfl (by decide) (by kernel_rfl) ⟨rfl, by decide, by decide⟩ ?F (fun _ _ _ _ z => z)
    intro w mg fa h Y Gn hmg0
    obtain ⟨K, KX, c, e⟩ := Y
    have hmg : mg ("law" : PySem.Str) = some (.ref fa) := by
      have e : (HandSHeadRun.topDef (OpenLaw.row PySem.Challenge.rw_lotscales_k81_bench_ends).prog 44).name = ("law" : PySem.Str) := by kernel_rfl
      rw [← e]
      exact hmg0
    have G := Lq.fx_of (q := Gk81.qs) KX Gn c e
    obtain ⟨fd, F⟩ := G.def_ 31 (d := Gk81.d31) rfl rfl rfl
    have b := L2.FunD.bindsA (ps := ["script"]) F fun _ _ _ _ _ _ us hl => match us, hl with | [_], _ => rfl
    have ef := hmg.symm.trans (G.glo 32 rfl)
    cases ef
    exact ⟨K, fd, fun vs H Q _ => Lq.spF K mg 1 Gk81.f_law vs H Q L2.E0, KX, fun s v => b s [v] rfl, fun H a ns hl _ hS => Lq.law_sp hS (Nat.le_trans hl (by decide)) (Gk81.pure_law ns hl), fun base _ _ => Lq.fn_calm (Gk81.law_fn G F)⟩
end
