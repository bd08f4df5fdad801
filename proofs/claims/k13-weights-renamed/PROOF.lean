import PyProof.Rows.All
import Wide.All
import OpenK.AllK
import Wide.FinOn
import HandS.ForMost
import HandS.ForExc
import HandS.Flow
import HandS.Style
import HandS.Conv
import HandS.Deep
import HandS.TupAny
import HandS.TupMul
import HandS.TupLe
import HandS.StrMore
import HandS.IsInst
import HandS.Wide
import HandS.Zip
import HandS.Defaults
import HandS.SortInts
import KE.KDictKeyed
import KE.GoesZip
import HandS.ExcIs
import KE.GoesMore
import KE.GoesEnum
import KE.KStateDown
import HandS.Head0
import HandS.Head1
import HandS.Head2
import HandS.HeadEnd
import HandS.HeadHook1
import HandS.HeadHook2
import KE.SortKeyed
import KE.DataCmp
import KE.SortData
import HandS.Strs
import KE.KCallOwn
import HandS.FStr
import HandS.OwnEq
import HandS.More
import HandS.Iter
import HandS.Dict
import KE.KDictWalk
import KE.KIndexOf
import PySem.Challenge.RW_lotscales_k13_weights_renamed
section
set_option Elab.async false
set_option linter.all false
set_option maxRecDepth 10000
namespace Lq
open PySem PySem.Spec PyProof.Rows L2
inductive PV where
  | non | bl (b : Bool) | int (i : Int) | str (s : Str)
  | tup (xs : List PV) | lst (xs : List PV) | scr (xs : List Int)
  | own (k : Nat) | glo (x : Str)
  deriving Inhabited
inductive Cell where
  | lst (xs : List PV)
  | frz (xs : List PV)
  | dct (kvs : List (PV × PV))
  | dcn (kvs : List (PV × PV))
  | dkf (kvs : List (PV × PV))
  | dnf (kvs : List (PV × PV))
  | tpl (xs : List PV)
  | ins (C : Str) (fs : List (Str × PV))
  | exc (c : Str)
  deriving Inhabited
abbrev Store := List Cell
abbrev Ev := List (Option PV)
inductive R (α : Type) where
  | ok (a : α) (s : Store)
  | ex (c : Str) (s : Store)
  | no
def R.bind {α β : Type} (r : R α) (k : α → Store → R β) : R β := match r with
  | .ok a s => k a s
  | .ex c s => .ex c s
  | .no => .no
inductive Fl where
  | nx (e : Ev) | rt (v : PV) | bk (e : Ev) | ct (e : Ev)
abbrev XE := Ev → Store → R PV
abbrev XL := Ev → Store → R (List PV)
abbrev XS := Ev → Store → R Fl
abbrev Fn := List PV → Store → R PV
section
variable (K : PySem.W.Frag) (mg : Str → Option Value)
mutual
def Rep (Fz : Hp) (ρ : List Addr) : PV → V → Prop
  | .non, v => v = .non
  | .bl b, v => v = .bl b
  | .int i, v => v = .int i
  | .str s, v => v = .str s
  | .tup xs, v => ∃ a vs, v = .ref a ∧ SqT K Fz a vs ∧ xs.length ≤ sizeLine ∧ RepL Fz ρ xs vs
  | .lst xs, v => ∃ a vs, v = .ref a ∧ Fz a = some (.lst vs) ∧ xs.length ≤ sizeLine ∧ RepL Fz ρ xs vs
  | .scr ns, v => ∃ a, v = .ref a ∧ SqL K Fz a (ns.map V.int) ∧ ns.length ≤ sizeLine
  | .own k, v => ∃ a, ρ[k]? = some a ∧ v = .ref a
  | .glo x, v => ∃ a, mg x = some (.ref a) ∧ v = .ref a
def RepL (Fz : Hp) (ρ : List Addr) : List PV → List V → Prop
  | [], vs => vs = []
  | x :: xs, vs => ∃ v r, vs = v :: r ∧ Rep Fz ρ x v ∧ RepL Fz ρ xs r
end
def REnv (Fz : Hp) (ρ : List Addr) (env : Ev) (σ : L2.St) : Prop :=
  env.length = σ.length ∧ ∀ (i : Nat) (p : PV), env[i]? = some (some p) → ∃ v, σ[i]? = some (some v) ∧ Rep K mg Fz ρ p v
def RepF (Fz : Hp) (ρ : List Addr) : List (Str × PV) → List (Str × V) → Prop := fun ps vs =>
  PySem.Paired (fun (p : Str × PV) (q : Str × V) => p.1 = q.1 ∧ Rep K mg Fz ρ p.2 q.2) ps vs
def XcO (cls : Value) (a : Addr) : HO := .ext fun h => ∃ (oe : Obj) (vs : Array Value), h.get? a = some oe ∧ Zc cls none oe ∧ oe.data = .fields vs
def KeyP : PV → Key → Prop
  | .int i, k => k = .inl i
  | .str s, k => k = .inr s
  | _, _ => False
def RepD (Fz : Hp) (ρ : List Addr) : List (PV × PV) → List (Key × V) → Prop := fun ps vs =>
  PySem.Paired (fun (p : PV × PV) (q : Key × V) => KeyP p.1 q.1 ∧ Rep K mg Fz ρ p.2 q.2) ps vs
def DctOk (Fz : Hp) (ρ : List Addr) (H : Hp) (a : Addr) (kvs : List (PV × PV)) : Prop := ∃ kv, H a = some (.dK kv) ∧ kvs.length ≤ sizeLine ∧ RepD K mg Fz ρ kvs kv
mutual
/-- a key that is a tuple of ints and of such tuples -/
def nkOf : PV → Option NestedKey
  | .int i => some (.num i)
  | .tup xs => (nksOf xs).map .tup
  | _ => none
def nksOf : List PV → Option (List NestedKey)
  | [] => some []
  | x :: r => match nkOf x, nksOf r with
    | some k, some ks => some (k :: ks)
    | _, _ => none
end
def NdO (a : Addr) (xs : List (NestedKey × Addr × V)) : HO := .ext fun h => ∃ o es ep, h.get? a = some o ∧ o.ExactDict ∧ o.data = .dict es ep ∧
  PySem.Paired (fun (e : DictEntry) (x : NestedKey × Addr × V) => (∀ w : World, e.hash = x.1.hash w) ∧ e.key = .ref x.2.1 ∧ RelV x.2.2 e.val) es.toList xs
def RepN (Fz : Hp) (ρ : List Addr) : List (PV × PV) → List (NestedKey × Addr × V) → Prop := fun ps vs => (∀ x ∈ vs, x.1.depth ≤ 8) ∧
  PySem.Paired (fun (p : PV × PV) (x : NestedKey × Addr × V) => nkOf p.1 = some x.1 ∧ Rep K mg Fz ρ p.1 (.ref x.2.1) ∧ Rep K mg Fz ρ p.2 x.2.2) ps vs
def DcnOk (Fz : Hp) (ρ : List Addr) (H : Hp) (a : Addr) (kvs : List (PV × PV)) : Prop := ∃ xs, H a = some (NdO a xs) ∧ kvs.length ≤ sizeLine ∧ RepN K mg Fz ρ kvs xs ∧ (xs.map (·.1)).Nodup ∧ (a == sysModules) = false
def CellOk (Fz : Hp) (ρ : List Addr) (H : Hp) (a : Addr) : Cell → Prop
  | .lst xs => ∃ vs, H a = some (.lst vs) ∧ xs.length ≤ sizeLine ∧ RepL K mg Fz ρ xs vs
  | .frz xs => ∃ vs, Fz a = some (.lst vs) ∧ xs.length ≤ sizeLine ∧ RepL K mg Fz ρ xs vs
  | .dct kvs => DctOk K mg Fz ρ H a kvs
  | .dcn kvs => DcnOk K mg Fz ρ H a kvs
  | .dkf kvs => ∃ od kv, Fz a = some (.frz od (.dK kv)) ∧ kvs.length ≤ sizeLine ∧ RepD K mg Fz ρ kvs kv
  | .dnf kvs => ∃ od xs, Fz a = some (.frz od (NdO a xs)) ∧ kvs.length ≤ sizeLine ∧ RepN K mg Fz ρ kvs xs ∧ (xs.map (·.1)).Nodup ∧ (a == sysModules) = false
  | .tpl xs => ∃ od vs, Fz a = some (.frz od (.tup vs)) ∧ od.dict = none ∧ xs.length ≤ sizeLine ∧ RepL K mg Fz ρ xs vs
  | .ins x fs => ∃ C dx vs, mg x = some (.ref C) ∧ H a = some (.ins C dx vs) ∧ fs.length ≤ 900 ∧ RepF K mg Fz ρ fs vs
  | .exc c => ∃ C, mg c = some (.ref C) ∧ H a = some (XcO (.ref C) a)
def Cell.live : Cell → Bool
  | .frz _ => false
  | .dkf _ => false
  | .dnf _ => false
  | .tpl _ => false
  | _ => true
structure Rel (Z Fz : Hp) (ρ : List Addr) (st : Store) (H : Hp) : Prop where
  zf : ∀ a o, Z a = some o → H a = some o ∧ Fz a = none ∧ a ∉ ρ
  fz : ∀ a o, Fz a = some o → H a = some o
  len : ρ.length = st.length
  cell : ∀ (k : Nat) (a : Addr) (x : Cell), ρ[k]? = some a → st[k]? = some x → CellOk K mg Fz ρ H a x
  apart : ∀ (k : Nat) (a : Addr) (x : Cell), ρ[k]? = some a → st[k]? = some x → x.live = true → Fz a = none
  nd : ρ.Nodup
structure Ext (Fz : Hp) (ρ : List Addr) (Fz' : Hp) (ρ' : List Addr) : Prop where
  fz : ∀ a o, Fz a = some o → Fz' a = some o
  pre : ρ <+: ρ'
theorem Ext.refl {Fz : Hp} {ρ : List Addr} : Ext Fz ρ Fz ρ := ⟨fun _ _ h => h, List.prefix_refl _⟩
theorem Ext.trans {F1 F2 F3 : Hp} {r1 r2 r3 : List Addr} (a : Ext F1 r1 F2 r2) (b : Ext F2 r2 F3 r3) : Ext F1 r1 F3 r3 :=
  ⟨fun x o h => b.fz x o (a.fz x o h), a.pre.trans b.pre⟩
theorem Rd.mono {F F' : Hp} (h : ∀ a o, F a = some o → F' a = some o) {a : Addr} {u : HO} (r : Rd F a u) : Rd F' a u := by
  rcases r with r | ⟨o, r⟩
  · exact .inl (h _ _ r)
  · exact .inr ⟨o, h _ _ r⟩
variable {K mg}
theorem sqT_mono {F F' : Hp} (h : ∀ a o, F a = some o → F' a = some o) {a : Addr} {vs : List V} (r : SqT K F a vs) : SqT K F' a vs := by
  rcases r with r | r
  · exact .inl (Rd.mono h r)
  · exact .inr r
theorem sqL_mono {F F' : Hp} (h : ∀ a o, F a = some o → F' a = some o) {a : Addr} {vs : List V} (r : SqL K F a vs) : SqL K F' a vs := by
  rcases r with r | r
  · exact .inl (Rd.mono h r)
  · exact .inr r
theorem prefix_get {α : Type} {l l' : List α} (h : l <+: l') {k : Nat} {a : α} (e : l[k]? = some a) : l'[k]? = some a := by
  obtain ⟨t, rfl⟩ := h
  have hk : k < l.length := (List.getElem?_eq_some_iff.mp e).1
  rw [List.getElem?_append_left hk]; exact e
mutual
theorem Rep.mono {Fz Fz' : Hp} {ρ ρ' : List Addr} (e : Ext Fz ρ Fz' ρ') : ∀ {p : PV} {v : V}, Rep K mg Fz ρ p v → Rep K mg Fz' ρ' p v
  | .non, _, h => by simpa [Rep] using h
  | .bl _, _, h => by simpa [Rep] using h
  | .int _, _, h => by simpa [Rep] using h
  | .str _, _, h => by simpa [Rep] using h
  | .tup xs, _, h => by
    rw [Rep] at h ⊢
    obtain ⟨a, vs, e1, e2, e3, e4⟩ := h
    exact ⟨a, vs, e1, sqT_mono e.fz e2, e3, RepL.mono e e4⟩
  | .lst xs, _, h => by
    rw [Rep] at h ⊢
    obtain ⟨a, vs, e1, e2, e3, e4⟩ := h
    exact ⟨a, vs, e1, e.fz _ _ e2, e3, RepL.mono e e4⟩
  | .scr ns, _, h => by
    rw [Rep] at h ⊢
    obtain ⟨a, e1, e2, e3⟩ := h
    exact ⟨a, e1, sqL_mono e.fz e2, e3⟩
  | .own k, _, h => by
    rw [Rep] at h ⊢
    obtain ⟨a, e1, e2⟩ := h
    exact ⟨a, prefix_get e.pre e1, e2⟩
  | .glo x, _, h => by simpa [Rep] using h
theorem RepL.mono {Fz Fz' : Hp} {ρ ρ' : List Addr} (e : Ext Fz ρ Fz' ρ') : ∀ {ps : List PV} {vs : List V}, RepL K mg Fz ρ ps vs → RepL K mg Fz' ρ' ps vs
  | [], _, h => by simpa [RepL] using h
  | x :: xs, _, h => by
    rw [RepL] at h ⊢
    obtain ⟨v, r, e1, e2, e3⟩ := h
    exact ⟨v, r, e1, Rep.mono e e2, RepL.mono e e3⟩
end
theorem REnv.mono {Fz Fz' : Hp} {ρ ρ' : List Addr} (e : Ext Fz ρ Fz' ρ') {env : Ev} {σ : L2.St} (h : REnv K mg Fz ρ env σ) : REnv K mg Fz' ρ' env σ :=
  ⟨h.1, fun i p q => let ⟨v, a, b⟩ := h.2 i p q; ⟨v, a, b.mono e⟩⟩
theorem RepF.mono {Fz Fz' : Hp} {ρ ρ' : List Addr} (e : Ext Fz ρ Fz' ρ') {ps : List (Str × PV)} {vs : List (Str × V)} (h : RepF K mg Fz ρ ps vs) : RepF K mg Fz' ρ' ps vs :=
  L2.Paired.mapP h fun _ _ q => ⟨q.1, q.2.mono e⟩
theorem RepL.len {Fz : Hp} {ρ : List Addr} : ∀ {ps : List PV} {vs : List V}, RepL K mg Fz ρ ps vs → ps.length = vs.length
  | [], _, h => by rw [RepL] at h; subst h; rfl
  | x :: xs, _, h => by
    rw [RepL] at h
    obtain ⟨v, r, rfl, _, h⟩ := h
    simp [RepL.len h]
theorem RepL.get {Fz : Hp} {ρ : List Addr} : ∀ {ps : List PV} {vs : List V} {i : Nat} {p : PV}, RepL K mg Fz ρ ps vs → ps[i]? = some p → ∃ v, vs[i]? = some v ∧ Rep K mg Fz ρ p v
  | [], _, _, _, _, e => by simp at e
  | x :: xs, _, 0, p, h, e => by
    rw [RepL] at h
    obtain ⟨v, r, rfl, h1, _⟩ := h
    simp at e; subst e
    exact ⟨v, rfl, h1⟩
  | x :: xs, _, i + 1, p, h, e => by
    rw [RepL] at h
    obtain ⟨v, r, rfl, _, h⟩ := h
    obtain ⟨v', e1, e2⟩ := RepL.get (i := i) h (by simpa using e)
    exact ⟨v', by simpa using e1, e2⟩
theorem RepL.app {Fz : Hp} {ρ : List Addr} : ∀ {ps qs : List PV} {vs ws : List V}, RepL K mg Fz ρ ps vs → RepL K mg Fz ρ qs ws → RepL K mg Fz ρ (ps ++ qs) (vs ++ ws)
  | [], _, _, _, h, h' => by rw [RepL] at h; subst h; exact h'
  | x :: xs, qs, _, ws, h, h' => by
    rw [RepL] at h
    obtain ⟨v, r, rfl, h1, h⟩ := h
    show RepL K mg Fz ρ (x :: (xs ++ qs)) (v :: (r ++ ws))
    rw [RepL]
    exact ⟨v, _, rfl, h1, RepL.app h h'⟩
theorem RepL.nil {Fz : Hp} {ρ : List Addr} : RepL K mg Fz ρ [] [] := by rw [RepL]
theorem RepL.cons {Fz : Hp} {ρ : List Addr} {p : PV} {v : V} {ps : List PV} {vs : List V} (h : Rep K mg Fz ρ p v) (h' : RepL K mg Fz ρ ps vs) : RepL K mg Fz ρ (p :: ps) (v :: vs) := by
  rw [RepL]; exact ⟨_, _, rfl, h, h'⟩
theorem RepL.drop {Fz : Hp} {ρ : List Addr} : ∀ {ps : List PV} {vs : List V} (n : Nat), RepL K mg Fz ρ ps vs → RepL K mg Fz ρ (ps.drop n) (vs.drop n)
  | _, _, 0, h => h
  | [], _, _ + 1, h => by rw [RepL] at h; subst h; exact RepL.nil
  | x :: xs, _, n + 1, h => by
    rw [RepL] at h
    obtain ⟨v, r, rfl, _, h⟩ := h
    exact RepL.drop n h
theorem RepL.take {Fz : Hp} {ρ : List Addr} : ∀ {ps : List PV} {vs : List V} (n : Nat), RepL K mg Fz ρ ps vs → RepL K mg Fz ρ (ps.take n) (vs.take n)
  | _, _, 0, _ => RepL.nil
  | [], _, _ + 1, h => by rw [RepL] at h; subst h; exact RepL.nil
  | x :: xs, _, n + 1, h => by
    rw [RepL] at h
    obtain ⟨v, r, rfl, h1, h⟩ := h
    exact RepL.cons h1 (RepL.take n h)
theorem RepL.set {Fz : Hp} {ρ : List Addr} {p : PV} {v : V} (hp : Rep K mg Fz ρ p v) : ∀ {ps : List PV} {vs : List V} (n : Nat), RepL K mg Fz ρ ps vs → RepL K mg Fz ρ (ps.set n p) (vs.set n v)
  | [], _, _, h => by rw [RepL] at h; subst h; exact RepL.nil
  | x :: xs, _, 0, h => by
    rw [RepL] at h
    obtain ⟨w, r, rfl, _, h⟩ := h
    exact RepL.cons hp h
  | x :: xs, _, n + 1, h => by
    rw [RepL] at h
    obtain ⟨w, r, rfl, h1, h⟩ := h
    exact RepL.cons h1 (RepL.set hp n h)
theorem RepL.flat {Fz : Hp} {ρ : List Addr} {ps : List PV} {vs : List V} (h : RepL K mg Fz ρ ps vs) : ∀ n : Nat, RepL K mg Fz ρ (List.replicate n ps).flatten (List.replicate n vs).flatten
  | 0 => RepL.nil
  | n + 1 => by
    rw [List.replicate_succ, List.replicate_succ, List.flatten_cons, List.flatten_cons]
    exact RepL.app h (RepL.flat h n)
theorem RepL.ints {Fz : Hp} {ρ : List Addr} : ∀ ns : List Int, RepL K mg Fz ρ (ns.map PV.int) (ns.map V.int)
  | [] => RepL.nil
  | n :: ns => RepL.cons (by rw [Rep]) (RepL.ints ns)
theorem RepL.of_ints {Fz : Hp} {ρ : List Addr} : ∀ {ns : List Int} {vs : List V}, RepL K mg Fz ρ (ns.map PV.int) vs → vs = ns.map V.int
  | [], _, h => by rw [List.map_nil, RepL] at h; exact h
  | n :: ns, _, h => by
    rw [List.map_cons, RepL] at h
    obtain ⟨v, r, rfl, h1, h⟩ := h
    rw [Rep] at h1
    rw [h1, RepL.of_ints h]; rfl
theorem nodup_ix {l : List Addr} (h : l.Nodup) {i j : Nat} {a : Addr} (ei : l[i]? = some a) (ej : l[j]? = some a) : i = j := by
  obtain ⟨hi, qi⟩ := List.getElem?_eq_some_iff.mp ei
  obtain ⟨hj, qj⟩ := List.getElem?_eq_some_iff.mp ej
  have P := List.pairwise_iff_getElem.mp h
  rcases Nat.lt_trichotomy i j with z | z | z
  · exact absurd (qi.trans qj.symm) (P i j hi hj z)
  · exact z
  · exact absurd (qj.trans qi.symm) (P j i hj hi z)
section
variable {Z Fz : Hp} {ρ : List Addr} {st : Store} {H : Hp}
theorem CellOk.mono {Fz' : Hp} {ρ' : List Addr} {H' : Hp} {a : Addr} (e : Ext Fz ρ Fz' ρ') (hH : ∀ o, H a = some o → H' a = some o) : ∀ {c : Cell}, CellOk K mg Fz ρ H a c → CellOk K mg Fz' ρ' H' a c
  | .lst xs, h => let ⟨vs, h1, h2, h3⟩ := h; ⟨vs, hH _ h1, h2, h3.mono e⟩
  | .frz xs, h => let ⟨vs, h1, h2, h3⟩ := h; ⟨vs, e.fz _ _ h1, h2, h3.mono e⟩
  | .dct kvs, h => let ⟨kv, h1, h2, h3⟩ := h; ⟨kv, hH _ h1, h2, L2.Paired.mapP h3 fun _ _ z => ⟨z.1, z.2.mono e⟩⟩
  | .dcn kvs, h => let ⟨kv, h1, h2, h3, h4, h5⟩ := h; ⟨kv, hH _ h1, h2, ⟨h3.1, L2.Paired.mapP h3.2 fun _ _ z => ⟨z.1, z.2.1.mono e, z.2.2.mono e⟩⟩, h4, h5⟩
  | .dkf kvs, h => let ⟨od, kv, h1, h2, h3⟩ := h; ⟨od, kv, e.fz _ _ h1, h2, L2.Paired.mapP h3 fun _ _ z => ⟨z.1, z.2.mono e⟩⟩
  | .dnf kvs, h => let ⟨od, kv, h1, h2, h3, h4, h5⟩ := h; ⟨od, kv, e.fz _ _ h1, h2, ⟨h3.1, L2.Paired.mapP h3.2 fun _ _ z => ⟨z.1, z.2.1.mono e, z.2.2.mono e⟩⟩, h4, h5⟩
  | .tpl xs, h => let ⟨od, vs, h1, h2, h3, h4⟩ := h; ⟨od, vs, e.fz _ _ h1, h2, h3, h4.mono e⟩
  | .ins x fs, h => let ⟨C, dx, vs, h0, h1, h2, h3⟩ := h; ⟨C, dx, vs, h0, hH _ h1, h2, h3.mono e⟩
  | .exc c, h => let ⟨C, h0, h1⟩ := h; ⟨C, h0, hH _ h1⟩
theorem CellOk.some {a : Addr} (hf : ∀ a o, Fz a = some o → H a = some o) : ∀ {c : Cell}, CellOk K mg Fz ρ H a c → ∃ o, H a = some o
  | .lst xs, h => let ⟨vs, h1, _⟩ := h; ⟨_, h1⟩
  | .frz xs, h => let ⟨vs, h1, _⟩ := h; ⟨_, hf _ _ h1⟩
  | .dct kvs, h => let ⟨kv, h1, _⟩ := h; ⟨_, h1⟩
  | .dcn kvs, h => let ⟨kv, h1, _⟩ := h; ⟨_, h1⟩
  | .dkf kvs, h => let ⟨od, kv, h1, _⟩ := h; ⟨_, hf _ _ h1⟩
  | .dnf kvs, h => let ⟨od, kv, h1, _⟩ := h; ⟨_, hf _ _ h1⟩
  | .tpl xs, h => let ⟨od, vs, h1, _⟩ := h; ⟨_, hf _ _ h1⟩
  | .ins x fs, h => let ⟨C, dx, vs, h0, h1, _⟩ := h; ⟨_, h1⟩
  | .exc c, h => let ⟨C, h0, h1⟩ := h; ⟨_, h1⟩
theorem Rel.at (r : Rel K mg Z Fz ρ st H) {k : Nat} {a : Addr} (e : ρ[k]? = some a) : ∃ c, st[k]? = some c ∧ CellOk K mg Fz ρ H a c := by
  have hk : k < st.length := by rw [← r.len]; exact (List.getElem?_eq_some_iff.mp e).1
  exact ⟨st[k], by simp [hk], r.cell k a _ e (by simp [hk])⟩
theorem Rel.free (r : Rel K mg Z Fz ρ st H) {p : Addr} (hp : H p = none) : Fz p = none ∧ p ∉ ρ := by
  refine ⟨?_, fun hm => ?_⟩
  · cases e : Fz p with
    | none => rfl
    | some o => rw [r.fz _ _ e] at hp; cases hp
  · obtain ⟨k, hk, e⟩ := List.getElem_of_mem hm
    have e' : ρ[k]? = some p := by rw [List.getElem?_eq_getElem hk, e]
    obtain ⟨c, _, h⟩ := r.at e'
    obtain ⟨o, q⟩ := h.some r.fz
    rw [q] at hp; cases hp
theorem Rel.frozen (r : Rel K mg Z Fz ρ st H) {p : Addr} (hp : H p = none) (o : HO) : Rel K mg Z (upd Fz p o) ρ st (upd H p o) ∧ Ext Fz ρ (upd Fz p o) ρ := by
  obtain ⟨hf, hm⟩ := r.free hp
  have ex : Ext Fz ρ (upd Fz p o) ρ := ⟨fun a u e => by rw [upd_ne (fun z => by subst z; rw [hf] at e; cases e)]; exact e, List.prefix_refl _⟩
  refine ⟨⟨fun a u e => ?_, fun a u e => ?_, r.len, fun k a x e1 e2 => (r.cell k a x e1 e2).mono ex fun u q => ?_, fun k a x e1 e2 e3 => ?_, r.nd⟩, ex⟩
  · obtain ⟨z1, z2, z3⟩ := r.zf a u e
    have hap : a ≠ p := fun z => by subst z; rw [hp] at z1; cases z1
    exact ⟨by rw [upd_ne hap]; exact z1, by rw [upd_ne hap]; exact z2, z3⟩
  · by_cases h : a = p
    · subst h; rw [upd_same] at e ⊢; exact e
    · rw [upd_ne h] at e ⊢; exact r.fz _ _ e
  · rw [upd_ne (fun z => by subst z; rw [hp] at q; cases q)]; exact q
  · have hap : a ≠ p := fun z => hm (by subst z; exact List.mem_of_getElem? e1)
    rw [upd_ne hap]; exact r.apart k a x e1 e2 e3
theorem Rel.owned (r : Rel K mg Z Fz ρ st H) {p : Addr} (hp : H p = none) {o : HO} {c : Cell} (hl : c.live = true) (hc : CellOk K mg Fz (ρ ++ [p]) (upd H p o) p c) :
    Rel K mg Z Fz (ρ ++ [p]) (st ++ [c]) (upd H p o) ∧ Ext Fz ρ Fz (ρ ++ [p]) := by
  obtain ⟨hf, hm⟩ := r.free hp
  have ex : Ext Fz ρ Fz (ρ ++ [p]) := ⟨fun a u e => e, List.prefix_append _ _⟩
  have split : ∀ (k : Nat) (a : Addr) (x : Cell), (ρ ++ [p])[k]? = some a → (st ++ [c])[k]? = some x → (ρ[k]? = some a ∧ st[k]? = some x) ∨ (a = p ∧ x = c) := fun k a x e1 e2 => by
    by_cases h : k < ρ.length
    · rw [List.getElem?_append_left h] at e1
      rw [List.getElem?_append_left (by rw [← r.len]; exact h)] at e2
      exact .inl ⟨e1, e2⟩
    · have hk : k = ρ.length := by
        have := (List.getElem?_eq_some_iff.mp e1).1
        simp at this; omega
      subst hk
      rw [List.getElem?_append_right (Nat.le_refl _)] at e1
      rw [List.getElem?_append_right (by rw [r.len]; exact Nat.le_refl _), r.len] at e2
      simp at e1 e2
      exact .inr ⟨e1.symm, e2.symm⟩
  refine ⟨⟨fun a u e => ?_, fun a u e => ?_, by simp [r.len], fun k a x e1 e2 => ?_, fun k a x e1 e2 e3 => ?_, ?_⟩, ex⟩
  · obtain ⟨z1, z2, z3⟩ := r.zf a u e
    have hap : a ≠ p := fun z => by subst z; rw [hp] at z1; cases z1
    exact ⟨by rw [upd_ne hap]; exact z1, z2, fun h => by
      rcases List.mem_append.mp h with h | h
      · exact z3 h
      · exact hap (by simpa using h)⟩
  · rw [upd_ne (fun z => by subst z; rw [hf] at e; cases e)]; exact r.fz _ _ e
  · rcases split k a x e1 e2 with ⟨q1, q2⟩ | ⟨rfl, rfl⟩
    · have hap : a ≠ p := fun z => hm (by subst z; exact List.mem_of_getElem? q1)
      exact (r.cell k a x q1 q2).mono ex fun u q => by rw [upd_ne hap]; exact q
    · exact hc
  · rcases split k a x e1 e2 with ⟨q1, q2⟩ | ⟨rfl, rfl⟩
    · exact r.apart k a x q1 q2 e3
    · exact hf
  · rw [List.nodup_append]
    exact ⟨r.nd, by simp, fun a ha b hb => by simp at hb; subst hb; exact fun z => hm (by rw [← z]; exact ha)⟩
theorem Rel.write (r : Rel K mg Z Fz ρ st H) {k : Nat} {a : Addr} {c0 c : Cell} {o : HO} (e : ρ[k]? = some a) (e0 : st[k]? = some c0) (h0 : c0.live = true) (hl : c.live = true) (hc : CellOk K mg Fz ρ (upd H a o) a c) :
    Rel K mg Z Fz ρ (st.set k c) (upd H a o) := by
  have hf := r.apart k a c0 e e0 h0
  have hk : k < st.length := (List.getElem?_eq_some_iff.mp e0).1
  have diff : ∀ (j : Nat) (b : Addr), ρ[j]? = some b → j ≠ k → b ≠ a := fun j b ej hjk z => by
    subst z
    exact hjk (nodup_ix r.nd ej e)
  refine ⟨fun b u q => ?_, fun b u q => ?_, by simp [r.len], fun j b x e1 e2 => ?_, fun j b x e1 e2 e3 => ?_, r.nd⟩
  · obtain ⟨z1, z2, z3⟩ := r.zf b u q
    have hba : b ≠ a := fun z => z3 (by rw [z]; exact List.mem_of_getElem? e)
    exact ⟨by rw [upd_ne hba]; exact z1, z2, z3⟩
  · rw [upd_ne (fun z => by subst z; rw [hf] at q; cases q)]; exact r.fz _ _ q
  · by_cases hj : j = k
    · subst hj
      rw [List.getElem?_set_self hk] at e2
      rw [e] at e1; cases e1; cases e2
      exact hc
    · rw [List.getElem?_set_ne (fun z => hj z.symm)] at e2
      exact (r.cell j b x e1 e2).mono Ext.refl fun u q => by rw [upd_ne (diff j b e1 hj)]; exact q
  · by_cases hj : j = k
    · subst hj
      rw [e] at e1; cases e1
      exact hf
    · rw [List.getElem?_set_ne (fun z => hj z.symm)] at e2
      exact r.apart j b x e1 e2 e3
theorem Rel.freeze (r : Rel K mg Z Fz ρ st H) {k : Nat} {a : Addr} {xs : List PV} (e : ρ[k]? = some a) (e0 : st[k]? = some (.lst xs)) :
    ∃ vs, H a = some (.lst vs) ∧ RepL K mg Fz ρ xs vs ∧ xs.length ≤ sizeLine ∧ Rel K mg Z (upd Fz a (.lst vs)) ρ (st.set k (.frz xs)) H ∧ Ext Fz ρ (upd Fz a (.lst vs)) ρ := by
  obtain ⟨vs, h1, h2, h3⟩ := r.cell k a _ e e0
  have hf := r.apart k a _ e e0 rfl
  have hk : k < st.length := (List.getElem?_eq_some_iff.mp e0).1
  have ex : Ext Fz ρ (upd Fz a (.lst vs)) ρ := ⟨fun b u q => by rw [upd_ne (fun z => by subst z; rw [hf] at q; cases q)]; exact q, List.prefix_refl _⟩
  refine ⟨vs, h1, h3, h2, ⟨fun b u q => ?_, fun b u q => ?_, by simp [r.len], fun j b x e1 e2 => ?_, fun j b x e1 e2 e3 => ?_, r.nd⟩, ex⟩
  · obtain ⟨z1, z2, z3⟩ := r.zf b u q
    have hba : b ≠ a := fun z => z3 (by rw [z]; exact List.mem_of_getElem? e)
    exact ⟨z1, by rw [upd_ne hba]; exact z2, z3⟩
  · by_cases hb : b = a
    · subst hb; rw [upd_same] at q; cases q; exact h1
    · rw [upd_ne hb] at q; exact r.fz _ _ q
  · by_cases hj : j = k
    · subst hj
      rw [List.getElem?_set_self hk] at e2
      rw [e] at e1; cases e1; cases e2
      exact ⟨vs, upd_same, h2, h3.mono ex⟩
    · rw [List.getElem?_set_ne (fun z => hj z.symm)] at e2
      exact (r.cell j b x e1 e2).mono ex fun u q => q
  · by_cases hj : j = k
    · subst hj
      rw [List.getElem?_set_self hk] at e2
      cases e2; cases e3
    · rw [List.getElem?_set_ne (fun z => hj z.symm)] at e2
      have hba : b ≠ a := fun z => by
        subst z
        exact hj (nodup_ix r.nd e1 e)
      rw [upd_ne hba]; exact r.apart j b x e1 e2 e3
end
end
end Lq
end
section
set_option Elab.async false
set_option linter.all false
set_option maxRecDepth 10000
namespace Lq
open PySem PySem.Spec PyProof.Rows L2
section
variable (K : PySem.W.Frag) (mg : Str → Option Value)
def Out {α : Type} (Z : Hp) (E : XK) (Fz : Hp) (ρ : List Addr) (r : R α) (P : α → Store → Hp → List Addr → Hp → Prop) : Prop := match r with
  | .ok a st => ∀ Fz' ρ' H', Ext Fz ρ Fz' ρ' → Rel K mg Z Fz' ρ' st H' → P a st Fz' ρ' H'
  | .ex c st => ∀ Fz' ρ' H', Ext Fz ρ Fz' ρ' → Rel K mg Z Fz' ρ' st H' → ∃ C, mg c = some (.ref C) ∧ E (.ref C) none H'
  | .no => False
end
section
variable {K : PySem.W.Frag} {mg : Str → Option Value} {Z : Hp} {E : XK} {Fz : Hp} {ρ : List Addr}
theorem Out.mono {α : Type} {r : R α} {P P' : α → Store → Hp → List Addr → Hp → Prop} (h : Out K mg Z E Fz ρ r P)
    (f : ∀ a st Fz' ρ' H', r = .ok a st → Ext Fz ρ Fz' ρ' → Rel K mg Z Fz' ρ' st H' → P a st Fz' ρ' H' → P' a st Fz' ρ' H') : Out K mg Z E Fz ρ r P' := by
  cases r with
  | ok a st => exact fun F' r' H' e q => f a st F' r' H' rfl e q (h F' r' H' e q)
  | ex c st => exact h
  | no => exact h
theorem Out.on {α : Type} {r : R α} {P : α → Store → Hp → List Addr → Hp → Prop} {Fz' : Hp} {ρ' : List Addr} (h : Out K mg Z E Fz ρ r P) (e : Ext Fz ρ Fz' ρ') : Out K mg Z E Fz' ρ' r P := by
  cases r with
  | ok a st => exact fun F2 r2 H' e2 q => h F2 r2 H' (e.trans e2) q
  | ex c st => exact fun F2 r2 H' e2 q => h F2 r2 H' (e.trans e2) q
  | no => exact h
theorem Out.seq {α β : Type} {r : R α} {k : α → Store → R β} {P : β → Store → Hp → List Addr → Hp → Prop} (h : Out K mg Z E Fz ρ (r.bind k) P) :
    Out K mg Z E Fz ρ r (fun a st Fz' ρ' H' => Out K mg Z E Fz' ρ' (k a st) P) := by
  cases r with
  | ok a st => exact fun F' r' H' e q => Out.on (K := K) (mg := mg) h e
  | ex c st => exact h
  | no => exact h
theorem Out.here {α : Type} {a : α} {st : Store} {P : α → Store → Hp → List Addr → Hp → Prop} {H : Hp} (h : Out K mg Z E Fz ρ (.ok a st) P) (r : Rel K mg Z Fz ρ st H) : P a st Fz ρ H := h Fz ρ H Ext.refl r
end
section
variable (K : PySem.W.Frag) (mg : Str → Option Value) (E : XK)
def SE (t : TE) (f : XE) : Prop := ∀ Z Fz ρ env st σ H Q, Rel K mg Z Fz ρ st H → REnv K mg Fz ρ env σ →
  Out K mg Z E Fz ρ (f env st) (fun v _ Fz' ρ' H' => ∀ v', Rep K mg Fz' ρ' v v' → Q v' H') → t σ H Q
def STt (t : TT) (f : Ev → Store → R Bool) : Prop := ∀ Z Fz ρ env st σ H Q, Rel K mg Z Fz ρ st H → REnv K mg Fz ρ env σ →
  Out K mg Z E Fz ρ (f env st) (fun b _ _ _ H' => Q b H') → t σ H Q
def SA (t : TA) (f : XL) : Prop := ∀ Z Fz ρ env st σ H Q, Rel K mg Z Fz ρ st H → REnv K mg Fz ρ env σ →
  Out K mg Z E Fz ρ (f env st) (fun vs _ Fz' ρ' H' => ∀ vs', RepL K mg Fz' ρ' vs vs' → Q vs' H') → t σ H Q
def SF (t : TE) (f : XL) : Prop := ∀ Z Fz ρ env st σ H Q, Rel K mg Z Fz ρ st H → REnv K mg Fz ρ env σ →
  Out K mg Z E Fz ρ (f env st) (fun xs _ Fz' ρ' H' => ∀ p vs, H' p = none → xs.length ≤ sizeLine → RepL K mg Fz' ρ' xs vs → Q (.ref p) (upd H' p (.lst vs))) → t σ H Q
def FlP (D : Ends) (fl : Fl) (Fz : Hp) (ρ : List Addr) (H : Hp) : Prop := match fl with
  | .nx e => ∀ σ, REnv K mg Fz ρ e σ → D.nx σ H
  | .bk e => ∀ σ, REnv K mg Fz ρ e σ → D.bk σ H
  | .ct e => ∀ σ, REnv K mg Fz ρ e σ → D.ct σ H
  | .rt v => ∀ v', Rep K mg Fz ρ v v' → D.rt v' H
def SS (t : TS) (f : XS) : Prop := ∀ Z Fz ρ env st σ H D, Rel K mg Z Fz ρ st H → REnv K mg Fz ρ env σ →
  Out K mg Z E Fz ρ (f env st) (fun fl _ Fz' ρ' H' => FlP K mg D fl Fz' ρ' H') → t D σ H
end
def JE (X : Cx) (E : XK) (e : Expr) (f : XE) : Prop := ∃ t, PE X e t ∧ SE X.K X.mg E t f
def JT (X : Cx) (E : XK) (e : Expr) (f : Ev → Store → R Bool) : Prop := ∃ t, PT X e t ∧ STt X.K X.mg E t f
def JW (X : Cx) (E : XK) (e : Expr) (f : Ev → Store → R Bool) : Prop := ∃ t, PW X e t ∧ STt X.K X.mg E t f
def JA (X : Cx) (E : XK) (es : List Expr) (f : XL) : Prop := ∃ t, PA X es t ∧ SA X.K X.mg E t f
def JF (X : Cx) (E : XK) (e : Expr) (f : XL) : Prop := ∃ t, PE X e t ∧ SF X.K X.mg E t f
def JS (X : Cx) (E : XK) (st : Stmt) (f : XS) : Prop := ∃ t, PS X st t ∧ SS X.K X.mg E t f
def JSs (X : Cx) (E : XK) (st : List Stmt) (f : XS) : Prop := ∃ t, PSs X st t ∧ SS X.K X.mg E t f
def JOp (X : Cx) (f : Value → Value → Sem Value) (o : PV → PV → Store → Option PV) : Prop := ∃ r : R2, OpR X f r ∧
  ∀ Z Fz ρ st H x y px py pz Q, Rel X.K X.mg Z Fz ρ st H → Rep X.K X.mg Fz ρ px x → Rep X.K X.mg Fz ρ py y → o px py st = some pz →
    (∀ Fz' ρ' H' v', Ext Fz ρ Fz' ρ' → Rel X.K X.mg Z Fz' ρ' st H' → Rep X.K X.mg Fz' ρ' pz v' → Q v' H') → r x y H Q
def eVar (i : Nat) : XE := fun env st => match env[i]? with
  | some (some v) => .ok v st
  | _ => .no
def eC (v : PV) : XE := fun _ st => .ok v st
def eBin (o : PV → PV → Store → Option PV) (a b : XE) : XE := fun env st => (a env st).bind fun x s1 => (b env s1).bind fun y s2 => match o x y s2 with
  | some z => .ok z s2
  | none => .no
def eUn (o : PV → Option PV) (a : XE) : XE := fun env st => (a env st).bind fun x s1 => match o x with
  | some z => .ok z s1
  | none => .no
def aNil : XL := fun _ st => .ok [] st
def aCons (a : XE) (r : XL) : XL := fun env st => (a env st).bind fun x s1 => (r env s1).bind fun xs s2 => .ok (x :: xs) s2
def eTup (a : XL) : XE := fun env st => (a env st).bind fun xs s1 => if xs.length ≤ sizeLine then .ok (.tup xs) s1 else .no
def fDisp (a : XL) : XL := fun env st => (a env st).bind fun xs s1 => if xs.length ≤ sizeLine then .ok xs s1 else .no
def eFz (a : XL) : XE := fun env st => (a env st).bind fun xs s1 => .ok (.lst xs) s1
def eOw (a : XL) : XE := fun env st => (a env st).bind fun xs s1 => .ok (.own s1.length) (s1 ++ [.lst xs])
section
variable {X : Cx} {E : XK} {a b e : Expr} {es : List Expr} {pos : Pos} {fa fb : XE}
theorem je_var (i : Nat) {x : Str} (hN : X.N[i]? = some x := by rfl) (hv : Vis X.env.scope x := by first | exact .inl rfl | exact .inr (.inl rfl) | exact .inr (.inr rfl)) (hd : (x == ("__debug__" : Str)) = false := by decide) (hcd : (x == ("__classdict__" : Str)) = false := by decide) : JE X E (.Name x pos) (eVar i) := by
  refine ⟨tVar i, pe_var hN hv hd hcd, fun Z Fz ρ env st σ H Q r h o => ?_⟩
  unfold eVar at o
  split at o
  · rename_i v ev
    obtain ⟨v', e1, e2⟩ := h.2 i v ev
    exact ⟨v', e1, o.here r v' e2⟩
  · exact o.elim
theorem je_const {v : PV} {v' : V} (hp : PE X e (tC v')) (hr : ∀ Fz ρ, Rep X.K X.mg Fz ρ v v') : JE X E e (eC v) :=
  ⟨_, hp, fun Z Fz ρ env st σ H Q r h o => o.here r v' (hr Fz ρ)⟩
theorem je_int {i : Int} {j pos} : JE X E (.Constant (.int i) j pos) (eC (.int i)) := je_const pe_int fun _ _ => by rw [Rep]
theorem je_str {x : Str} {j pos} : JE X E (.Constant (.str x) j pos) (eC (.str x)) := je_const pe_str fun _ _ => by rw [Rep]
theorem je_bl {b : Bool} {j pos} : JE X E (.Constant (.bool b) j pos) (eC (.bl b)) := je_const pe_bl fun _ _ => by rw [Rep]
theorem je_non {j pos} : JE X E (.Constant .none j pos) (eC .non) := je_const pe_non fun _ _ => by rw [Rep]
theorem je_bin {op : Operator} {o} (h : JOp X (binaryOp op) o) (ha : JE X E a fa) (hb : JE X E b fb) : JE X E (.BinOp a op b pos) (eBin o fa fb) := by
  obtain ⟨r, hr, sr⟩ := h
  obtain ⟨ta, pa, sa⟩ := ha
  obtain ⟨tb, pb, sb⟩ := hb
  refine ⟨tOp r ta tb, pe_op hr pa pb, fun Z Fz ρ env st σ H Q rl h o => ?_⟩
  refine sa Z Fz ρ env st σ H _ rl h (o.seq.mono fun x s1 F1 r1 H1 _ ex1 rl1 o1 x' rx => ?_)
  refine sb Z F1 r1 env s1 σ H1 _ rl1 (h.mono ex1) (o1.seq.mono fun y s2 F2 r2 H2 _ ex2 rl2 o2 y' ry => ?_)
  split at o2
  · rename_i z ez
    exact sr Z F2 r2 s2 H2 x' y' x y z Q rl2 (rx.mono ex2) ry ez fun F3 r3 H3 v' ex3 rl3 rz => o2 F3 r3 H3 ex3 rl3 v' rz
  · exact o2.elim
theorem sbin {r : R2} {ta tb : TE} {o} (sr : ∀ Z Fz ρ st H x y px py pz Q, Rel X.K X.mg Z Fz ρ st H → Rep X.K X.mg Fz ρ px x → Rep X.K X.mg Fz ρ py y → o px py st = some pz →
    (∀ Fz' ρ' H' v', Ext Fz ρ Fz' ρ' → Rel X.K X.mg Z Fz' ρ' st H' → Rep X.K X.mg Fz' ρ' pz v' → Q v' H') → r x y H Q) (sa : SE X.K X.mg E ta fa) (sb : SE X.K X.mg E tb fb) : SE X.K X.mg E (tOp r ta tb) (eBin o fa fb) := fun Z Fz ρ env st σ H Q rl h o => by
  refine sa Z Fz ρ env st σ H _ rl h (o.seq.mono fun x s1 F1 r1 H1 _ ex1 rl1 o1 x' rx => ?_)
  refine sb Z F1 r1 env s1 σ H1 _ rl1 (h.mono ex1) (o1.seq.mono fun y s2 F2 r2 H2 _ ex2 rl2 o2 y' ry => ?_)
  split at o2
  · rename_i z ez
    exact sr Z F2 r2 s2 H2 x' y' x y z Q rl2 (rx.mono ex2) ry ez fun F3 r3 H3 v' ex3 rl3 rz => o2 F3 r3 H3 ex3 rl3 v' rz
  · exact o2.elim
theorem je_cmp {op : CmpOp} {o} (h : JOp X (compareOp op) o) (ha : JE X E a fa) (hb : JE X E b fb) (hm : behindInMarks op b = false := by rfl) : JE X E (.Compare a [op] [b] pos) (eBin o fa fb) := by
  obtain ⟨r, hr, sr⟩ := h
  obtain ⟨ta, pa, sa⟩ := ha
  obtain ⟨tb, pb, sb⟩ := hb
  exact ⟨tOp r ta tb, pe_cmpR hr pa pb hm, sbin sr sa sb⟩
def toB (r : R PV) : R Bool := r.bind fun v s => match v with
  | .bl b => .ok b s
  | _ => .no
def tE (f : XE) : Ev → Store → R Bool := fun env st => toB (f env st)
def tAndF (a b : Ev → Store → R Bool) : Ev → Store → R Bool := fun env st => (a env st).bind fun c s => if c = true then b env s else .ok false s
def tOrF (a b : Ev → Store → R Bool) : Ev → Store → R Bool := fun env st => (a env st).bind fun c s => if c = true then .ok true s else b env s
def tNotF (a : Ev → Store → R Bool) : Ev → Store → R Bool := fun env st => (a env st).bind fun c s => .ok (!c) s
def eB (t : Ev → Store → R Bool) : XE := fun env st => (t env st).bind fun c s => .ok (.bl c) s
def eIf (c : Ev → Store → R Bool) (a b : XE) : XE := fun env st => (c env st).bind fun k s => if k = true then a env s else b env s
theorem st_tE {t : TE} {f : XE} (h : SE X.K X.mg E t f) : STt X.K X.mg E (fun σ H Q => t σ H fun x H1 => ∃ c, x = .bl c ∧ Q c H1) (tE f) := fun Z Fz ρ env st σ H Q rl hh o => by
  refine h Z Fz ρ env st σ H _ rl hh (o.seq.mono fun x s1 F1 r1 H1 _ ex1 rl1 o1 x' rx => ?_)
  split at o1
  · rw [Rep] at rx; exact ⟨_, rx, o1.here rl1⟩
  · exact o1.elim
theorem jt_cmp {op : CmpOp} {o} (h : JOp X (compareOp op) o) (ha : JE X E a fa) (hb : JE X E b fb) (hm : behindInMarks op b = false := by rfl) : JT X E (.Compare a [op] [b] pos) (tE (eBin o fa fb)) := by
  obtain ⟨r, hr, sr⟩ := h
  obtain ⟨ta, pa, sa⟩ := ha
  obtain ⟨tb, pb, sb⟩ := hb
  exact ⟨_, pt_cmpR hr pa pb hm, st_tE (sbin sr sa sb)⟩
theorem jt_val (h : JE X E e fa) (he : ∀ whole, isTrue e X.env whole = (do let v ← whole; standAt e.pos; holding [v] (truthy v)) := by intro _; rfl) : JT X E e (tE fa) := by
  obtain ⟨t, p, s⟩ := h
  exact ⟨_, pt_val p he, st_tE s⟩
theorem jt_not {f} (h : JT X E a f) : JT X E (.UnaryOp .Not a pos) (tNotF f) := by
  obtain ⟨t, p, s⟩ := h
  exact ⟨_, pt_not p, fun Z Fz ρ env st σ H Q rl hh o => s Z Fz ρ env st σ H _ rl hh (o.seq.mono fun c s1 F1 r1 H1 _ ex1 rl1 o1 => o1.here rl1)⟩
theorem st_and {ta tb : TT} {f g} (ha : STt X.K X.mg E ta f) (hb : STt X.K X.mg E tb g) : STt X.K X.mg E (tAnd ta tb) (tAndF f g) := fun Z Fz ρ env st σ H Q rl hh o => by
  refine ha Z Fz ρ env st σ H _ rl hh (o.seq.mono fun c s1 F1 r1 H1 _ ex1 rl1 o1 => ?_)
  cases c with
  | true => exact hb Z F1 r1 env s1 σ H1 _ rl1 (hh.mono ex1) o1
  | false => exact o1.here rl1
theorem st_or {ta tb : TT} {f g} (ha : STt X.K X.mg E ta f) (hb : STt X.K X.mg E tb g) : STt X.K X.mg E (tOr ta tb) (tOrF f g) := fun Z Fz ρ env st σ H Q rl hh o => by
  refine ha Z Fz ρ env st σ H _ rl hh (o.seq.mono fun c s1 F1 r1 H1 _ ex1 rl1 o1 => ?_)
  cases c with
  | false => exact hb Z F1 r1 env s1 σ H1 _ rl1 (hh.mono ex1) o1
  | true => exact o1.here rl1
theorem jw_and1 {f} (h : JT X E a f) : JW X E (.BoolOp .And [a] pos) f := let ⟨t, p, s⟩ := h; ⟨t, pw_and1 p, s⟩
theorem jw_or1 {f} (h : JT X E a f) : JW X E (.BoolOp .Or [a] pos) f := let ⟨t, p, s⟩ := h; ⟨t, pw_or1 p, s⟩
theorem jw_and {rest : List Expr} {f g} (h : JT X E a f) (h' : JW X E (.BoolOp .And (b :: rest) pos) g) : JW X E (.BoolOp .And (a :: b :: rest) pos) (tAndF f g) := by
  obtain ⟨t, p, s⟩ := h
  obtain ⟨t', p', s'⟩ := h'
  exact ⟨_, pw_and p p', st_and s s'⟩
theorem jw_or {rest : List Expr} {f g} (h : JT X E a f) (h' : JW X E (.BoolOp .Or (b :: rest) pos) g) : JW X E (.BoolOp .Or (a :: b :: rest) pos) (tOrF f g) := by
  obtain ⟨t, p, s⟩ := h
  obtain ⟨t', p', s'⟩ := h'
  exact ⟨_, pw_or p p', st_or s s'⟩
theorem JW.jt {f} (h : JW X E e f) : JT X E e f := let ⟨t, p, s⟩ := h; ⟨t, p.pt, s⟩
theorem je_one {op : BoolOp} {f} (h : JE X E a f) : JE X E (.BoolOp op [a] pos) f := let ⟨t, p, s⟩ := h; ⟨t, pe_one p, s⟩
def eAnd (a b : XE) : XE := fun env st => (a env st).bind fun v s => match v with
  | .bl true => b env s
  | .bl false => .ok (.bl false) s
  | _ => .no
def eOr (a b : XE) : XE := fun env st => (a env st).bind fun v s => match v with
  | .bl true => .ok (.bl true) s
  | .bl false => b env s
  | _ => .no
def eNot (a : XE) : XE := fun env st => (a env st).bind fun v s => match v with
  | .bl b => .ok (.bl (!b)) s
  | _ => .no
theorem je_and {rest : List Expr} (h : JE X E a fa) (h' : JE X E (.BoolOp .And (b :: rest) pos) fb) : JE X E (.BoolOp .And (a :: b :: rest) pos) (eAnd fa fb) := by
  obtain ⟨t, p, s⟩ := h
  obtain ⟨t', p', s'⟩ := h'
  refine ⟨_, pe_and p p', fun Z Fz ρ env st σ H Q rl hh o => ?_⟩
  refine s Z Fz ρ env st σ H _ rl hh (o.seq.mono fun c s1 F1 r1 H1 _ ex1 rl1 o1 x' rx => ?_)
  split at o1
  · rw [Rep] at rx; exact ⟨true, rx, s' Z F1 r1 env s1 σ H1 _ rl1 (hh.mono ex1) o1⟩
  · rw [Rep] at rx; exact ⟨false, rx, o1.here rl1 _ (by rw [Rep])⟩
  · exact o1.elim
theorem je_or {rest : List Expr} (h : JE X E a fa) (h' : JE X E (.BoolOp .Or (b :: rest) pos) fb) : JE X E (.BoolOp .Or (a :: b :: rest) pos) (eOr fa fb) := by
  obtain ⟨t, p, s⟩ := h
  obtain ⟨t', p', s'⟩ := h'
  refine ⟨_, pe_or p p', fun Z Fz ρ env st σ H Q rl hh o => ?_⟩
  refine s Z Fz ρ env st σ H _ rl hh (o.seq.mono fun c s1 F1 r1 H1 _ ex1 rl1 o1 x' rx => ?_)
  split at o1
  · rw [Rep] at rx; exact ⟨true, rx, o1.here rl1 _ (by rw [Rep])⟩
  · rw [Rep] at rx; exact ⟨false, rx, s' Z F1 r1 env s1 σ H1 _ rl1 (hh.mono ex1) o1⟩
  · exact o1.elim
theorem je_not (h : JE X E a fa) : JE X E (.UnaryOp .Not a pos) (eNot fa) := by
  obtain ⟨t, p, s⟩ := h
  refine ⟨_, pe_not p, fun Z Fz ρ env st σ H Q rl hh o => ?_⟩
  refine s Z Fz ρ env st σ H _ rl hh (o.seq.mono fun c s1 F1 r1 H1 _ ex1 rl1 o1 x' rx => ?_)
  split at o1
  · rw [Rep] at rx; exact ⟨_, rx, o1.here rl1 _ (by rw [Rep])⟩
  · exact o1.elim
theorem je_ifExp {c : Expr} {fc} (hc : JT X E c fc) (ha : JE X E a fa) (hb : JE X E b fb) : JE X E (.IfExp c a b pos) (eIf fc fa fb) := by
  obtain ⟨t, p, s⟩ := hc
  obtain ⟨ta, pa, sa⟩ := ha
  obtain ⟨tb, pb, sb⟩ := hb
  refine ⟨_, pe_ifExp p pa pb, fun Z Fz ρ env st σ H Q rl hh o => ?_⟩
  refine s Z Fz ρ env st σ H _ rl hh (o.seq.mono fun c s1 F1 r1 H1 _ ex1 rl1 o1 => ?_)
  cases c with
  | true => exact sa Z F1 r1 env s1 σ H1 _ rl1 (hh.mono ex1) o1
  | false => exact sb Z F1 r1 env s1 σ H1 _ rl1 (hh.mono ex1) o1
def eChain (o o' : PV → PV → Store → Option PV) (a b c : XE) : XE := fun env st => (a env st).bind fun x s1 => (b env s1).bind fun y s2 => match o x y s2 with
  | some (.bl true) => (c env s2).bind fun z s3 => (match o' y z s3 with
    | some w => .ok w s3
    | none => .no)
  | some (.bl false) => .ok (.bl false) s2
  | _ => .no
theorem schain {r r' : R2} {ta tb tc : TE} {fc : XE} {o o'} (sr : ∀ Z Fz ρ st H x y px py pz Q, Rel X.K X.mg Z Fz ρ st H → Rep X.K X.mg Fz ρ px x → Rep X.K X.mg Fz ρ py y → o px py st = some pz →
    (∀ Fz' ρ' H' v', Ext Fz ρ Fz' ρ' → Rel X.K X.mg Z Fz' ρ' st H' → Rep X.K X.mg Fz' ρ' pz v' → Q v' H') → r x y H Q)
    (sr' : ∀ Z Fz ρ st H x y px py pz Q, Rel X.K X.mg Z Fz ρ st H → Rep X.K X.mg Fz ρ px x → Rep X.K X.mg Fz ρ py y → o' px py st = some pz →
    (∀ Fz' ρ' H' v', Ext Fz ρ Fz' ρ' → Rel X.K X.mg Z Fz' ρ' st H' → Rep X.K X.mg Fz' ρ' pz v' → Q v' H') → r' x y H Q)
    (sa : SE X.K X.mg E ta fa) (sb : SE X.K X.mg E tb fb) (sc : SE X.K X.mg E tc fc) : SE X.K X.mg E (tChain r r' ta tb tc) (eChain o o' fa fb fc) := fun Z Fz ρ env st σ H Q rl h o => by
  refine sa Z Fz ρ env st σ H _ rl h (o.seq.mono fun x s1 F1 r1 H1 _ ex1 rl1 o1 x' rx => ?_)
  refine sb Z F1 r1 env s1 σ H1 _ rl1 (h.mono ex1) (o1.seq.mono fun y s2 F2 r2 H2 _ ex2 rl2 o2 y' ry => ?_)
  split at o2
  · rename_i ez
    refine sr Z F2 r2 s2 H2 x' y' x y _ _ rl2 (rx.mono ex2) ry ez fun F3 r3 H3 v' ex3 rl3 rz => ?_
    rw [Rep] at rz
    refine ⟨true, rz, ?_⟩
    rw [if_pos rfl]
    refine sc Z F3 r3 env s2 σ H3 _ rl3 ((h.mono ex1).mono (ex2.trans ex3)) ((o2.seq.on ex3).mono fun z s3 F4 r4 H4 _ ex4 rl4 o3 z' rz' => ?_)
    split at o3
    · rename_i w ew
      exact sr' Z F4 r4 s3 H4 y' z' y z w Q rl4 (ry.mono (ex3.trans ex4)) rz' ew fun F5 r5 H5 v'' ex5 rl5 rw' => o3 F5 r5 H5 ex5 rl5 v'' rw'
    · exact o3.elim
  · rename_i ez
    refine sr Z F2 r2 s2 H2 x' y' x y _ _ rl2 (rx.mono ex2) ry ez fun F3 r3 H3 v' ex3 rl3 rz => ?_
    rw [Rep] at rz
    refine ⟨false, rz, ?_⟩
    rw [if_neg Bool.false_ne_true]
    exact o2 F3 r3 H3 ex3 rl3 _ (by rw [Rep])
  · exact o2.elim
theorem je_chain {op op' : CmpOp} {o o'} {c : Expr} {fc : XE} (h : JOp X (compareOp op) o) (h' : JOp X (compareOp op') o') (ha : JE X E a fa) (hb : JE X E b fb) (hc : JE X E c fc) (hm : lastMarks [op, op'] [b, c] = false := by first | rfl | with_unfolding_all rfl) :
    JE X E (.Compare a [op, op'] [b, c] pos) (eChain o o' fa fb fc) := by
  obtain ⟨r, hr, sr⟩ := h
  obtain ⟨r', hr', sr'⟩ := h'
  obtain ⟨ta, pa, sa⟩ := ha
  obtain ⟨tb, pb, sb⟩ := hb
  obtain ⟨tc, pc, sc⟩ := hc
  exact ⟨tChain r r' ta tb tc, pe_chain hr hr' pa pb pc (hm := hm), schain sr sr' sa sb sc⟩
theorem jt_chain {op op' : CmpOp} {o o'} {c : Expr} {fc : XE} (h : JOp X (compareOp op) o) (h' : JOp X (compareOp op') o') (ha : JE X E a fa) (hb : JE X E b fb) (hc : JE X E c fc) (hm : lastMarks [op, op'] [b, c] = false := by first | rfl | with_unfolding_all rfl) :
    JT X E (.Compare a [op, op'] [b, c] pos) (tE (eChain o o' fa fb fc)) := by
  obtain ⟨r, hr, sr⟩ := h
  obtain ⟨r', hr', sr'⟩ := h'
  obtain ⟨ta, pa, sa⟩ := ha
  obtain ⟨tb, pb, sb⟩ := hb
  obtain ⟨tc, pc, sc⟩ := hc
  exact ⟨_, pt_chain hr hr' pa pb pc (hm := hm), st_tE (schain sr sr' sa sb sc)⟩
theorem ja_nil : JA X E [] aNil := ⟨_, pa_nil, fun Z Fz ρ env st σ H Q rl hh o => o.here rl _ RepL.nil⟩
theorem ja_cons {fr : XL} (h : JE X E e fa) (h' : JA X E es fr) (hs : starEach (e :: es) X.env = (false, eval e X.env) :: starEach es X.env := by rfl) : JA X E (e :: es) (aCons fa fr) := by
  obtain ⟨t, p, s⟩ := h
  obtain ⟨t', p', s'⟩ := h'
  refine ⟨_, pa_cons p p' hs, fun Z Fz ρ env st σ H Q rl hh o => ?_⟩
  refine s Z Fz ρ env st σ H _ rl hh (o.seq.mono fun x s1 F1 r1 H1 _ ex1 rl1 o1 x' rx => ?_)
  refine s' Z F1 r1 env s1 σ H1 _ rl1 (hh.mono ex1) (o1.seq.mono fun xs s2 F2 r2 H2 _ ex2 rl2 o2 xs' rxs => ?_)
  exact o2.here rl2 _ (RepL.cons (rx.mono ex2) rxs)
theorem je_tup {f : XL} {x1} (h : JA X E es f) : JE X E (.Tuple es x1 pos) (eTup f) := by
  obtain ⟨t, p, s⟩ := h
  refine ⟨_, pe_tup p, fun Z Fz ρ env st σ H Q rl hh o => ?_⟩
  refine s Z Fz ρ env st σ H _ rl hh (o.seq.mono fun xs s1 F1 r1 H1 _ ex1 rl1 o1 xs' rx => ?_)
  split at o1
  · rename_i hl
    refine ⟨by rw [← rx.len]; exact hl, fun p hp => ?_⟩
    obtain ⟨rl2, ex2⟩ := rl1.frozen hp (.tup xs')
    exact o1 _ _ _ ex2 rl2 _ (by rw [Rep]; exact ⟨p, xs', rfl, SqT.of upd_same, hl, rx.mono ex2⟩)
  · exact o1.elim
theorem jf_lst {f : XL} (h : JA X E es f) : JF X E (.List es pos) (fDisp f) := by
  obtain ⟨t, p, s⟩ := h
  refine ⟨_, pe_lst p, fun Z Fz ρ env st σ H Q rl hh o => ?_⟩
  refine s Z Fz ρ env st σ H _ rl hh (o.seq.mono fun xs s1 F1 r1 H1 _ ex1 rl1 o1 xs' rx => ?_)
  split at o1
  · rename_i hl
    exact ⟨by rw [← rx.len]; exact hl, fun p hp => o1.here rl1 p xs' hp hl rx⟩
  · exact o1.elim
theorem je_fz {f : XL} (h : JF X E e f) : JE X E e (eFz f) := by
  obtain ⟨t, p, s⟩ := h
  refine ⟨t, p, fun Z Fz ρ env st σ H Q rl hh o => s Z Fz ρ env st σ H Q rl hh (o.seq.mono fun xs s1 F1 r1 H1 _ ex1 rl1 o1 p vs hp hl rv => ?_)⟩
  obtain ⟨rl2, ex2⟩ := rl1.frozen hp (.lst vs)
  exact o1 _ _ _ ex2 rl2 _ (by rw [Rep]; exact ⟨p, vs, rfl, upd_same, hl, rv.mono ex2⟩)
theorem je_ow {f : XL} (h : JF X E e f) : JE X E e (eOw f) := by
  obtain ⟨t, p, s⟩ := h
  refine ⟨t, p, fun Z Fz ρ env st σ H Q rl hh o => s Z Fz ρ env st σ H Q rl hh (o.seq.mono fun xs s1 F1 r1 H1 _ ex1 rl1 o1 p vs hp hl rv => ?_)⟩
  have ex0 : Ext F1 r1 F1 (r1 ++ [p]) := ⟨fun _ _ h => h, List.prefix_append _ _⟩
  obtain ⟨rl2, ex2⟩ := rl1.owned hp (o := .lst vs) (c := .lst xs) rfl ⟨vs, upd_same, hl, rv.mono ex0⟩
  exact o1 _ _ _ ex2 rl2 _ (by rw [Rep]; exact ⟨p, by rw [← rl1.len]; simp, rfl⟩)
end
end Lq
end
section
set_option Elab.async false
set_option linter.all false
set_option maxRecDepth 10000
namespace Lq
open PySem PySem.Spec PyProof.Rows L2
def asL (st : Store) : PV → Option (List PV)
  | .lst xs => some xs
  | .scr ns => some (ns.map PV.int)
  | .own k => (match st[k]? with
    | some (.lst xs) => some xs
    | some (.frz xs) => some xs
    | _ => none)
  | _ => none
def asM (st : Store) : PV → Option (List PV)
  | .lst xs => some xs
  | .own k => (match st[k]? with
    | some (.lst xs) => some xs
    | some (.frz xs) => some xs
    | _ => none)
  | _ => none
section
variable {K : PySem.W.Frag} {mg : Str → Option Value} {Z Fz : Hp} {ρ : List Addr} {st : Store} {H : Hp} {p : PV} {v : V} {xs : List PV}
theorem asM_ok (r : Rel K mg Z Fz ρ st H) (h : Rep K mg Fz ρ p v) (e : asM st p = some xs) : ∃ a vs, v = .ref a ∧ H a = some (.lst vs) ∧ xs.length ≤ sizeLine ∧ RepL K mg Fz ρ xs vs := by
  unfold asM at e
  split at e
  · cases e
    rw [Rep] at h
    obtain ⟨a, vs, h1, h2, h3, h4⟩ := h
    exact ⟨a, vs, h1, r.fz _ _ h2, h3, h4⟩
  · rename_i k
    rw [Rep] at h
    obtain ⟨a, h1, h2⟩ := h
    split at e
    · rename_i ys ek
      cases e
      obtain ⟨vs, q1, q2, q3⟩ := r.cell k a _ h1 ek
      exact ⟨a, vs, h2, q1, q2, q3⟩
    · rename_i ys ek
      cases e
      obtain ⟨vs, q1, q2, q3⟩ := r.cell k a _ h1 ek
      exact ⟨a, vs, h2, r.fz _ _ q1, q2, q3⟩
    · cases e
  · cases e
theorem asL_ok (r : Rel K mg Z Fz ρ st H) (h : Rep K mg Fz ρ p v) (e : asL st p = some xs) : ∃ a vs, v = .ref a ∧ SqL K H a vs ∧ xs.length ≤ sizeLine ∧ RepL K mg Fz ρ xs vs := by
  cases p with
  | scr ns =>
    cases e
    rw [Rep] at h
    obtain ⟨a, h1, h2, h3⟩ := h
    exact ⟨a, _, h1, sqL_mono r.fz h2, by simpa using h3, RepL.ints ns⟩
  | lst ys =>
    obtain ⟨a, vs, h1, h2, h3, h4⟩ := asM_ok r h (show asM st (.lst ys) = some xs from e)
    exact ⟨a, vs, h1, SqL.of h2, h3, h4⟩
  | own k =>
    obtain ⟨a, vs, h1, h2, h3, h4⟩ := asM_ok r h (show asM st (.own k) = some xs from e)
    exact ⟨a, vs, h1, SqL.of h2, h3, h4⟩
  | _ => cases e
theorem tup_ok (r : Rel K mg Z Fz ρ st H) (h : Rep K mg Fz ρ (.tup xs) v) : ∃ a vs, v = .ref a ∧ SqT K H a vs ∧ xs.length ≤ sizeLine ∧ RepL K mg Fz ρ xs vs := by
  rw [Rep] at h
  obtain ⟨a, vs, h1, h2, h3, h4⟩ := h
  exact ⟨a, vs, h1, sqT_mono r.fz h2, h3, h4⟩
end
def oOr (o o' : PV → PV → Store → Option PV) : PV → PV → Store → Option PV := fun x y st => match o x y st with
  | some z => some z
  | none => o' x y st
section
variable {X : Cx}
theorem JOp.or {f o o'} (h : JOp X f o) (h' : JOp X f o') : JOp X f (oOr o o') := by
  obtain ⟨r, hr, sr⟩ := h
  obtain ⟨r', hr', sr'⟩ := h'
  refine ⟨_, hr.or hr', fun Z Fz ρ st H x y px py pz Q rl rx ry e q => ?_⟩
  unfold oOr at e
  split at e
  · rename_i z ez
    cases e
    exact .inl (sr Z Fz ρ st H x y px py _ Q rl rx ry ez q)
  · exact .inr (sr' Z Fz ρ st H x y px py _ Q rl rx ry e q)
def oI (g : Int → Int → Option PV) : PV → PV → Store → Option PV
  | .int i, .int j, _ => g i j
  | _, _, _ => none
theorem jo_I {f : Value → Value → Sem Value} {C : Int → Int → Prop} {g : Int → Int → V} {g' : Int → Int → Option PV} (h : OpR X f (rI C g))
    (hg : ∀ i j z, g' i j = some z → C i j ∧ ∀ Fz ρ, Rep X.K X.mg Fz ρ z (g i j)) : JOp X f (oI g') := by
  refine ⟨_, h, fun Z Fz ρ st H x y px py pz Q rl rx ry e q => ?_⟩
  unfold oI at e
  split at e
  · rename_i i j
    rw [Rep] at rx ry
    obtain ⟨c, rz⟩ := hg i j pz e
    exact ⟨i, j, rx, ry, c, q Fz ρ H _ Ext.refl rl (rz Fz ρ)⟩
  · cases e
theorem jo_I0 {f : Value → Value → Sem Value} {g : Int → Int → V} {g' : Int → Int → PV} (h : OpR X f (rI0 g))
    (hg : ∀ i j, ∀ Fz ρ, Rep X.K X.mg Fz ρ (g' i j) (g i j)) : JOp X f (oI fun i j => some (g' i j)) := by
  refine ⟨_, h, fun Z Fz ρ st H x y px py pz Q rl rx ry e q => ?_⟩
  unfold oI at e
  split at e
  · rename_i i j
    cases e
    rw [Rep] at rx ry
    exact ⟨i, j, rx, ry, q Fz ρ H _ Ext.refl rl (hg i j Fz ρ)⟩
  · cases e
def oAddI := oI fun i j => some (.int (i + j))
def oSub := oI fun i j => some (.int (i - j))
def mulOk (i j : Int) : Bool := (decide (-(2 ^ 64) < i) && decide (i < 2 ^ 64)) || ((decide (-(2 ^ 64) < j) && decide (j < 2 ^ 64)) || decide (i.natAbs.log2 + j.natAbs.log2 < 1000000))
def oMulI := oI fun i j => if mulOk i j = true then some (.int (i * j)) else none
def oDiv := oI fun i j => if 0 < j ∧ j.natAbs.log2 < 9000 then some (.int (i / j)) else none
def oMod := oI fun i j => if 0 < j then some (.int (i % j)) else none
def oPow := oI fun i j => if 0 ≤ j ∧ j ≤ 1000000 ∧ i.natAbs < 2 ^ 64 then some (.int (i ^ j.toNat)) else none
def oLtI := oI fun i j => some (.bl (decide (i < j)))
def oLeI := oI fun i j => some (.bl (decide (i ≤ j)))
def oGtI := oI fun i j => some (.bl (decide (j < i)))
def oGeI := oI fun i j => some (.bl (decide (j ≤ i)))
theorem jo_addI : JOp X (binaryOp .Add) oAddI := jo_I0 op_add fun _ _ _ _ => by rw [Rep]
theorem jo_sub : JOp X (binaryOp .Sub) oSub := jo_I0 op_sub fun _ _ _ _ => by rw [Rep]
theorem mulOk_or : OpR X (binaryOp .Mult) (rI (fun i j => mulOk i j = true) fun i j => .int (i * j)) := fun pins s σ H x y v u Q I rx ry h => by
  obtain ⟨i, j, rfl, rfl, c, q⟩ := h
  unfold mulOk at c
  simp only [Bool.or_eq_true, Bool.and_eq_true, decide_eq_true_eq] at c
  rcases c with c | c | c
  · exact op_mul pins s σ H _ _ v u Q I rx ry ⟨i, j, rfl, rfl, .inl c, q⟩
  · exact op_mul pins s σ H _ _ v u Q I rx ry ⟨i, j, rfl, rfl, .inr c, q⟩
  · exact op_mulW pins s σ H _ _ v u Q I rx ry ⟨i, j, rfl, rfl, c, q⟩
theorem jo_mulI : JOp X (binaryOp .Mult) oMulI := jo_I mulOk_or fun i j z e => by
  split at e
  · rename_i c; cases e; exact ⟨c, fun _ _ => by rw [Rep]⟩
  · cases e
theorem jo_div : JOp X (binaryOp .FloorDiv) oDiv := jo_I op_fdivW fun i j z e => by
  split at e
  · rename_i c; cases e; exact ⟨c, fun _ _ => by rw [Rep]⟩
  · cases e
theorem jo_mod : JOp X (binaryOp .Mod) oMod := jo_I op_mod fun i j z e => by
  split at e
  · rename_i c; cases e; exact ⟨c, fun _ _ => by rw [Rep]⟩
  · cases e
theorem jo_pow : JOp X (binaryOp .Pow) oPow := jo_I op_pow fun i j z e => by
  split at e
  · rename_i c; cases e; exact ⟨c, fun _ _ => by rw [Rep]⟩
  · cases e
theorem jo_ltI : JOp X (compareOp .Lt) oLtI := jo_I0 op_lt fun _ _ _ _ => by rw [Rep]
theorem jo_leI : JOp X (compareOp .LtE) oLeI := jo_I0 op_le fun _ _ _ _ => by rw [Rep]
theorem jo_gtI : JOp X (compareOp .Gt) oGtI := jo_I0 op_gt fun _ _ _ _ => by rw [Rep]
theorem jo_geI : JOp X (compareOp .GtE) oGeI := jo_I0 op_ge fun _ _ _ _ => by rw [Rep]
def oAddS : PV → PV → Store → Option PV
  | .str a, .str b, _ => if a.length + b.length ≤ sizeLine then some (.str (a ++ b)) else none
  | _, _, _ => none
theorem jo_addS : JOp X (binaryOp .Add) oAddS := by
  refine ⟨_, op_add_str, fun Z Fz ρ st H x y px py pz Q rl rx ry e q => ?_⟩
  unfold oAddS at e
  split at e
  · split at e
    · rename_i c
      cases e
      rw [Rep] at rx ry
      exact ⟨_, _, rx, ry, c, q Fz ρ H _ Ext.refl rl (by rw [Rep])⟩
    · cases e
  · cases e
def oAddT : PV → PV → Store → Option PV
  | .tup xs, .tup ys, _ => if xs.length + ys.length ≤ sizeLine then some (.tup (xs ++ ys)) else none
  | _, _, _ => none
theorem jo_addT : JOp X (binaryOp .Add) oAddT := by
  refine ⟨_, op_catA, fun Z Fz ρ st H x y px py pz Q rl rx ry e q => ?_⟩
  unfold oAddT at e
  split at e
  · rename_i xs ys
    split at e
    · rename_i c
      cases e
      obtain ⟨a, vs, rfl, sa, la, ra⟩ := tup_ok rl rx
      obtain ⟨b, ws, rfl, sb, lb, rb⟩ := tup_ok rl ry
      refine ⟨a, b, vs, ws, rfl, rfl, sa, sb, by rw [← ra.len, ← rb.len]; exact c, fun z => ?_, fun z1 z2 => ?_, fun z1 z2 p hp => ?_⟩
      · have : xs = [] := List.length_eq_zero_iff.mp (by rw [ra.len, z]; rfl)
        subst this
        exact q Fz ρ H _ Ext.refl rl ry
      · have : ys = [] := List.length_eq_zero_iff.mp (by rw [rb.len, z2]; rfl)
        subst this
        rw [List.append_nil] at q
        exact q Fz ρ H _ Ext.refl rl rx
      · obtain ⟨rl2, ex2⟩ := rl.frozen hp (.tup (vs ++ ws))
        exact q _ _ _ _ ex2 rl2 (by rw [Rep]; exact ⟨p, _, rfl, SqT.of upd_same, by simpa using c, (ra.app rb).mono ex2⟩)
    · cases e
  · cases e
def oAddL : PV → PV → Store → Option PV := fun x y st => match asM st x, asM st y with
  | some xs, some ys => if xs.length + ys.length ≤ sizeLine then some (.lst (xs ++ ys)) else none
  | _, _ => none
theorem jo_addL : JOp X (binaryOp .Add) oAddL := by
  refine ⟨_, op_cat, fun Z Fz ρ st H x y px py pz Q rl rx ry e q => ?_⟩
  unfold oAddL at e
  split at e
  · rename_i xs ys ex ey
    split at e
    · rename_i c
      cases e
      obtain ⟨a, vs, rfl, sa, la, ra⟩ := asM_ok rl rx ex
      obtain ⟨b, ws, rfl, sb, lb, rb⟩ := asM_ok rl ry ey
      refine ⟨a, b, vs, ws, rfl, rfl, sa, sb, by rw [← ra.len, ← rb.len]; exact c, fun p hp => ?_⟩
      obtain ⟨rl2, ex2⟩ := rl.frozen hp (.lst (vs ++ ws))
      exact q _ _ _ _ ex2 rl2 (by rw [Rep]; exact ⟨p, _, rfl, upd_same, by simpa using c, (ra.app rb).mono ex2⟩)
    · cases e
  · cases e
def oAdd := oOr oAddI (oOr oAddT (oOr oAddS oAddL))
theorem jo_add : JOp X (binaryOp .Add) oAdd := jo_addI.or (jo_addT.or (jo_addS.or jo_addL))
def oMulL : PV → PV → Store → Option PV := fun x y st => match asM st x, y with
  | some xs, .int k => if -(2 ^ 63) ≤ k ∧ k < 2 ^ 63 ∧ xs.length * k.toNat ≤ sizeLine then some (.lst (List.replicate k.toNat xs).flatten) else none
  | _, _ => none
theorem flat_len {α : Type} (xs : List α) : ∀ n : Nat, (List.replicate n xs).flatten.length = xs.length * n
  | 0 => by simp
  | n + 1 => by rw [List.replicate_succ, List.flatten_cons, List.length_append, flat_len xs n, Nat.mul_succ]; omega
theorem jo_mulL : JOp X (binaryOp .Mult) oMulL := by
  refine ⟨_, op_rep, fun Z Fz ρ st H x y px py pz Q rl rx ry e q => ?_⟩
  unfold oMulL at e
  split at e
  · rename_i xs k ex
    split at e
    · rename_i c
      cases e
      obtain ⟨a, vs, rfl, sa, la, ra⟩ := asM_ok rl rx ex
      rw [Rep] at ry
      refine ⟨a, k, vs, rfl, ry, sa, c.1, c.2.1, by rw [← ra.len]; exact c.2.2, fun p hp => ?_⟩
      obtain ⟨rl2, ex2⟩ := rl.frozen hp (.lst (List.replicate k.toNat vs).flatten)
      exact q _ _ _ _ ex2 rl2 (by rw [Rep]; exact ⟨p, _, rfl, upd_same, by rw [flat_len]; exact c.2.2, (ra.flat _).mono ex2⟩)
    · cases e
  · cases e
def oMulT : PV → PV → Store → Option PV
  | .tup xs, .int k, _ => if xs ≠ [] ∧ 2 ≤ k ∧ k ≤ 1000 ∧ xs.length ≤ 1000 then some (.tup (List.replicate k.toNat xs).flatten) else none
  | _, _, _ => none
theorem jo_mulT : JOp X (binaryOp .Mult) oMulT := by
  refine ⟨_, op_repT, fun Z Fz ρ st H x y px py pz Q rl rx ry e q => ?_⟩
  unfold oMulT at e
  split at e
  · rename_i xs k
    split at e
    · rename_i c
      cases e
      obtain ⟨a, vs, rfl, sa, la, ra⟩ := tup_ok rl rx
      rw [Rep] at ry
      refine ⟨a, k, vs, rfl, ry, sa, fun z => c.1 (List.length_eq_zero_iff.mp (by rw [ra.len, z]; rfl)), c.2.1, c.2.2.1, by rw [← ra.len]; exact c.2.2.2, fun p hp => ?_⟩
      obtain ⟨rl2, ex2⟩ := rl.frozen hp (.tup (List.replicate k.toNat vs).flatten)
      have hl : (List.replicate k.toNat xs).flatten.length ≤ sizeLine := by
        rw [flat_len]
        have h1 : k.toNat ≤ 1000 := by omega
        have h2 : xs.length * k.toNat ≤ 1000 * 1000 := Nat.mul_le_mul c.2.2.2 h1
        exact Nat.le_trans h2 (by decide)
      exact q _ _ _ _ ex2 rl2 (by rw [Rep]; exact ⟨p, _, rfl, SqT.of upd_same, hl, (ra.flat _).mono ex2⟩)
    · cases e
  · cases e
def oMul := oOr oMulI (oOr oMulT oMulL)
theorem jo_mul : JOp X (binaryOp .Mult) oMul := jo_mulI.or (jo_mulT.or jo_mulL)
mutual
def toD : PV → PyData
  | .non => .none
  | .bl b => .bool b
  | .int i => .int i
  | .str x => .str x
  | .tup xs => .tuple (toDs xs)
  | .lst xs => .list (toDs xs)
  | .scr ns => .list (ns.map PyData.int)
  | .own _ => .none
  | .glo _ => .none
def toDs : List PV → List PyData
  | [] => []
  | x :: xs => toD x :: toDs xs
end
mutual
/-- plain data, at most so deep -/
def dOk : Nat → PV → Bool
  | _, .non => true
  | _, .bl _ => true
  | _, .int _ => true
  | _, .str x => PyData.strOk x
  | 0, .tup _ => false
  | n + 1, .tup xs => dOks n xs
  | 0, .lst _ => false
  | n + 1, .lst xs => dOks n xs
  | 0, .scr _ => false
  | _ + 1, .scr _ => true
  | _, .own _ => false
  | _, .glo _ => false
def dOks : Nat → List PV → Bool
  | _, [] => true
  | n, x :: xs => dOk n x && dOks n xs
end
mutual
/-- == -/
def peq : PV → PV → Bool
  | .non, .non => true
  | .bl a, .bl b => a == b
  | .bl a, .int j => (if a then 1 else 0) == j
  | .int i, .bl b => i == (if b then 1 else 0)
  | .int i, .int j => i == j
  | .str x, .str y => x == y
  | .tup xs, .tup ys => peqs xs ys
  | .lst xs, .lst ys => peqs xs ys
  | _, _ => false
def peqs : List PV → List PV → Bool
  | [], [] => true
  | x :: xs, y :: ys => peq x y && peqs xs ys
  | _, _ => false
end
mutual
theorem lay_toD : ∀ (n : Nat) (p : PV), dOk n p = true → (toD p).canLay0 = true ∧ (toD p).depth ≤ n
  | n, .non, h => ⟨rfl, Nat.zero_le _⟩
  | n, .bl _, h => ⟨rfl, Nat.zero_le _⟩
  | n, .int _, h => ⟨rfl, Nat.zero_le _⟩
  | n, .str x, h => by
    refine ⟨?_, Nat.zero_le _⟩
    unfold toD PyData.canLay0
    simpa [dOk] using h
  | 0, .tup _, h => by simp [dOk] at h
  | n + 1, .tup xs, h => by
    rw [dOk] at h
    obtain ⟨a, b⟩ := lay_toDs n xs h
    exact ⟨by unfold toD PyData.canLay0; exact a, by unfold toD PyData.depth; omega⟩
  | 0, .lst _, h => by simp [dOk] at h
  | n + 1, .lst xs, h => by
    rw [dOk] at h
    obtain ⟨a, b⟩ := lay_toDs n xs h
    exact ⟨by unfold toD PyData.canLay0; exact a, by unfold toD PyData.depth; omega⟩
  | 0, .scr _, h => by simp [dOk] at h
  | n + 1, .scr ns, h => by
    have : ∀ ns : List Int, PyData.canLayAll0 (ns.map PyData.int) = true ∧ PyData.depthAll (ns.map PyData.int) = 0 := fun ns => by
      induction ns with
      | nil => exact ⟨rfl, rfl⟩
      | cons a r ih =>
        refine ⟨?_, ?_⟩
        · rw [List.map_cons, PyData.canLayAll0, ih.1]; rfl
        · rw [List.map_cons, PyData.depthAll, ih.2]; rfl
    obtain ⟨a, b⟩ := this ns
    exact ⟨by unfold toD PyData.canLay0; exact a, by unfold toD PyData.depth; omega⟩
  | n, .own _, h => by cases n <;> simp [dOk] at h
  | n, .glo _, h => by cases n <;> simp [dOk] at h
theorem lay_toDs : ∀ (n : Nat) (ps : List PV), dOks n ps = true → PyData.canLayAll0 (toDs ps) = true ∧ PyData.depthAll (toDs ps) ≤ n
  | n, [], h => ⟨rfl, Nat.zero_le _⟩
  | n, x :: xs, h => by
    rw [dOks, Bool.and_eq_true] at h
    obtain ⟨a, b⟩ := lay_toD n x h.1
    obtain ⟨c, d⟩ := lay_toDs n xs h.2
    exact ⟨by unfold toDs PyData.canLayAll0; rw [a, c]; rfl, by unfold toDs PyData.depthAll; omega⟩
end
mutual
def noScr : PV → Bool
  | .tup xs => noScrs xs
  | .lst xs => noScrs xs
  | .scr _ => false
  | .own _ => false
  | .glo _ => false
  | _ => true
def noScrs : List PV → Bool
  | [] => true
  | x :: xs => noScr x && noScrs xs
end
mutual
theorem eqv_toD : ∀ (p q : PV), noScr p = true → noScr q = true → PyData.eqv (toD p) (toD q) = peq p q
  | p, q, hp, hq => by
    cases p <;> cases q <;> first
      | (simp [noScr] at hp; done)
      | (simp [noScr] at hq; done)
      | (unfold toD PyData.eqv peq; rfl)
      | (rename_i xs ys; rw [noScr] at hp hq; unfold toD PyData.eqv peq; exact eqv_toDs xs ys hp hq)
theorem eqv_toDs : ∀ (ps qs : List PV), noScrs ps = true → noScrs qs = true → PyData.eqvAll (toDs ps) (toDs qs) = peqs ps qs
  | [], [], _, _ => by unfold toDs PyData.eqvAll peqs; rfl
  | [], _ :: _, _, _ => by unfold toDs PyData.eqvAll peqs; rfl
  | _ :: _, [], _, _ => by unfold toDs PyData.eqvAll peqs; rfl
  | x :: xs, y :: ys, hp, hq => by
    rw [noScrs, Bool.and_eq_true] at hp hq
    unfold toDs PyData.eqvAll peqs
    rw [eqv_toD x y hp.1 hq.1, eqv_toDs xs ys hp.2 hq.2]
end
section
variable {K : PySem.W.Frag} {mg : Str → Option Value} {Z Fz : Hp} {ρ : List Addr} {st : Store} {H : Hp}
mutual
theorem dp_of (hf : ∀ a o, Fz a = some o → H a = some o) : ∀ (n : Nat) (p : PV) {v : V}, dOk n p = true → noScr p = true → Rep K mg Fz ρ p v → Dp K H v (toD p)
  | n, .non, v, h, _, r => by rw [Rep] at r; subst r; exact .non
  | n, .bl _, v, h, _, r => by rw [Rep] at r; subst r; exact .bl _
  | n, .int _, v, h, _, r => by rw [Rep] at r; subst r; exact .int _
  | n, .str _, v, h, _, r => by rw [Rep] at r; subst r; exact .str _
  | 0, .tup _, _, h, _, _ => by simp [dOk] at h
  | n + 1, .tup xs, v, h, hs, r => by
    rw [dOk] at h
    rw [noScr] at hs
    rw [Rep] at r
    obtain ⟨a, vs, rfl, r1, _, r2⟩ := r
    exact .tup (sqT_mono hf r1) (dp_ofs hf n xs h hs r2)
  | 0, .lst _, _, h, _, _ => by simp [dOk] at h
  | n + 1, .lst xs, v, h, hs, r => by
    rw [dOk] at h
    rw [noScr] at hs
    rw [Rep] at r
    obtain ⟨a, vs, rfl, r1, _, r2⟩ := r
    exact .lst (SqL.of (hf _ _ r1)) (dp_ofs hf n xs h hs r2)
  | n, .scr _, _, _, hs, _ => by simp [noScr] at hs
  | n, .own _, _, h, _, _ => by cases n <;> simp [dOk] at h
  | n, .glo _, _, h, _, _ => by cases n <;> simp [dOk] at h
theorem dp_ofs (hf : ∀ a o, Fz a = some o → H a = some o) : ∀ (n : Nat) (ps : List PV) {vs : List V}, dOks n ps = true → noScrs ps = true → RepL K mg Fz ρ ps vs → DpAll K H vs (toDs ps)
  | n, [], vs, h, _, r => by rw [RepL] at r; subst r; exact .nil
  | n, x :: xs, vs, h, hs, r => by
    rw [dOks, Bool.and_eq_true] at h
    rw [noScrs, Bool.and_eq_true] at hs
    rw [RepL] at r
    obtain ⟨v, w, rfl, r1, r2⟩ := r
    exact .cons (dp_of hf n x h.1 hs.1 r1) (dp_ofs hf n xs h.2 hs.2 r2)
end
end
def rsv (st : Store) : PV → PV
  | .scr ns => .lst (ns.map PV.int)
  | .own k => (match st[k]? with
    | some (.lst xs) => .lst xs
    | some (.frz xs) => .lst xs
    | _ => .own k)
  | p => p
def dChk (p : PV) : Bool := dOk 60 p && noScr p
theorem dp_rsv {K : PySem.W.Frag} {mg : Str → Option Value} {Z Fz : Hp} {ρ : List Addr} {st : Store} {H : Hp} {p : PV} {v : V} (rl : Rel K mg Z Fz ρ st H) (r : Rep K mg Fz ρ p v) (h : dChk (rsv st p) = true) : Dp K H v (toD (rsv st p)) := by
  unfold dChk at h
  rw [Bool.and_eq_true] at h
  have key : ∀ xs, asL st p = some xs → rsv st p = .lst xs → Dp K H v (toD (rsv st p)) := fun xs e1 e2 => by
    obtain ⟨a, vs, rfl, s, _, rr⟩ := asL_ok rl r e1
    rw [e2] at h ⊢
    rw [dOk] at h
    rw [noScr] at h
    exact .lst s (dp_ofs rl.fz 59 xs h.1 h.2 rr)
  cases p with
  | scr ns => exact key _ rfl rfl
  | own k =>
    cases e : st[k]? with
    | none => simp [rsv, e, dOk] at h
    | some c =>
      cases c with
      | lst xs => exact key xs (by simp [asL, e]) (by simp [rsv, e])
      | frz xs => exact key xs (by simp [asL, e]) (by simp [rsv, e])
      | dct _ => simp [rsv, e, dOk] at h
      | dcn _ => simp [rsv, e, dOk] at h
      | dkf _ => simp [rsv, e, dOk] at h
      | dnf _ => simp [rsv, e, dOk] at h
      | tpl _ => simp [rsv, e, dOk] at h
      | ins _ _ => simp [rsv, e, dOk] at h
      | exc _ => simp [rsv, e, dOk] at h
  | _ => exact dp_of rl.fz 60 _ h.1 h.2 r
theorem shaped_chk {p : PV} (h : dChk p = true) : SeqAt.shaped (toD p) = true := by
  unfold dChk at h
  rw [Bool.and_eq_true] at h
  obtain ⟨a, b⟩ := lay_toD 60 p h.1
  unfold SeqAt.shaped
  rw [a, Bool.true_and, decide_eq_true_eq]
  omega
def oEq : PV → PV → Store → Option PV := fun x y st => if (dChk (rsv st x) && dChk (rsv st y)) = true then some (.bl (peq (rsv st x) (rsv st y))) else none
def oNe : PV → PV → Store → Option PV := fun x y st => if (dChk (rsv st x) && dChk (rsv st y)) = true then some (.bl (!peq (rsv st x) (rsv st y))) else none
theorem jo_eq (hu : X.A.units + 64 < cLine) : JOp X (compareOp .Eq) oEq := by
  refine ⟨_, op_eqD hu, fun Z Fz ρ st H x y px py pz Q rl rx ry e q => ?_⟩
  unfold oEq at e
  split at e
  · rename_i c
    rw [Bool.and_eq_true] at c
    cases e
    refine ⟨_, _, dp_rsv rl rx c.1, dp_rsv rl ry c.2, shaped_chk c.1, shaped_chk c.2, ?_⟩
    have c1 := c.1
    have c2 := c.2
    unfold dChk at c1 c2
    rw [Bool.and_eq_true] at c1 c2
    rw [eqv_toD _ _ c1.2 c2.2]
    exact q Fz ρ H _ Ext.refl rl (by rw [Rep])
  · cases e
theorem jo_ne (hu : X.A.units + 64 < cLine) : JOp X (compareOp .NotEq) oNe := by
  refine ⟨_, op_neD hu, fun Z Fz ρ st H x y px py pz Q rl rx ry e q => ?_⟩
  unfold oNe at e
  split at e
  · rename_i c
    rw [Bool.and_eq_true] at c
    cases e
    refine ⟨_, _, dp_rsv rl rx c.1, dp_rsv rl ry c.2, shaped_chk c.1, shaped_chk c.2, ?_⟩
    have c1 := c.1
    have c2 := c.2
    unfold dChk at c1 c2
    rw [Bool.and_eq_true] at c1 c2
    rw [eqv_toD _ _ c1.2 c2.2]
    exact q Fz ρ H _ Ext.refl rl (by rw [Rep])
  · cases e
def oIsN : PV → PV → Store → Option PV
  | x, .non, _ => some (.bl (match x with
    | .non => true
    | _ => false))
  | .bl a, .bl b, _ => some (.bl (decide (a = b)))
  | _, _, _ => none
def oNotN : PV → PV → Store → Option PV
  | x, .non, _ => some (.bl (match x with
    | .non => false
    | _ => true))
  | .bl a, .bl b, _ => some (.bl (!decide (a = b)))
  | _, _, _ => none
theorem rep_non {K : PySem.W.Frag} {mg : Str → Option Value} {Fz : Hp} {ρ : List Addr} {p : PV} {v : V} (h : Rep K mg Fz ρ p v) : (v = .non) ↔ (p = .non) := by
  cases p <;> rw [Rep] at h
  case non => simp [h]
  case bl => simp [h]
  case int => simp [h]
  case str => simp [h]
  case tup => obtain ⟨_, _, rfl, _⟩ := h; simp
  case lst => obtain ⟨_, _, rfl, _⟩ := h; simp
  case scr => obtain ⟨_, rfl, _⟩ := h; simp
  case own => obtain ⟨_, _, rfl⟩ := h; simp
  case glo => obtain ⟨_, _, rfl⟩ := h; simp
theorem jo_is : JOp X (compareOp .Is) oIsN := by
  refine ⟨_, (op_isN).or (op_isBl), fun Z Fz ρ st H x y px py pz Q rl rx ry e q => ?_⟩
  unfold oIsN at e
  split at e
  · cases e
    rw [Rep] at ry
    refine .inl ⟨ry, q Fz ρ H _ Ext.refl rl ?_⟩
    rw [Rep]
    have z := rep_non rx
    cases px <;> simp_all
  · cases e
    rw [Rep] at rx ry
    exact .inr ⟨_, _, rx, ry, q Fz ρ H _ Ext.refl rl (by rw [Rep])⟩
  · cases e
theorem jo_isnot : JOp X (compareOp .IsNot) oNotN := by
  refine ⟨_, (op_notN).or (op_notBl), fun Z Fz ρ st H x y px py pz Q rl rx ry e q => ?_⟩
  unfold oNotN at e
  split at e
  · cases e
    rw [Rep] at ry
    refine .inl ⟨ry, q Fz ρ H _ Ext.refl rl ?_⟩
    rw [Rep]
    have z := rep_non rx
    cases px <;> simp_all
  · cases e
    rw [Rep] at rx ry
    exact .inr ⟨_, _, rx, ry, q Fz ρ H _ Ext.refl rl (by rw [Rep])⟩
  · cases e
end
end Lq
end
section
set_option Elab.async false
set_option linter.all false
set_option maxRecDepth 10000
namespace Lq
open PySem PySem.Spec PyProof.Rows L2
def asS (st : Store) : PV → Option (List PV)
  | .tup xs => some xs
  | p => asL st p
section
variable {K : PySem.W.Frag} {mg : Str → Option Value} {Z Fz : Hp} {ρ : List Addr} {st : Store} {H : Hp} {p : PV} {v : V} {xs : List PV}
theorem asS_ok (r : Rel K mg Z Fz ρ st H) (h : Rep K mg Fz ρ p v) (e : asS st p = some xs) : ∃ a vs, v = .ref a ∧ (SqL K H a vs ∨ SqT K H a vs) ∧ xs.length ≤ sizeLine ∧ RepL K mg Fz ρ xs vs := by
  cases p with
  | tup ys =>
    cases e
    obtain ⟨a, vs, h1, h2, h3, h4⟩ := tup_ok r h
    exact ⟨a, vs, h1, .inr h2, h3, h4⟩
  | _ =>
    obtain ⟨a, vs, h1, h2, h3, h4⟩ := asL_ok r h e
    exact ⟨a, vs, h1, .inl h2, h3, h4⟩
end
def flatP : PV → Bool
  | .non => true
  | .bl _ => true
  | .int _ => true
  | .str _ => true
  | _ => false
section
variable {K : PySem.W.Frag} {mg : Str → Option Value} {Z Fz : Hp} {ρ : List Addr}
theorem flat_rep {p : PV} {v : V} (h : Rep K mg Fz ρ p v) (f : flatP p = true) : flatV v = true := by
  cases p <;> first | (simp [flatP] at f; done) | (rw [Rep] at h; subst h; rfl)
theorem flats_rep : ∀ {ps : List PV} {vs : List V}, RepL K mg Fz ρ ps vs → ps.all flatP = true → vs.all flatV = true
  | [], _, h, _ => by rw [RepL] at h; subst h; rfl
  | x :: xs, _, h, f => by
    rw [RepL] at h
    obtain ⟨v, r, rfl, h1, h2⟩ := h
    rw [List.all_cons, Bool.and_eq_true] at f
    rw [List.all_cons, flat_rep h1 f.1, flats_rep h2 f.2]; rfl
theorem eqV_rep {p q : PV} {v u : V} (h : Rep K mg Fz ρ p v) (h' : Rep K mg Fz ρ q u) (f : flatP p = true) (f' : flatP q = true) : eqV v u = peq p q := by
  cases p <;> first | (simp [flatP] at f; done) | (cases q <;> first | (simp [flatP] at f'; done) | (rw [Rep] at h; rw [Rep] at h'; subst h; subst h'; unfold peq; rfl))
theorem inV_rep {p : PV} {v : V} (h : Rep K mg Fz ρ p v) (f : flatP p = true) : ∀ {ps : List PV} {vs : List V}, RepL K mg Fz ρ ps vs → ps.all flatP = true → inV v vs = ps.any fun z => peq z p
  | [], _, h', _ => by rw [RepL] at h'; subst h'; rfl
  | x :: xs, _, h', f' => by
    rw [RepL] at h'
    obtain ⟨w, r, rfl, h1, h2⟩ := h'
    rw [List.all_cons, Bool.and_eq_true] at f'
    have ih := inV_rep h f h2 f'.2
    unfold inV at ih ⊢
    rw [List.any_cons, List.any_cons, eqV_rep h1 h f'.1 f, ih]
end
section
variable {X : Cx}
def oInF : PV → PV → Store → Option PV := fun x y st => match asS st y with
  | some xs => if (flatP x && xs.all flatP) = true then some (.bl (xs.any fun z => peq z x)) else none
  | none => none
def oNinF : PV → PV → Store → Option PV := fun x y st => match asS st y with
  | some xs => if (flatP x && xs.all flatP) = true then some (.bl (!xs.any fun z => peq z x)) else none
  | none => none
theorem jo_inF : JOp X (compareOp .In) oInF := by
  refine ⟨_, op_in_seq, fun Z Fz ρ st H x y px py pz Q rl rx ry e q => ?_⟩
  unfold oInF at e
  split at e
  · rename_i xs es
    split at e
    · rename_i c
      rw [Bool.and_eq_true] at c
      cases e
      obtain ⟨a, vs, rfl, s, _, rr⟩ := asS_ok rl ry es
      refine ⟨a, vs, rfl, s, flat_rep rx c.1, flats_rep rr c.2, ?_⟩
      rw [if_neg Bool.false_ne_true, inV_rep rx c.1 rr c.2]
      exact q Fz ρ H _ Ext.refl rl (by rw [Rep])
    · cases e
  · cases e
theorem jo_ninF : JOp X (compareOp .NotIn) oNinF := by
  refine ⟨_, op_notIn_seq, fun Z Fz ρ st H x y px py pz Q rl rx ry e q => ?_⟩
  unfold oNinF at e
  split at e
  · rename_i xs es
    split at e
    · rename_i c
      rw [Bool.and_eq_true] at c
      cases e
      obtain ⟨a, vs, rfl, s, _, rr⟩ := asS_ok rl ry es
      refine ⟨a, vs, rfl, s, flat_rep rx c.1, flats_rep rr c.2, ?_⟩
      rw [if_pos rfl, inV_rep rx c.1 rr c.2]
      exact q Fz ρ H _ Ext.refl rl (by rw [Rep])
    · cases e
  · cases e
def subIn (i j : Str) : Bool := match i.cps.toList with
  | [c] => decide (c ∈ j.cps.toList)
  | _ => !(Builtin.Str.occurrences j i 0 j.length 1).isEmpty
theorem one_sign {i : Str} {c : Nat} (h : i.cps.toList = [c]) : i = ⟨#[c]⟩ := by
  obtain ⟨a⟩ := i
  have h' : a.toList = [c] := h
  have : a = #[c] := by rw [← Array.toArray_toList (xs := a), h']
  rw [this]
def oInS : PV → PV → Store → Option PV
  | .str i, .str j, _ => some (.bl (subIn i j))
  | _, _, _ => none
def oNinS : PV → PV → Store → Option PV
  | .str i, .str j, _ => some (.bl (!subIn i j))
  | _, _, _ => none
theorem jo_inS : JOp X (compareOp .In) oInS := by
  refine ⟨_, (op_in_sign).or op_in_str, fun Z Fz ρ st H x y px py pz Q rl rx ry e q => ?_⟩
  unfold oInS at e
  split at e
  · rename_i i j
    cases e
    rw [Rep] at rx ry
    have z := q Fz ρ H (.bl (subIn i j)) Ext.refl rl (by rw [Rep])
    unfold subIn at z
    split at z
    · rename_i c hc
      exact .inl ⟨c, j, by rw [rx, one_sign hc], ry, z⟩
    · exact .inr ⟨i, j, rx, ry, z⟩
  · cases e
theorem jo_ninS : JOp X (compareOp .NotIn) oNinS := by
  refine ⟨_, (op_notIn_sign).or op_notIn_str, fun Z Fz ρ st H x y px py pz Q rl rx ry e q => ?_⟩
  unfold oNinS at e
  split at e
  · rename_i i j
    cases e
    rw [Rep] at rx ry
    have z := q Fz ρ H (.bl (!subIn i j)) Ext.refl rl (by rw [Rep])
    unfold subIn at z
    split at z
    · rename_i c hc
      exact .inl ⟨c, j, by rw [rx, one_sign hc], ry, z⟩
    · exact .inr ⟨i, j, rx, ry, z⟩
  · cases e
def oInD : PV → PV → Store → Option PV := fun x y st => match rsv st y with
  | .lst xs => if (dChk x && dChk (.lst xs)) = true then some (.bl (xs.any fun z => peq z x)) else none
  | _ => none
def oNinD : PV → PV → Store → Option PV := fun x y st => match rsv st y with
  | .lst xs => if (dChk x && dChk (.lst xs)) = true then some (.bl (!xs.any fun z => peq z x)) else none
  | _ => none
theorem any_toD {x : PV} (hx : noScr x = true) : ∀ (xs : List PV), noScrs xs = true → ((toDs xs).any fun z => PyData.eqv z (toD x)) = xs.any fun z => peq z x
  | [], _ => by unfold toDs; rfl
  | y :: ys, h => by
    rw [noScrs, Bool.and_eq_true] at h
    unfold toDs
    rw [List.any_cons, List.any_cons, eqv_toD y x h.1 hx, any_toD hx ys h.2]
theorem dp_x {Z Fz : Hp} {ρ : List Addr} {st : Store} {H : Hp} {p : PV} {v : V} (rl : Rel X.K X.mg Z Fz ρ st H) (r : Rep X.K X.mg Fz ρ p v) (h : dChk p = true) : Dp X.K H v (toD p) := by
  unfold dChk at h
  rw [Bool.and_eq_true] at h
  exact dp_of rl.fz 60 _ h.1 h.2 r
theorem jo_inD (hu : X.A.units + 65 < cLine) : JOp X (compareOp .In) oInD := by
  refine ⟨_, op_inD hu, fun Z Fz ρ st H x y px py pz Q rl rx ry e q => ?_⟩
  unfold oInD at e
  split at e
  · rename_i xs er
    split at e
    · rename_i c
      rw [Bool.and_eq_true] at c
      cases e
      have d := dp_rsv rl ry (by rw [er]; exact c.2)
      rw [er] at d
      have s2 := shaped_chk c.2
      rw [toD] at d s2
      refine ⟨_, _, dp_x rl rx c.1, d, shaped_chk c.1, s2, ?_⟩
      have c1 := c.1
      have c2 := c.2
      unfold dChk at c1 c2
      rw [Bool.and_eq_true] at c1 c2
      rw [any_toD c1.2 xs (by have := c2.2; rw [noScr] at this; exact this)]
      exact q Fz ρ H _ Ext.refl rl (by rw [Rep])
    · cases e
  · cases e
theorem jo_ninD (hu : X.A.units + 65 < cLine) : JOp X (compareOp .NotIn) oNinD := by
  refine ⟨_, op_notInD hu, fun Z Fz ρ st H x y px py pz Q rl rx ry e q => ?_⟩
  unfold oNinD at e
  split at e
  · rename_i xs er
    split at e
    · rename_i c
      rw [Bool.and_eq_true] at c
      cases e
      have d := dp_rsv rl ry (by rw [er]; exact c.2)
      rw [er] at d
      have s2 := shaped_chk c.2
      rw [toD] at d s2
      refine ⟨_, _, dp_x rl rx c.1, d, shaped_chk c.1, s2, ?_⟩
      have c1 := c.1
      have c2 := c.2
      unfold dChk at c1 c2
      rw [Bool.and_eq_true] at c1 c2
      rw [any_toD c1.2 xs (by have := c2.2; rw [noScr] at this; exact this)]
      exact q Fz ρ H _ Ext.refl rl (by rw [Rep])
    · cases e
  · cases e
def oIn := oOr oInF (oOr oInS oInD)
def oNin := oOr oNinF (oOr oNinS oNinD)
theorem jo_in (hu : X.A.units + 65 < cLine) : JOp X (compareOp .In) oIn := jo_inF.or (jo_inS.or (jo_inD hu))
theorem jo_nin (hu : X.A.units + 65 < cLine) : JOp X (compareOp .NotIn) oNin := jo_ninF.or (jo_ninS.or (jo_ninD hu))
def asInts : List PV → Option (List Int)
  | [] => some []
  | .int i :: r => (asInts r).map (i :: ·)
  | _ :: _ => none
theorem asInts_eq : ∀ {xs : List PV} {ns : List Int}, asInts xs = some ns → xs = ns.map PV.int
  | [], ns, h => by cases h; rfl
  | x :: r, ns, h => by
    cases x <;> first | (simp [asInts] at h; done) | skip
    rename_i i
    cases e : asInts r with
    | none => simp [asInts, e] at h
    | some ms =>
      have : ns = i :: ms := by simp [asInts, e] at h; exact h.symm
      subst this
      rw [asInts_eq e]; rfl
def oLtT : PV → PV → Store → Option PV
  | .tup xs, .tup ys, _ => (match asInts xs, asInts ys with
    | some ns, some ms => some (.bl (HT.lexLt ns ms))
    | _, _ => none)
  | _, _, _ => none
theorem jo_ltT (hu : X.A.units < cLine) : JOp X (compareOp .Lt) oLtT := by
  refine ⟨_, op_ltT hu, fun Z Fz ρ st H x y px py pz Q rl rx ry e q => ?_⟩
  unfold oLtT at e
  split at e
  · rename_i xs ys
    split at e
    · rename_i ns ms e1 e2
      cases e
      obtain ⟨a, vs, rfl, sa, _, ra⟩ := tup_ok rl rx
      obtain ⟨b, ws, rfl, sb, _, rb⟩ := tup_ok rl ry
      rw [asInts_eq e1] at ra
      rw [asInts_eq e2] at rb
      rw [RepL.of_ints ra] at sa
      rw [RepL.of_ints rb] at sb
      exact ⟨a, b, ns, ms, rfl, rfl, sa, sb, q Fz ρ H _ Ext.refl rl (by rw [Rep])⟩
    · cases e
  · cases e
def oLt := oOr oLtI oLtT
theorem jo_lt (hu : X.A.units < cLine) : JOp X (compareOp .Lt) oLt := jo_ltI.or (jo_ltT hu)
def JIx (X : Cx) (o : PV → PV → Store → Option PV) : Prop := ∃ r : R2, IxR X r ∧
  ∀ Z Fz ρ st H x y px py pz Q, Rel X.K X.mg Z Fz ρ st H → Rep X.K X.mg Fz ρ px x → Rep X.K X.mg Fz ρ py y → o px py st = some pz →
    (∀ Fz' ρ' H' v', Ext Fz ρ Fz' ρ' → Rel X.K X.mg Z Fz' ρ' st H' → Rep X.K X.mg Fz' ρ' pz v' → Q v' H') → r x y H Q
def oIx : PV → PV → Store → Option PV := fun x y st => match y with
  | .int i => (match x with
    | .str z => if z.length ≤ sizeLine then (atI z.cps.toList i).map fun c => .str ⟨#[c]⟩ else none
    | _ => (match asS st x with
      | some xs => atI xs i
      | none => none))
  | _ => none
theorem atI_rep {K : PySem.W.Frag} {mg : Str → Option Value} {Fz : Hp} {ρ : List Addr} {ps : List PV} {vs : List V} {i : Int} {p : PV} (h : RepL K mg Fz ρ ps vs) (e : atI ps i = some p) : ∃ v, atI vs i = some v ∧ Rep K mg Fz ρ p v := by
  unfold atI at e ⊢
  rw [← h.len]
  cases q : ixN ps.length i with
  | none => rw [q] at e; cases e
  | some j =>
    rw [q] at e
    exact RepL.get (i := j) h e
theorem jx_ix : JIx X oIx := by
  refine ⟨_, ix_seq, fun Z Fz ρ st H x y px py pz Q rl rx ry e q => ?_⟩
  unfold oIx at e
  split at e
  · rename_i i
    rw [Rep] at ry
    split at e
    · rename_i z
      rw [Rep] at rx
      split at e
      · rename_i hz
        cases a : atI z.cps.toList i with
        | none => rw [a] at e; cases e
        | some c =>
          rw [a] at e
          cases e
          exact .inr (.inr ⟨z, i, c, rx, ry, hz, a, q Fz ρ H _ Ext.refl rl (by rw [Rep])⟩)
      · cases e
    · split at e
      · rename_i xs es
        obtain ⟨a, vs, rfl, s, _, rr⟩ := asS_ok rl rx es
        obtain ⟨v, ev, rv⟩ := atI_rep rr e
        rcases s with s | s
        · exact .inl ⟨a, vs, i, v, rfl, ry, s, ev, q Fz ρ H _ Ext.refl rl rv⟩
        · exact .inr (.inl ⟨a, vs, i, v, rfl, ry, s, ev, q Fz ρ H _ Ext.refl rl rv⟩)
      · cases e
  · cases e
variable {E : XK} {a b e : Expr} {es : List Expr} {pos : Pos} {fa fb : XE}
theorem je_ix {o} (h : JIx X o) (ha : JE X E a fa) (hb : JE X E b fb) (hs : PlainIx b := by exact fun _ _ => rfl) : JE X E (.Subscript a b pos) (eBin o fa fb) := by
  obtain ⟨r, hr, sr⟩ := h
  obtain ⟨ta, pa, sa⟩ := ha
  obtain ⟨tb, pb, sb⟩ := hb
  exact ⟨tOp r ta tb, pe_ix hr pa pb hs, sbin sr sa sb⟩
def cutP (xs : List PV) (lo hi : Option Int) : List PV := (xs.drop (HT.sIx xs.length 0 lo)).take (HT.sIx xs.length xs.length hi - HT.sIx xs.length 0 lo)
theorem cut_rep {K : PySem.W.Frag} {mg : Str → Option Value} {Fz : Hp} {ρ : List Addr} {ps : List PV} {vs : List V} {lo hi : Option Int} (h : RepL K mg Fz ρ ps vs) : RepL K mg Fz ρ (cutP ps lo hi) (cutV vs lo hi) := by
  unfold cutP cutV
  rw [h.len]
  exact (h.drop _).take _
theorem cutP_len (xs : List PV) (lo hi : Option Int) : (cutP xs lo hi).length ≤ xs.length := by
  unfold cutP
  rw [List.length_take, List.length_drop]
  omega
theorem cutP_all (xs : List PV) (lo hi : Option Int) (h : HT.sIx xs.length 0 lo = 0 ∧ HT.sIx xs.length xs.length hi = xs.length) : cutP xs lo hi = xs := by
  unfold cutP
  rw [h.1, h.2, List.drop_zero, Nat.sub_zero, List.take_length]
def oCut (x : PV) (lo hi : Option Int) (st : Store) : Option PV := match x with
  | .str z => if z.length ≤ sizeLine then some (.str (cutS z lo hi)) else none
  | .tup xs => some (.tup (cutP xs lo hi))
  | _ => (match asL st x with
    | some xs => some (.lst (cutP xs lo hi))
    | none => none)
def XO := Ev → Store → R (Option Int)
def pNone : XO := fun _ st => .ok none st
def pSome (f : XE) : XO := fun env st => (f env st).bind fun v s => match v with
  | .int i => .ok (some i) s
  | _ => .no
def SO (K : PySem.W.Frag) (mg : Str → Option Value) (E : XK) (t : TO) (f : XO) : Prop := ∀ Z Fz ρ env st σ H Q, Rel K mg Z Fz ρ st H → REnv K mg Fz ρ env σ →
  Out K mg Z E Fz ρ (f env st) (fun v _ Fz' ρ' H' => Q v H') → t σ H Q
def JO (X : Cx) (E : XK) (e : Option Expr) (f : XO) : Prop := ∃ t, PO X e t ∧ SO X.K X.mg E t f
theorem jo_none : JO X E none pNone := ⟨_, po_none, fun Z Fz ρ env st σ H Q rl hh o => o.here rl⟩
theorem jo_some (h : JE X E e fa) : JO X E (some e) (pSome fa) := by
  obtain ⟨t, p, s⟩ := h
  refine ⟨_, po_some p, fun Z Fz ρ env st σ H Q rl hh o => ?_⟩
  refine s Z Fz ρ env st σ H _ rl hh (o.seq.mono fun x s1 F1 r1 H1 _ ex1 rl1 o1 x' rx => ?_)
  split at o1
  · rw [Rep] at rx; exact ⟨_, rx, o1.here rl1⟩
  · exact o1.elim
def eCut (f : XE) (lo hi : XO) : XE := fun env st => (f env st).bind fun x s1 => (lo env s1).bind fun l s2 => (hi env s2).bind fun u s3 => match oCut x l u s3 with
  | some z => .ok z s3
  | none => .no
theorem SlR.or {r r' : V → Option Int → Option Int → Hp → VK → Prop} (h : L2.SlR X r) (h' : L2.SlR X r') : L2.SlR X (fun x lo hi H Q => r x lo hi H Q ∨ r' x lo hi H Q) :=
  fun pins s σ H x v vl vu lo hi sl Q I rx a b c q => q.elim (fun q => h pins s σ H x v vl vu lo hi sl Q I rx a b c q) fun q => h' pins s σ H x v vl vu lo hi sl Q I rx a b c q
theorem je_slice {lo hi : Option Expr} {fl fh : XO} {p2 : Pos} (ha : JE X E e fa) (hl : JO X E lo fl) (hh : JO X E hi fh) : JE X E (.Subscript e (.Slice lo hi none p2) pos) (eCut fa fl fh) := by
  obtain ⟨t, p, s⟩ := ha
  obtain ⟨tl, pl, sl⟩ := hl
  obtain ⟨th, ph, sh⟩ := hh
  refine ⟨_, pe_slice (SlR.or sl_str (SlR.or sl_tupA sl_list)) p pl ph, fun Z Fz ρ env st σ H Q rl h o => ?_⟩
  refine s Z Fz ρ env st σ H _ rl h (o.seq.mono fun x s1 F1 r1 H1 _ ex1 rl1 o1 x' rx => ?_)
  refine sl Z F1 r1 env s1 σ H1 _ rl1 (h.mono ex1) (o1.seq.mono fun l s2 F2 r2 H2 _ ex2 rl2 o2 => ?_)
  refine sh Z F2 r2 env s2 σ H2 _ rl2 ((h.mono ex1).mono ex2) (o2.seq.mono fun u s3 F3 r3 H3 _ ex3 rl3 o3 => ?_)
  replace rx := rx.mono (ex2.trans ex3)
  split at o3
  · rename_i z ez
    unfold oCut at ez
    split at ez
    · split at ez
      · rename_i hw
        cases ez
        rw [Rep] at rx
        exact .inl ⟨_, rx, hw, o3.here rl3 _ (by rw [Rep])⟩
      · cases ez
    · cases ez
      obtain ⟨a, vs, rfl, sa, la, ra⟩ := tup_ok rl3 rx
      refine .inr (.inl ⟨a, vs, rfl, sa, fun c => ?_, fun c p hp => ?_⟩)
      · rw [← ra.len] at c
        rw [cutP_all _ _ _ c] at o3
        exact o3.here rl3 _ rx
      · obtain ⟨rl4, ex4⟩ := rl3.frozen hp (.tup (cutV vs l u))
        exact o3 _ _ _ ex4 rl4 _ (by rw [Rep]; exact ⟨p, _, rfl, SqT.of upd_same, Nat.le_trans (cutP_len _ _ _) la, (cut_rep ra).mono ex4⟩)
    · split at ez
      · rename_i xs es
        cases ez
        obtain ⟨a, vs, rfl, sa, la, ra⟩ := asL_ok rl3 rx es
        refine .inr (.inr ⟨a, vs, rfl, sa, fun p hp => ?_⟩)
        obtain ⟨rl4, ex4⟩ := rl3.frozen hp (.lst (cutV vs l u))
        exact o3 _ _ _ ex4 rl4 _ (by rw [Rep]; exact ⟨p, _, rfl, upd_same, Nat.le_trans (cutP_len _ _ _) la, (cut_rep ra).mono ex4⟩)
      · cases ez
  · exact o3.elim
def oNeg : PV → Option PV
  | .int i => some (.int (-i))
  | _ => none
theorem je_neg (h : JE X E a fa) : JE X E (.UnaryOp .USub a pos) (eUn oNeg fa) := by
  obtain ⟨t, p, s⟩ := h
  refine ⟨_, pe_un un_neg p, fun Z Fz ρ env st σ H Q rl hh o => ?_⟩
  refine s Z Fz ρ env st σ H _ rl hh (o.seq.mono fun x s1 F1 r1 H1 _ ex1 rl1 o1 x' rx => ?_)
  split at o1
  · rename_i z ez
    unfold oNeg at ez
    split at ez
    · cases ez
      rw [Rep] at rx
      exact ⟨_, rx, o1.here rl1 _ (by rw [Rep])⟩
    · cases ez
  · exact o1.elim
end
end Lq
end
section
set_option Elab.async false
set_option linter.all false
set_option maxRecDepth 10000
namespace Lq
open PySem PySem.Spec PyProof.Rows L2
def JC (X : Cx) (f : Value) (o : List PV → Store → Option PV) : Prop := ∃ r : List V → Hp → VK → Prop, CallR X f r ∧
  ∀ Z Fz ρ st H vs ps pz Q, Rel X.K X.mg Z Fz ρ st H → RepL X.K X.mg Fz ρ ps vs → o ps st = some pz →
    (∀ Fz' ρ' H' v', Ext Fz ρ Fz' ρ' → Rel X.K X.mg Z Fz' ρ' st H' → Rep X.K X.mg Fz' ρ' pz v' → Q v' H') → r vs H Q
def eCB (o : List PV → Store → Option PV) (a : XL) : XE := fun env st => (a env st).bind fun xs s => match o xs s with
  | some z => .ok z s
  | none => .no
section
variable {X : Cx} {E : XK} {a b e : Expr} {es : List Expr} {p pos : Pos} {fa fb : XE} {f : XL} {x : Str} {id T : String}
theorem s_cb {r : List V → Hp → VK → Prop} {t : TA} {o : List PV → Store → Option PV} (sr : ∀ Z Fz ρ st H vs ps pz Q, Rel X.K X.mg Z Fz ρ st H → RepL X.K X.mg Fz ρ ps vs → o ps st = some pz →
    (∀ Fz' ρ' H' v', Ext Fz ρ Fz' ρ' → Rel X.K X.mg Z Fz' ρ' st H' → Rep X.K X.mg Fz' ρ' pz v' → Q v' H') → r vs H Q) (s : SA X.K X.mg E t f) : SE X.K X.mg E (tCB r t) (eCB o f) := fun Z Fz ρ env st σ H Q rl hh o => by
  refine s Z Fz ρ env st σ H _ rl hh (o.seq.mono fun xs s1 F1 r1 H1 _ ex1 rl1 o1 xs' rx => ?_)
  split at o1
  · rename_i z ez
    exact sr Z F1 r1 s1 H1 xs' xs z Q rl1 rx ez fun F2 r2 H2 v' ex2 rl2 rz => o1 F2 r2 H2 ex2 rl2 v' rz
  · exact o1.elim
theorem je_callB {o} (h : JC X (.builtin id) o) (ha : JA X E (e :: es) f) (hm : X.mg x = none) (hv : bootBuiltins x = some (.builtin id)) (hg : Gl X x := by rfl) (hn : x ≠ "__name__" := by decide) (hdb : (x == ("__debug__" : Str)) = false := by decide)
    (he : starEach (e :: es) X.env = (false, eval e X.env) :: starEach es X.env := by rfl) (hpl : (backTo pos (starEach es X.env)).any (·.1) = false := by rfl) : JE X E (.Call (.Name x p) (e :: es) [] pos) (eCB o f) := by
  obtain ⟨r, hr, sr⟩ := h
  obtain ⟨t, pt, st⟩ := ha
  exact ⟨_, pe_callB hr hg hm hv pt hn hdb he hpl, s_cb sr st⟩
theorem je_callTy {o} (h : JC X (.type T) o) (ha : JA X E (e :: es) f) (hm : X.mg x = none) (hv : bootBuiltins x = some (.type T)) (hg : Gl X x := by rfl) (hn : x ≠ "__name__" := by decide) (hdb : (x == ("__debug__" : Str)) = false := by decide)
    (he : starEach (e :: es) X.env = (false, eval e X.env) :: starEach es X.env := by rfl) (hpl : (backTo pos (starEach es X.env)).any (·.1) = false := by rfl) : JE X E (.Call (.Name x p) (e :: es) [] pos) (eCB o f) := by
  obtain ⟨r, hr, sr⟩ := h
  obtain ⟨t, pt, st⟩ := ha
  exact ⟨_, pe_callTy hr hg hm hv pt hn hdb he hpl, s_cb sr st⟩
theorem rep1 {K : PySem.W.Frag} {mg : Str → Option Value} {Fz : Hp} {ρ : List Addr} {p : PV} {vs : List V} (h : RepL K mg Fz ρ [p] vs) : ∃ v, vs = [v] ∧ Rep K mg Fz ρ p v := by
  rw [RepL] at h
  obtain ⟨v, r, rfl, h1, h2⟩ := h
  rw [RepL] at h2
  subst h2
  exact ⟨v, rfl, h1⟩
def oLen : List PV → Store → Option PV
  | [.str z], _ => if z.length ≤ sizeLine then some (.int z.length) else none
  | [p], st => (match asS st p with
    | some xs => some (.int xs.length)
    | none => none)
  | _, _ => none
theorem jc_len : JC X (.builtin "len") oLen := by
  refine ⟨_, call_len, fun Z Fz ρ st H vs ps pz Q rl rp e q => ?_⟩
  unfold oLen at e
  split at e
  · obtain ⟨v, rfl, rv⟩ := rep1 rp
    rw [Rep] at rv
    subst rv
    split at e
    · rename_i hz
      cases e
      exact ⟨_, _, rfl, ⟨hz, rfl⟩, q Fz ρ H _ Ext.refl rl (by rw [Rep])⟩
    · cases e
  · obtain ⟨v, rfl, rv⟩ := rep1 rp
    split at e
    · rename_i xs es
      cases e
      obtain ⟨a, ws, rfl, s, _, rr⟩ := asS_ok rl rv es
      refine ⟨_, ws.length, rfl, ?_, q Fz ρ H _ Ext.refl rl (by rw [Rep, rr.len])⟩
      exact s.imp (fun s => ⟨ws, s, rfl⟩) fun s => ⟨ws, s, rfl⟩
    · cases e
  · cases e
def oAbs : List PV → Store → Option PV
  | [.int i], _ => some (.int (if i < 0 then -i else i))
  | _, _ => none
theorem jc_abs : JC X (.builtin "abs") oAbs := by
  refine ⟨_, call_abs, fun Z Fz ρ st H vs ps pz Q rl rp e q => ?_⟩
  unfold oAbs at e
  split at e
  · obtain ⟨v, rfl, rv⟩ := rep1 rp
    cases e
    rw [Rep] at rv
    subst rv
    exact ⟨_, rfl, q Fz ρ H _ Ext.refl rl (by rw [Rep])⟩
  · cases e
theorem CallR.or {f : Value} {r r' : List V → Hp → VK → Prop} (h : CallR X f r) (h' : CallR X f r') : CallR X f (fun vs H Q => r vs H Q ∨ r' vs H Q) :=
  fun pins s σ H xs us Q I rv q => q.elim (fun q => h pins s σ H xs us Q I rv q) fun q => h' pins s σ H xs us Q I rv q
def oInt : List PV → Store → Option PV
  | [.int i], _ => some (.int i)
  | [.bl k], _ => some (.int (if k then 1 else 0))
  | [.str z], _ => if z.length ≤ 640 then (PySem.intText? z).map PV.int else none
  | _, _ => none
theorem jc_int : JC X (.type "int") oInt := by
  refine ⟨_, CallR.or call_int1 call_int_str, fun Z Fz ρ st H vs ps pz Q rl rp e q => ?_⟩
  unfold oInt at e
  split at e
  · obtain ⟨v, rfl, rv⟩ := rep1 rp
    cases e
    rw [Rep] at rv
    subst rv
    exact .inl (.inl ⟨_, rfl, q Fz ρ H _ Ext.refl rl (by rw [Rep])⟩)
  · obtain ⟨v, rfl, rv⟩ := rep1 rp
    cases e
    rw [Rep] at rv
    subst rv
    exact .inl (.inr ⟨_, rfl, q Fz ρ H _ Ext.refl rl (by rw [Rep])⟩)
  · obtain ⟨v, rfl, rv⟩ := rep1 rp
    rw [Rep] at rv
    subst rv
    split at e
    · rename_i z hz
      cases en : PySem.intText? z with
      | none => rw [en] at e; cases e
      | some n =>
        rw [en] at e
        cases e
        exact .inr ⟨z, n, rfl, en, hz, q Fz ρ H _ Ext.refl rl (by rw [Rep])⟩
    · cases e
  · cases e
def oSum : List PV → Store → Option PV
  | [p], st => (match asL st p with
    | some xs => (asInts xs).map fun ns => .int ns.sum
    | none => none)
  | _, _ => none
theorem jc_sum (hc : X.calm = true) : JC X (.builtin "sum") oSum := by
  refine ⟨_, cr_sum hc, fun Z Fz ρ st H vs ps pz Q rl rp e q => ?_⟩
  unfold oSum at e
  split at e
  · obtain ⟨v, rfl, rv⟩ := rep1 rp
    split at e
    · rename_i xs es
      cases en : asInts xs with
      | none => rw [en] at e; cases e
      | some ns =>
        rw [en] at e
        cases e
        obtain ⟨a, ws, rfl, s, _, rr⟩ := asL_ok rl rv es
        rw [asInts_eq en] at rr
        rw [RepL.of_ints rr] at s
        exact ⟨a, ns, rfl, s, q Fz ρ H _ Ext.refl rl (by rw [Rep])⟩
    · cases e
  · cases e
def maxI : Int → List Int → Int
  | m, [] => m
  | m, x :: r => maxI (if m < x then x else m) r
def minI : Int → List Int → Int
  | m, [] => m
  | m, x :: r => minI (if x < m then x else m) r
theorem maxI_spec : ∀ (m : Int) (l : List Int), maxI m l ∈ m :: l ∧ ∀ y ∈ m :: l, y ≤ maxI m l
  | m, [] => ⟨by simp [maxI], by simp [maxI]⟩
  | m, x :: r => by
    obtain ⟨h1, h2⟩ := maxI_spec (if m < x then x else m) r
    unfold maxI
    refine ⟨?_, fun y hy => ?_⟩
    · rcases List.mem_cons.mp h1 with h | h
      · rw [h]; split <;> simp
      · simp [h]
    · have h3 := h2 _ List.mem_cons_self
      rcases List.mem_cons.mp hy with h | h
      · exact Int.le_trans (by rw [h]; split <;> omega) h3
      · rcases List.mem_cons.mp h with h | h
        · exact Int.le_trans (by rw [h]; split <;> omega) h3
        · exact h2 y (List.mem_cons_of_mem _ h)
theorem minI_spec : ∀ (m : Int) (l : List Int), minI m l ∈ m :: l ∧ ∀ y ∈ m :: l, minI m l ≤ y
  | m, [] => ⟨by simp [minI], by simp [minI]⟩
  | m, x :: r => by
    obtain ⟨h1, h2⟩ := minI_spec (if x < m then x else m) r
    unfold minI
    refine ⟨?_, fun y hy => ?_⟩
    · rcases List.mem_cons.mp h1 with h | h
      · rw [h]; split <;> simp
      · simp [h]
    · have h3 := h2 _ List.mem_cons_self
      rcases List.mem_cons.mp hy with h | h
      · exact Int.le_trans h3 (by rw [h]; split <;> omega)
      · rcases List.mem_cons.mp h with h | h
        · exact Int.le_trans h3 (by rw [h]; split <;> omega)
        · exact h2 y (List.mem_cons_of_mem _ h)
def oMax : List PV → Store → Option PV
  | [p], st => (match asL st p with
    | some xs => (match asInts xs with
      | some (n :: ns) => some (.int (maxI n ns))
      | _ => none)
    | none => none)
  | _, _ => none
def oMin : List PV → Store → Option PV
  | [p], st => (match asL st p with
    | some xs => (match asInts xs with
      | some (n :: ns) => some (.int (minI n ns))
      | _ => none)
    | none => none)
  | _, _ => none
theorem jc_max (hc : X.calm = true) : JC X (.builtin "max") oMax := by
  refine ⟨_, cr_max hc, fun Z Fz ρ st H vs ps pz Q rl rp e q => ?_⟩
  unfold oMax at e
  split at e
  · obtain ⟨v, rfl, rv⟩ := rep1 rp
    split at e
    · rename_i xs es
      split at e
      · rename_i n ns en
        cases e
        obtain ⟨a, ws, rfl, s, _, rr⟩ := asL_ok rl rv es
        rw [asInts_eq en] at rr
        rw [RepL.of_ints rr] at s
        refine ⟨a, _, rfl, s, by simp, fun m h1 h2 => ?_⟩
        obtain ⟨k1, k2⟩ := maxI_spec n ns
        have : m = maxI n ns := Int.le_antisymm (k2 m h1) (h2 _ k1)
        rw [this]
        exact q Fz ρ H _ Ext.refl rl (by rw [Rep])
      · cases e
    · cases e
  · cases e
theorem jc_min (hc : X.calm = true) : JC X (.builtin "min") oMin := by
  refine ⟨_, cr_min hc, fun Z Fz ρ st H vs ps pz Q rl rp e q => ?_⟩
  unfold oMin at e
  split at e
  · obtain ⟨v, rfl, rv⟩ := rep1 rp
    split at e
    · rename_i xs es
      split at e
      · rename_i n ns en
        cases e
        obtain ⟨a, ws, rfl, s, _, rr⟩ := asL_ok rl rv es
        rw [asInts_eq en] at rr
        rw [RepL.of_ints rr] at s
        refine ⟨a, _, rfl, s, by simp, fun m h1 h2 => ?_⟩
        obtain ⟨k1, k2⟩ := minI_spec n ns
        have : m = minI n ns := Int.le_antisymm (h2 _ k1) (k2 m h1)
        rw [this]
        exact q Fz ρ H _ Ext.refl rl (by rw [Rep])
      · cases e
    · cases e
  · cases e
def asBools : List PV → Option (List Bool)
  | [] => some []
  | .bl b :: r => (asBools r).map (b :: ·)
  | _ :: _ => none
theorem asBools_eq : ∀ {xs : List PV} {ns : List Bool}, asBools xs = some ns → xs = ns.map PV.bl
  | [], ns, h => by cases h; rfl
  | x :: r, ns, h => by
    cases x <;> first | (simp [asBools] at h; done) | skip
    rename_i i
    cases e : asBools r with
    | none => simp [asBools, e] at h
    | some ms =>
      have : ns = i :: ms := by simp [asBools, e] at h; exact h.symm
      subst this
      rw [asBools_eq e]; rfl
theorem of_bools {K : PySem.W.Frag} {mg : Str → Option Value} {Fz : Hp} {ρ : List Addr} : ∀ {ns : List Bool} {vs : List V}, RepL K mg Fz ρ (ns.map PV.bl) vs → vs = ns.map V.bl
  | [], _, h => by rw [List.map_nil, RepL] at h; exact h
  | n :: ns, _, h => by
    rw [List.map_cons, RepL] at h
    obtain ⟨v, r, rfl, h1, h⟩ := h
    rw [Rep] at h1
    rw [h1, of_bools h]; rfl
def oAll : List PV → Store → Option PV
  | [p], st => (match asL st p with
    | some xs => (asBools xs).map fun ns => .bl (ns.all _root_.id)
    | none => none)
  | _, _ => none
def oAny : List PV → Store → Option PV
  | [p], st => (match asL st p with
    | some xs => (asBools xs).map fun ns => .bl (ns.any _root_.id)
    | none => none)
  | _, _ => none
theorem jc_all (hc : X.calm = true) : JC X (.builtin "all") oAll := by
  refine ⟨_, cr_all hc, fun Z Fz ρ st H vs ps pz Q rl rp e q => ?_⟩
  unfold oAll at e
  split at e
  · obtain ⟨v, rfl, rv⟩ := rep1 rp
    split at e
    · rename_i xs es
      cases en : asBools xs with
      | none => rw [en] at e; cases e
      | some ns =>
        rw [en] at e
        cases e
        obtain ⟨a, ws, rfl, s, _, rr⟩ := asL_ok rl rv es
        rw [asBools_eq en] at rr
        rw [of_bools rr] at s
        exact ⟨a, ns, rfl, s, q Fz ρ H _ Ext.refl rl (by rw [Rep])⟩
    · cases e
  · cases e
theorem jc_any (hc : X.calm = true) : JC X (.builtin "any") oAny := by
  refine ⟨_, cr_any hc, fun Z Fz ρ st H vs ps pz Q rl rp e q => ?_⟩
  unfold oAny at e
  split at e
  · obtain ⟨v, rfl, rv⟩ := rep1 rp
    split at e
    · rename_i xs es
      cases en : asBools xs with
      | none => rw [en] at e; cases e
      | some ns =>
        rw [en] at e
        cases e
        obtain ⟨a, ws, rfl, s, _, rr⟩ := asL_ok rl rv es
        rw [asBools_eq en] at rr
        rw [of_bools rr] at s
        exact ⟨a, ns, rfl, s, q Fz ρ H _ Ext.refl rl (by rw [Rep])⟩
    · cases e
  · cases e
def oTuple : List PV → Store → Option PV
  | [.tup xs], _ => some (.tup xs)
  | [p], st => (match asL st p with
    | some xs => some (.tup xs)
    | none => none)
  | _, _ => none
theorem jc_tuple : JC X (.type "tuple") oTuple := by
  refine ⟨_, call_tuple_of, fun Z Fz ρ st H vs ps pz Q rl rp e q => ?_⟩
  unfold oTuple at e
  split at e
  · obtain ⟨v, rfl, rv⟩ := rep1 rp
    cases e
    obtain ⟨a, ws, rfl, s, _, rr⟩ := tup_ok rl rv
    exact ⟨a, ws, rfl, .inr ⟨s, q Fz ρ H _ Ext.refl rl rv⟩⟩
  · obtain ⟨v, rfl, rv⟩ := rep1 rp
    split at e
    · rename_i xs es
      cases e
      obtain ⟨a, ws, rfl, s, hl, rr⟩ := asL_ok rl rv es
      refine ⟨a, ws, rfl, .inl ⟨s, fun p hp => ?_⟩⟩
      obtain ⟨rl2, ex2⟩ := rl.frozen hp (.tup ws)
      exact q _ _ _ _ ex2 rl2 (by rw [Rep]; exact ⟨p, ws, rfl, SqT.of upd_same, hl, rr.mono ex2⟩)
    · cases e
  · cases e
def fList (a : XE) : XL := fun env st => (a env st).bind fun p s => match asS s p with
  | some xs => .ok xs s
  | none => .no
theorem jf_list (ha : JE X E a fa) (hm : X.mg "list" = none) (hg : Gl X "list" := by rfl)
    (he : starEach [a] X.env = (false, eval a X.env) :: starEach [] X.env := by rfl) (hpl : (backTo pos (starEach [] X.env)).any (·.1) = false := by rfl) : JF X E (.Call (.Name "list" p) [a] [] pos) (fList fa) := by
  obtain ⟨t, pt, s⟩ := ha
  refine ⟨_, pe_callTy call_list_of hg hm (by decide +kernel) (pa_cons pt pa_nil he) (he := he) (hpl := hpl), fun Z Fz ρ env st σ H Q rl hh o => ?_⟩
  refine s Z Fz ρ env st σ H _ rl hh (o.seq.mono fun x s1 F1 r1 H1 _ ex1 rl1 o1 x' rx => ?_)
  split at o1
  · rename_i xs es
    obtain ⟨a, ws, rfl, s, hl, rr⟩ := asS_ok rl1 rx es
    exact ⟨a, ws, rfl, s, fun p hp => o1.here rl1 p ws hp hl rr⟩
  · exact o1.elim
def fAdd (a b : XE) : XL := fun env st => (a env st).bind fun x s1 => (b env s1).bind fun y s2 => match asM s2 x, asM s2 y with
  | some xs, some ys => if xs.length + ys.length ≤ sizeLine then .ok (xs ++ ys) s2 else .no
  | _, _ => .no
theorem jf_add (ha : JE X E a fa) (hb : JE X E b fb) : JF X E (.BinOp a .Add b pos) (fAdd fa fb) := by
  obtain ⟨ta, pa, sa⟩ := ha
  obtain ⟨tb, pb, sb⟩ := hb
  refine ⟨_, pe_op op_cat pa pb, fun Z Fz ρ env st σ H Q rl h o => ?_⟩
  refine sa Z Fz ρ env st σ H _ rl h (o.seq.mono fun x s1 F1 r1 H1 _ ex1 rl1 o1 x' rx => ?_)
  refine sb Z F1 r1 env s1 σ H1 _ rl1 (h.mono ex1) (o1.seq.mono fun y s2 F2 r2 H2 _ ex2 rl2 o2 y' ry => ?_)
  split at o2
  · rename_i xs ys ex ey
    split at o2
    · rename_i c
      obtain ⟨a, vs, rfl, sa, la, ra⟩ := asM_ok rl2 (rx.mono ex2) ex
      obtain ⟨b, ws, rfl, sb, lb, rb⟩ := asM_ok rl2 ry ey
      exact ⟨a, b, vs, ws, rfl, rfl, sa, sb, by rw [← ra.len, ← rb.len]; exact c, fun p hp => o2.here rl2 p _ hp (by simpa using c) (ra.app rb)⟩
    · exact o2.elim
  · exact o2.elim
def fMul (a b : XE) : XL := fun env st => (a env st).bind fun x s1 => (b env s1).bind fun y s2 => match asM s2 x, y with
  | some xs, .int k => if -(2 ^ 63) ≤ k ∧ k < 2 ^ 63 ∧ xs.length * k.toNat ≤ sizeLine then .ok (List.replicate k.toNat xs).flatten s2 else .no
  | _, _ => .no
theorem jf_mul (ha : JE X E a fa) (hb : JE X E b fb) : JF X E (.BinOp a .Mult b pos) (fMul fa fb) := by
  obtain ⟨ta, pa, sa⟩ := ha
  obtain ⟨tb, pb, sb⟩ := hb
  refine ⟨_, pe_op op_rep pa pb, fun Z Fz ρ env st σ H Q rl h o => ?_⟩
  refine sa Z Fz ρ env st σ H _ rl h (o.seq.mono fun x s1 F1 r1 H1 _ ex1 rl1 o1 x' rx => ?_)
  refine sb Z F1 r1 env s1 σ H1 _ rl1 (h.mono ex1) (o1.seq.mono fun y s2 F2 r2 H2 hq2 ex2 rl2 o2 y' ry => ?_)
  clear hq2
  split at o2
  · rename_i xs k ex
    split at o2
    · rename_i c
      obtain ⟨a, vs, rfl, sa, la, ra⟩ := asM_ok rl2 (rx.mono ex2) ex
      rw [Rep] at ry
      exact ⟨a, k, vs, rfl, ry, sa, c.1, c.2.1, by rw [← ra.len]; exact c.2.2, fun p hp => o2.here rl2 p _ hp (by rw [flat_len]; exact c.2.2) (ra.flat _)⟩
    · exact o2.elim
  · exact o2.elim
end
inductive Kd where
  | non | bl | int | str | tup | lst | dct
  deriving DecidableEq
def Kd.nm : Kd → String
  | .non => "NoneType" | .bl => "bool" | .int => "int" | .str => "str" | .tup => "tuple" | .lst => "list" | .dct => "dict"
def Kd.isa : Kd → Kd → Bool
  | .bl, .int => true
  | .non, .non => true | .bl, .bl => true | .int, .int => true | .str, .str => true | .tup, .tup => true | .lst, .lst => true | .dct, .dct => true
  | _, _ => false
theorem kitB_ok (a b : Kd) (hb : b ≠ .non) : kitB a.nm b.nm = some (a.isa b) := by
  cases a <;> cases b <;> first | (exact absurd rfl hb) | decide +kernel
def kdOf (st : Store) : PV → Option Kd
  | .non => some .non
  | .bl _ => some .bl
  | .int _ => some .int
  | .str _ => some .str
  | .tup _ => some .tup
  | .lst _ => some .lst
  | .scr _ => some .lst
  | .own k => (match st[k]? with
    | some (.lst _) => some .lst
    | some (.frz _) => some .lst
    | some (.dct _) => some .dct
    | _ => none)
  | .glo _ => none
theorem kd_ok {K : PySem.W.Frag} {mg : Str → Option Value} {Z Fz : Hp} {ρ : List Addr} {st : Store} {H : Hp} {p : PV} {v : V} {k : Kd} (rl : Rel K mg Z Fz ρ st H) (r : Rep K mg Fz ρ p v) (h : kdOf st p = some k) : TyX K H v (.type k.nm) := by
  have tl : ∀ {a : Addr} {vs : List V}, SqL K H a vs → TyX K H (.ref a) (.type "list") := fun {a vs} s => by
    rcases s with (s | ⟨o, s⟩) | ⟨o, its, n, s1, s2, _⟩
    · exact .base (.lst s)
    · exact .base (.frz s)
    · exact .kList s1 s2
  cases p with
  | non => cases h; rw [Rep] at r; subst r; exact .base .non
  | bl b => cases h; rw [Rep] at r; subst r; exact .base (.bl _)
  | int b => cases h; rw [Rep] at r; subst r; exact .base (.int _)
  | str b => cases h; rw [Rep] at r; subst r; exact .base (.str _)
  | tup xs =>
    cases h
    obtain ⟨a, vs, rfl, s, _⟩ := tup_ok rl r
    rcases s with (s | ⟨o, s⟩) | ⟨o, its, n, s1, s2, _⟩
    · exact .base (.tup s)
    · exact .fTuple s
    · exact .kTuple s1 s2
  | lst xs =>
    cases h
    obtain ⟨a, vs, rfl, s, _⟩ := asL_ok (xs := xs) rl r rfl
    exact tl s
  | scr xs =>
    cases h
    obtain ⟨a, vs, rfl, s, _⟩ := asL_ok rl r rfl
    exact tl s
  | own j =>
    have key : ∀ xs, asL st (.own j) = some xs → k = .lst → TyX K H v (.type k.nm) := fun xs e e2 => by
      subst e2
      obtain ⟨a, vs, rfl, s, _⟩ := asL_ok rl r e
      exact tl s
    cases e : st[j]? with
    | none => simp [kdOf, e] at h
    | some c =>
      cases c with
      | lst xs => exact key xs (by simp [asL, e]) (by simp [kdOf, e] at h; exact h.symm)
      | frz xs => exact key xs (by simp [asL, e]) (by simp [kdOf, e] at h; exact h.symm)
      | dct kvs =>
        simp [kdOf, e] at h
        subst h
        rw [Rep] at r
        obtain ⟨a, ea, rfl⟩ := r
        obtain ⟨kv, h1, _⟩ := rl.cell j a _ ea e
        exact .base (.dK h1)
      | dcn _ => simp [kdOf, e] at h
      | dkf _ => simp [kdOf, e] at h
      | dnf _ => simp [kdOf, e] at h
      | tpl _ => simp [kdOf, e] at h
      | ins _ _ => simp [kdOf, e] at h
      | exc _ => simp [kdOf, e] at h
  | glo x => cases h
def eIsi (b : Kd) (f : XE) : XE := fun env st => (f env st).bind fun p s => match kdOf s p with
  | some k => .ok (.bl (k.isa b)) s
  | none => .no
section
variable {X : Cx} {E : XK} {a b e : Expr} {es : List Expr} {p pos : Pos} {fa fb : XE} {f : XL} {x : Str} {id T : String}
theorem je_isi (k : Kd) {y : Str} {q : Pos} (ha : JE X E a fa) (hm : X.mg "isinstance" = none) (hmT : X.mg y = none) (hvT : bootBuiltins y = some (.type k.nm)) (hk : k ≠ .non := by decide) (hg : Gl X "isinstance" := by rfl) (hgT : Gl X y := by rfl)
    (hnT : y ≠ "__name__" := by decide) (hdT : (y == ("__debug__" : Str)) = false := by decide)
    (he : starEach [a, .Name y q] X.env = (false, eval a X.env) :: starEach [.Name y q] X.env := by rfl) (hpl : (backTo pos (starEach [.Name y q] X.env)).any (·.1) = false := by rfl) : JE X E (.Call (.Name "isinstance" p) [a, .Name y q] [] pos) (eIsi k fa) := by
  obtain ⟨t, pt, s⟩ := ha
  refine ⟨_, pe_callB call_isi hg hm (by decide +kernel) (pa_cons pt (pa_cons (pe_bltn (v := .ty k.nm) hgT hmT hvT rfl hnT hdT) pa_nil) he) (he := he) (hpl := hpl), fun Z Fz ρ env st σ H Q rl hh o => ?_⟩
  refine s Z Fz ρ env st σ H _ rl hh (o.seq.mono fun x s1 F1 r1 H1 _ ex1 rl1 o1 x' rx => ?_)
  split at o1
  · rename_i j ej
    exact ⟨x', .ty k.nm, _, _, j.isa k, rfl, .ty _, kd_ok rl1 rx ej, kit_ty (kitB_ok j k hk), o1.here rl1 _ (by rw [Rep])⟩
  · exact o1.elim
end
end Lq
end
section
set_option Elab.async false
set_option linter.all false
set_option maxRecDepth 100000
namespace Lq
open PySem PySem.Spec PyProof.Rows L2
inductive Sk where
  | L | T
def Sk.sq : Sk → Heap → Addr → Array Value → Prop
  | .L, h, l, its => h.IsList l its
  | .T, h, l, its => h.IsTuple l its
def Sk.it : Sk → Heap → Addr → Addr → Nat → Prop
  | .L, h, i, l, n => h.IsListIter i l n
  | .T, h, i, l, n => h.IsTupleIter i l n
def Sk.Sq (K : PySem.W.Frag) : Sk → Hp → Addr → List V → Prop
  | .L, H, a, xs => SqL K H a xs
  | .T, H, a, xs => SqT K H a xs
def Sk.io (k : Sk) (l : Addr) : Obj := match k with
  | .L => { cls := .type "list_iterator", data := .fields #[.ref l, .int 0 0] }
  | .T => { cls := .type "tuple_iterator", data := .fields #[.ref l, .int 0 0] }
theorem Sk.it_at {k : Sk} {h h' : Heap} {i l : Addr} {n : Nat} (x : k.it h i l n) (e : ∀ o, h.get? i = some o → h'.get? i = some o) : k.it h' i l n := by
  cases k
  · exact Heap.IsListIter.at x e
  · exact Heap.IsTupleIter.at x e
theorem Sk.it_obj {k : Sk} {h : Heap} {i l : Addr} {n : Nat} (x : k.it h i l n) : ∃ o, h.get? i = some o ∧ True := by
  cases k
  · obtain ⟨o, e, _⟩ := x; exact ⟨o, e, trivial⟩
  · obtain ⟨o, e, _⟩ := x; exact ⟨o, e, trivial⟩
theorem drawsK (k : Sk) {prog : Program} {w : World} {A : Around} (hh : A.handled = none) (i l : Addr) (ne : l ≠ i) (its : Array Value) : Draws prog w A i [i, l] its.size (fun n v => its[n]? = some v) (fun n h => k.it h i l n ∧ k.sq h l its) := by
  cases k with
  | L => exact Draws.list hh i l ne its
  | T =>
    refine ⟨fun n h st => ?_, fun n h h' st hk => ⟨?_, ?_⟩, fun n s Q E hn st hQ => ?_, fun s Q E st hE => RZ.nextOf_tuple_end hh st.1 st.2 (by simp) hE⟩
    · obtain ⟨o, ho, _⟩ := st.1; exact ⟨o, ho⟩
    · exact Heap.IsTupleIter.at st.1 fun o e => hk i (by simp) o e
    · obtain ⟨o, ho, r⟩ := st.2; exact ⟨o, hk l (by simp) o ho, r⟩
    · exact RZ.nextOf_tuple_item st.1 st.2 (x := its[n]) (by simp [hn]) fun h' a b => hQ _ h' s.toks (by simp [hn]) ⟨a, Heap.IsTuple.extBut st.2 b.extBut ne⟩ b
theorem Sk.items {k : Sk} {X : Cx} {pins : List (Addr × Obj)} {σ : L2.St} {H : Hp} {s : Shared} {a : Addr} {xs : List V} (I : L2.Inv X pins σ H s) (q : k.Sq X.K H a xs) : ∃ its : List Value, Vals xs its ∧ k.sq s.heap a its.toArray ∧ a < s.heap.objs.size := by
  cases k with
  | L =>
    obtain ⟨its, rv, p, _⟩ := I.list q
    exact ⟨its, rv, p.isList, p.lt⟩
  | T =>
    obtain ⟨its, rv, p, _⟩ := I.tuple q
    obtain ⟨o, ho, _⟩ := id p
    exact ⟨its, rv, p, Heap.lt_size ho⟩
theorem Sk.inj {k : Sk} {X : Cx} {pins : List (Addr × Obj)} {σ : L2.St} {H : Hp} {s : Shared} {a : Addr} {xs ys : List V} (I : L2.Inv X pins σ H s) (q : k.Sq X.K H a xs) (q' : k.Sq X.K H a ys) : xs = ys := by
  cases k with
  | L => exact I.list_inj q q'
  | T => exact I.tuple_inj q q'
def ItzK (K : PySem.W.Frag) (k1 k2 : Sk) (a b : Addr) : It where
  go i H := ∃ (xs ys : List V) (x y : V), k1.Sq K H a xs ∧ k2.Sq K H b ys ∧ xs[i]? = some x ∧ ys[i]? = some y
  yld i H v H' := ∃ N x y, v = .ref N ∧ H N = none ∧ H' = upd H N (.tup [x, y]) ∧ (∀ xs, k1.Sq K H a xs → xs[i]? = some x) ∧ ∀ ys, k2.Sq K H b ys → ys[i]? = some y
  stop i H := ∃ xs ys : List V, k1.Sq K H a xs ∧ k2.Sq K H b ys ∧ (xs.length = i ∧ i ≤ ys.length ∨ ys.length = i ∧ i ≤ xs.length)
theorem zsep {z TI TO i1 i2 a b : Addr} (D : ZipApart z TI TO i1 i2 a b) : ZipSep2 z TI TO i1 i2 [i1, a] [i2, b] :=
  ⟨D.TIz, D.TOz, D.TITO, D.TIi1, by simp, by simp [D.i1z.symm, D.l1z.symm], by simp [D.TOi1, D.l1TO.symm], D.TIi2, by simp, by simp [D.i2z.symm, D.l2z.symm], by simp [D.TOi2, D.l2TO.symm], by simp [D.i12, D.l2i1.symm], by simp [D.i12.symm, D.l1i2.symm]⟩
theorem turn_zipK {k1 k2 : Sk} {P : Program} {w : World} {K : PySem.W.Frag} {elts : List Expr} {kk : Nat} {tpos : Pos} {a b z TI TO i1 i2 : Addr} (D : ZipApart z TI TO i1 i2 a b) :
    Turn P w K (.Tuple elts kk tpos) (ItzK K k1 k2 a b) [z, TI, TO, i1, i2] z (fun i h => IsZip h z TI TO .none ∧ IsPair h TI (.ref i1) (.ref i2) ∧ (∃ x y, IsPair h TO x y) ∧ k1.it h i1 a i ∧ k2.it h i2 b i) where
  mem := by simp
  obj := fun i h st c hc => by
    obtain ⟨g1, g2, ⟨x, y, g3⟩, g4, g5⟩ := st
    have five : c = z ∨ c = TI ∨ c = TO ∨ c = i1 ∨ c = i2 := by simpa using hc
    rcases five with q | q | q | q | q
    · rw [q]; exact ⟨_, g1, fun v w => nomatch w⟩
    · rw [q]; exact ⟨_, g2, fun v w => nomatch w⟩
    · rw [q]; exact ⟨_, g3, fun v w => nomatch w⟩
    · rw [q]
      cases k1
      · obtain ⟨o, e, _, d⟩ := g4; exact ⟨o, e, fun v w => (by rw [d] at w; cases w)⟩
      · obtain ⟨o, e, _, d⟩ := g4; exact ⟨o, e, fun v w => (by rw [d] at w; cases w)⟩
    · rw [q]
      cases k2
      · obtain ⟨o, e, _, d⟩ := g5; exact ⟨o, e, fun v w => (by rw [d] at w; cases w)⟩
      · obtain ⟨o, e, _, d⟩ := g5; exact ⟨o, e, fun v w => (by rw [d] at w; cases w)⟩
  keep := fun i h h' st k => by
    obtain ⟨g1, g2, ⟨x, y, g3⟩, g4, g5⟩ := st
    exact ⟨k z (by simp) _ g1, k TI (by simp) _ g2, ⟨x, y, k TO (by simp) _ g3⟩, Sk.it_at g4 fun o q => k i1 (by simp) o q, Sk.it_at g5 fun o q => k i2 (by simp) o q⟩
  item := by
    intro X eP ew eK calm i pins s σ H E I fp st go
    subst eP ew eK
    obtain ⟨g1, g2, ⟨x0, y0, g3⟩, g4, g5⟩ := st
    obtain ⟨xs, ys, x, y, qx, qy, hx, hy⟩ := go
    obtain ⟨as, ra, pa, _⟩ := Sk.items I qx
    obtain ⟨bs, rb, pb, _⟩ := Sk.items I qy
    obtain ⟨u, hu, ru⟩ := ra.get hx
    obtain ⟨u', hu', ru'⟩ := rb.get hy
    have zl : z < s.heap.objs.size := Heap.lt_size g1
    have hd : X.A.in1.handled = none := I.ok.hd calm
    have la : i < as.toArray.size := by simpa using (List.getElem?_eq_some_iff.mp hu).1
    have lb : i < bs.toArray.size := by simpa using (List.getElem?_eq_some_iff.mp hu').1
    refine wpAny_pyNext_zipD2_item (zsep D) (drawsK k1 hd i1 a D.l1i1 as.toArray) (drawsK k2 hd i2 b D.l2i2 bs.toArray) g1 g2 g3 ⟨g4, pa⟩ ⟨g5, pb⟩ la lb fun v1 v2 h' tk e1 e2 z' o' n1 n2 new size kept => ?_
    have e1 : as[i]? = some v1 := by simpa using e1
    have e2 : bs[i]? = some v2 := by simpa using e2
    rw [hu] at e1
    rw [hu'] at e2
    cases e1
    cases e2
    refine ⟨_, rfl, wpAny_letOwnedTupleGo_zip (s := { s with heap := h', toks := tk }) z' fun h2 z2 sb => ?_⟩
    have at_ : h2.get? s.heap.objs.size = some { cls := .type "tuple", data := .seq #[u, u'] } := (sb.2 _ (Nat.ne_of_gt zl)).trans new
    have ok : ObjOk X.prog X.w (upd H s.heap.objs.size (.tup [x, y])) h2 s.heap.objs.size (.tup [x, y]) := ⟨(by decide : 2 ≤ sizeLine), [u, u'], .cons ru (.cons ru' .nil), ⟨_, at_, rfl, _, rfl⟩⟩
    have J : L2.Inv X pins σ (upd H s.heap.objs.size (.tup [x, y])) { s with heap := h2, toks := tk } := by
      refine I.turnedNew (t' := tk) (ch := [z, TI, TO, i1, i2]) (fun c o out q => ?_) fp (Nat.le_refl _) ok
      have ne : ∀ d, d ∈ [z, TI, TO, i1, i2] → c ≠ d := fun d hd w => out (by rw [w]; exact hd)
      exact (sb.2 c (ne z (by simp))).trans (kept c o (ne z (by simp)) (ne TO (by simp)) (ne i1 (by simp)) (ne i2 (by simp)) q)
    refine ⟨.ref s.heap.objs.size, _, J, rfl, ⟨_, x, y, rfl, I.hok.fresh (Nat.le_refl _), rfl, fun l hl => (by rw [Sk.inj I hl qx]; exact hx), fun l hl => (by rw [Sk.inj I hl qy]; exact hy)⟩, ⟨z2, ?_, ⟨u, u', ?_⟩, ?_, ?_⟩, fun c hcm => ?_⟩
    · exact (sb.2 _ D.TIz).trans (kept _ _ D.TIz D.TITO D.TIi1 D.TIi2 g2)
    · exact (sb.2 _ D.TOz).trans o'
    · exact Sk.it_at n1.1 fun o q => (sb.2 _ D.i1z).trans q
    · exact Sk.it_at n2.1 fun o q => (sb.2 _ D.i2z).trans q
    · have below : c < s.heap.objs.size := by
        obtain ⟨o4, e4, _⟩ := Sk.it_obj g4
        obtain ⟨o5, e5, _⟩ := Sk.it_obj g5
        simp only [List.mem_cons, List.not_mem_nil, or_false] at hcm
        rcases hcm with q | q | q | q | q <;> rw [q]
        · exact zl
        · exact Heap.lt_size g2
        · exact Heap.lt_size g3
        · exact Heap.lt_size e4
        · exact Heap.lt_size e5
      rw [upd_ne (Nat.ne_of_lt below)]
      exact (fp c hcm).1
  done := by
    intro X eP ew eK calm i pins s σ H E I fp st stop
    subst eP ew eK
    obtain ⟨g1, g2, ⟨x0, y0, g3⟩, g4, g5⟩ := st
    obtain ⟨xs, ys, qx, qy, fin⟩ := stop
    obtain ⟨as, ra, pa, _⟩ := Sk.items I qx
    obtain ⟨bs, rb, pb, _⟩ := Sk.items I qy
    have la := ra.length
    have lb := rb.length
    have hd : X.A.in1.handled = none := I.ok.hd calm
    have s1 : as.toArray.size = as.length := by simp
    have s2 : bs.toArray.size = bs.length := by simp
    refine wpAny_pyNext_zipD2_end (zsep D) (drawsK k1 hd i1 a D.l1i1 as.toArray) (drawsK k2 hd i2 b D.l2i2 bs.toArray) g1 g2 g3 ⟨g4, pa⟩ ⟨g5, pb⟩ (by omega) (by omega) (by omega) fun h' tk kept => ⟨rfl, I.turnedL (t' := tk) (ch := [z, TI, TO, i1, i2]) (fun c o out q => ?_) fp⟩
    have ne : ∀ d, d ∈ [z, TI, TO, i1, i2] → c ≠ d := fun d hd w => out (by rw [w]; exact hd)
    exact kept c o (ne z (by simp)) (ne TO (by simp)) (ne i1 (by simp)) (ne i2 (by simp)) q
  self := fun A i s Q E st h => wpAny_pyIter_zip st.1 h
section
variable (k1 k2 : Sk) (h : Heap) (l1 l2 : Addr)
abbrev zk1 : Heap := h.push (k1.io l1)
abbrev zk2 : Heap := (zk1 k1 h l1).push (k2.io l2)
abbrev zk3 : Heap := (zk2 k1 k2 h l1 l2).push { cls := .type "tuple", data := .seq #[.ref h.objs.size, .ref (zk1 k1 h l1).objs.size] }
abbrev zk4 : Heap := (zk3 k1 k2 h l1 l2).push { cls := .type "tuple", data := .seq #[.none, .none] }
abbrev zk5 : Heap := (zk4 k1 k2 h l1 l2).push { cls := .type "zip", data := .fields #[.none, .bool false, .bool false, .ref (zk2 k1 k2 h l1 l2).objs.size, .ref (zk3 k1 k2 h l1 l2).objs.size] }
end
theorem meets_zipLT (l1 l2 : Addr) (xs ys : Array Value) :
    Meets (Builtin.«zip.__new__» ⟨[.type "zip", .ref l1, .ref l2], []⟩) (fun _ R s => s.heap.IsList l1 xs ∧ s.heap.IsTuple l2 ys ∧ R (.ok (.ret (.ref (zk4 .L .T s.heap l1 l2).objs.size))) { s with heap := zk5 .L .T s.heap l1 l2 }) :=
  .of_wp fun prog w A R s h => by
    obtain ⟨hp, g, d, tk, os⟩ := s
    obtain ⟨q1, q2, h⟩ := h
    have sub := sub_zip
    have Q1 : Heap.IsList (Shared.heap ⟨hp, g, d, tk, os⟩) l1 xs := q1
    have Q2 : Heap.IsTuple (Shared.heap ⟨hp.push { cls := .type "list_iterator", data := .fields #[.ref l1, .int 0 0] }, g, d, tk, os⟩) l2 ys := Heap.IsTuple.push q2 _
    wp_walk using wpAny_pyIter_list Q1, wpAny_pyIter_tuple Q2
    exact ⟨_, rfl, h⟩
theorem meets_zipTL (l1 l2 : Addr) (xs ys : Array Value) :
    Meets (Builtin.«zip.__new__» ⟨[.type "zip", .ref l1, .ref l2], []⟩) (fun _ R s => s.heap.IsTuple l1 xs ∧ s.heap.IsList l2 ys ∧ R (.ok (.ret (.ref (zk4 .T .L s.heap l1 l2).objs.size))) { s with heap := zk5 .T .L s.heap l1 l2 }) :=
  .of_wp fun prog w A R s h => by
    obtain ⟨hp, g, d, tk, os⟩ := s
    obtain ⟨q1, q2, h⟩ := h
    have sub := sub_zip
    have Q1 : Heap.IsTuple (Shared.heap ⟨hp, g, d, tk, os⟩) l1 xs := q1
    have Q2 : Heap.IsList (Shared.heap ⟨hp.push { cls := .type "tuple_iterator", data := .fields #[.ref l1, .int 0 0] }, g, d, tk, os⟩) l2 ys := Heap.IsList.push q2 _
    wp_walk using wpAny_pyIter_tuple Q1, wpAny_pyIter_list Q2
    exact ⟨_, rfl, h⟩
theorem io_it (k : Sk) {h : Heap} {i l : Addr} (e : h.get? i = some (k.io l)) : k.it h i l 0 := by
  cases k
  · exact ⟨_, e, rfl, rfl⟩
  · exact ⟨_, e, rfl, rfl⟩
theorem call_zipK {k1 k2 : Sk} {prog : Program} {w : World} {A : Around} {E : Value → Shared → Prop} {s : Shared} {l1 l2 : Addr} {xs ys : Array Value} {Q : Value → Shared → Prop} (q1 : k1.sq s.heap l1 xs) (q2 : k2.sq s.heap l2 ys)
    (h : ∀ h', IsZip h' (s.heap.objs.size + 4) (s.heap.objs.size + 2) (s.heap.objs.size + 3) .none → IsPair h' (s.heap.objs.size + 2) (.ref s.heap.objs.size) (.ref (s.heap.objs.size + 1)) →
      IsPair h' (s.heap.objs.size + 3) .none .none → k1.it h' s.heap.objs.size l1 0 → k2.it h' (s.heap.objs.size + 1) l2 0 → (∀ c o, s.heap.get? c = some o → h'.get? c = some o) → Q (.ref (s.heap.objs.size + 4)) { s with heap := h' }) :
    wpAny (model prog w) A (call (.type "zip") [.ref l1, .ref l2]) Q E s := by
  have n1 : (zk1 k1 s.heap l1).objs.size = s.heap.objs.size + 1 := Heap.size_push ..
  have n2 : (zk2 k1 k2 s.heap l1 l2).objs.size = s.heap.objs.size + 2 := by rw [Heap.size_push, n1]
  have n3 : (zk3 k1 k2 s.heap l1 l2).objs.size = s.heap.objs.size + 3 := by rw [Heap.size_push, n2]
  have n4 : (zk4 k1 k2 s.heap l1 l2).objs.size = s.heap.objs.size + 4 := by rw [Heap.size_push, n3]
  have fr : ∀ k : Sk, ∀ l, (k.io l).isFreed = false := fun k l => by cases k <;> rfl
  have up : ∀ {g : Heap} {o : Obj} {c : Addr} {u : Obj}, g.get? c = some u → (g.push o).get? c = some u := fun e => Heap.get?_push_of_some _ e
  have e5 : (zk5 k1 k2 s.heap l1 l2).get? (zk4 k1 k2 s.heap l1 l2).objs.size = some _ := Heap.get?_push_size _ rfl
  have e4 : (zk5 k1 k2 s.heap l1 l2).get? (zk3 k1 k2 s.heap l1 l2).objs.size = some _ := up (Heap.get?_push_size _ rfl)
  have e3 : (zk5 k1 k2 s.heap l1 l2).get? (zk2 k1 k2 s.heap l1 l2).objs.size = some _ := up (up (Heap.get?_push_size _ rfl))
  have e2 : (zk5 k1 k2 s.heap l1 l2).get? (zk1 k1 s.heap l1).objs.size = some (k2.io l2) := up (up (up (Heap.get?_push_size _ (fr k2 l2))))
  have e1 : (zk5 k1 k2 s.heap l1 l2).get? s.heap.objs.size = some (k1.io l1) := up (up (up (up (Heap.get?_push_size _ (fr k1 l1)))))
  rw [n2, n3, n4] at e5
  rw [n3] at e4
  rw [n1, n2] at e3
  rw [n1] at e2
  have fin : Q (.ref (s.heap.objs.size + 4)) { s with heap := zk5 k1 k2 s.heap l1 l2 } := by
    refine h _ ?_ ?_ e4 (io_it k1 e1) (io_it k2 e2) fun c o e => up (up (up (up (up e))))
    · rw [← n2, ← n3] at e5 ⊢
      exact e5
    · exact e3
  cases k1 <;> cases k2
  · exact call_zip_2 q1 q2 fun h' a b c d e _ f => h h' a b c d e f
  · refine callType_new F.called_zip (by decide) (F.typeCall_zip_2 _ _) (F.newCall_zip_2 _ _) (fun obj => F.args_object_init_3 obj _ _) F.entry_zip_new (meets_zipLT l1 l2 xs ys) ⟨q1, q2, ?_⟩
    show _ ∧ _
    rw [n4]
    exact ⟨⟨_, e5, rfl⟩, fin⟩
  · refine callType_new F.called_zip (by decide) (F.typeCall_zip_2 _ _) (F.newCall_zip_2 _ _) (fun obj => F.args_object_init_3 obj _ _) F.entry_zip_new (meets_zipTL l1 l2 xs ys) ⟨q1, q2, ?_⟩
    show _ ∧ _
    rw [n4]
    exact ⟨⟨_, e5, rfl⟩, fin⟩
  · exact RZ.call_zipT q1 q2 fun h' a b c d e _ f => h h' a b c d e f
def iZipK (K : PySem.W.Frag) (ta : TA) : TI := fun σ H R => ta σ H fun vs H1 => ∃ a b xs ys k1 k2, vs = [.ref a, .ref b] ∧ Sk.Sq K k1 H1 a xs ∧ Sk.Sq K k2 H1 b ys ∧ R (ItzK K k1 k2 a b) H1
theorem pi_zipK {X : Cx} {e e2 : Expr} {ta : TA} {p pos tpos : Pos} {elts : List Expr} {kk : Nat} (hg : Gl X "zip") (hm : X.mg "zip" = none) (ha : PA X [e, e2] ta)
    (hs : starEach [e, e2] X.env = (false, eval e X.env) :: starEach [e2] X.env := by rfl) (hpl : (backTo pos (starEach [e2] X.env)).any (·.1) = false := by rfl) :
    PI X (.Tuple elts kk tpos) (.Call (.Name "zip" p) [e, e2] [] pos) (iZipK X.K ta) := by
  refine ⟨fun pins s σ H R I h => Call_ (ld_blt I hg hm PyProof.Rows.boot_zip (PyProof.Rows.callWith_type1 (thn (ha.run pos pins s σ H _ I h) fun us s1 ⟨vs, H1, I1, r1, q1⟩ => ?_) hs hpl))⟩
  obtain ⟨a, b, xs, ys, k1, k2, rfl, qx, qy, q⟩ := q1
  obtain ⟨u1, u2, rfl, ra, rb⟩ := vals2 r1
  obtain rfl : u1 = Value.ref a := ra
  obtain rfl : u2 = Value.ref b := rb
  obtain ⟨as, _, pa, la⟩ := Sk.items I1 qx
  obtain ⟨bs, _, pb, lb⟩ := Sk.items I1 qy
  have new : ∀ c, c ∈ [s1.heap.objs.size + 4, s1.heap.objs.size + 2, s1.heap.objs.size + 3, s1.heap.objs.size, s1.heap.objs.size + 1] → FpOk X pins H1 c := fun c hcm => by
    have le : s1.heap.objs.size ≤ c := by
      simp only [List.mem_cons, List.not_mem_nil, or_false] at hcm
      rcases hcm with z | z | z | z | z <;> rw [z] <;> first | exact Nat.le_refl _ | exact Nat.le_add_right _ _
    exact I1.fpOk le (I1.hok.fresh le)
  refine call_zipK pa pb fun h' g1 g2 g3 g4 g5 up => wpAny_pyIter_zip g1 ?_
  exact ⟨s1.heap.objs.size + 4, _, _, _, H1, rfl, I1.kept (t' := s1.toks) up, turn_zipK (k1 := k1) (k2 := k2) (PySem.W.ktu_apart s1.heap.objs.size a b la lb), ⟨g1, g2, ⟨_, _, g3⟩, g4, g5⟩, new, q⟩
end Lq
end
section
set_option Elab.async false
set_option linter.all false
set_option maxRecDepth 10000
namespace Lq
open PySem PySem.Spec PyProof.Rows L2
def spF (K : PySem.W.Frag) (mg : Str → Option Value) (n : Nat) (f : Fn) : Sp := fun vs H Q E => vs.length = n ∧ ∃ Z Fz ρ st ps, Rel K mg Z Fz ρ st H ∧ RepL K mg Fz ρ ps vs ∧
  Out K mg Z E Fz ρ (f ps st) (fun v _ Fz' ρ' H' => ∀ v', Rep K mg Fz' ρ' v v' → Q v' H')
structure Cl (P : Program) (w : World) (K : PySem.W.Frag) (mg : Str → Option Value) (base : Heap) (k : Nat) (x : Str) (n : Nat) (f : Fn) : Prop where
  ex : ∃ (a : Addr) (fd : FuncData) (ps : List Str), mg x = some (.ref a) ∧ PySem.W.keepIn K (.ref a) = true ∧ Binds K fd ps [] ∧ FnOk P w K mg base (L2.CX P w) k a fd ps (spF K mg n f)
def eCall (n : Nat) (f : Fn) (a : XL) : XE := fun env st => (a env st).bind fun xs s => if xs.length = n then f xs s else .no
def env0 (m : Nat) (ps : List PV) : Ev := ps.map some ++ List.replicate (m - ps.length) none
def ret (r : R Fl) : R PV := r.bind fun fl s => match fl with
  | .rt v => .ok v s
  | .nx _ => .ok .non s
  | _ => .no
def runF (m : Nat) (g : XS) : Fn := fun ps st => ret (g (env0 m ps) st)
section
variable {X : Cx} {E : XK} {a b e : Expr} {es : List Expr} {p pos : Pos} {fa fb : XE} {x : Str}
theorem s_call {n : Nat} {f : Fn} {t : TA} {fl : XL} (s : SA X.K X.mg E t fl) : SE X.K X.mg E (tCall (spF X.K X.mg n f) [] E t) (eCall n f fl) := fun Z Fz ρ env st σ H Q rl hh o => by
  refine s Z Fz ρ env st σ H _ rl hh (o.seq.mono fun xs s1 F1 r1 H1 _ ex1 rl1 o1 xs' rx => ?_)
  split at o1
  · rename_i hn
    rw [List.append_nil]
    exact ⟨by rw [← rx.len]; exact hn, Z, F1, r1, s1, xs, rl1, rx, o1⟩
  · exact o1.elim
theorem je_call {k j n : Nat} {f : Fn} {fl : XL} (c : Cl X.prog X.w X.K X.mg X.base k x n f) (hr : Room j X.A) (hx : Passes (L2.CX X.prog X.w) X E) (ha : JA X E (e :: es) fl) (hk : k ≤ j := by decide) (hg : Gl X x := by rfl) (hdb : (x == ("__debug__" : Str)) = false := by decide)
    (he : starEach (e :: es) X.env = (false, eval e X.env) :: starEach es X.env := by rfl) (hpl : (backTo pos (starEach es X.env)).any (·.1) = false := by rfl) : JE X E (.Call (.Name x p) (e :: es) [] pos) (eCall n f fl) := by
  obtain ⟨a, fd, ps, hm, hkp, hb, F⟩ := c.ex
  obtain ⟨t, pt, st⟩ := ha
  exact ⟨_, pe_call F (hr.mono hk) hg hm hkp hb .nil hx pt hdb he hpl, s_call st⟩
end
theorem renv_start {K : PySem.W.Frag} {mg : Str → Option Value} {Fz : Hp} {ρ : List Addr} {ps : List PV} {vs : List V} (N : List Str) (h : RepL K mg Fz ρ ps vs) : REnv K mg Fz ρ (env0 N.length ps) (L2.start N vs) := by
  unfold env0 L2.start
  refine ⟨by simp [h.len], fun i p e => ?_⟩
  by_cases hi : i < ps.length
  · rw [List.getElem?_append_left (by simpa using hi), List.getElem?_map] at e
    rw [List.getElem?_append_left (by simpa [← h.len] using hi), List.getElem?_map]
    cases q : ps[i]? with
    | none => rw [q] at e; cases e
    | some z =>
      rw [q] at e
      cases e
      obtain ⟨v, e1, e2⟩ := h.get q
      exact ⟨v, by rw [e1]; rfl, e2⟩
  · rw [List.getElem?_append_right (by simpa using hi)] at e
    have := List.mem_of_getElem? e
    simp [List.mem_replicate] at this
theorem fn_body {P : Program} {w : World} {K : PySem.W.Frag} {mg : Str → Option Value} {base : Heap} {x qual : Str} {params : Arguments} {body : List Stmt} {scope : Scope} {f : Addr} {fd : FuncData} {N ps : List Str} {k : Nat} {g : XS}
    (F : FunD K x qual params body scope [] [] f fd) (S : FnScope N ps scope)
    (hJ : ∀ (cdv : Value) (A : Around) (outer : List Env) (s : Shared) (H : Hp) (E : XK), Room k (A.deeper (envOfC qual scope s.heap.objs.size f cdv)) →
      JSs (cxOf (L2.CX P w) P w K mg base N qual scope f cdv A outer s H E) E body g) : FnOk P w K mg base (L2.CX P w) (k + 1) f fd ps (spF K mg ps.length (runF N.length g)) := by
  refine F.ok S (fun vs H Q E h => h.1) (fun cdv A outer s H vs Q E hr h => ?_)
  obtain ⟨t, pt, st⟩ := hJ cdv A outer s H E hr
  obtain ⟨hl, Z, Fz, ρ, sto, pvs, rl, rp, o⟩ := h
  refine ⟨t, pt, st Z Fz ρ (env0 N.length pvs) sto _ H _ rl (renv_start N rp) ?_⟩
  have o2 : Out K mg Z E Fz ρ (ret (g (env0 N.length pvs) sto)) (fun v _ Fz' ρ' H' => ∀ v', Rep K mg Fz' ρ' v v' → Q v' H') := o
  unfold ret at o2
  refine o2.seq.mono fun fl s1 F1 r1 H1 _ ex1 rl1 o1 => ?_
  cases fl with
  | rt v => exact o1.here rl1
  | nx e => exact fun σ _ => o1.here rl1 _ (by rw [Rep])
  | bk e => exact o1.elim
  | ct e => exact o1.elim
theorem cl_of {P : Program} {w : World} {K : PySem.W.Frag} {mg : Str → Option Value} {base : Heap} {k n : Nat} {x qual : Str} {params : Arguments} {body : List Stmt} {scope : Scope} {f : Addr} {fd : FuncData} {ps : List Str} {fn : Fn}
    (F : FunD K x qual params body scope [] [] f fd) (hm : mg x = some (.ref f)) (hb : Binds K fd ps []) (ok : FnOk P w K mg base (L2.CX P w) k f fd ps (spF K mg n fn)) : Cl P w K mg base k x n fn :=
  ⟨f, fd, ps, hm, F.kp, hb, ok⟩
def noX {α : Type} (r : R α) : R α := match r with
  | .ok a s => .ok a s
  | _ => .no
theorem out_E0 {α : Type} {K : PySem.W.Frag} {mg : Str → Option Value} {Z : Hp} {E' : XK} {Fz : Hp} {ρ : List Addr} {r : R α} {P : α → Store → Hp → List Addr → Hp → Prop} (h : Out K mg Z E' Fz ρ (noX r) P) : ∃ a s, r = .ok a s := by
  cases r with
  | ok a s => exact ⟨a, s, rfl⟩
  | ex c s => exact h.elim
  | no => exact h.elim
def asV (st : Store) : PV → Option (List PV)
  | .lst xs => some xs
  | .tup xs => some xs
  | .scr ns => some (ns.map PV.int)
  | .own k => (match st[k]? with
    | some (.frz xs) => some xs
    | _ => none)
  | _ => none
def ItV (K : PySem.W.Frag) (mg : Str → Option Value) (J : It) (Z F0 : Hp) (r0 : List Addr) (xs : List PV) : Prop := ∀ Z' Fz ρ st H, Ext F0 r0 Fz ρ → Rel K mg Z' Fz ρ st H →
  (∀ (i : Nat) (x : PV), xs[i]? = some x → J.go i H ∧ ∀ v H', J.yld i H v H' → ∃ Fz', Ext Fz ρ Fz' ρ ∧ Rel K mg Z' Fz' ρ st H' ∧ Rep K mg Fz' ρ x v) ∧ J.stop xs.length H
def SI (K : PySem.W.Frag) (mg : Str → Option Value) (E : XK) (wi : TI) (g : XL) : Prop := ∀ Z Fz ρ env st σ H R, Rel K mg Z Fz ρ st H → REnv K mg Fz ρ env σ →
  Out K mg Z E Fz ρ (g env st) (fun xs _ Fz' ρ' H' => ∀ J, xs.length ≤ sizeLine → ItV K mg J Z Fz' ρ' xs → R J H') → wi σ H R
def JI (X : Cx) (E : XK) (tg iter : Expr) (g : XL) : Prop := ∃ wi, PI X tg iter wi ∧ SI X.K X.mg E wi g
def iVal (f : XE) : XL := fun env st => (f env st).bind fun p s => match asV s p with
  | some xs => .ok xs s
  | none => .no
section
variable {K : PySem.W.Frag} {mg : Str → Option Value} {Z Fz : Hp} {ρ : List Addr}
theorem itv_list {a : Addr} {vs : List V} {xs : List PV} (s : SqL K Fz a vs) (r : RepL K mg Fz ρ xs vs) : ItV K mg (Itl K a) Z Fz ρ xs := fun Z' F1 r1 st H ex rl => by
  have s1 : SqL K H a vs := sqL_mono rl.fz (sqL_mono ex.fz s)
  refine ⟨fun i x e => ?_, ⟨vs, s1, by rw [← r.len]; exact Nat.le_refl _⟩⟩
  obtain ⟨v, e1, rv⟩ := r.get e
  refine ⟨⟨vs, v, s1, e1⟩, fun v' H' y => ?_⟩
  obtain ⟨rfl, y⟩ := y
  have := y vs s1
  rw [e1] at this; cases this
  exact ⟨F1, Ext.refl, rl, rv.mono ex⟩
theorem itv_tup {a : Addr} {vs : List V} {xs : List PV} (s : SqT K Fz a vs) (r : RepL K mg Fz ρ xs vs) : ItV K mg (Itt K a) Z Fz ρ xs := fun Z' F1 r1 st H ex rl => by
  have s1 : SqT K H a vs := sqT_mono rl.fz (sqT_mono ex.fz s)
  refine ⟨fun i x e => ?_, ⟨vs, s1, by rw [← r.len]; exact Nat.le_refl _⟩⟩
  obtain ⟨v, e1, rv⟩ := r.get e
  refine ⟨⟨vs, v, s1, e1⟩, fun v' H' y => ?_⟩
  obtain ⟨rfl, y⟩ := y
  have := y vs s1
  rw [e1] at this; cases this
  exact ⟨F1, Ext.refl, rl, rv.mono ex⟩
theorem asV_ok {st : Store} {H : Hp} {p : PV} {v : V} {xs : List PV} (rl : Rel K mg Z Fz ρ st H) (h : Rep K mg Fz ρ p v) (e : asV st p = some xs) : ∃ a vs, v = .ref a ∧ (SqL K Fz a vs ∨ SqT K Fz a vs) ∧ xs.length ≤ sizeLine ∧ RepL K mg Fz ρ xs vs := by
  cases p with
  | lst ys =>
    cases e
    rw [Rep] at h
    obtain ⟨a, vs, h1, h2, h3, h4⟩ := h
    exact ⟨a, vs, h1, .inl (SqL.of h2), h3, h4⟩
  | tup ys =>
    cases e
    rw [Rep] at h
    obtain ⟨a, vs, h1, h2, h3, h4⟩ := h
    exact ⟨a, vs, h1, .inr h2, h3, h4⟩
  | scr ns =>
    cases e
    rw [Rep] at h
    obtain ⟨a, h1, h2, h3⟩ := h
    exact ⟨a, _, h1, .inl h2, by simpa using h3, RepL.ints ns⟩
  | own k =>
    rw [Rep] at h
    obtain ⟨a, h1, h2⟩ := h
    cases ek : st[k]? with
    | none => simp [asV, ek] at e
    | some c =>
      cases c with
      | frz ys =>
        have : ys = xs := by simpa [asV, ek] using e
        subst this
        obtain ⟨vs, q1, q2, q3⟩ := rl.cell k a _ h1 ek
        exact ⟨a, vs, h2, .inl (SqL.of q1), q2, q3⟩
      | _ => simp [asV, ek] at e
  | _ => cases e
end
section
variable {X : Cx} {E : XK} {a b e l tg : Expr} {es : List Expr} {p pos : Pos} {fa fb : XE} {x : Str}
theorem PI.or {w1 w2 : TI} (h1 : PI X tg l w1) (h2 : PI X tg l w2) : PI X tg l (fun σ H R => w1 σ H R ∨ w2 σ H R) :=
  ⟨fun pins s σ H R I h => h.elim (fun h => h1.run pins s σ H R I h) fun h => h2.run pins s σ H R I h⟩
theorem ji_seq (h : JE X E l fa) : JI X E tg l (iVal fa) := by
  obtain ⟨t, pt, s⟩ := h
  refine ⟨fun σ H R => t σ H fun x H1 => (∃ a, x = .ref a ∧ (∃ xs, SqL X.K H1 a xs) ∧ R (Itl X.K a) H1) ∨ (∃ a, x = .ref a ∧ (∃ xs, SqT X.K H1 a xs) ∧ R (Itt X.K a) H1), ⟨fun pins sh σ H R I h => ?_⟩, fun Z Fz ρ env st σ H R rl hh o => ?_⟩
  · -- from the value on, as a list or as a tuple
    refine thn (pt.run pins sh σ H _ I h) fun u s1 w => ?_
    obtain ⟨y, G, J1, ry, c⟩ := w
    have fresh : ∀ d, d ∈ [s1.heap.objs.size] → FpOk X pins G d := fun d hd => by
      rw [List.mem_singleton] at hd
      rw [hd]
      exact J1.fpOk Nat.le.refl (J1.hok.fresh Nat.le.refl)
    rcases c with ⟨d, rfl, ⟨ws, hw⟩, k⟩ | ⟨d, rfl, ⟨ws, hw⟩, k⟩
    · obtain rfl : u = Value.ref d := ry
      obtain ⟨its, _, hp, _⟩ := J1.list hw
      exact wpAny_pyIter_list hp.isList ⟨_, [s1.heap.objs.size], _, Itl X.K d, G, rfl,
        J1.kept (t' := s1.toks) (fun b o z => Heap.get?_push_of_some _ z), turn_list d _, ⟨_, Heap.get?_push_size _ rfl, rfl, rfl⟩, fresh, k⟩
    · obtain rfl : u = Value.ref d := ry
      obtain ⟨its, _, hp, _⟩ := J1.tuple hw
      exact wpAny_pyIter_tuple (t := d) (items := its.toArray) hp ⟨_, [s1.heap.objs.size], _, Itt X.K d, G, rfl,
        J1.kept (t' := s1.toks) (fun b o z => Heap.get?_push_of_some _ z), turn_tuple d _, ⟨_, Heap.get?_push_size _ rfl, rfl, rfl⟩, fresh, k⟩
  · refine s Z Fz ρ env st σ H _ rl hh (o.seq.mono fun x s1 F1 r1 H1 _ ex1 rl1 o1 x' rx => ?_)
    split at o1
    · rename_i xs es
      obtain ⟨a, vs, rfl, sq, hl, rr⟩ := asV_ok rl1 rx es
      rcases sq with sq | sq
      · exact .inl ⟨a, rfl, ⟨vs, sqL_mono rl1.fz sq⟩, o1.here rl1 _ hl (itv_list sq rr)⟩
      · exact .inr ⟨a, rfl, ⟨vs, sqT_mono rl1.fz sq⟩, o1.here rl1 _ hl (itv_tup sq rr)⟩
    · exact o1.elim
def rng (lo : Int) (n : Nat) : List PV := (List.range n).map fun (k : Nat) => PV.int (lo + (k : Int))
theorem itv_rng {K : PySem.W.Frag} {mg : Str → Option Value} {Z Fz : Hp} {ρ : List Addr} (lo : Int) (n : Nat) : ItV K mg (Itr lo n) Z Fz ρ (rng lo n) := fun Z' F1 r1 st H ex rl => by
  refine ⟨fun i x e => ?_, (show n ≤ (rng lo n).length by simp [rng])⟩
  unfold rng at e
  rw [List.getElem?_map] at e
  by_cases h : i < n
  · rw [List.getElem?_range h] at e
    cases e
    refine ⟨h, fun v H' y => ?_⟩
    obtain ⟨rfl, rfl⟩ := y
    exact ⟨F1, Ext.refl, rl, by rw [Rep]⟩
  · rw [List.getElem?_eq_none (by simpa using h)] at e; cases e
def okR (i : Int) : Bool := decide (-(2 ^ 62) ≤ i) && decide (i < 2 ^ 62)
def iRange1 (f : XL) : XL := fun env st => (f env st).bind fun vs s => match vs with
  | [.int j] => if okR j = true ∧ j.toNat ≤ sizeLine then .ok (rng 0 j.toNat) s else .no
  | _ => .no
def iRange2 (f : XL) : XL := fun env st => (f env st).bind fun vs s => match vs with
  | [.int i, .int j] => if okR i = true ∧ okR j = true ∧ (j - i).toNat ≤ sizeLine then .ok (rng i (j - i).toNat) s else .no
  | _ => .no
theorem ji_range1 {f : XL} (ha : JA X E [a] f) (hm : X.mg "range" = none) (hg : Gl X "range" := by rfl) (hs : starEach [a] X.env = [(false, eval a X.env)] := by rfl) : JI X E tg (.Call (.Name "range" p) [a] [] pos) (iRange1 f) := by
  obtain ⟨t, pt, s⟩ := ha
  refine ⟨_, pi_range1 hg hm pt hs, fun Z Fz ρ env st σ H R rl hh o => ?_⟩
  refine s Z Fz ρ env st σ H _ rl hh (o.seq.mono fun xs s1 F1 r1 H1 hq ex1 rl1 o1 xs' rx => ?_)
  clear hq
  split at o1
  · rename_i j
    obtain ⟨v, rfl, rv⟩ := rep1 rx
    rw [Rep] at rv
    subst rv
    split at o1
    · rename_i c
      have c1 := c.1
      unfold okR at c1
      rw [Bool.and_eq_true, decide_eq_true_eq, decide_eq_true_eq] at c1
      exact ⟨j, rfl, c1.1, c1.2, o1.here rl1 _ (by simpa [rng] using c.2) (itv_rng 0 _)⟩
    · exact o1.elim
  · exact o1.elim
theorem rep2 {K : PySem.W.Frag} {mg : Str → Option Value} {Fz : Hp} {ρ : List Addr} {p q : PV} {vs : List V} (h : RepL K mg Fz ρ [p, q] vs) : ∃ v u, vs = [v, u] ∧ Rep K mg Fz ρ p v ∧ Rep K mg Fz ρ q u := by
  rw [RepL] at h
  obtain ⟨v, r, rfl, h1, h2⟩ := h
  obtain ⟨u, rfl, h3⟩ := rep1 h2
  exact ⟨v, u, rfl, h1, h3⟩
theorem ji_range2 {f : XL} (ha : JA X E [a, b] f) (hm : X.mg "range" = none) (hg : Gl X "range" := by rfl) (hs : starEach [a, b] X.env = [(false, eval a X.env), (false, eval b X.env)] := by rfl) (hs2 : starEach [b] X.env = [(false, eval b X.env)] := by rfl) :
    JI X E tg (.Call (.Name "range" p) [a, b] [] pos) (iRange2 f) := by
  obtain ⟨t, pt, s⟩ := ha
  refine ⟨_, pi_range2 hg hm pt hs hs2, fun Z Fz ρ env st σ H R rl hh o => ?_⟩
  refine s Z Fz ρ env st σ H _ rl hh (o.seq.mono fun xs s1 F1 r1 H1 hq ex1 rl1 o1 xs' rx => ?_)
  clear hq
  split at o1
  · rename_i i j
    obtain ⟨v, u, rfl, rv, ru⟩ := rep2 rx
    rw [Rep] at rv ru
    subst rv ru
    split at o1
    · rename_i c
      have c1 := c.1
      have c2 := c.2.1
      unfold okR at c1 c2
      rw [Bool.and_eq_true, decide_eq_true_eq, decide_eq_true_eq] at c1 c2
      exact ⟨i, j, rfl, ⟨c1.1, c1.2, c2.1, c2.2⟩, o1.here rl1 _ (by simpa [rng] using c.2.2) (itv_rng i _)⟩
    · exact o1.elim
  · exact o1.elim
def pairs : List PV → List PV → List PV
  | x :: xs, y :: ys => .tup [x, y] :: pairs xs ys
  | _, _ => []
theorem pairs_len : ∀ (xs ys : List PV), (pairs xs ys).length = min xs.length ys.length
  | [], _ => by simp [pairs]
  | _ :: _, [] => by simp [pairs]
  | x :: xs, y :: ys => by simp [pairs, pairs_len xs ys]
theorem pairs_get : ∀ (xs ys : List PV) (i : Nat) (z : PV), (pairs xs ys)[i]? = some z → ∃ x y, xs[i]? = some x ∧ ys[i]? = some y ∧ z = .tup [x, y]
  | [], _, _, _, h => by simp [pairs] at h
  | _ :: _, [], _, _, h => by simp [pairs] at h
  | x :: xs, y :: ys, 0, z, h => ⟨x, y, rfl, rfl, by simpa [pairs] using h.symm⟩
  | x :: xs, y :: ys, i + 1, z, h => by
    obtain ⟨a, b, h1, h2, h3⟩ := pairs_get xs ys i z (by simpa [pairs] using h)
    exact ⟨a, b, by simpa using h1, by simpa using h2, h3⟩
theorem rep_pair {K : PySem.W.Frag} {mg : Str → Option Value} {Z Fz : Hp} {ρ : List Addr} {st : Store} {H : Hp} {T : Addr} {p q : PV} {x y : V} (rl : Rel K mg Z Fz ρ st H) (hT : H T = none) (hp : Rep K mg Fz ρ p x) (hq : Rep K mg Fz ρ q y) :
    ∃ Fz', Ext Fz ρ Fz' ρ ∧ Rel K mg Z Fz' ρ st (upd H T (.tup [x, y])) ∧ Rep K mg Fz' ρ (.tup [p, q]) (.ref T) := by
  obtain ⟨rl2, ex2⟩ := rl.frozen hT (.tup [x, y])
  exact ⟨_, ex2, rl2, by rw [Rep]; exact ⟨T, _, rfl, SqT.of upd_same, (by decide : 2 ≤ sizeLine), RepL.cons (hp.mono ex2) (RepL.cons (hq.mono ex2) RepL.nil)⟩⟩
def asVL (st : Store) : PV → Option (List PV)
  | .tup _ => none
  | p => asV st p
theorem asVL_ok {K : PySem.W.Frag} {mg : Str → Option Value} {Z Fz : Hp} {ρ : List Addr} {st : Store} {H : Hp} {p : PV} {v : V} {xs : List PV} (rl : Rel K mg Z Fz ρ st H) (h : Rep K mg Fz ρ p v) (e : asVL st p = some xs) : ∃ a vs, v = .ref a ∧ SqL K Fz a vs ∧ xs.length ≤ sizeLine ∧ RepL K mg Fz ρ xs vs := by
  cases p with
  | lst ys =>
    cases e
    rw [Rep] at h
    obtain ⟨a, vs, h1, h2, h3, h4⟩ := h
    exact ⟨a, vs, h1, SqL.of h2, h3, h4⟩
  | scr ns =>
    cases e
    rw [Rep] at h
    obtain ⟨a, h1, h2, h3⟩ := h
    exact ⟨a, _, h1, h2, by simpa using h3, RepL.ints ns⟩
  | own k =>
    rw [Rep] at h
    obtain ⟨a, h1, h2⟩ := h
    cases ek : st[k]? with
    | none => simp [asVL, asV, ek] at e
    | some c =>
      cases c with
      | frz ys =>
        have : ys = xs := by simpa [asVL, asV, ek] using e
        subst this
        obtain ⟨vs, q1, q2, q3⟩ := rl.cell k a _ h1 ek
        exact ⟨a, vs, h2, SqL.of q1, q2, q3⟩
      | _ => simp [asVL, asV, ek] at e
  | _ => cases e
def iZipF (f : XL) : XL := fun env st => (f env st).bind fun vs s => match vs with
  | [p, q] => (match asV s p, asV s q with
    | some xs, some ys => .ok (pairs xs ys) s
    | _, _ => .no)
  | _ => .no
theorem skV {K : PySem.W.Frag} {mg : Str → Option Value} {Z Fz : Hp} {ρ : List Addr} {st : Store} {H : Hp} {p : PV} {v : V} {xs : List PV} (rl : Rel K mg Z Fz ρ st H) (h : Rep K mg Fz ρ p v) (e : asV st p = some xs) : ∃ a vs k, v = .ref a ∧ Sk.Sq K k Fz a vs ∧ xs.length ≤ sizeLine ∧ RepL K mg Fz ρ xs vs := by
  cases p with
  | tup ys =>
    cases e
    rw [Rep] at h
    obtain ⟨a, vs, h1, h2, h3, h4⟩ := h
    exact ⟨a, vs, .T, h1, h2, h3, h4⟩
  | _ =>
    obtain ⟨a, vs, h1, h2, h3, h4⟩ := asVL_ok rl h (show asVL st _ = some xs from e)
    exact ⟨a, vs, .L, h1, h2, h3, h4⟩
theorem sk_mono {K : PySem.W.Frag} {k : Sk} {F F' : Hp} (h : ∀ a o, F a = some o → F' a = some o) {a : Addr} {vs : List V} (r : Sk.Sq K k F a vs) : Sk.Sq K k F' a vs := by
  cases k
  · exact sqL_mono h r
  · exact sqT_mono h r
theorem itv_zipK {K : PySem.W.Frag} {mg : Str → Option Value} {Z Fz : Hp} {ρ : List Addr} {k1 k2 : Sk} {c d : Addr} {vs ws : List V} {xs ys : List PV} (s : Sk.Sq K k1 Fz c vs) (r : RepL K mg Fz ρ xs vs) (s' : Sk.Sq K k2 Fz d ws) (r' : RepL K mg Fz ρ ys ws) :
    ItV K mg (ItzK K k1 k2 c d) Z Fz ρ (pairs xs ys) := fun Z' F1 r1 st H ex rl => by
  have s1 := sk_mono rl.fz (sk_mono ex.fz s)
  have s2 := sk_mono rl.fz (sk_mono ex.fz s')
  refine ⟨fun i x e => ?_, ⟨vs, ws, s1, s2, ?_⟩⟩
  · obtain ⟨p, q, e1, e2, rfl⟩ := pairs_get xs ys i x e
    obtain ⟨v, f1, rv⟩ := r.get e1
    obtain ⟨u, f2, ru⟩ := r'.get e2
    refine ⟨⟨vs, ws, v, u, s1, s2, f1, f2⟩, fun z H' y => ?_⟩
    obtain ⟨T, x0, y0, rfl, hT, rfl, k1, k2⟩ := y
    have := k1 vs s1; rw [f1] at this; cases this
    have := k2 ws s2; rw [f2] at this; cases this
    exact rep_pair rl hT (rv.mono ex) (ru.mono ex)
  · rw [pairs_len, r.len, r'.len]
    omega
theorem ji_zip {f : XL} {elts : List Expr} {kk : Nat} {tpos : Pos} (ha : JA X E [a, b] f) (hm : X.mg "zip" = none) (hg : Gl X "zip" := by rfl)
    (hs : starEach [a, b] X.env = (false, eval a X.env) :: starEach [b] X.env := by rfl) (hpl : (backTo pos (starEach [b] X.env)).any (·.1) = false := by rfl) : JI X E (.Tuple elts kk tpos) (.Call (.Name "zip" p) [a, b] [] pos) (iZipF f) := by
  obtain ⟨t, pt, s⟩ := ha
  refine ⟨_, pi_zipK hg hm pt hs hpl, fun Z Fz ρ env st σ H R rl hh o => ?_⟩
  refine s Z Fz ρ env st σ H _ rl hh (o.seq.mono fun xs s1 F1 r1 H1 hq ex1 rl1 o1 xs' rx => ?_)
  clear hq
  split at o1
  · obtain ⟨v, u, rfl, rv, ru⟩ := rep2 rx
    split at o1
    · rename_i ps qs e1 e2
      obtain ⟨c, vs, k1, rfl, sv, lv, rv⟩ := skV rl1 rv e1
      obtain ⟨d, ws, k2, rfl, sw, lw, rw'⟩ := skV rl1 ru e2
      exact ⟨c, d, vs, ws, k1, k2, rfl, sk_mono rl1.fz sv, sk_mono rl1.fz sw, o1.here rl1 _ (by rw [pairs_len]; omega) (itv_zipK sv rv sw rw')⟩
    · exact o1.elim
  · exact o1.elim
def nums (xs : List PV) : List PV := pairs (rng 0 xs.length) xs
theorem rng_get {lo : Int} {n i : Nat} (h : i < n) : (rng lo n)[i]? = some (.int (lo + (i : Int))) := by
  unfold rng
  rw [List.getElem?_map, List.getElem?_range h]
  rfl
theorem itv_enum {K : PySem.W.Frag} {mg : Str → Option Value} {Z Fz : Hp} {ρ : List Addr} {c : Addr} {vs : List V} {xs : List PV} (s : SqL K Fz c vs) (r : RepL K mg Fz ρ xs vs) : ItV K mg (Ite K c) Z Fz ρ (nums xs) := fun Z' F1 r1 st H ex rl => by
  have s1 : SqL K H c vs := sqL_mono rl.fz (sqL_mono ex.fz s)
  refine ⟨fun i x e => ?_, ⟨vs, s1, ?_⟩⟩
  · obtain ⟨p, q, e1, e2, rfl⟩ := pairs_get _ _ i x e
    obtain ⟨v, f1, rv⟩ := r.get e2
    have hi : i < xs.length := (List.getElem?_eq_some_iff.mp e2).1
    rw [rng_get hi] at e1
    cases e1
    refine ⟨⟨vs, v, s1, f1⟩, fun z H' y => ?_⟩
    obtain ⟨T, x0, rfl, hT, rfl, k1⟩ := y
    have := k1 vs s1; rw [f1] at this; cases this
    exact rep_pair rl hT (by rw [Rep]; simp) (rv.mono ex)
  · unfold nums
    rw [pairs_len]
    simp [rng, r.len]
def signs (z : Str) : List PV := z.cps.toList.map fun c => PV.str ⟨#[c]⟩
end
end Lq
end
section
set_option Elab.async false
set_option linter.all false
set_option maxRecDepth 10000
namespace Lq
open PySem PySem.Spec PyProof.Rows L2
section
variable (K : PySem.W.Frag) (mg : Str → Option Value) (E : XK)
def tOf (f : XE) : TE := fun σ H Q => ∃ Z Fz ρ env st, Rel K mg Z Fz ρ st H ∧ REnv K mg Fz ρ env σ ∧ Out K mg Z E Fz ρ (f env st) (fun v _ Fz' ρ' H' => ∀ v', Rep K mg Fz' ρ' v v' → Q v' H')
def tOfT (f : Ev → Store → R Bool) : TT := fun σ H Q => ∃ Z Fz ρ env st, Rel K mg Z Fz ρ st H ∧ REnv K mg Fz ρ env σ ∧ Out K mg Z E Fz ρ (f env st) (fun b _ _ _ H' => Q b H')
def tOfI (g : XL) : TI := fun σ H R => ∃ Z Fz ρ env st, Rel K mg Z Fz ρ st H ∧ REnv K mg Fz ρ env σ ∧ Out K mg Z E Fz ρ (g env st) (fun xs _ Fz' ρ' H' => ∀ J, xs.length ≤ sizeLine → ItV K mg J Z Fz' ρ' xs → R J H')
def SGv (vs : List Nat) (t : TG) (f : PV → Ev → Store → R Ev) : Prop := ∀ Z Fz ρ env st σ H p v Q, Rel K mg Z Fz ρ st H → REnv K mg Fz ρ env σ → Rep K mg Fz ρ p v →
  Out K mg Z E Fz ρ (f p env st) (fun e _ Fz' ρ' H' => ∀ σ' : L2.St, REnv K mg Fz' ρ' e σ' → (σ'.length = σ.length ∧ ∀ j : Nat, j ∉ vs → σ'[j]? = σ[j]?) → Q σ' H') → t v σ H Q
def tOfG (vs : List Nat) (f : PV → Ev → Store → R Ev) : TG := fun v σ H Q => ∃ Z Fz ρ env st p, Rel K mg Z Fz ρ st H ∧ REnv K mg Fz ρ env σ ∧ Rep K mg Fz ρ p v ∧
  Out K mg Z E Fz ρ (f p env st) (fun e _ Fz' ρ' H' => ∀ σ' : L2.St, REnv K mg Fz' ρ' e σ' → (σ'.length = σ.length ∧ ∀ j : Nat, j ∉ vs → σ'[j]? = σ[j]?) → Q σ' H')
end
def JGv (X : Cx) (E : XK) (vs : List Nat) (e : Expr) (f : PV → Ev → Store → R Ev) : Prop := ∃ t, PG X e t ∧ SGv X.K X.mg E vs t f
def JTs (X : Cx) (E : XK) (es : List Expr) (f : Ev → Store → R Bool) : Prop := ∃ t, PTs X es t ∧ STt X.K X.mg E t f
section
variable {X : Cx} {E : XK}
theorem JE.pe {e : Expr} {f : XE} (h : JE X E e f) : PE X e (tOf X.K X.mg E f) := by
  obtain ⟨t, p, s⟩ := h
  exact ⟨fun pins sh σ H Q I ⟨Z, Fz, ρ, env, st, rl, re, o⟩ => p.run pins sh σ H Q I (s Z Fz ρ env st σ H Q rl re o)⟩
theorem JTs.pe {e : List Expr} {f} (h : JTs X E e f) : PTs X e (tOfT X.K X.mg E f) := by
  obtain ⟨t, p, s⟩ := h
  exact ⟨fun pins sh σ H Q I ⟨Z, Fz, ρ, env, st, rl, re, o⟩ => p.run pins sh σ H Q I (s Z Fz ρ env st σ H Q rl re o)⟩
theorem JI.pe {tg e : Expr} {f} (h : JI X E tg e f) : PI X tg e (tOfI X.K X.mg E f) := by
  obtain ⟨t, p, s⟩ := h
  exact ⟨fun pins sh σ H Q I ⟨Z, Fz, ρ, env, st, rl, re, o⟩ => p.run pins sh σ H Q I (s Z Fz ρ env st σ H Q rl re o)⟩
theorem JGv.pe {e : Expr} {vs : List Nat} {f} (h : JGv X E vs e f) : PG X e (tOfG X.K X.mg E vs f) := by
  obtain ⟨t, p, s⟩ := h
  exact ⟨fun pins sh σ H v u Q I r ⟨Z, Fz, ρ, env, st, q, rl, re, rv, o⟩ => p.run pins sh σ H v u Q I r (s Z Fz ρ env st σ H q v Q rl re rv o)⟩
theorem jts_nil : JTs X E [] (fun _ st => .ok true st) := ⟨_, pts_nil, fun Z Fz ρ env st σ H Q rl hh o => o.here rl⟩
theorem jts_one {c : Expr} {f} (h : JT X E c f) : JTs X E [c] f := let ⟨t, p, s⟩ := h; ⟨t, pts_one p, s⟩
end
section
variable {K : PySem.W.Frag} {mg : Str → Option Value} {Fz : Hp} {ρ : List Addr}
theorem REnv.set {env : Ev} {σ : L2.St} {p : PV} {v : V} (h : REnv K mg Fz ρ env σ) (r : Rep K mg Fz ρ p v) (i : Nat) : REnv K mg Fz ρ (env.set i (some p)) (σ.set i (some v)) := by
  refine ⟨by simp [h.1], fun j q e => ?_⟩
  by_cases hj : i = j
  · subst hj
    have hi : i < env.length := by
      have := (List.getElem?_eq_some_iff.mp e).1
      simpa using this
    rw [List.getElem?_set_self hi] at e
    cases e
    exact ⟨v, by rw [List.getElem?_set_self (by rw [← h.1]; exact hi)], r⟩
  · rw [List.getElem?_set_ne hj] at e ⊢
    exact h.2 j q e
def wipeE (env : Ev) : List Nat → Ev
  | [] => env
  | v :: vs => (wipeE env vs).set v none
theorem REnv.wipe {env : Ev} {σ : L2.St} (h : REnv K mg Fz ρ env σ) : ∀ vs : List Nat, REnv K mg Fz ρ (wipeE env vs) (L2.wipe σ vs)
  | [] => h
  | v :: vs => by
    obtain ⟨h1, h2⟩ := REnv.wipe h vs
    unfold wipeE L2.wipe
    refine ⟨by simp [h1], fun j q e => ?_⟩
    by_cases hj : v = j
    · subst hj
      have hi : v < (wipeE env vs).length := by
        have := (List.getElem?_eq_some_iff.mp e).1
        simpa using this
      rw [List.getElem?_set_self hi] at e
      cases e
    · rw [List.getElem?_set_ne hj] at e ⊢
      exact h2 j q e
end
theorem wipe_get (σ : L2.St) : ∀ (vs : List Nat) (j : Nat), (L2.wipe σ vs)[j]? = if j ∈ vs then (if j < σ.length then some none else none) else σ[j]?
  | [], j => by simp [L2.wipe]
  | v :: vs, j => by
    unfold L2.wipe
    by_cases hv : v = j
    · subst hv
      by_cases hl : v < σ.length
      · rw [List.getElem?_set_self (by rw [L2.wipe_length]; exact hl)]; simp [hl]
      · rw [List.getElem?_eq_none (by simp [L2.wipe_length]; omega)]; simp [hl]
    · rw [List.getElem?_set_ne hv, wipe_get σ vs j]
      have : (j ∈ v :: vs) ↔ j ∈ vs := by simp [Ne.symm hv]
      simp only [this]
theorem wipe_eq {σ σ' : L2.St} {vs : List Nat} (hl : σ'.length = σ.length) (h : ∀ j, j ∉ vs → σ'[j]? = (L2.wipe σ vs)[j]?) : L2.wipe σ' vs = L2.wipe σ vs := by
  refine List.ext_getElem? fun j => ?_
  rw [wipe_get, wipe_get, hl]
  by_cases hj : j ∈ vs
  · simp [hj]
  · simp only [hj, if_false]
    rw [h j hj, wipe_get]; simp [hj]
def gNm (i : Nat) : PV → Ev → Store → R Ev := fun p env st => .ok (env.set i (some p)) st
def gTp (n : Nat) (gs : List PV → Ev → Store → R Ev) : PV → Ev → Store → R Ev := fun p env st => match p with
  | .tup xs => if xs.length = n then gs xs env st else .no
  | _ => .no
def gsNil : List PV → Ev → Store → R Ev := fun xs env st => match xs with
  | [] => .ok env st
  | _ => .no
def gsCons (g : PV → Ev → Store → R Ev) (gs : List PV → Ev → Store → R Ev) : List PV → Ev → Store → R Ev := fun xs env st => match xs with
  | x :: r => (g x env st).bind fun e s => gs r e s
  | [] => .no
def SGsv (K : PySem.W.Frag) (mg : Str → Option Value) (E : XK) (vs : List Nat) (t : TGs) (f : List PV → Ev → Store → R Ev) : Prop := ∀ Z Fz ρ env st σ H p v Q, Rel K mg Z Fz ρ st H → REnv K mg Fz ρ env σ → RepL K mg Fz ρ p v →
  Out K mg Z E Fz ρ (f p env st) (fun e _ Fz' ρ' H' => ∀ σ' : L2.St, REnv K mg Fz' ρ' e σ' → (σ'.length = σ.length ∧ ∀ j : Nat, j ∉ vs → σ'[j]? = σ[j]?) → Q σ' H') → t v σ H Q
def JGsv (X : Cx) (E : XK) (vs : List Nat) (es : List Expr) (f : List PV → Ev → Store → R Ev) : Prop := ∃ t, PGs X es t ∧ SGsv X.K X.mg E vs t f
section
variable {X : Cx} {E : XK} {e : Expr} {es : List Expr} {pos : Pos} {vs ws : List Nat}
theorem jg_name {i : Nat} {x : Str} (hN : X.N.Nodup) (hv : i ∈ vs := by decide) (hi : X.N[i]? = some x := by rfl) (hx : Loc X.env.scope x := by first | exact .inl rfl | exact .inr rfl)
    (hf : X.fn x = true ∨ X.env.scope.names.lookup x = some .local := by first | exact .inl rfl | exact .inr rfl | assumption) : JGv X E vs (.Name x pos) (gNm i) :=
  ⟨_, pg_name hN hi hx hf, fun Z Fz ρ env st σ H p v Q rl re rv o => o.here rl _ (re.set rv i) ⟨by simp, fun j hj => List.getElem?_set_ne fun z => hj (by rw [← z]; exact hv)⟩⟩
theorem jgs_nil : JGsv X E vs [] gsNil := ⟨_, pgs_nil, fun Z Fz ρ env st σ H p v Q rl re rv o => by
  cases p with
  | nil =>
    rw [RepL] at rv
    subst rv
    exact ⟨rfl, o.here rl σ re ⟨rfl, fun _ _ => rfl⟩⟩
  | cons => exact o.elim⟩
theorem jgs_cons {f fs} (h1 : JGv X E vs e f) (h2 : JGsv X E vs es fs) (hs : (assignEach (e :: es) X.env).map (·.2) = assign e X.env :: (assignEach es X.env).map (·.2) := by rfl) : JGsv X E vs (e :: es) (gsCons f fs) := by
  obtain ⟨t, p, s⟩ := h1
  obtain ⟨t', p', s'⟩ := h2
  refine ⟨_, pgs_cons p p' hs, fun Z Fz ρ env st σ H q v Q rl re rv o => ?_⟩
  cases q with
  | nil => exact o.elim
  | cons x r =>
    rw [RepL] at rv
    obtain ⟨v1, vr, rfl, r1, r2⟩ := rv
    refine ⟨v1, vr, rfl, s Z Fz ρ env st σ H x v1 _ rl re r1 ?_⟩
    have o' : Out X.K X.mg Z E Fz ρ ((f x env st).bind fun e s => fs r e s) _ := o
    refine o'.seq.mono fun e1 s1 F1 rr1 H1 _ ex1 rl1 o1 σ1 re1 k1 => ?_
    exact s' Z F1 rr1 e1 s1 σ1 H1 r vr Q rl1 re1 (r2.mono ex1) (o1.mono fun e2 s2 F2 rr2 H2 _ ex2 rl2 o2 σ2 re2 k2 => o2 σ2 re2 ⟨k2.1.trans k1.1, fun j hj => (k2.2 j hj).trans (k1.2 j hj)⟩)
theorem jg_tup {k : Nat} {fs} {n : Nat} (hc : X.calm = true) (h : JGsv X E vs es fs) (hn : (assignEach es X.env).length = n := by rfl) (hst : (assignEach es X.env).findIdx? (·.1) = none := by rfl) : JGv X E vs (.Tuple es k pos) (gTp n fs) := by
  obtain ⟨t, p, s⟩ := h
  refine ⟨_, pg_tup hc p hn hst, fun Z Fz ρ env st σ H q v Q rl re rv o => ?_⟩
  cases q with
  | tup xs =>
    rw [Rep] at rv
    obtain ⟨a, ws, rfl, r1, r2, r3⟩ := rv
    have o' : Out X.K X.mg Z E Fz ρ (if xs.length = n then fs xs env st else .no) _ := o
    split at o'
    · rename_i hl
      exact ⟨a, ws, rfl, sqT_mono rl.fz r1, by rw [← r3.len]; exact hl, s Z Fz ρ env st σ H xs ws Q rl re r3 o'⟩
    · exact o'.elim
  | _ => exact o.elim
def compV (ft : PV → Ev → Store → R Ev) (tt : Ev → Store → R Bool) (fe : XE) (env : Ev) : List PV → Store → R (List PV)
  | [], st => .ok [] st
  | x :: xs, st => (ft x env st).bind fun e s1 => (tt e s1).bind fun b s2 =>
    if b = true then (fe e s2).bind fun y s3 => (compV ft tt fe env xs s3).bind fun ys s4 => .ok (y :: ys) s4 else compV ft tt fe env xs s2
def fComp (g : XL) (ft : PV → Ev → Store → R Ev) (tt : Ev → Store → R Bool) (fe : XE) (vs : List Nat) : XL := fun env st => (g env st).bind fun xs s => noX (compV ft tt fe (wipeE env vs) xs s)
theorem bind_ok {α β : Type} {r : R α} {k : α → Store → R β} {b : β} {s : Store} (h : r.bind k = .ok b s) : ∃ a s1, r = .ok a s1 ∧ k a s1 = .ok b s := by
  cases r with
  | ok a s1 => exact ⟨a, s1, rfl, h⟩
  | ex c s1 => cases h
  | no => cases h
theorem zwrite {K : PySem.W.Frag} {mg : Str → Option Value} {Z Fz : Hp} {ρ : List Addr} {st : Store} {H : Hp} {D : Addr} {o o' : HO} (rl : Rel K mg (upd Z D o) Fz ρ st H) : Rel K mg (upd Z D o') Fz ρ st (upd H D o') := by
  obtain ⟨d1, d2, d3⟩ := rl.zf D o upd_same
  refine ⟨fun a u e => ?_, fun a u e => ?_, rl.len, fun k a x e1 e2 => ?_, rl.apart, rl.nd⟩
  · by_cases h : a = D
    · subst h; rw [upd_same] at e ⊢; exact ⟨e, d2, d3⟩
    · rw [upd_ne h] at e ⊢
      exact rl.zf a u (by rw [upd_ne h]; exact e)
  · rw [upd_ne (fun z => by subst z; rw [d2] at e; cases e)]; exact rl.fz _ _ e
  · exact (rl.cell k a x e1 e2).mono Ext.refl fun u q => by rw [upd_ne (fun z => by subst z; exact d3 (List.mem_of_getElem? e1))]; exact q
theorem znew {K : PySem.W.Frag} {mg : Str → Option Value} {Z Fz : Hp} {ρ : List Addr} {st : Store} {H : Hp} {D : Addr} (rl : Rel K mg Z Fz ρ st H) (hD : H D = none) (o : HO) : Rel K mg (upd Z D o) Fz ρ st (upd H D o) := by
  obtain ⟨d2, d3⟩ := rl.free hD
  refine ⟨fun a u e => ?_, fun a u e => ?_, rl.len, fun k a x e1 e2 => ?_, rl.apart, rl.nd⟩
  · by_cases h : a = D
    · subst h; rw [upd_same] at e ⊢; exact ⟨e, d2, d3⟩
    · rw [upd_ne h] at e ⊢
      exact rl.zf a u e
  · rw [upd_ne (fun z => by subst z; rw [d2] at e; cases e)]; exact rl.fz _ _ e
  · exact (rl.cell k a x e1 e2).mono Ext.refl fun u q => by rw [upd_ne (fun z => by subst z; exact d3 (List.mem_of_getElem? e1))]; exact q
def off (H : Hp) (D : Addr) : Hp := fun b => if b = D then none else H b
theorem off_same {H : Hp} {D : Addr} : off H D D = none := by unfold off; rw [if_pos rfl]
theorem off_ne {H : Hp} {D b : Addr} (h : b ≠ D) : off H D b = H b := by unfold off; rw [if_neg h]
theorem off_upd {H : Hp} {D : Addr} {o : HO} (h : H D = some o) : upd (off H D) D o = H := by
  funext b
  by_cases hb : b = D
  · subst hb; rw [upd_same, h]
  · rw [upd_ne hb, off_ne hb]
theorem zoff {K : PySem.W.Frag} {mg : Str → Option Value} {Z Fz : Hp} {ρ : List Addr} {st : Store} {H : Hp} {D : Addr} {o : HO} (rl : Rel K mg (upd Z D o) Fz ρ st H) (hZ : Z D = none) : Rel K mg Z Fz ρ st (off H D) := by
  obtain ⟨d1, d2, d3⟩ := rl.zf D o upd_same
  refine ⟨fun a u e => ?_, fun a u e => ?_, rl.len, fun k a x e1 e2 => ?_, rl.apart, rl.nd⟩
  · have h : a ≠ D := fun z => by subst z; rw [hZ] at e; cases e
    rw [off_ne h]
    exact rl.zf a u (by rw [upd_ne h]; exact e)
  · rw [off_ne (fun z => by subst z; rw [d2] at e; cases e)]; exact rl.fz _ _ e
  · exact (rl.cell k a x e1 e2).mono Ext.refl fun u q => by rw [off_ne (fun z => by subst z; exact d3 (List.mem_of_getElem? e1))]; exact q
section
variable {K : PySem.W.Frag} {mg : Str → Option Value}
theorem lc_read {E : XK} {wi : TI} {g : XL} {ft : PV → Ev → Store → R Ev} {tt : Ev → Store → R Bool} {fe : XE} {vs : List Nat} (sw : SI K mg E wi g) :
    SF K mg E (tLc wi (tOfG K mg E0 vs ft) (tOfT K mg E0 tt) (tOf K mg E0 fe) vs) (fComp g ft tt fe vs) := fun Z Fz ρ env st σ H Q rl re o => by
  refine sw Z Fz ρ env st σ H _ rl re (o.seq.mono fun xs s1 F1 r1 H1 _ ex1 rl1 o1 J hlen it D hD => ?_)
  obtain ⟨ys, sf, ec⟩ := out_E0 o1
  have o2 : Out K mg Z E F1 r1 (noX (compV ft tt fe (wipeE env vs) xs s1)) _ := o1
  rw [ec] at o2
  have hZD : Z D = none := by
    cases e : Z D with
    | none => rfl
    | some u => rw [(rl1.zf D u e).1] at hD; cases hD
  refine ⟨fun i m H => m = xs.length - i ∧ i ≤ xs.length ∧ ∃ (acc : List PV) (accv : List V) (F : Hp) (r : List Addr) (s : Store) (rest : List PV),
    Ext F1 r1 F r ∧ Rel K mg (upd Z D (.lst accv)) F r s H ∧ RepL K mg F r acc accv ∧ acc.length ≤ i ∧ compV ft tt fe (wipeE env vs) (xs.drop i) s = .ok rest sf ∧ acc ++ rest = ys, ?_, ?_⟩
  · exact ⟨_, rfl, Nat.zero_le _, [], [], F1, r1, s1, ys, Ext.refl, znew rl1 hD _, RepL.nil, Nat.le_refl _, by simpa using ec, rfl⟩
  · rintro i m H2 ⟨rfl, hi, acc, accv, F, r, s, rest, ex, rl2, ra, hacc, eq, hy⟩
    obtain ⟨ig, is⟩ := it (upd Z D (.lst accv)) F r s H2 ex rl2
    by_cases hlt : i < xs.length
    · right
      have ed : xs.drop i = xs[i] :: xs.drop (i + 1) := List.drop_eq_getElem_cons hlt
      obtain ⟨go, yl⟩ := ig i xs[i] (by simp [hlt])
      refine ⟨go, fun H' => ∃ (acc : List PV) (accv : List V) (F : Hp) (r : List Addr) (s : Store) (rest : List PV),
        Ext F1 r1 F r ∧ Rel K mg (upd Z D (.lst accv)) F r s H' ∧ RepL K mg F r acc accv ∧ acc.length ≤ i + 1 ∧ compV ft tt fe (wipeE env vs) (xs.drop (i + 1)) s = .ok rest sf ∧ acc ++ rest = ys,
        fun H' h => ⟨xs.length - (i + 1), by omega, rfl, hlt, h⟩, fun x H' y => ?_⟩
      obtain ⟨F3, ex3, rl3, rx⟩ := yl x H' y
      rw [ed] at eq
      unfold compV at eq
      obtain ⟨e1, t1, q1, eq⟩ := bind_ok eq
      obtain ⟨b, t2, q2, eq⟩ := bind_ok eq
      refine ⟨_, F3, r, wipeE env vs, s, xs[i], rl3, ((re.mono ex1).mono (ex.trans ex3)).wipe vs, rx, ?_⟩
      rw [q1]
      intro F4 r4 H4 ex4 rl4 σ4 re4 k4
      have hl4 : σ4.length = σ.length := by rw [k4.1, L2.wipe_length]
      refine ⟨wipe_eq hl4 k4.2, _, F4, r4, e1, t1, rl4, re4, ?_⟩
      rw [q2]
      intro F5 r5 H5 ex5 rl5
      cases b with
      | true =>
        rw [if_pos rfl] at eq ⊢
        obtain ⟨y', t3, q3, eq⟩ := bind_ok eq
        obtain ⟨zs, t4, q4, eq⟩ := bind_ok eq
        cases eq
        refine ⟨_, F5, r5, e1, t2, rl5, re4.mono ex5, ?_⟩
        rw [q3]
        intro F6 r6 H6 ex6 rl6 v6 rv6
        refine ⟨accv, (rl6.zf D _ upd_same).1, ?_, acc ++ [y'], accv ++ [v6], F6, r6, t3, zs, ?_, zwrite rl6, ?_, ?_, q4, ?_⟩
        · have : acc.length = accv.length := ra.len
          rw [← this]; omega
        · exact ex.trans (ex3.trans (ex4.trans (ex5.trans ex6)))
        · exact (ra.mono (ex3.trans (ex4.trans (ex5.trans ex6)))).app (RepL.cons rv6 RepL.nil)
        · simp; omega
        · rw [← hy]; simp
      | false =>
        rw [if_neg Bool.false_ne_true] at eq ⊢
        exact ⟨acc, accv, F5, r5, t2, rest, ex.trans (ex3.trans (ex4.trans ex5)), rl5, ra.mono (ex3.trans (ex4.trans ex5)), by omega, eq, hy⟩
    · left
      have hi' : i = xs.length := by omega
      subst hi'
      refine ⟨is, ?_⟩
      rw [List.drop_length] at eq
      cases eq
      rw [List.append_nil] at hy
      subst hy
      obtain ⟨d1, d2, d3⟩ := rl2.zf D _ upd_same
      have z := o2 F r (off H2 D) ex (zoff rl2 hZD) D accv off_same (by omega) ra
      rw [off_upd d1] at z
      exact z
end
abbrev Blk (X : Cx) (scope : Scope) (p : Cx → Prop) : Prop := ∀ (s : Shared) (H : Hp) (C : Addr) (cl : List (Str × Addr)) (fp : List Addr), p (X.blk s H scope (compEnvC scope cl C X.env) fp)
variable {elt tg iter tg1 iter1 : Expr} {ifs ifs1 : List Expr} {scope : Scope} {own : List (Str × Nat)} {g g1 : XL} {ft ft1 : PV → Ev → Store → R Ev} {tt tt1 : Ev → Store → R Bool} {fe : XE}
theorem jf_lc (hc : X.calm = true) (hN : X.N.Nodup) (ok : BlkOk X.N X.env.scope scope own) (hi : JI X E tg iter g)
    (hg : Blk X scope fun Y => JGv Y E0 (own.map (·.2)) tg ft) (ht : Blk X scope fun Y => JTs Y E0 ifs tt) (he : Blk X scope fun Y => JE Y E0 elt fe)
    (hs : ∀ x, foldedSetIterable iter X.env x = pure x := by intro _; rfl) : JF X E (.ListComp elt [⟨tg, iter, ifs, 0⟩] scope pos) (fComp g ft tt fe (own.map (·.2))) := by
  obtain ⟨wi, pw, sw⟩ := hi
  exact ⟨_, pe_lc hc hN pw ok (fun s H C cl fp => (hg s H C cl fp).pe) (fun s H C cl fp => (ht s H C cl fp).pe) (fun s H C cl fp => (he s H C cl fp).pe) hs, lc_read sw⟩
end
end Lq
end
section
set_option Elab.async false
set_option linter.all false
set_option maxRecDepth 10000
namespace Lq
open PySem PySem.Spec PyProof.Rows L2
def sNil : XS := fun env st => .ok (.nx env) st
def sSeq (a b : XS) : XS := fun env st => (a env st).bind fun fl s => match fl with
  | .nx e => b e s
  | fl => .ok fl s
def sSet (i : Nat) (f : XE) : XS := fun env st => (f env st).bind fun v s => .ok (.nx (env.set i (some v))) s
def sAsg (f : XE) (g : PV → Ev → Store → R Ev) : XS := fun env st => (f env st).bind fun v s => (g v env s).bind fun e s2 => .ok (.nx e) s2
def sPar (i j : Nat) (f : XL) : XS := fun env st => (f env st).bind fun vs s => match vs with
  | [v, w] => .ok (.nx ((env.set i (some v)).set j (some w))) s
  | _ => .no
def sDrop (f : XE) : XS := fun env st => (f env st).bind fun _ s => .ok (.nx env) s
def sRet (f : XE) : XS := fun env st => (f env st).bind fun v s => .ok (.rt v) s
def sIf (c : Ev → Store → R Bool) (a b : XS) : XS := fun env st => (c env st).bind fun k s => if k = true then a env s else b env s
def loopV (ft : PV → Ev → Store → R Ev) (body : XS) : List PV → Ev → Store → R Fl
  | [], env, st => .ok (.nx env) st
  | x :: xs, env, st => (ft x env st).bind fun e s1 => (body e s1).bind fun fl s2 => match fl with
    | .nx e2 => loopV ft body xs e2 s2
    | .ct e2 => loopV ft body xs e2 s2
    | .bk e2 => .ok (.nx e2) s2
    | .rt v => .ok (.rt v) s2
def sFor (g : XL) (ft : PV → Ev → Store → R Ev) (body : XS) : XS := fun env st => (g env st).bind fun xs s => loopV ft body xs env s
def sWhile (c : Ev → Store → R Bool) (body : XS) : Nat → XS
  | 0 => fun _ _ => .no
  | n + 1 => fun env st => (c env st).bind fun b s => if b = true then (body env s).bind fun fl s2 => (match fl with
    | .nx e => sWhile c body n e s2
    | .ct e => sWhile c body n e s2
    | .bk e => .ok (.nx e) s2
    | .rt v => .ok (.rt v) s2) else .ok (.nx env) s
def cellL (st : Store) (k : Nat) : Option (List PV) := match st[k]? with
  | some (.lst xs) => some xs
  | some (.frz xs) => some xs
  | _ => none
def loopC (en : Bool) (k : Nat) (ft : PV → Ev → Store → R Ev) (body : XS) : Nat → Nat → Ev → Store → R Fl
  | 0, _, _, _ => .no
  | n + 1, i, env, st => match cellL st k with
    | none => .no
    | some xs => (match xs[i]? with
      | none => .ok (.nx env) st
      | some x => (ft (if en = true then .tup [.int i, x] else x) env st).bind fun e s1 => (body e s1).bind fun fl s2 => match fl with
        | .nx e2 => loopC en k ft body n (i + 1) e2 s2
        | .ct e2 => loopC en k ft body n (i + 1) e2 s2
        | .bk e2 => .ok (.nx e2) s2
        | .rt v => .ok (.rt v) s2)
def sForC (en : Bool) (f : XE) (ft : PV → Ev → Store → R Ev) (body : XS) : XS := fun env st => (f env st).bind fun v s => match v with
  | .own k => (match cellL s k with
    | some xs => loopC en k ft body (xs.length + 1) 0 env s
    | none => .no)
  | _ => .no
section
variable {X : Cx} {E : XK} {a b e tg iter : Expr} {es : List Expr} {p pos : Pos} {fa fb : XE} {st : Stmt} {sts : List Stmt} {A B : XS}
theorem jss_nil : JSs X E [] sNil := ⟨_, pss_nil, fun Z Fz ρ env st σ H D rl re o => o.here rl σ re⟩
theorem ss_seq {t u : TS} (h1 : SS X.K X.mg E t A) (h2 : SS X.K X.mg E u B) : SS X.K X.mg E (tSeq t u) (sSeq A B) := fun Z Fz ρ env st σ H D rl re o => by
  refine h1 Z Fz ρ env st σ H _ rl re (o.seq.mono fun fl s1 F1 r1 H1 _ ex1 rl1 o1 => ?_)
  cases fl with
  | nx e => exact fun σ1 re1 => h2 Z F1 r1 e s1 σ1 H1 D rl1 re1 o1
  | rt v => exact o1.here rl1
  | bk e => exact o1.here rl1
  | ct e => exact o1.here rl1
theorem jss_cons (h1 : JS X E st A) (h2 : JSs X E sts B) : JSs X E (st :: sts) (sSeq A B) := by
  obtain ⟨t, p, s⟩ := h1
  obtain ⟨t', p', s'⟩ := h2
  exact ⟨_, pss_cons p p', ss_seq s s'⟩
theorem jss_one (h : JS X E st A) : JSs X E [st] A := let ⟨t, p, s⟩ := h; ⟨t, pss_one p, s⟩
theorem ss_set {te : TE} {f : XE} {i : Nat} (s : SE X.K X.mg E te f) : SS X.K X.mg E (tAsg te (gName i)) (sSet i f) := fun Z Fz ρ env st σ H D rl re o =>
  s Z Fz ρ env st σ H _ rl re (o.seq.mono fun v s1 F1 r1 H1 _ ex1 rl1 o1 v' rv => o1.here rl1 _ ((re.mono ex1).set rv i))
theorem js_set (i : Nat) {x : Str} {pos' : Pos} (hN : X.N.Nodup) (he : JE X E e fa) (hs : swapsWith e (some (.Name x pos')) pos.line X.env = pure false := by rfl) (hi : X.N[i]? = some x := by rfl) (hx : Loc X.env.scope x := by first | exact .inl rfl | exact .inr rfl)
    (hf : X.fn x = true ∨ X.env.scope.names.lookup x = some .local := by first | exact .inl rfl | exact .inr rfl | assumption) : JS X E (.Assign [.Name x pos'] e pos) (sSet i fa) := by
  obtain ⟨t, p, s⟩ := he
  exact ⟨_, ps_set hN hi hx p hs hf, ss_set s⟩
theorem js_asg {f : PV → Ev → Store → R Ev} {vs : List Nat} (he : JE X E e fa) (hg : JGv X E vs tg f) (hs : swapsWithSole [tg] e pos.line X.env = pure false := by rfl) (hw : swappedStores [tg] e X.env = pure none := by rfl)
    (h1 : (assignEach [tg] X.env).map (·.2) = [assign tg X.env] := by rfl) : JS X E (.Assign [tg] e pos) (sAsg fa f) := by
  obtain ⟨t, p, s⟩ := he
  obtain ⟨t', p', s'⟩ := hg
  refine ⟨_, ps_asg p p' hs hw h1, fun Z Fz ρ env st σ H D rl re o => ?_⟩
  refine s Z Fz ρ env st σ H _ rl re (o.seq.mono fun v s1 F1 r1 H1 _ ex1 rl1 o1 v' rv => ?_)
  exact s' Z F1 r1 env s1 σ H1 v v' _ rl1 (re.mono ex1) rv (o1.seq.mono fun e2 s2 F2 r2 H2 _ ex2 rl2 o2 σ2 re2 _ => o2.here rl2 σ2 re2)
theorem js_par {i j : Nat} {x y : Str} {f : XL} {px py pt : Pos} {kt k2 pt2} (hc : X.calm = true) (hN : X.N.Nodup) (ha : JA X E [a, b] f) (hi : X.N[i]? = some x := by rfl) (hj : X.N[j]? = some y := by rfl) (hij : i ≠ j := by decide)
    (hx : X.env.scope.names.lookup x = some .local := by rfl) (hy : X.env.scope.names.lookup y = some .local := by rfl)
    (hw : swappedStores [.Tuple [.Name x px, .Name y py] kt pt] (.Tuple [a, b] k2 pt2) X.env = pure (some [x, y]) := by rfl)
    (hs : swapsWithSole [.Tuple [.Name x px, .Name y py] kt pt] (.Tuple [a, b] k2 pt2) pos.line X.env = pure false := by rfl) :
    JS X E (.Assign [.Tuple [.Name x px, .Name y py] kt pt] (.Tuple [a, b] k2 pt2) pos) (sPar i j f) := by
  obtain ⟨t, p, s⟩ := ha
  refine ⟨_, ps_par hc hN hi hj hij hx hy p hw hs, fun Z Fz ρ env st σ H D rl re o => ?_⟩
  refine s Z Fz ρ env st σ H _ rl re (o.seq.mono fun vs s1 F1 r1 H1 hq ex1 rl1 o1 vs' rv => ?_)
  clear hq
  split at o1
  · obtain ⟨v, u, rfl, r1, r2⟩ := rep2 rv
    exact ⟨v, u, rfl, o1.here rl1 _ (((re.mono ex1).set r1 i).set r2 j)⟩
  · exact o1.elim
theorem js_expr (he : JE X E e fa) (hs : swapsWith e none pos.line X.env = pure false := by rfl) : JS X E (.Expr e pos) (sDrop fa) := by
  obtain ⟨t, p, s⟩ := he
  exact ⟨_, ps_expr p hs, fun Z Fz ρ env st σ H D rl re o => s Z Fz ρ env st σ H _ rl re (o.seq.mono fun v s1 F1 r1 H1 _ ex1 rl1 o1 v' rv => o1.here rl1 σ (re.mono ex1))⟩
theorem js_ret (he : JE X E e fa) : JS X E (.Return (some e) pos) (sRet fa) := by
  obtain ⟨t, p, s⟩ := he
  exact ⟨_, ps_ret p, fun Z Fz ρ env st σ H D rl re o => s Z Fz ρ env st σ H _ rl re (o.seq.mono fun v s1 F1 r1 H1 _ ex1 rl1 o1 v' rv => o1.here rl1 v' rv)⟩
theorem js_if {c : Expr} {x y : List Stmt} {fc} (hc : JT X E c fc) (ha : JSs X E x A) (hb : JSs X E y B) : JS X E (.If c x y pos) (sIf fc A B) := by
  obtain ⟨t, p, s⟩ := hc
  obtain ⟨ta, pa, sa⟩ := ha
  obtain ⟨tb, pb, sb⟩ := hb
  refine ⟨_, ps_if p pa pb, fun Z Fz ρ env st σ H D rl re o => ?_⟩
  refine s Z Fz ρ env st σ H _ rl re (o.seq.mono fun k s1 F1 r1 H1 _ ex1 rl1 o1 => ?_)
  cases k with
  | true => exact sa Z F1 r1 env s1 σ H1 D rl1 (re.mono ex1) o1
  | false => exact sb Z F1 r1 env s1 σ H1 D rl1 (re.mono ex1) o1
theorem js_for {g : XL} {ft : PV → Ev → Store → R Ev} {vs : List Nat} {body : List Stmt} (hp : PassesOwn (model X.prog X.w) X.A X.env X.xe) (hc : X.calm = true) (hi : JI X E tg iter g) (hg : JGv X E vs tg ft) (hb : JSs X E body B)
    (hs : ∀ x, foldedSetIterable iter X.env x = pure x := by intro _; rfl) : JS X E (.For tg iter body [] pos) (sFor g ft B) := by
  obtain ⟨wi, pw, sw⟩ := hi
  obtain ⟨t, p, s⟩ := hg
  obtain ⟨tb, pb, sb⟩ := hb
  refine ⟨_, ps_for hp hc pw p pb hs, fun Z Fz ρ env st σ H D rl re o => ?_⟩
  refine sw Z Fz ρ env st σ H _ rl re (o.seq.mono fun xs s1 F1 r1 H1 _ ex1 rl1 o1 J hlen it => ?_)
  refine ⟨fun i m σ H => m = xs.length - i ∧ i ≤ xs.length ∧ ∃ F r e s, Ext F1 r1 F r ∧ Rel X.K X.mg Z F r s H ∧ REnv X.K X.mg F r e σ ∧ Out X.K X.mg Z E F r (loopV ft B (xs.drop i) e s) (fun fl _ F' r' H' => FlP X.K X.mg D fl F' r' H'), ?_, ?_⟩
  · exact ⟨_, rfl, Nat.zero_le _, F1, r1, env, s1, Ext.refl, rl1, re.mono ex1, by simpa using o1⟩
  · rintro i m σ2 H2 ⟨rfl, hi, F, r, e2, s2, ex2, rl2, re2, o2⟩
    obtain ⟨ig, is⟩ := it Z F r s2 H2 ex2 rl2
    by_cases hlt : i < xs.length
    · right
      have ed : xs.drop i = xs[i] :: xs.drop (i + 1) := List.drop_eq_getElem_cons hlt
      rw [ed] at o2
      unfold loopV at o2
      obtain ⟨go, yl⟩ := ig i xs[i] (by simp [hlt])
      refine ⟨go, fun σ H => ∃ F r e s, Ext F1 r1 F r ∧ Rel X.K X.mg Z F r s H ∧ REnv X.K X.mg F r e σ ∧ Out X.K X.mg Z E F r (loopV ft B (xs.drop (i + 1)) e s) (fun fl _ F' r' H' => FlP X.K X.mg D fl F' r' H'),
        fun σ' H' h => ⟨xs.length - (i + 1), by omega, rfl, hlt, h⟩, fun x H' y => ?_⟩
      obtain ⟨F3, ex3, rl3, rx⟩ := yl x H' y
      refine s Z F3 r e2 s2 σ2 H' xs[i] x _ rl3 (re2.mono ex3) rx ((o2.on ex3).seq.mono fun e4 s4 F4 r4 H4 _ ex4 rl4 o4 σ4 re4 _ => ?_)
      refine sb Z F4 r4 e4 s4 σ4 H4 _ rl4 re4 (o4.seq.mono fun fl s5 F5 r5 H5 _ ex5 rl5 o5 => ?_)
      have exA : Ext F1 r1 F5 r5 := ex2.trans (ex3.trans (ex4.trans ex5))
      cases fl with
      | nx e6 => exact fun σ6 re6 => ⟨F5, r5, e6, s5, exA, rl5, re6, o5⟩
      | ct e6 => exact fun σ6 re6 => ⟨F5, r5, e6, s5, exA, rl5, re6, o5⟩
      | bk e6 => exact fun σ6 re6 => o5.here rl5 σ6 re6
      | rt v => exact o5.here rl5
    · left
      have hi' : i = xs.length := by omega
      subst hi'
      rw [List.drop_length] at o2
      exact ⟨is, o2.here rl2 σ2 re2⟩
theorem js_while (n : Nat) {c : Expr} {fc} {body : List Stmt} (hp : PassesOwn (model X.prog X.w) X.A X.env X.xe) (hc : JT X E c fc) (hb : JSs X E body B) : JS X E (.While c body [] pos) (sWhile fc B n) := by
  obtain ⟨t, p, s⟩ := hc
  obtain ⟨tb, pb, sb⟩ := hb
  refine ⟨_, ps_while hp p pb, fun Z Fz ρ env st σ H D rl re o => ?_⟩
  refine ⟨fun m σ H => ∃ F r e s, Rel X.K X.mg Z F r s H ∧ REnv X.K X.mg F r e σ ∧ Out X.K X.mg Z E F r (sWhile fc B m e s) (fun fl _ F' r' H' => FlP X.K X.mg D fl F' r' H'), ⟨n, Fz, ρ, env, st, rl, re, o⟩, ?_⟩
  rintro m σ2 H2 ⟨F, r, e2, s2, rl2, re2, o2⟩
  cases m with
  | zero => exact o2.elim
  | succ m =>
    unfold sWhile at o2
    refine s Z F r e2 s2 σ2 H2 _ rl2 re2 (o2.seq.mono fun k s3 F3 r3 H3 _ ex3 rl3 o3 => ?_)
    cases k with
    | false => exact o3.here rl3 σ2 (re2.mono ex3)
    | true =>
      rw [if_pos rfl] at o3 ⊢
      refine ⟨fun σ H => ∃ F r e s, Rel X.K X.mg Z F r s H ∧ REnv X.K X.mg F r e σ ∧ Out X.K X.mg Z E F r (sWhile fc B m e s) (fun fl _ F' r' H' => FlP X.K X.mg D fl F' r' H'), fun σ' H' h => ⟨m, Nat.lt_succ_self _, h⟩, ?_⟩
      refine sb Z F3 r3 e2 s3 σ2 H3 _ rl3 (re2.mono ex3) (o3.seq.mono fun fl s5 F5 r5 H5 _ ex5 rl5 o5 => ?_)
      cases fl with
      | nx e6 => exact fun σ6 re6 => ⟨F5, r5, e6, s5, rl5, re6, o5⟩
      | ct e6 => exact fun σ6 re6 => ⟨F5, r5, e6, s5, rl5, re6, o5⟩
      | bk e6 => exact fun σ6 re6 => o5.here rl5 σ6 re6
      | rt v => exact o5.here rl5
def gSubL (fo fi : XE) : PV → Ev → Store → R Ev := fun p env st => (fo env st).bind fun o s1 => (fi env s1).bind fun i s2 => match o, i with
  | .own k, .int j => (match s2[k]? with
    | some (.lst xs) => (match ixN xs.length j with
      | some m => .ok env (s2.set k (.lst (xs.set m p)))
      | none => .no)
    | _ => .no)
  | _, _ => .no
theorem jg_sub {o i : Expr} {fo fi : XE} {vs : List Nat} (ho : JE X E o fo) (hi : JE X E i fi) (ha : ∀ v, assign (.Subscript o i pos) X.env v = (do
      let ov ← holding [v] (eval o X.env)
      let iv ← holding [v, ov] (eval i X.env)
      standAt pos
      holding [v, ov, iv] (setItem ov iv v)
      release [v, ov, iv] []) := by intro _; rfl) : JGv X E vs (.Subscript o i pos) (gSubL fo fi) := by
  obtain ⟨t, p, s⟩ := ho
  obtain ⟨t', p', s'⟩ := hi
  refine ⟨_, pg_sub p p' set_list ha, fun Z Fz ρ env st σ H q v Q rl re rv o => ?_⟩
  refine s Z Fz ρ env st σ H _ rl re (o.seq.mono fun x s1 F1 r1 H1 hq1 ex1 rl1 o1 x' rx => ?_)
  refine s' Z F1 r1 env s1 σ H1 _ rl1 (re.mono ex1) (o1.seq.mono fun y s2 F2 r2 H2 hq2 ex2 rl2 o2 y' ry => ?_)
  clear hq1 hq2
  split at o2
  · rename_i k j
    split at o2
    · rename_i xs ek
      split at o2
      · rename_i m em
        replace rx := rx.mono ex2
        rw [Rep] at rx
        rw [Rep] at ry
        obtain ⟨a, ea, rfl⟩ := rx
        obtain ⟨ws, h1, h2, h3⟩ := rl2.cell k a _ ea ek
        refine ⟨a, ws, j, m, rfl, ry, h1, by rw [← h3.len]; exact em, ?_⟩
        have hc : CellOk X.K X.mg F2 r2 (upd H2 a (.lst (ws.set m v))) a (.lst (xs.set m q)) := ⟨_, upd_same, by simpa using h2, h3.set (rv.mono (ex1.trans ex2)) m⟩
        exact o2 F2 r2 _ Ext.refl (rl2.write ea ek rfl rfl hc) σ ((re.mono ex1).mono ex2) ⟨rfl, fun _ _ => rfl⟩
      · exact o2.elim
    · exact o2.elim
  · exact o2.elim
end
end Lq
end
section
set_option Elab.async false
set_option linter.all false
set_option maxRecDepth 10000
namespace Lq
open PySem PySem.Spec PyProof.Rows L2
section
variable {K : PySem.W.Frag} {mg : Str → Option Value} {Z Fz : Hp} {ρ : List Addr}
theorem repF_get {f : Str} : ∀ {ps : List (Str × PV)} {vs : List (Str × V)}, RepF K mg Fz ρ ps vs → ∀ {p : PV}, ps.lookup f = some p → ∃ v, vs.lookup f = some v ∧ Rep K mg Fz ρ p v
  | _, _, .nil, _, h => by cases h
  | (g, x) :: ps, (g', y) :: vs, .cons ⟨h1, h2⟩ t, p, h => by
    have h1' : g = g' := h1
    subst h1'
    rw [List.lookup_cons] at h ⊢
    split at h
    · cases h; exact ⟨y, rfl, h2⟩
    · exact repF_get t h
theorem repF_none {f : Str} : ∀ {ps : List (Str × PV)} {vs : List (Str × V)}, RepF K mg Fz ρ ps vs → ps.lookup f = none → vs.lookup f = none
  | _, _, .nil, h => rfl
  | (g, x) :: ps, (g', y) :: vs, .cons ⟨h1, h2⟩ t, h => by
    have h1' : g = g' := h1
    subst h1'
    rw [List.lookup_cons] at h ⊢
    split at h
    · cases h
    · exact repF_none t h
def putP (f : Str) (v : PV) : List (Str × PV) → List (Str × PV)
  | [] => [(f, v)]
  | (g, x) :: r => if g = f then (g, v) :: r else (g, x) :: putP f v r
theorem repF_put {f : Str} {p : PV} {v : V} (r : Rep K mg Fz ρ p v) : ∀ {ps : List (Str × PV)} {vs : List (Str × V)}, RepF K mg Fz ρ ps vs → RepF K mg Fz ρ (putP f p ps) (putF f v vs)
  | _, _, .nil => .cons ⟨rfl, r⟩ .nil
  | (g, x) :: ps, (g', y) :: vs, .cons ⟨h1, h2⟩ t => by
    have h1' : g = g' := h1
    subst h1'
    unfold putP putF
    split
    · exact .cons ⟨rfl, r⟩ t
    · exact .cons ⟨rfl, h2⟩ (repF_put r t)
theorem putP_len {f : Str} {p : PV} : ∀ (ps : List (Str × PV)), (putP f p ps).length ≤ ps.length + 1
  | [] => by simp [putP]
  | (g, x) :: ps => by
    unfold putP
    split
    · simp
    · have := putP_len (f := f) (p := p) ps
      simp; omega
theorem repF_len {ps : List (Str × PV)} {vs : List (Str × V)} (h : RepF K mg Fz ρ ps vs) : ps.length = vs.length := PySem.Paired.length h
theorem Rel.extra {st : Store} {H : Hp} (r : Rel K mg Z Fz ρ st H) {p : Addr} (hp : H p = none) (o : HO) : Rel K mg Z Fz ρ st (upd H p o) := by
  obtain ⟨hf, hm⟩ := r.free hp
  refine ⟨fun a u e => ?_, fun a u e => ?_, r.len, fun k a x e1 e2 => (r.cell k a x e1 e2).mono Ext.refl fun u q => ?_, r.apart, r.nd⟩
  · obtain ⟨z1, z2, z3⟩ := r.zf a u e
    exact ⟨by rw [upd_ne (fun z => by subst z; rw [hp] at z1; cases z1)]; exact z1, z2, z3⟩
  · rw [upd_ne (fun z => by subst z; rw [hf] at e; cases e)]; exact r.fz _ _ e
  · rw [upd_ne (fun z => by subst z; exact hm (List.mem_of_getElem? e1))]; exact q
end
structure ClsF (K : PySem.W.Frag) (mg : Str → Option Value) (x : Str) (fs : List Str) : Prop where
  ex : ∃ C, mg x = some (.ref C) ∧ Cls K C ∧ ∀ f ∈ fs, NoAttr K C f
def eFld (x f : Str) (fo : XE) : XE := fun env st => (fo env st).bind fun v s => match v with
  | .own k => (match s[k]? with
    | some (.ins y fs) => if y = x then (match fs.lookup f with
      | some p => .ok p s
      | none => .no) else .no
    | _ => .no)
  | _ => .no
def sFldS (x f : Str) (fo fv : XE) : XS := fun env st => (fv env st).bind fun p s1 => (fo env s1).bind fun v s => match v with
  | .own k => (match s[k]? with
    | some (.ins y fs) => if y = x ∧ fs.length < 900 then .ok (.nx env) (s.set k (.ins y (putP f p fs))) else .no
    | _ => .no)
  | _ => .no
section
variable {X : Cx} {E : XK} {a b e o : Expr} {es : List Expr} {p pos apos cpos : Pos} {fa fb fo : XE} {fs : List Str} {x f m : Str}
theorem je_fld (c : ClsF X.K X.mg x fs) (ho : JE X E o fo) (hf : f ∈ fs := by decide) (hb : attributeBase o f X.env (eval o X.env) = eval o X.env := by rfl) : JE X E (.Attribute o f pos) (eFld x f fo) := by
  obtain ⟨t, pt, s⟩ := ho
  obtain ⟨C, hC, cl, hn⟩ := c.ex
  refine ⟨_, pe_fld pt hb, fun Z Fz ρ env st σ H Q rl re o => ?_⟩
  refine s Z Fz ρ env st σ H _ rl re (o.seq.mono fun v s1 F1 r1 H1 hq ex1 rl1 o1 v' rv => ?_)
  clear hq
  split at o1
  · rename_i k
    split at o1
    · rename_i y gs ek
      split at o1
      · rename_i hy
        subst hy
        split at o1
        · rename_i q eq
          rw [Rep] at rv
          obtain ⟨d, ed, rfl⟩ := rv
          obtain ⟨C', dx, vs, h0, h1, h2, h3⟩ := rl1.cell k d _ ed ek
          rw [hC] at h0; cases h0
          obtain ⟨w, ew, rw'⟩ := repF_get h3 eq
          exact ⟨d, C, dx, vs, w, rfl, h1, cl, hn f hf, ew, o1.here rl1 w rw'⟩
        · exact o1.elim
      · exact o1.elim
    · exact o1.elim
  · exact o1.elim
theorem js_fld {pos' : Pos} (c : ClsF X.K X.mg x fs) (ho : JE X E o fo) (hv : JE X E e fa) (hf : f ∈ fs := by decide) (hs : swapsWith e (some (.Attribute o f pos')) pos.line X.env = pure false := by rfl) : JS X E (.Assign [.Attribute o f pos'] e pos) (sFldS x f fo fa) := by
  obtain ⟨t, pt, s⟩ := ho
  obtain ⟨tv, pv, sv⟩ := hv
  obtain ⟨C, hC, cl, hn⟩ := c.ex
  refine ⟨_, ps_fld pt pv hs, fun Z Fz ρ env st σ H D rl re o => ?_⟩
  refine sv Z Fz ρ env st σ H _ rl re (o.seq.mono fun v s1 F1 r1 H1 hq ex1 rl1 o1 v' rv => ?_)
  refine s Z F1 r1 env s1 σ H1 _ rl1 (re.mono ex1) (o1.seq.mono fun w s2 F2 r2 H2 hq2 ex2 rl2 o2 w' rw' => ?_)
  clear hq hq2
  split at o2
  · rename_i k
    split at o2
    · rename_i y gs ek
      split at o2
      · rename_i hy
        obtain ⟨hy, hl⟩ := hy
        subst hy
        rw [Rep] at rw'
        obtain ⟨d, ed, rfl⟩ := rw'
        obtain ⟨C', dx, vs, h0, h1, h2, h3⟩ := rl2.cell k d _ ed ek
        rw [hC] at h0; cases h0
        refine ⟨d, C, dx, vs, rfl, h1, cl, hn f hf, by rw [← repF_len h3]; omega, ?_⟩
        have hc : CellOk X.K X.mg F2 r2 (upd H2 d (.ins C dx (putF f v' vs))) d (.ins y (putP f v gs)) := ⟨C, dx, _, hC, upd_same, by have := putP_len (f := f) (p := v) gs; omega, repF_put (rv.mono ex2) h3⟩
        exact o2 F2 r2 _ Ext.refl (rl2.write ed ek rfl rfl hc) σ ((re.mono ex1).mono ex2)
      · exact o2.elim
    · exact o2.elim
  · exact o2.elim
structure Me (P : Program) (w : World) (K : PySem.W.Frag) (mg : Str → Option Value) (base : Heap) (k : Nat) (x m : Str) (n : Nat) (f : Fn) : Prop where
  ex : ∃ (C a : Addr) (fd : FuncData) (ps : List Str), mg x = some (.ref C) ∧ Cls K C ∧ Meth K C m a ∧ Binds K fd ps [] ∧ FnOk P w K mg base (L2.CX P w) k a fd ps (spF K mg n f)
structure Mi (P : Program) (w : World) (K : PySem.W.Frag) (mg : Str → Option Value) (base : Heap) (k : Nat) (x : Str) (n : Nat) (f : Fn) : Prop where
  ex : ∃ (C a : Addr) (fd : FuncData) (ps : List Str), mg x = some (.ref C) ∧ Mk K C a ∧ Binds K fd ps [] ∧ FnOk P w K mg base (L2.CX P w) k a fd ps (spF K mg n f)
def eMeth (x m : Str) (n : Nat) (f : Fn) (fo : XE) (fl : XL) : XE := fun env st => (fo env st).bind fun v s => match v with
  | .own k => (match s[k]? with
    | some (.ins y fs) => if y = x ∧ fs.lookup m = none then (fl env s).bind fun vs s2 => if vs.length + 1 = n then f (.own k :: vs) s2 else .no else .no
    | _ => .no)
  | _ => .no
def eMake (x : Str) (n : Nat) (f : Fn) (fl : XL) : XE := fun env st => (fl env st).bind fun vs s => if vs.length + 1 = n then (f (.own s.length :: vs) (s ++ [.ins x []])).bind fun v s2 => (match v with
  | .non => .ok (.own s.length) s2
  | _ => .no) else .no
theorem s_meth {k n : Nat} {g : Fn} {C : Addr} {to : TE} {t : TA} {fl : XL} (hC : X.mg x = some (.ref C)) (so : SE X.K X.mg E to fo) (sa : SA X.K X.mg E t fl) : SE X.K X.mg E (tMeth C m (spF X.K X.mg n g) [] E to t) (eMeth x m n g fo fl) := fun Z Fz ρ env st σ H Q rl re o => by
  refine so Z Fz ρ env st σ H _ rl re (o.seq.mono fun v s1 F1 r1 H1 hq ex1 rl1 o1 v' rv => ?_)
  clear hq
  split at o1
  · rename_i k
    split at o1
    · rename_i y gs ek
      split at o1
      · rename_i hy
        obtain ⟨hy, hl⟩ := hy
        subst hy
        have rv0 := rv
        rw [Rep] at rv
        obtain ⟨d, ed, rfl⟩ := rv
        obtain ⟨C', dx, vs, h0, h1, h2, h3⟩ := rl1.cell k d _ ed ek
        rw [hC] at h0; cases h0
        refine ⟨d, dx, vs, rfl, h1, repF_none h3 hl, ?_⟩
        refine sa Z F1 r1 env s1 σ H1 _ rl1 (re.mono ex1) (o1.seq.mono fun ws s2 F2 r2 H2 hq2 ex2 rl2 o2 ws' rw' => ?_)
        clear hq2
        split at o2
        · rename_i hn
          rw [List.append_nil]
          exact ⟨by simp [← rw'.len]; exact hn, Z, F2, r2, s2, _, rl2, RepL.cons (rv0.mono ex2) rw', o2⟩
        · exact o2.elim
      · exact o1.elim
    · exact o1.elim
  · exact o1.elim
theorem je_meth {k j n : Nat} {g : Fn} {fl : XL} (c : Me X.prog X.w X.K X.mg X.base k x m n g) (hr : Room j X.A) (hx : Passes (L2.CX X.prog X.w) X E) (ho : JE X E o fo) (ha : JA X E (e :: es) fl) (hk : k ≤ j := by decide)
    (hst : starEach (e :: es) X.env = (false, eval e X.env) :: starEach es X.env := by rfl) (hpl : (backTo pos (starEach es X.env)).any (·.1) = false := by rfl) {pl : Sem Bool}
    (ht : eval (.Call (.Attribute o m apos) (e :: es) [] pos) X.env = (do
      let ov ← eval o X.env
      standAt apos.atName
      let (f, first) ← holding [ov] (getMethod ov m pl)
      callWith pos f first (backTo pos (starEach (e :: es) X.env)) (backToKw pos (keywordEach [] X.env))) := by rfl) : JE X E (.Call (.Attribute o m apos) (e :: es) [] pos) (eMeth x m n g fo fl) := by
  obtain ⟨C, a, fd, ps, hC, cl, hm, hb, F⟩ := c.ex
  obtain ⟨t, pt, s⟩ := ho
  obtain ⟨ta, pa, sa⟩ := ha
  exact ⟨_, pe_meth (pl := pl) pt cl hm F (hr.mono hk) hb .nil hx pa hst hpl ht, s_meth (k := k) hC s sa⟩
theorem je_meth0 {k j n : Nat} {g : Fn} (c : Me X.prog X.w X.K X.mg X.base k x m n g) (hr : Room j X.A) (hx : Passes (L2.CX X.prog X.w) X E) (ho : JE X E o fo) (hk : k ≤ j := by decide) {pl : Sem Bool}
    (ht : eval (.Call (.Attribute o m apos) [] [] pos) X.env = (do
      let ov ← eval o X.env
      standAt apos.atName
      let (f, first) ← holding [ov] (getMethod ov m pl)
      callWith pos f first (backTo pos (starEach [] X.env)) (backToKw pos (keywordEach [] X.env))) := by rfl) : JE X E (.Call (.Attribute o m apos) [] [] pos) (eMeth x m n g fo aNil) := by
  obtain ⟨C, a, fd, ps, hC, cl, hm, hb, F⟩ := c.ex
  obtain ⟨t, pt, s⟩ := ho
  exact ⟨_, pe_meth0 (pl := pl) pt cl hm F (hr.mono hk) hb .nil hx ht, s_meth (k := k) hC s fun Z Fz ρ env st σ H Q rl hh o => o.here rl _ RepL.nil⟩
theorem je_make {k j n : Nat} {g : Fn} {fl : XL} (c : Mi X.prog X.w X.K X.mg X.base k x n g) (hr : Room j X.A) (hx : Passes (L2.CX X.prog X.w) X E) (ha : JA X E (e :: es) fl) (hk : k + 1 ≤ j := by decide) (hg : Gl X x := by rfl) (hdb : (x == ("__debug__" : Str)) = false := by decide)
    (he : starEach (e :: es) X.env = (false, eval e X.env) :: starEach es X.env := by rfl) (hpl : (backTo pos (starEach es X.env)).any (·.1) = false := by rfl) : JE X E (.Call (.Name x p) (e :: es) [] pos) (eMake x n g fl) := by
  obtain ⟨C, a, fd, ps, hC, M, hb, F⟩ := c.ex
  obtain ⟨t, pt, sa⟩ := ha
  refine ⟨_, pe_make M F (hr.mono hk) hg hC hb .nil hx pt hdb he hpl, fun Z Fz ρ env st σ H Q rl re o => ?_⟩
  refine sa Z Fz ρ env st σ H _ rl re (o.seq.mono fun vs s1 F1 r1 H1 hq ex1 rl1 o1 vs' rv y dx hy hdx ne => ?_)
  clear hq
  split at o1
  · rename_i hn
    rw [List.append_nil]
    have rl2 := rl1.extra hdx (.own y)
    have hy2 : (upd H1 dx (.own y)) y = none := by rw [upd_ne ne.symm]; exact hy
    have ex0 : Ext F1 r1 F1 (r1 ++ [y]) := ⟨fun _ _ h => h, List.prefix_append _ _⟩
    obtain ⟨rl3, ex3⟩ := rl2.owned hy2 (o := .ins C dx []) (c := .ins x []) rfl ⟨C, dx, [], hC, upd_same, by simp, .nil⟩
    have ry : Rep X.K X.mg F1 (r1 ++ [y]) (.own s1.length) (.ref y) := by rw [Rep]; exact ⟨y, by rw [← rl1.len]; simp, rfl⟩
    refine ⟨by simp [← rv.len]; exact hn, Z, F1, _, _, _, rl3, RepL.cons ry (rv.mono ex3), ?_⟩
    refine (o1.on ex3).seq.mono fun v s4 F4 r4 H4 hq4 ex4 rl4 o4 v' rv' => ?_
    clear hq4
    split at o4
    · rw [Rep] at rv'
      exact ⟨rv', o4.here rl4 _ (ry.mono ex4)⟩
    · exact o4.elim
  · exact o1.elim
structure ExcF (X : Cx) (x : Str) : Prop where
  ex : ∃ C, X.mg x = some (.ref C) ∧ PySem.W.excIn X.K C [.type "ValueError", .type "Exception", .type "BaseException", .type "object"] "ValueError.__new__" = true ∧ PySem.W.keepIn X.K (.ref C) = true ∧ Raises X (.ref C)
def sRaise (x : Str) : XS := fun _ st => .ex x st
theorem js_raise {z : Str} {j : Nat} {p2 pos2 : Pos} (hc : X.calm = true) (tk : L2.Takes X (fun cls d _ H => E cls d H)) (c : ExcF X x) (hg : Gl X x := by rfl) (hdb : (x == ("__debug__" : Str)) = false := by decide) :
    JS X E (.Raise (some (.Call (.Name x p) [.Constant (.str z) j p2] [] pos)) none pos2) (sRaise x) := by
  obtain ⟨C, gC, q, kC, r⟩ := c.ex
  refine ⟨_, ps_raise hc tk (pmk_own PySem.F.excBase_ValueError q gC kC r hg hdb), fun Z Fz ρ env st σ H D rl re o => ?_⟩
  obtain ⟨C', e1, e2⟩ := o Fz ρ H Ext.refl rl
  rw [gC] at e1; cases e1
  exact e2
end
end Lq
end
section
set_option Elab.async false
set_option linter.all false
set_option maxRecDepth 10000
namespace Lq
open PySem PySem.Spec PyProof.Rows L2
section
variable {X : Cx} {E : XK} {a b e o tg iter : Expr} {es : List Expr} {p pos apos cpos : Pos} {fa fb fo : XE} {fl : XL} {x f m : Str}
theorem own_list {K : PySem.W.Frag} {mg : Str → Option Value} {Z Fz : Hp} {ρ : List Addr} {st : Store} {H : Hp} {k : Nat} {v : V} {xs : List PV} (rl : Rel K mg Z Fz ρ st H) (r : Rep K mg Fz ρ (.own k) v) (e : st[k]? = some (.lst xs)) :
    ∃ d vs, v = .ref d ∧ ρ[k]? = some d ∧ H d = some (.lst vs) ∧ xs.length ≤ sizeLine ∧ RepL K mg Fz ρ xs vs := by
  rw [Rep] at r
  obtain ⟨d, ed, rfl⟩ := r
  obtain ⟨vs, h1, h2, h3⟩ := rl.cell k d _ ed e
  exact ⟨d, vs, rfl, ed, h1, h2, h3⟩
def eLm (go : List PV → List PV → Store → Option (PV × List PV)) (fo : XE) (fl : XL) : XE := fun env st => (fo env st).bind fun v s => match v with
  | .own k => (match s[k]? with
    | some (.lst _) => (fl env s).bind fun ys s2 => (match s2[k]? with
      | some (.lst xs) => (match go xs ys s2 with
        | some (z, xs') => .ok z (s2.set k (.lst xs'))
        | none => .no)
      | _ => .no)
    | _ => .no)
  | _ => .no
theorem s_lm {id : String} {go r} {to : TE} {t : TA} (hr : ∀ (Z Fz : Hp) (ρ : List Addr) (st : Store) (H : Hp) (d : Addr) (k : Nat) (vs : List V) (xs ys : List PV) (ws : List V) (z : PV) (xs' : List PV) (Q : VK), Rel X.K X.mg Z Fz ρ st H → ρ[k]? = some d → st[k]? = some (.lst xs) → H d = some (.lst vs) → RepL X.K X.mg Fz ρ xs vs → RepL X.K X.mg Fz ρ ys ws → go xs ys st = some (z, xs') →
    (∀ z' vs', Rep X.K X.mg Fz ρ z z' → RepL X.K X.mg Fz ρ xs' vs' → xs'.length ≤ sizeLine → Q z' (upd H d (.lst vs'))) → xs.length ≤ sizeLine → r (.ref d) ws H Q)
    (so : SE X.K X.mg E to fo) (sa : SA X.K X.mg E t fl) : SE X.K X.mg E (tBM X.K "list" r to t) (eLm go fo fl) := fun Z Fz ρ env st σ H Q rl re o => by
  refine so Z Fz ρ env st σ H _ rl re (o.seq.mono fun v s1 F1 r1 H1 hq ex1 rl1 o1 v' rv => ?_)
  clear hq
  split at o1
  · rename_i k
    split at o1
    · rename_i xs0 ek0
      obtain ⟨d0, vs0, e0, _, h0, _, _⟩ := own_list rl1 rv ek0
      subst e0
      refine ⟨.inl ⟨rfl, vs0, SqL.of h0⟩, sa Z F1 r1 env s1 σ H1 _ rl1 (re.mono ex1) (o1.seq.mono fun ys s2 F2 r2 H2 hq2 ex2 rl2 o2 ys' ry => ?_)⟩
      clear hq2
      split at o2
      · rename_i xs ek
        split at o2
        · rename_i z xs' eg
          obtain ⟨d, vs, e1, ed, hd, hl, rr⟩ := own_list rl2 (rv.mono ex2) ek
          cases e1
          refine hr Z F2 r2 s2 H2 d0 k vs xs ys ys' z xs' Q rl2 ed ek hd rr ry eg (fun z' vs' rz rvs hls => ?_) hl
          exact o2 F2 r2 _ Ext.refl (rl2.write (c := .lst xs') ed ek rfl rfl ⟨vs', upd_same, hls, rvs⟩) z' rz
        · exact o2.elim
      · exact o2.elim
    · exact o1.elim
  · exact o1.elim
def goApp : List PV → List PV → Store → Option (PV × List PV) := fun xs ys _ => match ys with
  | [y] => if xs.length < sizeLine then some (.non, xs ++ [y]) else none
  | _ => none
theorem je_append (ho : JE X E o fo) (ha : JA X E [e] fl) (hbase : attributeBase o "append" X.env (eval o X.env) = eval o X.env := by rfl)
    (hfew : ((backTo cpos (starEach [e] X.env)).all (fun x => !x.1) && (backToKw cpos (keywordEach [] X.env)).all (fun x => x.1.isSome)
      && decide (([e] : List Expr).length + ([] : List Keyword).length + (if ([] : List Keyword).isEmpty then 0 else 1) < 30)) = true := by rfl)
    (hline : (apos.endLine == cpos.line) = true := by rfl) (hs : starEach [e] X.env = (false, eval e X.env) :: starEach [] X.env := by rfl) (hplain : (backTo cpos (starEach [] X.env)).any (·.1) = false := by rfl) :
    JE X E (.Call (.Attribute o "append" apos) [e] [] cpos) (eLm goApp fo fl) := by
  obtain ⟨t, pt, s⟩ := ho
  obtain ⟨ta, pa, sa⟩ := ha
  refine ⟨_, pe_bm PySem.F.plainAttrs_list PySem.F.slot_list_append PySem.F.type_list_append mt_append pt pa hbase hfew hline hs hplain, s_lm (id := "list.append") (fun Z Fz ρ st H d k vs xs ys ws z xs' Q rl ed ek hd rr ry eg q hl => ?_) s sa⟩
  unfold goApp at eg
  split at eg
  · split at eg
    · rename_i hlt
      cases eg
      obtain ⟨v, rfl, rv⟩ := rep1 ry
      exact ⟨d, vs, v, rfl, rfl, hd, by rw [← rr.len]; exact hlt, q _ _ (by rw [Rep]) (rr.app (RepL.cons rv RepL.nil)) (by simp; omega)⟩
    · cases eg
  · cases eg
def goExt : List PV → List PV → Store → Option (PV × List PV) := fun xs ys st => match ys with
  | [y] => (match asM st y with
    | some zs => if xs.length + zs.length ≤ sizeLine then some (.non, xs ++ zs) else none
    | none => none)
  | _ => none
theorem je_extend (ho : JE X E o fo) (ha : JA X E [e] fl) (hbase : attributeBase o "extend" X.env (eval o X.env) = eval o X.env := by rfl)
    (hfew : ((backTo cpos (starEach [e] X.env)).all (fun x => !x.1) && (backToKw cpos (keywordEach [] X.env)).all (fun x => x.1.isSome)
      && decide (([e] : List Expr).length + ([] : List Keyword).length + (if ([] : List Keyword).isEmpty then 0 else 1) < 30)) = true := by rfl)
    (hline : (apos.endLine == cpos.line) = true := by rfl) (hs : starEach [e] X.env = (false, eval e X.env) :: starEach [] X.env := by rfl) (hplain : (backTo cpos (starEach [] X.env)).any (·.1) = false := by rfl) :
    JE X E (.Call (.Attribute o "extend" apos) [e] [] cpos) (eLm goExt fo fl) := by
  obtain ⟨t, pt, s⟩ := ho
  obtain ⟨ta, pa, sa⟩ := ha
  refine ⟨_, pe_bm PySem.F.plainAttrs_list PySem.F.slot_list_extend PySem.F.type_list_extend mt_extend pt pa hbase hfew hline hs hplain, s_lm (id := "list.extend") (fun Z Fz ρ st H d k vs xs ys ws z xs' Q rl ed ek hd rr ry eg q hl => ?_) s sa⟩
  unfold goExt at eg
  split at eg
  · split at eg
    · rename_i y zs ez
      split at eg
      · rename_i hlt
        cases eg
        obtain ⟨v, rfl, rv⟩ := rep1 ry
        obtain ⟨b, us, rfl, hb, hlb, rb⟩ := asM_ok rl rv ez
        exact ⟨d, b, vs, us, rfl, rfl, hd, hb, by rw [← rr.len, ← rb.len]; exact hlt, q _ _ (by rw [Rep]) (rr.app rb) (by simpa using hlt)⟩
      · cases eg
    · cases eg
  · cases eg
def ePop (fo : XE) : XE := fun env st => (fo env st).bind fun v s => match v with
  | .own k => (match s[k]? with
    | some (.lst xs) => (match xs[xs.length - 1]? with
      | some y => .ok y (s.set k (.lst xs.dropLast))
      | none => .no)
    | _ => .no)
  | _ => .no
theorem RepL.dropLast {K : PySem.W.Frag} {mg : Str → Option Value} {Fz : Hp} {ρ : List Addr} {ps : List PV} {vs : List V} (h : RepL K mg Fz ρ ps vs) : RepL K mg Fz ρ ps.dropLast vs.dropLast := by
  rw [List.dropLast_eq_take, List.dropLast_eq_take, h.len]
  exact h.take _
def eFrz (fo : XE) : XE := fun env st => (fo env st).bind fun v s => match v with
  | .own k => (match s[k]? with
    | some (.lst xs) => .ok (.lst xs) (s.set k (.frz xs))
    | some (.frz xs) => .ok (.lst xs) s
    | _ => .no)
  | .lst xs => .ok (.lst xs) s
  | .tup xs => .ok (.tup xs) s
  | _ => .no
theorem je_frz (ho : JE X E o fo) : JE X E o (eFrz fo) := by
  obtain ⟨t, pt, s⟩ := ho
  refine ⟨t, pt, fun Z Fz ρ env st σ H Q rl re o => ?_⟩
  refine s Z Fz ρ env st σ H _ rl re (o.seq.mono fun v s1 F1 r1 H1 hq ex1 rl1 o1 v' rv => ?_)
  clear hq
  split at o1
  · rename_i k
    split at o1
    · rename_i xs ek
      rw [Rep] at rv
      obtain ⟨d, ed, rfl⟩ := rv
      obtain ⟨vs, hd, rr, hl, rl2, ex2⟩ := rl1.freeze ed ek
      exact o1 _ _ _ ex2 rl2 _ (by rw [Rep]; exact ⟨d, vs, rfl, upd_same, hl, rr.mono ex2⟩)
    · rename_i xs ek
      rw [Rep] at rv
      obtain ⟨d, ed, rfl⟩ := rv
      obtain ⟨vs, q1, q2, q3⟩ := rl1.cell k d _ ed ek
      exact o1.here rl1 _ (by rw [Rep]; exact ⟨d, vs, rfl, q1, q2, q3⟩)
    · exact o1.elim
  · exact o1.here rl1 _ rv
  · exact o1.here rl1 _ rv
  · exact o1.elim
def eSm (go : Str → PV → Store → Option PV) (fo fe : XE) : XE := fun env st => (fo env st).bind fun v s => match v with
  | .str z => (fe env s).bind fun y s2 => (match go z y s2 with
    | some w => .ok w s2
    | none => .no)
  | _ => .no
def ItC (K : PySem.W.Frag) (mg : Str → Option Value) (J : It) (en : Bool) (k : Nat) (F0 : Hp) (r0 : List Addr) : Prop := ∀ Z Fz ρ st H, Ext F0 r0 Fz ρ → Rel K mg Z Fz ρ st H → ∀ xs, cellL st k = some xs →
  (∀ (i : Nat) (x : PV), xs[i]? = some x → J.go i H ∧ ∀ v H', J.yld i H v H' → ∃ Fz', Ext Fz ρ Fz' ρ ∧ Rel K mg Z Fz' ρ st H' ∧ Rep K mg Fz' ρ (if en = true then .tup [.int i, x] else x) v) ∧ ∀ i, xs.length ≤ i → J.stop i H
def JIc (X : Cx) (E : XK) (en : Bool) (tg iter : Expr) (f : XE) : Prop := ∃ wi, PI X tg iter wi ∧ ∀ Z Fz ρ env st σ H R, Rel X.K X.mg Z Fz ρ st H → REnv X.K X.mg Fz ρ env σ →
  Out X.K X.mg Z E Fz ρ (f env st) (fun v s F' r' H' => ∃ k xs, v = .own k ∧ cellL s k = some xs ∧ ∀ J, ItC X.K X.mg J en k F' r' → R J H') → wi σ H R
theorem cell_at {K : PySem.W.Frag} {mg : Str → Option Value} {Z Fz : Hp} {ρ : List Addr} {st : Store} {H : Hp} {k : Nat} {d : Addr} {xs : List PV} (rl : Rel K mg Z Fz ρ st H) (ed : ρ[k]? = some d) (e : cellL st k = some xs) : ∃ vs, SqL K H d vs ∧ RepL K mg Fz ρ xs vs := by
  obtain ⟨d', vs, h1, h2, _, h4⟩ := asM_ok (p := .own k) (xs := xs) rl (by rw [Rep]; exact ⟨d, ed, rfl⟩) (by unfold asM; unfold cellL at e; exact e)
  cases h1
  exact ⟨vs, SqL.of h2, h4⟩
theorem ji_cell (h : JE X E iter fa) : JIc X E false tg iter fa := by
  obtain ⟨t, pt, s⟩ := h
  refine ⟨_, pi_list pt, fun Z Fz ρ env st σ H R rl re o => ?_⟩
  refine s Z Fz ρ env st σ H _ rl re (o.mono fun v s1 F1 r1 H1 hq ex1 rl1 o1 v' rv => ?_)
  obtain ⟨k, xs, rfl, ek, q⟩ := o1
  rw [Rep] at rv
  obtain ⟨d, ed, rfl⟩ := rv
  obtain ⟨vs, sq, rr⟩ := cell_at rl1 ed ek
  refine ⟨d, rfl, ⟨vs, sq⟩, q _ fun Z2 F2 r2 s2 H2 ex2 rl2 ys ey => ?_⟩
  obtain ⟨ws, sq2, rr2⟩ := cell_at rl2 (prefix_get ex2.pre ed) ey
  refine ⟨fun i x ex => ?_, fun i hi => ⟨ws, sq2, by rw [← rr2.len]; exact hi⟩⟩
  obtain ⟨w, ew, rw'⟩ := rr2.get ex
  refine ⟨⟨ws, w, sq2, ew⟩, fun v H' y => ?_⟩
  obtain ⟨rfl, y⟩ := y
  have := y ws sq2
  rw [ew] at this; cases this
  exact ⟨F2, Ext.refl, rl2, rw'⟩
theorem ji_enumC {elts : List Expr} {kk : Nat} {tpos : Pos} (h : JE X E a fa) (hm : X.mg "enumerate" = none) (hg : Gl X "enumerate" := by rfl) (hs : starEach [a] X.env = [(false, eval a X.env)] := by rfl) :
    JIc X E true (.Tuple elts kk tpos) (.Call (.Name "enumerate" p) [a] [] pos) fa := by
  obtain ⟨t, pt, s⟩ := h
  refine ⟨_, pi_enum hg hm (pa_cons pt pa_nil hs) hs, fun Z Fz ρ env st σ H R rl re o => ?_⟩
  refine s Z Fz ρ env st σ H _ rl re (o.mono fun v s1 F1 r1 H1 hq ex1 rl1 o1 v' rv => ?_)
  obtain ⟨k, xs, rfl, ek, q⟩ := o1
  rw [Rep] at rv
  obtain ⟨d, ed, rfl⟩ := rv
  obtain ⟨vs, sq, rr⟩ := cell_at rl1 ed ek
  refine ⟨d, vs, rfl, sq, q _ fun Z2 F2 r2 s2 H2 ex2 rl2 ys ey => ?_⟩
  obtain ⟨ws, sq2, rr2⟩ := cell_at rl2 (prefix_get ex2.pre ed) ey
  refine ⟨fun i x ex => ?_, fun i hi => ⟨ws, sq2, by rw [← rr2.len]; exact hi⟩⟩
  obtain ⟨w, ew, rw'⟩ := rr2.get ex
  refine ⟨⟨ws, w, sq2, ew⟩, fun v H' y => ?_⟩
  obtain ⟨T, x0, rfl, hT, rfl, k1⟩ := y
  have := k1 ws sq2
  rw [ew] at this; cases this
  exact rep_pair rl2 hT (by rw [Rep]) rw'
theorem js_forC {en : Bool} {ft : PV → Ev → Store → R Ev} {vs : List Nat} {body : List Stmt} {B : XS} (hp : PassesOwn (model X.prog X.w) X.A X.env X.xe) (hc : X.calm = true) (hi : JIc X E en tg iter fa) (hg : JGv X E vs tg ft) (hb : JSs X E body B)
    (hs : ∀ x, foldedSetIterable iter X.env x = pure x := by intro _; rfl) : JS X E (.For tg iter body [] pos) (sForC en fa ft B) := by
  obtain ⟨wi, pw, sw⟩ := hi
  obtain ⟨t, p, s⟩ := hg
  obtain ⟨tb, pb, sb⟩ := hb
  refine ⟨_, ps_for hp hc pw p pb hs, fun Z Fz ρ env st σ H D rl re o => ?_⟩
  refine sw Z Fz ρ env st σ H _ rl re (o.seq.mono fun v s1 F1 r1 H1 hq ex1 rl1 o1 => ?_)
  clear hq
  split at o1
  · rename_i k
    split at o1
    · rename_i xs ek
      refine ⟨k, xs, rfl, ek, fun J it => ?_⟩
      refine ⟨fun i m σ H => ∃ F r e s, Ext F1 r1 F r ∧ Rel X.K X.mg Z F r s H ∧ REnv X.K X.mg F r e σ ∧ Out X.K X.mg Z E F r (loopC en k ft B m i e s) (fun fl _ F' r' H' => FlP X.K X.mg D fl F' r' H'),
        ⟨_, F1, r1, env, s1, Ext.refl, rl1, re.mono ex1, o1⟩, ?_⟩
      rintro i m σ2 H2 ⟨F, r, e2, s2, ex2, rl2, re2, o2⟩
      cases m with
      | zero => exact o2.elim
      | succ m =>
        unfold loopC at o2
        split at o2
        · exact o2.elim
        · rename_i ys ey
          obtain ⟨ig, is⟩ := it Z F r s2 H2 ex2 rl2 ys ey
          split at o2
          · rename_i en'
            exact .inl ⟨is i (List.getElem?_eq_none_iff.mp en'), o2.here rl2 σ2 re2⟩
          · rename_i x exi
            right
            obtain ⟨go, yl⟩ := ig i x exi
            refine ⟨go, fun σ H => ∃ F r e s, Ext F1 r1 F r ∧ Rel X.K X.mg Z F r s H ∧ REnv X.K X.mg F r e σ ∧ Out X.K X.mg Z E F r (loopC en k ft B m (i + 1) e s) (fun fl _ F' r' H' => FlP X.K X.mg D fl F' r' H'),
              fun σ' H' h => ⟨m, Nat.lt_succ_self _, h⟩, fun v H' y => ?_⟩
            obtain ⟨F3, ex3, rl3, rx⟩ := yl v H' y
            refine s Z F3 r e2 s2 σ2 H' _ v _ rl3 (re2.mono ex3) rx ((o2.on ex3).seq.mono fun e4 s4 F4 r4 H4 _ ex4 rl4 o4 σ4 re4 _ => ?_)
            refine sb Z F4 r4 e4 s4 σ4 H4 _ rl4 re4 (o4.seq.mono fun fl s5 F5 r5 H5 _ ex5 rl5 o5 => ?_)
            have exA : Ext F1 r1 F5 r5 := ex2.trans (ex3.trans (ex4.trans ex5))
            cases fl with
            | nx e6 => exact fun σ6 re6 => ⟨F5, r5, e6, s5, exA, rl5, re6, o5⟩
            | ct e6 => exact fun σ6 re6 => ⟨F5, r5, e6, s5, exA, rl5, re6, o5⟩
            | bk e6 => exact fun σ6 re6 => o5.here rl5 σ6 re6
            | rt v => exact o5.here rl5
    · exact o1.elim
  · exact o1.elim
end
end Lq
end
section
set_option Elab.async false
set_option linter.all false
set_option maxRecDepth 10000
namespace Lq
open PySem PySem.Spec PyProof.Rows L2
section
variable {X : Cx} {pins : List (Addr × Obj)} {σ : L2.St} {H : Hp} {s : Shared}
end
section
variable {X : Cx} {x n y : Str} {c : Value} {i j : Nat} {body : List Stmt} {np pos pos' py pn2 pa : Pos} {tb : WX → TS}
def tOfA (K : PySem.W.Frag) (mg : Str → Option Value) (E : XK) (f : XL) : TA := fun σ H Q => ∃ Z Fz ρ env st, Rel K mg Z Fz ρ st H ∧ REnv K mg Fz ρ env σ ∧ Out K mg Z E Fz ρ (f env st) (fun vs _ Fz' ρ' H' => ∀ vs', RepL K mg Fz' ρ' vs vs' → Q vs' H')
theorem JA.pe {X : Cx} {E : XK} {es : List Expr} {f : XL} (h : JA X E es f) : PA X es (tOfA X.K X.mg E f) := by
  obtain ⟨t, p, s⟩ := h
  exact ⟨fun pos pins sh σ H Q I ⟨Z, Fz, ρ, env, st, rl, re, o⟩ => p.run pos pins sh σ H Q I (s Z Fz ρ env st σ H Q rl re o)⟩
end
end Lq
end
section
set_option Elab.async false
set_option linter.all false
set_option maxRecDepth 10000
namespace Lq
open PySem PySem.Spec PyProof.Rows L2
section
variable {X : Cx} {E : XK}
def eLenO (x : Str) (f : Fn) (fo : XE) : XE := fun env st => (fo env st).bind fun v s => match v with
  | .own k => (match s[k]? with
    | some (.ins y _) => if y = x then (f [.own k] s).bind fun r s2 => (match r with
      | .int m => if 0 ≤ m ∧ m < 2 ^ 63 then .ok (.int m) s2 else .no
      | _ => .no) else .no
    | _ => .no)
  | _ => .no
end
section
variable {X : Cx} {E : XK} {e o : Expr} {apos cpos : Pos} {fo : XE} {fl : XL}
end
end Lq
end
section
set_option Elab.async false
set_option linter.all false
set_option maxRecDepth 10000
namespace Lq
open PySem PySem.Spec PyProof.Rows L2
theorem sf_fz {K : PySem.W.Frag} {mg : Str → Option Value} {E : XK} {t : TE} {f : XL} (s : SF K mg E t f) : SE K mg E t (eFz f) := fun Z Fz ρ env st σ H Q rl hh o => s Z Fz ρ env st σ H Q rl hh (o.seq.mono fun xs s1 F1 r1 H1 _ ex1 rl1 o1 p vs hp hl rv => by
  obtain ⟨rl2, ex2⟩ := rl1.frozen hp (.lst vs)
  exact o1 _ _ _ ex2 rl2 _ (by rw [Rep]; exact ⟨p, vs, rfl, upd_same, hl, rv.mono ex2⟩))
def compW (ft : PV → Ev → Store → R Ev) (tt : Ev → Store → R Bool) (g1 : XL) (ft1 : PV → Ev → Store → R Ev) (tt1 : Ev → Store → R Bool) (fe : XE) (vs1 : List Nat) (env : Ev) : List PV → Store → R (List PV)
  | [], st => .ok [] st
  | x :: xs, st => (ft x env st).bind fun e s1 => (tt e s1).bind fun b s2 =>
    if b = true then (g1 e s2).bind fun ys s3 => (compV ft1 tt1 fe (wipeE e vs1) ys s3).bind fun zs s4 => (compW ft tt g1 ft1 tt1 fe vs1 env xs s4).bind fun ws s5 => .ok (zs ++ ws) s5
    else compW ft tt g1 ft1 tt1 fe vs1 env xs s2
def fComp2 (g : XL) (ft : PV → Ev → Store → R Ev) (tt : Ev → Store → R Bool) (g1 : XL) (ft1 : PV → Ev → Store → R Ev) (tt1 : Ev → Store → R Bool) (fe : XE) (vs vs1 : List Nat) : XL := fun env st => (g env st).bind fun xs s =>
  (noX (compW ft tt g1 ft1 tt1 fe vs1 (wipeE env vs) xs s)).bind fun ys s2 => if ys.length ≤ sizeLine then .ok ys s2 else .no
section
variable {K : PySem.W.Frag} {mg : Str → Option Value}
theorem lc2_read {E : XK} {wi : TI} {g g1 : XL} {ft ft1 : PV → Ev → Store → R Ev} {tt tt1 : Ev → Store → R Bool} {fe : XE} {vs vs1 : List Nat} (sw : SI K mg E wi g) :
    SF K mg E (tLc2 wi (tOfG K mg E0 vs ft) (tOfT K mg E0 tt) (tOfI K mg E0 g1) (tOfG K mg E0 vs1 ft1) (tOfT K mg E0 tt1) (tOf K mg E0 fe) vs vs1) (fComp2 g ft tt g1 ft1 tt1 fe vs vs1) := fun Z Fz ρ env st σ H Q rl re o => by
  refine sw Z Fz ρ env st σ H _ rl re (o.seq.mono fun xs s1 F1 r1 H1 _ ex1 rl1 o1 J hlen it D hD => ?_)
  obtain ⟨ys, sf, ec⟩ := out_E0 o1.seq
  have o2 : Out K mg Z E F1 r1 ((noX (compW ft tt g1 ft1 tt1 fe vs1 (wipeE env vs) xs s1)).bind fun ys s2 => if ys.length ≤ sizeLine then R.ok ys s2 else .no) _ := o1
  rw [ec] at o2
  have hys : ys.length ≤ sizeLine := Decidable.byContradiction fun z => by
    have o3 : Out K mg Z E F1 r1 (if ys.length ≤ sizeLine then R.ok ys sf else .no) _ := o2
    rw [if_neg z] at o3
    exact o3.elim
  have o4 : Out K mg Z E F1 r1 (if ys.length ≤ sizeLine then R.ok ys sf else .no) _ := o2
  rw [if_pos hys] at o4
  have hZD : Z D = none := by
    cases e : Z D with
    | none => rfl
    | some u => rw [(rl1.zf D u e).1] at hD; cases hD
  refine ⟨fun i m H => m = xs.length - i ∧ i ≤ xs.length ∧ ∃ (acc : List PV) (accv : List V) (F : Hp) (r : List Addr) (s : Store) (rest : List PV),
    Ext F1 r1 F r ∧ Rel K mg (upd Z D (.lst accv)) F r s H ∧ RepL K mg F r acc accv ∧ compW ft tt g1 ft1 tt1 fe vs1 (wipeE env vs) (xs.drop i) s = .ok rest sf ∧ acc ++ rest = ys, ?_, ?_⟩
  · exact ⟨_, rfl, Nat.zero_le _, [], [], F1, r1, s1, ys, Ext.refl, znew rl1 hD _, RepL.nil, by simpa using ec, rfl⟩
  · rintro i m H2 ⟨rfl, hi, acc, accv, F, r, s, rest, ex, rl2, ra, eq, hy⟩
    obtain ⟨ig, is⟩ := it (upd Z D (.lst accv)) F r s H2 ex rl2
    by_cases hlt : i < xs.length
    · right
      have ed : xs.drop i = xs[i] :: xs.drop (i + 1) := List.drop_eq_getElem_cons hlt
      obtain ⟨go, yl⟩ := ig i xs[i] (by simp [hlt])
      refine ⟨go, fun H' => ∃ (acc : List PV) (accv : List V) (F : Hp) (r : List Addr) (s : Store) (rest : List PV),
        Ext F1 r1 F r ∧ Rel K mg (upd Z D (.lst accv)) F r s H' ∧ RepL K mg F r acc accv ∧ compW ft tt g1 ft1 tt1 fe vs1 (wipeE env vs) (xs.drop (i + 1)) s = .ok rest sf ∧ acc ++ rest = ys,
        fun H' h => ⟨xs.length - (i + 1), by omega, rfl, hlt, h⟩, fun x H' y => ?_⟩
      obtain ⟨F3, ex3, rl3, rx⟩ := yl x H' y
      rw [ed] at eq
      unfold compW at eq
      obtain ⟨e1, t1, q1, eq⟩ := bind_ok eq
      obtain ⟨b, t2, q2, eq⟩ := bind_ok eq
      refine ⟨_, F3, r, wipeE env vs, s, xs[i], rl3, ((re.mono ex1).mono (ex.trans ex3)).wipe vs, rx, ?_⟩
      rw [q1]
      intro F4 r4 H4 ex4 rl4 σ4 re4 k4
      have hl4 : σ4.length = σ.length := by rw [k4.1, L2.wipe_length]
      refine ⟨wipe_eq hl4 k4.2, _, F4, r4, e1, t1, rl4, re4, ?_⟩
      rw [q2]
      intro F5 r5 H5 ex5 rl5
      cases b with
      | false =>
        rw [if_neg Bool.false_ne_true] at eq ⊢
        exact ⟨acc, accv, F5, r5, t2, rest, ex.trans (ex3.trans (ex4.trans ex5)), rl5, ra.mono (ex3.trans (ex4.trans ex5)), eq, hy⟩
      | true =>
        rw [if_pos rfl] at eq ⊢
        obtain ⟨us, t3, q3, eq⟩ := bind_ok eq
        obtain ⟨zs, t4, q4, eq⟩ := bind_ok eq
        obtain ⟨ws, t5, q5, eq⟩ := bind_ok eq
        cases eq
        have re5 := re4.mono ex5
        refine ⟨_, F5, r5, e1, t2, rl5, re5, ?_⟩
        rw [q3]
        intro F6 r6 H6 ex6 rl6 J1 hl1 it1
        have exB : Ext F1 r1 F6 r6 := ex.trans (ex3.trans (ex4.trans (ex5.trans ex6)))
        have ra6 := ra.mono (ex3.trans (ex4.trans (ex5.trans ex6)))
        refine ⟨fun j k H => k = us.length - j ∧ j ≤ us.length ∧ ∃ (acc : List PV) (accv : List V) (F : Hp) (r : List Addr) (s : Store) (rest : List PV),
          Ext F6 r6 F r ∧ Rel K mg (upd Z D (.lst accv)) F r s H ∧ RepL K mg F r acc accv ∧ compV ft1 tt1 fe (wipeE e1 vs1) (us.drop j) s = .ok rest t4 ∧ acc ++ (rest ++ ws) = ys, ?_, ?_⟩
        · exact ⟨_, rfl, Nat.zero_le _, acc, accv, F6, r6, t3, zs, Ext.refl, rl6, ra6, by simpa using q4, hy⟩
        · rintro j k H7 ⟨rfl, hj, acc7, accv7, F7, r7, s7, rest7, ex7, rl7, ra7, eq7, hy7⟩
          have it7 := it1 (upd Z D (.lst accv7)) F7 r7 s7 H7 ex7 rl7
          obtain ⟨ig7, is7⟩ := it7
          by_cases hlt7 : j < us.length
          · right
            have ed7 : us.drop j = us[j] :: us.drop (j + 1) := List.drop_eq_getElem_cons hlt7
            obtain ⟨go7, yl7⟩ := ig7 j us[j] (by simp [hlt7])
            refine ⟨go7, fun H' => ∃ (acc : List PV) (accv : List V) (F : Hp) (r : List Addr) (s : Store) (rest : List PV),
              Ext F6 r6 F r ∧ Rel K mg (upd Z D (.lst accv)) F r s H' ∧ RepL K mg F r acc accv ∧ compV ft1 tt1 fe (wipeE e1 vs1) (us.drop (j + 1)) s = .ok rest t4 ∧ acc ++ (rest ++ ws) = ys,
              fun H' h => ⟨us.length - (j + 1), by omega, rfl, hlt7, h⟩, fun x8 H8 y8 => ?_⟩
            obtain ⟨F8, ex8, rl8, rx8⟩ := yl7 x8 H8 y8
            rw [ed7] at eq7
            unfold compV at eq7
            obtain ⟨e9, t9, q9, eq7⟩ := bind_ok eq7
            obtain ⟨b9, t10, q10, eq7⟩ := bind_ok eq7
            refine ⟨_, F8, r7, wipeE e1 vs1, s7, us[j], rl8, ((re5.mono ex6).mono (ex7.trans ex8)).wipe vs1, rx8, ?_⟩
            rw [q9]
            intro F9 r9 H9 ex9 rl9 σ9 re9 k9
            have hl9 : σ9.length = σ4.length := by rw [k9.1, L2.wipe_length]
            refine ⟨wipe_eq hl9 k9.2, _, F9, r9, e9, t9, rl9, re9, ?_⟩
            rw [q10]
            intro F10 r10 H10 ex10 rl10
            cases b9 with
            | true =>
              rw [if_pos rfl] at eq7 ⊢
              obtain ⟨y', t11, q11, eq7⟩ := bind_ok eq7
              obtain ⟨zs', t12, q12, eq7⟩ := bind_ok eq7
              cases eq7
              refine ⟨_, F10, r10, e9, t10, rl10, re9.mono ex10, ?_⟩
              rw [q11]
              intro F11 r11 H11 ex11 rl11 v11 rv11
              refine ⟨accv7, (rl11.zf D _ upd_same).1, ?_, acc7 ++ [y'], accv7 ++ [v11], F11, r11, t11, zs', ?_, zwrite rl11, ?_, q12, ?_⟩
              · have h1 : acc7.length = accv7.length := ra7.len
                have h2 : (acc7 ++ (y' :: zs' ++ ws)).length = ys.length := by rw [hy7]
                simp at h2
                omega
              · exact ex7.trans (ex8.trans (ex9.trans (ex10.trans ex11)))
              · exact (ra7.mono (ex8.trans (ex9.trans (ex10.trans ex11)))).app (RepL.cons rv11 RepL.nil)
              · rw [← hy7]; simp
            | false =>
              rw [if_neg Bool.false_ne_true] at eq7 ⊢
              exact ⟨acc7, accv7, F10, r10, t10, rest7, ex7.trans (ex8.trans (ex9.trans ex10)), rl10, ra7.mono (ex8.trans (ex9.trans ex10)), eq7, hy7⟩
          · left
            have hj' : j = us.length := by omega
            subst hj'
            refine ⟨is7, ?_⟩
            rw [List.drop_length] at eq7
            cases eq7
            exact ⟨acc7, accv7, F7, r7, _, ws, exB.trans ex7, rl7, ra7, q5, by simpa using hy7⟩
    · left
      have hi' : i = xs.length := by omega
      subst hi'
      refine ⟨is, ?_⟩
      rw [List.drop_length] at eq
      cases eq
      rw [List.append_nil] at hy
      subst hy
      obtain ⟨d1, d2, d3⟩ := rl2.zf D _ upd_same
      have z := o4 F r (off H2 D) ex (zoff rl2 hZD) D accv off_same hys ra
      rw [off_upd d1] at z
      exact z
end
section
variable {X : Cx} {E : XK} {a b e elt tg iter tg1 iter1 : Expr} {ifs ifs1 : List Expr} {scope : Scope} {own : List (Str × Nat)} {vs1 : List Nat} {g g1 : XL} {ft ft1 : PV → Ev → Store → R Ev} {tt tt1 : Ev → Store → R Bool} {fe fa : XE} {pos : Pos}
theorem js_setLc {i : Nat} {y : Str} {py spos : Pos} (hc : X.calm = true) (hN : X.N.Nodup) (ok : BlkOk X.N X.env.scope scope own) (hi : JI X E tg iter g)
    (hg : Blk X scope fun Y => JGv Y E0 (own.map (·.2)) tg ft) (ht : Blk X scope fun Y => JTs Y E0 ifs tt) (he : Blk X scope fun Y => JE Y E0 elt fe)
    (hsw : swapsWith (.ListComp elt [⟨tg, iter, ifs, 0⟩] scope pos) (some (.Name y py)) spos.line X.env = pure true := by exact sw_true rfl rfl rfl (by decide +kernel)) (hy : X.N[i]? = some y := by rfl) (hyl : X.env.scope.names.lookup y = some .local := by rfl)
    (hs : ∀ x, foldedSetIterable iter X.env x = pure x := by intro _; rfl) : JS X E (.Assign [.Name y py] (.ListComp elt [⟨tg, iter, ifs, 0⟩] scope pos) spos) (sSet i (eFz (fComp g ft tt fe (own.map (·.2))))) := by
  obtain ⟨wi, pw, sw⟩ := hi
  exact ⟨_, ps_setLc hc hN hy hyl hsw pw ok (fun s H C cl fp => (hg s H C cl fp).pe) (fun s H C cl fp => (ht s H C cl fp).pe) (fun s H C cl fp => (he s H C cl fp).pe) hs, ss_set (sf_fz (lc_read sw))⟩
theorem js_setLc2 {i : Nat} {y : Str} {py spos : Pos} (hc : X.calm = true) (hN : X.N.Nodup) (ok : BlkOk X.N X.env.scope scope own) (hv : ∀ i ∈ vs1, i ∈ own.map (·.2)) (hi : JI X E tg iter g)
    (hg : Blk X scope fun Y => JGv Y E0 (own.map (·.2)) tg ft) (ht : Blk X scope fun Y => JTs Y E0 ifs tt) (hi1 : Blk X scope fun Y => JI Y E0 tg1 iter1 g1) (hg1 : Blk X scope fun Y => JGv Y E0 vs1 tg1 ft1) (ht1 : Blk X scope fun Y => JTs Y E0 ifs1 tt1) (he : Blk X scope fun Y => JE Y E0 elt fe)
    (hsw : swapsWith (.ListComp elt [⟨tg, iter, ifs, 0⟩, ⟨tg1, iter1, ifs1, 0⟩] scope pos) (some (.Name y py)) spos.line X.env = pure true := by exact sw_true rfl rfl rfl (by decide +kernel)) (hy : X.N[i]? = some y := by rfl) (hyl : X.env.scope.names.lookup y = some .local := by rfl)
    (hs : ∀ x, foldedSetIterable iter X.env x = pure x := by intro _; rfl) (hs1 : ∀ (env : Env) x, foldedSetIterable iter1 env x = pure x := by intro _ _; rfl) : JS X E (.Assign [.Name y py] (.ListComp elt [⟨tg, iter, ifs, 0⟩, ⟨tg1, iter1, ifs1, 0⟩] scope pos) spos) (sSet i (eFz (fComp2 g ft tt g1 ft1 tt1 fe (own.map (·.2)) vs1))) := by
  obtain ⟨wi, pw, sw⟩ := hi
  exact ⟨_, ps_setLc2 hc hN hy hyl hsw pw ok hv (fun s H C cl fp => (hg s H C cl fp).pe) (fun s H C cl fp => (ht s H C cl fp).pe) (fun s H C cl fp => (hi1 s H C cl fp).pe) (fun s H C cl fp => (hg1 s H C cl fp).pe) (fun s H C cl fp => (ht1 s H C cl fp).pe) (fun s H C cl fp => (he s H C cl fp).pe) hs hs1, ss_set (sf_fz (lc2_read sw))⟩
def sPar3 (i j l : Nat) (f : XL) : XS := fun env st => (f env st).bind fun vs s => match vs with
  | [v, w, u] => .ok (.nx (((env.set i (some v)).set j (some w)).set l (some u))) s
  | _ => .no
end
end Lq
end
section
set_option Elab.async false
set_option linter.all false
set_option maxRecDepth 100000
namespace Lq
open PySem PySem.Spec PyProof.Rows L2
open AutoSeq1 (wpAny_loadPart')
theorem enum_new_tup (t : Addr) (items : Array Value) (n : Nat) (dct : Option Addr) (sl : Array (Option Value)) :
    Meets (Builtin.«enumerate.__new__» ⟨[.type "enumerate", .ref t], []⟩) (fun _ R s => s.heap.get? t = some { cls := .type "tuple", dict := dct, data := .seq items n, slots := sl } ∧
      R (.ok (.ret (.ref (s.heap.push { cls := .type "tuple_iterator", data := .fields #[.ref t, .int 0 0] }).objs.size)))
        { s with heap := (s.heap.push { cls := .type "tuple_iterator", data := .fields #[.ref t, .int 0 0] }).push { cls := .type "enumerate", data := .fields #[.none, .bool false, .ref s.heap.objs.size, rawInt 0, .none, .none] } }) :=
  .of_wp fun prog w A R s h => by
    obtain ⟨hp, g, d, tk, os⟩ := s
    obtain ⟨ht, h⟩ := h
    have hsub := sub_enumerate
    have hT : Heap.IsTuple (Shared.heap ⟨hp, g, d, tk, os⟩) t items := ⟨_, ht, rfl, n, rfl⟩
    wp_walk using wpAny_loadPart' ht
    refine wpAny_stack_any fun st => wpAny_pure ?_
    split
    · rename_i c _ _ _ _ _
      cases (c == Value.type "enumerate") <;> (wp_walk using wpAny_loadPart' ht, wpAny_pyIter_tuple hT; exact ⟨_, rfl, h⟩)
    · wp_walk using wpAny_loadPart' ht, wpAny_pyIter_tuple hT
      exact ⟨_, rfl, h⟩
theorem call_enum_tup {prog : Program} {w : World} {A : Around} {E : Value → Shared → Prop} {s : Shared} {t : Addr} {items : Array Value} {Q : Value → Shared → Prop} (hT : s.heap.IsTuple t items)
    (h : ∀ h', IsEnum h' (s.heap.objs.size + 1) s.heap.objs.size 0 .none → h'.IsTupleIter s.heap.objs.size t 0 → (∀ b o, s.heap.get? b = some o → h'.get? b = some o) → Q (.ref (s.heap.objs.size + 1)) { s with heap := h' }) :
    wpAny (model prog w) A (call (.type "enumerate") [.ref t]) Q E s := by
  obtain ⟨⟨c, dct, dt, sl⟩, ht, hc, n, hd⟩ := hT
  replace hc : c = .type "tuple" := hc
  replace hd : dt = .seq items n := hd
  subst hc hd
  refine callType_new F.called_enumerate (by decide) (F.typeCall_enumerate_1 _) (F.newCall_enumerate_1 _) (fun obj => F.args_object_init_2 obj _) F.entry_enumerate_new (enum_new_tup t items n dct sl) ⟨ht, ?_⟩
  have z1 : (s.heap.push { cls := .type "tuple_iterator", data := .fields #[.ref t, .int 0 0] }).objs.size = s.heap.objs.size + 1 := Heap.size_push ..
  show _ ∧ _
  rw [z1]
  have e0 := Heap.get?_push_size (s.heap.push { cls := .type "tuple_iterator", data := .fields #[.ref t, .int 0 0] }) (o := { cls := .type "enumerate", data := .fields #[.none, .bool false, .ref s.heap.objs.size, rawInt 0, .none, .none] }) rfl
  rw [z1] at e0
  exact ⟨⟨_, e0, rfl⟩, h _ e0 ⟨_, Heap.get?_push_of_some _ (Heap.get?_push_size _ rfl), rfl, rfl⟩ fun b o x => Heap.get?_push_of_some _ (Heap.get?_push_of_some _ x)⟩
def ItE (K : PySem.W.Frag) (a : Addr) : It :=
  ⟨fun i H => ∃ (xs : List V) (x : V), SqT K H a xs ∧ xs[i]? = some x, fun i H v H' => ∃ T x, v = .ref T ∧ H T = none ∧ H' = upd H T (.tup [.int (i : Nat), x]) ∧ ∀ xs, SqT K H a xs → xs[i]? = some x, fun i H => ∃ xs : List V, SqT K H a xs ∧ xs.length = i⟩
theorem turn_enumTup {P : Program} {w : World} {K : PySem.W.Frag} {elts : List Expr} {kk : Nat} {tpos : Pos} (a e it : Addr) :
    Turn P w K (.Tuple elts kk tpos) (ItE K a) [e, it] e (fun i h => (∃ old, IsEnum h e it ((i : Nat) : Int) old) ∧ h.IsTupleIter it a i ∧ e ≠ it) where
  mem := by simp
  obj := fun i h st b hb => by
    obtain ⟨⟨old, he⟩, ⟨o, ho, hc, hd⟩, _⟩ := st
    rw [List.mem_cons, List.mem_singleton] at hb
    rcases hb with rfl | rfl
    · exact ⟨_, he, fun v q => nomatch q⟩
    · exact ⟨o, ho, fun v q => by rw [hd] at q; cases q⟩
  keep := fun i h h' st k => ⟨⟨st.1.choose, k e (by simp) _ st.1.choose_spec⟩, st.2.1.at fun o q => k it (by simp) o q, st.2.2⟩
  item := by
    intro X hP hw hK hc i pins s σ H E I hf st hg
    subst hP hw hK
    obtain ⟨⟨old, he⟩, hit, hne⟩ := st
    obtain ⟨xs, x, hq, hx⟩ := hg
    obtain ⟨its, rv, tp, hz⟩ := I.tuple hq
    obtain ⟨u, hu, ru⟩ := rv.get hx
    have le : e < s.heap.objs.size := Heap.lt_size he
    have li : it < s.heap.objs.size := by obtain ⟨_, q, _⟩ := hit; exact Heap.lt_size q
    have hlt : i < its.toArray.size := by
      have := (List.getElem?_eq_some_iff.mp hu).1
      simpa using this
    have ita : ∀ {b : Addr} {o : Obj}, s.heap.get? b = some o → o.cls = .type "tuple" → b ≠ e ∧ b ≠ it := fun {b o} q qc => by
      refine ⟨fun z => ?_, fun z => ?_⟩
      · subst z; rw [he] at q; cases q; exact absurd qc (by simp)
      · subst z
        obtain ⟨o', q', qc', _⟩ := hit
        rw [q] at q'; cases q'; rw [qc] at qc'; exact absurd qc' (by simp)
    obtain ⟨ot, got, ct, _⟩ := id tp
    obtain ⟨nae, nai⟩ := ita got ct
    refine wpAny_pyNext_enum_itemD (Draws.tuple (A := X.A.in1) (by exact I.ok.hd hc) it a nai its.toArray) he ⟨hit, (show s.heap.IsTuple a its.toArray from tp)⟩ hlt hne (by simp [hne, nae.symm]) fun u' h' tk hP ho st' hT hsz hk => ?_
    have eu : u' = u := by
      have hP' : its.toArray[i]? = some u' := hP
      rw [List.getElem?_toArray, hu] at hP'
      cases hP'; rfl
    subst eu
    refine ⟨_, rfl, wpAny_letOwnedTupleGo_enum (s := { s with heap := h', toks := tk + 1 }) ho fun h'' he' sb => ?_⟩
    have hT2 : h''.get? s.heap.objs.size = some { cls := .type "tuple", data := .seq #[.int i tk, u'] } := (sb.2 _ (Nat.ne_of_gt le)).trans hT
    have new : ObjOk X.prog X.w (upd H s.heap.objs.size (.tup [.int (i : Nat), x])) h'' s.heap.objs.size (.tup [.int (i : Nat), x]) :=
      ⟨(by decide : 2 ≤ sizeLine), [.int i tk, u'], .cons ⟨_, rfl⟩ (.cons ru .nil), ⟨_, hT2, rfl, _, rfl⟩⟩
    have I1 := I.turnedNew (t' := tk + 1) (ch := [e, it]) (fun b ob hb q => (sb.2 b (fun z => hb (by simp [z]))).trans (hk b ob (fun z => hb (by simp [z])) (fun z => hb (by simp [z])) q)) hf Nat.le.refl new
    refine ⟨.ref s.heap.objs.size, _, I1, rfl, ⟨_, x, rfl, I.hok.fresh Nat.le.refl, rfl, fun ys hy => ?_⟩, ⟨⟨u', ?_⟩, st'.1.at fun o q => (sb.2 it hne.symm).trans q, hne⟩, fun b hb => ?_⟩
    · rw [I.tuple_inj hy hq]; exact hx
    · rw [show ((i + 1 : Nat) : Int) = (i : Int) + 1 by omega]; exact he'
    · rw [List.mem_cons, List.mem_singleton] at hb
      have lb : b < s.heap.objs.size := by rcases hb with rfl | rfl <;> assumption
      rw [upd_ne (Nat.ne_of_lt lb)]
      exact (hf b (by simpa using hb)).1
  done := by
    intro X hP hw hK hc i pins s σ H E I hf st hg
    subst hP hw hK
    obtain ⟨⟨old, he⟩, hit, hne⟩ := st
    obtain ⟨xs, hq, hx⟩ := hg
    obtain ⟨its, rv, tp, hz⟩ := I.tuple hq
    obtain ⟨f0, f1, f2, f3, f4, f5⟩ := hf it (by simp)
    have hl := rv.length
    obtain ⟨ot, got, ct, _⟩ := id tp
    have nai : a ≠ it := fun z => by
      subst z
      obtain ⟨o', q', qc', _⟩ := hit
      rw [got] at q'; cases q'; rw [ct] at qc'; exact absurd qc' (by simp)
    have en : i = its.toArray.size := by simp; omega
    subst en
    exact wpAny_pyNext_enum_endD (Draws.tuple (A := X.A.in1) (by exact I.ok.hd hc) it a nai its.toArray) he ⟨hit, (show s.heap.IsTuple a its.toArray from tp)⟩ fun h' eb => ⟨rfl, I.turned (t' := s.toks) (fun b o hb q => eb b o hb q) f0 f1 f3 f4 f5⟩
  self := fun A i s Q E st h => wpAny_pyIter_enum st.1.choose_spec h
theorem pi_enumTup {X : Cx} {e : Expr} {ta : TA} {p pos tpos : Pos} {elts : List Expr} {kk : Nat} (hg : Gl X "enumerate") (hm : X.mg "enumerate" = none) (ha : PA X [e] ta) (hs : starEach [e] X.env = [(false, eval e X.env)] := by rfl) :
    PI X (.Tuple elts kk tpos) (.Call (.Name "enumerate" p) [e] [] pos) (fun σ H R => ta σ H fun vs H1 => ∃ a xs, vs = [.ref a] ∧ SqT X.K H1 a xs ∧ R (ItE X.K a) H1) := by
  refine ⟨fun pins s σ H R I h => ?_⟩
  refine Call_ (ld_blt I hg hm boot_enumerate (PyProof.Rows.callWith_type1 (thn (ha.run pos pins s σ H _ I h) fun us s1 w1 => ?_) hs rfl))
  obtain ⟨vs, G, J, rs, d, xs, rfl, sq, k⟩ := w1
  match us, rs with
  | [u], .cons r1 .nil =>
    obtain rfl : u = Value.ref d := r1
    obtain ⟨its, rv, tp, _⟩ := J.tuple sq
    refine call_enum_tup (show s1.heap.IsTuple d its.toArray from tp) fun h' he hit hk => wpAny_pyIter_enum he ?_
    refine ⟨_, [s1.heap.objs.size + 1, s1.heap.objs.size], _, _, G, rfl, J.kept (t' := s1.toks) hk, turn_enumTup d (s1.heap.objs.size + 1) s1.heap.objs.size, ⟨⟨.none, he⟩, hit, Nat.succ_ne_self _⟩, fun b hb => ?_, k⟩
    have lb : s1.heap.objs.size ≤ b := by
      rw [List.mem_cons, List.mem_singleton] at hb
      rcases hb with rfl | rfl <;> omega
    exact J.fpOk lb (J.hok.fresh lb)
theorem itv_enumT {K : PySem.W.Frag} {mg : Str → Option Value} {Z Fz : Hp} {ρ : List Addr} {c : Addr} {vs : List V} {xs : List PV} (s : SqT K Fz c vs) (r : RepL K mg Fz ρ xs vs) : ItV K mg (ItE K c) Z Fz ρ (nums xs) := fun Z' F1 r1 st H ex rl => by
  have s1 : SqT K H c vs := sqT_mono rl.fz (sqT_mono ex.fz s)
  refine ⟨fun i x e => ?_, ⟨vs, s1, ?_⟩⟩
  · obtain ⟨p, q, e1, e2, rfl⟩ := pairs_get _ _ i x e
    obtain ⟨v, f1, rv⟩ := r.get e2
    have hi : i < xs.length := (List.getElem?_eq_some_iff.mp e2).1
    rw [rng_get hi] at e1
    cases e1
    refine ⟨⟨vs, v, s1, f1⟩, fun z H' y => ?_⟩
    obtain ⟨T, x0, rfl, hT, rfl, k1⟩ := y
    have := k1 vs s1; rw [f1] at this; cases this
    exact rep_pair rl hT (by rw [Rep]; simp) (rv.mono ex)
  · unfold nums
    rw [pairs_len]
    simp [rng, r.len]
def iEnumT (f : XL) : XL := fun env st => (f env st).bind fun vs s => match vs with
  | [.tup xs] => .ok (nums xs) s
  | [p] => (match asVL s p with
    | some xs => .ok (nums xs) s
    | _ => .no)
  | _ => .no
section
variable {X : Cx} {E : XK} {a b : Expr} {p pos : Pos}
theorem ji_enumT {f : XL} {elts : List Expr} {kk : Nat} {tpos : Pos} (ha : JA X E [a] f) (hm : X.mg "enumerate" = none) (hg : Gl X "enumerate" := by rfl) (hs : starEach [a] X.env = [(false, eval a X.env)] := by rfl) :
    JI X E (.Tuple elts kk tpos) (.Call (.Name "enumerate" p) [a] [] pos) (iEnumT f) := by
  have pf := ha.pe
  refine ⟨_, PI.or (pi_enumTup hg hm pf hs) (pi_enum hg hm pf hs), fun Z Fz ρ env st σ H RR rl hh o => ?_⟩
  have o' : Out X.K X.mg Z E Fz ρ ((f env st).bind fun vs s => match vs with
    | [.tup xs] => R.ok (nums xs) s
    | [p] => (match asVL s p with
      | some xs => .ok (nums xs) s
      | _ => .no)
    | _ => .no) _ := o
  cases ef : f env st with
  | no => rw [ef] at o'; exact o'.elim
  | ex c s =>
    refine .inl ⟨Z, Fz, ρ, env, st, rl, hh, ?_⟩
    rw [ef] at o' ⊢
    exact o'
  | ok vs s =>
    rw [ef] at o'
    have o2 : Out X.K X.mg Z E Fz ρ (match vs with
      | [.tup xs] => R.ok (nums xs) s
      | [p] => (match asVL s p with
        | some xs => .ok (nums xs) s
        | _ => .no)
      | _ => .no) _ := o'
    split at o2
    · refine .inl ⟨Z, Fz, ρ, env, st, rl, hh, ?_⟩
      rw [ef]
      intro F1 r1 H1 ex1 rl1 vs' rv0
      obtain ⟨v, rfl, rv⟩ := rep1 rv0
      rw [Rep] at rv
      obtain ⟨d, ws, rfl, sq, hl, rr⟩ := rv
      exact ⟨d, ws, rfl, sqT_mono rl1.fz sq, o2 F1 r1 H1 ex1 rl1 _ (by unfold nums; rw [pairs_len]; omega) (itv_enumT sq rr)⟩
    · split at o2
      · rename_i q ps e1
        refine .inr ⟨Z, Fz, ρ, env, st, rl, hh, ?_⟩
        rw [ef]
        intro F1 r1 H1 ex1 rl1 vs' rv0
        obtain ⟨v, rfl, rv⟩ := rep1 rv0
        obtain ⟨d, ws, rfl, sq, hl, rr⟩ := asVL_ok rl1 rv e1
        exact ⟨d, ws, rfl, sqL_mono rl1.fz sq, o2 F1 r1 H1 ex1 rl1 _ (by unfold nums; rw [pairs_len]; omega) (itv_enum sq rr)⟩
      · exact o2.elim
    · exact o2.elim
end
end Lq
end
section
set_option Elab.async false
set_option linter.all false
set_option maxRecDepth 10000
namespace Lq
open PySem PySem.Spec PyProof.Rows L2
def excs : List Str := ["InvalidThings", "InvalidTold", "InvalidWeights", "InvalidLot", "InvalidComparison", "InvalidNumber", "InvalidText", "NotSure", "NoneAgree", "TooMany", "NothingToUndo"]
def exC1 (K : PySem.W.Frag) (D : Addr) : Bool :=
  decide (PySem.W.findIn K (.ref D) "__getattribute__" = some (some (.builtin "BaseException.__getattribute__"))) && (decide (PySem.W.findIn K (.ref D) "__getattr__" = some none) &&
  (decide (PySem.W.subIn K (.ref D) (.type "BaseException") = some true) && (PySem.W.hasDictIn K D &&
  (decide (PySem.W.findIn K (.ref D) "__class__" = some (some (.builtin "object.__class__"))) && (decide (PySem.W.specialIn K (.builtin "object.__class__") "__get__" = some (some (.builtin "getset_descriptor.__get__"))) &&
  (decide (PySem.W.takesIn K (.builtin "object.__class__") = some true) && decide (PySem.W.mroIn K D (.type "object") = some true)))))))
theorem exC1_ok {K : PySem.W.Frag} {D : Addr} (h : exC1 K D = true) : ExcC K D := by
  unfold exC1 at h
  simp only [Bool.and_eq_true, decide_eq_true_eq] at h
  exact ⟨h.1, h.2.1, h.2.2.1, h.2.2.2.1, h.2.2.2.2.1, h.2.2.2.2.2.1, h.2.2.2.2.2.2.1, h.2.2.2.2.2.2.2⟩
def exB (l : List Str) (K : PySem.W.Frag) : Bool := l.all fun c =>
  decide (PySem.W.nsIn K mainGlobals c = some (some (.ref (He.ga K c)))) && ((He.Fa.exc c).ok K && (exC1 K (He.ga K c) && (decide (PySem.W.exmOne K (.ref (He.ga K c)) (.ref (He.ga K "ScaleError")) = some true) &&
    (decide (PySem.W.kitOne K (.ref (He.ga K c)) (.type "ValueError") = some true) && l.all fun y => decide (PySem.W.kitOne K (.ref (He.ga K c)) (.ref (He.ga K y)) = some (c == y))))))
def frB (frees : List Str) (K : PySem.W.Frag) : Bool := frees.all fun x => decide (PySem.W.nsIn K mainGlobals x = some none)
def clB (cls : List (Str × List Str)) (K : PySem.W.Frag) : Bool := cls.all fun c => decide (PySem.W.nsIn K mainGlobals c.1 = some (some (.ref (He.ga K c.1)))) && ((He.Fa.cls c.1).ok K && c.2.all fun f => decide (PySem.W.findIn K (.ref (He.ga K c.1)) f = some none))
def sgs : List He.Dv := [.str ">", .str ">=", .str "="]
def sgB (K : PySem.W.Frag) : Bool := decide (PySem.W.nsIn K mainGlobals "SIGNS" = some (some (.ref (He.ga K "SIGNS")))) && He.tupB K "SIGNS" sgs
structure Ask where
  frees : List Str
  exq : List Str
  cls : List (Str × List Str)
  sgq : Bool
structure Fx (fa : List He.Fa) (fn : List He.DefD) (q : Ask) (K : PySem.W.Frag) (mg : Str → Option Value) : Prop where
  says : He.SaysD fa fn K
  ns : ∃ h : Heap, K.In h ∧ h.Ns mainGlobals mg
  frs : frB q.frees K = true
  exs : exB q.exq K = true
  clss : clB q.cls K = true
  sgn : q.sgq = true → sgB K = true
def exM (q : Ask) (K : PySem.W.Frag) : Bool := frB q.frees K && (exB q.exq K && (clB q.cls K && (!q.sgq || sgB K)))
def hookM (n : Nat) (fa : List He.Fa) (fn : List He.DefD) (q : Ask) : PySem.W.Hook where
  α := He.AlD × Bool
  obs := fun s => (He.obsDG n fa fn s.heap.get?, exM q (He.frG s.heap.get? (He.asD s.heap.get? n)))
  val := fun _ => (He.valD fn, true)
  says := fun _ h => ∃ K : PySem.W.Frag, K.In h ∧ He.SaysD fa fn K ∧ exM q K = true
  of := fun _ _ e => ⟨_, He.frG_in, congrArg (fun z : He.AlD × Bool => z.1) e, congrArg (fun z : He.AlD × Bool => z.2) e⟩
  keeps := fun _ _ _ ⟨K, hK, c⟩ k => ⟨K, PySem.W.Frag.In.keeps hK k, c⟩
def obM (n : Nat) (fa : List He.Fa) (fn : List He.DefD) (q : Ask) (s : PySem.W.SharedT) : He.AlD × Bool :=
  (He.obsDG n fa fn (HandSHeadRun.getT s), exM q (He.frG (HandSHeadRun.getT s) (He.asD (HandSHeadRun.getT s) n)))
theorem obM_eq {n : Nat} {fa : List He.Fa} {fn : List He.DefD} {q : Ask} (s : PySem.W.SharedT) : obM n fa fn q s = (hookM n fa fn q).obs s.abs := by
  have e : HandSHeadRun.getT s = s.abs.heap.get? := funext (HandSHeadRun.getT_eq s)
  unfold obM
  rw [e]
  rfl
section
variable {fa : List He.Fa} {fn : List He.DefD} {q : Ask} {K : PySem.W.Frag} {mg : Str → Option Value}
theorem fx_of {h : Heap} (X : K.In h) (G : h.Ns mainGlobals mg) (c : He.SaysD fa fn K) (e : exM q K = true) : Fx fa fn q K mg := by
  unfold exM at e
  simp only [Bool.and_eq_true] at e
  refine ⟨c, ⟨h, X, G⟩, e.1, e.2.1, e.2.2.1, fun z => ?_⟩
  · have := e.2.2.2
    rw [z] at this
    simpa using this
theorem Fx.fr (G : Fx fa fn q K mg) (x : Str) (hx : x ∈ q.frees) : mg x = none := by
  obtain ⟨h, X, N⟩ := G.ns
  have z := List.all_eq_true.mp G.frs x hx
  exact PySem.W.mg_none_of X N (of_decide_eq_true z)
theorem Fx.glo (G : Fx fa fn q K mg) (i : Nat) {x : Str} (h : fa[i]? = some (.glo x)) : mg x = some (.ref (He.ga K x)) := by
  obtain ⟨hp, X, N⟩ := G.ns
  exact He.glo_ok X N (G.says.fact i h)
theorem Fx.def_ (G : Fx fa fn q K mg) (i : Nat) {d : He.DefD} (h : fn[i]? = some d) (h1 : d.dfl = []) (h2 : d.kwd = []) : ∃ fd, FunD K d.name d.qual d.params d.body d.scope [] [] (He.fAd K d.at_) fd := by
  obtain ⟨fd, F⟩ := G.says.def_ i h
  unfold He.DefD.dvs He.DefD.kws at F
  rw [h1, h2] at F
  exact ⟨fd, F⟩
theorem Fx.exAll (G : Fx fa fn q K mg) {c : Str} (hc : c ∈ q.exq) : mg c = some (.ref (He.ga K c)) ∧ (He.Fa.exc c).ok K = true ∧ ExcC K (He.ga K c) ∧ PySem.W.exmOne K (.ref (He.ga K c)) (.ref (He.ga K "ScaleError")) = some true ∧
    PySem.W.kitOne K (.ref (He.ga K c)) (.type "ValueError") = some true ∧ ∀ y ∈ q.exq, PySem.W.kitOne K (.ref (He.ga K c)) (.ref (He.ga K y)) = some (c == y) := by
  obtain ⟨hp, X, N⟩ := G.ns
  have z := List.all_eq_true.mp G.exs c hc
  simp only [Bool.and_eq_true, decide_eq_true_eq] at z
  obtain ⟨z1, z2, z3, z4, z5, z6⟩ := z
  exact ⟨PySem.W.mg_of X N z1, z2, exC1_ok z3, z4, z5, fun y hy => of_decide_eq_true (List.all_eq_true.mp z6 y hy)⟩
theorem Fx.exc (G : Fx fa fn q K mg) {X : Cx} (x : Str) (hx : x ∈ q.exq) (hK : X.K = K := by rfl) (hm : X.mg = mg := by rfl) : ExcF X x := by
  subst hK hm
  obtain ⟨z1, z2, _⟩ := G.exAll hx
  obtain ⟨e1, e2, e3, e4⟩ := He.exc_ok z2
  exact ⟨_, z1, e1, e2, raises_own e3 e4⟩
theorem Fx.names (G : Fx fa fn q K mg) (hq : q.exq = excs) (i : Nat) (h : fa[i]? = some (.glo "ScaleError")) {X : Cx} (hg : Gl X "ScaleError" := by rfl) (hm : X.mg = mg := by rfl) : Names X "ScaleError" (.ref (He.ga K "ScaleError")) := by
  subst hm
  exact ⟨hg, by decide, .inl (G.glo i h)⟩
end
section
variable {fa : List He.Fa} {fn : List He.DefD} {q : Ask} {P : Program} {w : World} {K : PySem.W.Frag} {mg : Str → Option Value} {base : Heap}
theorem Fx.clsAt (G : Fx fa fn q K mg) (i : Nat) {x : Str} {fs : List Str} (h : q.cls[i]? = some (x, fs)) : mg x = some (.ref (He.ga K x)) ∧ Cls K (He.ga K x) ∧ ∀ f ∈ fs, NoAttr K (He.ga K x) f := by
  obtain ⟨hp, X, N⟩ := G.ns
  have z := List.all_eq_true.mp G.clss _ (List.mem_of_getElem? h)
  simp only [Bool.and_eq_true, decide_eq_true_eq] at z
  exact ⟨PySem.W.mg_of X N z.1, He.cls_ok z.2.1, fun f hf => (show PySem.W.findIn K (.ref (He.ga K x)) f = some none from of_decide_eq_true (List.all_eq_true.mp z.2.2 f hf))⟩
theorem Fx.clsF (G : Fx fa fn q K mg) (i : Nat) {x : Str} {fs : List Str} (h : q.cls[i]? = some (x, fs)) : ClsF K mg x fs := ⟨_, G.clsAt i h⟩
theorem Fx.me (G : Fx fa fn q K mg) (i : Nat) {x m : Str} {fs : List Str} (h : q.cls[i]? = some (x, fs)) (j : Nat) (hm : fa[j]? = some (.meth x m)) {k n : Nat} {f : Fn} {fd : FuncData} {ps : List Str} (hb : Binds K fd ps [])
    (ok : FnOk P w K mg base (L2.CX P w) k (He.fAd K (x, some m)) fd ps (spF K mg n f)) : Me P w K mg base k x m n f :=
  ⟨_, _, fd, ps, (G.clsAt i h).1, (G.clsAt i h).2.1, He.meth_ok (G.says.fact j hm), hb, ok⟩
theorem Fx.mi (G : Fx fa fn q K mg) (i : Nat) {x : Str} {fs : List Str} (h : q.cls[i]? = some (x, fs)) (j : Nat) (hm : fa[j]? = some (.mkr x)) {k n : Nat} {f : Fn} {fd : FuncData} {ps : List Str} (hb : Binds K fd ps [])
    (ok : FnOk P w K mg base (L2.CX P w) k (He.fAd K (x, some "__init__")) fd ps (spF K mg n f)) : Mi P w K mg base k x n f :=
  ⟨_, _, fd, ps, (G.clsAt i h).1, He.mkr_ok (G.says.fact j hm), hb, ok⟩
theorem Fx.signs (G : Fx fa fn q K mg) (hq : q.sgq = true) {X : Cx} {E : XK} {pos : Pos} (hg : Gl X "SIGNS" := by rfl) (hK : X.K = K := by rfl) (hm : X.mg = mg := by rfl) : JE X E (.Name "SIGNS" pos) (eC (.tup [.str ">", .str ">=", .str "="])) := by
  subst hK hm
  obtain ⟨hp, Y, N⟩ := G.ns
  have z := G.sgn hq
  unfold sgB at z
  rw [Bool.and_eq_true, decide_eq_true_eq] at z
  refine je_const (pe_glob hg (PySem.W.mg_of Y N z.1) (v := .ref (He.ga X.K "SIGNS")) rfl) fun Fz ρ => ?_
  rw [Rep]
  exact ⟨_, _, rfl, He.tupB_ok z.2 Fz, (by decide : 3 ≤ sizeLine), RepL.cons (by rw [Rep]; rfl) (RepL.cons (by rw [Rep]; rfl) (RepL.cons (by rw [Rep]; rfl) RepL.nil))⟩
end
section
variable {P : Program} {w : World} {K : PySem.W.Frag} {mg : Str → Option Value} {base : Heap} {N : List Str} {qual : Str} {scope : Scope} {f : Addr} {cdv : Value} {A : Around} {outer : List Env} {s : Shared} {H : Hp} {E : XK}
theorem ctx_tk : L2.Takes (cxOf (L2.CX P w) P w K mg base N qual scope f cdv A outer s H E) (fun cls d _ H => E cls d H) := takes_of rfl rfl rfl rfl
theorem ctx_px : Passes (L2.CX P w) (cxOf (L2.CX P w) P w K mg base N qual scope f cdv A outer s H E) E := passes_call ctx_tk fun _ _ _ _ h => h
theorem ctx_po : PassesOwn (model P w) (cxOf (L2.CX P w) P w K mg base N qual scope f cdv A outer s H E).A (cxOf (L2.CX P w) P w K mg base N qual scope f cdv A outer s H E).env (cxOf (L2.CX P w) P w K mg base N qual scope f cdv A outer s H E).xe := passes_of (X := cxOf (L2.CX P w) P w K mg base N qual scope f cdv A outer s H E) rfl
end
theorem law_sp {K : PySem.W.Frag} {mg : Str → Option Value} {g : Fn} {H : Hp} {a : Addr} {ns : List Int} (hS : SqL K H a (ns.map V.int)) (hl : ns.length ≤ sizeLine) (h : ∃ st, g [.scr ns] [] = .ok (.bl true) st) :
    spF K mg 1 g [.ref a] H (fun v _ => v = .bl true) E0 := by
  obtain ⟨st, e⟩ := h
  have rl : Rel K mg (fun _ => none) H [] [] H := ⟨fun _ _ z => (by cases z), fun _ _ z => z, rfl, fun k a x z => (by cases z), fun k a x z => (by cases z), List.nodup_nil⟩
  refine ⟨rfl, fun _ => none, H, [], [], [.scr ns], rl, RepL.cons (by rw [Rep]; exact ⟨a, rfl, hS, hl⟩) RepL.nil, ?_⟩
  rw [e]
  intro F' r' H' _ _ v' rv
  rw [Rep] at rv
  exact rv
theorem u65 {k : Nat} {A : Around} (hr : Room k A) : A.units + 65 < cLine := by have := hr.un; omega
theorem fn_calm {P : Program} {w : World} {K : PySem.W.Frag} {mg : Str → Option Value} {base : Heap} {k n : Nat} {f : Addr} {fd : FuncData} {ps : List Str} {g : Fn} (F : FnOk P w K mg base (L2.CX P w) k f fd ps (spF K mg n g)) :
    FnOk P w K mg base CX0 k f fd ps (fun vs H Q _ => spF K mg n g vs H Q E0) := by
  refine ⟨fun vs H Q E h => F.len vs H Q E0 h, fun A outer s H args us vs Q E hr he hb hv hs => ?_⟩
  refine codeAny_mono (F.run A outer s H args us vs Q E0 hr he hb hv hs) fun r s' hq => ?_
  cases r with
  | ok fl => cases fl <;> exact hq
  | error e =>
    obtain ⟨_, _, _, _, _, _, _, _, _, _, _, _, z⟩ := hq
    exact z.elim
end Lq
end
section
set_option Elab.async false
set_option linter.all false
set_option maxRecDepth 10000
namespace PySem.W
open PySem PySem.Calls PyProof.Rows PySem.SeqAt
section
variable {prog : Program} {w : World} {A : Around} {E : Value → Shared → Prop} {s : Shared}
theorem oneLt_tups {xs ys : List PyData} {a b : Value} {as bs : List Addr} {Q : Bool → Shared → Prop} (ra : Reads s.heap a (.tuple xs) as) (rb : Reads s.heap b (.tuple ys) bs) (h : alike (.tuple xs) (.tuple ys) = true)
    (hu : A.units + min (PyData.depth (.tuple xs)) (PyData.depth (.tuple ys)) < cLine) (hq : Q (dataLt (.tuple xs) (.tuple ys)) s) : wpAny (model prog w) A (oneLt' true a b) Q E s := by
  have hal : alikeAll xs ys = true := by simpa [alike] using h
  cases ra with
  | @tuple l o vs n _ as₁ h1 h2 h3 h4 =>
    cases rb with
    | @tuple l' o' vs' n' _ bs₁ k1 k2 k3 k4 =>
      have n1 : vs.size = xs.length := by simpa using ReadsAll.length _ _ _ h4
      have n2 : vs'.size = ys.length := by simpa using ReadsAll.length _ _ _ k4
      rw [dataLt_tuple, ← firstLt_toks xs ys hal, ← n1, ← n2] at hq
      rw [oneLt'_eq]
      simp only [if_true]
      refine wpAny_bind (wpAny_cRoomFor (room_here hu) ?_)
      obtain ⟨cls, dd, data, sl⟩ := o
      obtain ⟨cls', dd', data', sl'⟩ := o'
      simp only at h2 h3 k2 k3
      subst h2 h3 k2 k3
      refine wpAny_bind (wpAny_callSpecialIfBound?_slot (T := "tuple") ⟨_, h1, rfl⟩ F.slot_tuple_lt (call_meets F.slot_tuple_lt ⟨_, h1, rfl⟩ F.entry_tuple_lt (F.args_tuple_lt_2 _ _)
        (tuple_ltAt l l' vs vs' n n' dd dd' sl sl' (pairEq xs ys) (fun j => dataLt (xs.getD j .none) (ys.getD j .none))) ⟨h1, k1, fun j j1 j2 => ?_, fun j j1 j2 hj => ?_, ?_⟩))
      · have := eqAt_alikeAll xs ys A.in1 s vs.toList vs'.toList _ _ h4 k4 hal (room_in hu) j (by simpa using j1) (by simpa using j2)
        simpa using this
      · have := rcLt_alikeAll xs ys A.in1 s vs.toList vs'.toList _ _ h4 k4 hal (room_in hu) j (by simpa using j1) (by simpa using j2) hj
        simpa using this
      · exact wpAny_truthy_bool hq
theorem firsts_any : ∀ (vs : List Value) (ds : List PyData) {Q : List (Option Value) → Shared → Prop}, EachIs (fun v d => ∃ as, Reads s.heap v d as) vs ds → (∀ d, d ∈ ds → ∃ xs, d = .tuple xs) → (∀ fs : List (Option Value), fs.length = vs.length → (∀ d r, ds = d :: r → d = .tuple [] → ∃ fr, fs = none :: fr) → Q fs s) → wpAny (model prog w) A (vs.mapM firstOfTuple') Q E s
  | _, _, Q, .nil, _, h => by rw [List.mapM_nil]; exact wpAny_pure (h [] rfl (fun d r e => by cases e))
  | v :: vs, d :: ds, Q, .cons ⟨as, ra⟩ t, hd, h => by
    rw [List.mapM_cons]
    obtain ⟨xs, rfl⟩ := hd _ (List.mem_cons_self ..)
    cases ra with
    | @tuple l o its n _ as₁ h1 h2 h3 h4 =>
      refine wpAny_bind ?_
      rw [kas_first_eq]
      refine wpAny_bind (Looks.here (show Looks _ s.heap (typeOf (.ref l)) o.cls from (Looks.ld h1).andThen .now) ?_)
      rw [h2, if_neg (by first | decide | simp)]
      refine wpAny_bind (listItems_at h1 h3 (wpAny_pure ?_))
      refine wpAny_bind (firsts_any vs ds t (fun d hm => hd d (List.mem_cons_of_mem _ hm)) fun fs hl hf => wpAny_pure (h _ (by simp [hl]) fun d r e1 e2 => ?_))
      cases e1
      cases e2
      have : its.toList = [] := by
        cases q : its.toList with
        | nil => rfl
        | cons z zs => rw [q] at h4; cases h4
      have e0 : its[0]? = none := by rw [← Array.getElem?_toList, this]; rfl
      exact ⟨fs, by rw [e0]⟩
theorem SortsAt.tups0 {vs : List Value} {ds : List PyData} (e : EachIs (fun v d => ∃ as, Reads s.heap v d as) vs ds) (hal : AllAlike ds) (ht : ∀ d, d ∈ ds → ∃ xs, d = .tuple xs) (h0 : ∃ r, ds = .tuple [] :: r) (hu : ∀ d, d ∈ ds → A.units + d.depth < cLine) : SortsAt prog w A s (dataKind s.heap ds) vs := by
  have room : ∀ {d d' : PyData}, d ∈ ds → A.units + min d.depth d'.depth < cLine := fun {d d'} hd => Nat.lt_of_le_of_lt (Nat.add_le_add_left (Nat.min_le_left _ _) _) (hu d hd)
  refine ⟨fun v hv => ?_, oneType', ?_, fun h2 E Q hq => ?_⟩
  · obtain ⟨d, hd, as, r⟩ := e.left v hv
    exact ⟨_, dataKind_some hal hd r⟩
  · intro E x y a b Q ha hb hq
    obtain ⟨d, as, hd, ra, rfl⟩ := dataKind_inv ha
    obtain ⟨d', as', hd', rb, rfl⟩ := dataKind_inv hb
    rw [keyLt'_oneType]
    obtain ⟨xs, rfl⟩ := ht d hd
    obtain ⟨ys, rfl⟩ := ht d' hd'
    exact oneLt_tups ra rb (hal _ hd _ hd') (room hd) hq
  · obtain ⟨r, hr⟩ := h0
    rw [keyKind'_eq, List.mapM_toArray, map_eq_pure_bind]
    refine wpAny_bind (wpAny_bind (firsts_any vs ds e ht fun fs hl hf => wpAny_pure ?_))
    obtain ⟨fr, rfl⟩ := hf _ _ hr rfl
    rw [if_neg (by simp), if_neg (by simp)]
    rw [oneTypeOnly'_eq, List.mapM_toArray, map_eq_pure_bind]
    refine wpAny_bind (wpAny_bind (wpAny_bind (kas_mapM (r := Value.type "tuple") _ (fun v hv Q' hq => ?_) (wpAny_pure ?_))))
    · obtain ⟨d, hd, as, r⟩ := e.left v hv
      obtain ⟨xs, rfl⟩ := ht d hd
      exact (looks_reads r).here hq
    · have hall : ((List.map (fun _ => Value.type "tuple") vs).toArray.all fun x => x == Value.type "tuple") = true := by
        simp only [List.all_toArray, List.all_map, List.all_eq_true]
        intro _ _
        exact beq_self_eq_true _
      have h0 : (List.map (fun _ => Value.type "tuple") vs).toArray[0]? = some (Value.type "tuple") := by
        match vs, h2 with
        | _ :: _, _ => simp
      rw [h0]
      simp only [hall, if_true]
      exact wpAny_pure (wpAny_pure hq)
end
end PySem.W
end
section
set_option Elab.async false
set_option linter.all false
set_option maxRecDepth 10000
namespace Lq
open PySem PySem.Spec PyProof.Rows L2 PySem.W
mutual
/-- can be compared -/
def palk : PV → PV → Bool
  | .int _, .int _ => true
  | .str _, .str _ => true
  | .tup xs, .tup ys => palks xs ys
  | _, _ => false
def palks : List PV → List PV → Bool
  | x :: xs, y :: ys => palk x y && palks xs ys
  | _, _ => true
end
mutual
def plt : PV → PV → Bool
  | .int i, .int j => decide (i < j)
  | .str x, .str y => decide (x.cps.toList < y.cps.toList)
  | .tup xs, .tup ys => plts xs ys
  | _, _ => false
def plts : List PV → List PV → Bool
  | [], [] => false
  | [], _ :: _ => true
  | _ :: _, [] => false
  | x :: xs, y :: ys => if peq x y = true then plts xs ys else plt x y
end
mutual
theorem alike_of : ∀ (p q : PV), palk p q = true → alike (toD p) (toD q) = true
  | p, q, h => by
    cases p <;> cases q <;> first
      | (simp [palk] at h; done)
      | (unfold toD alike; rfl)
      | (rename_i xs ys; rw [palk] at h; unfold toD alike; exact alike_ofs xs ys h)
theorem alike_ofs : ∀ (ps qs : List PV), palks ps qs = true → alikeAll (toDs ps) (toDs qs) = true
  | [], [], _ => by unfold toDs alikeAll; rfl
  | [], _ :: _, _ => by unfold toDs; simp [alikeAll]
  | _ :: _, [], _ => by unfold toDs; simp [alikeAll]
  | x :: xs, y :: ys, h => by
    rw [palks, Bool.and_eq_true] at h
    unfold toDs alikeAll
    rw [alike_of x y h.1, alike_ofs xs ys h.2]; rfl
end
mutual
theorem plt_of : ∀ (p q : PV), palk p q = true → noScr p = true → noScr q = true → dataLt (toD p) (toD q) = plt p q
  | p, q, h, hp, hq => by
    cases p <;> cases q <;> first
      | (simp [palk] at h; done)
      | (unfold toD plt; exact dataLt_int _ _)
      | (unfold toD plt; exact dataLt_str _ _)
      | (rename_i xs ys; rw [palk] at h; rw [noScr] at hp hq; unfold toD plt; rw [dataLt_tuple]; exact plts_of xs ys h hp hq)
theorem plts_of : ∀ (ps qs : List PV), palks ps qs = true → noScrs ps = true → noScrs qs = true → PyProof.Rows.lexLt itemOrd (keyToksAll (toDs ps)) (keyToksAll (toDs qs)) = plts ps qs
  | [], [], _, _, _ => by simp only [toDs, keyToksAll, plts]; exact lex_irrefl _
  | [], y :: ys, _, _, _ => by
    simp only [toDs, plts, toks_all_cons, keyToksAll]
    rw [lex_diff (O := itemOrd) (by simp)]; rfl
  | x :: xs, [], _, _, _ => by
    simp only [toDs, plts, toks_all_cons, keyToksAll]
    rw [lex_diff (O := itemOrd) (by simp)]; rfl
  | x :: xs, y :: ys, h, hp, hq => by
    rw [palks, Bool.and_eq_true] at h
    rw [noScrs, Bool.and_eq_true] at hp hq
    have e := eqv_toD x y hp.1 hq.1
    rw [plts]
    cases w : peq x y with
    | true =>
      rw [if_pos rfl]
      unfold toDs
      rw [dataLt_all_yes (alike_of x y h.1) (by rw [e, w]), plts_of xs ys h.2 hp.2 hq.2]
    | false =>
      rw [if_neg (by simp)]
      unfold toDs
      rw [dataLt_all_no (alike_of x y h.1) (by rw [e, w]), plt_of x y h.1 hp.1 hq.1]
end
mutual
theorem peq_same : ∀ (p q : PV), palk p q = true → peq p q = true → p = q
  | p, q, h, e => by
    cases p <;> cases q <;> first
      | (simp [palk] at h; done)
      | (simp [peq] at e; rw [e])
      | (rename_i xs ys; rw [palk] at h; rw [peq] at e; rw [peqs_same xs ys h e])
theorem peqs_same : ∀ (ps qs : List PV), palks ps qs = true → peqs ps qs = true → ps = qs
  | [], [], _, _ => rfl
  | [], _ :: _, _, e => by simp [peqs] at e
  | _ :: _, [], _, e => by simp [peqs] at e
  | x :: xs, y :: ys, h, e => by
    rw [palks, Bool.and_eq_true] at h
    rw [peqs, Bool.and_eq_true] at e
    rw [peq_same x y h.1 e.1, peqs_same xs ys h.2 e.2]
end
def pins (x : PV) : List PV → List PV
  | [] => [x]
  | y :: r => if plt y x = true then y :: pins x r else x :: y :: r
def psort : List PV → List PV
  | [] => []
  | x :: xs => pins x (psort xs)
theorem pins_perm (x : PV) : ∀ l, (pins x l).Perm (x :: l)
  | [] => List.Perm.refl _
  | y :: r => by
    rw [pins]
    split
    · exact ((pins_perm x r).cons y).trans (List.Perm.swap x y r)
    · exact List.Perm.refl _
theorem psort_perm : ∀ l, (psort l).Perm l
  | [] => List.Perm.refl _
  | x :: xs => (pins_perm x _).trans ((psort_perm xs).cons x)
def palkA (xs : List PV) : Bool := xs.all fun x => noScr x && (dOk 50 x && xs.all fun y => palk x y)
def isTup : PV → Bool
  | .tup _ => true
  | _ => false
def isTupC : PV → Bool
  | .tup (_ :: _) => true
  | _ => false
def srtK (xs : List PV) : Bool := xs.all isTupC || (xs.all fun x => !isTup x) || (match xs with
  | .tup [] :: _ => xs.all isTup
  | _ => false)
def srtOk (xs : List PV) : Bool := palkA xs && srtK xs
theorem palkA_at {xs : List PV} (h : palkA xs = true) {x : PV} (hx : x ∈ xs) : noScr x = true ∧ dOk 50 x = true ∧ ∀ y, y ∈ xs → palk x y = true := by
  unfold palkA at h
  have := List.all_eq_true.mp h x hx
  rw [Bool.and_eq_true, Bool.and_eq_true] at this
  exact ⟨this.1, this.2.1, fun y hy => List.all_eq_true.mp this.2.2 y hy⟩
theorem toks_inj {p q : PV} (h : palk p q = true) (hp : noScr p = true) (hq : noScr q = true) (e : keyToks (toD p) = keyToks (toD q)) : p = q := by
  refine peq_same p q h ?_
  rw [← eqv_toD p q hp hq]
  cases w : PyData.eqv (toD p) (toD q) with
  | true => rfl
  | false =>
    have a := (toks_eqv _ _ (alike_of p q h)).2 w
    have a1 := a [.inl 0] [.inl 1]
    have a2 := a [] []
    rw [e, lex_pre] at a1
    rw [e, lex_pre] at a2
    rw [← a2] at a1
    exact absurd a1 (by decide)
theorem dle_iff {xs : List PV} (h : palkA xs = true) {x y : PV} (hx : x ∈ xs) (hy : y ∈ xs) : dataLe false toD x y = !plt y x := by
  obtain ⟨a1, _, a3⟩ := palkA_at h hx
  obtain ⟨b1, _, b3⟩ := palkA_at h hy
  rw [← plt_of y x (b3 x hx) b1 a1]
  rfl
theorem sort_eq {xs : List PV} (h : palkA xs = true) : xs.mergeSort (dataLe false toD) = psort xs := by
  have tr : ∀ a b c : PV, dataLe false toD a b = true → dataLe false toD b c = true → dataLe false toD a c = true := fun a b c => by
    show (!PyProof.Rows.lexLt itemOrd (keyToks (toD b)) (keyToks (toD a))) = true → (!PyProof.Rows.lexLt itemOrd (keyToks (toD c)) (keyToks (toD b))) = true → (!PyProof.Rows.lexLt itemOrd (keyToks (toD c)) (keyToks (toD a))) = true
    intro x y
    cases q : PyProof.Rows.lexLt itemOrd (keyToks (toD c)) (keyToks (toD a)) with
    | false => rfl
    | true => rcases lex_negTrans _ (keyToks (toD b)) _ q with z | z <;> simp_all
  have tot : ∀ a b : PV, (dataLe false toD a b || dataLe false toD b a) = true := fun a b => by
    show ((!PyProof.Rows.lexLt itemOrd (keyToks (toD b)) (keyToks (toD a))) || (!PyProof.Rows.lexLt itemOrd (keyToks (toD a)) (keyToks (toD b)))) = true
    cases q : PyProof.Rows.lexLt itemOrd (keyToks (toD b)) (keyToks (toD a)) with
    | false => rfl
    | true =>
      cases q2 : PyProof.Rows.lexLt itemOrd (keyToks (toD a)) (keyToks (toD b)) with
      | false => rfl
      | true =>
        have := lex_trans _ _ _ q q2
        rw [lex_irrefl] at this
        cases this
  have s1 : (xs.mergeSort (dataLe false toD)).Pairwise fun a b => dataLe false toD a b = true := List.pairwise_mergeSort tr tot xs
  have ins : ∀ (x : PV) (l : List PV), (∀ y, y ∈ x :: l → y ∈ xs) → (l.Pairwise fun a b => dataLe false toD a b = true) → (pins x l).Pairwise fun a b => dataLe false toD a b = true := by
    intro x l
    induction l with
    | nil => intro _ _; exact List.pairwise_singleton _ _
    | cons y r ih =>
      intro hm hs
      obtain ⟨hy, hr⟩ := List.pairwise_cons.mp hs
      rw [pins]
      have hx := hm x (by simp)
      have hym := hm y (by simp)
      split
      · rename_i c
        refine List.pairwise_cons.mpr ⟨fun z hz => ?_, ih (fun z hz => hm z (by simp only [List.mem_cons] at hz ⊢; rcases hz with z | z <;> simp [z])) hr⟩
        rcases List.mem_cons.mp ((pins_perm x r).mem_iff.mp hz) with e | hz
        · subst e
          rcases Bool.or_eq_true _ _ ▸ tot y z with w | w
          · exact w
          · rw [dle_iff h hx hym, c] at w; cases w
        · exact hy z hz
      · rename_i c
        refine List.pairwise_cons.mpr ⟨fun z hz => ?_, hs⟩
        have w : dataLe false toD x y = true := by rw [dle_iff h hx hym]; simpa using c
        rcases List.mem_cons.mp hz with e | hz
        · rw [e]; exact w
        · exact tr _ _ _ w (hy z hz)
  have s2 : ∀ l : List PV, (∀ y, y ∈ l → y ∈ xs) → (psort l).Pairwise fun a b => dataLe false toD a b = true := by
    intro l
    induction l with
    | nil => intro _; exact List.Pairwise.nil
    | cons x r ih =>
      intro hm
      refine ins x _ (fun y hy => hm y ?_) (ih fun y hy => hm y (by simp [hy]))
      rcases List.mem_cons.mp hy with e | hy
      · simp [e]
      · exact List.mem_cons_of_mem _ ((psort_perm r).mem_iff.mp hy)
  refine List.Perm.eq_of_pairwise (fun a b ha hb h1 h2 => ?_) s1 (s2 xs fun _ h => h) ((List.mergeSort_perm xs _).trans (psort_perm xs).symm)
  have ha := (List.mergeSort_perm xs _).mem_iff.mp ha
  have hb := (psort_perm xs).mem_iff.mp hb
  obtain ⟨a1, _, a3⟩ := palkA_at h ha
  obtain ⟨b1, _, b3⟩ := palkA_at h hb
  refine toks_inj (a3 b hb) a1 b1 (lex_total (O := itemOrd) _ _ ?_ ?_)
  · rw [dle_iff h hb ha, ← plt_of a b (a3 b hb) a1 b1] at h2
    simpa [dataLt] using h2
  · rw [dle_iff h ha hb, ← plt_of b a (b3 a ha) b1 a1] at h1
    simpa [dataLt] using h1
theorem toDs_map : ∀ ps : List PV, toDs ps = ps.map toD
  | [] => by unfold toDs; rfl
  | x :: xs => by unfold toDs; rw [toDs_map xs]; rfl
theorem reads_up {h h' : Heap} (k : ∀ b o, h.get? b = some o → h'.get? b = some o) : ∀ (d : PyData) (v : Value) (as : List Addr), alike d d = true → Reads h v d as → Reads h' v d as := by
  have key : (∀ d : PyData, ∀ (v : Value) (as : List Addr), alike d d = true → Reads h v d as → Reads h' v d as) ∧ True := by
    refine ⟨?_, trivial⟩
    intro d
    refine PyData.rec (motive_1 := fun d => ∀ (v : Value) (as : List Addr), alike d d = true → Reads h v d as → Reads h' v d as) (motive_2 := fun ds => ∀ (vs : List Value) (as : List Addr), alikeAll ds ds = true → ReadsAll h vs ds as → ReadsAll h' vs ds as)
      (motive_3 := fun _ => True) (motive_4 := fun _ => True) ?_ ?_ ?_ ?_ ?_ ?_ ?_ ?_ ?_ ?_ ?_ ?_ d
    · intro v as _ r; cases r; exact .none
    · intro b v as _ r; cases r; exact .bool _
    · intro b v as _ r; cases r; exact .int _ _
    · intro b v as _ r; cases r; exact .str _ _
    · intro xs ih v as hal r
      cases r with
      | list h1 h2 h3 h4 => exact .list (k _ _ h1) h2 h3 (ih _ _ (by simpa [alike] using hal) h4)
    · intro xs ih v as hal r
      cases r with
      | tuple h1 h2 h3 h4 => exact .tuple (k _ _ h1) h2 h3 (ih _ _ (by simpa [alike] using hal) h4)
    · intro _ _ v as hal _; simp [alike] at hal
    · intro vs as _ r; cases r; exact .nil
    · intro d ds ih ihs vs as hal r
      cases r with
      | cons h1 h2 => exact .cons (ih _ _ (alike_all_cons hal).1 h1) (ihs _ _ (alike_all_cons hal).2 h2)
    · trivial
    · intros; trivial
    · intros; trivial
  exact key.1
theorem dpAll_each {X : Cx} {pins : List (Addr × Obj)} {σ : L2.St} {H : Hp} {s : Shared} (I : L2.Inv X pins σ H s) : ∀ {vs : List V} {us : List Value} {ds : List PyData}, DpAll X.K H vs ds → Vals vs us → EachIs (fun v d => ∃ as, Reads s.heap v d as) us ds
  | _, _, _, .nil, r => by cases r; exact .nil
  | _, _, _, .cons h t, r => by
    cases r with
    | cons r1 r2 => exact .cons (Dp.reads I _ _ _ h r1) (dpAll_each I t r2)
theorem each_up {h h' : Heap} (k : ∀ b o, h.get? b = some o → h'.get? b = some o) : ∀ {us : List Value} {ds : List PyData}, (∀ d, d ∈ ds → alike d d = true) → EachIs (fun v d => ∃ as, Reads h v d as) us ds → EachIs (fun v d => ∃ as, Reads h' v d as) us ds
  | _, _, _, .nil => .nil
  | _, _, hd, .cons ⟨as, r⟩ t => .cons ⟨as, reads_up k _ _ _ (hd _ (List.mem_cons_self ..)) r⟩ (each_up k (fun d m => hd d (List.mem_cons_of_mem _ m)) t)
def SortableX (ds : List PyData) : Prop := Sortable ds ∨ ((∀ d, d ∈ ds → ∃ xs, d = .tuple xs) ∧ ∃ r, ds = .tuple [] :: r)
theorem sortsX {prog : Program} {w : World} {A : Around} {s : Shared} {vs : List Value} {ds : List PyData} (e : EachIs (fun v d => ∃ as, Reads s.heap v d as) vs ds) (hal : AllAlike ds) (hk : SortableX ds) (hu : ∀ d, d ∈ ds → A.units + d.depth < cLine) : SortsAt prog w A s (dataKind s.heap ds) vs := by
  rcases hk with hk | hk
  · exact SortsAt.data e hal hk hu
  · exact SortsAt.tups0 e hal hk.1 hk.2 hu
def rSortedD (K : PySem.W.Frag) : List V → Hp → VK → Prop := fun vs H Q => ∃ (a : Addr) (xs : List V) (ps : List PV) (S : V → PV → Prop), vs = [V.ref a] ∧ SqL K H a xs ∧ DpAll K H xs (ps.map toD) ∧ PySem.Paired S xs ps ∧ AllAlike (ps.map toD) ∧ SortableX (ps.map toD) ∧ (∀ d, d ∈ ps.map toD → d.depth ≤ 50) ∧
  ∀ ys p, PySem.Paired S ys (ps.mergeSort (dataLe false toD)) → H p = none → Q (.ref p) (upd H p (.lst ys))
theorem each_pair {S : V → PV → Prop} : ∀ {xs : List V} {us : List Value} {ps : List PV}, Vals xs us → PySem.Paired S xs ps → EachIs (fun u b => ∃ x, RelV x u ∧ S x b) us ps
  | _, _, _, .nil, h => by cases h; exact .nil
  | _, _, _, .cons r rs, h => by
    cases h with
    | cons h1 h2 => exact .cons ⟨_, r, h1⟩ (each_pair rs h2)
theorem each_back {S : V → PV → Prop} : ∀ {us : List Value} {ps : List PV}, EachIs (fun u b => ∃ x, RelV x u ∧ S x b) us ps → ∃ ys, Vals ys us ∧ PySem.Paired S ys ps
  | _, _, .nil => ⟨[], .nil, .nil⟩
  | _, _, .cons ⟨x, r, h⟩ t => by
    obtain ⟨ys, a, b⟩ := each_back t
    exact ⟨x :: ys, .cons r a, .cons h b⟩
theorem each_len {α β : Type} {R : α → β → Prop} : ∀ {as : List α} {bs : List β}, EachIs R as bs → as.length = bs.length
  | _, _, .nil => rfl
  | _, _, .cons _ t => by simp [each_len t]
theorem cr_sortedD {X : Cx} (hu : X.A.units + 64 < cLine) : CallR X (.builtin "sorted") (rSortedD X.K) := by
  intro pins s σ H vs us Q I r h
  obtain ⟨a, xs, ps, S, rfl, hs, hd, hp, hal, hk, hdep, q⟩ := h
  obtain ⟨its, rv, hl, hz⟩ := I.list hs
  obtain ⟨u, rfl, ru⟩ := vals1 r
  obtain rfl : u = Value.ref a := ru
  have hself : ∀ d, d ∈ ps.map toD → alike d d = true := fun d hm => hal d hm d hm
  have er := each_up (fun b o e => sorting_copy_old (vs := its) e) hself (dpAll_each I hd rv)
  have es := each_pair rv hp
  have ub : X.A.in1.in1.units ≤ X.A.units + 2 := by
    show X.A.units + 1 + 1 ≤ _
    omega
  refine sorted_vals hl.isList (sortsX (s := { s with heap := sortingHeap (copyHeap s.heap its) (s.heap.objs.size + 1) its }) er hal hk fun d hm => ?_) (by rw [← rv.length]; exact hz) ?_
  · have := hdep d hm
    omega
  · have out := sortVals_data (h' := sortingHeap (copyHeap s.heap its) (s.heap.objs.size + 1) its) (enc := toD) false es (each_of_map toD er) hal
    obtain ⟨ys, y1, y2⟩ := each_back out
    obtain ⟨n, hn⟩ := sortedAll_at s.heap its (sortVals (dataKind (sortingHeap (copyHeap s.heap its) (s.heap.objs.size + 1) its) (ps.map toD)) false its its).toArray
    have len : ys.length = xs.length := by
      rw [y1.length, each_len out, List.length_mergeSort, ← each_len es, rv.length]
    exact ⟨.ref (s.heap.objs.size + 1), upd H (s.heap.objs.size + 1) (.lst ys), I.laid (t' := s.toks) (fun b o e => sortedAll_old e) (Nat.le_succ _) ⟨by rw [len]; exact hz, _, n, y1, hn⟩, rfl, q ys _ y2 (I.hok.fresh (Nat.le_succ _))⟩
def fSorted (a : XE) : XL := fun env st => (a env st).bind fun p s => match asL s p with
  | some xs => if srtOk xs = true then .ok (psort xs) s else .no
  | none => .no
theorem repL_pair {K : PySem.W.Frag} {mg : Str → Option Value} {Fz : Hp} {ρ : List Addr} : ∀ {ps : List PV} {vs : List V}, RepL K mg Fz ρ ps vs → PySem.Paired (fun v p => Rep K mg Fz ρ p v) vs ps
  | [], _, h => by rw [RepL] at h; subst h; exact .nil
  | _ :: _, _, h => by
    rw [RepL] at h
    obtain ⟨v, r, rfl, h1, h2⟩ := h
    exact .cons h1 (repL_pair h2)
theorem pair_repL {K : PySem.W.Frag} {mg : Str → Option Value} {Fz : Hp} {ρ : List Addr} : ∀ {ps : List PV} {vs : List V}, PySem.Paired (fun v p => Rep K mg Fz ρ p v) vs ps → RepL K mg Fz ρ ps vs
  | _, _, .nil => RepL.nil
  | _, _, .cons h t => RepL.cons h (pair_repL t)
theorem dOks_all (n : Nat) : ∀ {xs : List PV}, (∀ x, x ∈ xs → dOk n x = true) → dOks n xs = true
  | [], _ => by simp [dOks]
  | x :: xs, h => by rw [dOks, h x (by simp), dOks_all n fun y hy => h y (by simp [hy])]; rfl
theorem noScrs_all : ∀ {xs : List PV}, (∀ x, x ∈ xs → noScr x = true) → noScrs xs = true
  | [], _ => by simp [noScrs]
  | x :: xs, h => by rw [noScrs, h x (by simp), noScrs_all fun y hy => h y (by simp [hy])]; rfl
theorem toD_tup {p : PV} (hn : noScr p = true) : (∃ xs, toD p = .tuple xs) ↔ isTup p = true := by
  cases p <;> simp [toD, isTup]
theorem srt_x {xs : List PV} (h : srtOk xs = true) : AllAlike (xs.map toD) ∧ SortableX (xs.map toD) ∧ (∀ d, d ∈ xs.map toD → d.depth ≤ 50) ∧ dOks 50 xs = true ∧ noScrs xs = true := by
  unfold srtOk at h
  rw [Bool.and_eq_true] at h
  obtain ⟨h, hk⟩ := h
  refine ⟨?_, ?_, ?_, dOks_all 50 fun x hx => (palkA_at h hx).2.1, noScrs_all fun x hx => (palkA_at h hx).1⟩
  · intro d hd d' hd'
    obtain ⟨x, hx, rfl⟩ := List.mem_map.mp hd
    obtain ⟨y, hy, rfl⟩ := List.mem_map.mp hd'
    exact alike_of x y ((palkA_at h hx).2.2 y hy)
  · unfold srtK at hk
    rw [Bool.or_eq_true, Bool.or_eq_true] at hk
    rcases hk with (hk | hk) | hk
    · refine .inl (.inl fun d hd => ?_)
      obtain ⟨x, hx, rfl⟩ := List.mem_map.mp hd
      have := List.all_eq_true.mp hk x hx
      cases x with
      | tup ys =>
        cases ys with
        | nil => simp [isTupC] at this
        | cons y r => exact ⟨toD y, toDs r, by simp [toD, toDs]⟩
      | _ => simp [isTupC] at this
    · refine .inl (.inr fun d hd => ?_)
      obtain ⟨x, hx, rfl⟩ := List.mem_map.mp hd
      have a := List.all_eq_true.mp hk x hx
      have b := (palkA_at h hx).2.2 x hx
      cases x <;> simp [isTup, palk] at a b <;> simp [toD]
    · right
      split at hk
      · rename_i r
        refine ⟨fun d hd => ?_, (r.map toD), by simp [toD, toDs]⟩
        obtain ⟨x, hx, rfl⟩ := List.mem_map.mp hd
        have a := List.all_eq_true.mp hk x hx
        exact (toD_tup (palkA_at h hx).1).mpr a
      · cases hk
  · intro d hd
    obtain ⟨x, hx, rfl⟩ := List.mem_map.mp hd
    exact (lay_toD 50 x (palkA_at h hx).2.1).2
theorem jf_sorted {X : Cx} {E : XK} {a : Expr} {p pos : Pos} {fa : XE} (hu : X.A.units + 64 < cLine) (ha : JE X E a fa) (hm : X.mg "sorted" = none) (hg : Gl X "sorted" := by rfl)
    (he : starEach [a] X.env = (false, eval a X.env) :: starEach [] X.env := by rfl) (hpl : (backTo pos (starEach [] X.env)).any (·.1) = false := by rfl) : JF X E (.Call (.Name "sorted" p) [a] [] pos) (fSorted fa) := by
  obtain ⟨t, pt, s⟩ := ha
  refine ⟨_, pe_callB (cr_sortedD hu) hg hm (by decide +kernel) (pa_cons pt pa_nil he) (he := he) (hpl := hpl), fun Z Fz ρ env st σ H Q rl hh o => ?_⟩
  refine s Z Fz ρ env st σ H _ rl hh (o.seq.mono fun x s1 F1 r1 H1 _ ex1 rl1 o1 x' rx => ?_)
  split at o1
  · rename_i xs es
    split at o1
    · rename_i ok
      obtain ⟨a, ws, rfl, sq, hl, rr⟩ := asL_ok rl1 rx es
      obtain ⟨k1, k2, k3, k4, k5⟩ := srt_x ok
      have ok' := ok
      unfold srtOk at ok'
      rw [Bool.and_eq_true] at ok'
      refine ⟨a, ws, xs, _, rfl, sq, by rw [← toDs_map]; exact dp_ofs rl1.fz 50 xs k4 k5 rr, repL_pair rr, k1, k2, k3, fun ys p hy hp => ?_⟩
      rw [sort_eq ok'.1] at hy
      exact o1.here rl1 p ys hp (by rw [(psort_perm xs).length_eq]; exact hl) (pair_repL hy)
    · exact o1.elim
  · exact o1.elim
end Lq
end
section
set_option Elab.async false
set_option linter.all false
set_option maxRecDepth 100000
namespace Lq
open PySem PySem.Spec PyProof.Rows L2
variable {X : Cx}
theorem cr_sumT (hc : X.calm = true) : CallR X (.builtin "sum") (fun vs H Q => ∃ (a : Addr) (ns : List Int), vs = [V.ref a] ∧ SqT X.K H a (ns.map V.int) ∧ Q (.int ns.sum) H) := by
  intro pins s σ H vs us Q I r h
  obtain ⟨a, ns, rfl, hs, q⟩ := h
  obtain ⟨its, rv, hl, _⟩ := I.tuple hs
  rw [Vals.ref1 r]
  have hi := rv.ints
  obtain ⟨xs, hx⟩ := hi.allInts.items
  have hn : numsOf its.toArray.toList = ns := by rw [show its.toArray.toList = its from rfl, hi.numsOf]
  have hl' : s.heap.IsTuple a its.toArray := hl
  rw [hx] at hl' hn
  rw [nums_intItems] at hn
  refine PySem.W.ktm_sumG (I.ok.hd hc) hl' fun h' tk t' hk => ?_
  refine ⟨.int _, H, I.kept hk, ⟨_, rfl⟩, ?_⟩
  have e : preSum (numAt xs) xs.size = ns.sum := by
    rw [preSum_eq, List.take_of_length_le (by simp), hn]
  rw [e]
  exact q
def oSumT : List PV → Store → Option PV
  | [.tup xs], _ => (asInts xs).map fun ns => .int ns.sum
  | _, _ => none
theorem jc_sumT (hc : X.calm = true) : JC X (.builtin "sum") oSumT := by
  refine ⟨_, cr_sumT hc, fun Z Fz ρ st H vs ps pz Q rl rp e q => ?_⟩
  unfold oSumT at e
  split at e
  · rename_i xs
    obtain ⟨v, rfl, rv⟩ := rep1 rp
    cases en : asInts xs with
    | none => rw [en] at e; cases e
    | some ns =>
      rw [en] at e
      cases e
      obtain ⟨a, ws, rfl, sa, _, rr⟩ := tup_ok rl rv
      rw [asInts_eq en] at rr
      rw [RepL.of_ints rr] at sa
      exact ⟨a, ns, rfl, sa, q Fz ρ H _ Ext.refl rl (by rw [Rep])⟩
  · cases e
def cOr (o o' : List PV → Store → Option PV) : List PV → Store → Option PV := fun xs st => match o xs st with
  | some z => some z
  | none => o' xs st
theorem JC.or {f : Value} {o o'} (h : JC X f o) (h' : JC X f o') : JC X f (cOr o o') := by
  obtain ⟨r, hr, sr⟩ := h
  obtain ⟨r', hr', sr'⟩ := h'
  refine ⟨_, hr.or hr', fun Z Fz ρ st H vs ps pz Q rl rp e q => ?_⟩
  unfold cOr at e
  split at e
  · rename_i z ez
    cases e
    exact .inl (sr Z Fz ρ st H vs ps _ Q rl rp ez q)
  · exact .inr (sr' Z Fz ρ st H vs ps _ Q rl rp e q)
def oSumA := cOr oSum oSumT
theorem jc_sumA (hc : X.calm = true) : JC X (.builtin "sum") oSumA := (jc_sum hc).or (jc_sumT hc)
end Lq
end
section
set_option Elab.async false
set_option linter.all false
set_option maxRecDepth 100000
namespace Lq
open PySem PySem.Spec PyProof.Rows L2
variable {X : Cx} {E : XK} {a : Expr} {p pos : Pos} {fa : XE}
end Lq
end
section
set_option Elab.async false
set_option linter.all false
set_option maxRecDepth 100000
namespace Lq
open PySem PySem.Spec PyProof.Rows L2
section
variable {prog : Program} {w : World} {A : Around} {R : Result → Shared → Prop} {I : Addr} {fp wr : List Addr} {G : Array GenState → Array GenState → Prop} {n : Nat} {P : Nat → Value → Prop} {St : Nat → Shared → Prop}
end
section
variable {prog : Program} {w : World} {A : Around} {E : Value → Shared → Prop} {s : Shared}
end
variable {X : Cx} {E : XK} {a : Expr} {fa : XE}
end Lq
end
section
set_option Elab.async false
set_option linter.all false
set_option maxRecDepth 100000
namespace Lq
open PySem PySem.Spec PyProof.Rows L2
section
variable {prog : Program} {w : World} {A : Around} {E : Value → Shared → Prop} {s : Shared} {l : Addr} {its : List Value} {ns : List Int} {Q : Value → Shared → Prop}
end
variable {X : Cx} {E : XK}
def sBar : XS := fun _ _ => .no
theorem jss_no {b : List Stmt} : JSs X E b sBar := ⟨fun _ _ _ => False, ⟨fun _ _ _ _ _ _ h => h.elim⟩, fun _ _ _ _ _ _ _ _ _ _ o => o⟩
end Lq
namespace Lq
open PySem PySem.Spec PyProof.Rows L2
variable {X : Cx}
end Lq
end
section
set_option Elab.async false
set_option linter.all false
set_option maxRecDepth 100000
namespace HT
open PySem PySem.Spec PyProof.Rows L2
section
variable {prog : Program} {w : World} {A : Around} {E : Value → Shared → Prop} {s : Shared}
theorem adjust_back (n : Nat) : Builtin.Slice.sliceAdjust none none (-1) (n : Int) = ((n : Int) - 1, -1) := by
  unfold Builtin.Slice.sliceAdjust
  simp
theorem places_back (n : Nat) : Builtin.Slice.slicePlaces ((n : Int) - 1) (-1) (-1) = n := by
  unfold Builtin.Slice.slicePlaces
  have h1 : ¬ ((-1 : Int) > 0) := by omega
  simp only [h1, if_false, show (- -1 : Int) = 1 by decide, Int.ediv_one]
  split <;> omega
theorem pick_back (xs : Array Value) : ((List.range xs.size).filterMap fun (m : Nat) => xs[(((xs.size : Int) - 1) + (m : Int) * (-1)).toNat]?).toArray = xs.toList.reverse.toArray := by
  have k := PySem.W.krv_pick xs
  unfold slicePick at k
  rw [PySem.W.krv_bounds] at k
  replace k : ((sliceRange ((xs.size : Int) - 1) (-1) (-1)).filterMap (xs[·]?)).toArray = xs.toList.reverse.toArray := k
  rw [PySem.W.krv_sliceRange, List.filterMap_map] at k
  rw [← k]
  have e : (fun (m : Nat) => xs[(((xs.size : Int) - 1) + (m : Int) * (-1)).toNat]?) = ((fun x => xs[x]?) ∘ fun k => xs.size - 1 - k) := by
    funext m
    have : (((xs.size : Int) - 1) + (m : Int) * (-1)).toNat = xs.size - 1 - m := by omega
    simp only [Function.comp, this]
  rw [e]
theorem sliceApplied_back {sl : Addr} {vl vu vs : Value} {n : Nat} {Q : Int × Int × Nat → Shared → Prop} (hs : s.heap.IsSliceOf sl vl vu vs) (pl : IsPart vl none) (pu : IsPart vu none) (ps : IsPart vs (some (-1)))
    (h : Q ((n : Int) - 1, -1, n) s) : wpAny (model prog w) A (Builtin.Slice.sliceApplied (.ref sl) (pure (n : Int))) Q E s := by
  obtain ⟨os, hos, hcs, hds⟩ := id hs
  unfold Builtin.Slice.sliceApplied Builtin.Slice.sliceFields
  refine wpAny_bind (wpAny_bind (wpAny_field hos hds (x := vl) rfl (wpAny_bind (wpAny_field hos hds (x := vu) rfl (wpAny_bind (wpAny_field hos hds (x := vs) rfl (wpAny_pure ?_)))))))
  refine wpAny_bind (slicePart_ ps ?_)
  show wpAny _ _ (if ((-1 : Int) == 0) = true then _ else _) _ _ s
  rw [if_neg (by decide)]
  refine wpAny_bind (slicePart_ pl (wpAny_bind (slicePart_ pu (wpAny_bind (wpAny_pure ?_)))))
  show wpAny _ _ (match Builtin.Slice.sliceAdjust none none (-1) (n : Int) with | (lo, hi) => pure (lo, (-1 : Int), Builtin.Slice.slicePlaces lo hi (-1))) _ _ s
  rw [adjust_back n]
  show wpAny _ _ (pure ((n : Int) - 1, (-1 : Int), Builtin.Slice.slicePlaces ((n : Int) - 1) (-1) (-1))) _ _ s
  rw [places_back]
  exact wpAny_pure h
theorem getItem_tuple_back {t sl : Addr} {items : Array Value} {vl vu vs : Value} {Q : Value → Shared → Prop} (ht : IsTup s.heap t items) (hs : s.heap.IsSliceOf sl vl vu vs) (pl : IsPart vl none) (pu : IsPart vu none) (ps : IsPart vs (some (-1)))
    (h : Q (.ref s.heap.objs.size) { s with heap := s.heap.push { cls := .type "tuple", data := .seq items.toList.reverse.toArray } })
    (hsz : items.size ≤ sizeLine) : wpAny (model prog w) A (getItem (.ref t) (.ref sl)) Q E s := by
  have htake : sizeOk (.seq items.toList.reverse.toArray) := by
    show items.toList.reverse.toArray.size ≤ sizeLine
    rw [List.size_toArray, List.length_reverse, Array.length_toList]
    exact hsz
  obtain ⟨os, hos, hcs, hds⟩ := id hs
  have hTs : s.TypeIs (.ref sl) "slice" := ⟨os, hos, hcs⟩
  unfold getItem
  try with_reducible refine wpAny_holding ?_
  first | refine wpAny_bind (wpAny_pure ?_) | skip
  refine wpAny_bind (wpAny_sequenceKey ht.typeIs (by decide) ?_)
  refine wpAny_bind (wpAny_callSpecial?_slot (name := Str.ofString "__getitem__") ht.typeIs PyProof.Rows.slot_tuple_getitem
    (wpAny_call_entry PyProof.Rows.slot_tuple_getitem ht.typeIs entry_tuple_getitem ?_ (args_tuple_getitem _ _)))
  show wpAny _ _ (Builtin.Tuple.tupleItemsOf (.ref t) >>= _) _ _ s
  refine wpAny_bind (tupleItemsOf_ ht ?_)
  refine wpAny_bind (wpAny_typeOf hTs ?_)
  rw [if_pos (by decide)]
  refine wpAny_bind (sliceApplied_back hs pl pu ps ?_)
  have hno : ¬ ((((items.size : Int) - 1 == 0) && ((-1 : Int) == 1) && (items.size == items.size)) = true) := by simp
  show wpAny _ _ (if (((items.size : Int) - 1 == 0) && ((-1 : Int) == 1) && (items.size == items.size)) = true then _ else _) _ _ s
  rw [if_neg hno, pick_back]
  first
    | exact wpAny_bind (m := Builtin.Tuple.tupleExact _) (wpAny_newObj_type (wpAny_pure ⟨_, rfl, wpAny_pure h⟩) htake)
    | exact wpAny_bind (m := Builtin.Tuple.tupleExact _) (wpAny_newObj_type (wpAny_bind (wpAny_pure (wpAny_pure ⟨_, rfl, wpAny_pure h⟩))) htake)
    | exact wpAny_bind (wpAny_bind (m := Builtin.Tuple.tupleExact _) (wpAny_newObj_type (wpAny_pure (wpAny_pure ⟨_, rfl, wpAny_pure h⟩)) htake))
    | exact wpAny_bind (wpAny_bind (m := Builtin.Tuple.tupleExact _) (wpAny_newObj_type (wpAny_pure ⟨_, rfl, wpAny_pure h⟩) htake))
end
end HT
namespace Lq
open PySem PySem.Spec PyProof.Rows L2
variable {X : Cx} {E : XK} {e o a : Expr} {fa fo : XE} {fl : XL} {p pos apos cpos : Pos}
def tRevT (K : PySem.W.Frag) (te : TE) : TE := fun σ H Q => te σ H fun x H1 => ∃ a xs, x = .ref a ∧ SqT K H1 a xs ∧ ∀ p, H1 p = none → Q (.ref p) (upd H1 p (.tup xs.reverse))
theorem pe_revT {te : TE} {k : Nat} {p1 p2 p3 : Pos} (he : PE X e te) : PE X (.Subscript e (.Slice none none (some (.UnaryOp .USub (.Constant (.int 1) k p1) p2)) p3) pos) (tRevT X.K te) := by
  refine ⟨fun pins s σ H Q I h => ?_⟩
  refine Subscript_ (thn (he.run pins s σ H _ I h) fun v s1 ⟨x, H1, I1, r1, q1⟩ => ?_)
  obtain ⟨a, xs, ex, hx, q⟩ := q1
  subst ex
  cases r1
  have hst : PO X (some (.UnaryOp .USub (.Constant (.int 1) k p1) p2)) (tPart (tUn (rU fun i => .int (-i)) (tC (.int 1)))) := po_some (pe_un un_neg pe_int)
  refine wpAny_Slice (thn (po_none.run pins s1 σ H1 (fun o H2 => o = none ∧ H2 = H1) I1 ⟨rfl, rfl⟩) fun vl s2 ⟨l, H2, I2, pl, el, e2⟩ => ?_)
  subst el e2
  refine thn (po_none.run pins s2 σ H2 (fun o H3 => o = none ∧ H3 = H2) I2 ⟨rfl, rfl⟩) fun vu s3 ⟨u, H3, I3, pu, eu, e3⟩ => ?_
  subst eu e3
  refine thn (hst.run pins s3 σ H3 (fun o H4 => o = some (-1) ∧ H4 = H3) I3 ⟨1, rfl, -1, rfl, rfl, rfl⟩) fun vs s4 ⟨o, H4, I4, ps, eo, e4⟩ => ?_
  subst eo e4
  have I5 : Inv X pins σ H4 { s4 with heap := s4.heap.push { cls := .type "slice", data := .fields #[vl, vu, vs] } } := I4.kept (t' := s4.toks) fun b ob q => Heap.get?_push_of_some _ q
  obtain ⟨its, r, ht, hz⟩ := I5.tuple hx
  show wpAny (model X.prog X.w) X.A (subscriptTail e (.Slice none none (some (.UnaryOp .USub (.Constant (.int 1) k p1) p2)) p3) (.ref a) (.ref s4.heap.objs.size)) (EP X pins σ Q) X.xe { s4 with heap := s4.heap.push { cls := .type "slice", data := .fields #[vl, vu, vs] } }
  refine tail_any (ops := [.ref a, .ref s4.heap.objs.size]) ht.typeIs (PyProof.Rows.slot_tuple_getitem.lookup) ?_ (by with_unfolding_all rfl)
  have hlen : its.toArray.size = xs.length := by rw [List.size_toArray]; exact r.length.symm
  refine HT.getItem_tuple_back ht (Heap.IsSliceOf.new _ vl vu vs) pl pu ps ?_ (by rw [hlen]; exact hz)
  refine ⟨.ref _, _, I5.laid (t' := s4.toks) (o := .tup xs.reverse) (fun b ob q => Heap.get?_push_of_some _ q) (Nat.le_refl _) ?_, rfl, q _ (I5.hok.fresh (Nat.le_refl _))⟩
  exact ⟨by rw [List.length_reverse]; exact hz, _, r.reverse, IsTup.new _ _⟩
theorem RepL.reverse {K : PySem.W.Frag} {mg : Str → Option Value} {Fz : Hp} {ρ : List Addr} : ∀ {ps : List PV} {vs : List V}, RepL K mg Fz ρ ps vs → RepL K mg Fz ρ ps.reverse vs.reverse
  | [], _, h => by rw [RepL] at h; subst h; exact RepL.nil
  | _ :: _, _, h => by
    rw [RepL] at h
    obtain ⟨v, r, rfl, h1, h2⟩ := h
    rw [List.reverse_cons, List.reverse_cons]
    exact (RepL.reverse h2).app (RepL.cons h1 RepL.nil)
def eBack (f : XE) : XE := fun env st => (f env st).bind fun p s => match p with
  | .tup xs => .ok (.tup xs.reverse) s
  | _ => .no
def goPopAt : List PV → List PV → Store → Option (PV × List PV) := fun xs ys st => match ys with
  | [.int i] => if 0 ≤ i ∧ i < 2 ^ 62 then (match xs[i.toNat]? with
    | some y => some (y, xs.eraseIdx i.toNat)
    | none => none) else none
  | _ => none
theorem RepL.eraseIdx {K : PySem.W.Frag} {mg : Str → Option Value} {Fz : Hp} {ρ : List Addr} {ps : List PV} {vs : List V} (h : RepL K mg Fz ρ ps vs) (i : Nat) : RepL K mg Fz ρ (ps.eraseIdx i) (vs.eraseIdx i) := by
  rw [List.eraseIdx_eq_take_drop_succ, List.eraseIdx_eq_take_drop_succ]
  exact (h.take i).app (h.drop (i + 1))
theorem je_popAt (ho : JE X E o fo) (ha : JA X E [e] fl) (hbase : attributeBase o "pop" X.env (eval o X.env) = eval o X.env := by rfl)
    (hfew : ((backTo cpos (starEach [e] X.env)).all (fun x => !x.1) && (backToKw cpos (keywordEach [] X.env)).all (fun x => x.1.isSome)
      && decide (([e] : List Expr).length + ([] : List Keyword).length + (if ([] : List Keyword).isEmpty then 0 else 1) < 30)) = true := by rfl)
    (hline : (apos.endLine == cpos.line) = true := by rfl) (hs : starEach [e] X.env = (false, eval e X.env) :: starEach [] X.env := by rfl) (hplain : (backTo cpos (starEach [] X.env)).any (·.1) = false := by rfl) :
    JE X E (.Call (.Attribute o "pop" apos) [e] [] cpos) (eLm goPopAt fo fl) := by
  obtain ⟨t, pt, s⟩ := ho
  obtain ⟨ta, pa, sa⟩ := ha
  refine ⟨_, pe_bm PySem.F.plainAttrs_list PySem.F.slot_list_pop PySem.F.type_list_pop mt_popAt pt pa hbase hfew hline hs hplain, s_lm (id := "list.pop") (fun Z Fz ρ st H d k vs xs ys ws z xs' Q rl ed ek hd rr ry eg q hl => ?_) s sa⟩
  unfold goPopAt at eg
  split at eg
  · rename_i i
    split at eg
    · rename_i hi
      split at eg
      · rename_i y ey
        cases eg
        obtain ⟨v, rfl, rv⟩ := rep1 ry
        rw [Rep] at rv
        subst rv
        obtain ⟨w, ew, rw'⟩ := rr.get ey
        have hlt := (List.getElem?_eq_some_iff.mp ey).1
        have hlen := rr.len
        have sx : seqIndex? i vs.length = some i.toNat := by
          unfold seqIndex?
          have h1 : ¬ i < 0 := by omega
          simp only [h1, if_false]
          rw [if_pos (by rw [Bool.and_eq_true]; exact ⟨decide_eq_true (by omega), decide_eq_true (by omega)⟩)]
        exact ⟨d, vs, i, i.toNat, w, rfl, rfl, hd, by omega, by omega, sx, ew, q _ _ rw' (rr.eraseIdx _) (by rw [List.length_eraseIdx]; split <;> omega)⟩
      · cases eg
    · cases eg
  · cases eg
theorem je_back {k : Nat} {p1 p2 p3 : Pos} (ha : JE X E e fa) : JE X E (.Subscript e (.Slice none none (some (.UnaryOp .USub (.Constant (.int 1) k p1) p2)) p3) pos) (eBack fa) := by
  obtain ⟨t, pt, s⟩ := ha
  refine ⟨_, pe_revT pt, fun Z Fz ρ env st σ H Q rl re o => ?_⟩
  refine s Z Fz ρ env st σ H _ rl re (o.seq.mono fun v s1 F1 r1 H1 hq ex1 rl1 o1 v' rv => ?_)
  clear hq
  split at o1
  · rename_i xs
    obtain ⟨a, ws, rfl, sa, hl, rr⟩ := tup_ok rl1 rv
    refine ⟨a, ws, rfl, sa, fun p hp => ?_⟩
    obtain ⟨rl4, ex4⟩ := rl1.frozen hp (.tup ws.reverse)
    exact o1 _ _ _ ex4 rl4 _ (by rw [Rep]; exact ⟨p, _, rfl, SqT.of upd_same, by rw [List.length_reverse]; exact hl, (RepL.reverse rr).mono ex4⟩)
  · exact o1.elim
def fListRg (f : XE) : XL := fun env st => (f env st).bind fun p s => match p with
  | .int n => if 0 ≤ n ∧ n ≤ 1000 then .ok (rng 0 n.toNat) s else .no
  | _ => .no
theorem repL_rng {K : PySem.W.Frag} {mg : Str → Option Value} {Fz : Hp} {ρ : List Addr} (n : Nat) : RepL K mg Fz ρ (rng 0 n) (rgV 0 (n : Int)) := by
  unfold rng rgV
  have e : ((n : Int) - 0).toNat = n := by omega
  rw [e]
  generalize List.range n = l
  induction l with
  | nil => exact RepL.nil
  | cons x r ih =>
    rw [List.map_cons, List.map_cons]
    exact RepL.cons (by rw [Rep]) ih
theorem jf_listRg {pr posr : Pos} (hc : X.calm = true) (ha : JE X E a fa) (hm : X.mg "list" = none) (hmr : X.mg "range" = none) (hg : Gl X "list" := by rfl) (hgr : Gl X "range" := by rfl)
    (na : starEach [a] X.env = (false, eval a X.env) :: starEach [] X.env := by rfl) (nb : starEach [.Call (.Name "range" pr) [a] [] posr] X.env = (false, eval (.Call (.Name "range" pr) [a] [] posr) X.env) :: starEach [] X.env := by rfl) : JF X E (.Call (.Name "list" p) [.Call (.Name "range" pr) [a] [] posr] [] pos) (fListRg fa) := by
  obtain ⟨t, pt, s⟩ := ha
  refine ⟨_, pe_listRg hc hg hm (prg_1 hgr hmr pt na) nb, fun Z Fz ρ env st σ H Q rl hh o => ?_⟩
  refine s Z Fz ρ env st σ H _ rl hh (o.seq.mono fun x s1 F1 r1 H1 _ ex1 rl1 o1 x' rx => ?_)
  split at o1
  · split at o1
    · rename_i n _ hn
      rw [Rep] at rx
      subst rx
      refine ⟨n, rfl, RgOk.of_le (by decide) (by omega) (by decide) (by omega), fun q hq => ?_⟩
      have e : n = ((n.toNat : Nat) : Int) := by omega
      have lr : (rng 0 n.toNat).length ≤ sizeLine := by unfold rng; rw [List.length_map, List.length_range, sizeLine_eq]; omega
      exact o1.here rl1 q _ hq lr (by rw [e, Int.toNat_natCast]; exact repL_rng _)
    · exact o1.elim
  · exact o1.elim
end Lq
end
section
set_option Elab.async false
set_option linter.all false
set_option maxRecDepth 100000
namespace Lq
open PySem PySem.Spec PyProof.Rows L2
section
variable {fa : List He.Fa} {fn : List He.DefD} {q : Ask} {own : List Str} {K : PySem.W.Frag} {mg : Str → Option Value}
variable {X : Cx} {E : XK} {a b : Expr} {p p2 pos : Pos} {f g : XE} {x : Str}
end
section
variable {X : Cx} {E : XK}
end
end Lq
end
section
set_option Elab.async false
set_option linter.all false
set_option maxRecDepth 100000
namespace Lq
open PySem PySem.Spec PyProof.Rows L2
variable {X : Cx} {E : XK} {e : Expr} {fa : XE} {pos : Pos}
end Lq
end
section
set_option Elab.async false
set_option linter.all false
set_option maxRecDepth 100000
namespace Lq
open PySem PySem.Spec PyProof.Rows L2
section
variable {K : PySem.W.Frag} {mg : Str → Option Value}
end
section
variable {X : Cx} {E : XK} {a b elt : Expr} {p pos pos2 tpos : Pos} {ifs : List Expr} {scope : Scope} {own : List (Str × Nat)} {fl : XL} {ft : PV → Ev → Store → R Ev} {tt : Ev → Store → R Bool} {fe : XE} {elts : List Expr} {kk : Nat}
end
end Lq
end
section
set_option Elab.async false
set_option linter.all false
set_option maxRecDepth 100000
namespace Lq
open PySem PySem.Spec PyProof.Rows L2
variable {X : Cx} {E : XK} {e : Expr} {fa : XE} {pos : Pos}
end Lq
end
section
set_option Elab.async false
set_option linter.all false
set_option maxRecDepth 100000
namespace Lq
open PySem PySem.Spec PyProof.Rows L2
section
variable {prog : Program} {w : World} {A : Around} {E : Value → Shared → Prop} {s : Shared}
end
section
variable {X : Cx} {E : XK} {a : Expr} {ta : TE} {fa : XE}
end
end Lq
end
section
set_option Elab.async false
set_option linter.all false
set_option maxRecDepth 100000
namespace Lq
open PySem PySem.Spec PyProof.Rows L2
section
variable {K : PySem.W.Frag} {mg : Str → Option Value} {Z Fz : Hp} {ρ : List Addr} {st : Store} {H : Hp}
end
section
variable {X : Cx} {E : XK} {o i e f value : Expr} {fd fk fx fv fa : XE} {pos pos' apos cpos p : Pos}
end
section
variable {K : PySem.W.Frag} {mg : Str → Option Value} {Z Fz : Hp} {ρ : List Addr} {st : Store} {H : Hp}
end
section
variable {X : Cx} {E : XK} {o : Expr} {fa : XE} {tg : Expr}
end
end Lq
end
section
set_option Elab.async false
set_option linter.all false
set_option maxRecDepth 100000
namespace Lq
open PySem PySem.Spec PyProof.Rows L2
mutual
/-- a value that is such a key -/
def KyV (K : PySem.W.Frag) (H : Hp) : NestedKey → V → Prop
  | .num i, v => v = .int i
  | .tup ks, v => ∃ a vs, v = .ref a ∧ SqT K H a vs ∧ KyVs K H ks vs
  | .none, _ => False
  | .text _, _ => False
def KyVs (K : PySem.W.Frag) (H : Hp) : List NestedKey → List V → Prop
  | [], vs => vs = []
  | k :: ks, vs => ∃ v r, vs = v :: r ∧ KyV K H k v ∧ KyVs K H ks r
end
section
variable {X : Cx} {pins : List (Addr × Obj)} {σ : L2.St} {H : Hp} {s : Shared}
mutual
theorem nested_of (I : Inv X pins σ H s) : ∀ (k : NestedKey) (v : V) (u : Value), KyV X.K H k v → RelV v u → NestedIs s.heap k u
  | .num i, v, u, h, r => by
    rw [KyV] at h
    subst h
    obtain ⟨t, rfl⟩ := r
    exact .int i t
  | .tup ks, v, u, h, r => by
    rw [KyV] at h
    obtain ⟨a, vs, rfl, h1, h2⟩ := h
    obtain rfl : u = Value.ref a := r
    obtain ⟨its, rv, ⟨o, e1, e2, n, e3⟩, _⟩ := I.tuple h1
    exact .tup e1 e2 e3 (by simpa using nesteds_of I ks vs its h2 rv)
  | .none, _, _, h, _ => by rw [KyV] at h; exact h.elim
  | .text _, _, _, h, _ => by rw [KyV] at h; exact h.elim
theorem nesteds_of (I : Inv X pins σ H s) : ∀ (ks : List NestedKey) (vs : List V) (us : List Value), KyVs X.K H ks vs → Vals vs us → NestedAll s.heap ks us
  | [], vs, us, h, r => by
    rw [KyVs] at h
    subst h
    cases r
    exact .nil
  | k :: ks, vs, us, h, r => by
    rw [KyVs] at h
    obtain ⟨v, w, rfl, h1, h2⟩ := h
    cases r with
    | cons r1 r2 => exact .cons (nested_of I k v _ h1 r1) (nesteds_of I ks w _ h2 r2)
end
end
structure NdR (K : PySem.W.Frag) (H : Hp) (a : Addr) (xs : List (NestedKey × Addr × V)) : Prop where
  rd : Rd H a (NdO a xs)
  sm : (a == sysModules) = false
  nd : (xs.map (·.1)).Nodup
  ky : ∀ x ∈ xs, KyV K H x.1 (.ref x.2.1) ∧ x.1.depth ≤ 8
abbrev NdP : List (NestedKey × Addr × V) → List (NestedKey × Addr × Value) → Prop := PySem.Paired fun x y => x.1 = y.1 ∧ x.2.1 = y.2.1 ∧ RelV x.2.2 y.2.2
theorem ents_of {es : List DictEntry} : ∀ {xs : List (NestedKey × Addr × V)}, PySem.Paired (fun (e : DictEntry) (x : NestedKey × Addr × V) => (∀ w : World, e.hash = x.1.hash w) ∧ e.key = .ref x.2.1 ∧ RelV x.2.2 e.val) es xs →
    ∀ (P : Program) (w : World), ∃ ys, NdP xs ys ∧ es = ys.map (entryOfKey (nestedKind P w)) := by
  intro xs h P w
  induction h with
  | nil => exact ⟨[], .nil, rfl⟩
  | @cons e x es xs h t ih =>
    obtain ⟨ys, i1, i2⟩ := ih
    refine ⟨(x.1, x.2.1, e.val) :: ys, .cons ⟨rfl, rfl, h.2.2⟩ i1, ?_⟩
    rw [List.map_cons, ← i2]
    obtain ⟨eh, ek, ev⟩ := e
    have h1 : eh = x.1.hash w := h.1 w
    have h2 : ek = Value.ref x.2.1 := h.2.1
    subst h1
    subst h2
    rfl
section
variable {X : Cx} {pins : List (Addr × Obj)} {σ : L2.St} {H : Hp} {s : Shared} {a b : Addr} {xs : List (NestedKey × Addr × V)} {k : NestedKey}
theorem NdR.raw (h : NdR X.K H a xs) (I : Inv X pins σ H s) : ∃ o es ep, s.heap.get? a = some o ∧ o.ExactDict ∧ o.data = .dict es ep ∧
    PySem.Paired (fun (e : DictEntry) (x : NestedKey × Addr × V) => (∀ w : World, e.hash = x.1.hash w) ∧ e.key = .ref x.2.1 ∧ RelV x.2.2 e.val) es.toList xs := by
  have q : ObjOk X.prog X.w H s.heap a (NdO a xs) := h.rd.ok I.hok
  exact q.1
theorem NdR.dict (h : NdR X.K H a xs) (I : Inv X pins σ H s) : ∃ ys, NdP xs ys ∧ s.heap.DictOfH (nestedKind X.prog X.w) a ys := by
  obtain ⟨o, es, ep, e1, e2, e3, e4⟩ := h.raw I
  obtain ⟨ys, p1, p2⟩ := ents_of e4 X.prog X.w
  refine ⟨ys, p1, o, es, ep, e1, e2, e3, p2, ?_, ?_⟩
  · have all : ∀ {l : List (NestedKey × Addr × V)} {m : List (NestedKey × Addr × Value)}, NdP l m → (∀ x ∈ l, KyV X.K H x.1 (.ref x.2.1) ∧ x.1.depth ≤ 8) → ∀ y ∈ m, (nestedKind X.prog X.w).is s.heap y.1 y.2.1 := by
      intro l m q
      induction q with
      | nil => intro _ y hy; exact nomatch hy
      | @cons x y l m hq t ih =>
        intro hk z hz
        rcases List.mem_cons.mp hz with e | hz
        · subst e
          obtain ⟨k1, k2⟩ := hk x List.mem_cons_self
          rw [← hq.1, ← hq.2.1]
          exact ⟨nested_of I _ _ _ k1 rfl, k2⟩
        · exact ih (fun w hw => hk w (List.mem_cons_of_mem _ hw)) z hz
    exact all p1 h.ky
  · have nd := h.nd
    have e : xs.map (·.1) = ys.map (·.1) := by
      clear h e4 p2 nd
      induction p1 with
      | nil => rfl
      | cons hq t ih => rw [List.map_cons, List.map_cons, hq.1, ih]
    rw [← e]; exact nd
end
end Lq
end
section
set_option Elab.async false
set_option linter.all false
set_option maxRecDepth 100000
namespace Lq
open PySem PySem.Spec PyProof.Rows L2
section
variable {K : PySem.W.Frag} {mg : Str → Option Value} {Z Fz : Hp} {ρ : List Addr} {st : Store} {H : Hp}
end
section
variable {K : PySem.W.Frag} {mg : Str → Option Value} {Z Fz : Hp} {ρ : List Addr} {st : Store} {H : Hp}
end
section
variable {X : Cx} {E : XK} {o i e f value : Expr} {fd fk fx fv fa : XE} {pos pos' apos cpos p : Pos} {tg : Expr}
end
section
variable {X : Cx} {pins : List (Addr × Obj)} {σ : L2.St} {H : Hp} {s : Shared} {d : Addr} {o : Obj} {xs : List (NestedKey × Addr × V)}
end
section
variable {P : Program} {w : World} {K : PySem.W.Frag} {tg : Expr} {d : Addr} {o : Obj} {es : Array DictEntry} {ep : Nat} {xs : List (NestedKey × Addr × V)}
end
section
variable {X : Cx} {E : XK} {e o tg : Expr} {td : TE} {apos cpos : Pos} {fa : XE}
end
end Lq
end
section
set_option Elab.async false
set_option linter.all false
set_option maxRecDepth 100000
namespace Lq
open PySem PySem.Spec PyProof.Rows L2
section
variable {X : Cx} {E : XK} {a b e o i fe : Expr} {es : List Expr} {p pos apos cpos : Pos} {fa fb fo ff fk : XE} {fl : XL} {x : Str}
def kTupF (K : PySem.W.Frag) : List V → Hp → VK → Prop := fun vs H Q => ∃ a xs, vs = [.ref a] ∧ SqL K H a xs ∧ ∀ p od, H p = none → od.dict = none → Q (.ref p) (upd H p (.frz od (.tup xs)))
theorem call_tupF : CallR X (.type "tuple") (kTupF X.K) := by
  intro pins s σ H xs us Q I r q
  obtain ⟨a, xs, ex, hs, q⟩ := q
  subst ex
  obtain ⟨u, eu, rx⟩ := vals1 r
  subst eu
  cases rx
  obtain ⟨its, rv, pl, hz⟩ := I.list hs
  refine call_tuple_list pl.isList (fun h' hk => ?_) (by rw [List.size_toArray, ← rv.length]; exact hz)
  have I1 : Inv X pins σ H { s with heap := h' } := I.kept (t' := s.toks) hk
  have I2 : Inv X pins σ (upd H h'.objs.size (.frz { cls := .type "tuple", data := .seq its.toArray } (.tup xs))) { s with heap := h'.push { cls := .type "tuple", data := .seq its.toArray } } :=
    I1.laid (t' := s.toks) (fun b o e => Heap.get?_push_of_some _ e) (Nat.le_refl _) (show ObjOk X.prog X.w _ _ _ (.frz _ (.tup xs)) from ⟨Heap.get?_push_size _ rfl, hz, its, rv, IsTup.new _ _⟩)
  exact ⟨.ref h'.objs.size, _, I2, rfl, q _ _ (I1.hok.fresh (Nat.le_refl _)) rfl⟩
def eTpl (f : XL) : XE := fun env st => (f env st).bind fun vs s => match vs with
  | [p] => (match asL s p with
    | some xs => .ok (.own s.length) (s ++ [.tpl xs])
    | none => .no)
  | _ => .no
theorem Rel.ownF {K : PySem.W.Frag} {mg : Str → Option Value} {Z Fz : Hp} {ρ : List Addr} {st : Store} {H : Hp} (r : Rel K mg Z Fz ρ st H) {p : Addr} (hp : H p = none) {o : HO} {c : Cell} (hc : CellOk K mg (upd Fz p o) (ρ ++ [p]) (upd H p o) p c) (hl : c.live = false) :
    Rel K mg Z (upd Fz p o) (ρ ++ [p]) (st ++ [c]) (upd H p o) ∧ Ext Fz ρ (upd Fz p o) (ρ ++ [p]) := by
  obtain ⟨hf, hm⟩ := r.free hp
  have ex : Ext Fz ρ (upd Fz p o) (ρ ++ [p]) := ⟨fun a u e => by rw [upd_ne (fun z => by subst z; rw [hf] at e; cases e)]; exact e, List.prefix_append _ _⟩
  have split : ∀ (k : Nat) (a : Addr) (x : Cell), (ρ ++ [p])[k]? = some a → (st ++ [c])[k]? = some x → (ρ[k]? = some a ∧ st[k]? = some x) ∨ (a = p ∧ x = c) := fun k a x e1 e2 => by
    by_cases h : k < ρ.length
    · rw [List.getElem?_append_left h] at e1
      rw [List.getElem?_append_left (by rw [← r.len]; exact h)] at e2
      exact .inl ⟨e1, e2⟩
    · have hk : k = ρ.length := by
        have := (List.getElem?_eq_some_iff.mp e1).1
        simp at this; omega
      subst hk
      rw [List.getElem?_append_right (Nat.le_refl _)] at e1
      rw [List.getElem?_append_right (by rw [r.len]; exact Nat.le_refl _), r.len] at e2
      simp at e1 e2
      exact .inr ⟨e1.symm, e2.symm⟩
  refine ⟨⟨fun a u e => ?_, fun a u e => ?_, by simp [r.len], fun k a x e1 e2 => ?_, fun k a x e1 e2 e3 => ?_, ?_⟩, ex⟩
  · obtain ⟨z1, z2, z3⟩ := r.zf a u e
    have hap : a ≠ p := fun z => by subst z; rw [hp] at z1; cases z1
    exact ⟨by rw [upd_ne hap]; exact z1, by rw [upd_ne hap]; exact z2, fun h => by
      rcases List.mem_append.mp h with h | h
      · exact z3 h
      · exact hap (by simpa using h)⟩
  · by_cases h : a = p
    · subst h; rw [upd_same] at e ⊢; exact e
    · rw [upd_ne h] at e ⊢; exact r.fz _ _ e
  · rcases split k a x e1 e2 with ⟨q1, q2⟩ | ⟨rfl, rfl⟩
    · have hap : a ≠ p := fun z => hm (by subst z; exact List.mem_of_getElem? q1)
      exact (r.cell k a x q1 q2).mono ex fun u q => by rw [upd_ne hap]; exact q
    · exact hc
  · rcases split k a x e1 e2 with ⟨q1, q2⟩ | ⟨rfl, rfl⟩
    · have hap : a ≠ p := fun z => hm (by subst z; exact List.mem_of_getElem? q1)
      rw [upd_ne hap]; exact r.apart k a x q1 q2 e3
    · rw [hl] at e3; cases e3
  · rw [List.nodup_append]
    exact ⟨r.nd, by simp, fun a ha b hb => by simp at hb; subst hb; exact fun z => hm (by rw [← z]; exact ha)⟩
theorem je_tpl (ha : JA X E [a] fl) (hm : X.mg "tuple" = none) (hg : Gl X "tuple" := by rfl)
    (he : starEach [a] X.env = (false, eval a X.env) :: starEach [] X.env := by rfl) (hpl : (backTo pos (starEach [] X.env)).any (·.1) = false := by rfl) : JE X E (.Call (.Name "tuple" p) [a] [] pos) (eTpl fl) := by
  obtain ⟨t, pt, s⟩ := ha
  refine ⟨_, pe_callTy call_tupF hg hm (by decide +kernel) pt (he := he) (hpl := hpl), fun Z Fz ρ env st σ H Q rl hh o => ?_⟩
  refine s Z Fz ρ env st σ H _ rl hh (o.seq.mono fun vs s1 F1 r1 H1 hq ex1 rl1 o1 vs' rx => ?_)
  clear hq
  split at o1
  · rename_i q
    obtain ⟨v, rfl, rv⟩ := rep1 rx
    split at o1
    · rename_i xs es
      obtain ⟨ad, ws, rfl, sq, hl, rr⟩ := asL_ok rl1 rv es
      refine ⟨ad, ws, rfl, sq, fun p od hp hd => ?_⟩
      have ex0 : Ext F1 r1 (upd F1 p (.frz od (.tup ws))) (r1 ++ [p]) := ⟨fun b u e => by rw [upd_ne (fun z => by subst z; rw [(rl1.free hp).1] at e; cases e)]; exact e, List.prefix_append _ _⟩
      obtain ⟨rl2, ex2⟩ := Rel.ownF rl1 hp (o := .frz od (.tup ws)) (c := .tpl xs) ⟨od, ws, upd_same, hd, hl, rr.mono ex0⟩ rfl
      exact o1 _ _ _ ex2 rl2 _ (by rw [Rep]; exact ⟨p, by rw [← rl1.len]; simp, rfl⟩)
    · exact o1.elim
  · exact o1.elim
def tplOf (st : Store) : PV → Option (List PV)
  | .own k => (match st[k]? with
    | some (.tpl xs) => some xs
    | _ => none)
  | _ => none
theorem tplOf_ok {K : PySem.W.Frag} {mg : Str → Option Value} {Z Fz : Hp} {ρ : List Addr} {st : Store} {H : Hp} {p : PV} {v : V} {xs : List PV} (r : Rel K mg Z Fz ρ st H) (h : Rep K mg Fz ρ p v) (e : tplOf st p = some xs) :
    ∃ a od vs, v = .ref a ∧ H a = some (.frz od (.tup vs)) ∧ od.dict = none ∧ xs.length ≤ sizeLine ∧ RepL K mg Fz ρ xs vs := by
  cases p with
  | own k =>
    rw [Rep] at h
    obtain ⟨a, h1, h2⟩ := h
    unfold tplOf at e
    simp only at e
    split at e
    · rename_i ys ek
      cases e
      obtain ⟨od, vs, q1, q2, q3, q4⟩ := r.cell k a _ h1 ek
      exact ⟨a, od, vs, h2, r.fz _ _ q1, q2, q3, q4⟩
    · cases e
  | _ => cases e
def oIxT : PV → PV → Store → Option PV := fun x y st => match y with
  | .int i => (match tplOf st x with
    | some xs => atI xs i
    | none => none)
  | _ => none
theorem jx_ixT : JIx X oIxT := by
  refine ⟨_, ix_seq, fun Z Fz ρ st H x y px py pz Q rl rx ry e q => ?_⟩
  unfold oIxT at e
  split at e
  · rename_i i
    rw [Rep] at ry
    split at e
    · rename_i xs es
      obtain ⟨a, od, vs, rfl, s, _, _, rr⟩ := tplOf_ok rl rx es
      obtain ⟨v, ev, rv⟩ := atI_rep rr e
      exact .inr (.inl ⟨a, vs, i, v, rfl, ry, .inl (.inr ⟨od, s⟩), ev, q Fz ρ H _ Ext.refl rl rv⟩)
    · cases e
  · cases e
def tIdxT (to ti : TE) : TE := fun σ H Q => to σ H fun x H1 => ∃ (a : Addr) (od : Obj) (ns : List Int), x = .ref a ∧ H1 a = some (.frz od (.tup (ns.map V.int))) ∧ od.dict = none ∧ ti σ H1 fun y H2 => ∃ k : Int, y = .int k ∧ H2 a = some (.frz od (.tup (ns.map V.int))) ∧ k ∈ ns ∧ Q (.int (ns.idxOf k : Nat)) H2
theorem pe_idxT {to ti : TE} (ho : PE X o to) (he : PE X e ti) (m : M1 X o "index" apos e cpos) : PE X (.Call (.Attribute o "index" apos) [e] [] cpos) (tIdxT to ti) := by
  refine ⟨fun pins s σ H Q I h => ?_⟩
  refine wpAny_Call_method m.base m.few m.line PySem.F.plainAttrs_tuple PySem.F.slot_tuple_index PySem.F.type_tuple_index (thn (ho.run pins s σ H _ I h) fun u s1 ⟨x, H1, I1, rx, a, od, ns, ex, ha, hd, q1⟩ => ?_)
  subst ex
  obtain rfl : u = Value.ref a := rx
  obtain ⟨g1, g2⟩ := I1.hok a _ ha
  obtain ⟨_, its, rv, o', h1, h2, n, h3⟩ := g2
  rw [g1] at h1
  cases h1
  refine ⟨⟨od, g1, h2⟩, fun b q => by cases q; exact ⟨od, g1, hd⟩, ?_⟩
  rw [m.trees]
  refine Calls.callWith_builtin rfl (Calls.evalArgs_plain (Calls.spliced_cons (thn (he.run pins s1 σ H1 _ I1 q1) fun iv s2 ⟨y, H2, I2, ry, k, ey, ha2, hk, q2⟩ => Calls.spliced_nil ?_)))
  subst ey
  obtain ⟨t, rfl⟩ := ry
  obtain ⟨g1', g2'⟩ := I2.hok a _ ha2
  obtain ⟨_, its', rv', o', h1', h2', n', h3'⟩ := g2'
  refine PySem.SeqAt.tuple_index_ints ⟨o', h1', h2', n', h3'⟩ rv'.ints hk ?_
  exact ⟨.int (ns.idxOf k : Nat), H2, I2.tok _, ⟨_, rfl⟩, q2⟩
def eIdxT (fo fk : XE) : XE := fun env st => (fo env st).bind fun d s1 => match tplOf s1 d with
  | none => .no
  | some xs => (match asInts xs with
    | none => .no
    | some ns => (fk env s1).bind fun k s2 => match k, tplOf s2 d with
      | .int i, some ys => if asInts ys = some ns ∧ i ∈ ns then .ok (.int (ns.idxOf i : Nat)) s2 else .no
      | _, _ => .no)
theorem je_idxT (ho : JE X E o fo) (he : JE X E e fk) (base : attributeBase o "index" X.env (eval o X.env) = eval o X.env := by rfl)
    (few : ((backTo cpos (starEach [e] X.env)).all (fun x => !x.1) && (backToKw cpos (keywordEach [] X.env)).all (fun x => x.1.isSome)
    && decide (([e] : List Expr).length + ([] : List Keyword).length + (if ([] : List Keyword).isEmpty then 0 else 1) < 30)) = true := by rfl)
    (line : (apos.endLine == cpos.line) = true := by rfl) (trees : backTo cpos (starEach [e] X.env) = [(false, eval e X.env)] := by rfl) : JE X E (.Call (.Attribute o "index" apos) [e] [] cpos) (eIdxT fo fk) := by
  obtain ⟨ta, pa, sa⟩ := ho
  obtain ⟨tb, pb, sb⟩ := he
  refine ⟨_, pe_idxT pa pb ⟨base, few, line, trees⟩, fun Z Fz ρ env st σ H Q rl h o => ?_⟩
  refine sa Z Fz ρ env st σ H _ rl h (o.seq.mono fun x s1 F1 r1 H1 hq ex1 rl1 o1 x' rx => ?_)
  clear hq
  split at o1
  · exact o1.elim
  · rename_i xs e0
    split at o1
    · exact o1.elim
    · rename_i ns en
      obtain ⟨ad, od, vs, rfl, ha, hd, _, rr⟩ := tplOf_ok rl1 rx e0
      rw [asInts_eq en] at rr
      have ev := RepL.of_ints rr
      subst ev
      refine ⟨ad, od, ns, rfl, ha, hd, ?_⟩
      refine sb Z F1 r1 env s1 σ H1 _ rl1 (h.mono ex1) (o1.seq.mono fun y s2 F2 r2 H2 hq ex2 rl2 o2 y' ry => ?_)
      clear hq
      split at o2
      · rename_i i ys e2
        split at o2
        · rename_i c
          rw [Rep] at ry
          subst ry
          obtain ⟨ad', od', vs', ea, ha', _, _, rr'⟩ := tplOf_ok rl2 (rx.mono ex2) e2
          cases ea
          have fz : ∃ od2 vs2, F1 ad = some (.frz od2 (.tup vs2)) := by
            cases x with
            | own k =>
              have rx0 := rx
              rw [Rep] at rx0
              obtain ⟨a2, h1, h2⟩ := rx0
              cases h2
              unfold tplOf at e0
              simp only at e0
              split at e0
              · rename_i zs ek
                obtain ⟨od2, vs2, q1, _⟩ := rl1.cell k ad _ h1 ek
                exact ⟨od2, vs2, q1⟩
              · cases e0
            | _ => cases e0
          obtain ⟨od2, vs2, f1⟩ := fz
          have hh1 := rl1.fz _ _ f1
          rw [ha] at hh1
          cases hh1
          exact ⟨i, rfl, rl2.fz _ _ (ex2.fz _ _ f1), c.2, o2.here rl2 _ (by rw [Rep])⟩
        · exact o2.elim
      · exact o2.elim
end
end Lq
namespace Lq
open PySem PySem.Spec PyProof.Rows L2
theorem u1 {k : Nat} {A : Around} (hr : Room k A) : A.units + 1 < cLine := by have := hr.un; omega
section
variable {X : Cx} {E : XK} {a : Expr} {fa : XE}
end
end Lq
end
section
set_option Elab.async false
set_option linter.all false
set_option maxRecDepth 100000
set_option maxHeartbeats 0
namespace Gk13
open PySem PySem.Spec PyProof.Rows L2 Lq
def top (i : Nat) : Stmt := PySem.Challenge.pw_lotscales_k13_weights_renamed.main.body.getD i (.Pass ⟨0, 0, 0, 0⟩)
def mth (i j : Nat) : Stmt := match top i with
  | .ClassDef _ _ _ b _ _ _ _ _ _ _ => b.getD j (.Pass ⟨0, 0, 0, 0⟩)
  | _ => .Pass ⟨0, 0, 0, 0⟩
def f__law_town : Fn := runF 1
    (sRet (eOw (fAdd (eFz (fDisp (aCons (eC (.int 0)) aNil))) (eFz (fList (eVar 0))))))
def f_is_between : Fn := runF 3
    (sRet (eAnd (eIsi .int (eVar 0)) (eAnd (eNot (eIsi .bl (eVar 0))) (eChain oLeI oLeI (eVar 1) (eVar 0) (eVar 2)))))
def f_check_things : Fn := runF 1
    (sIf (tNotF (tE (eCall 3 f_is_between (aCons (eVar 0) (aCons (eC (.int 1)) (aCons (eC (.int 5)) aNil)))))) (sRaise "InvalidThings") sNil)
def f_is_found_lot : Fn := runF 4
    (sSeq (sIf (tOrF (tNotF (tE (eIsi .tup (eVar 1)))) (tNotF (tE (eCB oAll (aCons (eFz (fComp (iVal (eVar 1)) (gNm 2) (fun _ st => .ok true st) (eCall 3 f_is_between (aCons (eVar 2) (aCons (eC (.int 0)) (aCons (eBin oSub (eVar 0) (eC (.int 1))) aNil)))) [2])) aNil))))) (sRet (eC (.bl false))) sNil)
    (sRet (eCB oAll (aCons (eFz (fComp (iRange1 (aCons (eBin oSub (eCB oLen (aCons (eVar 1) aNil)) (eC (.int 1))) aNil)) (gNm 3) (fun _ st => .ok true st) (eBin oLt (eBin oIx (eVar 1) (eVar 3)) (eBin oIx (eVar 1) (eBin oAdd (eVar 3) (eC (.int 1))))) [3])) aNil))))
def f_is_comparison : Fn := runF 2
    (sSeq (sIf (tOrF (tNotF (tE (eIsi .tup (eVar 1)))) (tOrF (tE (eBin oNe (eCB oLen (aCons (eVar 1) aNil)) (eC (.int 3)))) (tOrF (tNotF (tE (eIsi .str (eBin oIx (eVar 1) (eC (.int 1)))))) (tE (eBin oNin (eBin oIx (eVar 1) (eC (.int 1))) (eC (.tup [.str ">", .str ">=", .str "="]))))))) (sRet (eC (.bl false))) sNil)
    (sRet (eAnd (eCall 2 f_is_found_lot (aCons (eVar 0) (aCons (eBin oIx (eVar 1) (eC (.int 0))) aNil))) (eCall 2 f_is_found_lot (aCons (eVar 0) (aCons (eBin oIx (eVar 1) (eC (.int 2))) aNil))))))
def f_are_told : Fn := runF 3
    (sRet (eAnd (eIsi .tup (eVar 1)) (eAnd (eBin oLeI (eCB oLen (aCons (eVar 1) aNil)) (eC (.int 8))) (eCB oAll (aCons (eFz (fComp (iVal (eVar 1)) (gNm 2) (fun _ st => .ok true st) (eCall 2 f_is_comparison (aCons (eVar 0) (aCons (eVar 2) aNil))) [2])) aNil)))))
def f_check_told : Fn := runF 2
    (sSeq (sDrop (eCall 1 f_check_things (aCons (eVar 0) aNil)))
    (sIf (tNotF (tE (eCall 2 f_are_told (aCons (eVar 0) (aCons (eVar 1) aNil))))) (sRaise "InvalidTold") sNil))
def f_divisor_of : Fn := runF 2
    (sSeq (sPar 0 1 (aCons (eCB oAbs (aCons (eVar 0) aNil)) (aCons (eCB oAbs (aCons (eVar 1) aNil)) aNil)))
    (sSeq (sWhile (tE (eBin oNe (eVar 1) (eC (.int 0)))) (sPar 0 1 (aCons (eVar 1) (aCons (eBin oMod (eVar 0) (eVar 1)) aNil))) 10715086071862673209484250490600018105614048117055336074437503883703510511249361224931983788156958581275946729175531468251871452856923140435984577574698574803934567774824230985421074605062371141877954182153046474983581941267398767559165543946077062914571196477686542167660429831652624386837205668069376)
    (sRet (eVar 0))))
def f_shortened : Fn := runF 3
    (sSeq (sSet 1 (eC (.int 0)))
    (sSeq (sFor (iVal (eVar 0)) (gNm 2) (sSeq (sSet 1 (eCall 2 f_divisor_of (aCons (eVar 1) (aCons (eVar 2) aNil))))
    (sIf (tE (eBin oEq (eVar 1) (eC (.int 1)))) (sRet (eFz (fList (eVar 0)))) sNil)))
    (sRet (eIf (tE (eBin oGtI (eVar 1) (eC (.int 1)))) (eFz (fComp (iVal (eVar 0)) (gNm 2) (fun _ st => .ok true st) (eBin oDiv (eVar 2) (eVar 1)) [2])) (eFz (fList (eVar 0)))))))
def f_cleared : Fn := runF 7
    (sSeq (sAsg (eTup (aCons (eBin oIx (eVar 0) (eVar 2)) (aCons (eBin oIx (eVar 1) (eVar 2)) aNil))) (gTp 2 (gsCons (gNm 3) (gsCons (gNm 4) gsNil))))
    (sSeq (sIf (tE (eBin oEq (eVar 3) (eC (.int 0)))) (sRet (eVar 0)) sNil)
    (sRet (eCall 1 f_shortened (aCons (eFz (fComp (iZipF (aCons (eVar 0) (aCons (eVar 1) aNil))) (gTp 2 (gsCons (gNm 5) (gsCons (gNm 6) gsNil))) (fun _ st => .ok true st) (eBin oSub (eBin oMul (eVar 5) (eVar 4)) (eBin oMul (eVar 3) (eVar 6))) [5, 6])) aNil)))))
def f_Equations_turn : Fn := runF 6
    (sSeq (sSet 4 (eBin oIx (eFld "Equations" "rows" (eVar 0)) (eVar 2)))
    (sSeq (sFor (iRange1 (aCons (eCB oLen (aCons (eFld "Equations" "rows" (eVar 0)) aNil)) aNil)) (gNm 5) (sIf (tE (eBin oNe (eVar 5) (eVar 2))) (sAsg (eCall 3 f_cleared (aCons (eBin oIx (eFld "Equations" "rows" (eVar 0)) (eVar 5)) (aCons (eVar 4) (aCons (eVar 3) aNil)))) (gSubL (eFld "Equations" "rows" (eVar 0)) (eVar 5))) sNil))
    (sSeq (sAsg (eVar 3) (gSubL (eFld "Equations" "basis" (eVar 0)) (eVar 2)))
    (sRet (eCall 3 f_cleared (aCons (eVar 1) (aCons (eVar 4) (aCons (eVar 3) aNil))))))))
def f_Equations_leaving : Fn := runF 7
    (sSeq (sSet 2 (eC .non))
    (sSeq (sForC true (eFld "Equations" "rows" (eVar 0)) (gTp 2 (gsCons (gNm 3) (gsCons (gNm 4) gsNil))) (sIf (tE (eBin oGtI (eBin oIx (eVar 4) (eVar 1)) (eC (.int 0)))) (sIf (tE (eBin oIsN (eVar 2) (eC .non))) (sSet 2 (eVar 3)) (sSeq (sPar 5 6 (aCons (eBin oMul (eBin oIx (eVar 4) (eUn oNeg (eC (.int 1)))) (eBin oIx (eBin oIx (eFld "Equations" "rows" (eVar 0)) (eVar 2)) (eVar 1))) (aCons (eBin oMul (eBin oIx (eBin oIx (eFld "Equations" "rows" (eVar 0)) (eVar 2)) (eUn oNeg (eC (.int 1)))) (eBin oIx (eVar 4) (eVar 1))) aNil)))
    (sIf (tOrF (tE (eBin oLt (eVar 5) (eVar 6))) (tAndF (tE (eBin oEq (eVar 5) (eVar 6))) (tE (eBin oLt (eBin oIx (eFld "Equations" "basis" (eVar 0)) (eVar 3)) (eBin oIx (eFld "Equations" "basis" (eVar 0)) (eVar 2)))))) (sSet 2 (eVar 3)) sNil))) sNil))
    (sRet (eVar 2))))
def f_fraction : Fn := runF 3
    (sSeq (sSet 2 (eCall 2 f_divisor_of (aCons (eVar 0) (aCons (eVar 1) aNil))))
    (sSeq (sSet 2 (eIf (tE (eBin oGtI (eVar 1) (eC (.int 0)))) (eVar 2) (eUn oNeg (eVar 2))))
    (sRet (eTup (aCons (eBin oDiv (eVar 0) (eVar 2)) (aCons (eBin oDiv (eVar 1) (eVar 2)) aNil))))))
def f_Equations_solved : Fn := runF 10
    (sSeq (sSet 1 (eOw (fMul (eFz (fDisp (aCons (eC (.int 0)) aNil))) (eBin oAdd (eBin oAdd (eFld "Equations" "many" (eVar 0)) (eCB oLen (aCons (eFld "Equations" "rows" (eVar 0)) aNil))) (eC (.int 2))))))
    (sSeq (sForC false (eFld "Equations" "rows" (eVar 0)) (gNm 2) (sSet 1 (eOw (fComp (iZipF (aCons (eFrz (eVar 1)) (aCons (eVar 2) aNil))) (gTp 2 (gsCons (gNm 8) (gsCons (gNm 9) gsNil))) (fun _ st => .ok true st) (eBin oSub (eVar 8) (eVar 9)) [8, 9]))))
    (sSeq (sFor (iRange1 (aCons (eCB oLen (aCons (eFld "Equations" "rows" (eVar 0)) aNil)) aNil)) (gNm 3) (sAsg (eC (.int 0)) (gSubL (eVar 1) (eBin oAdd (eFld "Equations" "many" (eVar 0)) (eVar 3)))))
    (sSeq (sAsg (eC (.int 1)) (gSubL (eVar 1) (eUn oNeg (eC (.int 2)))))
    (sSeq (sSet 4 (eFz (fComp (iRange1 (aCons (eFld "Equations" "many" (eVar 0)) aNil)) (gNm 7) (tE (eBin oLt (eBin oIx (eVar 1) (eVar 7)) (eC (.int 0)))) (eVar 7) [7])))
    (sSeq (sWhile (tE (eBin oNe (eVar 4) (eFz (fDisp aNil)))) (sSeq (sSet 1 (eMeth "Equations" "turn" 4 f_Equations_turn (eVar 0) (aCons (eFrz (eVar 1)) (aCons (eMeth "Equations" "leaving" 2 f_Equations_leaving (eVar 0) (aCons (eBin oIx (eVar 4) (eC (.int 0))) aNil)) (aCons (eBin oIx (eVar 4) (eC (.int 0))) aNil)))))
    (sSet 4 (eFz (fComp (iRange1 (aCons (eFld "Equations" "many" (eVar 0)) aNil)) (gNm 7) (tE (eBin oLt (eBin oIx (eVar 1) (eVar 7)) (eC (.int 0)))) (eVar 7) [7])))) 2037035976334486086268445688409378161051468393665936250636140449354381299763336706183397376)
    (sSeq (sIf (tE (eBin oLt (eBin oIx (eVar 1) (eUn oNeg (eC (.int 1)))) (eC (.int 0)))) (sSeq (sSet 5 (eFz (fComp (iRange1 (aCons (eCB oLen (aCons (eFld "Equations" "rows" (eVar 0)) aNil)) aNil)) (gNm 3) (fun _ st => .ok true st) (eBin oSub (eBin oIx (eVar 1) (eUn oNeg (eC (.int 2)))) (eBin oIx (eVar 1) (eBin oAdd (eFld "Equations" "many" (eVar 0)) (eVar 3)))) [3])))
    (sRet (eTup (aCons (eC .non) (aCons (eFz (fComp (iZipF (aCons (eFld "Equations" "signs" (eVar 0)) (aCons (eVar 5) aNil))) (gTp 2 (gsCons (gNm 8) (gsCons (gNm 9) gsNil))) (fun _ st => .ok true st) (eBin oMul (eVar 8) (eVar 9)) [8, 9])) aNil))))) sNil)
    (sSeq (sSet 6 (eOw (fMul (eFz (fDisp (aCons (eTup (aCons (eC (.int 0)) (aCons (eC (.int 1)) aNil))) aNil))) (eFld "Equations" "many" (eVar 0)))))
    (sSeq (sForC true (eFld "Equations" "basis" (eVar 0)) (gTp 2 (gsCons (gNm 3) (gsCons (gNm 7) gsNil))) (sIf (tE (eBin oLt (eVar 7) (eFld "Equations" "many" (eVar 0)))) (sAsg (eCall 2 f_fraction (aCons (eBin oIx (eBin oIx (eFld "Equations" "rows" (eVar 0)) (eVar 3)) (eUn oNeg (eC (.int 1)))) (aCons (eBin oIx (eBin oIx (eFld "Equations" "rows" (eVar 0)) (eVar 3)) (eVar 7)) aNil))) (gSubL (eVar 6) (eVar 7))) sNil))
    (sRet (eTup (aCons (eFrz (eVar 6)) (aCons (eC .non) aNil)))))))))))))
def f_row_of : Fn := runF 6
    (sSeq (sAsg (eVar 1) (gTp 3 (gsCons (gNm 2) (gsCons (gNm 3) (gsCons (gNm 4) gsNil)))))
    (sRet (eFz (fComp (iRange1 (aCons (eVar 0) aNil)) (gNm 5) (fun _ st => .ok true st) (eBin oSub (eCB oInt (aCons (eBin oIn (eVar 5) (eVar 2)) aNil)) (eCB oInt (aCons (eBin oIn (eVar 5) (eVar 4)) aNil))) [5]))))
def f_common_bottom : Fn := runF 3
    (sSeq (sSet 1 (eC (.int 1)))
    (sSeq (sFor (iVal (eVar 0)) (gNm 2) (sSet 1 (eBin oDiv (eBin oMul (eVar 1) (eBin oIx (eVar 2) (eC (.int 1)))) (eCall 2 f_divisor_of (aCons (eVar 1) (aCons (eBin oIx (eVar 2) (eC (.int 1))) aNil))))))
    (sRet (eVar 1))))
def f_Equations___init__ : Fn := runF 9
    (sSeq (sFldS "Equations" "many" (eVar 0) (eCB oLen (aCons (eBin oIx (eVar 1) (eC (.int 0))) aNil)))
    (sSeq (sFldS "Equations" "signs" (eVar 0) (eFz (fComp (iVal (eVar 2)) (gNm 6) (fun _ st => .ok true st) (eIf (tE (eBin oGeI (eVar 6) (eC (.int 0)))) (eC (.int 1)) (eUn oNeg (eC (.int 1)))) [6])))
    (sSeq (sFldS "Equations" "rows" (eVar 0) (eOw (fDisp aNil)))
    (sSeq (sFor (iEnumT (aCons (eVar 1) aNil)) (gTp 2 (gsCons (gNm 3) (gsCons (gNm 4) gsNil))) (sSeq (sSet 5 (eFz (fComp (iRange1 (aCons (eCB oLen (aCons (eVar 1) aNil)) aNil)) (gNm 7) (fun _ st => .ok true st) (eCB oInt (aCons (eBin oEq (eVar 7) (eVar 3)) aNil)) [7])))
    (sDrop (eLm goApp (eFld "Equations" "rows" (eVar 0)) (aCons (eBin oAdd (eBin oAdd (eFz (fComp (iVal (eVar 4)) (gNm 8) (fun _ st => .ok true st) (eBin oMul (eBin oIx (eFld "Equations" "signs" (eVar 0)) (eVar 3)) (eVar 8)) [8])) (eVar 5)) (eFz (fDisp (aCons (eC (.int 0)) (aCons (eCB oAbs (aCons (eBin oIx (eVar 2) (eVar 3)) aNil)) aNil))))) aNil)))))
    (sFldS "Equations" "basis" (eVar 0) (eOw (fComp (iRange1 (aCons (eCB oLen (aCons (eVar 1) aNil)) aNil)) (gNm 3) (fun _ st => .ok true st) (eBin oAdd (eFld "Equations" "many" (eVar 0)) (eVar 3)) [3])))))))
def f_whole : Fn := runF 2
    (sRet (eBin oMul (eBin oIx (eVar 0) (eC (.int 0))) (eBin oDiv (eVar 1) (eBin oIx (eVar 0) (eC (.int 1))))))
def f_solved : Fn := runF 19
    (sSeq (sAsg (eTup (aCons (eOw (fDisp aNil)) (aCons (eOw (fDisp aNil)) aNil))) (gTp 2 (gsCons (gNm 2) (gsCons (gNm 3) gsNil))))
    (sSeq (sFor (iEnumT (aCons (eVar 1) aNil)) (gTp 2 (gsCons (gNm 4) (gsCons (gNm 5) gsNil))) (sSeq (sSet 6 (eCall 2 f_row_of (aCons (eVar 0) (aCons (eVar 5) aNil))))
    (sSeq (sDrop (eLm goApp (eVar 2) (aCons (eBin oAdd (eVar 6) (eFz (fDisp (aCons (eCB oInt (aCons (eBin oEq (eBin oIx (eVar 5) (eC (.int 1))) (eC (.str ">"))) aNil)) aNil)))) aNil)))
    (sSeq (sDrop (eLm goApp (eVar 3) (aCons (eTup (aCons (eVar 4) (aCons (eC (.int 1)) aNil))) aNil)))
    (sIf (tE (eBin oEq (eBin oIx (eVar 5) (eC (.int 1))) (eC (.str "=")))) (sSeq (sDrop (eLm goApp (eVar 2) (aCons (eBin oAdd (eFz (fComp (iVal (eVar 6)) (gNm 15) (fun _ st => .ok true st) (eUn oNeg (eVar 15)) [15])) (eFz (fDisp (aCons (eC (.int 0)) aNil)))) aNil)))
    (sDrop (eLm goApp (eVar 3) (aCons (eTup (aCons (eVar 4) (aCons (eUn oNeg (eC (.int 1))) aNil))) aNil)))) sNil)))))
    (sSeq (sFor (iRange1 (aCons (eVar 0) aNil)) (gNm 7) (sSeq (sDrop (eLm goApp (eVar 2) (aCons (eBin oAdd (eFz (fComp (iRange1 (aCons (eVar 0) aNil)) (gNm 16) (fun _ st => .ok true st) (eCB oInt (aCons (eBin oEq (eVar 16) (eVar 7)) aNil)) [16])) (eFz (fDisp (aCons (eC (.int 1)) aNil)))) aNil)))
    (sDrop (eLm goApp (eVar 3) (aCons (eTup (aCons (eC .non) (aCons (eC (.int 1)) aNil))) aNil)))))
    (sSeq (sSet 8 (eFz (fComp (iRange1 (aCons (eBin oAdd (eVar 0) (eC (.int 1))) aNil)) (gNm 17) (fun _ st => .ok true st) (eFz (fComp (iVal (eFrz (eVar 2))) (gNm 18) (fun _ st => .ok true st) (eBin oIx (eVar 18) (eVar 17)) [18])) [17])))
    (sSeq (sAsg (eMeth "Equations" "solved" 1 f_Equations_solved (eMake "Equations" 3 f_Equations___init__ (aCons (eVar 8) (aCons (eBin oAdd (eBin oMul (eFz (fDisp (aCons (eC (.int 0)) aNil))) (eVar 0)) (eFz (fDisp (aCons (eC (.int 1)) aNil)))) aNil))) aNil) (gTp 2 (gsCons (gNm 9) (gsCons (gNm 10) gsNil))))
    (sSeq (sIf (tE (eBin oIsN (eVar 9) (eC .non))) (sRet (eTup (aCons (eC .non) (aCons (eCB oTuple (aCons (eCall 1 f_shortened (aCons (eFz (fComp (iVal (eCut (eVar 10) pNone (pSome (eVar 0)))) (gNm 15) (fun _ st => .ok true st) (eUn oNeg (eVar 15)) [15])) aNil)) aNil)) aNil)))) sNil)
    (sSeq (sPar 11 12 (aCons (eCall 1 f_common_bottom (aCons (eVar 9) aNil)) (aCons (eOw (fMul (eFz (fDisp (aCons (eC (.int 0)) aNil))) (eCB oLen (aCons (eVar 1) aNil)))) aNil)))
    (sSeq (sFor (iZipF (aCons (eVar 9) (aCons (eFrz (eVar 3)) aNil))) (gTp 2 (gsCons (gNm 13) (gsCons (gTp 2 (gsCons (gNm 4) (gsCons (gNm 14) gsNil))) gsNil))) (sIf (tE (eBin oNotN (eVar 4) (eC .non))) (sAsg (eBin oAdd (eBin oIx (eVar 12) (eVar 4)) (eBin oMul (eVar 14) (eCall 2 f_whole (aCons (eVar 13) (aCons (eVar 11) aNil))))) (gSubL (eVar 12) (eVar 4))) sNil))
    (sRet (eTup (aCons (eCB oTuple (aCons (eFrz (eVar 12)) aNil)) (aCons (eC .non) aNil))))))))))))
def f_some_weights : Fn := runF 2
    (sSeq (sDrop (eCall 2 f_check_told (aCons (eVar 0) (aCons (eVar 1) aNil))))
    (sRet (eBin oIx (eCall 2 f_solved (aCons (eVar 0) (aCons (eVar 1) aNil))) (eC (.int 1)))))
def f__law_draw : Fn := runF 6
    (sSeq (sAsg (eBin oAdd (eBin oIx (eVar 1) (eC (.int 0))) (eC (.int 1))) (gSubL (eVar 1) (eC (.int 0))))
    (sSeq (sIf (tE (eBin oEq (eVar 0) (eFz (fDisp aNil)))) (sRet (eBin oMod (eBin oDiv (eBin oMul (eBin oMul (eBin oIx (eVar 1) (eC (.int 0))) (eBin oIx (eVar 1) (eC (.int 0)))) (eC (.int 7))) (eC (.int 3))) (eVar 2))) sNil)
    (sSeq (sSet 3 (eBin oMod (eBin oIx (eVar 1) (eC (.int 0))) (eCB oLen (aCons (eVar 0) aNil))))
    (sSeq (sSet 4 (eBin oIx (eVar 1) (eBin oAdd (eC (.int 1)) (eVar 3))))
    (sSeq (sIf (tAndF (tE (eBin oGeI (eBin oIx (eVar 0) (eVar 3)) (eBin oPow (eC (.int 10)) (eC (.int 18))))) (tE (eBin oGtI (eVar 4) (eC (.int 0))))) (sSeq (sAsg (eBin oDiv (eVar 4) (eVar 2)) (gSubL (eVar 1) (eBin oAdd (eC (.int 1)) (eVar 3))))
    (sRet (eBin oMod (eVar 4) (eVar 2)))) sNil)
    (sSeq (sSet 5 (eBin oMod (eBin oAdd (eBin oIx (eVar 0) (eVar 3)) (eBin oMul (eC (.int 104729)) (eBin oIx (eVar 1) (eC (.int 0))))) (eC (.int 4294967291))))
    (sSeq (sSet 5 (eBin oMod (eBin oPow (eVar 5) (eC (.int 5))) (eC (.int 4294967279))))
    (sRet (eBin oMod (eBin oDiv (eBin oMod (eBin oAdd (eBin oMul (eBin oDiv (eVar 5) (eC (.int 64))) (eC (.int 69621))) (eVar 5)) (eC (.int 4294967231))) (eC (.int 8))) (eVar 2))))))))))
def f__law_pick : Fn := runF 3
    (sRet (eBin oIx (eVar 2) (eCall 3 f__law_draw (aCons (eVar 0) (aCons (eVar 1) (aCons (eCB oLen (aCons (eVar 2) aNil)) aNil))))))
def f__law_scale : Fn := runF 5
    (sSeq (sSet 3 (eCall 3 f__law_pick (aCons (eVar 0) (aCons (eVar 1) (aCons (eFz (fDisp (aCons (eC (.int 2)) (aCons (eC (.int 4)) (aCons (eC (.int 9)) aNil))))) aNil)))))
    (sRet (eCB oTuple (aCons (eFz (fComp (iRange1 (aCons (eVar 2) aNil)) (gNm 4) (fun _ st => .ok true st) (eBin oAdd (eC (.int 1)) (eCall 3 f__law_draw (aCons (eVar 0) (aCons (eVar 1) (aCons (eVar 3) aNil))))) [4])) aNil))))
def f__law_lots : Fn := runF 4
    (sSeq (sSet 1 (eFz (fDisp (aCons (eTup aNil) aNil))))
    (sSeq (sFor (iRange1 (aCons (eVar 0) aNil)) (gNm 2) (sSet 1 (eBin oAdd (eVar 1) (eFz (fComp (iVal (eVar 1)) (gNm 3) (fun _ st => .ok true st) (eBin oAdd (eVar 3) (eTup (aCons (eVar 2) aNil))) [3])))))
    (sRet (eFz (fSorted (eVar 1))))))
def f__law_weight : Fn := runF 3
    (sRet (eCB oSum (aCons (eFz (fComp (iVal (eVar 1)) (gNm 2) (fun _ st => .ok true st) (eBin oIx (eVar 0) (eVar 2)) [2])) aNil)))
def f__law_comparison : Fn := runF 9
    (sSeq (sSet 4 (eCall 1 f__law_lots (aCons (eVar 2) aNil)))
    (sSeq (sPar 5 6 (aCons (eCall 3 f__law_pick (aCons (eVar 0) (aCons (eVar 1) (aCons (eVar 4) aNil)))) (aCons (eCall 3 f__law_pick (aCons (eVar 0) (aCons (eVar 1) (aCons (eVar 4) aNil)))) aNil)))
    (sSeq (sSet 7 (eCall 3 f__law_pick (aCons (eVar 0) (aCons (eVar 1) (aCons (eFz (fDisp (aCons (eC (.str ">")) (aCons (eC (.str ">")) (aCons (eC (.str ">=")) (aCons (eC (.str "=")) aNil)))))) aNil)))))
    (sSeq (sIf (tE (eBin oGtI (eCall 3 f__law_draw (aCons (eVar 0) (aCons (eVar 1) (aCons (eC (.int 6)) aNil)))) (eC (.int 0)))) (sSeq (sSet 8 (eBin oSub (eCall 2 f__law_weight (aCons (eVar 3) (aCons (eVar 5) aNil))) (eCall 2 f__law_weight (aCons (eVar 3) (aCons (eVar 6) aNil)))))
    (sSeq (sAsg (eIf (tE (eBin oGeI (eVar 8) (eC (.int 0)))) (eTup (aCons (eVar 5) (aCons (eVar 6) aNil))) (eTup (aCons (eVar 6) (aCons (eVar 5) aNil)))) (gTp 2 (gsCons (gNm 5) (gsCons (gNm 6) gsNil))))
    (sSet 7 (eIf (tOrF (tAndF (tE (eBin oEq (eVar 8) (eC (.int 0)))) (tE (eBin oNe (eVar 7) (eC (.str ">"))))) (tAndF (tE (eBin oNe (eVar 8) (eC (.int 0)))) (tE (eBin oNe (eVar 7) (eC (.str "=")))))) (eVar 7) (eC (.str ">=")))))) sNil)
    (sRet (eTup (aCons (eVar 5) (aCons (eVar 7) (aCons (eVar 6) aNil)))))))))
def f__law_told : Fn := runF 6
    (sSeq (sSet 4 (eCall 3 f__law_scale (aCons (eVar 0) (aCons (eVar 1) (aCons (eVar 2) aNil)))))
    (sRet (eCB oTuple (aCons (eFz (fComp (iRange1 (aCons (eCall 3 f__law_draw (aCons (eVar 0) (aCons (eVar 1) (aCons (eBin oAdd (eVar 3) (eC (.int 1))) aNil)))) aNil)) (gNm 5) (fun _ st => .ok true st) (eCall 4 f__law_comparison (aCons (eVar 0) (aCons (eVar 1) (aCons (eVar 2) (aCons (eVar 4) aNil))))) [5])) aNil))))
def f__law_order : Fn := runF 5
    (sSeq (sPar 3 4 (aCons (eOw (fListRg (eVar 2))) (aCons (eOw (fDisp aNil)) aNil)))
    (sSeq (sWhile (tE (eBin oNe (eVar 3) (eFz (fDisp aNil)))) (sDrop (eLm goApp (eVar 4) (aCons (eLm goPopAt (eVar 3) (aCons (eCall 3 f__law_draw (aCons (eVar 0) (aCons (eVar 1) (aCons (eCB oLen (aCons (eVar 3) aNil)) aNil)))) aNil)) aNil))) 1099511627776)
    (sRet (eTpl (aCons (eFrz (eVar 4)) aNil)))))
def f_balance : Fn := runF 2
    (sSeq (sDrop (eCall 2 f_check_told (aCons (eVar 0) (aCons (eVar 1) aNil))))
    (sRet (eBin oIx (eCall 2 f_solved (aCons (eVar 0) (aCons (eVar 1) aNil))) (eC (.int 0)))))
def f_all_weights_r0 : Fn := runF 5
    sBar
def f_all_weights_r1 : Fn := runF 5
    (sSeq (sIf (tE (eBin oEq (eVar 0) (eC (.int 1)))) (sRet (eFz (fDisp (aCons (eTup (aCons (eVar 1) aNil)) aNil)))) sNil)
    (sSeq (sSet 2 (eOw (fDisp aNil)))
    (sSeq (sFor (iRange2 (aCons (eC (.int 1)) (aCons (eBin oAdd (eBin oSub (eVar 1) (eVar 0)) (eC (.int 2))) aNil))) (gNm 3) (sDrop (eLm goExt (eVar 2) (aCons (eFz (fComp (iVal (eCall 2 f_all_weights_r0 (aCons (eBin oSub (eVar 0) (eC (.int 1))) (aCons (eBin oSub (eVar 1) (eVar 3)) aNil)))) (gNm 4) (fun _ st => .ok true st) (eBin oAdd (eTup (aCons (eVar 3) aNil)) (eVar 4)) [4])) aNil))))
    (sRet (eFrz (eVar 2))))))
def f_all_weights_r2 : Fn := runF 5
    (sSeq (sIf (tE (eBin oEq (eVar 0) (eC (.int 1)))) (sRet (eFz (fDisp (aCons (eTup (aCons (eVar 1) aNil)) aNil)))) sNil)
    (sSeq (sSet 2 (eOw (fDisp aNil)))
    (sSeq (sFor (iRange2 (aCons (eC (.int 1)) (aCons (eBin oAdd (eBin oSub (eVar 1) (eVar 0)) (eC (.int 2))) aNil))) (gNm 3) (sDrop (eLm goExt (eVar 2) (aCons (eFz (fComp (iVal (eCall 2 f_all_weights_r1 (aCons (eBin oSub (eVar 0) (eC (.int 1))) (aCons (eBin oSub (eVar 1) (eVar 3)) aNil)))) (gNm 4) (fun _ st => .ok true st) (eBin oAdd (eTup (aCons (eVar 3) aNil)) (eVar 4)) [4])) aNil))))
    (sRet (eFrz (eVar 2))))))
def f_all_weights_r3 : Fn := runF 5
    (sSeq (sIf (tE (eBin oEq (eVar 0) (eC (.int 1)))) (sRet (eFz (fDisp (aCons (eTup (aCons (eVar 1) aNil)) aNil)))) sNil)
    (sSeq (sSet 2 (eOw (fDisp aNil)))
    (sSeq (sFor (iRange2 (aCons (eC (.int 1)) (aCons (eBin oAdd (eBin oSub (eVar 1) (eVar 0)) (eC (.int 2))) aNil))) (gNm 3) (sDrop (eLm goExt (eVar 2) (aCons (eFz (fComp (iVal (eCall 2 f_all_weights_r2 (aCons (eBin oSub (eVar 0) (eC (.int 1))) (aCons (eBin oSub (eVar 1) (eVar 3)) aNil)))) (gNm 4) (fun _ st => .ok true st) (eBin oAdd (eTup (aCons (eVar 3) aNil)) (eVar 4)) [4])) aNil))))
    (sRet (eFrz (eVar 2))))))
def f_all_weights : Fn := runF 5
    (sSeq (sIf (tE (eBin oEq (eVar 0) (eC (.int 1)))) (sRet (eFz (fDisp (aCons (eTup (aCons (eVar 1) aNil)) aNil)))) sNil)
    (sSeq (sSet 2 (eOw (fDisp aNil)))
    (sSeq (sFor (iRange2 (aCons (eC (.int 1)) (aCons (eBin oAdd (eBin oSub (eVar 1) (eVar 0)) (eC (.int 2))) aNil))) (gNm 3) (sDrop (eLm goExt (eVar 2) (aCons (eFz (fComp (iVal (eCall 2 f_all_weights_r3 (aCons (eBin oSub (eVar 0) (eC (.int 1))) (aCons (eBin oSub (eVar 1) (eVar 3)) aNil)))) (gNm 4) (fun _ st => .ok true st) (eBin oAdd (eTup (aCons (eVar 3) aNil)) (eVar 4)) [4])) aNil))))
    (sRet (eFrz (eVar 2))))))
def f_found_weight : Fn := runF 3
    (sRet (eCB oSum (aCons (eFz (fComp (iVal (eVar 1)) (gNm 2) (fun _ st => .ok true st) (eBin oIx (eVar 0) (eVar 2)) [2])) aNil)))
def f_does_hold : Fn := runF 6
    (sSeq (sAsg (eVar 1) (gTp 3 (gsCons (gNm 2) (gsCons (gNm 3) (gsCons (gNm 4) gsNil)))))
    (sSeq (sSet 5 (eBin oSub (eCall 2 f_found_weight (aCons (eVar 0) (aCons (eVar 2) aNil))) (eCall 2 f_found_weight (aCons (eVar 0) (aCons (eVar 4) aNil)))))
    (sRet (eIf (tE (eBin oNe (eVar 3) (eC (.str "=")))) (eOr (eBin oGtI (eVar 5) (eC (.int 0))) (eAnd (eBin oEq (eVar 5) (eC (.int 0))) (eBin oNe (eVar 3) (eC (.str ">"))))) (eBin oEq (eVar 5) (eC (.int 0)))))))
def f_do_agree : Fn := runF 3
    (sRet (eCB oAll (aCons (eFz (fComp (iVal (eVar 0)) (gNm 2) (fun _ st => .ok true st) (eCall 2 f_does_hold (aCons (eVar 1) (aCons (eVar 2) aNil))) [2])) aNil)))
def f_least_weights : Fn := runF 4
    (sSeq (sDrop (eCall 2 f_check_told (aCons (eVar 0) (aCons (eVar 1) aNil))))
    (sSeq (sIf (tE (eBin oGtI (eVar 0) (eC (.int 4)))) (sRaise "TooMany") sNil)
    (sSeq (sIf (tE (eBin oIsN (eBin oIx (eCall 2 f_solved (aCons (eVar 0) (aCons (eVar 1) aNil))) (eC (.int 1))) (eC .non))) (sRet (eC .non)) sNil)
    (sSeq (sSet 2 (eVar 0))
    (sWhile (tE (eC (.bl true))) (sSeq (sFor (iVal (eCall 2 f_all_weights (aCons (eVar 0) (aCons (eVar 2) aNil)))) (gNm 3) (sIf (tE (eCall 2 f_do_agree (aCons (eVar 1) (aCons (eVar 3) aNil)))) (sRet (eVar 3)) sNil))
    (sSet 2 (eBin oAdd (eVar 2) (eC (.int 1))))) 1099511627776)))))
def f_are_weights : Fn := runF 2
    (sSeq (sIf (tOrF (tNotF (tE (eIsi .tup (eVar 0)))) (tNotF (tE (eChain oLeI oLeI (eC (.int 1)) (eCB oLen (aCons (eVar 0) aNil)) (eC (.int 5)))))) (sRet (eC (.bl false))) sNil)
    (sRet (eCB oAll (aCons (eFz (fComp (iVal (eVar 0)) (gNm 1) (fun _ st => .ok true st) (eAnd (eIsi .int (eVar 1)) (eAnd (eNot (eIsi .bl (eVar 1))) (eBin oGtI (eVar 1) (eC (.int 0))))) [1])) aNil))))
def f_agrees : Fn := runF 3
    (sSeq (sDrop (eCall 2 f_check_told (aCons (eVar 0) (aCons (eVar 1) aNil))))
    (sSeq (sIf (tOrF (tNotF (tE (eCall 1 f_are_weights (aCons (eVar 2) aNil)))) (tE (eBin oNe (eCB oLen (aCons (eVar 2) aNil)) (eVar 0)))) (sRaise "InvalidWeights") sNil)
    (sRet (eCall 2 f_do_agree (aCons (eVar 1) (aCons (eVar 2) aNil))))))
def f__law_moved : Fn := runF 3
    (sRet (eCB oTuple (aCons (eFz (fSorted (eFz (fComp (iVal (eVar 1)) (gNm 2) (fun _ st => .ok true st) (eBin oIxT (eVar 0) (eVar 2)) [2])))) aNil)))
def f_does_balance : Fn := runF 9
    (sSeq (sIf (tOrF (tNotF (tE (eIsi .tup (eVar 2)))) (tE (eBin oNe (eCB oLen (aCons (eVar 2) aNil)) (eCB oLen (aCons (eVar 1) aNil))))) (sRet (eC (.bl false))) sNil)
    (sSeq (sIf (tNotF (tE (eCB oAll (aCons (eFz (fComp (iVal (eVar 2)) (gNm 5) (fun _ st => .ok true st) (eAnd (eIsi .int (eVar 5)) (eNot (eIsi .bl (eVar 5)))) [5])) aNil)))) (sRet (eC (.bl false))) sNil)
    (sSeq (sIf (tNotF (tE (eCB oAll (aCons (eFz (fComp (iZipF (aCons (eVar 2) (aCons (eVar 1) aNil))) (gTp 2 (gsCons (gNm 5) (gsCons (gNm 6) gsNil))) (fun _ st => .ok true st) (eOr (eBin oGeI (eVar 5) (eC (.int 0))) (eBin oEq (eBin oIx (eVar 6) (eC (.int 1))) (eC (.str "=")))) [5, 6])) aNil)))) (sRet (eC (.bl false))) sNil)
    (sSeq (sSet 3 (eFz (fComp (iVal (eVar 1)) (gNm 6) (fun _ st => .ok true st) (eCall 2 f_row_of (aCons (eVar 0) (aCons (eVar 6) aNil))) [6])))
    (sSeq (sSet 4 (eFz (fComp (iRange1 (aCons (eVar 0) aNil)) (gNm 7) (fun _ st => .ok true st) (eCB oSum (aCons (eFz (fComp (iZipF (aCons (eVar 2) (aCons (eVar 3) aNil))) (gTp 2 (gsCons (gNm 5) (gsCons (gNm 8) gsNil))) (fun _ st => .ok true st) (eBin oMul (eVar 5) (eBin oIx (eVar 8) (eVar 7))) [5, 8])) aNil)) [7])))
    (sSeq (sIf (tE (eBin oGtI (eCB oMax (aCons (eVar 4) aNil)) (eC (.int 0)))) (sRet (eC (.bl false))) sNil)
    (sRet (eOr (eBin oLt (eCB oMin (aCons (eVar 4) aNil)) (eC (.int 0))) (eCB oAny (aCons (eFz (fComp (iZipF (aCons (eVar 2) (aCons (eVar 1) aNil))) (gTp 2 (gsCons (gNm 5) (gsCons (gNm 6) gsNil))) (fun _ st => .ok true st) (eAnd (eBin oGtI (eVar 5) (eC (.int 0))) (eBin oEq (eBin oIx (eVar 6) (eC (.int 1))) (eC (.str ">")))) [5, 6])) aNil))))))))))
def f_is_balance : Fn := runF 3
    (sSeq (sDrop (eCall 2 f_check_told (aCons (eVar 0) (aCons (eVar 1) aNil))))
    (sRet (eCall 3 f_does_balance (aCons (eVar 0) (aCons (eVar 1) (aCons (eVar 2) aNil))))))
def f_some_numbers : Fn := runF 6
    (sSeq (sSet 2 (eFz (fDisp (aCons (eTup aNil) aNil))))
    (sSeq (sFor (iRange1 (aCons (eVar 1) aNil)) (gNm 3) (sSet 2 (eFz (fComp2 (iVal (eVar 2)) (gNm 4) (fun _ st => .ok true st) (iRange1 (aCons (eVar 0) aNil)) (gNm 5) (tOrF (tE (eBin oEq (eVar 4) (eTup aNil))) (tE (eBin oLt (eBin oIx (eVar 4) (eUn oNeg (eC (.int 1)))) (eVar 5)))) (eBin oAdd (eVar 4) (eTup (aCons (eVar 5) aNil))) [4, 5] [5]))))
    (sRet (eVar 2))))
def f_clash : Fn := runF 5
    (sSeq (sDrop (eCall 2 f_check_told (aCons (eVar 0) (aCons (eVar 1) aNil))))
    (sSeq (sIf (tE (eBin oNotN (eBin oIx (eCall 2 f_solved (aCons (eVar 0) (aCons (eVar 1) aNil))) (eC (.int 1))) (eC .non))) (sRet (eC .non)) sNil)
    (sSeq (sFor (iRange2 (aCons (eC (.int 1)) (aCons (eBin oAdd (eCB oLen (aCons (eVar 1) aNil)) (eC (.int 1))) aNil))) (gNm 2) (sFor (iVal (eCall 2 f_some_numbers (aCons (eCB oLen (aCons (eVar 1) aNil)) (aCons (eVar 2) aNil)))) (gNm 3) (sIf (tE (eBin oIsN (eBin oIx (eCall 2 f_solved (aCons (eVar 0) (aCons (eCB oTuple (aCons (eFz (fComp (iVal (eVar 3)) (gNm 4) (fun _ st => .ok true st) (eBin oIx (eVar 1) (eVar 4)) [4])) aNil)) aNil))) (eC (.int 1))) (eC .non))) (sRet (eVar 3)) sNil)))
    (sRet (eC .non)))))
def f_law : Fn := runF 19
    (sSeq (sSet 1 (eCall 1 f__law_town (aCons (eVar 0) aNil)))
    (sSeq (sSet 2 (eBin oAdd (eC (.int 1)) (eCall 3 f__law_draw (aCons (eVar 0) (aCons (eVar 1) (aCons (eC (.int 4)) aNil))))))
    (sSeq (sAsg (eTup (aCons (eCall 4 f__law_told (aCons (eVar 0) (aCons (eVar 1) (aCons (eVar 2) (aCons (eC (.int 4)) aNil))))) (aCons (eCall 3 f__law_order (aCons (eVar 0) (aCons (eVar 1) (aCons (eVar 2) aNil)))) aNil))) (gTp 2 (gsCons (gNm 3) (gsCons (gNm 4) gsNil))))
    (sSeq (sSet 5 (eCB oTuple (aCons (eFz (fComp (iVal (eVar 3)) (gTp 3 (gsCons (gNm 15) (gsCons (gNm 16) (gsCons (gNm 17) gsNil)))) (fun _ st => .ok true st) (eTup (aCons (eCall 2 f__law_moved (aCons (eVar 4) (aCons (eVar 15) aNil))) (aCons (eVar 16) (aCons (eCall 2 f__law_moved (aCons (eVar 4) (aCons (eVar 17) aNil))) aNil)))) [15, 16, 17])) aNil)))
    (sSeq (sAsg (eTup (aCons (eCall 2 f_some_weights (aCons (eVar 2) (aCons (eVar 3) aNil))) (aCons (eCall 2 f_balance (aCons (eVar 2) (aCons (eVar 3) aNil))) aNil))) (gTp 2 (gsCons (gNm 6) (gsCons (gNm 7) gsNil))))
    (sSeq (sPar 8 9 (aCons (eCall 2 f_least_weights (aCons (eVar 2) (aCons (eVar 3) aNil))) (aCons (eCall 2 f_least_weights (aCons (eVar 2) (aCons (eVar 5) aNil))) aNil)))
    (sSeq (sIf (tOrF (tE (eBin oNe (eBin oIsN (eVar 8) (eC .non)) (eBin oIsN (eVar 9) (eC .non)))) (tE (eBin oNe (eBin oIsN (eCall 2 f_some_weights (aCons (eVar 2) (aCons (eVar 5) aNil))) (eC .non)) (eBin oIsN (eVar 6) (eC .non))))) (sRet (eC (.bl false))) sNil)
    (sSeq (sIf (tE (eBin oNotN (eVar 7) (eC .non))) (sSeq (sIf (tOrF (tE (eBin oNotN (eCall 3 f_is_balance (aCons (eVar 2) (aCons (eVar 5) (aCons (eVar 7) aNil)))) (eC (.bl true)))) (tE (eBin oNotN (eCall 3 f_is_balance (aCons (eVar 2) (aCons (eBack (eVar 3)) (aCons (eBack (eVar 7)) aNil)))) (eC (.bl true))))) (sRet (eC (.bl false))) sNil)
    (sRet (eAnd (eBin oIsN (eCall 2 f_some_weights (aCons (eVar 2) (aCons (eBin oAdd (eVar 3) (eVar 3)) aNil))) (eC .non)) (eBin oEq (eCall 2 f_clash (aCons (eVar 2) (aCons (eBin oAdd (eVar 3) (eVar 3)) aNil))) (eCall 2 f_clash (aCons (eVar 2) (aCons (eVar 3) aNil))))))) sNil)
    (sSeq (sIf (tOrF (tE (eBin oNe (eCB oSumA (aCons (eVar 8) aNil)) (eCB oSumA (aCons (eVar 9) aNil)))) (tE (eBin oNotN (eCall 3 f_agrees (aCons (eVar 2) (aCons (eBack (eVar 3)) (aCons (eVar 8) aNil)))) (eC (.bl true))))) (sRet (eC (.bl false))) sNil)
    (sSeq (sSet 10 (eCB oTuple (aCons (eFz (fComp (iRange1 (aCons (eVar 2) aNil)) (gNm 18) (fun _ st => .ok true st) (eBin oIx (eVar 6) (eIdxT (eVar 4) (eVar 18))) [18])) aNil)))
    (sSeq (sIf (tOrF (tE (eBin oNotN (eCall 3 f_agrees (aCons (eVar 2) (aCons (eVar 5) (aCons (eVar 10) aNil)))) (eC (.bl true)))) (tE (eBin oNe (eCall 2 f_least_weights (aCons (eVar 2) (aCons (eBin oAdd (eVar 3) (eVar 3)) aNil))) (eVar 8)))) (sRet (eC (.bl false))) sNil)
    (sSeq (sIf (tAndF (tE (eBin oLt (eVar 2) (eC (.int 4)))) (tE (eBin oNe (eCall 2 f_least_weights (aCons (eBin oAdd (eVar 2) (eC (.int 1))) (aCons (eVar 3) aNil))) (eBin oAdd (eVar 8) (eTup (aCons (eC (.int 1)) aNil)))))) (sRet (eC (.bl false))) sNil)
    (sSeq (sSet 11 (eCB oTuple (aCons (eFz (fComp (iVal (eVar 3)) (gTp 3 (gsCons (gNm 15) (gsCons (gNm 16) (gsCons (gNm 17) gsNil)))) (fun _ st => .ok true st) (eTup (aCons (eVar 17) (aCons (eVar 16) (aCons (eVar 15) aNil)))) [15, 16, 17])) aNil)))
    (sSeq (sSet 12 (eFz (fComp (iRange1 (aCons (eCB oLen (aCons (eVar 3) aNil)) aNil)) (gNm 18) (tE (eBin oEq (eBin oIx (eBin oIx (eVar 3) (eVar 18)) (eC (.int 1))) (eC (.str ">")))) (eVar 18) [18])))
    (sSeq (sSet 13 (eCall 2 f_some_weights (aCons (eVar 2) (aCons (eBin oAdd (eVar 3) (eVar 11)) aNil))))
    (sSeq (sIf (tE (eBin oIsN (eVar 13) (eC .non))) (sRet (eC (.bl true))) sNil)
    (sSeq (sSet 14 (eFz (fComp (iVal (eVar 3)) (gTp 3 (gsCons (gNm 15) (gsCons (gNm 16) (gsCons (gNm 17) gsNil)))) (fun _ st => .ok true st) (eBin oEq (eCall 2 f__law_weight (aCons (eVar 13) (aCons (eVar 15) aNil))) (eCall 2 f__law_weight (aCons (eVar 13) (aCons (eVar 17) aNil)))) [15, 16, 17])))
    (sRet (eAnd (eBin oEq (eVar 12) (eFz (fDisp aNil))) (eBin oNin (eC (.bl false)) (eVar 14)))))))))))))))))))))
def d0 : He.DefD := ⟨("_law_town", none), "_law_town", "_law_town", defArgs (top 40), defBody (top 40), defScope (top 40), [], []⟩
def d1 : He.DefD := ⟨("is_between", none), "is_between", "is_between", defArgs (top 7), defBody (top 7), defScope (top 7), [], []⟩
def d2 : He.DefD := ⟨("check_things", none), "check_things", "check_things", defArgs (top 19), defBody (top 19), defScope (top 19), [], []⟩
def d3 : He.DefD := ⟨("is_found_lot", none), "is_found_lot", "is_found_lot", defArgs (top 15), defBody (top 15), defScope (top 15), [], []⟩
def d4 : He.DefD := ⟨("is_comparison", none), "is_comparison", "is_comparison", defArgs (top 16), defBody (top 16), defScope (top 16), [], []⟩
def d5 : He.DefD := ⟨("are_told", none), "are_told", "are_told", defArgs (top 17), defBody (top 17), defScope (top 17), [], []⟩
def d6 : He.DefD := ⟨("check_told", none), "check_told", "check_told", defArgs (top 20), defBody (top 20), defScope (top 20), [], []⟩
def d7 : He.DefD := ⟨("divisor_of", none), "divisor_of", "divisor_of", defArgs (top 8), defBody (top 8), defScope (top 8), [], []⟩
def d8 : He.DefD := ⟨("shortened", none), "shortened", "shortened", defArgs (top 9), defBody (top 9), defScope (top 9), [], []⟩
def d9 : He.DefD := ⟨("cleared", none), "cleared", "cleared", defArgs (top 27), defBody (top 27), defScope (top 27), [], []⟩
def d10 : He.DefD := ⟨("Equations", some "turn"), "turn", "Equations.turn", defArgs (mth 26 1), defBody (mth 26 1), defScope (mth 26 1), [], []⟩
def d11 : He.DefD := ⟨("Equations", some "leaving"), "leaving", "Equations.leaving", defArgs (mth 26 2), defBody (mth 26 2), defScope (mth 26 2), [], []⟩
def d12 : He.DefD := ⟨("fraction", none), "fraction", "fraction", defArgs (top 10), defBody (top 10), defScope (top 10), [], []⟩
def d13 : He.DefD := ⟨("Equations", some "solved"), "solved", "Equations.solved", defArgs (mth 26 3), defBody (mth 26 3), defScope (mth 26 3), [], []⟩
def d14 : He.DefD := ⟨("row_of", none), "row_of", "row_of", defArgs (top 29), defBody (top 29), defScope (top 29), [], []⟩
def d15 : He.DefD := ⟨("common_bottom", none), "common_bottom", "common_bottom", defArgs (top 11), defBody (top 11), defScope (top 11), [], []⟩
def d16 : He.DefD := ⟨("Equations", some "__init__"), "__init__", "Equations.__init__", defArgs (mth 26 0), defBody (mth 26 0), defScope (mth 26 0), [], []⟩
def d17 : He.DefD := ⟨("whole", none), "whole", "whole", defArgs (top 12), defBody (top 12), defScope (top 12), [], []⟩
def d18 : He.DefD := ⟨("solved", none), "solved", "solved", defArgs (top 30), defBody (top 30), defScope (top 30), [], []⟩
def d19 : He.DefD := ⟨("some_weights", none), "some_weights", "some_weights", defArgs (top 31), defBody (top 31), defScope (top 31), [], []⟩
def d20 : He.DefD := ⟨("_law_draw", none), "_law_draw", "_law_draw", defArgs (top 41), defBody (top 41), defScope (top 41), [], []⟩
def d21 : He.DefD := ⟨("_law_pick", none), "_law_pick", "_law_pick", defArgs (top 42), defBody (top 42), defScope (top 42), [], []⟩
def d22 : He.DefD := ⟨("_law_scale", none), "_law_scale", "_law_scale", defArgs (top 46), defBody (top 46), defScope (top 46), [], []⟩
def d23 : He.DefD := ⟨("_law_lots", none), "_law_lots", "_law_lots", defArgs (top 43), defBody (top 43), defScope (top 43), [], []⟩
def d24 : He.DefD := ⟨("_law_weight", none), "_law_weight", "_law_weight", defArgs (top 44), defBody (top 44), defScope (top 44), [], []⟩
def d25 : He.DefD := ⟨("_law_comparison", none), "_law_comparison", "_law_comparison", defArgs (top 45), defBody (top 45), defScope (top 45), [], []⟩
def d26 : He.DefD := ⟨("_law_told", none), "_law_told", "_law_told", defArgs (top 47), defBody (top 47), defScope (top 47), [], []⟩
def d27 : He.DefD := ⟨("_law_order", none), "_law_order", "_law_order", defArgs (top 48), defBody (top 48), defScope (top 48), [], []⟩
def d28 : He.DefD := ⟨("balance", none), "balance", "balance", defArgs (top 32), defBody (top 32), defScope (top 32), [], []⟩
def d29 : He.DefD := ⟨("all_weights", none), "all_weights", "all_weights", defArgs (top 35), defBody (top 35), defScope (top 35), [], []⟩
def d30 : He.DefD := ⟨("found_weight", none), "found_weight", "found_weight", defArgs (top 21), defBody (top 21), defScope (top 21), [], []⟩
def d31 : He.DefD := ⟨("does_hold", none), "does_hold", "does_hold", defArgs (top 22), defBody (top 22), defScope (top 22), [], []⟩
def d32 : He.DefD := ⟨("do_agree", none), "do_agree", "do_agree", defArgs (top 23), defBody (top 23), defScope (top 23), [], []⟩
def d33 : He.DefD := ⟨("least_weights", none), "least_weights", "least_weights", defArgs (top 36), defBody (top 36), defScope (top 36), [], []⟩
def d34 : He.DefD := ⟨("are_weights", none), "are_weights", "are_weights", defArgs (top 18), defBody (top 18), defScope (top 18), [], []⟩
def d35 : He.DefD := ⟨("agrees", none), "agrees", "agrees", defArgs (top 24), defBody (top 24), defScope (top 24), [], []⟩
def d36 : He.DefD := ⟨("_law_moved", none), "_law_moved", "_law_moved", defArgs (top 49), defBody (top 49), defScope (top 49), [], []⟩
def d37 : He.DefD := ⟨("does_balance", none), "does_balance", "does_balance", defArgs (top 34), defBody (top 34), defScope (top 34), [], []⟩
def d38 : He.DefD := ⟨("is_balance", none), "is_balance", "is_balance", defArgs (top 33), defBody (top 33), defScope (top 33), [], []⟩
def d39 : He.DefD := ⟨("some_numbers", none), "some_numbers", "some_numbers", defArgs (top 37), defBody (top 37), defScope (top 37), [], []⟩
def d40 : He.DefD := ⟨("clash", none), "clash", "clash", defArgs (top 38), defBody (top 38), defScope (top 38), [], []⟩
def d41 : He.DefD := ⟨("law", none), "law", "law", defArgs (top 50), defBody (top 50), defScope (top 50), [], []⟩
def fn : List He.DefD := ([d0, d1, d2, d3, d4, d5, d6, d7, d8, d9, d10, d11, d12, d13, d14, d15, d16, d17, d18, d19, d20, d21, d22, d23, d24, d25, d26, d27, d28, d29] : List He.DefD) ++ ([d30, d31, d32, d33, d34, d35, d36, d37, d38, d39, d40, d41] : List He.DefD)
def fa : List He.Fa := ([.glo "_law_town", .glo "is_between", .glo "check_things", .glo "is_found_lot", .glo "is_comparison", .glo "are_told", .glo "check_told", .glo "divisor_of", .glo "shortened", .glo "cleared", .meth "Equations" "turn", .meth "Equations" "leaving", .glo "fraction", .meth "Equations" "solved", .glo "row_of", .glo "common_bottom", .mkr "Equations", .glo "whole", .glo "solved", .glo "some_weights", .glo "_law_draw", .glo "_law_pick", .glo "_law_scale", .glo "_law_lots", .glo "_law_weight", .glo "_law_comparison", .glo "_law_told", .glo "_law_order", .glo "balance", .glo "all_weights"] : List He.Fa) ++ ([.glo "found_weight", .glo "does_hold", .glo "do_agree", .glo "least_weights", .glo "are_weights", .glo "agrees", .glo "_law_moved", .glo "does_balance", .glo "is_balance", .glo "some_numbers", .glo "clash", .glo "law"] : List He.Fa)
def qs : Ask := ⟨(["abs", "all", "any", "bool", "enumerate", "int", "isinstance", "len", "list", "max", "min", "range", "sorted", "str", "sum", "tuple", "zip"] : List Str), ["InvalidThings", "InvalidTold", "InvalidWeights", "TooMany"], [("Equations", ["many", "signs", "rows", "basis"])], true⟩
def loose : List Str := (["ScaleError", "InvalidThings", "InvalidTold", "InvalidWeights", "TooMany", "is_between", "divisor_of", "shortened", "fraction", "common_bottom", "whole", "SIGNS", "is_found_lot", "is_comparison", "are_told", "are_weights", "check_things", "check_told", "found_weight", "does_hold", "do_agree", "agrees", "Equations", "cleared", "row_of", "solved", "some_weights", "balance", "is_balance", "does_balance"] : List Str) ++ (["all_weights", "least_weights", "some_numbers", "clash", "_law_town", "_law_draw", "_law_pick", "_law_lots", "_law_weight", "_law_comparison", "_law_scale", "_law_told", "_law_order", "_law_moved"] : List Str)
end Gk13
end
section
set_option Elab.async false
set_option linter.all false
set_option maxRecDepth 100000
set_option maxHeartbeats 0
namespace Gk13
open PySem PySem.Spec PyProof.Rows L2 Lq
section
variable {P : Program} {w : World} {K : PySem.W.Frag} {mg : Str → Option Value} {base : Heap}
theorem fr_abs (G : Fx fa fn qs K mg) : mg "abs" = none := G.fr "abs" (by decide)
theorem fr_all (G : Fx fa fn qs K mg) : mg "all" = none := G.fr "all" (by decide)
theorem fr_any (G : Fx fa fn qs K mg) : mg "any" = none := G.fr "any" (by decide)
theorem fr_bool (G : Fx fa fn qs K mg) : mg "bool" = none := G.fr "bool" (by decide)
theorem fr_enumerate (G : Fx fa fn qs K mg) : mg "enumerate" = none := G.fr "enumerate" (by decide)
theorem fr_int (G : Fx fa fn qs K mg) : mg "int" = none := G.fr "int" (by decide)
theorem fr_isinstance (G : Fx fa fn qs K mg) : mg "isinstance" = none := G.fr "isinstance" (by decide)
theorem fr_len (G : Fx fa fn qs K mg) : mg "len" = none := G.fr "len" (by decide)
theorem fr_list (G : Fx fa fn qs K mg) : mg "list" = none := G.fr "list" (by decide)
theorem fr_max (G : Fx fa fn qs K mg) : mg "max" = none := G.fr "max" (by decide)
theorem fr_min (G : Fx fa fn qs K mg) : mg "min" = none := G.fr "min" (by decide)
theorem fr_range (G : Fx fa fn qs K mg) : mg "range" = none := G.fr "range" (by decide)
theorem fr_sorted (G : Fx fa fn qs K mg) : mg "sorted" = none := G.fr "sorted" (by decide)
theorem fr_str (G : Fx fa fn qs K mg) : mg "str" = none := G.fr "str" (by decide)
theorem fr_sum (G : Fx fa fn qs K mg) : mg "sum" = none := G.fr "sum" (by decide)
theorem fr_tuple (G : Fx fa fn qs K mg) : mg "tuple" = none := G.fr "tuple" (by decide)
theorem fr_zip (G : Fx fa fn qs K mg) : mg "zip" = none := G.fr "zip" (by decide)
theorem c_Equations (G : Fx fa fn qs K mg) : ClsF K mg "Equations" ["many", "signs", "rows", "basis"] := G.clsF 0 rfl
theorem sc__law_town : FnScope ["script"] ["script"] (defScope (top 40)) := ⟨rfl, rfl, rfl, by decide +kernel, rfl, by decide +kernel, by decide +kernel⟩
theorem ok__law_town (G : Fx fa fn qs K mg) : Cl P w K mg base 1 "_law_town" 1 f__law_town := by
  obtain ⟨fd, F⟩ := G.def_ 0 (d := d0) rfl rfl rfl
  refine cl_of F (G.glo 0 rfl) (F.bindsN fun _ _ _ _ _ _ us hl => match us, hl with | [_], _ => rfl) (fn_body (N := ["script"]) (ps := ["script"]) F sc__law_town fun cdv A outer s H E hr => ?_)
  have nd := sc__law_town.nd
  exact (jss_one (js_ret (je_ow (jf_add (je_fz (jf_lst (ja_cons je_int ja_nil))) (je_fz (jf_list (je_var 0) (fr_list G)))))))
theorem sc_is_between : FnScope ["value", "low", "high"] ["value", "low", "high"] (defScope (top 7)) := ⟨rfl, rfl, rfl, by decide +kernel, rfl, by decide +kernel, by decide +kernel⟩
theorem ok_is_between (G : Fx fa fn qs K mg) : Cl P w K mg base 1 "is_between" 3 f_is_between := by
  obtain ⟨fd, F⟩ := G.def_ 1 (d := d1) rfl rfl rfl
  refine cl_of F (G.glo 1 rfl) (F.bindsN fun _ _ _ _ _ _ us hl => match us, hl with | [_, _, _], _ => rfl) (fn_body (N := ["value", "low", "high"]) (ps := ["value", "low", "high"]) F sc_is_between fun cdv A outer s H E hr => ?_)
  have nd := sc_is_between.nd
  exact (jss_one (js_ret (je_and (je_isi .int (je_var 0) (fr_isinstance G) (fr_int G) (by decide +kernel)) (je_and (je_not (je_isi .bl (je_var 0) (fr_isinstance G) (fr_bool G) (by decide +kernel))) (je_one (je_chain jo_leI jo_leI (je_var 1) (je_var 0) (je_var 2)))))))
theorem sc_check_things : FnScope ["value"] ["value"] (defScope (top 19)) := ⟨rfl, rfl, rfl, by decide +kernel, rfl, by decide +kernel, by decide +kernel⟩
theorem ok_check_things (G : Fx fa fn qs K mg) : Cl P w K mg base 2 "check_things" 1 f_check_things := by
  obtain ⟨fd, F⟩ := G.def_ 2 (d := d2) rfl rfl rfl
  refine cl_of F (G.glo 2 rfl) (F.bindsN fun _ _ _ _ _ _ us hl => match us, hl with | [_], _ => rfl) (fn_body (N := ["value"]) (ps := ["value"]) F sc_check_things fun cdv A outer s H E hr => ?_)
  have nd := sc_check_things.nd
  exact (jss_one (js_if (jt_not (jt_val (je_call (ok_is_between G) hr ctx_px (ja_cons (je_var 0) (ja_cons je_int (ja_cons je_int ja_nil)))))) (jss_one (js_raise rfl ctx_tk (G.exc "InvalidThings" (by decide)))) jss_nil))
theorem sc_is_found_lot : FnScope ["things", "value", "one", "k"] ["things", "value"] (defScope (top 15)) := ⟨rfl, rfl, rfl, by decide +kernel, rfl, by decide +kernel, by decide +kernel⟩
theorem ok_is_found_lot (G : Fx fa fn qs K mg) : Cl P w K mg base 2 "is_found_lot" 2 f_is_found_lot := by
  obtain ⟨fd, F⟩ := G.def_ 3 (d := d3) rfl rfl rfl
  refine cl_of F (G.glo 3 rfl) (F.bindsN fun _ _ _ _ _ _ us hl => match us, hl with | [_, _], _ => rfl) (fn_body (N := ["things", "value", "one", "k"]) (ps := ["things", "value"]) F sc_is_found_lot fun cdv A outer s H E hr => ?_)
  have nd := sc_is_found_lot.nd
  exact (jss_cons (js_if (JW.jt (jw_or (jt_not (jt_val (je_isi .tup (je_var 1) (fr_isinstance G) (fr_tuple G) (by decide +kernel)))) (jw_or1 (jt_not (jt_val (je_callB (jc_all rfl) (ja_cons (je_fz (jf_lc (own := [("one", 2)]) rfl nd (blkOk_by (by kernel_rfl)) (ji_seq (je_var 1)) (fun _ _ _ _ _ => (jg_name (i := 2) nd)) (fun _ _ _ _ _ => jts_nil) (fun _ _ _ _ _ => (je_call (ok_is_between G) hr passL (ja_cons (je_var 2) (ja_cons je_int (ja_cons (je_bin jo_sub (je_var 0) je_int) ja_nil))))))) ja_nil) (fr_all G) (by decide +kernel))))))) (jss_one (js_ret je_bl)) jss_nil)
    (jss_one (js_ret (je_callB (jc_all rfl) (ja_cons (je_fz (jf_lc (own := [("k", 3)]) rfl nd (blkOk_by (by kernel_rfl)) (ji_range1 (ja_cons (je_bin jo_sub (je_callB jc_len (ja_cons (je_var 1) ja_nil) (fr_len G) PySem.boot_len) je_int) ja_nil) (fr_range G)) (fun _ _ _ _ _ => (jg_name (i := 3) nd)) (fun _ _ _ _ _ => jts_nil) (fun _ _ _ _ _ => (je_cmp (jo_lt hr.units0) (je_ix jx_ix (je_var 1) (je_var 3)) (je_ix jx_ix (je_var 1) (je_bin jo_add (je_var 3) je_int)))))) ja_nil) (fr_all G) (by decide +kernel)))))
theorem sc_is_comparison : FnScope ["things", "value"] ["things", "value"] (defScope (top 16)) := ⟨rfl, rfl, rfl, by decide +kernel, rfl, by decide +kernel, by decide +kernel⟩
theorem ok_is_comparison (G : Fx fa fn qs K mg) : Cl P w K mg base 3 "is_comparison" 2 f_is_comparison := by
  obtain ⟨fd, F⟩ := G.def_ 4 (d := d4) rfl rfl rfl
  refine cl_of F (G.glo 4 rfl) (F.bindsN fun _ _ _ _ _ _ us hl => match us, hl with | [_, _], _ => rfl) (fn_body (N := ["things", "value"]) (ps := ["things", "value"]) F sc_is_comparison fun cdv A outer s H E hr => ?_)
  have nd := sc_is_comparison.nd
  exact (jss_cons (js_if (JW.jt (jw_or (jt_not (jt_val (je_isi .tup (je_var 1) (fr_isinstance G) (fr_tuple G) (by decide +kernel)))) (jw_or (jt_cmp (jo_ne hr.units) (je_callB jc_len (ja_cons (je_var 1) ja_nil) (fr_len G) PySem.boot_len) je_int) (jw_or (jt_not (jt_val (je_isi .str (je_ix jx_ix (je_var 1) je_int) (fr_isinstance G) (fr_str G) (by decide +kernel)))) (jw_or1 (jt_cmp (jo_nin (u65 hr)) (je_ix jx_ix (je_var 1) je_int) (G.signs rfl))))))) (jss_one (js_ret je_bl)) jss_nil)
    (jss_one (js_ret (je_and (je_call (ok_is_found_lot G) hr ctx_px (ja_cons (je_var 0) (ja_cons (je_ix jx_ix (je_var 1) je_int) ja_nil))) (je_one (je_call (ok_is_found_lot G) hr ctx_px (ja_cons (je_var 0) (ja_cons (je_ix jx_ix (je_var 1) je_int) ja_nil))))))))
theorem sc_are_told : FnScope ["things", "value", "one"] ["things", "value"] (defScope (top 17)) := ⟨rfl, rfl, rfl, by decide +kernel, rfl, by decide +kernel, by decide +kernel⟩
theorem ok_are_told (G : Fx fa fn qs K mg) : Cl P w K mg base 4 "are_told" 2 f_are_told := by
  obtain ⟨fd, F⟩ := G.def_ 5 (d := d5) rfl rfl rfl
  refine cl_of F (G.glo 5 rfl) (F.bindsN fun _ _ _ _ _ _ us hl => match us, hl with | [_, _], _ => rfl) (fn_body (N := ["things", "value", "one"]) (ps := ["things", "value"]) F sc_are_told fun cdv A outer s H E hr => ?_)
  have nd := sc_are_told.nd
  exact (jss_one (js_ret (je_and (je_isi .tup (je_var 1) (fr_isinstance G) (fr_tuple G) (by decide +kernel)) (je_and (je_cmp jo_leI (je_callB jc_len (ja_cons (je_var 1) ja_nil) (fr_len G) PySem.boot_len) je_int) (je_one (je_callB (jc_all rfl) (ja_cons (je_fz (jf_lc (own := [("one", 2)]) rfl nd (blkOk_by (by kernel_rfl)) (ji_seq (je_var 1)) (fun _ _ _ _ _ => (jg_name (i := 2) nd)) (fun _ _ _ _ _ => jts_nil) (fun _ _ _ _ _ => (je_call (ok_is_comparison G) hr passL (ja_cons (je_var 0) (ja_cons (je_var 2) ja_nil)))))) ja_nil) (fr_all G) (by decide +kernel)))))))
theorem sc_check_told : FnScope ["things", "told"] ["things", "told"] (defScope (top 20)) := ⟨rfl, rfl, rfl, by decide +kernel, rfl, by decide +kernel, by decide +kernel⟩
theorem ok_check_told (G : Fx fa fn qs K mg) : Cl P w K mg base 5 "check_told" 2 f_check_told := by
  obtain ⟨fd, F⟩ := G.def_ 6 (d := d6) rfl rfl rfl
  refine cl_of F (G.glo 6 rfl) (F.bindsN fun _ _ _ _ _ _ us hl => match us, hl with | [_, _], _ => rfl) (fn_body (N := ["things", "told"]) (ps := ["things", "told"]) F sc_check_told fun cdv A outer s H E hr => ?_)
  have nd := sc_check_told.nd
  exact (jss_cons (js_expr (je_call (ok_check_things G) hr ctx_px (ja_cons (je_var 0) ja_nil)))
    (jss_one (js_if (jt_not (jt_val (je_call (ok_are_told G) hr ctx_px (ja_cons (je_var 0) (ja_cons (je_var 1) ja_nil))))) (jss_one (js_raise rfl ctx_tk (G.exc "InvalidTold" (by decide)))) jss_nil)))
theorem sc_divisor_of : FnScope ["one", "other"] ["one", "other"] (defScope (top 8)) := ⟨rfl, rfl, rfl, by decide +kernel, rfl, by decide +kernel, by decide +kernel⟩
theorem ok_divisor_of (G : Fx fa fn qs K mg) : Cl P w K mg base 1 "divisor_of" 2 f_divisor_of := by
  obtain ⟨fd, F⟩ := G.def_ 7 (d := d7) rfl rfl rfl
  refine cl_of F (G.glo 7 rfl) (F.bindsN fun _ _ _ _ _ _ us hl => match us, hl with | [_, _], _ => rfl) (fn_body (N := ["one", "other"]) (ps := ["one", "other"]) F sc_divisor_of fun cdv A outer s H E hr => ?_)
  have nd := sc_divisor_of.nd
  exact (jss_cons (js_par (i := 0) (j := 1) rfl nd (ja_cons (je_callB jc_abs (ja_cons (je_var 0) ja_nil) (fr_abs G) (by decide +kernel)) (ja_cons (je_callB jc_abs (ja_cons (je_var 1) ja_nil) (fr_abs G) (by decide +kernel)) ja_nil)))
    (jss_cons (js_while 10715086071862673209484250490600018105614048117055336074437503883703510511249361224931983788156958581275946729175531468251871452856923140435984577574698574803934567774824230985421074605062371141877954182153046474983581941267398767559165543946077062914571196477686542167660429831652624386837205668069376 ctx_po (jt_cmp (jo_ne hr.units) (je_var 1) je_int) (jss_one (js_par (i := 0) (j := 1) rfl nd (ja_cons (je_var 1) (ja_cons (je_bin jo_mod (je_var 0) (je_var 1)) ja_nil)))))
    (jss_one (js_ret (je_var 0)))))
theorem sc_shortened : FnScope ["numbers", "by", "one"] ["numbers"] (defScope (top 9)) := ⟨rfl, rfl, rfl, by decide +kernel, rfl, by decide +kernel, by decide +kernel⟩
theorem ok_shortened (G : Fx fa fn qs K mg) : Cl P w K mg base 2 "shortened" 1 f_shortened := by
  obtain ⟨fd, F⟩ := G.def_ 8 (d := d8) rfl rfl rfl
  refine cl_of F (G.glo 8 rfl) (F.bindsN fun _ _ _ _ _ _ us hl => match us, hl with | [_], _ => rfl) (fn_body (N := ["numbers", "by", "one"]) (ps := ["numbers"]) F sc_shortened fun cdv A outer s H E hr => ?_)
  have nd := sc_shortened.nd
  exact (jss_cons (js_set 1 nd je_int)
    (jss_cons (js_for (vs := [2]) ctx_po rfl (ji_seq (je_var 0)) (jg_name (i := 2) nd) (jss_cons (js_set 1 nd (je_call (ok_divisor_of G) hr ctx_px (ja_cons (je_var 1) (ja_cons (je_var 2) ja_nil))))
    (jss_one (js_if (jt_cmp (jo_eq hr.units) (je_var 1) je_int) (jss_one (js_ret (je_fz (jf_list (je_var 0) (fr_list G))))) jss_nil))))
    (jss_one (js_ret (je_ifExp (jt_cmp jo_gtI (je_var 1) je_int) (je_fz (jf_lc (own := [("one", 2)]) rfl nd (blkOk_by (by kernel_rfl)) (ji_seq (je_var 0)) (fun _ _ _ _ _ => (jg_name (i := 2) nd)) (fun _ _ _ _ _ => jts_nil) (fun _ _ _ _ _ => (je_bin jo_div (je_var 2) (je_var 1))))) (je_fz (jf_list (je_var 0) (fr_list G))))))))
theorem sc_cleared : FnScope ["row", "other", "place", "factor", "pivot", "one", "two"] ["row", "other", "place"] (defScope (top 27)) := ⟨rfl, rfl, rfl, by decide +kernel, rfl, by decide +kernel, by decide +kernel⟩
theorem ok_cleared (G : Fx fa fn qs K mg) : Cl P w K mg base 3 "cleared" 3 f_cleared := by
  obtain ⟨fd, F⟩ := G.def_ 9 (d := d9) rfl rfl rfl
  refine cl_of F (G.glo 9 rfl) (F.bindsN fun _ _ _ _ _ _ us hl => match us, hl with | [_, _, _], _ => rfl) (fn_body (N := ["row", "other", "place", "factor", "pivot", "one", "two"]) (ps := ["row", "other", "place"]) F sc_cleared fun cdv A outer s H E hr => ?_)
  have nd := sc_cleared.nd
  exact (jss_cons (js_asg (vs := [3, 4]) (je_tup (ja_cons (je_ix jx_ix (je_var 0) (je_var 2)) (ja_cons (je_ix jx_ix (je_var 1) (je_var 2)) ja_nil))) (jg_tup rfl (jgs_cons (jg_name (i := 3) nd) (jgs_cons (jg_name (i := 4) nd) jgs_nil))))
    (jss_cons (js_if (jt_cmp (jo_eq hr.units) (je_var 3) je_int) (jss_one (js_ret (je_var 0))) jss_nil)
    (jss_one (js_ret (je_call (ok_shortened G) hr ctx_px (ja_cons (je_fz (jf_lc (own := [("one", 5), ("two", 6)]) rfl nd (blkOk_by (by kernel_rfl)) (ji_zip (ja_cons (je_var 0) (ja_cons (je_var 1) ja_nil)) (fr_zip G)) (fun _ _ _ _ _ => (jg_tup rfl (jgs_cons (jg_name (i := 5) nd) (jgs_cons (jg_name (i := 6) nd) jgs_nil)))) (fun _ _ _ _ _ => jts_nil) (fun _ _ _ _ _ => (je_bin jo_sub (je_bin jo_mul (je_var 5) (je_var 4)) (je_bin jo_mul (je_var 3) (je_var 6)))))) ja_nil))))))
theorem sc_Equations_turn : FnScope ["self", "costs", "at", "place", "row", "number"] ["self", "costs", "at", "place"] (defScope (mth 26 1)) := ⟨rfl, rfl, rfl, by decide +kernel, rfl, by decide +kernel, by decide +kernel⟩
theorem ok_Equations_turn (G : Fx fa fn qs K mg) : Me P w K mg base 4 "Equations" "turn" 4 f_Equations_turn := by
  obtain ⟨fd, F⟩ := G.def_ 10 (d := d10) rfl rfl rfl
  refine G.me 0 rfl 10 rfl (F.bindsN fun _ _ _ _ _ _ us hl => match us, hl with | [_, _, _, _], _ => rfl) (fn_body (N := ["self", "costs", "at", "place", "row", "number"]) (ps := ["self", "costs", "at", "place"]) F sc_Equations_turn fun cdv A outer s H E hr => ?_)
  have nd := sc_Equations_turn.nd
  exact (jss_cons (js_set 4 nd (je_ix jx_ix (je_fld (c_Equations G) (je_var 0)) (je_var 2)))
    (jss_cons (js_for (vs := [5]) ctx_po rfl (ji_range1 (ja_cons (je_callB jc_len (ja_cons (je_fld (c_Equations G) (je_var 0)) ja_nil) (fr_len G) PySem.boot_len) ja_nil) (fr_range G)) (jg_name (i := 5) nd) (jss_one (js_if (jt_cmp (jo_ne hr.units) (je_var 5) (je_var 2)) (jss_one (js_asg (vs := []) (je_call (ok_cleared G) hr ctx_px (ja_cons (je_ix jx_ix (je_fld (c_Equations G) (je_var 0)) (je_var 5)) (ja_cons (je_var 4) (ja_cons (je_var 3) ja_nil)))) (jg_sub (je_fld (c_Equations G) (je_var 0)) (je_var 5)))) jss_nil)))
    (jss_cons (js_asg (vs := []) (je_var 3) (jg_sub (je_fld (c_Equations G) (je_var 0)) (je_var 2)))
    (jss_one (js_ret (je_call (ok_cleared G) hr ctx_px (ja_cons (je_var 1) (ja_cons (je_var 4) (ja_cons (je_var 3) ja_nil)))))))))
theorem sc_Equations_leaving : FnScope ["self", "place", "best", "number", "row", "one", "two"] ["self", "place"] (defScope (mth 26 2)) := ⟨rfl, rfl, rfl, by decide +kernel, rfl, by decide +kernel, by decide +kernel⟩
theorem ok_Equations_leaving (G : Fx fa fn qs K mg) : Me P w K mg base 1 "Equations" "leaving" 2 f_Equations_leaving := by
  obtain ⟨fd, F⟩ := G.def_ 11 (d := d11) rfl rfl rfl
  refine G.me 0 rfl 11 rfl (F.bindsN fun _ _ _ _ _ _ us hl => match us, hl with | [_, _], _ => rfl) (fn_body (N := ["self", "place", "best", "number", "row", "one", "two"]) (ps := ["self", "place"]) F sc_Equations_leaving fun cdv A outer s H E hr => ?_)
  have nd := sc_Equations_leaving.nd
  exact (jss_cons (js_set 2 nd je_non)
    (jss_cons (js_forC (vs := [3, 4]) ctx_po rfl (ji_enumC (je_fld (c_Equations G) (je_var 0)) (fr_enumerate G)) (jg_tup rfl (jgs_cons (jg_name (i := 3) nd) (jgs_cons (jg_name (i := 4) nd) jgs_nil))) (jss_one (js_if (jt_cmp jo_gtI (je_ix jx_ix (je_var 4) (je_var 1)) je_int) (jss_one (js_if (jt_cmp jo_is (je_var 2) je_non) (jss_one (js_set 2 nd (je_var 3))) (jss_cons (js_par (i := 5) (j := 6) rfl nd (ja_cons (je_bin jo_mul (je_ix jx_ix (je_var 4) (je_neg je_int)) (je_ix jx_ix (je_ix jx_ix (je_fld (c_Equations G) (je_var 0)) (je_var 2)) (je_var 1))) (ja_cons (je_bin jo_mul (je_ix jx_ix (je_ix jx_ix (je_fld (c_Equations G) (je_var 0)) (je_var 2)) (je_neg je_int)) (je_ix jx_ix (je_var 4) (je_var 1))) ja_nil)))
    (jss_one (js_if (JW.jt (jw_or (jt_cmp (jo_lt hr.units0) (je_var 5) (je_var 6)) (jw_or1 (JW.jt (jw_and (jt_cmp (jo_eq hr.units) (je_var 5) (je_var 6)) (jw_and1 (jt_cmp (jo_lt hr.units0) (je_ix jx_ix (je_fld (c_Equations G) (je_var 0)) (je_var 3)) (je_ix jx_ix (je_fld (c_Equations G) (je_var 0)) (je_var 2))))))))) (jss_one (js_set 2 nd (je_var 3))) jss_nil))))) jss_nil)))
    (jss_one (js_ret (je_var 2)))))
theorem sc_fraction : FnScope ["top", "bottom", "by"] ["top", "bottom"] (defScope (top 10)) := ⟨rfl, rfl, rfl, by decide +kernel, rfl, by decide +kernel, by decide +kernel⟩
theorem ok_fraction (G : Fx fa fn qs K mg) : Cl P w K mg base 2 "fraction" 2 f_fraction := by
  obtain ⟨fd, F⟩ := G.def_ 12 (d := d12) rfl rfl rfl
  refine cl_of F (G.glo 12 rfl) (F.bindsN fun _ _ _ _ _ _ us hl => match us, hl with | [_, _], _ => rfl) (fn_body (N := ["top", "bottom", "by"]) (ps := ["top", "bottom"]) F sc_fraction fun cdv A outer s H E hr => ?_)
  have nd := sc_fraction.nd
  exact (jss_cons (js_set 2 nd (je_call (ok_divisor_of G) hr ctx_px (ja_cons (je_var 0) (ja_cons (je_var 1) ja_nil))))
    (jss_cons (js_set 2 nd (je_ifExp (jt_cmp jo_gtI (je_var 1) je_int) (je_var 2) (je_neg (je_var 2))))
    (jss_one (js_ret (je_tup (ja_cons (je_bin jo_div (je_var 0) (je_var 2)) (ja_cons (je_bin jo_div (je_var 1) (je_var 2)) ja_nil)))))))
theorem sc_Equations_solved : FnScope ["self", "costs", "row", "number", "some", "found", "unknowns", "place", "one", "two"] ["self"] (defScope (mth 26 3)) := ⟨rfl, rfl, rfl, by decide +kernel, rfl, by decide +kernel, by decide +kernel⟩
theorem ok_Equations_solved (G : Fx fa fn qs K mg) : Me P w K mg base 5 "Equations" "solved" 1 f_Equations_solved := by
  obtain ⟨fd, F⟩ := G.def_ 13 (d := d13) rfl rfl rfl
  refine G.me 0 rfl 13 rfl (F.bindsN fun _ _ _ _ _ _ us hl => match us, hl with | [_], _ => rfl) (fn_body (N := ["self", "costs", "row", "number", "some", "found", "unknowns", "place", "one", "two"]) (ps := ["self"]) F sc_Equations_solved fun cdv A outer s H E hr => ?_)
  have nd := sc_Equations_solved.nd
  exact (jss_cons (js_set 1 nd (je_ow (jf_mul (je_fz (jf_lst (ja_cons je_int ja_nil))) (je_bin jo_add (je_bin jo_add (je_fld (c_Equations G) (je_var 0)) (je_callB jc_len (ja_cons (je_fld (c_Equations G) (je_var 0)) ja_nil) (fr_len G) PySem.boot_len)) je_int))))
    (jss_cons (js_forC (vs := [2]) ctx_po rfl (ji_cell (je_fld (c_Equations G) (je_var 0))) (jg_name (i := 2) nd) (jss_one (js_set 1 nd (je_ow (jf_lc (own := [("one", 8), ("two", 9)]) rfl nd (blkOk_by (by kernel_rfl)) (ji_zip (ja_cons (je_frz (je_var 1)) (ja_cons (je_var 2) ja_nil)) (fr_zip G)) (fun _ _ _ _ _ => (jg_tup rfl (jgs_cons (jg_name (i := 8) nd) (jgs_cons (jg_name (i := 9) nd) jgs_nil)))) (fun _ _ _ _ _ => jts_nil) (fun _ _ _ _ _ => (je_bin jo_sub (je_var 8) (je_var 9))))))))
    (jss_cons (js_for (vs := [3]) ctx_po rfl (ji_range1 (ja_cons (je_callB jc_len (ja_cons (je_fld (c_Equations G) (je_var 0)) ja_nil) (fr_len G) PySem.boot_len) ja_nil) (fr_range G)) (jg_name (i := 3) nd) (jss_one (js_asg (vs := []) je_int (jg_sub (je_var 1) (je_bin jo_add (je_fld (c_Equations G) (je_var 0)) (je_var 3))))))
    (jss_cons (js_asg (vs := []) je_int (jg_sub (je_var 1) (je_neg je_int)))
    (jss_cons (js_setLc (i := 4) (own := [("place", 7)]) rfl nd (blkOk_by (by kernel_rfl)) (ji_range1 (ja_cons (je_fld (c_Equations G) (je_var 0)) ja_nil) (fr_range G)) (fun _ _ _ _ _ => (jg_name (i := 7) nd)) (fun _ _ _ _ _ => (jts_one (jt_cmp (jo_lt hr.units0) (je_ix jx_ix (je_var 1) (je_var 7)) je_int))) (fun _ _ _ _ _ => (je_var 7)))
    (jss_cons (js_while 2037035976334486086268445688409378161051468393665936250636140449354381299763336706183397376 ctx_po (jt_cmp (jo_ne hr.units) (je_var 4) (je_fz (jf_lst ja_nil))) (jss_cons (js_set 1 nd (je_meth (ok_Equations_turn G) hr ctx_px (je_var 0) (ja_cons (je_frz (je_var 1)) (ja_cons (je_meth (ok_Equations_leaving G) hr ctx_px (je_var 0) (ja_cons (je_ix jx_ix (je_var 4) je_int) ja_nil)) (ja_cons (je_ix jx_ix (je_var 4) je_int) ja_nil)))))
    (jss_one (js_setLc (i := 4) (own := [("place", 7)]) rfl nd (blkOk_by (by kernel_rfl)) (ji_range1 (ja_cons (je_fld (c_Equations G) (je_var 0)) ja_nil) (fr_range G)) (fun _ _ _ _ _ => (jg_name (i := 7) nd)) (fun _ _ _ _ _ => (jts_one (jt_cmp (jo_lt hr.units0) (je_ix jx_ix (je_var 1) (je_var 7)) je_int))) (fun _ _ _ _ _ => (je_var 7))))))
    (jss_cons (js_if (jt_cmp (jo_lt hr.units0) (je_ix jx_ix (je_var 1) (je_neg je_int)) je_int) (jss_cons (js_setLc (i := 5) (own := [("number", 3)]) rfl nd (blkOk_by (by kernel_rfl)) (ji_range1 (ja_cons (je_callB jc_len (ja_cons (je_fld (c_Equations G) (je_var 0)) ja_nil) (fr_len G) PySem.boot_len) ja_nil) (fr_range G)) (fun _ _ _ _ _ => (jg_name (i := 3) nd)) (fun _ _ _ _ _ => jts_nil) (fun _ _ _ _ _ => (je_bin jo_sub (je_ix jx_ix (je_var 1) (je_neg je_int)) (je_ix jx_ix (je_var 1) (je_bin jo_add (je_fld (c_Equations G) (je_var 0)) (je_var 3))))))
    (jss_one (js_ret (je_tup (ja_cons je_non (ja_cons (je_fz (jf_lc (own := [("one", 8), ("two", 9)]) rfl nd (blkOk_by (by kernel_rfl)) (ji_zip (ja_cons (je_fld (c_Equations G) (je_var 0)) (ja_cons (je_var 5) ja_nil)) (fr_zip G)) (fun _ _ _ _ _ => (jg_tup rfl (jgs_cons (jg_name (i := 8) nd) (jgs_cons (jg_name (i := 9) nd) jgs_nil)))) (fun _ _ _ _ _ => jts_nil) (fun _ _ _ _ _ => (je_bin jo_mul (je_var 8) (je_var 9))))) ja_nil)))))) jss_nil)
    (jss_cons (js_set 6 nd (je_ow (jf_mul (je_fz (jf_lst (ja_cons (je_tup (ja_cons je_int (ja_cons je_int ja_nil))) ja_nil))) (je_fld (c_Equations G) (je_var 0)))))
    (jss_cons (js_forC (vs := [3, 7]) ctx_po rfl (ji_enumC (je_fld (c_Equations G) (je_var 0)) (fr_enumerate G)) (jg_tup rfl (jgs_cons (jg_name (i := 3) nd) (jgs_cons (jg_name (i := 7) nd) jgs_nil))) (jss_one (js_if (jt_cmp (jo_lt hr.units0) (je_var 7) (je_fld (c_Equations G) (je_var 0))) (jss_one (js_asg (vs := []) (je_call (ok_fraction G) hr ctx_px (ja_cons (je_ix jx_ix (je_ix jx_ix (je_fld (c_Equations G) (je_var 0)) (je_var 3)) (je_neg je_int)) (ja_cons (je_ix jx_ix (je_ix jx_ix (je_fld (c_Equations G) (je_var 0)) (je_var 3)) (je_var 7)) ja_nil))) (jg_sub (je_var 6) (je_var 7)))) jss_nil)))
    (jss_one (js_ret (je_tup (ja_cons (je_frz (je_var 6)) (ja_cons je_non ja_nil))))))))))))))
theorem sc_row_of : FnScope ["things", "comparison", "one", "sign", "other", "thing"] ["things", "comparison"] (defScope (top 29)) := ⟨rfl, rfl, rfl, by decide +kernel, rfl, by decide +kernel, by decide +kernel⟩
theorem ok_row_of (G : Fx fa fn qs K mg) : Cl P w K mg base 1 "row_of" 2 f_row_of := by
  obtain ⟨fd, F⟩ := G.def_ 14 (d := d14) rfl rfl rfl
  refine cl_of F (G.glo 14 rfl) (F.bindsN fun _ _ _ _ _ _ us hl => match us, hl with | [_, _], _ => rfl) (fn_body (N := ["things", "comparison", "one", "sign", "other", "thing"]) (ps := ["things", "comparison"]) F sc_row_of fun cdv A outer s H E hr => ?_)
  have nd := sc_row_of.nd
  exact (jss_cons (js_asg (vs := [2, 3, 4]) (je_var 1) (jg_tup rfl (jgs_cons (jg_name (i := 2) nd) (jgs_cons (jg_name (i := 3) nd) (jgs_cons (jg_name (i := 4) nd) jgs_nil)))))
    (jss_one (js_ret (je_fz (jf_lc (own := [("thing", 5)]) rfl nd (blkOk_by (by kernel_rfl)) (ji_range1 (ja_cons (je_var 0) ja_nil) (fr_range G)) (fun _ _ _ _ _ => (jg_name (i := 5) nd)) (fun _ _ _ _ _ => jts_nil) (fun _ _ _ _ _ => (je_bin jo_sub (je_callTy jc_int (ja_cons (je_cmp (jo_in (u65 hr)) (je_var 5) (je_var 2)) ja_nil) (fr_int G) (by decide +kernel)) (je_callTy jc_int (ja_cons (je_cmp (jo_in (u65 hr)) (je_var 5) (je_var 4)) ja_nil) (fr_int G) (by decide +kernel)))))))))
theorem sc_common_bottom : FnScope ["some", "found", "one"] ["some"] (defScope (top 11)) := ⟨rfl, rfl, rfl, by decide +kernel, rfl, by decide +kernel, by decide +kernel⟩
theorem ok_common_bottom (G : Fx fa fn qs K mg) : Cl P w K mg base 2 "common_bottom" 1 f_common_bottom := by
  obtain ⟨fd, F⟩ := G.def_ 15 (d := d15) rfl rfl rfl
  refine cl_of F (G.glo 15 rfl) (F.bindsN fun _ _ _ _ _ _ us hl => match us, hl with | [_], _ => rfl) (fn_body (N := ["some", "found", "one"]) (ps := ["some"]) F sc_common_bottom fun cdv A outer s H E hr => ?_)
  have nd := sc_common_bottom.nd
  exact (jss_cons (js_set 1 nd je_int)
    (jss_cons (js_for (vs := [2]) ctx_po rfl (ji_seq (je_var 0)) (jg_name (i := 2) nd) (jss_one (js_set 1 nd (je_bin jo_div (je_bin jo_mul (je_var 1) (je_ix jx_ix (je_var 2) je_int)) (je_call (ok_divisor_of G) hr ctx_px (ja_cons (je_var 1) (ja_cons (je_ix jx_ix (je_var 2) je_int) ja_nil)))))))
    (jss_one (js_ret (je_var 1)))))
theorem sc_Equations___init__ : FnScope ["self", "rows", "goals", "number", "row", "own", "goal", "other", "one"] ["self", "rows", "goals"] (defScope (mth 26 0)) := ⟨rfl, rfl, rfl, by decide +kernel, rfl, by decide +kernel, by decide +kernel⟩
theorem ok_Equations___init__ (G : Fx fa fn qs K mg) : Mi P w K mg base 1 "Equations" 3 f_Equations___init__ := by
  obtain ⟨fd, F⟩ := G.def_ 16 (d := d16) rfl rfl rfl
  refine G.mi 0 rfl 16 rfl (F.bindsN fun _ _ _ _ _ _ us hl => match us, hl with | [_, _, _], _ => rfl) (fn_body (N := ["self", "rows", "goals", "number", "row", "own", "goal", "other", "one"]) (ps := ["self", "rows", "goals"]) F sc_Equations___init__ fun cdv A outer s H E hr => ?_)
  have nd := sc_Equations___init__.nd
  exact (jss_cons (js_fld (c_Equations G) (je_var 0) (je_callB jc_len (ja_cons (je_ix jx_ix (je_var 1) je_int) ja_nil) (fr_len G) PySem.boot_len))
    (jss_cons (js_fld (c_Equations G) (je_var 0) (je_fz (jf_lc (own := [("goal", 6)]) rfl nd (blkOk_by (by kernel_rfl)) (ji_seq (je_var 2)) (fun _ _ _ _ _ => (jg_name (i := 6) nd)) (fun _ _ _ _ _ => jts_nil) (fun _ _ _ _ _ => (je_ifExp (jt_cmp jo_geI (je_var 6) je_int) je_int (je_neg je_int))))))
    (jss_cons (js_fld (c_Equations G) (je_var 0) (je_ow (jf_lst ja_nil)))
    (jss_cons (js_for (vs := [3, 4]) ctx_po rfl (ji_enumT (ja_cons (je_var 1) ja_nil) (fr_enumerate G)) (jg_tup rfl (jgs_cons (jg_name (i := 3) nd) (jgs_cons (jg_name (i := 4) nd) jgs_nil))) (jss_cons (js_setLc (i := 5) (own := [("other", 7)]) rfl nd (blkOk_by (by kernel_rfl)) (ji_range1 (ja_cons (je_callB jc_len (ja_cons (je_var 1) ja_nil) (fr_len G) PySem.boot_len) ja_nil) (fr_range G)) (fun _ _ _ _ _ => (jg_name (i := 7) nd)) (fun _ _ _ _ _ => jts_nil) (fun _ _ _ _ _ => (je_callTy jc_int (ja_cons (je_cmp (jo_eq hr.units) (je_var 7) (je_var 3)) ja_nil) (fr_int G) (by decide +kernel))))
    (jss_one (js_expr (je_append (je_fld (c_Equations G) (je_var 0)) (ja_cons (je_bin jo_add (je_bin jo_add (je_fz (jf_lc (own := [("one", 8)]) rfl nd (blkOk_by (by kernel_rfl)) (ji_seq (je_var 4)) (fun _ _ _ _ _ => (jg_name (i := 8) nd)) (fun _ _ _ _ _ => jts_nil) (fun _ _ _ _ _ => (je_bin jo_mul (je_ix jx_ix (je_fld (c_Equations G) (je_var 0)) (je_var 3)) (je_var 8))))) (je_var 5)) (je_fz (jf_lst (ja_cons je_int (ja_cons (je_callB jc_abs (ja_cons (je_ix jx_ix (je_var 2) (je_var 3)) ja_nil) (fr_abs G) (by decide +kernel)) ja_nil))))) ja_nil))))))
    (jss_one (js_fld (c_Equations G) (je_var 0) (je_ow (jf_lc (own := [("number", 3)]) rfl nd (blkOk_by (by kernel_rfl)) (ji_range1 (ja_cons (je_callB jc_len (ja_cons (je_var 1) ja_nil) (fr_len G) PySem.boot_len) ja_nil) (fr_range G)) (fun _ _ _ _ _ => (jg_name (i := 3) nd)) (fun _ _ _ _ _ => jts_nil) (fun _ _ _ _ _ => (je_bin jo_add (je_fld (c_Equations G) (je_var 0)) (je_var 3)))))))))))
theorem sc_whole : FnScope ["one", "bottom"] ["one", "bottom"] (defScope (top 12)) := ⟨rfl, rfl, rfl, by decide +kernel, rfl, by decide +kernel, by decide +kernel⟩
theorem ok_whole (G : Fx fa fn qs K mg) : Cl P w K mg base 1 "whole" 2 f_whole := by
  obtain ⟨fd, F⟩ := G.def_ 17 (d := d17) rfl rfl rfl
  refine cl_of F (G.glo 17 rfl) (F.bindsN fun _ _ _ _ _ _ us hl => match us, hl with | [_, _], _ => rfl) (fn_body (N := ["one", "bottom"]) (ps := ["one", "bottom"]) F sc_whole fun cdv A outer s H E hr => ?_)
  have nd := sc_whole.nd
  exact (jss_one (js_ret (je_bin jo_mul (je_ix jx_ix (je_var 0) je_int) (je_bin jo_div (je_var 1) (je_ix jx_ix (je_var 0) je_int)))))
theorem sc_solved : FnScope ["things", "told", "columns", "names", "number", "comparison", "row", "thing", "rows", "shares", "numbers", "bottom", "found", "share", "sign", "one", "other", "k", "column"] ["things", "told"] (defScope (top 30)) := ⟨rfl, rfl, rfl, by decide +kernel, rfl, by decide +kernel, by decide +kernel⟩
theorem ok_solved (G : Fx fa fn qs K mg) : Cl P w K mg base 6 "solved" 2 f_solved := by
  obtain ⟨fd, F⟩ := G.def_ 18 (d := d18) rfl rfl rfl
  refine cl_of F (G.glo 18 rfl) (F.bindsN fun _ _ _ _ _ _ us hl => match us, hl with | [_, _], _ => rfl) (fn_body (N := ["things", "told", "columns", "names", "number", "comparison", "row", "thing", "rows", "shares", "numbers", "bottom", "found", "share", "sign", "one", "other", "k", "column"]) (ps := ["things", "told"]) F sc_solved fun cdv A outer s H E hr => ?_)
  have nd := sc_solved.nd
  exact (jss_cons (js_asg (vs := [2, 3]) (je_tup (ja_cons (je_ow (jf_lst ja_nil)) (ja_cons (je_ow (jf_lst ja_nil)) ja_nil))) (jg_tup rfl (jgs_cons (jg_name (i := 2) nd) (jgs_cons (jg_name (i := 3) nd) jgs_nil))))
    (jss_cons (js_for (vs := [4, 5]) ctx_po rfl (ji_enumT (ja_cons (je_var 1) ja_nil) (fr_enumerate G)) (jg_tup rfl (jgs_cons (jg_name (i := 4) nd) (jgs_cons (jg_name (i := 5) nd) jgs_nil))) (jss_cons (js_set 6 nd (je_call (ok_row_of G) hr ctx_px (ja_cons (je_var 0) (ja_cons (je_var 5) ja_nil))))
    (jss_cons (js_expr (je_append (je_var 2) (ja_cons (je_bin jo_add (je_var 6) (je_fz (jf_lst (ja_cons (je_callTy jc_int (ja_cons (je_cmp (jo_eq hr.units) (je_ix jx_ix (je_var 5) je_int) je_str) ja_nil) (fr_int G) (by decide +kernel)) ja_nil)))) ja_nil)))
    (jss_cons (js_expr (je_append (je_var 3) (ja_cons (je_tup (ja_cons (je_var 4) (ja_cons je_int ja_nil))) ja_nil)))
    (jss_one (js_if (jt_cmp (jo_eq hr.units) (je_ix jx_ix (je_var 5) je_int) je_str) (jss_cons (js_expr (je_append (je_var 2) (ja_cons (je_bin jo_add (je_fz (jf_lc (own := [("one", 15)]) rfl nd (blkOk_by (by kernel_rfl)) (ji_seq (je_var 6)) (fun _ _ _ _ _ => (jg_name (i := 15) nd)) (fun _ _ _ _ _ => jts_nil) (fun _ _ _ _ _ => (je_neg (je_var 15))))) (je_fz (jf_lst (ja_cons je_int ja_nil)))) ja_nil)))
    (jss_one (js_expr (je_append (je_var 3) (ja_cons (je_tup (ja_cons (je_var 4) (ja_cons (je_neg je_int) ja_nil))) ja_nil))))) jss_nil))))))
    (jss_cons (js_for (vs := [7]) ctx_po rfl (ji_range1 (ja_cons (je_var 0) ja_nil) (fr_range G)) (jg_name (i := 7) nd) (jss_cons (js_expr (je_append (je_var 2) (ja_cons (je_bin jo_add (je_fz (jf_lc (own := [("other", 16)]) rfl nd (blkOk_by (by kernel_rfl)) (ji_range1 (ja_cons (je_var 0) ja_nil) (fr_range G)) (fun _ _ _ _ _ => (jg_name (i := 16) nd)) (fun _ _ _ _ _ => jts_nil) (fun _ _ _ _ _ => (je_callTy jc_int (ja_cons (je_cmp (jo_eq hr.units) (je_var 16) (je_var 7)) ja_nil) (fr_int G) (by decide +kernel))))) (je_fz (jf_lst (ja_cons je_int ja_nil)))) ja_nil)))
    (jss_one (js_expr (je_append (je_var 3) (ja_cons (je_tup (ja_cons je_non (ja_cons je_int ja_nil))) ja_nil))))))
    (jss_cons (js_setLc (i := 8) (own := [("k", 17)]) rfl nd (blkOk_by (by kernel_rfl)) (ji_range1 (ja_cons (je_bin jo_add (je_var 0) je_int) ja_nil) (fr_range G)) (fun _ _ _ _ _ => (jg_name (i := 17) nd)) (fun _ _ _ _ _ => jts_nil) (fun _ _ _ _ _ => (je_fz (jf_lc (own := [("column", 18)]) rfl nd (blkOk_by (by kernel_rfl)) (ji_seq (je_frz (je_var 2))) (fun _ _ _ _ _ => (jg_name (i := 18) nd)) (fun _ _ _ _ _ => jts_nil) (fun _ _ _ _ _ => (je_ix jx_ix (je_var 18) (je_var 17)))))))
    (jss_cons (js_asg (vs := [9, 10]) (je_meth0 (ok_Equations_solved G) hr ctx_px (je_make (ok_Equations___init__ G) hr ctx_px (ja_cons (je_var 8) (ja_cons (je_bin jo_add (je_bin jo_mul (je_fz (jf_lst (ja_cons je_int ja_nil))) (je_var 0)) (je_fz (jf_lst (ja_cons je_int ja_nil)))) ja_nil)))) (jg_tup rfl (jgs_cons (jg_name (i := 9) nd) (jgs_cons (jg_name (i := 10) nd) jgs_nil))))
    (jss_cons (js_if (jt_cmp jo_is (je_var 9) je_non) (jss_one (js_ret (je_tup (ja_cons je_non (ja_cons (je_callTy jc_tuple (ja_cons (je_call (ok_shortened G) hr ctx_px (ja_cons (je_fz (jf_lc (own := [("one", 15)]) rfl nd (blkOk_by (by kernel_rfl)) (ji_seq (je_slice (je_var 10) jo_none (jo_some (je_var 0)))) (fun _ _ _ _ _ => (jg_name (i := 15) nd)) (fun _ _ _ _ _ => jts_nil) (fun _ _ _ _ _ => (je_neg (je_var 15))))) ja_nil)) ja_nil) (fr_tuple G) (by decide +kernel)) ja_nil))))) jss_nil)
    (jss_cons (js_par (i := 11) (j := 12) rfl nd (ja_cons (je_call (ok_common_bottom G) hr ctx_px (ja_cons (je_var 9) ja_nil)) (ja_cons (je_ow (jf_mul (je_fz (jf_lst (ja_cons je_int ja_nil))) (je_callB jc_len (ja_cons (je_var 1) ja_nil) (fr_len G) PySem.boot_len))) ja_nil)))
    (jss_cons (js_for (vs := [13, 4, 14]) ctx_po rfl (ji_zip (ja_cons (je_var 9) (ja_cons (je_frz (je_var 3)) ja_nil)) (fr_zip G)) (jg_tup rfl (jgs_cons (jg_name (i := 13) nd) (jgs_cons (jg_tup rfl (jgs_cons (jg_name (i := 4) nd) (jgs_cons (jg_name (i := 14) nd) jgs_nil))) jgs_nil))) (jss_one (js_if (jt_cmp jo_isnot (je_var 4) je_non) (jss_one (js_asg (vs := []) (je_bin jo_add (je_ix jx_ix (je_var 12) (je_var 4)) (je_bin jo_mul (je_var 14) (je_call (ok_whole G) hr ctx_px (ja_cons (je_var 13) (ja_cons (je_var 11) ja_nil))))) (jg_sub (je_var 12) (je_var 4)))) jss_nil)))
    (jss_one (js_ret (je_tup (ja_cons (je_callTy jc_tuple (ja_cons (je_frz (je_var 12)) ja_nil) (fr_tuple G) (by decide +kernel)) (ja_cons je_non ja_nil)))))))))))))
theorem sc_some_weights : FnScope ["things", "told"] ["things", "told"] (defScope (top 31)) := ⟨rfl, rfl, rfl, by decide +kernel, rfl, by decide +kernel, by decide +kernel⟩
theorem ok_some_weights (G : Fx fa fn qs K mg) : Cl P w K mg base 7 "some_weights" 2 f_some_weights := by
  obtain ⟨fd, F⟩ := G.def_ 19 (d := d19) rfl rfl rfl
  refine cl_of F (G.glo 19 rfl) (F.bindsN fun _ _ _ _ _ _ us hl => match us, hl with | [_, _], _ => rfl) (fn_body (N := ["things", "told"]) (ps := ["things", "told"]) F sc_some_weights fun cdv A outer s H E hr => ?_)
  have nd := sc_some_weights.nd
  exact (jss_cons (js_expr (je_call (ok_check_told G) hr ctx_px (ja_cons (je_var 0) (ja_cons (je_var 1) ja_nil))))
    (jss_one (js_ret (je_ix jx_ix (je_call (ok_solved G) hr ctx_px (ja_cons (je_var 0) (ja_cons (je_var 1) ja_nil))) je_int))))
theorem sc__law_draw : FnScope ["script", "town", "limit", "at", "left", "number"] ["script", "town", "limit"] (defScope (top 41)) := ⟨rfl, rfl, rfl, by decide +kernel, rfl, by decide +kernel, by decide +kernel⟩
theorem ok__law_draw (G : Fx fa fn qs K mg) : Cl P w K mg base 1 "_law_draw" 3 f__law_draw := by
  obtain ⟨fd, F⟩ := G.def_ 20 (d := d20) rfl rfl rfl
  refine cl_of F (G.glo 20 rfl) (F.bindsN fun _ _ _ _ _ _ us hl => match us, hl with | [_, _, _], _ => rfl) (fn_body (N := ["script", "town", "limit", "at", "left", "number"]) (ps := ["script", "town", "limit"]) F sc__law_draw fun cdv A outer s H E hr => ?_)
  have nd := sc__law_draw.nd
  exact (jss_cons (js_asg (vs := []) (je_bin jo_add (je_ix jx_ix (je_var 1) je_int) je_int) (jg_sub (je_var 1) je_int))
    (jss_cons (js_if (jt_cmp (jo_eq hr.units) (je_var 0) (je_fz (jf_lst ja_nil))) (jss_one (js_ret (je_bin jo_mod (je_bin jo_div (je_bin jo_mul (je_bin jo_mul (je_ix jx_ix (je_var 1) je_int) (je_ix jx_ix (je_var 1) je_int)) je_int) je_int) (je_var 2)))) jss_nil)
    (jss_cons (js_set 3 nd (je_bin jo_mod (je_ix jx_ix (je_var 1) je_int) (je_callB jc_len (ja_cons (je_var 0) ja_nil) (fr_len G) PySem.boot_len)))
    (jss_cons (js_set 4 nd (je_ix jx_ix (je_var 1) (je_bin jo_add je_int (je_var 3))))
    (jss_cons (js_if (JW.jt (jw_and (jt_cmp jo_geI (je_ix jx_ix (je_var 0) (je_var 3)) (je_bin jo_pow je_int je_int)) (jw_and1 (jt_cmp jo_gtI (je_var 4) je_int)))) (jss_cons (js_asg (vs := []) (je_bin jo_div (je_var 4) (je_var 2)) (jg_sub (je_var 1) (je_bin jo_add je_int (je_var 3))))
    (jss_one (js_ret (je_bin jo_mod (je_var 4) (je_var 2))))) jss_nil)
    (jss_cons (js_set 5 nd (je_bin jo_mod (je_bin jo_add (je_ix jx_ix (je_var 0) (je_var 3)) (je_bin jo_mul je_int (je_ix jx_ix (je_var 1) je_int))) je_int))
    (jss_cons (js_set 5 nd (je_bin jo_mod (je_bin jo_pow (je_var 5) je_int) je_int))
    (jss_one (js_ret (je_bin jo_mod (je_bin jo_div (je_bin jo_mod (je_bin jo_add (je_bin jo_mul (je_bin jo_div (je_var 5) je_int) je_int) (je_var 5)) je_int) je_int) (je_var 2)))))))))))
theorem sc__law_pick : FnScope ["script", "town", "choices"] ["script", "town", "choices"] (defScope (top 42)) := ⟨rfl, rfl, rfl, by decide +kernel, rfl, by decide +kernel, by decide +kernel⟩
theorem ok__law_pick (G : Fx fa fn qs K mg) : Cl P w K mg base 2 "_law_pick" 3 f__law_pick := by
  obtain ⟨fd, F⟩ := G.def_ 21 (d := d21) rfl rfl rfl
  refine cl_of F (G.glo 21 rfl) (F.bindsN fun _ _ _ _ _ _ us hl => match us, hl with | [_, _, _], _ => rfl) (fn_body (N := ["script", "town", "choices"]) (ps := ["script", "town", "choices"]) F sc__law_pick fun cdv A outer s H E hr => ?_)
  have nd := sc__law_pick.nd
  exact (jss_one (js_ret (je_ix jx_ix (je_var 2) (je_call (ok__law_draw G) hr ctx_px (ja_cons (je_var 0) (ja_cons (je_var 1) (ja_cons (je_callB jc_len (ja_cons (je_var 2) ja_nil) (fr_len G) PySem.boot_len) ja_nil)))))))
theorem sc__law_scale : FnScope ["script", "town", "things", "most", "k"] ["script", "town", "things"] (defScope (top 46)) := ⟨rfl, rfl, rfl, by decide +kernel, rfl, by decide +kernel, by decide +kernel⟩
theorem ok__law_scale (G : Fx fa fn qs K mg) : Cl P w K mg base 3 "_law_scale" 3 f__law_scale := by
  obtain ⟨fd, F⟩ := G.def_ 22 (d := d22) rfl rfl rfl
  refine cl_of F (G.glo 22 rfl) (F.bindsN fun _ _ _ _ _ _ us hl => match us, hl with | [_, _, _], _ => rfl) (fn_body (N := ["script", "town", "things", "most", "k"]) (ps := ["script", "town", "things"]) F sc__law_scale fun cdv A outer s H E hr => ?_)
  have nd := sc__law_scale.nd
  exact (jss_cons (js_set 3 nd (je_call (ok__law_pick G) hr ctx_px (ja_cons (je_var 0) (ja_cons (je_var 1) (ja_cons (je_fz (jf_lst (ja_cons je_int (ja_cons je_int (ja_cons je_int ja_nil))))) ja_nil)))))
    (jss_one (js_ret (je_callTy jc_tuple (ja_cons (je_fz (jf_lc (own := [("k", 4)]) rfl nd (blkOk_by (by kernel_rfl)) (ji_range1 (ja_cons (je_var 2) ja_nil) (fr_range G)) (fun _ _ _ _ _ => (jg_name (i := 4) nd)) (fun _ _ _ _ _ => jts_nil) (fun _ _ _ _ _ => (je_bin jo_add je_int (je_call (ok__law_draw G) hr passL (ja_cons (je_var 0) (ja_cons (je_var 1) (ja_cons (je_var 3) ja_nil)))))))) ja_nil) (fr_tuple G) (by decide +kernel)))))
theorem sc__law_lots : FnScope ["things", "found", "k", "lot"] ["things"] (defScope (top 43)) := ⟨rfl, rfl, rfl, by decide +kernel, rfl, by decide +kernel, by decide +kernel⟩
theorem ok__law_lots (G : Fx fa fn qs K mg) : Cl P w K mg base 1 "_law_lots" 1 f__law_lots := by
  obtain ⟨fd, F⟩ := G.def_ 23 (d := d23) rfl rfl rfl
  refine cl_of F (G.glo 23 rfl) (F.bindsN fun _ _ _ _ _ _ us hl => match us, hl with | [_], _ => rfl) (fn_body (N := ["things", "found", "k", "lot"]) (ps := ["things"]) F sc__law_lots fun cdv A outer s H E hr => ?_)
  have nd := sc__law_lots.nd
  exact (jss_cons (js_set 1 nd (je_fz (jf_lst (ja_cons (je_tup ja_nil) ja_nil))))
    (jss_cons (js_for (vs := [2]) ctx_po rfl (ji_range1 (ja_cons (je_var 0) ja_nil) (fr_range G)) (jg_name (i := 2) nd) (jss_one (js_set 1 nd (je_bin jo_add (je_var 1) (je_fz (jf_lc (own := [("lot", 3)]) rfl nd (blkOk_by (by kernel_rfl)) (ji_seq (je_var 1)) (fun _ _ _ _ _ => (jg_name (i := 3) nd)) (fun _ _ _ _ _ => jts_nil) (fun _ _ _ _ _ => (je_bin jo_add (je_var 3) (je_tup (ja_cons (je_var 2) ja_nil))))))))))
    (jss_one (js_ret (je_fz (jf_sorted hr.units (je_var 1) (fr_sorted G)))))))
theorem sc__law_weight : FnScope ["scale", "lot", "k"] ["scale", "lot"] (defScope (top 44)) := ⟨rfl, rfl, rfl, by decide +kernel, rfl, by decide +kernel, by decide +kernel⟩
theorem ok__law_weight (G : Fx fa fn qs K mg) : Cl P w K mg base 1 "_law_weight" 2 f__law_weight := by
  obtain ⟨fd, F⟩ := G.def_ 24 (d := d24) rfl rfl rfl
  refine cl_of F (G.glo 24 rfl) (F.bindsN fun _ _ _ _ _ _ us hl => match us, hl with | [_, _], _ => rfl) (fn_body (N := ["scale", "lot", "k"]) (ps := ["scale", "lot"]) F sc__law_weight fun cdv A outer s H E hr => ?_)
  have nd := sc__law_weight.nd
  exact (jss_one (js_ret (je_callB (jc_sum rfl) (ja_cons (je_fz (jf_lc (own := [("k", 2)]) rfl nd (blkOk_by (by kernel_rfl)) (ji_seq (je_var 1)) (fun _ _ _ _ _ => (jg_name (i := 2) nd)) (fun _ _ _ _ _ => jts_nil) (fun _ _ _ _ _ => (je_ix jx_ix (je_var 0) (je_var 2))))) ja_nil) (fr_sum G) (by decide +kernel))))
theorem sc__law_comparison : FnScope ["script", "town", "things", "scale", "lots_now", "one", "other", "sign", "more"] ["script", "town", "things", "scale"] (defScope (top 45)) := ⟨rfl, rfl, rfl, by decide +kernel, rfl, by decide +kernel, by decide +kernel⟩
theorem ok__law_comparison (G : Fx fa fn qs K mg) : Cl P w K mg base 3 "_law_comparison" 4 f__law_comparison := by
  obtain ⟨fd, F⟩ := G.def_ 25 (d := d25) rfl rfl rfl
  refine cl_of F (G.glo 25 rfl) (F.bindsN fun _ _ _ _ _ _ us hl => match us, hl with | [_, _, _, _], _ => rfl) (fn_body (N := ["script", "town", "things", "scale", "lots_now", "one", "other", "sign", "more"]) (ps := ["script", "town", "things", "scale"]) F sc__law_comparison fun cdv A outer s H E hr => ?_)
  have nd := sc__law_comparison.nd
  exact (jss_cons (js_set 4 nd (je_call (ok__law_lots G) hr ctx_px (ja_cons (je_var 2) ja_nil)))
    (jss_cons (js_par (i := 5) (j := 6) rfl nd (ja_cons (je_call (ok__law_pick G) hr ctx_px (ja_cons (je_var 0) (ja_cons (je_var 1) (ja_cons (je_var 4) ja_nil)))) (ja_cons (je_call (ok__law_pick G) hr ctx_px (ja_cons (je_var 0) (ja_cons (je_var 1) (ja_cons (je_var 4) ja_nil)))) ja_nil)))
    (jss_cons (js_set 7 nd (je_call (ok__law_pick G) hr ctx_px (ja_cons (je_var 0) (ja_cons (je_var 1) (ja_cons (je_fz (jf_lst (ja_cons je_str (ja_cons je_str (ja_cons je_str (ja_cons je_str ja_nil)))))) ja_nil)))))
    (jss_cons (js_if (jt_cmp jo_gtI (je_call (ok__law_draw G) hr ctx_px (ja_cons (je_var 0) (ja_cons (je_var 1) (ja_cons je_int ja_nil)))) je_int) (jss_cons (js_set 8 nd (je_bin jo_sub (je_call (ok__law_weight G) hr ctx_px (ja_cons (je_var 3) (ja_cons (je_var 5) ja_nil))) (je_call (ok__law_weight G) hr ctx_px (ja_cons (je_var 3) (ja_cons (je_var 6) ja_nil)))))
    (jss_cons (js_asg (vs := [5, 6]) (je_ifExp (jt_cmp jo_geI (je_var 8) je_int) (je_tup (ja_cons (je_var 5) (ja_cons (je_var 6) ja_nil))) (je_tup (ja_cons (je_var 6) (ja_cons (je_var 5) ja_nil)))) (jg_tup rfl (jgs_cons (jg_name (i := 5) nd) (jgs_cons (jg_name (i := 6) nd) jgs_nil))))
    (jss_one (js_set 7 nd (je_ifExp (JW.jt (jw_or (JW.jt (jw_and (jt_cmp (jo_eq hr.units) (je_var 8) je_int) (jw_and1 (jt_cmp (jo_ne hr.units) (je_var 7) je_str)))) (jw_or1 (JW.jt (jw_and (jt_cmp (jo_ne hr.units) (je_var 8) je_int) (jw_and1 (jt_cmp (jo_ne hr.units) (je_var 7) je_str))))))) (je_var 7) je_str))))) jss_nil)
    (jss_one (js_ret (je_tup (ja_cons (je_var 5) (ja_cons (je_var 7) (ja_cons (je_var 6) ja_nil))))))))))
theorem sc__law_told : FnScope ["script", "town", "things", "most", "scale", "k"] ["script", "town", "things", "most"] (defScope (top 47)) := ⟨rfl, rfl, rfl, by decide +kernel, rfl, by decide +kernel, by decide +kernel⟩
theorem ok__law_told (G : Fx fa fn qs K mg) : Cl P w K mg base 4 "_law_told" 4 f__law_told := by
  obtain ⟨fd, F⟩ := G.def_ 26 (d := d26) rfl rfl rfl
  refine cl_of F (G.glo 26 rfl) (F.bindsN fun _ _ _ _ _ _ us hl => match us, hl with | [_, _, _, _], _ => rfl) (fn_body (N := ["script", "town", "things", "most", "scale", "k"]) (ps := ["script", "town", "things", "most"]) F sc__law_told fun cdv A outer s H E hr => ?_)
  have nd := sc__law_told.nd
  exact (jss_cons (js_set 4 nd (je_call (ok__law_scale G) hr ctx_px (ja_cons (je_var 0) (ja_cons (je_var 1) (ja_cons (je_var 2) ja_nil)))))
    (jss_one (js_ret (je_callTy jc_tuple (ja_cons (je_fz (jf_lc (own := [("k", 5)]) rfl nd (blkOk_by (by kernel_rfl)) (ji_range1 (ja_cons (je_call (ok__law_draw G) hr ctx_px (ja_cons (je_var 0) (ja_cons (je_var 1) (ja_cons (je_bin jo_add (je_var 3) je_int) ja_nil)))) ja_nil) (fr_range G)) (fun _ _ _ _ _ => (jg_name (i := 5) nd)) (fun _ _ _ _ _ => jts_nil) (fun _ _ _ _ _ => (je_call (ok__law_comparison G) hr passL (ja_cons (je_var 0) (ja_cons (je_var 1) (ja_cons (je_var 2) (ja_cons (je_var 4) ja_nil)))))))) ja_nil) (fr_tuple G) (by decide +kernel)))))
theorem sc__law_order : FnScope ["script", "town", "things", "left", "found"] ["script", "town", "things"] (defScope (top 48)) := ⟨rfl, rfl, rfl, by decide +kernel, rfl, by decide +kernel, by decide +kernel⟩
theorem ok__law_order (G : Fx fa fn qs K mg) : Cl P w K mg base 2 "_law_order" 3 f__law_order := by
  obtain ⟨fd, F⟩ := G.def_ 27 (d := d27) rfl rfl rfl
  refine cl_of F (G.glo 27 rfl) (F.bindsN fun _ _ _ _ _ _ us hl => match us, hl with | [_, _, _], _ => rfl) (fn_body (N := ["script", "town", "things", "left", "found"]) (ps := ["script", "town", "things"]) F sc__law_order fun cdv A outer s H E hr => ?_)
  have nd := sc__law_order.nd
  exact (jss_cons (js_par (i := 3) (j := 4) rfl nd (ja_cons (je_ow (jf_listRg rfl (je_var 2) (fr_list G) (fr_range G))) (ja_cons (je_ow (jf_lst ja_nil)) ja_nil)))
    (jss_cons (js_while 1099511627776 ctx_po (jt_cmp (jo_ne hr.units) (je_var 3) (je_fz (jf_lst ja_nil))) (jss_one (js_expr (je_append (je_var 4) (ja_cons (je_popAt (je_var 3) (ja_cons (je_call (ok__law_draw G) hr ctx_px (ja_cons (je_var 0) (ja_cons (je_var 1) (ja_cons (je_callB jc_len (ja_cons (je_var 3) ja_nil) (fr_len G) PySem.boot_len) ja_nil)))) ja_nil)) ja_nil)))))
    (jss_one (js_ret (je_tpl (ja_cons (je_frz (je_var 4)) ja_nil) (fr_tuple G))))))
theorem sc_balance : FnScope ["things", "told"] ["things", "told"] (defScope (top 32)) := ⟨rfl, rfl, rfl, by decide +kernel, rfl, by decide +kernel, by decide +kernel⟩
theorem ok_balance (G : Fx fa fn qs K mg) : Cl P w K mg base 7 "balance" 2 f_balance := by
  obtain ⟨fd, F⟩ := G.def_ 28 (d := d28) rfl rfl rfl
  refine cl_of F (G.glo 28 rfl) (F.bindsN fun _ _ _ _ _ _ us hl => match us, hl with | [_, _], _ => rfl) (fn_body (N := ["things", "told"]) (ps := ["things", "told"]) F sc_balance fun cdv A outer s H E hr => ?_)
  have nd := sc_balance.nd
  exact (jss_cons (js_expr (je_call (ok_check_told G) hr ctx_px (ja_cons (je_var 0) (ja_cons (je_var 1) ja_nil))))
    (jss_one (js_ret (je_ix jx_ix (je_call (ok_solved G) hr ctx_px (ja_cons (je_var 0) (ja_cons (je_var 1) ja_nil))) je_int))))
theorem sc_all_weights_r0 : FnScope ["things", "total", "found", "first", "rest"] ["things", "total"] (defScope (top 35)) := ⟨rfl, rfl, rfl, by decide +kernel, rfl, by decide +kernel, by decide +kernel⟩
theorem ok_all_weights_r0 (G : Fx fa fn qs K mg) : Cl P w K mg base 1 "all_weights" 2 f_all_weights_r0 := by
  obtain ⟨fd, F⟩ := G.def_ 29 (d := d29) rfl rfl rfl
  refine cl_of F (G.glo 29 rfl) (F.bindsN fun _ _ _ _ _ _ us hl => match us, hl with | [_, _], _ => rfl) (fn_body (N := ["things", "total", "found", "first", "rest"]) (ps := ["things", "total"]) F sc_all_weights_r0 fun cdv A outer s H E hr => ?_)
  have nd := sc_all_weights_r0.nd
  exact jss_no
theorem sc_all_weights_r1 : FnScope ["things", "total", "found", "first", "rest"] ["things", "total"] (defScope (top 35)) := ⟨rfl, rfl, rfl, by decide +kernel, rfl, by decide +kernel, by decide +kernel⟩
theorem ok_all_weights_r1 (G : Fx fa fn qs K mg) : Cl P w K mg base 2 "all_weights" 2 f_all_weights_r1 := by
  obtain ⟨fd, F⟩ := G.def_ 29 (d := d29) rfl rfl rfl
  refine cl_of F (G.glo 29 rfl) (F.bindsN fun _ _ _ _ _ _ us hl => match us, hl with | [_, _], _ => rfl) (fn_body (N := ["things", "total", "found", "first", "rest"]) (ps := ["things", "total"]) F sc_all_weights_r1 fun cdv A outer s H E hr => ?_)
  have nd := sc_all_weights_r1.nd
  exact (jss_cons (js_if (jt_cmp (jo_eq hr.units) (je_var 0) je_int) (jss_one (js_ret (je_fz (jf_lst (ja_cons (je_tup (ja_cons (je_var 1) ja_nil)) ja_nil))))) jss_nil)
    (jss_cons (js_set 2 nd (je_ow (jf_lst ja_nil)))
    (jss_cons (js_for (vs := [3]) ctx_po rfl (ji_range2 (ja_cons je_int (ja_cons (je_bin jo_add (je_bin jo_sub (je_var 1) (je_var 0)) je_int) ja_nil)) (fr_range G)) (jg_name (i := 3) nd) (jss_one (js_expr (je_extend (je_var 2) (ja_cons (je_fz (jf_lc (own := [("rest", 4)]) rfl nd (blkOk_by (by kernel_rfl)) (ji_seq (je_call (ok_all_weights_r0 G) hr ctx_px (ja_cons (je_bin jo_sub (je_var 0) je_int) (ja_cons (je_bin jo_sub (je_var 1) (je_var 3)) ja_nil)))) (fun _ _ _ _ _ => (jg_name (i := 4) nd)) (fun _ _ _ _ _ => jts_nil) (fun _ _ _ _ _ => (je_bin jo_add (je_tup (ja_cons (je_var 3) ja_nil)) (je_var 4))))) ja_nil)))))
    (jss_one (js_ret (je_frz (je_var 2)))))))
theorem sc_all_weights_r2 : FnScope ["things", "total", "found", "first", "rest"] ["things", "total"] (defScope (top 35)) := ⟨rfl, rfl, rfl, by decide +kernel, rfl, by decide +kernel, by decide +kernel⟩
theorem ok_all_weights_r2 (G : Fx fa fn qs K mg) : Cl P w K mg base 3 "all_weights" 2 f_all_weights_r2 := by
  obtain ⟨fd, F⟩ := G.def_ 29 (d := d29) rfl rfl rfl
  refine cl_of F (G.glo 29 rfl) (F.bindsN fun _ _ _ _ _ _ us hl => match us, hl with | [_, _], _ => rfl) (fn_body (N := ["things", "total", "found", "first", "rest"]) (ps := ["things", "total"]) F sc_all_weights_r2 fun cdv A outer s H E hr => ?_)
  have nd := sc_all_weights_r2.nd
  exact (jss_cons (js_if (jt_cmp (jo_eq hr.units) (je_var 0) je_int) (jss_one (js_ret (je_fz (jf_lst (ja_cons (je_tup (ja_cons (je_var 1) ja_nil)) ja_nil))))) jss_nil)
    (jss_cons (js_set 2 nd (je_ow (jf_lst ja_nil)))
    (jss_cons (js_for (vs := [3]) ctx_po rfl (ji_range2 (ja_cons je_int (ja_cons (je_bin jo_add (je_bin jo_sub (je_var 1) (je_var 0)) je_int) ja_nil)) (fr_range G)) (jg_name (i := 3) nd) (jss_one (js_expr (je_extend (je_var 2) (ja_cons (je_fz (jf_lc (own := [("rest", 4)]) rfl nd (blkOk_by (by kernel_rfl)) (ji_seq (je_call (ok_all_weights_r1 G) hr ctx_px (ja_cons (je_bin jo_sub (je_var 0) je_int) (ja_cons (je_bin jo_sub (je_var 1) (je_var 3)) ja_nil)))) (fun _ _ _ _ _ => (jg_name (i := 4) nd)) (fun _ _ _ _ _ => jts_nil) (fun _ _ _ _ _ => (je_bin jo_add (je_tup (ja_cons (je_var 3) ja_nil)) (je_var 4))))) ja_nil)))))
    (jss_one (js_ret (je_frz (je_var 2)))))))
theorem sc_all_weights_r3 : FnScope ["things", "total", "found", "first", "rest"] ["things", "total"] (defScope (top 35)) := ⟨rfl, rfl, rfl, by decide +kernel, rfl, by decide +kernel, by decide +kernel⟩
theorem ok_all_weights_r3 (G : Fx fa fn qs K mg) : Cl P w K mg base 4 "all_weights" 2 f_all_weights_r3 := by
  obtain ⟨fd, F⟩ := G.def_ 29 (d := d29) rfl rfl rfl
  refine cl_of F (G.glo 29 rfl) (F.bindsN fun _ _ _ _ _ _ us hl => match us, hl with | [_, _], _ => rfl) (fn_body (N := ["things", "total", "found", "first", "rest"]) (ps := ["things", "total"]) F sc_all_weights_r3 fun cdv A outer s H E hr => ?_)
  have nd := sc_all_weights_r3.nd
  exact (jss_cons (js_if (jt_cmp (jo_eq hr.units) (je_var 0) je_int) (jss_one (js_ret (je_fz (jf_lst (ja_cons (je_tup (ja_cons (je_var 1) ja_nil)) ja_nil))))) jss_nil)
    (jss_cons (js_set 2 nd (je_ow (jf_lst ja_nil)))
    (jss_cons (js_for (vs := [3]) ctx_po rfl (ji_range2 (ja_cons je_int (ja_cons (je_bin jo_add (je_bin jo_sub (je_var 1) (je_var 0)) je_int) ja_nil)) (fr_range G)) (jg_name (i := 3) nd) (jss_one (js_expr (je_extend (je_var 2) (ja_cons (je_fz (jf_lc (own := [("rest", 4)]) rfl nd (blkOk_by (by kernel_rfl)) (ji_seq (je_call (ok_all_weights_r2 G) hr ctx_px (ja_cons (je_bin jo_sub (je_var 0) je_int) (ja_cons (je_bin jo_sub (je_var 1) (je_var 3)) ja_nil)))) (fun _ _ _ _ _ => (jg_name (i := 4) nd)) (fun _ _ _ _ _ => jts_nil) (fun _ _ _ _ _ => (je_bin jo_add (je_tup (ja_cons (je_var 3) ja_nil)) (je_var 4))))) ja_nil)))))
    (jss_one (js_ret (je_frz (je_var 2)))))))
theorem sc_all_weights : FnScope ["things", "total", "found", "first", "rest"] ["things", "total"] (defScope (top 35)) := ⟨rfl, rfl, rfl, by decide +kernel, rfl, by decide +kernel, by decide +kernel⟩
theorem ok_all_weights (G : Fx fa fn qs K mg) : Cl P w K mg base 5 "all_weights" 2 f_all_weights := by
  obtain ⟨fd, F⟩ := G.def_ 29 (d := d29) rfl rfl rfl
  refine cl_of F (G.glo 29 rfl) (F.bindsN fun _ _ _ _ _ _ us hl => match us, hl with | [_, _], _ => rfl) (fn_body (N := ["things", "total", "found", "first", "rest"]) (ps := ["things", "total"]) F sc_all_weights fun cdv A outer s H E hr => ?_)
  have nd := sc_all_weights.nd
  exact (jss_cons (js_if (jt_cmp (jo_eq hr.units) (je_var 0) je_int) (jss_one (js_ret (je_fz (jf_lst (ja_cons (je_tup (ja_cons (je_var 1) ja_nil)) ja_nil))))) jss_nil)
    (jss_cons (js_set 2 nd (je_ow (jf_lst ja_nil)))
    (jss_cons (js_for (vs := [3]) ctx_po rfl (ji_range2 (ja_cons je_int (ja_cons (je_bin jo_add (je_bin jo_sub (je_var 1) (je_var 0)) je_int) ja_nil)) (fr_range G)) (jg_name (i := 3) nd) (jss_one (js_expr (je_extend (je_var 2) (ja_cons (je_fz (jf_lc (own := [("rest", 4)]) rfl nd (blkOk_by (by kernel_rfl)) (ji_seq (je_call (ok_all_weights_r3 G) hr ctx_px (ja_cons (je_bin jo_sub (je_var 0) je_int) (ja_cons (je_bin jo_sub (je_var 1) (je_var 3)) ja_nil)))) (fun _ _ _ _ _ => (jg_name (i := 4) nd)) (fun _ _ _ _ _ => jts_nil) (fun _ _ _ _ _ => (je_bin jo_add (je_tup (ja_cons (je_var 3) ja_nil)) (je_var 4))))) ja_nil)))))
    (jss_one (js_ret (je_frz (je_var 2)))))))
theorem sc_found_weight : FnScope ["weights", "lot", "thing"] ["weights", "lot"] (defScope (top 21)) := ⟨rfl, rfl, rfl, by decide +kernel, rfl, by decide +kernel, by decide +kernel⟩
theorem ok_found_weight (G : Fx fa fn qs K mg) : Cl P w K mg base 1 "found_weight" 2 f_found_weight := by
  obtain ⟨fd, F⟩ := G.def_ 30 (d := d30) rfl rfl rfl
  refine cl_of F (G.glo 30 rfl) (F.bindsN fun _ _ _ _ _ _ us hl => match us, hl with | [_, _], _ => rfl) (fn_body (N := ["weights", "lot", "thing"]) (ps := ["weights", "lot"]) F sc_found_weight fun cdv A outer s H E hr => ?_)
  have nd := sc_found_weight.nd
  exact (jss_one (js_ret (je_callB (jc_sum rfl) (ja_cons (je_fz (jf_lc (own := [("thing", 2)]) rfl nd (blkOk_by (by kernel_rfl)) (ji_seq (je_var 1)) (fun _ _ _ _ _ => (jg_name (i := 2) nd)) (fun _ _ _ _ _ => jts_nil) (fun _ _ _ _ _ => (je_ix jx_ix (je_var 0) (je_var 2))))) ja_nil) (fr_sum G) (by decide +kernel))))
theorem sc_does_hold : FnScope ["weights", "comparison", "one", "sign", "other", "more"] ["weights", "comparison"] (defScope (top 22)) := ⟨rfl, rfl, rfl, by decide +kernel, rfl, by decide +kernel, by decide +kernel⟩
theorem ok_does_hold (G : Fx fa fn qs K mg) : Cl P w K mg base 2 "does_hold" 2 f_does_hold := by
  obtain ⟨fd, F⟩ := G.def_ 31 (d := d31) rfl rfl rfl
  refine cl_of F (G.glo 31 rfl) (F.bindsN fun _ _ _ _ _ _ us hl => match us, hl with | [_, _], _ => rfl) (fn_body (N := ["weights", "comparison", "one", "sign", "other", "more"]) (ps := ["weights", "comparison"]) F sc_does_hold fun cdv A outer s H E hr => ?_)
  have nd := sc_does_hold.nd
  exact (jss_cons (js_asg (vs := [2, 3, 4]) (je_var 1) (jg_tup rfl (jgs_cons (jg_name (i := 2) nd) (jgs_cons (jg_name (i := 3) nd) (jgs_cons (jg_name (i := 4) nd) jgs_nil)))))
    (jss_cons (js_set 5 nd (je_bin jo_sub (je_call (ok_found_weight G) hr ctx_px (ja_cons (je_var 0) (ja_cons (je_var 2) ja_nil))) (je_call (ok_found_weight G) hr ctx_px (ja_cons (je_var 0) (ja_cons (je_var 4) ja_nil)))))
    (jss_one (js_ret (je_ifExp (jt_cmp (jo_ne hr.units) (je_var 3) je_str) (je_or (je_cmp jo_gtI (je_var 5) je_int) (je_one (je_and (je_cmp (jo_eq hr.units) (je_var 5) je_int) (je_one (je_cmp (jo_ne hr.units) (je_var 3) je_str))))) (je_cmp (jo_eq hr.units) (je_var 5) je_int))))))
theorem sc_do_agree : FnScope ["told", "weights", "one"] ["told", "weights"] (defScope (top 23)) := ⟨rfl, rfl, rfl, by decide +kernel, rfl, by decide +kernel, by decide +kernel⟩
theorem ok_do_agree (G : Fx fa fn qs K mg) : Cl P w K mg base 3 "do_agree" 2 f_do_agree := by
  obtain ⟨fd, F⟩ := G.def_ 32 (d := d32) rfl rfl rfl
  refine cl_of F (G.glo 32 rfl) (F.bindsN fun _ _ _ _ _ _ us hl => match us, hl with | [_, _], _ => rfl) (fn_body (N := ["told", "weights", "one"]) (ps := ["told", "weights"]) F sc_do_agree fun cdv A outer s H E hr => ?_)
  have nd := sc_do_agree.nd
  exact (jss_one (js_ret (je_callB (jc_all rfl) (ja_cons (je_fz (jf_lc (own := [("one", 2)]) rfl nd (blkOk_by (by kernel_rfl)) (ji_seq (je_var 0)) (fun _ _ _ _ _ => (jg_name (i := 2) nd)) (fun _ _ _ _ _ => jts_nil) (fun _ _ _ _ _ => (je_call (ok_does_hold G) hr passL (ja_cons (je_var 1) (ja_cons (je_var 2) ja_nil)))))) ja_nil) (fr_all G) (by decide +kernel))))
theorem sc_least_weights : FnScope ["things", "told", "total", "weights"] ["things", "told"] (defScope (top 36)) := ⟨rfl, rfl, rfl, by decide +kernel, rfl, by decide +kernel, by decide +kernel⟩
theorem ok_least_weights (G : Fx fa fn qs K mg) : Cl P w K mg base 7 "least_weights" 2 f_least_weights := by
  obtain ⟨fd, F⟩ := G.def_ 33 (d := d33) rfl rfl rfl
  refine cl_of F (G.glo 33 rfl) (F.bindsN fun _ _ _ _ _ _ us hl => match us, hl with | [_, _], _ => rfl) (fn_body (N := ["things", "told", "total", "weights"]) (ps := ["things", "told"]) F sc_least_weights fun cdv A outer s H E hr => ?_)
  have nd := sc_least_weights.nd
  exact (jss_cons (js_expr (je_call (ok_check_told G) hr ctx_px (ja_cons (je_var 0) (ja_cons (je_var 1) ja_nil))))
    (jss_cons (js_if (jt_cmp jo_gtI (je_var 0) je_int) (jss_one (js_raise rfl ctx_tk (G.exc "TooMany" (by decide)))) jss_nil)
    (jss_cons (js_if (jt_cmp jo_is (je_ix jx_ix (je_call (ok_solved G) hr ctx_px (ja_cons (je_var 0) (ja_cons (je_var 1) ja_nil))) je_int) je_non) (jss_one (js_ret je_non)) jss_nil)
    (jss_cons (js_set 2 nd (je_var 0))
    (jss_one (js_while 1099511627776 ctx_po (jt_val je_bl) (jss_cons (js_for (vs := [3]) ctx_po rfl (ji_seq (je_call (ok_all_weights G) hr ctx_px (ja_cons (je_var 0) (ja_cons (je_var 2) ja_nil)))) (jg_name (i := 3) nd) (jss_one (js_if (jt_val (je_call (ok_do_agree G) hr ctx_px (ja_cons (je_var 1) (ja_cons (je_var 3) ja_nil)))) (jss_one (js_ret (je_var 3))) jss_nil)))
    (jss_one (js_set 2 nd (je_bin jo_add (je_var 2) je_int))))))))))
theorem sc_are_weights : FnScope ["value", "one"] ["value"] (defScope (top 18)) := ⟨rfl, rfl, rfl, by decide +kernel, rfl, by decide +kernel, by decide +kernel⟩
theorem ok_are_weights (G : Fx fa fn qs K mg) : Cl P w K mg base 1 "are_weights" 1 f_are_weights := by
  obtain ⟨fd, F⟩ := G.def_ 34 (d := d34) rfl rfl rfl
  refine cl_of F (G.glo 34 rfl) (F.bindsN fun _ _ _ _ _ _ us hl => match us, hl with | [_], _ => rfl) (fn_body (N := ["value", "one"]) (ps := ["value"]) F sc_are_weights fun cdv A outer s H E hr => ?_)
  have nd := sc_are_weights.nd
  exact (jss_cons (js_if (JW.jt (jw_or (jt_not (jt_val (je_isi .tup (je_var 0) (fr_isinstance G) (fr_tuple G) (by decide +kernel)))) (jw_or1 (jt_not (jt_chain jo_leI jo_leI je_int (je_callB jc_len (ja_cons (je_var 0) ja_nil) (fr_len G) PySem.boot_len) je_int))))) (jss_one (js_ret je_bl)) jss_nil)
    (jss_one (js_ret (je_callB (jc_all rfl) (ja_cons (je_fz (jf_lc (own := [("one", 1)]) rfl nd (blkOk_by (by kernel_rfl)) (ji_seq (je_var 0)) (fun _ _ _ _ _ => (jg_name (i := 1) nd)) (fun _ _ _ _ _ => jts_nil) (fun _ _ _ _ _ => (je_and (je_isi .int (je_var 1) (fr_isinstance G) (fr_int G) (by decide +kernel)) (je_and (je_not (je_isi .bl (je_var 1) (fr_isinstance G) (fr_bool G) (by decide +kernel))) (je_one (je_cmp jo_gtI (je_var 1) je_int))))))) ja_nil) (fr_all G) (by decide +kernel)))))
theorem sc_agrees : FnScope ["things", "told", "weights"] ["things", "told", "weights"] (defScope (top 24)) := ⟨rfl, rfl, rfl, by decide +kernel, rfl, by decide +kernel, by decide +kernel⟩
theorem ok_agrees (G : Fx fa fn qs K mg) : Cl P w K mg base 6 "agrees" 3 f_agrees := by
  obtain ⟨fd, F⟩ := G.def_ 35 (d := d35) rfl rfl rfl
  refine cl_of F (G.glo 35 rfl) (F.bindsN fun _ _ _ _ _ _ us hl => match us, hl with | [_, _, _], _ => rfl) (fn_body (N := ["things", "told", "weights"]) (ps := ["things", "told", "weights"]) F sc_agrees fun cdv A outer s H E hr => ?_)
  have nd := sc_agrees.nd
  exact (jss_cons (js_expr (je_call (ok_check_told G) hr ctx_px (ja_cons (je_var 0) (ja_cons (je_var 1) ja_nil))))
    (jss_cons (js_if (JW.jt (jw_or (jt_not (jt_val (je_call (ok_are_weights G) hr ctx_px (ja_cons (je_var 2) ja_nil)))) (jw_or1 (jt_cmp (jo_ne hr.units) (je_callB jc_len (ja_cons (je_var 2) ja_nil) (fr_len G) PySem.boot_len) (je_var 0))))) (jss_one (js_raise rfl ctx_tk (G.exc "InvalidWeights" (by decide)))) jss_nil)
    (jss_one (js_ret (je_call (ok_do_agree G) hr ctx_px (ja_cons (je_var 1) (ja_cons (je_var 2) ja_nil)))))))
theorem sc__law_moved : FnScope ["names", "lot", "k"] ["names", "lot"] (defScope (top 49)) := ⟨rfl, rfl, rfl, by decide +kernel, rfl, by decide +kernel, by decide +kernel⟩
theorem ok__law_moved (G : Fx fa fn qs K mg) : Cl P w K mg base 1 "_law_moved" 2 f__law_moved := by
  obtain ⟨fd, F⟩ := G.def_ 36 (d := d36) rfl rfl rfl
  refine cl_of F (G.glo 36 rfl) (F.bindsN fun _ _ _ _ _ _ us hl => match us, hl with | [_, _], _ => rfl) (fn_body (N := ["names", "lot", "k"]) (ps := ["names", "lot"]) F sc__law_moved fun cdv A outer s H E hr => ?_)
  have nd := sc__law_moved.nd
  exact (jss_one (js_ret (je_callTy jc_tuple (ja_cons (je_fz (jf_sorted hr.units (je_fz (jf_lc (own := [("k", 2)]) rfl nd (blkOk_by (by kernel_rfl)) (ji_seq (je_var 1)) (fun _ _ _ _ _ => (jg_name (i := 2) nd)) (fun _ _ _ _ _ => jts_nil) (fun _ _ _ _ _ => (je_ix jx_ixT (je_var 0) (je_var 2))))) (fr_sorted G))) ja_nil) (fr_tuple G) (by decide +kernel))))
theorem sc_does_balance : FnScope ["things", "told", "value", "rows", "excess", "one", "comparison", "thing", "row"] ["things", "told", "value"] (defScope (top 34)) := ⟨rfl, rfl, rfl, by decide +kernel, rfl, by decide +kernel, by decide +kernel⟩
theorem ok_does_balance (G : Fx fa fn qs K mg) : Cl P w K mg base 2 "does_balance" 3 f_does_balance := by
  obtain ⟨fd, F⟩ := G.def_ 37 (d := d37) rfl rfl rfl
  refine cl_of F (G.glo 37 rfl) (F.bindsN fun _ _ _ _ _ _ us hl => match us, hl with | [_, _, _], _ => rfl) (fn_body (N := ["things", "told", "value", "rows", "excess", "one", "comparison", "thing", "row"]) (ps := ["things", "told", "value"]) F sc_does_balance fun cdv A outer s H E hr => ?_)
  have nd := sc_does_balance.nd
  exact (jss_cons (js_if (JW.jt (jw_or (jt_not (jt_val (je_isi .tup (je_var 2) (fr_isinstance G) (fr_tuple G) (by decide +kernel)))) (jw_or1 (jt_cmp (jo_ne hr.units) (je_callB jc_len (ja_cons (je_var 2) ja_nil) (fr_len G) PySem.boot_len) (je_callB jc_len (ja_cons (je_var 1) ja_nil) (fr_len G) PySem.boot_len))))) (jss_one (js_ret je_bl)) jss_nil)
    (jss_cons (js_if (jt_not (jt_val (je_callB (jc_all rfl) (ja_cons (je_fz (jf_lc (own := [("one", 5)]) rfl nd (blkOk_by (by kernel_rfl)) (ji_seq (je_var 2)) (fun _ _ _ _ _ => (jg_name (i := 5) nd)) (fun _ _ _ _ _ => jts_nil) (fun _ _ _ _ _ => (je_and (je_isi .int (je_var 5) (fr_isinstance G) (fr_int G) (by decide +kernel)) (je_one (je_not (je_isi .bl (je_var 5) (fr_isinstance G) (fr_bool G) (by decide +kernel)))))))) ja_nil) (fr_all G) (by decide +kernel)))) (jss_one (js_ret je_bl)) jss_nil)
    (jss_cons (js_if (jt_not (jt_val (je_callB (jc_all rfl) (ja_cons (je_fz (jf_lc (own := [("one", 5), ("comparison", 6)]) rfl nd (blkOk_by (by kernel_rfl)) (ji_zip (ja_cons (je_var 2) (ja_cons (je_var 1) ja_nil)) (fr_zip G)) (fun _ _ _ _ _ => (jg_tup rfl (jgs_cons (jg_name (i := 5) nd) (jgs_cons (jg_name (i := 6) nd) jgs_nil)))) (fun _ _ _ _ _ => jts_nil) (fun _ _ _ _ _ => (je_or (je_cmp jo_geI (je_var 5) je_int) (je_one (je_cmp (jo_eq hr.units) (je_ix jx_ix (je_var 6) je_int) je_str)))))) ja_nil) (fr_all G) (by decide +kernel)))) (jss_one (js_ret je_bl)) jss_nil)
    (jss_cons (js_set 3 nd (je_fz (jf_lc (own := [("comparison", 6)]) rfl nd (blkOk_by (by kernel_rfl)) (ji_seq (je_var 1)) (fun _ _ _ _ _ => (jg_name (i := 6) nd)) (fun _ _ _ _ _ => jts_nil) (fun _ _ _ _ _ => (je_call (ok_row_of G) hr passL (ja_cons (je_var 0) (ja_cons (je_var 6) ja_nil)))))))
    (jss_cons (js_setLc (i := 4) (own := [("thing", 7)]) rfl nd (blkOk_by (by kernel_rfl)) (ji_range1 (ja_cons (je_var 0) ja_nil) (fr_range G)) (fun _ _ _ _ _ => (jg_name (i := 7) nd)) (fun _ _ _ _ _ => jts_nil) (fun _ _ _ _ _ => (je_callB (jc_sum rfl) (ja_cons (je_fz (jf_lc (own := [("one", 5), ("row", 8)]) rfl nd (blkOk_by (by kernel_rfl)) (ji_zip (ja_cons (je_var 2) (ja_cons (je_var 3) ja_nil)) (fr_zip G)) (fun _ _ _ _ _ => (jg_tup rfl (jgs_cons (jg_name (i := 5) nd) (jgs_cons (jg_name (i := 8) nd) jgs_nil)))) (fun _ _ _ _ _ => jts_nil) (fun _ _ _ _ _ => (je_bin jo_mul (je_var 5) (je_ix jx_ix (je_var 8) (je_var 7)))))) ja_nil) (fr_sum G) (by decide +kernel))))
    (jss_cons (js_if (jt_cmp jo_gtI (je_callB (jc_max rfl) (ja_cons (je_var 4) ja_nil) (fr_max G) (by decide +kernel)) je_int) (jss_one (js_ret je_bl)) jss_nil)
    (jss_one (js_ret (je_or (je_cmp (jo_lt hr.units0) (je_callB (jc_min rfl) (ja_cons (je_var 4) ja_nil) (fr_min G) (by decide +kernel)) je_int) (je_one (je_callB (jc_any rfl) (ja_cons (je_fz (jf_lc (own := [("one", 5), ("comparison", 6)]) rfl nd (blkOk_by (by kernel_rfl)) (ji_zip (ja_cons (je_var 2) (ja_cons (je_var 1) ja_nil)) (fr_zip G)) (fun _ _ _ _ _ => (jg_tup rfl (jgs_cons (jg_name (i := 5) nd) (jgs_cons (jg_name (i := 6) nd) jgs_nil)))) (fun _ _ _ _ _ => jts_nil) (fun _ _ _ _ _ => (je_and (je_cmp jo_gtI (je_var 5) je_int) (je_one (je_cmp (jo_eq hr.units) (je_ix jx_ix (je_var 6) je_int) je_str)))))) ja_nil) (fr_any G) (by decide +kernel))))))))))))
theorem sc_is_balance : FnScope ["things", "told", "value"] ["things", "told", "value"] (defScope (top 33)) := ⟨rfl, rfl, rfl, by decide +kernel, rfl, by decide +kernel, by decide +kernel⟩
theorem ok_is_balance (G : Fx fa fn qs K mg) : Cl P w K mg base 6 "is_balance" 3 f_is_balance := by
  obtain ⟨fd, F⟩ := G.def_ 38 (d := d38) rfl rfl rfl
  refine cl_of F (G.glo 38 rfl) (F.bindsN fun _ _ _ _ _ _ us hl => match us, hl with | [_, _, _], _ => rfl) (fn_body (N := ["things", "told", "value"]) (ps := ["things", "told", "value"]) F sc_is_balance fun cdv A outer s H E hr => ?_)
  have nd := sc_is_balance.nd
  exact (jss_cons (js_expr (je_call (ok_check_told G) hr ctx_px (ja_cons (je_var 0) (ja_cons (je_var 1) ja_nil))))
    (jss_one (js_ret (je_call (ok_does_balance G) hr ctx_px (ja_cons (je_var 0) (ja_cons (je_var 1) (ja_cons (je_var 2) ja_nil)))))))
theorem sc_some_numbers : FnScope ["many", "size", "rows", "time", "row", "one"] ["many", "size"] (defScope (top 37)) := ⟨rfl, rfl, rfl, by decide +kernel, rfl, by decide +kernel, by decide +kernel⟩
theorem ok_some_numbers (G : Fx fa fn qs K mg) : Cl P w K mg base 1 "some_numbers" 2 f_some_numbers := by
  obtain ⟨fd, F⟩ := G.def_ 39 (d := d39) rfl rfl rfl
  refine cl_of F (G.glo 39 rfl) (F.bindsN fun _ _ _ _ _ _ us hl => match us, hl with | [_, _], _ => rfl) (fn_body (N := ["many", "size", "rows", "time", "row", "one"]) (ps := ["many", "size"]) F sc_some_numbers fun cdv A outer s H E hr => ?_)
  have nd := sc_some_numbers.nd
  exact (jss_cons (js_set 2 nd (je_fz (jf_lst (ja_cons (je_tup ja_nil) ja_nil))))
    (jss_cons (js_for (vs := [3]) ctx_po rfl (ji_range1 (ja_cons (je_var 1) ja_nil) (fr_range G)) (jg_name (i := 3) nd) (jss_one (js_setLc2 (i := 2) (own := [("row", 4), ("one", 5)]) (vs1 := [5]) rfl nd (blkOk_by (by kernel_rfl)) (by decide) (ji_seq (je_var 2)) (fun _ _ _ _ _ => (jg_name (i := 4) nd)) (fun _ _ _ _ _ => jts_nil) (fun _ _ _ _ _ => (ji_range1 (ja_cons (je_var 0) ja_nil) (fr_range G))) (fun _ _ _ _ _ => (jg_name (i := 5) nd)) (fun _ _ _ _ _ => (jts_one (JW.jt (jw_or (jt_cmp (jo_eq hr.units) (je_var 4) (je_tup ja_nil)) (jw_or1 (jt_cmp (jo_lt hr.units0) (je_ix jx_ix (je_var 4) (je_neg je_int)) (je_var 5))))))) (fun _ _ _ _ _ => (je_bin jo_add (je_var 4) (je_tup (ja_cons (je_var 5) ja_nil)))))))
    (jss_one (js_ret (je_var 2)))))
theorem sc_clash : FnScope ["things", "told", "size", "numbers", "k"] ["things", "told"] (defScope (top 38)) := ⟨rfl, rfl, rfl, by decide +kernel, rfl, by decide +kernel, by decide +kernel⟩
theorem ok_clash (G : Fx fa fn qs K mg) : Cl P w K mg base 7 "clash" 2 f_clash := by
  obtain ⟨fd, F⟩ := G.def_ 40 (d := d40) rfl rfl rfl
  refine cl_of F (G.glo 40 rfl) (F.bindsN fun _ _ _ _ _ _ us hl => match us, hl with | [_, _], _ => rfl) (fn_body (N := ["things", "told", "size", "numbers", "k"]) (ps := ["things", "told"]) F sc_clash fun cdv A outer s H E hr => ?_)
  have nd := sc_clash.nd
  exact (jss_cons (js_expr (je_call (ok_check_told G) hr ctx_px (ja_cons (je_var 0) (ja_cons (je_var 1) ja_nil))))
    (jss_cons (js_if (jt_cmp jo_isnot (je_ix jx_ix (je_call (ok_solved G) hr ctx_px (ja_cons (je_var 0) (ja_cons (je_var 1) ja_nil))) je_int) je_non) (jss_one (js_ret je_non)) jss_nil)
    (jss_cons (js_for (vs := [2]) ctx_po rfl (ji_range2 (ja_cons je_int (ja_cons (je_bin jo_add (je_callB jc_len (ja_cons (je_var 1) ja_nil) (fr_len G) PySem.boot_len) je_int) ja_nil)) (fr_range G)) (jg_name (i := 2) nd) (jss_one (js_for (vs := [3]) ctx_po rfl (ji_seq (je_call (ok_some_numbers G) hr ctx_px (ja_cons (je_callB jc_len (ja_cons (je_var 1) ja_nil) (fr_len G) PySem.boot_len) (ja_cons (je_var 2) ja_nil)))) (jg_name (i := 3) nd) (jss_one (js_if (jt_cmp jo_is (je_ix jx_ix (je_call (ok_solved G) hr ctx_px (ja_cons (je_var 0) (ja_cons (je_callTy jc_tuple (ja_cons (je_fz (jf_lc (own := [("k", 4)]) rfl nd (blkOk_by (by kernel_rfl)) (ji_seq (je_var 3)) (fun _ _ _ _ _ => (jg_name (i := 4) nd)) (fun _ _ _ _ _ => jts_nil) (fun _ _ _ _ _ => (je_ix jx_ix (je_var 1) (je_var 4))))) ja_nil) (fr_tuple G) (by decide +kernel)) ja_nil))) je_int) je_non) (jss_one (js_ret (je_var 3))) jss_nil)))))
    (jss_one (js_ret je_non)))))
theorem sc_law : FnScope ["script", "town", "things", "told", "names", "moved", "found", "paper", "least", "second", "scale", "turned", "strict", "both", "even", "one", "sign", "other", "k"] ["script"] (defScope (top 50)) := ⟨rfl, rfl, rfl, by decide +kernel, rfl, by decide +kernel, by decide +kernel⟩
theorem law_fn (G : Fx fa fn qs K mg) {fd : FuncData} (F : FunD K "law" "law" (defArgs (top 50)) (defBody (top 50)) (defScope (top 50)) [] [] (He.ga K "law") fd) : FnOk P w K mg base (L2.CX P w) 8 (He.ga K "law") fd ["script"] (spF K mg 1 f_law) := by
  refine fn_body (N := ["script", "town", "things", "told", "names", "moved", "found", "paper", "least", "second", "scale", "turned", "strict", "both", "even", "one", "sign", "other", "k"]) (ps := ["script"]) F sc_law fun cdv A outer s H E hr => ?_
  have nd := sc_law.nd
  exact (jss_cons (js_set 1 nd (je_call (ok__law_town G) hr ctx_px (ja_cons (je_var 0) ja_nil)))
    (jss_cons (js_set 2 nd (je_bin jo_add je_int (je_call (ok__law_draw G) hr ctx_px (ja_cons (je_var 0) (ja_cons (je_var 1) (ja_cons je_int ja_nil))))))
    (jss_cons (js_asg (vs := [3, 4]) (je_tup (ja_cons (je_call (ok__law_told G) hr ctx_px (ja_cons (je_var 0) (ja_cons (je_var 1) (ja_cons (je_var 2) (ja_cons je_int ja_nil))))) (ja_cons (je_call (ok__law_order G) hr ctx_px (ja_cons (je_var 0) (ja_cons (je_var 1) (ja_cons (je_var 2) ja_nil)))) ja_nil))) (jg_tup rfl (jgs_cons (jg_name (i := 3) nd) (jgs_cons (jg_name (i := 4) nd) jgs_nil))))
    (jss_cons (js_set 5 nd (je_callTy jc_tuple (ja_cons (je_fz (jf_lc (own := [("one", 15), ("sign", 16), ("other", 17)]) rfl nd (blkOk_by (by kernel_rfl)) (ji_seq (je_var 3)) (fun _ _ _ _ _ => (jg_tup rfl (jgs_cons (jg_name (i := 15) nd) (jgs_cons (jg_name (i := 16) nd) (jgs_cons (jg_name (i := 17) nd) jgs_nil))))) (fun _ _ _ _ _ => jts_nil) (fun _ _ _ _ _ => (je_tup (ja_cons (je_call (ok__law_moved G) hr passL (ja_cons (je_var 4) (ja_cons (je_var 15) ja_nil))) (ja_cons (je_var 16) (ja_cons (je_call (ok__law_moved G) hr passL (ja_cons (je_var 4) (ja_cons (je_var 17) ja_nil))) ja_nil))))))) ja_nil) (fr_tuple G) (by decide +kernel)))
    (jss_cons (js_asg (vs := [6, 7]) (je_tup (ja_cons (je_call (ok_some_weights G) hr ctx_px (ja_cons (je_var 2) (ja_cons (je_var 3) ja_nil))) (ja_cons (je_call (ok_balance G) hr ctx_px (ja_cons (je_var 2) (ja_cons (je_var 3) ja_nil))) ja_nil))) (jg_tup rfl (jgs_cons (jg_name (i := 6) nd) (jgs_cons (jg_name (i := 7) nd) jgs_nil))))
    (jss_cons (js_par (i := 8) (j := 9) rfl nd (ja_cons (je_call (ok_least_weights G) hr ctx_px (ja_cons (je_var 2) (ja_cons (je_var 3) ja_nil))) (ja_cons (je_call (ok_least_weights G) hr ctx_px (ja_cons (je_var 2) (ja_cons (je_var 5) ja_nil))) ja_nil)))
    (jss_cons (js_if (JW.jt (jw_or (jt_cmp (jo_ne hr.units) (je_cmp jo_is (je_var 8) je_non) (je_cmp jo_is (je_var 9) je_non)) (jw_or1 (jt_cmp (jo_ne hr.units) (je_cmp jo_is (je_call (ok_some_weights G) hr ctx_px (ja_cons (je_var 2) (ja_cons (je_var 5) ja_nil))) je_non) (je_cmp jo_is (je_var 6) je_non))))) (jss_one (js_ret je_bl)) jss_nil)
    (jss_cons (js_if (jt_cmp jo_isnot (je_var 7) je_non) (jss_cons (js_if (JW.jt (jw_or (jt_cmp jo_isnot (je_call (ok_is_balance G) hr ctx_px (ja_cons (je_var 2) (ja_cons (je_var 5) (ja_cons (je_var 7) ja_nil)))) je_bl) (jw_or1 (jt_cmp jo_isnot (je_call (ok_is_balance G) hr ctx_px (ja_cons (je_var 2) (ja_cons (je_back (je_var 3)) (ja_cons (je_back (je_var 7)) ja_nil)))) je_bl)))) (jss_one (js_ret je_bl)) jss_nil)
    (jss_one (js_ret (je_and (je_cmp jo_is (je_call (ok_some_weights G) hr ctx_px (ja_cons (je_var 2) (ja_cons (je_bin jo_add (je_var 3) (je_var 3)) ja_nil))) je_non) (je_one (je_cmp (jo_eq hr.units) (je_call (ok_clash G) hr ctx_px (ja_cons (je_var 2) (ja_cons (je_bin jo_add (je_var 3) (je_var 3)) ja_nil))) (je_call (ok_clash G) hr ctx_px (ja_cons (je_var 2) (ja_cons (je_var 3) ja_nil))))))))) jss_nil)
    (jss_cons (js_if (JW.jt (jw_or (jt_cmp (jo_ne hr.units) (je_callB (jc_sumA rfl) (ja_cons (je_var 8) ja_nil) (fr_sum G) (by decide +kernel)) (je_callB (jc_sumA rfl) (ja_cons (je_var 9) ja_nil) (fr_sum G) (by decide +kernel))) (jw_or1 (jt_cmp jo_isnot (je_call (ok_agrees G) hr ctx_px (ja_cons (je_var 2) (ja_cons (je_back (je_var 3)) (ja_cons (je_var 8) ja_nil)))) je_bl)))) (jss_one (js_ret je_bl)) jss_nil)
    (jss_cons (js_set 10 nd (je_callTy jc_tuple (ja_cons (je_fz (jf_lc (own := [("k", 18)]) rfl nd (blkOk_by (by kernel_rfl)) (ji_range1 (ja_cons (je_var 2) ja_nil) (fr_range G)) (fun _ _ _ _ _ => (jg_name (i := 18) nd)) (fun _ _ _ _ _ => jts_nil) (fun _ _ _ _ _ => (je_ix jx_ix (je_var 6) (je_idxT (je_var 4) (je_var 18)))))) ja_nil) (fr_tuple G) (by decide +kernel)))
    (jss_cons (js_if (JW.jt (jw_or (jt_cmp jo_isnot (je_call (ok_agrees G) hr ctx_px (ja_cons (je_var 2) (ja_cons (je_var 5) (ja_cons (je_var 10) ja_nil)))) je_bl) (jw_or1 (jt_cmp (jo_ne hr.units) (je_call (ok_least_weights G) hr ctx_px (ja_cons (je_var 2) (ja_cons (je_bin jo_add (je_var 3) (je_var 3)) ja_nil))) (je_var 8))))) (jss_one (js_ret je_bl)) jss_nil)
    (jss_cons (js_if (JW.jt (jw_and (jt_cmp (jo_lt hr.units0) (je_var 2) je_int) (jw_and1 (jt_cmp (jo_ne hr.units) (je_call (ok_least_weights G) hr ctx_px (ja_cons (je_bin jo_add (je_var 2) je_int) (ja_cons (je_var 3) ja_nil))) (je_bin jo_add (je_var 8) (je_tup (ja_cons je_int ja_nil))))))) (jss_one (js_ret je_bl)) jss_nil)
    (jss_cons (js_set 11 nd (je_callTy jc_tuple (ja_cons (je_fz (jf_lc (own := [("one", 15), ("sign", 16), ("other", 17)]) rfl nd (blkOk_by (by kernel_rfl)) (ji_seq (je_var 3)) (fun _ _ _ _ _ => (jg_tup rfl (jgs_cons (jg_name (i := 15) nd) (jgs_cons (jg_name (i := 16) nd) (jgs_cons (jg_name (i := 17) nd) jgs_nil))))) (fun _ _ _ _ _ => jts_nil) (fun _ _ _ _ _ => (je_tup (ja_cons (je_var 17) (ja_cons (je_var 16) (ja_cons (je_var 15) ja_nil))))))) ja_nil) (fr_tuple G) (by decide +kernel)))
    (jss_cons (js_setLc (i := 12) (own := [("k", 18)]) rfl nd (blkOk_by (by kernel_rfl)) (ji_range1 (ja_cons (je_callB jc_len (ja_cons (je_var 3) ja_nil) (fr_len G) PySem.boot_len) ja_nil) (fr_range G)) (fun _ _ _ _ _ => (jg_name (i := 18) nd)) (fun _ _ _ _ _ => (jts_one (jt_cmp (jo_eq hr.units) (je_ix jx_ix (je_ix jx_ix (je_var 3) (je_var 18)) je_int) je_str))) (fun _ _ _ _ _ => (je_var 18)))
    (jss_cons (js_set 13 nd (je_call (ok_some_weights G) hr ctx_px (ja_cons (je_var 2) (ja_cons (je_bin jo_add (je_var 3) (je_var 11)) ja_nil))))
    (jss_cons (js_if (jt_cmp jo_is (je_var 13) je_non) (jss_one (js_ret je_bl)) jss_nil)
    (jss_cons (js_setLc (i := 14) (own := [("one", 15), ("sign", 16), ("other", 17)]) rfl nd (blkOk_by (by kernel_rfl)) (ji_seq (je_var 3)) (fun _ _ _ _ _ => (jg_tup rfl (jgs_cons (jg_name (i := 15) nd) (jgs_cons (jg_name (i := 16) nd) (jgs_cons (jg_name (i := 17) nd) jgs_nil))))) (fun _ _ _ _ _ => jts_nil) (fun _ _ _ _ _ => (je_cmp (jo_eq hr.units) (je_call (ok__law_weight G) hr passL (ja_cons (je_var 13) (ja_cons (je_var 15) ja_nil))) (je_call (ok__law_weight G) hr passL (ja_cons (je_var 13) (ja_cons (je_var 17) ja_nil))))))
    (jss_one (js_ret (je_and (je_cmp (jo_eq hr.units) (je_var 12) (je_fz (jf_lst ja_nil))) (je_one (je_cmp (jo_nin (u65 hr)) je_bl (je_var 14)))))))))))))))))))))))
end
end Gk13
end
section
set_option Elab.async false
set_option linter.all false
set_option maxRecDepth 100000
set_option maxHeartbeats 0
namespace Gk13
open PySem PySem.Spec PyProof.Rows L2 Lq
abbrev R_ : PySem.W.OpenRow := PySem.W.OpenLaw.row PySem.Challenge.rw_lotscales_k13_weights_renamed
abbrev hk : PySem.W.Hook := hookM 4 fa fn qs
abbrev ob : PySem.W.SharedT → He.AlD × Bool := obM 4 fa fn qs
theorem run (w : World) : HandSHeadRun.RunEq R_ (PySem.W.view R_.prog [50]) hk ob 6000 loose w := by
  intro os
  kernel_rfl
end Gk13
end
section
set_option Elab.async false
set_option linter.all false
set_option maxRecDepth 10000
namespace Lq
open PySem PySem.Spec PyProof.Rows L2
def townF : Fn := runF 1
    (sRet (eOw (fAdd (eFz (fDisp (aCons (eC (.int 0)) aNil))) (eFz (fList (eVar 0))))))
def drawF : Fn := runF 6
    (sSeq (sAsg (eBin oAdd (eBin oIx (eVar 1) (eC (.int 0))) (eC (.int 1))) (gSubL (eVar 1) (eC (.int 0))))
    (sSeq (sIf (tE (eBin oEq (eVar 0) (eFz (fDisp aNil)))) (sRet (eBin oMod (eBin oDiv (eBin oMul (eBin oMul (eBin oIx (eVar 1) (eC (.int 0))) (eBin oIx (eVar 1) (eC (.int 0)))) (eC (.int 7))) (eC (.int 3))) (eVar 2))) sNil)
    (sSeq (sSet 3 (eBin oMod (eBin oIx (eVar 1) (eC (.int 0))) (eCB oLen (aCons (eVar 0) aNil))))
    (sSeq (sSet 4 (eBin oIx (eVar 1) (eBin oAdd (eC (.int 1)) (eVar 3))))
    (sSeq (sIf (tAndF (tE (eBin oGeI (eBin oIx (eVar 0) (eVar 3)) (eBin oPow (eC (.int 10)) (eC (.int 18))))) (tE (eBin oGtI (eVar 4) (eC (.int 0))))) (sSeq (sAsg (eBin oDiv (eVar 4) (eVar 2)) (gSubL (eVar 1) (eBin oAdd (eC (.int 1)) (eVar 3))))
    (sRet (eBin oMod (eVar 4) (eVar 2)))) sNil)
    (sSeq (sSet 5 (eBin oMod (eBin oAdd (eBin oIx (eVar 0) (eVar 3)) (eBin oMul (eC (.int 104729)) (eBin oIx (eVar 1) (eC (.int 0))))) (eC (.int 4294967291))))
    (sSeq (sSet 5 (eBin oMod (eBin oPow (eVar 5) (eC (.int 5))) (eC (.int 4294967279))))
    (sRet (eBin oMod (eBin oDiv (eBin oMod (eBin oAdd (eBin oMul (eBin oDiv (eVar 5) (eC (.int 64))) (eC (.int 69621))) (eVar 5)) (eC (.int 4294967231))) (eC (.int 8))) (eVar 2))))))))))
theorem b_ok {α β : Type} {a : α} {s : Store} {k : α → Store → R β} : (R.ok a s).bind k = k a s := rfl
def Town (ns : List Int) (k : Nat) (c : List PV) : Prop := ∃ (n : Int) (ls : List Int), c = (n :: ls).map PV.int ∧ ls.length = ns.length ∧ 0 ≤ n ∧ n ≤ (k : Int)
theorem dOks_ints (m : Nat) : ∀ ns : List Int, dOks m (ns.map PV.int) = true
  | [] => rfl
  | n :: r => by rw [List.map_cons, dOks, dOks_ints m r]; rfl
theorem noScrs_ints : ∀ ns : List Int, noScrs (ns.map PV.int) = true
  | [] => rfl
  | n :: r => by rw [List.map_cons, noScrs, noScrs_ints r]; rfl
theorem town_ok (ns : List Int) (hl : ns.length ≤ 63) : townF [.scr ns] [] = .ok (.own 0) [.lst ((0 :: ns).map PV.int)] := by
  have h : (1 + ns.length ≤ sizeLine) := by
    have : sizeLine = 16777216 := by decide
    omega
  simp [townF, runF, ret, env0, sRet, eOw, fAdd, eFz, fDisp, aCons, aNil, eC, fList, eVar, R.bind, asS, asL, asM, show (1 : Nat) ≤ sizeLine by decide]
  rw [if_pos (by omega)]
  rfl
theorem atI_nat {α : Type} {xs : List α} {i : Nat} {x : α} (h : xs[i]? = some x) : atI xs (i : Int) = some x := by
  have hi := (List.getElem?_eq_some_iff.mp h).1
  unfold atI ixN
  rw [if_pos (Int.natCast_nonneg _), if_pos (by omega)]
  simpa using h
theorem draw_ok {ns : List Int} {k t : Nat} {c : List PV} {st : Store} {lim : Int} (ht : st[t]? = some (.lst c)) (T : Town ns k c) (hk : k < 1000000) (hns : ns.length ≤ 63) (h0 : 0 < lim) (h1 : lim < 1000000) :
    ∃ d c', drawF [.scr ns, .own t, .int lim] st = .ok (.int d) (st.set t (.lst c')) ∧ 0 ≤ d ∧ d < lim ∧ Town ns (k + 1) c' := by
  obtain ⟨n, ls, rfl, hls, n0, nk⟩ := T
  have htl : t < st.length := (List.getElem?_eq_some_iff.mp ht).1
  have slog : ∀ x : Int, 0 ≤ x → x < 2 ^ 64 → x.natAbs.log2 < 9000 := fun x a b => by
    by_cases z : x.natAbs = 0
    · rw [z]; decide
    · have : x.natAbs < 2 ^ 64 := by omega
      exact Nat.lt_trans ((Nat.log2_lt z).mpr this) (by decide)
  have e0 : (env0 6 [.scr ns, .own t, .int lim] : Ev) = [some (.scr ns), some (.own t), some (.int lim), none, none, none] := rfl
  have c1 : (st.set t (.lst (((n + 1) :: ls).map PV.int)))[t]? = some (.lst (((n + 1) :: ls).map PV.int)) := by rw [List.getElem?_set_self htl]
  have ad : ∀ (a b : Int) (s : Store), oAdd (.int a) (.int b) s = some (.int (a + b)) := fun _ _ _ => rfl
  have ix0 : ∀ (a : Int) (s : Store), s[t]? = some (.lst ((a :: ls).map PV.int)) → oIx (.own t) (.int 0) s = some (.int a) := fun a s h => by
    simp [oIx, asS, asL, h, atI, ixN]
  unfold drawF runF
  rw [e0]
  have stepA : ∀ (rest : XS), sSeq (sAsg (eBin oAdd (eBin oIx (eVar 1) (eC (.int 0))) (eC (.int 1))) (gSubL (eVar 1) (eC (.int 0)))) rest [some (.scr ns), some (.own t), some (.int lim), none, none, none] st
      = rest [some (.scr ns), some (.own t), some (.int lim), none, none, none] (st.set t (.lst (((n + 1) :: ls).map PV.int))) := fun rest => by
    simp only [sSeq, sAsg, eBin, eVar, eC, b_ok, List.getElem?_cons_succ, List.getElem?_cons_zero, ix0 n st ht, ad, gSubL, ht]
    have : ixN ((n :: ls).map PV.int).length 0 = some 0 := by simp [ixN]
    rw [this]
    rfl
  rw [stepA]
  generalize hst1 : st.set t (.lst (((n + 1) :: ls).map PV.int)) = st1 at c1
  have stt : ∀ x, st1.set t x = st.set t x := fun x => by rw [← hst1, List.set_set]
  have ht1 : t < st1.length := by rw [← hst1]; simpa using htl
  have town1 : Town ns (k + 1) (((n + 1) :: ls).map PV.int) := ⟨n + 1, ls, rfl, hls, by omega, by omega⟩
  have eqS : oEq (.scr ns) (.lst []) st1 = some (.bl (peqs (ns.map PV.int) [])) := by
    have a1 : dChk (.lst (ns.map PV.int)) = true := by unfold dChk; rw [dOk, noScr, dOks_ints, noScrs_ints]; rfl
    have a2 : dChk (.lst []) = true := rfl
    unfold oEq
    simp only [rsv, a1, a2, Bool.and_self, if_true]
    rw [peq]
  have n63 : sizeLine = 16777216 := by decide
  have sm : ∀ x : Int, x = x % lim → 0 ≤ x ∧ x < lim := fun x hx => by
    have := Int.emod_nonneg x (show lim ≠ 0 by omega)
    have := Int.emod_lt_of_pos x h0
    omega
  have md : ∀ (x : Int), 0 ≤ x % lim ∧ x % lim < lim := fun x => ⟨Int.emod_nonneg x (by omega), Int.emod_lt_of_pos x h0⟩
  have mod_ : ∀ (x y : Int) (s : Store), 0 < y → oMod (.int x) (.int y) s = some (.int (x % y)) := fun x y s h => by simp [oMod, oI, h]
  have mul_ : ∀ (x y : Int) (s : Store), -(2 ^ 64) < y → y < 2 ^ 64 → oMul (.int x) (.int y) s = some (.int (x * y)) := fun x y s a b => by
    have : mulOk x y = true := by
      unfold mulOk
      simp only [Bool.or_eq_true, Bool.and_eq_true, decide_eq_true_eq]
      exact .inr (.inl ⟨a, b⟩)
    simp [oMul, oOr, oMulI, oI, this]
  have div_ : ∀ (x y : Int) (s : Store), 0 < y → y < 2 ^ 64 → oDiv (.int x) (.int y) s = some (.int (x / y)) := fun x y s a b => by
    simp [oDiv, oI, a, slog y (by omega) b]
  by_cases hn : ns = []
  · subst hn
    have r0 : peqs (([] : List Int).map PV.int) [] = true := rfl
    refine ⟨(n + 1) * (n + 1) * 7 / 3 % lim, ((n + 1) :: ls).map PV.int, ?_, (md _).1, (md _).2, town1⟩
    simp only [sSeq, sIf, tE, toB, eBin, eVar, eC, eFz, fDisp, aNil, b_ok, List.getElem?_cons_succ, List.getElem?_cons_zero, List.length_nil, Nat.zero_le, if_true, eqS, r0, sRet, ix0 (n + 1) st1 c1,
      mul_ (n + 1) (n + 1) st1 (by omega) (by omega), mul_ ((n + 1) * (n + 1)) 7 st1 (by omega) (by omega), div_ _ 3 st1 (by omega) (by omega), mod_ _ lim st1 h0, ret]
    rw [← hst1]
  · have r0 : peqs (ns.map PV.int) [] = false := by
      cases ns with
      | nil => exact absurd rfl hn
      | cons _ _ => simp [peqs]
    have lp : 0 < ns.length := List.length_pos_iff.mpr hn
    obtain ⟨j, hj⟩ : ∃ j : Nat, (n + 1) % (ns.length : Int) = (j : Int) := ⟨((n + 1) % (ns.length : Int)).toNat, by
      have := Int.emod_nonneg (n + 1) (show (ns.length : Int) ≠ 0 by omega)
      omega⟩
    have hjl : j < ns.length := by
      have := Int.emod_lt_of_pos (n + 1) (show (0 : Int) < (ns.length : Int) by omega)
      omega
    obtain ⟨x, hx⟩ : ∃ x, ns[j]? = some x := ⟨_, List.getElem?_eq_getElem hjl⟩
    obtain ⟨l, hlj⟩ : ∃ l, ls[j]? = some l := ⟨_, List.getElem?_eq_getElem (by omega)⟩
    have ixS : oIx (.scr ns) (.int (j : Int)) st1 = some (.int x) := by
      simp only [oIx, asS, asL]
      exact atI_nat (by simp [hx])
    have ixT : oIx (.own t) (.int (1 + (j : Int))) st1 = some (.int l) := by
      simp only [oIx, asS, asL, c1]
      have : (1 + (j : Int)) = ((j + 1 : Nat) : Int) := by omega
      rw [this]
      exact atI_nat (by simp [hlj])
    have lenS : oLen [.scr ns] st1 = some (.int (ns.length : Int)) := by
      simp [oLen, asS, asL]
    have pw : ∀ (x y : Int) (s : Store), 0 ≤ y → y ≤ 1000000 → x.natAbs < 2 ^ 64 → oPow (.int x) (.int y) s = some (.int (x ^ y.toNat)) := fun x y s a b c => by simp only [oPow, oI, a, b, c, and_self, if_true]
    have ge : ∀ (a b : Int) (s : Store), oGeI (.int a) (.int b) s = some (.bl (decide (b ≤ a))) := fun _ _ _ => rfl
    have gt : ∀ (a b : Int) (s : Store), oGtI (.int a) (.int b) s = some (.bl (decide (b < a))) := fun _ _ _ => rfl
    have ixw : ixN (((n + 1) :: ls).map PV.int).length (1 + (j : Int)) = some (j + 1) := by
      unfold ixN
      have : ((((n + 1) :: ls).map PV.int).length : Int) = (ls.length : Int) + 1 := by simp
      rw [if_pos (by omega), if_pos (by omega)]
      congr 1
      omega
    have stepB : ∀ (b : XS) (rest : XS), sSeq (sIf (tE (eBin oEq (eVar 0) (eFz (fDisp aNil)))) b sNil) rest [some (.scr ns), some (.own t), some (.int lim), none, none, none] st1
        = rest [some (.scr ns), some (.own t), some (.int lim), none, none, none] st1 := fun b rest => by
      simp only [sSeq, sIf, tE, toB, eBin, eVar, eC, eFz, fDisp, aNil, b_ok, List.getElem?_cons_succ, List.getElem?_cons_zero, List.length_nil, Nat.zero_le, if_true, eqS, r0, sNil]
      rfl
    rw [stepB]
    have stepC : ∀ (rest : XS), sSeq (sSet 3 (eBin oMod (eBin oIx (eVar 1) (eC (.int 0))) (eCB oLen (aCons (eVar 0) aNil)))) rest [some (.scr ns), some (.own t), some (.int lim), none, none, none] st1
        = rest [some (.scr ns), some (.own t), some (.int lim), some (.int (j : Int)), none, none] st1 := fun rest => by
      simp only [sSeq, sSet, eBin, eVar, eC, eCB, aCons, aNil, b_ok, List.getElem?_cons_succ, List.getElem?_cons_zero, ix0 (n + 1) st1 c1, lenS, mod_ (n + 1) (ns.length : Int) st1 (by omega), hj]
      rfl
    rw [stepC]
    have stepD : ∀ (rest : XS), sSeq (sSet 4 (eBin oIx (eVar 1) (eBin oAdd (eC (.int 1)) (eVar 3)))) rest [some (.scr ns), some (.own t), some (.int lim), some (.int (j : Int)), none, none] st1
        = rest [some (.scr ns), some (.own t), some (.int lim), some (.int (j : Int)), some (.int l), none] st1 := fun rest => by
      simp only [sSeq, sSet, eBin, eVar, eC, b_ok, List.getElem?_cons_succ, List.getElem?_cons_zero, ad, ixT]
      rfl
    rw [stepD]
    generalize hE : ([some (.scr ns), some (.own t), some (.int lim), some (.int (j : Int)), some (.int l), none] : Ev) = E1
    have v0 : E1[0]? = some (some (.scr ns)) := by rw [← hE]; rfl
    have v1 : E1[1]? = some (some (.own t)) := by rw [← hE]; rfl
    have v2 : E1[2]? = some (some (.int lim)) := by rw [← hE]; rfl
    have v3 : E1[3]? = some (some (.int (j : Int))) := by rw [← hE]; rfl
    have v4 : E1[4]? = some (some (.int l)) := by rw [← hE]; rfl
    have p18 : oPow (.int 10) (.int 18) st1 = some (.int (10 ^ 18)) := pw 10 18 st1 (by decide) (by decide) (by decide)
    by_cases g : (10 : Int) ^ 18 ≤ x ∧ 0 < l
    · refine ⟨l % lim, (((n + 1) :: ls).map PV.int).set (j + 1) (.int (l / lim)), ?_, (md _).1, (md _).2, ?_⟩
      · have cond : tAndF (tE (eBin oGeI (eBin oIx (eVar 0) (eVar 3)) (eBin oPow (eC (.int 10)) (eC (.int 18))))) (tE (eBin oGtI (eVar 4) (eC (.int 0)))) E1 st1 = .ok true st1 := by
          simp only [tAndF, tE, toB, eBin, eVar, eC, v0, v3, v4, b_ok, ixS, p18, ge, gt, g.1, g.2, decide_true, if_true]
        have st2 : sAsg (eBin oDiv (eVar 4) (eVar 2)) (gSubL (eVar 1) (eBin oAdd (eC (.int 1)) (eVar 3))) E1 st1 = .ok (.nx E1) (st1.set t (.lst ((((n + 1) :: ls).map PV.int).set (j + 1) (.int (l / lim))))) := by
          simp only [sAsg, eBin, eVar, eC, gSubL, v1, v2, v3, v4, b_ok, ad, div_ l lim st1 h0 (by omega), c1, ixw]
        simp only [sSeq, sIf, cond, b_ok, if_true, st2, sRet, eBin, eVar, v4, v2, mod_ l lim _ h0, ret, stt]
      · refine ⟨n + 1, ls.set j (l / lim), ?_, by simpa using hls, by omega, by omega⟩
        simp [List.map_set]
    · have cond : tAndF (tE (eBin oGeI (eBin oIx (eVar 0) (eVar 3)) (eBin oPow (eC (.int 10)) (eC (.int 18))))) (tE (eBin oGtI (eVar 4) (eC (.int 0)))) E1 st1 = .ok false st1 := by
        simp only [tAndF, tE, toB, eBin, eVar, eC, v0, v3, v4, b_ok, ixS, p18, ge, gt]
        by_cases g1 : (10 : Int) ^ 18 ≤ x
        · have g2 : ¬ (0 < l) := fun z => g ⟨g1, z⟩
          simp only [g1, g2, decide_true, decide_false, if_true]
        · simp only [g1, decide_false]
          rfl
      generalize hm : (x + 104729 * (n + 1)) % 4294967291 = m
      have hm0 : 0 ≤ m := by rw [← hm]; exact Int.emod_nonneg _ (by decide)
      have hm1 : m < 4294967291 := by rw [← hm]; exact Int.emod_lt_of_pos _ (by decide)
      have t1 : oMod (.int (x + 104729 * (n + 1))) (.int 4294967291) st1 = some (.int m) := by rw [mod_ _ _ _ (by decide), hm]
      have t0 : oMul (.int 104729) (.int (n + 1)) st1 = some (.int (104729 * (n + 1))) := mul_ _ _ _ (by omega) (by omega)
      have t2 : oPow (.int m) (.int 5) st1 = some (.int (m ^ 5)) := pw m 5 st1 (by decide) (by decide) (by omega)
      generalize hm5 : m ^ 5 % 4294967279 = w
      have t3 : oMod (.int (m ^ 5)) (.int 4294967279) st1 = some (.int w) := by rw [mod_ _ _ _ (by decide), hm5]
      have t4 : oDiv (.int w) (.int 64) st1 = some (.int (w / 64)) := div_ _ _ _ (by decide) (by decide)
      have t5 : oMul (.int (w / 64)) (.int 69621) st1 = some (.int (w / 64 * 69621)) := mul_ _ _ _ (by decide) (by decide)
      have t6 : oMod (.int (w / 64 * 69621 + w)) (.int 4294967231) st1 = some (.int ((w / 64 * 69621 + w) % 4294967231)) := mod_ _ _ _ (by decide)
      have t7 : ∀ z, oDiv (.int z) (.int 8) st1 = some (.int (z / 8)) := fun z => div_ _ _ _ (by decide) (by decide)
      refine ⟨(w / 64 * 69621 + w) % 4294967231 / 8 % lim, ((n + 1) :: ls).map PV.int, ?_, (md _).1, (md _).2, town1⟩
      have s5 : ∀ v, (E1.set 5 v)[5]? = some v := fun v => by rw [← hE]; rfl
      have s2 : ∀ v, (E1.set 5 v)[2]? = some (some (.int lim)) := fun v => by rw [← hE]; rfl
      have s55 : ∀ v w, (E1.set 5 v).set 5 w = E1.set 5 w := fun v w => List.set_set ..
      simp only [sSeq, sIf, cond, b_ok, Bool.false_eq_true, if_false, sNil, sSet, sRet, eBin, eVar, eC, v0, v1, v2, v3, ixS, ix0 (n + 1) st1 c1, t0, ad, t1, s5, t2, t3, s55, t4, t5, t6, t7, s2, mod_ _ lim _ h0, ret]
      rw [← hst1]
end Lq
end
section
set_option Elab.async false
set_option linter.all false
set_option maxRecDepth 10000
namespace Lq
open PySem PySem.Spec PyProof.Rows L2
def p_is_between : Fn := runF 3
    (sRet (eAnd (eIsi .int (eVar 0)) (eAnd (eNot (eIsi .bl (eVar 0))) (eChain oLeI oLeI (eVar 1) (eVar 0) (eVar 2)))))
def p_check_things : Fn := runF 1
    (sIf (tNotF (tE (eCall 3 p_is_between (aCons (eVar 0) (aCons (eC (.int 1)) (aCons (eC (.int 5)) aNil)))))) (sRaise "InvalidThings") sNil)
def p_is_found_lot : Fn := runF 4
    (sSeq (sIf (tOrF (tNotF (tE (eIsi .tup (eVar 1)))) (tNotF (tE (eCB oAll (aCons (eFz (fComp (iVal (eVar 1)) (gNm 2) (fun _ st => .ok true st) (eCall 3 p_is_between (aCons (eVar 2) (aCons (eC (.int 0)) (aCons (eBin oSub (eVar 0) (eC (.int 1))) aNil)))) [2])) aNil))))) (sRet (eC (.bl false))) sNil)
    (sRet (eCB oAll (aCons (eFz (fComp (iRange1 (aCons (eBin oSub (eCB oLen (aCons (eVar 1) aNil)) (eC (.int 1))) aNil)) (gNm 3) (fun _ st => .ok true st) (eBin oLt (eBin oIx (eVar 1) (eVar 3)) (eBin oIx (eVar 1) (eBin oAdd (eVar 3) (eC (.int 1))))) [3])) aNil))))
def p_is_comparison : Fn := runF 2
    (sSeq (sIf (tOrF (tNotF (tE (eIsi .tup (eVar 1)))) (tOrF (tE (eBin oNe (eCB oLen (aCons (eVar 1) aNil)) (eC (.int 3)))) (tOrF (tNotF (tE (eIsi .str (eBin oIx (eVar 1) (eC (.int 1)))))) (tE (eBin oNin (eBin oIx (eVar 1) (eC (.int 1))) (eC (.tup [.str ">", .str ">=", .str "="]))))))) (sRet (eC (.bl false))) sNil)
    (sRet (eAnd (eCall 2 p_is_found_lot (aCons (eVar 0) (aCons (eBin oIx (eVar 1) (eC (.int 0))) aNil))) (eCall 2 p_is_found_lot (aCons (eVar 0) (aCons (eBin oIx (eVar 1) (eC (.int 2))) aNil))))))
def p_divisor_of : Fn := runF 2
    (sSeq (sPar 0 1 (aCons (eCB oAbs (aCons (eVar 0) aNil)) (aCons (eCB oAbs (aCons (eVar 1) aNil)) aNil)))
    (sSeq (sWhile (tE (eBin oNe (eVar 1) (eC (.int 0)))) (sPar 0 1 (aCons (eVar 1) (aCons (eBin oMod (eVar 0) (eVar 1)) aNil))) 10715086071862673209484250490600018105614048117055336074437503883703510511249361224931983788156958581275946729175531468251871452856923140435984577574698574803934567774824230985421074605062371141877954182153046474983581941267398767559165543946077062914571196477686542167660429831652624386837205668069376)
    (sRet (eVar 0))))
def p_shortened : Fn := runF 3
    (sSeq (sSet 1 (eC (.int 0)))
    (sSeq (sFor (iVal (eVar 0)) (gNm 2) (sSeq (sSet 1 (eCall 2 p_divisor_of (aCons (eVar 1) (aCons (eVar 2) aNil))))
    (sIf (tE (eBin oEq (eVar 1) (eC (.int 1)))) (sRet (eFz (fList (eVar 0)))) sNil)))
    (sRet (eIf (tE (eBin oGtI (eVar 1) (eC (.int 1)))) (eFz (fComp (iVal (eVar 0)) (gNm 2) (fun _ st => .ok true st) (eBin oDiv (eVar 2) (eVar 1)) [2])) (eFz (fList (eVar 0)))))))
def p_cleared : Fn := runF 7
    (sSeq (sAsg (eTup (aCons (eBin oIx (eVar 0) (eVar 2)) (aCons (eBin oIx (eVar 1) (eVar 2)) aNil))) (gTp 2 (gsCons (gNm 3) (gsCons (gNm 4) gsNil))))
    (sSeq (sIf (tE (eBin oEq (eVar 3) (eC (.int 0)))) (sRet (eVar 0)) sNil)
    (sRet (eCall 1 p_shortened (aCons (eFz (fComp (iZipF (aCons (eVar 0) (aCons (eVar 1) aNil))) (gTp 2 (gsCons (gNm 5) (gsCons (gNm 6) gsNil))) (fun _ st => .ok true st) (eBin oSub (eBin oMul (eVar 5) (eVar 4)) (eBin oMul (eVar 3) (eVar 6))) [5, 6])) aNil)))))
def p_Equations_turn : Fn := runF 6
    (sSeq (sSet 4 (eBin oIx (eFld "Equations" "rows" (eVar 0)) (eVar 2)))
    (sSeq (sFor (iRange1 (aCons (eCB oLen (aCons (eFld "Equations" "rows" (eVar 0)) aNil)) aNil)) (gNm 5) (sIf (tE (eBin oNe (eVar 5) (eVar 2))) (sAsg (eCall 3 p_cleared (aCons (eBin oIx (eFld "Equations" "rows" (eVar 0)) (eVar 5)) (aCons (eVar 4) (aCons (eVar 3) aNil)))) (gSubL (eFld "Equations" "rows" (eVar 0)) (eVar 5))) sNil))
    (sSeq (sAsg (eVar 3) (gSubL (eFld "Equations" "basis" (eVar 0)) (eVar 2)))
    (sRet (eCall 3 p_cleared (aCons (eVar 1) (aCons (eVar 4) (aCons (eVar 3) aNil))))))))
def p_Equations_leaving : Fn := runF 7
    (sSeq (sSet 2 (eC .non))
    (sSeq (sForC true (eFld "Equations" "rows" (eVar 0)) (gTp 2 (gsCons (gNm 3) (gsCons (gNm 4) gsNil))) (sIf (tE (eBin oGtI (eBin oIx (eVar 4) (eVar 1)) (eC (.int 0)))) (sIf (tE (eBin oIsN (eVar 2) (eC .non))) (sSet 2 (eVar 3)) (sSeq (sPar 5 6 (aCons (eBin oMul (eBin oIx (eVar 4) (eUn oNeg (eC (.int 1)))) (eBin oIx (eBin oIx (eFld "Equations" "rows" (eVar 0)) (eVar 2)) (eVar 1))) (aCons (eBin oMul (eBin oIx (eBin oIx (eFld "Equations" "rows" (eVar 0)) (eVar 2)) (eUn oNeg (eC (.int 1)))) (eBin oIx (eVar 4) (eVar 1))) aNil)))
    (sIf (tOrF (tE (eBin oLt (eVar 5) (eVar 6))) (tAndF (tE (eBin oEq (eVar 5) (eVar 6))) (tE (eBin oLt (eBin oIx (eFld "Equations" "basis" (eVar 0)) (eVar 3)) (eBin oIx (eFld "Equations" "basis" (eVar 0)) (eVar 2)))))) (sSet 2 (eVar 3)) sNil))) sNil))
    (sRet (eVar 2))))
def p_fraction : Fn := runF 3
    (sSeq (sSet 2 (eCall 2 p_divisor_of (aCons (eVar 0) (aCons (eVar 1) aNil))))
    (sSeq (sSet 2 (eIf (tE (eBin oGtI (eVar 1) (eC (.int 0)))) (eVar 2) (eUn oNeg (eVar 2))))
    (sRet (eTup (aCons (eBin oDiv (eVar 0) (eVar 2)) (aCons (eBin oDiv (eVar 1) (eVar 2)) aNil))))))
def p_Equations_solved : Fn := runF 10
    (sSeq (sSet 1 (eOw (fMul (eFz (fDisp (aCons (eC (.int 0)) aNil))) (eBin oAdd (eBin oAdd (eFld "Equations" "many" (eVar 0)) (eCB oLen (aCons (eFld "Equations" "rows" (eVar 0)) aNil))) (eC (.int 2))))))
    (sSeq (sForC false (eFld "Equations" "rows" (eVar 0)) (gNm 2) (sSet 1 (eOw (fComp (iZipF (aCons (eFrz (eVar 1)) (aCons (eVar 2) aNil))) (gTp 2 (gsCons (gNm 8) (gsCons (gNm 9) gsNil))) (fun _ st => .ok true st) (eBin oSub (eVar 8) (eVar 9)) [8, 9]))))
    (sSeq (sFor (iRange1 (aCons (eCB oLen (aCons (eFld "Equations" "rows" (eVar 0)) aNil)) aNil)) (gNm 3) (sAsg (eC (.int 0)) (gSubL (eVar 1) (eBin oAdd (eFld "Equations" "many" (eVar 0)) (eVar 3)))))
    (sSeq (sAsg (eC (.int 1)) (gSubL (eVar 1) (eUn oNeg (eC (.int 2)))))
    (sSeq (sSet 4 (eFz (fComp (iRange1 (aCons (eFld "Equations" "many" (eVar 0)) aNil)) (gNm 7) (tE (eBin oLt (eBin oIx (eVar 1) (eVar 7)) (eC (.int 0)))) (eVar 7) [7])))
    (sSeq (sWhile (tE (eBin oNe (eVar 4) (eFz (fDisp aNil)))) (sSeq (sSet 1 (eMeth "Equations" "turn" 4 p_Equations_turn (eVar 0) (aCons (eFrz (eVar 1)) (aCons (eMeth "Equations" "leaving" 2 p_Equations_leaving (eVar 0) (aCons (eBin oIx (eVar 4) (eC (.int 0))) aNil)) (aCons (eBin oIx (eVar 4) (eC (.int 0))) aNil)))))
    (sSet 4 (eFz (fComp (iRange1 (aCons (eFld "Equations" "many" (eVar 0)) aNil)) (gNm 7) (tE (eBin oLt (eBin oIx (eVar 1) (eVar 7)) (eC (.int 0)))) (eVar 7) [7])))) 2037035976334486086268445688409378161051468393665936250636140449354381299763336706183397376)
    (sSeq (sIf (tE (eBin oLt (eBin oIx (eVar 1) (eUn oNeg (eC (.int 1)))) (eC (.int 0)))) (sSeq (sSet 5 (eFz (fComp (iRange1 (aCons (eCB oLen (aCons (eFld "Equations" "rows" (eVar 0)) aNil)) aNil)) (gNm 3) (fun _ st => .ok true st) (eBin oSub (eBin oIx (eVar 1) (eUn oNeg (eC (.int 2)))) (eBin oIx (eVar 1) (eBin oAdd (eFld "Equations" "many" (eVar 0)) (eVar 3)))) [3])))
    (sRet (eTup (aCons (eC .non) (aCons (eFz (fComp (iZipF (aCons (eFld "Equations" "signs" (eVar 0)) (aCons (eVar 5) aNil))) (gTp 2 (gsCons (gNm 8) (gsCons (gNm 9) gsNil))) (fun _ st => .ok true st) (eBin oMul (eVar 8) (eVar 9)) [8, 9])) aNil))))) sNil)
    (sSeq (sSet 6 (eOw (fMul (eFz (fDisp (aCons (eTup (aCons (eC (.int 0)) (aCons (eC (.int 1)) aNil))) aNil))) (eFld "Equations" "many" (eVar 0)))))
    (sSeq (sForC true (eFld "Equations" "basis" (eVar 0)) (gTp 2 (gsCons (gNm 3) (gsCons (gNm 7) gsNil))) (sIf (tE (eBin oLt (eVar 7) (eFld "Equations" "many" (eVar 0)))) (sAsg (eCall 2 p_fraction (aCons (eBin oIx (eBin oIx (eFld "Equations" "rows" (eVar 0)) (eVar 3)) (eUn oNeg (eC (.int 1)))) (aCons (eBin oIx (eBin oIx (eFld "Equations" "rows" (eVar 0)) (eVar 3)) (eVar 7)) aNil))) (gSubL (eVar 6) (eVar 7))) sNil))
    (sRet (eTup (aCons (eFrz (eVar 6)) (aCons (eC .non) aNil)))))))))))))
def p_row_of : Fn := runF 6
    (sSeq (sAsg (eVar 1) (gTp 3 (gsCons (gNm 2) (gsCons (gNm 3) (gsCons (gNm 4) gsNil)))))
    (sRet (eFz (fComp (iRange1 (aCons (eVar 0) aNil)) (gNm 5) (fun _ st => .ok true st) (eBin oSub (eCB oInt (aCons (eBin oIn (eVar 5) (eVar 2)) aNil)) (eCB oInt (aCons (eBin oIn (eVar 5) (eVar 4)) aNil))) [5]))))
def p_common_bottom : Fn := runF 3
    (sSeq (sSet 1 (eC (.int 1)))
    (sSeq (sFor (iVal (eVar 0)) (gNm 2) (sSet 1 (eBin oDiv (eBin oMul (eVar 1) (eBin oIx (eVar 2) (eC (.int 1)))) (eCall 2 p_divisor_of (aCons (eVar 1) (aCons (eBin oIx (eVar 2) (eC (.int 1))) aNil))))))
    (sRet (eVar 1))))
def p_Equations___init__ : Fn := runF 9
    (sSeq (sFldS "Equations" "many" (eVar 0) (eCB oLen (aCons (eBin oIx (eVar 1) (eC (.int 0))) aNil)))
    (sSeq (sFldS "Equations" "signs" (eVar 0) (eFz (fComp (iVal (eVar 2)) (gNm 6) (fun _ st => .ok true st) (eIf (tE (eBin oGeI (eVar 6) (eC (.int 0)))) (eC (.int 1)) (eUn oNeg (eC (.int 1)))) [6])))
    (sSeq (sFldS "Equations" "rows" (eVar 0) (eOw (fDisp aNil)))
    (sSeq (sFor (iEnumT (aCons (eVar 1) aNil)) (gTp 2 (gsCons (gNm 3) (gsCons (gNm 4) gsNil))) (sSeq (sSet 5 (eFz (fComp (iRange1 (aCons (eCB oLen (aCons (eVar 1) aNil)) aNil)) (gNm 7) (fun _ st => .ok true st) (eCB oInt (aCons (eBin oEq (eVar 7) (eVar 3)) aNil)) [7])))
    (sDrop (eLm goApp (eFld "Equations" "rows" (eVar 0)) (aCons (eBin oAdd (eBin oAdd (eFz (fComp (iVal (eVar 4)) (gNm 8) (fun _ st => .ok true st) (eBin oMul (eBin oIx (eFld "Equations" "signs" (eVar 0)) (eVar 3)) (eVar 8)) [8])) (eVar 5)) (eFz (fDisp (aCons (eC (.int 0)) (aCons (eCB oAbs (aCons (eBin oIx (eVar 2) (eVar 3)) aNil)) aNil))))) aNil)))))
    (sFldS "Equations" "basis" (eVar 0) (eOw (fComp (iRange1 (aCons (eCB oLen (aCons (eVar 1) aNil)) aNil)) (gNm 3) (fun _ st => .ok true st) (eBin oAdd (eFld "Equations" "many" (eVar 0)) (eVar 3)) [3])))))))
def p_whole : Fn := runF 2
    (sRet (eBin oMul (eBin oIx (eVar 0) (eC (.int 0))) (eBin oDiv (eVar 1) (eBin oIx (eVar 0) (eC (.int 1))))))
def p_solved : Fn := runF 19
    (sSeq (sAsg (eTup (aCons (eOw (fDisp aNil)) (aCons (eOw (fDisp aNil)) aNil))) (gTp 2 (gsCons (gNm 2) (gsCons (gNm 3) gsNil))))
    (sSeq (sFor (iEnumT (aCons (eVar 1) aNil)) (gTp 2 (gsCons (gNm 4) (gsCons (gNm 5) gsNil))) (sSeq (sSet 6 (eCall 2 p_row_of (aCons (eVar 0) (aCons (eVar 5) aNil))))
    (sSeq (sDrop (eLm goApp (eVar 2) (aCons (eBin oAdd (eVar 6) (eFz (fDisp (aCons (eCB oInt (aCons (eBin oEq (eBin oIx (eVar 5) (eC (.int 1))) (eC (.str ">"))) aNil)) aNil)))) aNil)))
    (sSeq (sDrop (eLm goApp (eVar 3) (aCons (eTup (aCons (eVar 4) (aCons (eC (.int 1)) aNil))) aNil)))
    (sIf (tE (eBin oEq (eBin oIx (eVar 5) (eC (.int 1))) (eC (.str "=")))) (sSeq (sDrop (eLm goApp (eVar 2) (aCons (eBin oAdd (eFz (fComp (iVal (eVar 6)) (gNm 15) (fun _ st => .ok true st) (eUn oNeg (eVar 15)) [15])) (eFz (fDisp (aCons (eC (.int 0)) aNil)))) aNil)))
    (sDrop (eLm goApp (eVar 3) (aCons (eTup (aCons (eVar 4) (aCons (eUn oNeg (eC (.int 1))) aNil))) aNil)))) sNil)))))
    (sSeq (sFor (iRange1 (aCons (eVar 0) aNil)) (gNm 7) (sSeq (sDrop (eLm goApp (eVar 2) (aCons (eBin oAdd (eFz (fComp (iRange1 (aCons (eVar 0) aNil)) (gNm 16) (fun _ st => .ok true st) (eCB oInt (aCons (eBin oEq (eVar 16) (eVar 7)) aNil)) [16])) (eFz (fDisp (aCons (eC (.int 1)) aNil)))) aNil)))
    (sDrop (eLm goApp (eVar 3) (aCons (eTup (aCons (eC .non) (aCons (eC (.int 1)) aNil))) aNil)))))
    (sSeq (sSet 8 (eFz (fComp (iRange1 (aCons (eBin oAdd (eVar 0) (eC (.int 1))) aNil)) (gNm 17) (fun _ st => .ok true st) (eFz (fComp (iVal (eFrz (eVar 2))) (gNm 18) (fun _ st => .ok true st) (eBin oIx (eVar 18) (eVar 17)) [18])) [17])))
    (sSeq (sAsg (eMeth "Equations" "solved" 1 p_Equations_solved (eMake "Equations" 3 p_Equations___init__ (aCons (eVar 8) (aCons (eBin oAdd (eBin oMul (eFz (fDisp (aCons (eC (.int 0)) aNil))) (eVar 0)) (eFz (fDisp (aCons (eC (.int 1)) aNil)))) aNil))) aNil) (gTp 2 (gsCons (gNm 9) (gsCons (gNm 10) gsNil))))
    (sSeq (sIf (tE (eBin oIsN (eVar 9) (eC .non))) (sRet (eTup (aCons (eC .non) (aCons (eCB oTuple (aCons (eCall 1 p_shortened (aCons (eFz (fComp (iVal (eCut (eVar 10) pNone (pSome (eVar 0)))) (gNm 15) (fun _ st => .ok true st) (eUn oNeg (eVar 15)) [15])) aNil)) aNil)) aNil)))) sNil)
    (sSeq (sPar 11 12 (aCons (eCall 1 p_common_bottom (aCons (eVar 9) aNil)) (aCons (eOw (fMul (eFz (fDisp (aCons (eC (.int 0)) aNil))) (eCB oLen (aCons (eVar 1) aNil)))) aNil)))
    (sSeq (sFor (iZipF (aCons (eVar 9) (aCons (eFrz (eVar 3)) aNil))) (gTp 2 (gsCons (gNm 13) (gsCons (gTp 2 (gsCons (gNm 4) (gsCons (gNm 14) gsNil))) gsNil))) (sIf (tE (eBin oNotN (eVar 4) (eC .non))) (sAsg (eBin oAdd (eBin oIx (eVar 12) (eVar 4)) (eBin oMul (eVar 14) (eCall 2 p_whole (aCons (eVar 13) (aCons (eVar 11) aNil))))) (gSubL (eVar 12) (eVar 4))) sNil))
    (sRet (eTup (aCons (eCB oTuple (aCons (eFrz (eVar 12)) aNil)) (aCons (eC .non) aNil))))))))))))
end Lq
end
section
set_option Elab.async false
set_option linter.all false
set_option maxRecDepth 10000
namespace Lq
open PySem PySem.Spec PyProof.Rows L2
def p__law_pick : Fn := runF 3
    (sRet (eBin oIx (eVar 2) (eCall 3 drawF (aCons (eVar 0) (aCons (eVar 1) (aCons (eCB oLen (aCons (eVar 2) aNil)) aNil))))))
def p__law_scale : Fn := runF 5
    (sSeq (sSet 3 (eCall 3 p__law_pick (aCons (eVar 0) (aCons (eVar 1) (aCons (eFz (fDisp (aCons (eC (.int 2)) (aCons (eC (.int 4)) (aCons (eC (.int 9)) aNil))))) aNil)))))
    (sRet (eCB oTuple (aCons (eFz (fComp (iRange1 (aCons (eVar 2) aNil)) (gNm 4) (fun _ st => .ok true st) (eBin oAdd (eC (.int 1)) (eCall 3 drawF (aCons (eVar 0) (aCons (eVar 1) (aCons (eVar 3) aNil))))) [4])) aNil))))
def p__law_lots : Fn := runF 4
    (sSeq (sSet 1 (eFz (fDisp (aCons (eTup aNil) aNil))))
    (sSeq (sFor (iRange1 (aCons (eVar 0) aNil)) (gNm 2) (sSet 1 (eBin oAdd (eVar 1) (eFz (fComp (iVal (eVar 1)) (gNm 3) (fun _ st => .ok true st) (eBin oAdd (eVar 3) (eTup (aCons (eVar 2) aNil))) [3])))))
    (sRet (eFz (fSorted (eVar 1))))))
def p__law_weight : Fn := runF 3
    (sRet (eCB oSum (aCons (eFz (fComp (iVal (eVar 1)) (gNm 2) (fun _ st => .ok true st) (eBin oIx (eVar 0) (eVar 2)) [2])) aNil)))
def p__law_comparison : Fn := runF 9
    (sSeq (sSet 4 (eCall 1 p__law_lots (aCons (eVar 2) aNil)))
    (sSeq (sPar 5 6 (aCons (eCall 3 p__law_pick (aCons (eVar 0) (aCons (eVar 1) (aCons (eVar 4) aNil)))) (aCons (eCall 3 p__law_pick (aCons (eVar 0) (aCons (eVar 1) (aCons (eVar 4) aNil)))) aNil)))
    (sSeq (sSet 7 (eCall 3 p__law_pick (aCons (eVar 0) (aCons (eVar 1) (aCons (eFz (fDisp (aCons (eC (.str ">")) (aCons (eC (.str ">")) (aCons (eC (.str ">=")) (aCons (eC (.str "=")) aNil)))))) aNil)))))
    (sSeq (sIf (tE (eBin oGtI (eCall 3 drawF (aCons (eVar 0) (aCons (eVar 1) (aCons (eC (.int 6)) aNil)))) (eC (.int 0)))) (sSeq (sSet 8 (eBin oSub (eCall 2 p__law_weight (aCons (eVar 3) (aCons (eVar 5) aNil))) (eCall 2 p__law_weight (aCons (eVar 3) (aCons (eVar 6) aNil)))))
    (sSeq (sAsg (eIf (tE (eBin oGeI (eVar 8) (eC (.int 0)))) (eTup (aCons (eVar 5) (aCons (eVar 6) aNil))) (eTup (aCons (eVar 6) (aCons (eVar 5) aNil)))) (gTp 2 (gsCons (gNm 5) (gsCons (gNm 6) gsNil))))
    (sSet 7 (eIf (tOrF (tAndF (tE (eBin oEq (eVar 8) (eC (.int 0)))) (tE (eBin oNe (eVar 7) (eC (.str ">"))))) (tAndF (tE (eBin oNe (eVar 8) (eC (.int 0)))) (tE (eBin oNe (eVar 7) (eC (.str "=")))))) (eVar 7) (eC (.str ">=")))))) sNil)
    (sRet (eTup (aCons (eVar 5) (aCons (eVar 7) (aCons (eVar 6) aNil)))))))))
def p__law_told : Fn := runF 6
    (sSeq (sSet 4 (eCall 3 p__law_scale (aCons (eVar 0) (aCons (eVar 1) (aCons (eVar 2) aNil)))))
    (sRet (eCB oTuple (aCons (eFz (fComp (iRange1 (aCons (eCall 3 drawF (aCons (eVar 0) (aCons (eVar 1) (aCons (eBin oAdd (eVar 3) (eC (.int 1))) aNil)))) aNil)) (gNm 5) (fun _ st => .ok true st) (eCall 4 p__law_comparison (aCons (eVar 0) (aCons (eVar 1) (aCons (eVar 2) (aCons (eVar 4) aNil))))) [5])) aNil))))
def p_are_told : Fn := runF 3
    (sRet (eAnd (eIsi .tup (eVar 1)) (eAnd (eBin oLeI (eCB oLen (aCons (eVar 1) aNil)) (eC (.int 8))) (eCB oAll (aCons (eFz (fComp (iVal (eVar 1)) (gNm 2) (fun _ st => .ok true st) (eCall 2 p_is_comparison (aCons (eVar 0) (aCons (eVar 2) aNil))) [2])) aNil)))))
def p_check_told : Fn := runF 2
    (sSeq (sDrop (eCall 1 p_check_things (aCons (eVar 0) aNil)))
    (sIf (tNotF (tE (eCall 2 p_are_told (aCons (eVar 0) (aCons (eVar 1) aNil))))) (sRaise "InvalidTold") sNil))
def p_found_weight : Fn := runF 3
    (sRet (eCB oSum (aCons (eFz (fComp (iVal (eVar 1)) (gNm 2) (fun _ st => .ok true st) (eBin oIx (eVar 0) (eVar 2)) [2])) aNil)))
def p_does_hold : Fn := runF 6
    (sSeq (sAsg (eVar 1) (gTp 3 (gsCons (gNm 2) (gsCons (gNm 3) (gsCons (gNm 4) gsNil)))))
    (sSeq (sSet 5 (eBin oSub (eCall 2 p_found_weight (aCons (eVar 0) (aCons (eVar 2) aNil))) (eCall 2 p_found_weight (aCons (eVar 0) (aCons (eVar 4) aNil)))))
    (sRet (eIf (tE (eBin oNe (eVar 3) (eC (.str "=")))) (eOr (eBin oGtI (eVar 5) (eC (.int 0))) (eAnd (eBin oEq (eVar 5) (eC (.int 0))) (eBin oNe (eVar 3) (eC (.str ">"))))) (eBin oEq (eVar 5) (eC (.int 0)))))))
def p_do_agree : Fn := runF 3
    (sRet (eCB oAll (aCons (eFz (fComp (iVal (eVar 0)) (gNm 2) (fun _ st => .ok true st) (eCall 2 p_does_hold (aCons (eVar 1) (aCons (eVar 2) aNil))) [2])) aNil)))
def p_some_weights : Fn := runF 2
    (sSeq (sDrop (eCall 2 p_check_told (aCons (eVar 0) (aCons (eVar 1) aNil))))
    (sRet (eBin oIx (eCall 2 p_solved (aCons (eVar 0) (aCons (eVar 1) aNil))) (eC (.int 1)))))
def p_balance : Fn := runF 2
    (sSeq (sDrop (eCall 2 p_check_told (aCons (eVar 0) (aCons (eVar 1) aNil))))
    (sRet (eBin oIx (eCall 2 p_solved (aCons (eVar 0) (aCons (eVar 1) aNil))) (eC (.int 0)))))
def p_are_weights : Fn := runF 2
    (sSeq (sIf (tOrF (tNotF (tE (eIsi .tup (eVar 0)))) (tNotF (tE (eChain oLeI oLeI (eC (.int 1)) (eCB oLen (aCons (eVar 0) aNil)) (eC (.int 5)))))) (sRet (eC (.bl false))) sNil)
    (sRet (eCB oAll (aCons (eFz (fComp (iVal (eVar 0)) (gNm 1) (fun _ st => .ok true st) (eAnd (eIsi .int (eVar 1)) (eAnd (eNot (eIsi .bl (eVar 1))) (eBin oGtI (eVar 1) (eC (.int 0))))) [1])) aNil))))
def p_agrees : Fn := runF 3
    (sSeq (sDrop (eCall 2 p_check_told (aCons (eVar 0) (aCons (eVar 1) aNil))))
    (sSeq (sIf (tOrF (tNotF (tE (eCall 1 p_are_weights (aCons (eVar 2) aNil)))) (tE (eBin oNe (eCB oLen (aCons (eVar 2) aNil)) (eVar 0)))) (sRaise "InvalidWeights") sNil)
    (sRet (eCall 2 p_do_agree (aCons (eVar 1) (aCons (eVar 2) aNil))))))
def p_does_balance : Fn := runF 9
    (sSeq (sIf (tOrF (tNotF (tE (eIsi .tup (eVar 2)))) (tE (eBin oNe (eCB oLen (aCons (eVar 2) aNil)) (eCB oLen (aCons (eVar 1) aNil))))) (sRet (eC (.bl false))) sNil)
    (sSeq (sIf (tNotF (tE (eCB oAll (aCons (eFz (fComp (iVal (eVar 2)) (gNm 5) (fun _ st => .ok true st) (eAnd (eIsi .int (eVar 5)) (eNot (eIsi .bl (eVar 5)))) [5])) aNil)))) (sRet (eC (.bl false))) sNil)
    (sSeq (sIf (tNotF (tE (eCB oAll (aCons (eFz (fComp (iZipF (aCons (eVar 2) (aCons (eVar 1) aNil))) (gTp 2 (gsCons (gNm 5) (gsCons (gNm 6) gsNil))) (fun _ st => .ok true st) (eOr (eBin oGeI (eVar 5) (eC (.int 0))) (eBin oEq (eBin oIx (eVar 6) (eC (.int 1))) (eC (.str "=")))) [5, 6])) aNil)))) (sRet (eC (.bl false))) sNil)
    (sSeq (sSet 3 (eFz (fComp (iVal (eVar 1)) (gNm 6) (fun _ st => .ok true st) (eCall 2 p_row_of (aCons (eVar 0) (aCons (eVar 6) aNil))) [6])))
    (sSeq (sSet 4 (eFz (fComp (iRange1 (aCons (eVar 0) aNil)) (gNm 7) (fun _ st => .ok true st) (eCB oSum (aCons (eFz (fComp (iZipF (aCons (eVar 2) (aCons (eVar 3) aNil))) (gTp 2 (gsCons (gNm 5) (gsCons (gNm 8) gsNil))) (fun _ st => .ok true st) (eBin oMul (eVar 5) (eBin oIx (eVar 8) (eVar 7))) [5, 8])) aNil)) [7])))
    (sSeq (sIf (tE (eBin oGtI (eCB oMax (aCons (eVar 4) aNil)) (eC (.int 0)))) (sRet (eC (.bl false))) sNil)
    (sRet (eOr (eBin oLt (eCB oMin (aCons (eVar 4) aNil)) (eC (.int 0))) (eCB oAny (aCons (eFz (fComp (iZipF (aCons (eVar 2) (aCons (eVar 1) aNil))) (gTp 2 (gsCons (gNm 5) (gsCons (gNm 6) gsNil))) (fun _ st => .ok true st) (eAnd (eBin oGtI (eVar 5) (eC (.int 0))) (eBin oEq (eBin oIx (eVar 6) (eC (.int 1))) (eC (.str ">")))) [5, 6])) aNil))))))))))
def p_is_balance : Fn := runF 3
    (sSeq (sDrop (eCall 2 p_check_told (aCons (eVar 0) (aCons (eVar 1) aNil))))
    (sRet (eCall 3 p_does_balance (aCons (eVar 0) (aCons (eVar 1) (aCons (eVar 2) aNil))))))
def p_some_numbers : Fn := runF 6
    (sSeq (sSet 2 (eFz (fDisp (aCons (eTup aNil) aNil))))
    (sSeq (sFor (iRange1 (aCons (eVar 1) aNil)) (gNm 3) (sSet 2 (eFz (fComp2 (iVal (eVar 2)) (gNm 4) (fun _ st => .ok true st) (iRange1 (aCons (eVar 0) aNil)) (gNm 5) (tOrF (tE (eBin oEq (eVar 4) (eTup aNil))) (tE (eBin oLt (eBin oIx (eVar 4) (eUn oNeg (eC (.int 1)))) (eVar 5)))) (eBin oAdd (eVar 4) (eTup (aCons (eVar 5) aNil))) [4, 5] [5]))))
    (sRet (eVar 2))))
def p_clash : Fn := runF 5
    (sSeq (sDrop (eCall 2 p_check_told (aCons (eVar 0) (aCons (eVar 1) aNil))))
    (sSeq (sIf (tE (eBin oNotN (eBin oIx (eCall 2 p_solved (aCons (eVar 0) (aCons (eVar 1) aNil))) (eC (.int 1))) (eC .non))) (sRet (eC .non)) sNil)
    (sSeq (sFor (iRange2 (aCons (eC (.int 1)) (aCons (eBin oAdd (eCB oLen (aCons (eVar 1) aNil)) (eC (.int 1))) aNil))) (gNm 2) (sFor (iVal (eCall 2 p_some_numbers (aCons (eCB oLen (aCons (eVar 1) aNil)) (aCons (eVar 2) aNil)))) (gNm 3) (sIf (tE (eBin oIsN (eBin oIx (eCall 2 p_solved (aCons (eVar 0) (aCons (eCB oTuple (aCons (eFz (fComp (iVal (eVar 3)) (gNm 4) (fun _ st => .ok true st) (eBin oIx (eVar 1) (eVar 4)) [4])) aNil)) aNil))) (eC (.int 1))) (eC .non))) (sRet (eVar 3)) sNil)))
    (sRet (eC .non)))))
end Lq
end
section
set_option Elab.async false
set_option linter.all false
namespace Sx
def sm : Nat → (Nat → Rat) → Rat
  | 0, _ => 0
  | n + 1, f => sm n f + f n
theorem sm_congr {f g : Nat → Rat} : ∀ {n : Nat}, (∀ j, j < n → f j = g j) → sm n f = sm n g
  | 0, _ => rfl
  | n + 1, h => by rw [sm, sm, sm_congr fun j hj => h j (by omega), h n (by omega)]
theorem sm_zero {f : Nat → Rat} : ∀ {n : Nat}, (∀ j, j < n → f j = 0) → sm n f = 0
  | 0, _ => rfl
  | n + 1, h => by rw [sm, sm_zero fun j hj => h j (by omega), h n (by omega)]; grind
theorem sm_add (f g : Nat → Rat) : ∀ n : Nat, sm n (fun j => f j + g j) = sm n f + sm n g
  | 0 => by simp only [sm]; grind
  | n + 1 => by simp only [sm, sm_add f g n]; grind
theorem sm_mul (a : Rat) (f : Nat → Rat) : ∀ n : Nat, sm n (fun j => a * f j) = a * sm n f
  | 0 => by simp only [sm]; grind
  | n + 1 => by simp only [sm, sm_mul a f n]; grind
theorem sm_sub (f g : Nat → Rat) : ∀ n : Nat, sm n (fun j => f j - g j) = sm n f - sm n g
  | 0 => by simp only [sm]; grind
  | n + 1 => by simp only [sm, sm_sub f g n]; grind
theorem sm_one {f : Nat → Rat} {k : Nat} : ∀ {n : Nat}, k < n → (∀ j, j < n → j ≠ k → f j = 0) → sm n f = f k
  | n + 1, hk, h => by
    rw [sm]
    by_cases e : k = n
    · subst e
      rw [sm_zero fun j hj => h j (by omega) (by omega)]; grind
    · rw [sm_one (k := k) (by omega) fun j hj => h j (by omega), h n (by omega) (by omega)]; grind
theorem sm_neg {f : Nat → Rat} : ∀ {n : Nat}, sm n f < 0 → ∃ j, j < n ∧ f j < 0
  | 0, h => by simp only [sm] at h; grind
  | n + 1, h => by
    rw [sm] at h
    by_cases z : f n < 0
    · exact ⟨n, by omega, z⟩
    · obtain ⟨j, hj, w⟩ := sm_neg (f := f) (n := n) (by grind)
      exact ⟨j, by omega, w⟩
theorem sm_nonneg {f : Nat → Rat} : ∀ {n : Nat}, (∀ j, j < n → 0 ≤ f j) → 0 ≤ sm n f
  | 0, _ => by simp only [sm]; grind
  | n + 1, h => by
    have := sm_nonneg (f := f) (n := n) fun j hj => h j (by omega)
    have := h n (by omega)
    rw [sm]; grind
theorem sm_eq0 {f : Nat → Rat} : ∀ {n : Nat}, (∀ j, j < n → 0 ≤ f j) → sm n f ≤ 0 → ∀ j, j < n → f j = 0
  | 0, _, _, j, hj => by omega
  | n + 1, h, e, j, hj => by
    have a := sm_nonneg (f := f) (n := n) fun j hj => h j (by omega)
    have b := h n (by omega)
    rw [sm] at e
    by_cases z : j = n
    · subst z; grind
    · exact sm_eq0 (n := n) (fun j hj => h j (by omega)) (by grind) j (by omega)
theorem sm_comm (f : Nat → Nat → Rat) (n : Nat) : ∀ m : Nat, sm m (fun i => sm n (f i)) = sm n (fun j => sm m (fun i => f i j))
  | 0 => by simp only [sm]; rw [sm_zero fun _ _ => rfl]
  | m + 1 => by simp only [sm, sm_comm f n m, sm_add]
structure Tb where
  t : Nat → Nat → Rat
  r : Nat → Rat
  c : Nat → Rat
  z : Rat
  b : Nat → Nat
variable {m n k : Nat}
structure Inv (m n : Nat) (S : Tb) : Prop where
  bn : ∀ i, i < m → S.b i < n
  one : ∀ i, i < m → S.t i (S.b i) = 1
  off : ∀ i h, i < m → h < m → h ≠ i → S.t h (S.b i) = 0
  cz : ∀ i, i < m → S.c (S.b i) = 0
  rp : ∀ i, i < m → 0 ≤ S.r i
def Sol (m n : Nat) (S : Tb) (x : Nat → Rat) : Prop := ∀ i, i < m → sm n (fun j => S.t i j * x j) = S.r i
def Ker (m n : Nat) (S : Tb) (x : Nat → Rat) : Prop := ∀ i, i < m → sm n (fun j => S.t i j * x j) = 0
structure Step (m n k : Nat) (S S' : Tb) (e l : Nat) : Prop where
  ek : e < k
  kn : k ≤ n
  ce : S.c e < 0
  first : ∀ j, j < e → 0 ≤ S.c j
  lm : l < m
  pos : 0 < S.t l e
  ratio : ∀ i, i < m → 0 < S.t i e → S.r l * S.t i e ≤ S.r i * S.t l e
  tie : ∀ i, i < m → 0 < S.t i e → S.r l * S.t i e = S.r i * S.t l e → S.b l ≤ S.b i
  tl : ∀ j, S'.t l j = S.t l j / S.t l e
  rl : S'.r l = S.r l / S.t l e
  ti : ∀ i, i < m → i ≠ l → ∀ j, S'.t i j = S.t i j - S.t i e * (S.t l j / S.t l e)
  ri : ∀ i, i < m → i ≠ l → S'.r i = S.r i - S.t i e * (S.r l / S.t l e)
  cj : ∀ j, S'.c j = S.c j - S.c e * (S.t l j / S.t l e)
  zz : S'.z = S.z - S.c e * (S.r l / S.t l e)
  bl : S'.b l = e
  bi : ∀ i, i ≠ l → S'.b i = S.b i
theorem Inv.inj {S : Tb} (I : Inv m n S) {i h : Nat} (hi : i < m) (hh : h < m) (e : S.b i = S.b h) : i = h := by
  refine Classical.byContradiction fun ne => ?_
  have a := I.off i h hi hh (Ne.symm ne)
  rw [e, I.one h hh] at a
  grind
theorem Step.ne {S S' : Tb} {e l : Nat} (I : Inv m n S) (T : Step m n k S S' e l) {i : Nat} (hi : i < m) : S.b i ≠ e := fun h => by
  have := I.cz i hi
  rw [h] at this
  have := T.ce
  grind
theorem div_pos' {a b : Rat} (ha : 0 ≤ a) (hb : 0 < b) : 0 ≤ a / b := by
  rw [Rat.div_def]
  exact Rat.mul_nonneg ha (Rat.le_of_lt (Rat.inv_pos.mpr hb))
theorem Step.inv {S S' : Tb} {e l : Nat} (I : Inv m n S) (T : Step m n k S S' e l) : Inv m n S' := by
  have p := T.pos
  have p0 : S.t l e ≠ 0 := by grind
  have zl : ∀ i, i < m → i ≠ l → S.t l (S.b i) = 0 := fun i hi ne => I.off i l hi T.lm (Ne.symm ne)
  refine ⟨fun i hi => ?_, fun i hi => ?_, fun i h hi hh ne => ?_, fun i hi => ?_, fun i hi => ?_⟩
  · by_cases x : i = l
    · rw [x, T.bl]; have := T.ek; have := T.kn; omega
    · rw [T.bi i x]; exact I.bn i hi
  · by_cases x : i = l
    · rw [x, T.bl, T.tl]; grind
    · rw [T.bi i x, T.ti i hi x, I.one i hi, zl i hi x]; grind
  · by_cases x : i = l
    · subst x
      rw [T.bl, T.ti h hh ne]; grind
    · rw [T.bi i x]
      by_cases y : h = l
      · rw [y, T.tl, zl i hi x]; grind
      · rw [T.ti h hh y, I.off i h hi hh ne, zl i hi x]; grind
  · by_cases x : i = l
    · rw [x, T.bl, T.cj]; grind
    · rw [T.bi i x, T.cj, I.cz i hi, zl i hi x]; grind
  · by_cases x : i = l
    · rw [x, T.rl]; exact div_pos' (I.rp l T.lm) p
    · rw [T.ri i hi x]
      have q := div_pos' (I.rp l T.lm) p
      by_cases s : 0 < S.t i e
      · have u := T.ratio i hi s
        have v : S.r l / S.t l e * S.t l e = S.r l := by grind
        have w : (S.t i e * (S.r l / S.t l e)) * S.t l e ≤ S.r i * S.t l e := by
          have : (S.t i e * (S.r l / S.t l e)) * S.t l e = S.r l * S.t i e := by grind
          rw [this]; exact u
        have z : ¬ S.r i < S.t i e * (S.r l / S.t l e) := fun z => by
          have := Rat.mul_lt_mul_of_pos_right z p
          grind
        grind
      · have a : 0 ≤ (- S.t i e) * (S.r l / S.t l e) := Rat.mul_nonneg (by grind) q
        have b := I.rp i hi
        grind
theorem Step.ker {S S' : Tb} {e l : Nat} (T : Step m n k S S' e l) {x : Nat → Rat} (h : Ker m n S x) : Ker m n S' x := fun i hi => by
  by_cases y : i = l
  · subst y
    rw [sm_congr (g := fun j => (1 / S.t i e) * (S.t i j * x j)) fun j _ => by rw [T.tl]; grind, sm_mul, h i hi]; grind
  · rw [sm_congr (g := fun j => S.t i j * x j - (S.t i e / S.t l e) * (S.t l j * x j)) fun j _ => by rw [T.ti i hi y]; grind, sm_sub, sm_mul, h i hi, h l T.lm]; grind
theorem Step.sol {S S' : Tb} {e l : Nat} (T : Step m n k S S' e l) {x : Nat → Rat} (h : Sol m n S x) : Sol m n S' x := fun i hi => by
  by_cases y : i = l
  · subst y
    rw [sm_congr (g := fun j => (1 / S.t i e) * (S.t i j * x j)) fun j _ => by rw [T.tl]; grind, sm_mul, h i hi, T.rl]; grind
  · rw [sm_congr (g := fun j => S.t i j * x j - (S.t i e / S.t l e) * (S.t l j * x j)) fun j _ => by rw [T.ti i hi y]; grind, sm_sub, sm_mul, h i hi, h l T.lm, T.ri i hi y]; grind
theorem Step.sol' {S S' : Tb} {e l : Nat} (T : Step m n k S S' e l) {x : Nat → Rat} (h : Sol m n S' x) : Sol m n S x := by
  have p := T.pos
  have p0 : S.t l e ≠ 0 := by grind
  have hl : sm n (fun j => S.t l j * x j) = S.r l := by
    have := h l T.lm
    rw [sm_congr (g := fun j => (1 / S.t l e) * (S.t l j * x j)) fun j _ => by rw [T.tl]; grind, sm_mul, T.rl] at this
    grind
  intro i hi
  by_cases y : i = l
  · rw [y]; exact hl
  · have := h i hi
    rw [sm_congr (g := fun j => S.t i j * x j - (S.t i e / S.t l e) * (S.t l j * x j)) fun j _ => by rw [T.ti i hi y]; grind, sm_sub, sm_mul, hl, T.ri i hi y] at this
    grind
theorem Step.ker' {S S' : Tb} {e l : Nat} (T : Step m n k S S' e l) {x : Nat → Rat} (h : Ker m n S' x) : Ker m n S x := by
  have p := T.pos
  have p0 : S.t l e ≠ 0 := by grind
  have hl : sm n (fun j => S.t l j * x j) = 0 := by
    have := h l T.lm
    rw [sm_congr (g := fun j => (1 / S.t l e) * (S.t l j * x j)) fun j _ => by rw [T.tl]; grind, sm_mul] at this
    grind
  intro i hi
  by_cases y : i = l
  · rw [y]; exact hl
  · have := h i hi
    rw [sm_congr (g := fun j => S.t i j * x j - (S.t i e / S.t l e) * (S.t l j * x j)) fun j _ => by rw [T.ti i hi y]; grind, sm_sub, sm_mul, hl] at this
    grind
theorem Step.cker {S S' : Tb} {e l : Nat} (T : Step m n k S S' e l) {x : Nat → Rat} (h : Ker m n S x) : sm n (fun j => S'.c j * x j) = sm n (fun j => S.c j * x j) := by
  rw [sm_congr (g := fun j => S.c j * x j - (S.c e / S.t l e) * (S.t l j * x j)) fun j _ => by rw [T.cj]; grind, sm_sub, sm_mul, h l T.lm]; grind
theorem Step.csol {S S' : Tb} {e l : Nat} (T : Step m n k S S' e l) {x : Nat → Rat} (h : Sol m n S x) : sm n (fun j => S'.c j * x j) - S'.z = sm n (fun j => S.c j * x j) - S.z := by
  rw [sm_congr (g := fun j => S.c j * x j - (S.c e / S.t l e) * (S.t l j * x j)) fun j _ => by rw [T.cj]; grind, sm_sub, sm_mul, h l T.lm, T.zz]; grind
end Sx
end
section
set_option Elab.async false
set_option linter.all false
namespace Sx
variable {m n k : Nat}
def bsol (m : Nat) (S : Tb) (j : Nat) : Rat := sm m fun i => if S.b i = j then S.r i else 0
def Bas (m : Nat) (S : Tb) (j : Nat) : Prop := ∃ i, i < m ∧ S.b i = j
theorem bsol_at {S : Tb} (I : Inv m n S) {i : Nat} (hi : i < m) : bsol m S (S.b i) = S.r i := by
  rw [bsol, sm_one hi fun h hh ne => if_neg fun e => ne (I.inj hh hi e), if_pos rfl]
theorem bsol_off {S : Tb} {j : Nat} (h : ¬ Bas m S j) : bsol m S j = 0 := by
  rw [bsol, sm_zero fun i hi => if_neg fun e => h ⟨i, hi, e⟩]
theorem bsol_nonneg {S : Tb} (I : Inv m n S) (j : Nat) : 0 ≤ bsol m S j := by
  refine sm_nonneg fun i hi => ?_
  by_cases e : S.b i = j
  · rw [if_pos e]; exact I.rp i hi
  · rw [if_neg e]; grind
theorem sm_bas {S : Tb} (I : Inv m n S) (f g : Nat → Rat) : sm n (fun j => f j * sm m (fun i => if S.b i = j then g i else 0)) = sm m (fun i => f (S.b i) * g i) := by
  rw [sm_congr (g := fun j => sm m (fun i => f j * (if S.b i = j then g i else 0))) fun j _ => by rw [sm_mul], ← sm_comm]
  refine sm_congr fun i hi => ?_
  rw [sm_one (I.bn i hi) fun j _ ne => by rw [if_neg (Ne.symm ne)]; grind, if_pos rfl]
theorem bsol_sol {S : Tb} (I : Inv m n S) : Sol m n S (bsol m S) := fun i hi => by
  unfold bsol
  rw [sm_bas I, sm_one hi fun h hh ne => by rw [I.off h i hh hi (Ne.symm ne)]; grind, I.one i hi]; grind
theorem bsol_c {S : Tb} (I : Inv m n S) : sm n (fun j => S.c j * bsol m S j) = 0 := by
  unfold bsol
  rw [sm_bas I, sm_zero fun i hi => by rw [I.cz i hi]; grind]
def way (m : Nat) (S : Tb) (e j : Nat) : Rat := (if j = e then 1 else 0) - sm m fun i => if S.b i = j then S.t i e else 0
theorem sm_way {S : Tb} (I : Inv m n S) {e : Nat} (he : e < n) (f : Nat → Rat) : sm n (fun j => f j * way m S e j) = f e - sm m (fun i => f (S.b i) * S.t i e) := by
  unfold way
  rw [sm_congr (g := fun j => f j * (if j = e then 1 else 0) - f j * sm m (fun i => if S.b i = j then S.t i e else 0)) fun j _ => by grind, sm_sub, sm_bas I f, sm_one he fun j _ ne => by rw [if_neg ne]; grind, if_pos rfl]
  grind
theorem way_ker {S : Tb} (I : Inv m n S) {e : Nat} (he : e < n) : Ker m n S (way m S e) := fun i hi => by
  rw [sm_way I he, sm_one hi fun h hh ne => by rw [I.off h i hh hi (Ne.symm ne)]; grind, I.one i hi]; grind
theorem way_c {S : Tb} (I : Inv m n S) {e : Nat} (he : e < n) : sm n (fun j => S.c j * way m S e j) = S.c e := by
  rw [sm_way I he, sm_zero fun i hi => by rw [I.cz i hi]; grind]; grind
theorem way_at {S : Tb} (I : Inv m n S) {e i : Nat} (hi : i < m) (ne : S.b i ≠ e) : way m S e (S.b i) = - S.t i e := by
  rw [way, if_neg ne, sm_one hi fun h hh x => if_neg fun y => x (I.inj hh hi y), if_pos rfl]; grind
theorem way_off {S : Tb} {e j : Nat} (h : ¬ Bas m S j) : way m S e j = if j = e then 1 else 0 := by
  rw [way, sm_zero fun i hi => if_neg fun y => h ⟨i, hi, y⟩]; grind
theorem stops {S : Tb} (I : Inv m n S) {e : Nat} (he : e < n) (ce : S.c e < 0) (B : ∀ x : Nat → Rat, (∀ j, 0 ≤ x j) → Sol m n S x → 0 ≤ sm n (fun j => S.c j * x j) - S.z) : ∃ i, i < m ∧ 0 < S.t i e := by
  refine Classical.byContradiction fun no => ?_
  have np : ∀ i, i < m → S.t i e ≤ 0 := fun i hi => by
    have : ¬ 0 < S.t i e := fun h => no ⟨i, hi, h⟩
    grind
  have wp : ∀ j, 0 ≤ way m S e j := fun j => by
    unfold way
    have a : 0 ≤ sm m fun i => if S.b i = j then - S.t i e else 0 := sm_nonneg fun i hi => by
      have := np i hi
      split <;> grind
    have b : sm m (fun i => if S.b i = j then - S.t i e else 0) = - sm m (fun i => if S.b i = j then S.t i e else 0) := by
      rw [sm_congr (g := fun i => (-1) * (if S.b i = j then S.t i e else 0)) fun i _ => by split <;> grind, sm_mul]; grind
    split <;> grind
  have all : ∀ q : Rat, 0 ≤ q → 0 ≤ q * S.c e - S.z := fun q hq => by
    have s : Sol m n S (fun j => bsol m S j + q * way m S e j) := fun i hi => by
      rw [sm_congr (g := fun j => S.t i j * bsol m S j + q * (S.t i j * way m S e j)) fun j _ => by grind, sm_add, sm_mul, bsol_sol I i hi, way_ker I he i hi]; grind
    have := B _ (fun j => by
      have a := bsol_nonneg I j
      have b := Rat.mul_nonneg hq (wp j)
      grind) s
    rw [sm_congr (g := fun j => S.c j * bsol m S j + q * (S.c j * way m S e j)) fun j _ => by grind, sm_add, sm_mul, bsol_c I, way_c I he] at this
    grind
  have z := all 0 (by grind)
  have c0 : S.c e ≠ 0 := by grind
  have q := all ((S.z - 1) / S.c e) (by
    have : (S.z - 1) / S.c e = (1 - S.z) / (- S.c e) := by grind
    rw [this]
    exact div_pos' (by grind) (by grind))
  have : (S.z - 1) / S.c e * S.c e = S.z - 1 := by grind
  grind
structure Run (m n k : Nat) (S : Nat → Tb) (e l : Nat → Nat) (L : Nat) : Prop where
  inv : Inv m n (S 0)
  step : ∀ p, p < L → Step m n k (S p) (S (p + 1)) (e p) (l p)
variable {S : Nat → Tb} {e l : Nat → Nat} {L : Nat}
theorem Run.invs (R : Run m n k S e l L) : ∀ p, p ≤ L → Inv m n (S p)
  | 0, _ => R.inv
  | p + 1, h => (R.step p (by omega)).inv (R.invs p (by omega))
theorem Run.sols (R : Run m n k S e l L) {x : Nat → Rat} {p : Nat} (hx : Sol m n (S p) x) : ∀ d, p + d ≤ L → Sol m n (S (p + d)) x ∧ sm n (fun j => (S (p + d)).c j * x j) - (S (p + d)).z = sm n (fun j => (S p).c j * x j) - (S p).z
  | 0, _ => ⟨hx, rfl⟩
  | d + 1, h => by
    obtain ⟨a, b⟩ := R.sols hx d (by omega)
    have T := R.step (p + d) (by omega)
    exact ⟨T.sol a, (T.csol a).trans b⟩
theorem Run.kers (R : Run m n k S e l L) {x : Nat → Rat} {p : Nat} (hx : Ker m n (S p) x) : ∀ d, p + d ≤ L → Ker m n (S (p + d)) x ∧ sm n (fun j => (S (p + d)).c j * x j) = sm n (fun j => (S p).c j * x j)
  | 0, _ => ⟨hx, rfl⟩
  | d + 1, h => by
    obtain ⟨a, b⟩ := R.kers hx d (by omega)
    have T := R.step (p + d) (by omega)
    exact ⟨T.ker a, (T.cker a).trans b⟩
theorem Run.kers' (R : Run m n k S e l L) {x : Nat → Rat} {p : Nat} : ∀ d, p + d ≤ L → Ker m n (S (p + d)) x → Ker m n (S p) x
  | 0, _, h => h
  | d + 1, h, hx => R.kers' d (by omega) ((R.step (p + d) (by omega)).ker' hx)
theorem Run.ck (R : Run m n k S e l L) {x : Nat → Rat} {p q : Nat} (hp : p ≤ L) (hq : q ≤ L) (hx : Ker m n (S p) x) : sm n (fun j => (S q).c j * x j) = sm n (fun j => (S p).c j * x j) := by
  by_cases h : p ≤ q
  · have := (R.kers hx (q - p) (by omega)).2
    rwa [show p + (q - p) = q by omega] at this
  · have e : q + (p - q) = p := by omega
    have hk : Ker m n (S q) x := R.kers' (p := q) (p - q) (by omega) (by rw [e]; exact hx)
    have := (R.kers hk (p - q) (by omega)).2
    rw [e] at this
    exact this.symm
theorem Step.zle {S S' : Tb} {e l : Nat} (I : Inv m n S) (T : Step m n k S S' e l) : S.z ≤ S'.z ∧ (S'.z = S.z → S.r l = 0) := by
  have q := div_pos' (I.rp l T.lm) T.pos
  have c := T.ce
  have p := T.pos
  have a : 0 ≤ (- S.c e) * (S.r l / S.t l e) := Rat.mul_nonneg (by grind) q
  have z := T.zz
  refine ⟨by grind, fun h => ?_⟩
  have : S.c e * (S.r l / S.t l e) = 0 := by grind
  rcases Rat.mul_eq_zero.mp this with w | w
  · grind
  · have : S.r l / S.t l e * S.t l e = S.r l := by grind
    grind
theorem Run.zle (R : Run m n k S e l L) {p : Nat} : ∀ d, p + d ≤ L → (S p).z ≤ (S (p + d)).z
  | 0, _ => by simp only [Nat.add_zero]; grind
  | d + 1, h => by
    have a := R.zle (p := p) d (by omega)
    have b := ((R.step (p + d) (by omega)).zle (R.invs _ (by omega))).1
    show (S p).z ≤ (S (p + d + 1)).z
    grind
theorem Step.bas_new {S S' : Tb} {e l : Nat} (T : Step m n k S S' e l) {j : Nat} (h : Bas m S' j) : Bas m S j ∨ j = e := by
  obtain ⟨i, hi, rfl⟩ := h
  by_cases x : i = l
  · rw [x, T.bl]; exact .inr rfl
  · rw [T.bi i x]; exact .inl ⟨i, hi, rfl⟩
theorem Step.bas_old {S S' : Tb} {e l : Nat} (T : Step m n k S S' e l) {j : Nat} (h : Bas m S j) : Bas m S' j ∨ j = S.b l := by
  obtain ⟨i, hi, rfl⟩ := h
  by_cases x : i = l
  · rw [x]; exact .inr rfl
  · exact .inl ⟨i, hi, T.bi i x⟩
theorem Run.comes (R : Run m n k S e l L) {p j : Nat} (hp : ¬ Bas m (S p) j) : ∀ d, p + d ≤ L → Bas m (S (p + d)) j → ∃ s, p ≤ s ∧ s < p + d ∧ e s = j
  | 0, _, h => absurd h hp
  | d + 1, hd, h => by
    rcases (R.step (p + d) (by omega)).bas_new h with w | w
    · obtain ⟨s, a, b, c⟩ := R.comes hp d (by omega) w
      exact ⟨s, a, by omega, c⟩
    · exact ⟨p + d, by omega, by omega, w.symm⟩
theorem Run.goes (R : Run m n k S e l L) {p j : Nat} (hp : Bas m (S p) j) : ∀ d, p + d ≤ L → ¬ Bas m (S (p + d)) j → ∃ s, p ≤ s ∧ s < p + d ∧ (S s).b (l s) = j
  | 0, _, h => absurd hp h
  | d + 1, hd, h => by
    by_cases w : Bas m (S (p + d)) j
    · rcases (R.step (p + d) (by omega)).bas_old w with v | v
      · exact absurd v h
      · exact ⟨p + d, by omega, by omega, v.symm⟩
    · obtain ⟨s, a, b, c⟩ := R.goes hp d (by omega) w
      exact ⟨s, a, by omega, c⟩
theorem greatest (f : Nat → Nat) (p : Nat) : ∀ d, ∃ s, p ≤ s ∧ s < p + (d + 1) ∧ ∀ u, p ≤ u → u < p + (d + 1) → f u ≤ f s
  | 0 => ⟨p, by omega, by omega, fun u a b => by rw [show u = p by omega]; exact Nat.le_refl _⟩
  | d + 1 => by
    obtain ⟨s, a, b, c⟩ := greatest f p d
    by_cases h : f (p + (d + 1)) ≤ f s
    · refine ⟨s, a, by omega, fun u x y => ?_⟩
      by_cases z : u = p + (d + 1)
      · rw [z]; exact h
      · exact c u x (by omega)
    · refine ⟨p + (d + 1), by omega, by omega, fun u x y => ?_⟩
      by_cases z : u = p + (d + 1)
      · rw [z]; exact Nat.le_refl _
      · have := c u x (by omega); omega
theorem Run.no_return (R : Run m n k S e l L) {p q : Nat} (pq : p < q) (ql : q ≤ L) : ¬ ∀ j, Bas m (S p) j ↔ Bas m (S q) j := by
  intro same
  have Ip := R.invs p (by omega)
  have Iq := R.invs q ql
  -- nothing moves
  have zz : (S q).z = (S p).z := by
    have a := (R.sols (bsol_sol Ip) (q - p) (by omega)).2
    rw [show p + (q - p) = q by omega, bsol_c Ip] at a
    have b : sm n (fun j => (S q).c j * bsol m (S p) j) = 0 := sm_zero fun j hj => by
      by_cases h : Bas m (S q) j
      · obtain ⟨i, hi, rfl⟩ := h
        rw [Iq.cz i hi]; grind
      · rw [bsol_off fun w => h ((same j).mp w)]; grind
    rw [b] at a
    grind
  have r0 : ∀ s, p ≤ s → s < q → (S s).r (l s) = 0 := fun s a b => by
    have x := R.zle (p := p) (s - p) (by omega)
    have y := R.zle (p := s + 1) (q - (s + 1)) (by omega)
    rw [show p + (s - p) = s by omega] at x
    rw [show s + 1 + (q - (s + 1)) = q by omega] at y
    have z := (R.step s (by omega)).zle (R.invs s (by omega))
    exact z.2 (by grind)
  have bs : ∀ d, p + d ≤ q → ∀ j, bsol m (S (p + d)) j = bsol m (S p) j := fun d => by
    induction d with
    | zero => intro _ j; rfl
    | succ d ih =>
      intro h j
      rw [← ih (by omega) j]
      have T := R.step (p + d) (by omega)
      have z := r0 (p + d) (by omega) (by omega)
      refine sm_congr fun i hi => ?_
      show (if (S (p + d + 1)).b i = j then (S (p + d + 1)).r i else 0) = _
      by_cases x : i = l (p + d)
      · subst x
        rw [T.rl, z]
        split <;> split <;> grind
      · rw [T.bi i x, T.ri i hi x, z]
        split <;> grind
  have bse : ∀ s u, p ≤ s → s ≤ q → p ≤ u → u ≤ q → ∀ j, bsol m (S s) j = bsol m (S u) j := fun s u a b c d j => by
    have x := bs (s - p) (by omega) j
    have y := bs (u - p) (by omega) j
    rw [show p + (s - p) = s by omega] at x
    rw [show p + (u - p) = u by omega] at y
    rw [x, y]
  -- the greatest unknown that comes
  obtain ⟨s2, a2, b2, top⟩ := greatest e p (q - p - 1)
  have T2 := R.step s2 (by omega)
  have I2 := R.invs s2 (by omega)
  have out2 : ¬ Bas m (S s2) (e s2) := fun ⟨i, hi, h⟩ => T2.ne I2 hi h
  have in2 : Bas m (S (s2 + 1)) (e s2) := ⟨l s2, T2.lm, T2.bl⟩
  have fick : ∀ r s, p ≤ s → s ≤ q → Bas m (S s) r → ¬ Bas m (S s2) r → r ≤ e s2 := fun r s x y inn out => by
    have via : ∀ a b, p ≤ a → a ≤ b → b ≤ q → ¬ Bas m (S a) r → Bas m (S b) r → r ≤ e s2 := fun a b h1 h2 h3 h4 h5 => by
      obtain ⟨u, u1, u2, rfl⟩ := R.comes h4 (b - a) (by omega) (by rw [show a + (b - a) = b by omega]; exact h5)
      exact top u (by omega) (by omega)
    by_cases w : s2 ≤ s
    · exact via s2 s a2 w y out inn
    · by_cases v : Bas m (S q) r
      · exact via s2 q a2 (by omega) (Nat.le_refl _) out v
      · exact via p s (Nat.le_refl _) x y (fun h => v ((same r).mp h)) inn
  obtain ⟨s1, a1, b1, le1⟩ : ∃ s, p ≤ s ∧ s < q ∧ (S s).b (l s) = e s2 := by
    by_cases w : Bas m (S q) (e s2)
    · obtain ⟨s, x, y, z⟩ := R.goes ((same _).mpr w) (s2 - p) (by omega) (by rw [show p + (s2 - p) = s2 by omega]; exact out2)
      exact ⟨s, x, by omega, z⟩
    · obtain ⟨s, x, y, z⟩ := R.goes in2 (q - (s2 + 1)) (by omega) (by rw [show s2 + 1 + (q - (s2 + 1)) = q by omega]; exact w)
      exact ⟨s, by omega, by omega, z⟩
  have T1 := R.step s1 (by omega)
  have I1 := R.invs s1 (by omega)
  have e1n : e s1 < n := Nat.lt_of_lt_of_le T1.ek T1.kn
  have e1t : e s1 < e s2 := by
    have x := top s1 a1 (by omega)
    have y : (S s1).b (l s1) ≠ e s1 := T1.ne I1 T1.lm
    omega
  have neg : sm n (fun j => (S s2).c j * way m (S s1) (e s1) j) < 0 := by
    rw [R.ck (p := s1) (q := s2) (by omega) (by omega) (way_ker I1 e1n), way_c I1 e1n]
    exact T1.ce
  obtain ⟨r, rn, rneg⟩ := sm_neg neg
  by_cases rb : Bas m (S s1) r
  · obtain ⟨i, hi, rfl⟩ := rb
    rw [way_at I1 hi (T1.ne I1 hi)] at rneg
    have nb : ¬ Bas m (S s2) ((S s1).b i) := fun ⟨h, hh, w⟩ => by
      have := I2.cz h hh
      rw [w] at this
      rw [this] at rneg
      grind
    have rle := fick _ s1 a1 (by omega) ⟨i, hi, rfl⟩ nb
    by_cases rt : (S s1).b i = e s2
    · have il : i = l s1 := I1.inj hi T1.lm (by rw [rt, le1])
      subst il
      have x := T2.ce
      have y := T1.pos
      rw [rt] at rneg
      have : 0 ≤ (- (S s2).c (e s2)) * (S s1).t (l s1) (e s1) := Rat.mul_nonneg (by grind) (by grind)
      grind
    · have c2 := T2.first ((S s1).b i) (by omega)
      have tp : 0 < (S s1).t i (e s1) := by
        refine Classical.byContradiction fun np => ?_
        have : 0 ≤ (S s2).c ((S s1).b i) * (- (S s1).t i (e s1)) := Rat.mul_nonneg c2 (by grind)
        grind
      have ri : (S s1).r i = 0 := by
        rw [← bsol_at I1 hi, bse s1 s2 a1 (by omega) a2 (by omega), bsol_off nb]
      have := T1.tie i hi tp (by rw [ri, r0 s1 a1 b1]; grind)
      omega
  · rw [way_off rb] at rneg
    by_cases re : r = e s1
    · rw [if_pos re] at rneg
      have := T2.first r (by omega)
      grind
    · rw [if_neg re] at rneg
      grind
end Sx
end
section
set_option Elab.async false
set_option linter.all false
namespace Sx
variable {m n k : Nat}
def enc : Nat → (Nat → Bool) → Nat
  | 0, _ => 0
  | n + 1, f => enc n f + if f n = true then 2 ^ n else 0
theorem enc_lt (f : Nat → Bool) : ∀ n, enc n f < 2 ^ n
  | 0 => by simp [enc]
  | n + 1 => by
    have := enc_lt f n
    rw [enc, Nat.pow_succ]
    split <;> omega
theorem enc_inj {f g : Nat → Bool} : ∀ {n}, enc n f = enc n g → ∀ j, j < n → f j = g j
  | n + 1, h, j, hj => by
    have a := enc_lt f n
    have b := enc_lt g n
    rw [enc, enc] at h
    have e : f n = g n := by
      cases x : f n <;> cases y : g n <;> simp [x, y] at h ⊢ <;> omega
    by_cases w : j = n
    · rw [w, e]
    · rw [e] at h
      exact enc_inj (n := n) (by omega) j (by omega)
theorem pigeons : ∀ (K : Nat) (f : Nat → Nat), (∀ s, s ≤ K → f s < K) → ∃ p q, p < q ∧ q ≤ K ∧ f p = f q
  | 0, f, h => absurd (h 0 (Nat.le_refl _)) (by omega)
  | K + 1, f, h => by
    by_cases w : ∃ p, p ≤ K ∧ f p = f (K + 1)
    · obtain ⟨p, a, b⟩ := w
      exact ⟨p, K + 1, by omega, Nat.le_refl _, b⟩
    · have nv : ∀ s, s ≤ K → f s ≠ f (K + 1) := fun s a b => w ⟨s, a, b⟩
      obtain ⟨p, q, a, b, c⟩ := pigeons K (fun s => if f s = K then f (K + 1) else f s) fun s hs => by
        have x := h s (by omega)
        have y := h (K + 1) (Nat.le_refl _)
        have z := nv s hs
        show (if f s = K then f (K + 1) else f s) < K
        split <;> omega
      refine ⟨p, q, a, by omega, ?_⟩
      have x := nv p (by omega)
      have y := nv q (by omega)
      by_cases u : f p = K <;> by_cases v : f q = K
      · omega
      · rw [if_pos u, if_neg v] at c; omega
      · rw [if_neg u, if_pos v] at c; omega
      · rw [if_neg u, if_neg v] at c; exact c
open Classical in
theorem Run.short {S : Nat → Tb} {e l : Nat → Nat} {L : Nat} (R : Run m n k S e l L) : L < 2 ^ n := by
  refine Classical.byContradiction fun h => ?_
  obtain ⟨p, q, a, b, c⟩ := pigeons (2 ^ n) (fun s => enc n fun j => decide (Bas m (S s) j)) fun s _ => enc_lt _ n
  refine R.no_return (p := p) (q := q) a (by omega) fun j => ?_
  by_cases hj : j < n
  · have := enc_inj c j hj
    exact decide_eq_decide.mp this
  · have x : ∀ s, s ≤ L → ¬ Bas m (S s) j := fun s hs ⟨i, hi, e⟩ => by
      have := (R.invs s hs).bn i hi
      omega
    exact ⟨fun w => absurd w (x p (by omega)), fun w => absurd w (x q (by omega))⟩
end Sx
end
section
set_option Elab.async false
set_option linter.all false
namespace Sx
def si : Nat → (Nat → Int) → Int
  | 0, _ => 0
  | n + 1, f => si n f + f n
theorem si_congr {f g : Nat → Int} : ∀ {n : Nat}, (∀ j, j < n → f j = g j) → si n f = si n g
  | 0, _ => rfl
  | n + 1, h => by rw [si, si, si_congr fun j hj => h j (by omega), h n (by omega)]
theorem si_zero {f : Nat → Int} : ∀ {n : Nat}, (∀ j, j < n → f j = 0) → si n f = 0
  | 0, _ => rfl
  | n + 1, h => by rw [si, si_zero fun j hj => h j (by omega), h n (by omega)]; rfl
theorem si_add (f g : Nat → Int) : ∀ n : Nat, si n (fun j => f j + g j) = si n f + si n g
  | 0 => rfl
  | n + 1 => by simp only [si, si_add f g n]; omega
theorem si_mul (a : Int) (f : Nat → Int) : ∀ n : Nat, si n (fun j => a * f j) = a * si n f
  | 0 => by simp only [si]; omega
  | n + 1 => by simp only [si, si_mul a f n]; grind
theorem si_abs {f : Nat → Int} {K : Nat} : ∀ {n : Nat}, (∀ j, j < n → (f j).natAbs ≤ K) → (si n f).natAbs ≤ n * K
  | 0, _ => by simp [si]
  | n + 1, h => by
    have a := si_abs (f := f) (n := n) fun j hj => h j (by omega)
    have b := h n (by omega)
    rw [si, Nat.succ_mul]
    omega
theorem si_cast (f : Nat → Int) : ∀ n : Nat, ((si n f : Int) : Rat) = sm n (fun j => (f j : Rat))
  | 0 => by simp [si, sm]
  | n + 1 => by rw [si, sm, Rat.intCast_add, si_cast f n]
def bnd : Nat → Nat → Nat
  | 0, _ => 1
  | N + 1, M => (N + 1) * M * bnd N (2 * M * M) + M * bnd N (2 * M * M) + 1
theorem mul_abs {a b : Int} {A B : Nat} (h : a.natAbs ≤ A) (g : b.natAbs ≤ B) : (a * b).natAbs ≤ A * B := by
  rw [Int.natAbs_mul]; exact Nat.mul_le_mul h g
theorem level : ∀ (N M : Nat) (V : Nat → Nat → Int), (∀ h k, h < N → k < N + 1 → (V h k).natAbs ≤ M) →
    ∃ u : Nat → Int, (∃ k, k < N + 1 ∧ u k ≠ 0) ∧ (∀ k, k < N + 1 → (u k).natAbs ≤ bnd N M) ∧ ∀ h, h < N → si (N + 1) (fun k => u k * V h k) = 0
  | 0, M, V, _ => ⟨fun _ => 1, ⟨0, by omega, by decide⟩, fun k hk => by simp [bnd], fun h hh => by omega⟩
  | N + 1, M, V, hV => by
    by_cases w : ∃ c, c < N + 1 ∧ V c (N + 1) ≠ 0
    · obtain ⟨c, hc, a0⟩ := w
      have hcV : ∀ k, k < N + 2 → (V c k).natAbs ≤ M := fun k hk => hV c k hc hk
      let pk : Nat → Nat := fun h => if h = c then N else h
      let V1 : Nat → Nat → Int := fun h k => V c (N + 1) * V (pk h) k - V (pk h) (N + 1) * V c k
      obtain ⟨u, ⟨k0, hk0, un⟩, ub, uo⟩ := level N (2 * M * M) V1 fun h k hh hk => by
        have p1 : pk h < N + 1 := by show (if h = c then N else h) < N + 1; split <;> omega
        have x := mul_abs (hcV (N + 1) (by omega)) (hV (pk h) k p1 (by omega))
        have y := mul_abs (hV (pk h) (N + 1) p1 (by omega)) (hcV k (by omega))
        have z : 2 * M * M = M * M + M * M := by rw [Nat.mul_assoc, Nat.two_mul]
        show (V c (N + 1) * V (pk h) k - V (pk h) (N + 1) * V c k).natAbs ≤ _
        omega
      let s : Int := si (N + 1) fun k => u k * V c k
      refine ⟨fun k => if k = N + 1 then - s else V c (N + 1) * u k, ⟨k0, by omega, ?_⟩, fun k hk => ?_, fun h hh => ?_⟩
      · show (if k0 = N + 1 then - s else V c (N + 1) * u k0) ≠ 0
        rw [if_neg (by omega)]
        exact Int.mul_ne_zero a0 un
      · show (if k = N + 1 then - s else V c (N + 1) * u k).natAbs ≤ _
        rw [bnd]
        split
        · have : s.natAbs ≤ (N + 1) * (bnd N (2 * M * M) * M) := si_abs fun j hj => mul_abs (ub j hj) (hcV j (by omega))
          have e : (N + 1) * (bnd N (2 * M * M) * M) = (N + 1) * M * bnd N (2 * M * M) := by generalize bnd N (2 * M * M) = y; rw [Nat.mul_comm y M, Nat.mul_assoc]
          omega
        · have := mul_abs (hcV (N + 1) (by omega)) (ub k (by omega))
          omega
      · have split_ : ∀ h, si (N + 2) (fun k => (if k = N + 1 then - s else V c (N + 1) * u k) * V h k) = V c (N + 1) * si (N + 1) (fun k => u k * V h k) - s * V h (N + 1) := fun h => by
          rw [si, if_pos rfl, si_congr (g := fun k => V c (N + 1) * (u k * V h k)) fun k hk => by rw [if_neg (by omega)]; grind, si_mul]
          grind
        rw [split_]
        by_cases hcc : h = c
        · rw [hcc]
          show V c (N + 1) * s - s * V c (N + 1) = 0
          grind
        · -- the vector stands at some place of the smaller ones
          have : ∃ h', h' < N ∧ pk h' = h := by
            by_cases hn : h = N
            · exact ⟨c, by omega, by show (if c = c then N else c) = h; rw [if_pos rfl, hn]⟩
            · exact ⟨h, by omega, by show (if h = c then N else h) = h; rw [if_neg hcc]⟩
          obtain ⟨h', hh', e⟩ := this
          have o := uo h' hh'
          rw [si_congr (g := fun k => V c (N + 1) * (u k * V h k) + (- V h (N + 1)) * (u k * V c k)) fun k hk => by
            show u k * (V c (N + 1) * V (pk h') k - V (pk h') (N + 1) * V c k) = _
            rw [e]; grind, si_add, si_mul, si_mul] at o
          show V c (N + 1) * si (N + 1) (fun k => u k * V h k) - (si (N + 1) fun k => u k * V c k) * V h (N + 1) = 0
          grind
    · refine ⟨fun k => if k = N + 1 then 1 else 0, ⟨N + 1, by omega, by simp⟩, fun k hk => ?_, fun h hh => ?_⟩
      · show (if k = N + 1 then (1 : Int) else 0).natAbs ≤ _
        rw [bnd]
        split <;> simp
      · have z : V h (N + 1) = 0 := Classical.byContradiction fun x => w ⟨h, hh, x⟩
        rw [si, si_zero fun k hk => by
          show (if k = N + 1 then (1 : Int) else 0) * V h k = 0
          rw [if_neg (by omega)]; omega, z]
        omega
theorem bnd_small : ∀ N, N < 7 → bnd N 6 ≤ 2 ^ 240 := by decide
end Sx
end
section
set_option Elab.async false
set_option linter.all false
namespace Sx
structure It where
  T : Nat → Nat → Int
  C : Nat → Int
  B : Nat → Nat
def It.tb (n : Nat) (I : It) : Tb where
  t i j := (I.T i j : Rat) / (I.T i (I.B i) : Rat)
  r i := (I.T i (n + 1) : Rat) / (I.T i (I.B i) : Rat)
  c j := (I.C j : Rat) / (I.C n : Rat)
  z := (I.C (n + 1) : Rat) / (I.C n : Rat)
  b := I.B
structure IInv (m n : Nat) (I : It) : Prop where
  bn : ∀ i, i < m → I.B i < n
  pos : ∀ i, i < m → 0 < I.T i (I.B i)
  off : ∀ i h, i < m → h < m → h ≠ i → I.T h (I.B i) = 0
  cz : ∀ i, i < m → I.C (I.B i) = 0
  rp : ∀ i, i < m → 0 ≤ I.T i (n + 1)
  sc : ∀ i, i < m → I.T i n = 0
  sp : 0 < I.C n
structure IStep (m n k : Nat) (I I' : It) (e l : Nat) : Prop where
  ek : e < k
  kn : k ≤ n
  ce : I.C e < 0
  first : ∀ j, j < e → 0 ≤ I.C j
  lm : l < m
  pos : 0 < I.T l e
  ratio : ∀ i, i < m → 0 < I.T i e → I.T l (n + 1) * I.T i e ≤ I.T i (n + 1) * I.T l e
  tie : ∀ i, i < m → 0 < I.T i e → I.T l (n + 1) * I.T i e = I.T i (n + 1) * I.T l e → I.B l ≤ I.B i
  tl : ∀ j, I'.T l j = I.T l j
  ti : ∀ i, i < m → i ≠ l → ∃ g : Int, 0 < g ∧ ∀ j, I'.T i j * g = I.T i j * I.T l e - I.T i e * I.T l j
  cj : ∃ g : Int, 0 < g ∧ ∀ j, I'.C j * g = I.C j * I.T l e - I.C e * I.T l j
  bl : I'.B l = e
  bi : ∀ i, i ≠ l → I'.B i = I.B i
variable {m n k : Nat} {I I' : It} {e l : Nat}
theorem cpos {a : Int} (h : 0 < a) : (0 : Rat) < (a : Rat) := Rat.intCast_pos.mpr h
theorem cle {a b : Int} (h : a ≤ b) : (a : Rat) ≤ (b : Rat) := Rat.intCast_le_intCast.mpr h
theorem clt {a b : Int} (h : a < b) : (a : Rat) < (b : Rat) := Rat.intCast_lt_intCast.mpr h
theorem ceq {a b : Int} (h : (a : Rat) = (b : Rat)) : a = b := Rat.intCast_inj.mp h
theorem ceq' {a b : Int} (h : a = b) : (a : Rat) = (b : Rat) := by rw [h]
theorem dpos {a b : Rat} (ha : 0 < a) (hb : 0 < b) : 0 < a / b := by
  rw [Rat.div_def]; exact Rat.mul_pos ha (Rat.inv_pos.mpr hb)
theorem dpos_iff {a : Int} {b : Rat} (hb : 0 < b) (h : 0 < (a : Rat) / b) : 0 < a := by
  refine Classical.byContradiction fun n => ?_
  have x : (a : Rat) ≤ 0 := cle (b := 0) (by omega)
  have y := div_pos' (a := - (a : Rat)) (b := b) (by grind) hb
  have : - (a : Rat) / b = - ((a : Rat) / b) := by grind
  grind
theorem dnn_iff {a : Int} {b : Rat} (hb : 0 < b) (h : 0 ≤ (a : Rat) / b) : 0 ≤ a := by
  refine Classical.byContradiction fun n => ?_
  have x : (a : Rat) < 0 := clt (b := 0) (by omega)
  have y := dpos (a := - (a : Rat)) (b := b) (by grind) hb
  have : - (a : Rat) / b = - ((a : Rat) / b) := by grind
  grind
theorem dd {x d p : Rat} (h : 0 < d) : x / d / (p / d) = x / p := by grind
theorem frac_gen (d' d g a' a f p x : Rat) (h1 : 0 < d') (h2 : 0 < d) (h3 : 0 < g) (h4 : 0 < p) (h5 : d' * g = d * p) (h6 : a' * g = a * p - f * x) : a' / d' = a / d - f / d * (x / p) := by
  have k1 : a' / d' = (a' * g) / (d' * g) := by grind
  rw [k1, h5, h6]
  grind
theorem frac_le {a b c d x y : Rat} (hx : 0 < x) (hy : 0 < y) (h : a * b ≤ c * d) : a / x * (b / y) ≤ c / y * (d / x) := by
  have q := div_pos' (a := c * d - a * b) (b := x * y) (by grind) (Rat.mul_pos hx hy)
  have : c / y * (d / x) - a / x * (b / y) = (c * d - a * b) / (x * y) := by grind
  grind
theorem frac_eq {a b c d x y : Rat} (hx : 0 < x) (hy : 0 < y) (h : a / x * (b / y) = c / y * (d / x)) : a * b = c * d := by
  have k1 : a * b = a / x * (b / y) * (x * y) := by grind
  have k2 : c * d = c / y * (d / x) * (x * y) := by grind
  rw [k1, k2, h]
theorem IInv.tb (H : IInv m n I) : Inv m n (I.tb n) := by
  refine ⟨H.bn, fun i hi => ?_, fun i h hi hh ne => ?_, fun i hi => ?_, fun i hi => ?_⟩
  · have := cpos (H.pos i hi)
    show (I.T i (I.B i) : Rat) / (I.T i (I.B i) : Rat) = 1
    grind
  · show (I.T h (I.B i) : Rat) / (I.T h (I.B h) : Rat) = 0
    rw [H.off i h hi hh ne, Rat.intCast_zero]; grind
  · show (I.C (I.B i) : Rat) / (I.C n : Rat) = 0
    rw [H.cz i hi, Rat.intCast_zero]; grind
  · exact div_pos' (cle (H.rp i hi)) (cpos (H.pos i hi))
theorem IStep.newpos (H : IInv m n I) (T : IStep m n k I I' e l) : ∀ i, i < m → 0 < I'.T i (I'.B i) := fun i hi => by
  by_cases x : i = l
  · rw [x, T.bl, T.tl]; exact T.pos
  · obtain ⟨g, g0, hg⟩ := T.ti i hi x
    have a := hg (I.B i)
    rw [H.off i l hi T.lm (Ne.symm x)] at a
    have b := Int.mul_pos (H.pos i hi) T.pos
    rw [T.bi i x]
    refine Classical.byContradiction fun np => ?_
    have := Int.mul_nonneg (a := - I'.T i (I.B i)) (b := g) (by omega) (by omega)
    have e1 : (- I'.T i (I.B i)) * g = - (I'.T i (I.B i) * g) := by grind
    omega
theorem IStep.step (H : IInv m n I) (T : IStep m n k I I' e l) : Step m n k (I.tb n) (I'.tb n) e l := by
  have s0 := cpos H.sp
  have p := cpos T.pos
  have dl := cpos (H.pos l T.lm)
  have cb : ∀ a b c d : Int, a * b = c * d → (a : Rat) * b = (c : Rat) * d := fun a b c d h => by rw [← Rat.intCast_mul, ← Rat.intCast_mul, h]
  have cl : ∀ a b c d : Int, a * b ≤ c * d → (a : Rat) * b ≤ (c : Rat) * d := fun a b c d h => by rw [← Rat.intCast_mul, ← Rat.intCast_mul]; exact cle h
  have c3 : ∀ a g b c d f : Int, a * g = b * c - d * f → (a : Rat) * g = (b : Rat) * c - (d : Rat) * f := fun a g b c d f h => by rw [← Rat.intCast_mul, ← Rat.intCast_mul, ← Rat.intCast_mul, ← Rat.intCast_sub, h]
  have sub1 : ∀ i, i < m → 0 < (I.tb n).t i e → 0 < I.T i e := fun i hi h => dpos_iff (cpos (H.pos i hi)) h
  obtain ⟨gc, gc0, hgc⟩ := T.cj
  have gcr := cpos gc0
  have cn : (I'.C n : Rat) * gc = (I.C n : Rat) * (I.T l e : Rat) := by
    have := c3 _ _ _ _ _ _ (hgc n)
    rw [H.sc l T.lm, Rat.intCast_zero] at this
    grind
  have cn0 : (0 : Rat) < (I'.C n : Rat) := by
    refine Classical.byContradiction fun np => ?_
    have a := Rat.mul_nonneg (a := - (I'.C n : Rat)) (b := gc) (by grind) (by grind)
    have b := Rat.mul_pos s0 p
    grind
  have rt : ∀ i, i < m → (i ≠ l) → ∃ g : Rat, 0 < g ∧ (I'.T i (I'.B i) : Rat) * g = (I.T i (I.B i) : Rat) * (I.T l e : Rat) ∧ ∀ j, (I'.T i j : Rat) * g = (I.T i j : Rat) * (I.T l e : Rat) - (I.T i e : Rat) * (I.T l j : Rat) := fun i hi x => by
    obtain ⟨g, g0, hg⟩ := T.ti i hi x
    refine ⟨(g : Rat), cpos g0, ?_, fun j => c3 _ _ _ _ _ _ (hg j)⟩
    rw [T.bi i x]
    have := c3 _ _ _ _ _ _ (hg (I.B i))
    rw [H.off i l hi T.lm (Ne.symm x), Rat.intCast_zero] at this
    grind
  refine ⟨T.ek, T.kn, ?_, fun j hj => div_pos' (cle (T.first j hj)) s0, T.lm, dpos p dl, fun i hi h => ?_, fun i hi h w => ?_, fun j => ?_, ?_, fun i hi x j => ?_, fun i hi x => ?_, fun j => ?_, ?_, T.bl, T.bi⟩
  · have := dpos (a := - (I.C e : Rat)) (b := (I.C n : Rat)) (by have := clt (b := 0) T.ce; grind) s0
    show (I.C e : Rat) / (I.C n : Rat) < 0
    grind
  · have a := cl _ _ _ _ (T.ratio i hi (sub1 i hi h))
    have di := cpos (H.pos i hi)
    show (I.T l (n + 1) : Rat) / (I.T l (I.B l) : Rat) * ((I.T i e : Rat) / (I.T i (I.B i) : Rat)) ≤ (I.T i (n + 1) : Rat) / (I.T i (I.B i) : Rat) * ((I.T l e : Rat) / (I.T l (I.B l) : Rat))
    exact frac_le dl di a
  · refine T.tie i hi (sub1 i hi h) (ceq ?_)
    have di := cpos (H.pos i hi)
    have w' : (I.T l (n + 1) : Rat) / (I.T l (I.B l) : Rat) * ((I.T i e : Rat) / (I.T i (I.B i) : Rat)) = (I.T i (n + 1) : Rat) / (I.T i (I.B i) : Rat) * ((I.T l e : Rat) / (I.T l (I.B l) : Rat)) := w
    rw [Rat.intCast_mul, Rat.intCast_mul]
    exact frac_eq dl di w'
  · show (I'.T l j : Rat) / (I'.T l (I'.B l) : Rat) = (I.T l j : Rat) / (I.T l (I.B l) : Rat) / ((I.T l e : Rat) / (I.T l (I.B l) : Rat))
    rw [T.bl, T.tl, T.tl, dd dl]
  · show (I'.T l (n + 1) : Rat) / (I'.T l (I'.B l) : Rat) = (I.T l (n + 1) : Rat) / (I.T l (I.B l) : Rat) / ((I.T l e : Rat) / (I.T l (I.B l) : Rat))
    rw [T.bl, T.tl, T.tl, dd dl]
  · obtain ⟨g, g0, h1, h2⟩ := rt i hi x
    have := frac_gen _ _ _ _ _ _ _ _ (cpos (T.newpos H i hi)) (cpos (H.pos i hi)) g0 p h1 (h2 j)
    show (I'.T i j : Rat) / (I'.T i (I'.B i) : Rat) = (I.T i j : Rat) / (I.T i (I.B i) : Rat) - (I.T i e : Rat) / (I.T i (I.B i) : Rat) * ((I.T l j : Rat) / (I.T l (I.B l) : Rat) / ((I.T l e : Rat) / (I.T l (I.B l) : Rat)))
    rw [this, dd dl]
  · obtain ⟨g, g0, h1, h2⟩ := rt i hi x
    have := frac_gen _ _ _ _ _ _ _ _ (cpos (T.newpos H i hi)) (cpos (H.pos i hi)) g0 p h1 (h2 (n + 1))
    show (I'.T i (n + 1) : Rat) / (I'.T i (I'.B i) : Rat) = (I.T i (n + 1) : Rat) / (I.T i (I.B i) : Rat) - (I.T i e : Rat) / (I.T i (I.B i) : Rat) * ((I.T l (n + 1) : Rat) / (I.T l (I.B l) : Rat) / ((I.T l e : Rat) / (I.T l (I.B l) : Rat)))
    rw [this, dd dl]
  · have := frac_gen _ _ _ _ _ _ _ _ cn0 s0 gcr p cn (c3 _ _ _ _ _ _ (hgc j))
    show (I'.C j : Rat) / (I'.C n : Rat) = (I.C j : Rat) / (I.C n : Rat) - (I.C e : Rat) / (I.C n : Rat) * ((I.T l j : Rat) / (I.T l (I.B l) : Rat) / ((I.T l e : Rat) / (I.T l (I.B l) : Rat)))
    rw [this, dd dl]
  · have := frac_gen _ _ _ _ _ _ _ _ cn0 s0 gcr p cn (c3 _ _ _ _ _ _ (hgc (n + 1)))
    show (I'.C (n + 1) : Rat) / (I'.C n : Rat) = (I.C (n + 1) : Rat) / (I.C n : Rat) - (I.C e : Rat) / (I.C n : Rat) * ((I.T l (n + 1) : Rat) / (I.T l (I.B l) : Rat) / ((I.T l e : Rat) / (I.T l (I.B l) : Rat)))
    rw [this, dd dl]
theorem IStep.inv (H : IInv m n I) (T : IStep m n k I I' e l) : IInv m n I' := by
  have J := (T.step H).inv H.tb
  have np := T.newpos H
  have cn : 0 < I'.C n := by
    obtain ⟨g, g0, hg⟩ := T.cj
    have a := hg n
    rw [H.sc l T.lm] at a
    have b := Int.mul_pos H.sp T.pos
    refine Classical.byContradiction fun x => ?_
    have := Int.mul_nonneg (a := - I'.C n) (b := g) (by omega) (by omega)
    have e1 : (- I'.C n) * g = - (I'.C n * g) := by grind
    omega
  have z0 : ∀ (a : Int) (b : Rat), 0 < b → (a : Rat) / b = 0 → a = 0 := fun a b hb h => by
    have : (a : Rat) = (a : Rat) / b * b := by grind
    rw [h] at this
    exact ceq (by rw [this, Rat.intCast_zero]; grind)
  refine ⟨J.bn, np, fun i h hi hh ne => z0 _ _ (cpos (np h hh)) (J.off i h hi hh ne), fun i hi => z0 _ _ (cpos cn) (J.cz i hi), fun i hi => dnn_iff (cpos (np i hi)) (J.rp i hi), fun i hi => ?_, cn⟩
  by_cases x : i = l
  · rw [x, T.tl]; exact H.sc l T.lm
  · obtain ⟨g, g0, hg⟩ := T.ti i hi x
    have a := hg n
    rw [H.sc l T.lm, H.sc i hi] at a
    have : I'.T i n * g = 0 := by rw [a]; simp
    rcases Int.mul_eq_zero.mp this with w | w <;> omega
end Sx
end
section
set_option Elab.async false
set_option linter.all false
namespace Sx
variable {m n k : Nat} {I I' : It} {e l : Nat} {many : Nat} {R : Nat → Nat → Int} {C0 : Nat → Int}
def Prim (f : Nat → Int) : Prop := ∀ d : Nat, (∀ j, d ∣ (f j).natAbs) → d = 1
structure Lin (m n many : Nat) (R : Nat → Nat → Int) (C0 : Nat → Int) (I : It) : Prop where
  lin : ∀ i, i < m → ∀ j, I.T i j = si m (fun k => I.T i (many + k) * R k j)
  clin : ∀ j, I.C j = I.C n * C0 j + si m (fun k => I.C (many + k) * R k j)
  span : ∀ k, k < m → ∃ β : Nat → Rat, ∀ j, (R k j : Rat) = sm m (fun h => β h * (I.T h j : Rat))
theorem cancel {g a b : Int} (h : 0 < g) (e : a * g = b * g) : a = b := Int.eq_of_mul_eq_mul_right (by omega) e
theorem IStep.lin (H : IInv m n I) (T : IStep m n k I I' e l) (A : Lin m n many R C0 I) : Lin m n many R C0 I' := by
  refine ⟨fun i hi j => ?_, fun j => ?_, fun q hq => ?_⟩
  · by_cases x : i = l
    · rw [x, T.tl, A.lin l T.lm j]
      exact si_congr fun k _ => by rw [T.tl]
    · obtain ⟨g, g0, hg⟩ := T.ti i hi x
      refine cancel g0 ?_
      rw [hg j, Int.mul_comm (si _ _) g, ← si_mul, si_congr (g := fun k => I.T l e * (I.T i (many + k) * R k j) + (- I.T i e) * (I.T l (many + k) * R k j)) fun k _ => by
        have := hg (many + k)
        grind, si_add, si_mul, si_mul, ← A.lin i hi j, ← A.lin l T.lm j]
      grind
  · obtain ⟨g, g0, hg⟩ := T.cj
    refine cancel g0 ?_
    have cn : I'.C n * g = I.C n * I.T l e := by
      have := hg n
      rw [H.sc l T.lm] at this
      grind
    have : (I'.C n * C0 j + si m (fun k => I'.C (many + k) * R k j)) * g = (I'.C n * g) * C0 j + g * si m (fun k => I'.C (many + k) * R k j) := by grind
    rw [this, hg j, cn, ← si_mul, si_congr (g := fun k => I.T l e * (I.C (many + k) * R k j) + (- I.C e) * (I.T l (many + k) * R k j)) fun k _ => by
        have := hg (many + k)
        grind, si_add, si_mul, si_mul, ← A.lin l T.lm j]
    have := A.clin j
    grind
  · obtain ⟨β, hβ⟩ := A.span q hq
    have p := cpos T.pos
    -- each old row by the new ones
    have old : ∀ h, ∃ ab : Rat × Rat, h < m → ∀ j, (I.T h j : Rat) = ab.1 * (I'.T h j : Rat) + ab.2 * (I'.T l j : Rat) := fun h => by
      by_cases hm : h < m
      · by_cases x : h = l
        · exact ⟨(1, 0), fun _ j => by rw [x, T.tl]; grind⟩
        · obtain ⟨g, g0, hg⟩ := T.ti h hm x
          refine ⟨((g : Rat) / (I.T l e : Rat), (I.T h e : Rat) / (I.T l e : Rat)), fun _ j => ?_⟩
          have a : (I'.T h j : Rat) * g = (I.T h j : Rat) * (I.T l e : Rat) - (I.T h e : Rat) * (I.T l j : Rat) := by
            rw [← Rat.intCast_mul, ← Rat.intCast_mul, ← Rat.intCast_mul, ← Rat.intCast_sub, hg j]
          rw [T.tl]
          show (I.T h j : Rat) = (g : Rat) / (I.T l e : Rat) * (I'.T h j : Rat) + (I.T h e : Rat) / (I.T l e : Rat) * (I.T l j : Rat)
          clear hg hβ
          grind
      · exact ⟨(0, 0), fun w => absurd w hm⟩
    obtain ⟨ab, hab⟩ := Classical.axiomOfChoice old
    refine ⟨fun h => β h * (ab h).1 + (if h = l then sm m (fun h => β h * (ab h).2) else 0), fun j => ?_⟩
    rw [hβ j, sm_congr (g := fun h => β h * (ab h).1 * (I'.T h j : Rat) + (I'.T l j : Rat) * (β h * (ab h).2)) fun h hh => by rw [hab h hh j]; grind, sm_add, sm_mul,
      sm_congr (f := fun h => (β h * (ab h).1 + if h = l then sm m (fun h => β h * (ab h).2) else 0) * (I'.T h j : Rat)) (g := fun h => β h * (ab h).1 * (I'.T h j : Rat) + (if h = l then sm m (fun h => β h * (ab h).2) else 0) * (I'.T h j : Rat)) fun h hh => by grind, sm_add,
      sm_one (f := fun h => (if h = l then sm m (fun h => β h * (ab h).2) else 0) * (I'.T h j : Rat)) T.lm fun h _ ne => by rw [if_neg ne]; grind, if_pos rfl]
    grind
theorem prim_le {f w : Nat → Int} (P : Prim f) {γ : Rat} (g0 : γ ≠ 0) (h : ∀ j, (w j : Rat) = γ * (f j : Rat)) (j : Nat) : (f j).natAbs ≤ (w j).natAbs := by
  have e : ∀ j, (γ.den : Int) * w j = γ.num * f j := fun j => by
    apply ceq
    rw [Rat.intCast_mul, Rat.intCast_mul, h j]
    have q : (γ.num : Rat) / ((γ.den : Int) : Rat) = γ := by rw [Rat.intCast_natCast, ← Rat.mkRat_eq_div, Rat.mkRat_self]
    have d0 : ((γ.den : Int) : Rat) ≠ 0 := fun z => γ.den_nz (by have := ceq (b := 0) z; omega)
    have q' : γ * ((γ.den : Int) : Rat) = (γ.num : Rat) := by
      have : (γ.num : Rat) / ((γ.den : Int) : Rat) = γ := q
      grind
    grind
  have d1 : γ.den = 1 := P γ.den fun j => by
    have a := congrArg Int.natAbs (e j)
    rw [Int.natAbs_mul, Int.natAbs_mul, Int.natAbs_natCast] at a
    exact (Nat.Coprime.symm γ.reduced).dvd_of_dvd_mul_left ⟨_, a.symm⟩
  have a := congrArg Int.natAbs (e j)
  rw [d1, Int.natAbs_mul, Int.natAbs_mul] at a
  have n0 : γ.num.natAbs ≠ 0 := fun z => g0 (Rat.num_eq_zero.mp (Int.natAbs_eq_zero.mp z))
  have : 1 * (f j).natAbs ≤ γ.num.natAbs * (f j).natAbs := Nat.mul_le_mul (by omega) (Nat.le_refl _)
  simp at a
  omega
structure Orig (m n many : Nat) (R : Nat → Nat → Int) (C0 : Nat → Int) : Prop where
  m6 : m ≤ 6
  nm : n = many + m
  unit : ∀ k h, k < m → h < m → R k (many + h) = if h = k then 1 else 0
  small : ∀ k j, k < m → (R k j).natAbs ≤ 1
  csmall : ∀ j, (C0 j).natAbs ≤ 6
  cart : ∀ h, h < m → C0 (many + h) = 0
theorem bnd_any {N : Nat} (h : N ≤ 6) : bnd N 6 ≤ 2 ^ 240 := bnd_small N (by omega)
theorem row_small (O : Orig m n many R C0) (H : IInv m n I) (A : Lin m n many R C0 I) {i : Nat} (hi : i < m) (P : Prim (I.T i)) (j : Nat) : (I.T i j).natAbs ≤ 6 * 2 ^ 240 := by
  obtain ⟨N, rfl⟩ : ∃ N, m = N + 1 := ⟨m - 1, by omega⟩
  let pk : Nat → Nat := fun h => if h = i then N else h
  have m6 := O.m6
  obtain ⟨u, ⟨k0, hk0, un⟩, ub, uo⟩ := level N 6 (fun h q => R q (I.B (pk h))) fun h q hh hq => Nat.le_trans (O.small q _ hq) (by decide)
  have bb := bnd_any (N := N) (by omega)
  let w : Nat → Int := fun j => si (N + 1) (fun q => u q * R q j)
  have span : ∀ q, ∃ β : Nat → Rat, q < N + 1 → ∀ j, (R q j : Rat) = sm (N + 1) (fun h => β h * (I.T h j : Rat)) := fun q => by
    by_cases hq : q < N + 1
    · obtain ⟨β, hβ⟩ := A.span q hq
      exact ⟨β, fun _ => hβ⟩
    · exact ⟨fun _ => 0, fun x => absurd x hq⟩
  obtain ⟨β, hβ⟩ := Classical.axiomOfChoice span
  let γ : Nat → Rat := fun h => sm (N + 1) (fun q => (u q : Rat) * β q h)
  have wg : ∀ j, (w j : Rat) = sm (N + 1) (fun h => γ h * (I.T h j : Rat)) := fun j => by
    show ((si (N + 1) (fun q => u q * R q j) : Int) : Rat) = _
    rw [si_cast, sm_congr (g := fun q => sm (N + 1) (fun h => (u q : Rat) * β q h * (I.T h j : Rat))) fun q hq => by
      rw [Rat.intCast_mul, hβ q hq j, ← sm_mul]
      exact sm_congr fun h _ => by grind, sm_comm]
    exact sm_congr fun h _ => by
      show sm (N + 1) (fun q => (u q : Rat) * β q h * (I.T h j : Rat)) = sm (N + 1) (fun q => (u q : Rat) * β q h) * (I.T h j : Rat)
      rw [sm_congr (g := fun q => (I.T h j : Rat) * ((u q : Rat) * β q h)) fun q _ => by grind, sm_mul]
      grind
  have w0 : ∀ h, h < N + 1 → h ≠ i → w (I.B h) = 0 := fun h hh ne => by
    have : ∃ h', h' < N ∧ pk h' = h := by
      by_cases hn : h = N
      · exact ⟨i, by omega, by show (if i = i then N else i) = h; rw [if_pos rfl, hn]⟩
      · exact ⟨h, by omega, by show (if h = i then N else h) = h; rw [if_neg ne]⟩
    obtain ⟨h', hh', e⟩ := this
    have := uo h' hh'
    rw [e] at this
    exact this
  have g0 : ∀ h, h < N + 1 → h ≠ i → γ h = 0 := fun h hh ne => by
    have a := wg (I.B h)
    rw [w0 h hh ne, sm_one hh fun q hq x => by rw [H.off h q hh hq x, Rat.intCast_zero]; grind, Rat.intCast_zero] at a
    have b := cpos (H.pos h hh)
    rcases Rat.mul_eq_zero.mp a.symm with c | c
    · exact c
    · grind
  have wi : ∀ j, (w j : Rat) = γ i * (I.T i j : Rat) := fun j => by
    rw [wg j, sm_one hi fun h hh ne => by rw [g0 h hh ne]; grind]
  have gi : γ i ≠ 0 := fun z => by
    have a := wi (many + k0)
    rw [z] at a
    have b : w (many + k0) = 0 := ceq (by rw [a, Rat.intCast_zero]; grind)
    have c : w (many + k0) = u k0 := by
      show si (N + 1) (fun q => u q * R q (many + k0)) = u k0
      have : ∀ M, M ≤ N + 1 → si M (fun q => u q * R q (many + k0)) = if k0 < M then u k0 else 0 := fun M => by
        induction M with
        | zero => intro _; rfl
        | succ M ih =>
          intro hM
          rw [si, ih (by omega), O.unit M k0 (by omega) hk0]
          by_cases y : k0 = M
          · rw [y]; simp
          · rw [if_neg y]
            by_cases z : k0 < M
            · rw [if_pos z, if_pos (by omega)]; omega
            · rw [if_neg z, if_neg (by omega)]; omega
      rw [this (N + 1) (Nat.le_refl _), if_pos hk0]
    exact un (c.symm.trans b)
  refine Nat.le_trans (prim_le P gi wi j) ?_
  have : (w j).natAbs ≤ (N + 1) * (bnd N 6) := (Nat.mul_one (bnd N 6)) ▸ si_abs fun q hq => mul_abs (ub q hq) (O.small q j hq)
  have q := Nat.mul_le_mul (show N + 1 ≤ 6 by omega) bb
  omega
theorem cost_small (O : Orig m n many R C0) (H : IInv m n I) (A : Lin m n many R C0 I) (P : Prim I.C) (j : Nat) : (I.C j).natAbs ≤ 42 * 2 ^ 240 := by
  have m6 := O.m6
  obtain ⟨u, ⟨k0, hk0, un⟩, ub, uo⟩ := level m 6 (fun h q => if q = m then C0 (I.B h) else R q (I.B h)) fun h q hh hq => by
    show (if q = m then C0 (I.B h) else R q (I.B h)).natAbs ≤ 6
    split
    · exact O.csmall _
    · exact Nat.le_trans (O.small q _ (by omega)) (by decide)
  have bb := bnd_any (N := m) m6
  let w : Nat → Int := fun j => si m (fun q => u q * R q j) + u m * C0 j
  have wB : ∀ h, h < m → w (I.B h) = 0 := fun h hh => by
    have := uo h hh
    rw [si, if_pos rfl, si_congr (g := fun q => u q * R q (I.B h)) fun q hq => by rw [if_neg (by omega)]] at this
    exact this
  have sp := cpos H.sp
  -- both as rows with the costs of old
  let σ : Rat := (u m : Rat) / (I.C n : Rat)
  have span : ∀ q, ∃ β : Nat → Rat, q < m → ∀ j, (R q j : Rat) = sm m (fun h => β h * (I.T h j : Rat)) := fun q => by
    by_cases hq : q < m
    · obtain ⟨β, hβ⟩ := A.span q hq
      exact ⟨β, fun _ => hβ⟩
    · exact ⟨fun _ => 0, fun x => absurd x hq⟩
  obtain ⟨β, hβ⟩ := Classical.axiomOfChoice span
  let y : Nat → Rat := fun q => (u q : Rat) - σ * (I.C (many + q) : Rat)
  let γ : Nat → Rat := fun h => sm m (fun q => y q * β q h)
  have wg : ∀ j, (w j : Rat) - σ * (I.C j : Rat) = sm m (fun h => γ h * (I.T h j : Rat)) := fun j => by
    have a : (w j : Rat) - σ * (I.C j : Rat) = sm m (fun q => y q * (R q j : Rat)) := by
      have c := ceq' (A.clin j)
      rw [Rat.intCast_add, Rat.intCast_mul, si_cast] at c
      have d : (w j : Rat) = sm m (fun q => ((u q * R q j : Int) : Rat)) + (u m : Rat) * (C0 j : Rat) := by
        show ((si m (fun q => u q * R q j) + u m * C0 j : Int) : Rat) = _
        rw [Rat.intCast_add, Rat.intCast_mul, si_cast]
      rw [d, c, sm_congr (f := fun q => y q * (R q j : Rat)) (g := fun q => ((u q * R q j : Int) : Rat) - σ * ((I.C (many + q) * R q j : Int) : Rat)) fun q _ => by
        show ((u q : Rat) - σ * (I.C (many + q) : Rat)) * (R q j : Rat) = _
        rw [Rat.intCast_mul, Rat.intCast_mul]; grind, sm_sub, sm_mul]
      have s1 : σ * (I.C n : Rat) = (u m : Rat) := by
        show (u m : Rat) / (I.C n : Rat) * (I.C n : Rat) = (u m : Rat)
        grind
      clear_value σ
      grind
    rw [a, sm_congr (g := fun q => sm m (fun h => y q * β q h * (I.T h j : Rat))) fun q hq => by
      rw [hβ q hq j, ← sm_mul]
      exact sm_congr fun h _ => by grind, sm_comm]
    exact sm_congr fun h _ => by
      show sm m (fun q => y q * β q h * (I.T h j : Rat)) = sm m (fun q => y q * β q h) * (I.T h j : Rat)
      rw [sm_congr (g := fun q => (I.T h j : Rat) * (y q * β q h)) fun q _ => by grind, sm_mul]
      grind
  have g0 : ∀ h, h < m → γ h = 0 := fun h hh => by
    have a := wg (I.B h)
    rw [wB h hh, H.cz h hh, sm_one hh fun q hq x => by rw [H.off h q hh hq x, Rat.intCast_zero]; grind, Rat.intCast_zero] at a
    have b := cpos (H.pos h hh)
    have a' : γ h * (I.T h (I.B h) : Rat) = 0 := by grind
    rcases Rat.mul_eq_zero.mp a' with c | c
    · exact c
    · grind
  have wi : ∀ j, (w j : Rat) = σ * (I.C j : Rat) := fun j => by
    have := wg j
    rw [sm_zero fun h hh => by rw [g0 h hh]; grind] at this
    grind
  have s0 : σ ≠ 0 := fun z => by
    have um : u m = 0 := ceq (by
      have : (u m : Rat) = σ * (I.C n : Rat) := by
        show (u m : Rat) = (u m : Rat) / (I.C n : Rat) * (I.C n : Rat)
        grind
      rw [this, z, Rat.intCast_zero]; grind)
    have k0m : k0 < m := by
      have : k0 ≠ m := fun x => un (by rw [x]; exact um)
      omega
    have a := wi (many + k0)
    rw [z] at a
    have b : w (many + k0) = 0 := ceq (by rw [a, Rat.intCast_zero]; grind)
    have c : w (many + k0) = u k0 := by
      show si m (fun q => u q * R q (many + k0)) + u m * C0 (many + k0) = u k0
      have : ∀ M, M ≤ m → si M (fun q => u q * R q (many + k0)) = if k0 < M then u k0 else 0 := fun M => by
        induction M with
        | zero => intro _; rfl
        | succ M ih =>
          intro hM
          rw [si, ih (by omega), O.unit M k0 (by omega) k0m]
          by_cases y : k0 = M
          · rw [y]; simp
          · rw [if_neg y]
            by_cases z : k0 < M
            · rw [if_pos z, if_pos (by omega)]; omega
            · rw [if_neg z, if_neg (by omega)]; omega
      rw [this m (Nat.le_refl _), if_pos k0m, um]
      omega
    exact un (c.symm.trans b)
  refine Nat.le_trans (prim_le P s0 wi j) ?_
  have a : (si m (fun q => u q * R q j)).natAbs ≤ m * (bnd m 6) := (Nat.mul_one (bnd m 6)) ▸ si_abs fun q hq => mul_abs (ub q (by omega)) (O.small q j hq)
  have b := mul_abs (ub m (by omega)) (O.csmall j)
  have q := Nat.mul_le_mul m6 bb
  show (si m (fun q => u q * R q j) + u m * C0 j).natAbs ≤ _
  omega
end Sx
end
section
set_option Elab.async false
set_option linter.all false
namespace Sx
abbrev at0 (xs : List Int) (j : Nat) : Int := xs.getD j 0
def gl : List Int → Nat
  | [] => 0
  | x :: r => Nat.gcd x.natAbs (gl r)
theorem gl_dvd : ∀ {xs : List Int} {x : Int}, x ∈ xs → gl xs ∣ x.natAbs
  | y :: r, x, h => by
    rcases List.mem_cons.mp h with e | e
    · rw [e]; exact Nat.gcd_dvd_left _ _
    · exact Nat.dvd_trans (Nat.gcd_dvd_right _ _) (gl_dvd e)
theorem dvd_gl {d : Nat} : ∀ {xs : List Int}, (∀ x, x ∈ xs → d ∣ x.natAbs) → d ∣ gl xs
  | [], _ => Nat.dvd_zero _
  | y :: r, h => Nat.dvd_gcd (h y (by simp)) (dvd_gl fun x hx => h x (by simp [hx]))
theorem at0_mem {xs : List Int} {j : Nat} (h : at0 xs j ≠ 0) : at0 xs j ∈ xs := by
  unfold at0 at h ⊢
  rw [List.getD_eq_getElem?_getD] at h ⊢
  cases e : xs[j]? with
  | none => rw [e] at h; exact absurd rfl h
  | some x => exact List.mem_of_getElem? e
theorem at0_dvd (xs : List Int) (j : Nat) : gl xs ∣ (at0 xs j).natAbs := by
  by_cases h : at0 xs j = 0
  · rw [h]; exact Nat.dvd_zero _
  · exact gl_dvd (at0_mem h)
theorem dvd_gl' {d : Nat} {xs : List Int} (h : ∀ j, d ∣ (at0 xs j).natAbs) : d ∣ gl xs := by
  refine dvd_gl fun x hx => ?_
  obtain ⟨j, hj, rfl⟩ := List.mem_iff_getElem.mp hx
  have := h j
  simpa [at0, hj] using this
def short (xs : List Int) : List Int := if 1 < gl xs then xs.map (fun x => x / (gl xs : Int)) else xs
theorem at0_map {f : Int → Int} (h : f 0 = 0) (xs : List Int) (j : Nat) : at0 (xs.map f) j = f (at0 xs j) := by
  unfold at0
  rw [List.getD_eq_getElem?_getD, List.getD_eq_getElem?_getD, List.getElem?_map]
  cases xs[j]? <;> simp [h]
theorem short_len (xs : List Int) : (short xs).length = xs.length := by unfold short; split <;> simp
theorem short_spec {xs : List Int} (h : ∃ j, at0 xs j ≠ 0) : ∃ g : Int, 0 < g ∧ (∀ j, at0 (short xs) j * g = at0 xs j) ∧ Prim (at0 (short xs)) := by
  have g0 : gl xs ≠ 0 := fun z => by
    obtain ⟨j, hj⟩ := h
    have := at0_dvd xs j
    rw [z] at this
    exact hj (Int.natAbs_eq_zero.mp (Nat.eq_zero_of_zero_dvd this))
  by_cases w : 1 < gl xs
  · have e : ∀ j, at0 (short xs) j * (gl xs : Int) = at0 xs j := fun j => by
      rw [short, if_pos w, at0_map (by simp)]
      exact Int.ediv_mul_cancel (Int.ofNat_dvd_left.mpr (at0_dvd xs j))
    refine ⟨(gl xs : Int), by omega, e, fun d hd => ?_⟩
    have : d * gl xs ∣ gl xs := dvd_gl' fun j => by
      rw [← e j, Int.natAbs_mul, Int.natAbs_natCast]
      exact Nat.mul_dvd_mul (hd j) (Nat.dvd_refl _)
    obtain ⟨q, hq⟩ := this
    have : gl xs * (d * q) = gl xs * 1 := by rw [Nat.mul_one, ← Nat.mul_assoc, Nat.mul_comm (gl xs) d]; exact hq.symm
    exact Nat.eq_one_of_mul_eq_one_right (Nat.eq_of_mul_eq_mul_left (by omega) this)
  · rw [short, if_neg w]
    refine ⟨1, by omega, fun j => by omega, fun d hd => ?_⟩
    have a := dvd_gl' hd
    have b : gl xs = 1 := by omega
    rw [b] at a
    exact Nat.dvd_one.mp a
def comb (row other : List Int) (place : Nat) : List Int := List.zipWith (fun a b => a * at0 other place - at0 row place * b) row other
def clr (row other : List Int) (place : Nat) : List Int := if at0 row place = 0 then row else short (comb row other place)
theorem at0_comb {row other : List Int} (h : row.length = other.length) (place j : Nat) : at0 (comb row other place) j = at0 row j * at0 other place - at0 row place * at0 other j := by
  unfold comb
  generalize at0 other place = p
  generalize at0 row place = f
  unfold at0
  simp only [List.getD_eq_getElem?_getD, List.getElem?_zipWith]
  by_cases w : j < row.length
  · rw [List.getElem?_eq_getElem w, List.getElem?_eq_getElem (by omega)]; rfl
  · rw [List.getElem?_eq_none (by omega), List.getElem?_eq_none (by omega)]; simp
theorem comb_len {row other : List Int} (h : row.length = other.length) (place : Nat) : (comb row other place).length = row.length := by simp [comb, h]
theorem clr_len {row other : List Int} (h : row.length = other.length) (place : Nat) : (clr row other place).length = row.length := by
  unfold clr; split
  · rfl
  · rw [short_len, comb_len h]
theorem clr_spec {row other : List Int} {place : Nat} (h : row.length = other.length) (p : 0 < at0 other place) (P : Prim (at0 row)) (nz : ∃ j, at0 row j * at0 other place - at0 row place * at0 other j ≠ 0) :
    (∃ g : Int, 0 < g ∧ ∀ j, at0 (clr row other place) j * g = at0 row j * at0 other place - at0 row place * at0 other j) ∧ Prim (at0 (clr row other place)) := by
  unfold clr
  split
  · rename_i z
    exact ⟨⟨_, p, fun j => by rw [z]; omega⟩, P⟩
  · obtain ⟨g, a, b, c⟩ := short_spec (xs := comb row other place) (by
      obtain ⟨j, hj⟩ := nz
      exact ⟨j, by rw [at0_comb h]; exact hj⟩)
    exact ⟨⟨g, a, fun j => by rw [b j, at0_comb h]⟩, c⟩
structure LT where
  rows : List (List Int)
  basis : List Nat
  costs : List Int
def LT.row (X : LT) (i : Nat) : List Int := X.rows.getD i []
def LT.it (X : LT) : It := ⟨fun i j => at0 (X.row i) j, at0 X.costs, fun i => X.basis.getD i 0⟩
def leave (X : LT) (w place : Nat) : Nat → Option Nat
  | 0 => none
  | q + 1 => match leave X w place q with
    | none => if 0 < at0 (X.row q) place then some q else none
    | some b => if 0 < at0 (X.row q) place ∧ (at0 (X.row q) w * at0 (X.row b) place < at0 (X.row b) w * at0 (X.row q) place ∨ at0 (X.row q) w * at0 (X.row b) place = at0 (X.row b) w * at0 (X.row q) place ∧ X.basis.getD q 0 < X.basis.getD b 0) then some q else some b
def ratio (X : LT) (w place i : Nat) : Rat := (at0 (X.row i) w : Rat) / (at0 (X.row i) place : Rat)
theorem ratio_le {X : LT} {w place i h : Nat} (a : 0 < at0 (X.row i) place) (b : 0 < at0 (X.row h) place) : at0 (X.row i) w * at0 (X.row h) place ≤ at0 (X.row h) w * at0 (X.row i) place ↔ ratio X w place i ≤ ratio X w place h := by
  have a' := cpos a
  have b' := cpos b
  have e1 : (at0 (X.row i) w : Rat) * (at0 (X.row h) place : Rat) = ratio X w place i * ((at0 (X.row i) place : Rat) * (at0 (X.row h) place : Rat)) := by unfold ratio; grind
  have e2 : (at0 (X.row h) w : Rat) * (at0 (X.row i) place : Rat) = ratio X w place h * ((at0 (X.row i) place : Rat) * (at0 (X.row h) place : Rat)) := by unfold ratio; grind
  have pp := Rat.mul_pos a' b'
  refine ⟨fun z => ?_, fun z => ?_⟩
  · have z' := cle z
    rw [Rat.intCast_mul, Rat.intCast_mul, e1, e2] at z'
    refine Classical.byContradiction fun y => ?_
    have := Rat.mul_lt_mul_of_pos_right (show ratio X w place h < ratio X w place i by grind) pp
    grind
  · apply Rat.intCast_le_intCast.mp
    rw [Rat.intCast_mul, Rat.intCast_mul, e1, e2]
    exact Rat.mul_le_mul_of_nonneg_right z (Rat.le_of_lt pp)
theorem leave_spec (X : LT) (w place : Nat) : ∀ q, match leave X w place q with
    | none => ∀ i, i < q → ¬ 0 < at0 (X.row i) place
    | some b => b < q ∧ 0 < at0 (X.row b) place ∧ ∀ i, i < q → 0 < at0 (X.row i) place → ratio X w place b ≤ ratio X w place i ∧ (ratio X w place b = ratio X w place i → X.basis.getD b 0 ≤ X.basis.getD i 0)
  | 0 => fun i hi => by omega
  | q + 1 => by
    have ih := leave_spec X w place q
    rw [leave]
    cases e : leave X w place q with
    | none =>
      rw [e] at ih
      by_cases p : 0 < at0 (X.row q) place
      · simp only [if_pos p]
        refine ⟨by omega, p, fun i hi hp => ?_⟩
        by_cases z : i = q
        · rw [z]; exact ⟨by grind, fun _ => Nat.le_refl _⟩
        · exact absurd hp (ih i (by omega))
      · simp only [if_neg p]
        intro i hi
        by_cases z : i = q
        · rw [z]; exact p
        · exact ih i (by omega)
    | some b =>
      rw [e] at ih
      obtain ⟨hb, pb, all⟩ := ih
      simp only
      by_cases p : 0 < at0 (X.row q) place
      · have r1 := ratio_le (w := w) p pb
        have r2 := ratio_le (w := w) pb p
        by_cases c : (at0 (X.row q) w * at0 (X.row b) place < at0 (X.row b) w * at0 (X.row q) place ∨ at0 (X.row q) w * at0 (X.row b) place = at0 (X.row b) w * at0 (X.row q) place ∧ X.basis.getD q 0 < X.basis.getD b 0)
        · rw [if_pos ⟨p, c⟩]
          have le : ratio X w place q ≤ ratio X w place b := r1.mp (by omega)
          refine ⟨by omega, p, fun i hi hp => ?_⟩
          by_cases z : i = q
          · rw [z]; exact ⟨by grind, fun _ => Nat.le_refl _⟩
          · obtain ⟨x, y⟩ := all i (by omega) hp
            refine ⟨by grind, fun eq => ?_⟩
            have eb : ratio X w place b = ratio X w place i := by grind
            have := y eb
            have le2 : ratio X w place b ≤ ratio X w place q := by grind
            have := r2.mpr le2
            omega
        · rw [if_neg fun z => c z.2]
          refine ⟨by omega, pb, fun i hi hp => ?_⟩
          by_cases z : i = q
          · rw [z]
            refine ⟨r2.mp (by omega), fun eq => ?_⟩
            have := r1.mpr (by grind)
            have := r2.mpr (by grind)
            omega
          · exact all i (by omega) hp
      · rw [if_neg fun z => p z.1]
        refine ⟨by omega, pb, fun i hi hp => ?_⟩
        by_cases z : i = q
        · rw [z] at hp; exact absurd hp p
        · exact all i (by omega) hp
end Sx
end
section
set_option Elab.async false
set_option linter.all false
namespace Sx
variable {m n many : Nat} {R : Nat → Nat → Int} {C0 : Nat → Int}
structure OK (m n many : Nat) (R : Nat → Nat → Int) (C0 : Nat → Int) (X : LT) : Prop where
  rl : X.rows.length = m
  rw : ∀ i, i < m → (X.row i).length = n + 2
  bl : X.basis.length = m
  cl : X.costs.length = n + 2
  inv : IInv m n X.it
  lin : Lin m n many R C0 X.it
  pr : ∀ i, i < m → Prim (X.it.T i)
  pc : Prim X.it.C
  idn : ∀ x, Sol m n (X.it.tb n) x → sm n (fun j => (X.it.tb n).c j * x j) - (X.it.tb n).z = sm m (fun h => x (many + h))
  orig : ∀ x, Sol m n (X.it.tb n) x → ∀ h, h < m → sm n (fun j => (R h j : Rat) * x j) = (R h (n + 1) : Rat)
def neg (many : Nat) (X : LT) : List Nat := (List.range many).filter fun j => decide (at0 X.costs j < 0)
theorem filter_head {p : Nat → Bool} : ∀ {n e : Nat} {r : List Nat}, (List.range n).filter p = e :: r → e < n ∧ p e = true ∧ ∀ j, j < e → p j = false
  | 0, e, r, h => by simp at h
  | n + 1, e, r, h => by
    rw [List.range_succ, List.filter_append] at h
    cases q : (List.range n).filter p with
    | nil =>
      rw [q] at h
      have nn : ∀ j, j < n → p j = false := fun j hj => by
        have := List.filter_eq_nil_iff.mp q j (List.mem_range.mpr hj)
        simpa using this
      cases pn : p n with
      | false => simp [pn] at h
      | true =>
        simp [pn] at h
        obtain ⟨rfl, _⟩ := h
        exact ⟨by omega, pn, nn⟩
    | cons a b =>
      rw [q] at h
      simp at h
      obtain ⟨rfl, _⟩ := h
      obtain ⟨x, y, z⟩ := filter_head q
      exact ⟨by omega, y, z⟩
theorem filter_none {p : Nat → Bool} {n : Nat} (h : (List.range n).filter p = []) (j : Nat) (hj : j < n) : p j = false := by
  have := List.filter_eq_nil_iff.mp h j (List.mem_range.mpr hj)
  simpa using this
def turn (m : Nat) (X : LT) (l e : Nat) : LT where
  rows := (List.range m).map fun i => if i = l then X.row l else clr (X.row i) (X.row l) e
  basis := X.basis.set l e
  costs := clr X.costs (X.row l) e
theorem turn_row {X : LT} {l e i : Nat} (hi : i < m) : (turn m X l e).row i = if i = l then X.row l else clr (X.row i) (X.row l) e := by
  unfold LT.row turn
  rw [List.getD_eq_getElem?_getD, List.getElem?_map, List.getElem?_range hi]
  rfl
theorem next_ok (hm : many ≤ n) {X : LT} (H : OK m n many R C0 X) {e : Nat} {r : List Nat} (hn : neg many X = e :: r) :
    ∃ l, leave X (n + 1) e m = some l ∧ l < m ∧ 0 < at0 (X.row l) e ∧ OK m n many R C0 (turn m X l e) ∧ IStep m n many X.it (turn m X l e).it e l := by
  obtain ⟨he, hc, hf⟩ := filter_head hn
  have hc := of_decide_eq_true hc
  have hf : ∀ j, j < e → 0 ≤ at0 X.costs j := fun j hj => by
    have := of_decide_eq_false (hf j hj)
    omega
  have Ht := H.inv.tb
  have sp := cpos H.inv.sp
  obtain ⟨i0, hi0, pi0⟩ := stops (S := X.it.tb n) Ht (e := e) (by omega) (by
      have := dpos (a := - (X.it.C e : Rat)) (b := (X.it.C n : Rat)) (by have := clt (b := 0) hc; show 0 < - ((at0 X.costs e : Int) : Rat); grind) sp
      show (X.it.C e : Rat) / (X.it.C n : Rat) < 0
      grind) fun x xp hx => by
    rw [H.idn x hx]
    exact sm_nonneg fun j _ => xp _
  have pi0 : 0 < at0 (X.row i0) e := dpos_iff (cpos (H.inv.pos i0 hi0)) pi0
  have L := leave_spec X (n + 1) e m
  cases hl : leave X (n + 1) e m with
  | none => rw [hl] at L; exact absurd pi0 (L i0 hi0)
  | some l =>
    rw [hl] at L
    obtain ⟨lm, pl, all⟩ := L
    refine ⟨l, rfl, lm, pl, ?_⟩
    have lens : ∀ i, i < m → (X.row i).length = (X.row l).length := fun i hi => by rw [H.rw i hi, H.rw l lm]
    have bt : ∀ i, (turn m X l e).it.B i = if i = l then e else X.it.B i := fun i => by
      show (X.basis.set l e).getD i 0 = if i = l then e else X.basis.getD i 0
      rw [List.getD_eq_getElem?_getD, List.getD_eq_getElem?_getD, List.getElem?_set]
      by_cases x : l = i
      · subst x
        rw [if_pos rfl, if_pos rfl, if_pos (by rw [H.bl]; exact lm)]; rfl
      · rw [if_neg x, if_neg (Ne.symm x)]
    have rows_ : ∀ i, i < m → i ≠ l → (∃ g : Int, 0 < g ∧ ∀ j, at0 (clr (X.row i) (X.row l) e) j * g = at0 (X.row i) j * at0 (X.row l) e - at0 (X.row i) e * at0 (X.row l) j) ∧ Prim (at0 (clr (X.row i) (X.row l) e)) := fun i hi x =>
      clr_spec (lens i hi) pl (H.pr i hi) ⟨X.it.B i, by
        have a : at0 (X.row l) (X.it.B i) = 0 := H.inv.off i l hi lm (Ne.symm x)
        have b : 0 < at0 (X.row i) (X.it.B i) := H.inv.pos i hi
        rw [a]
        have := Int.mul_pos b pl
        omega⟩
    have cost_ := clr_spec (row := X.costs) (other := X.row l) (place := e) (by rw [H.cl, H.rw l lm]) pl H.pc ⟨n, by
        have a : at0 (X.row l) n = 0 := H.inv.sc l lm
        have b : 0 < at0 X.costs n := H.inv.sp
        rw [a]
        have := Int.mul_pos b pl
        omega⟩
    have Tl : ∀ j, (turn m X l e).it.T l j = X.it.T l j := fun j => by
      show at0 ((turn m X l e).row l) j = _
      rw [turn_row lm, if_pos rfl]; rfl
    have Ti : ∀ i, i < m → i ≠ l → ∀ j, (turn m X l e).it.T i j = at0 (clr (X.row i) (X.row l) e) j := fun i hi x j => by
      show at0 ((turn m X l e).row i) j = _
      rw [turn_row hi, if_neg x]
    have st : IStep m n many X.it (turn m X l e).it e l := by
      refine ⟨he, hm, hc, hf, lm, pl, fun i hi hp => ?_, fun i hi hp w => ?_, Tl, fun i hi x => ?_, cost_.1, ?_, fun i x => ?_⟩
      · exact (ratio_le pl hp).mpr (all i hi hp).1
      · refine (all i hi hp).2 ?_
        have w : at0 (X.row l) (n + 1) * at0 (X.row i) e = at0 (X.row i) (n + 1) * at0 (X.row l) e := w
        have a := (ratio_le pl hp).mp (Int.le_of_eq w)
        have b := (ratio_le hp pl).mp (Int.le_of_eq w.symm)
        grind
      · obtain ⟨g, g0, hg⟩ := (rows_ i hi x).1
        exact ⟨g, g0, fun j => by rw [Ti i hi x j]; exact hg j⟩
      · rw [bt, if_pos rfl]
      · rw [bt, if_neg x]
    have ss := st.step H.inv
    refine ⟨⟨by simp [turn], fun i hi => ?_, by simp [turn, H.bl], ?_, st.inv H.inv, st.lin H.inv H.lin, fun i hi => ?_, cost_.2, fun x hx => ?_, fun x hx => ?_⟩, st⟩
    · rw [turn_row hi]
      split
      · exact H.rw l lm
      · rw [clr_len (lens i hi), H.rw i hi]
    · show (clr X.costs (X.row l) e).length = _
      rw [clr_len (by rw [H.cl, H.rw l lm]), H.cl]
    · by_cases x : i = l
      · subst x
        intro d hd
        exact H.pr i hi d fun j => by rw [← Tl j]; exact hd j
      · intro d hd
        exact (rows_ i hi x).2 d fun j => by rw [← Ti i hi x j]; exact hd j
    · have := ss.sol' hx
      rw [ss.csol this, H.idn x this]
    · exact H.orig x (ss.sol' hx)
def nxt (m n many : Nat) (X : LT) : LT := match neg many X with
  | [] => X
  | e :: _ => match leave X (n + 1) e m with
    | some l => turn m X l e
    | none => X
def its (m n many : Nat) (X : LT) : Nat → LT
  | 0 => X
  | p + 1 => nxt m n many (its m n many X p)
theorem least {P : Nat → Prop} : ∀ p, P p → ∃ q, q ≤ p ∧ P q ∧ ∀ r, r < q → ¬ P r := by
  intro p
  induction p using Nat.strongRecOn with
  | _ p ih =>
    intro h
    by_cases w : ∃ r, r < p ∧ P r
    · obtain ⟨r, a, b⟩ := w
      obtain ⟨q, x, y, z⟩ := ih r a b
      exact ⟨q, by omega, y, z⟩
    · exact ⟨p, Nat.le_refl _, h, fun r a b => w ⟨r, a, b⟩⟩
theorem nxt_ok (hm : many ≤ n) {X : LT} (H : OK m n many R C0 X) (hn : neg many X ≠ []) : ∃ e l r, neg many X = e :: r ∧ leave X (n + 1) e m = some l ∧ l < m ∧ nxt m n many X = turn m X l e ∧ OK m n many R C0 (nxt m n many X) ∧ IStep m n many X.it (nxt m n many X).it e l := by
  cases h : neg many X with
  | nil => exact absurd h hn
  | cons e r =>
    obtain ⟨l, a, b, c, d, f⟩ := next_ok hm H h
    have x : nxt m n many X = turn m X l e := by unfold nxt; rw [h]; simp only [a]
    exact ⟨e, l, r, rfl, a, b, x, by rw [x]; exact d, by rw [x]; exact f⟩
theorem its_ok (hm : many ≤ n) {X : LT} (H : OK m n many R C0 X) : ∀ p, (∀ q, q < p → neg many (its m n many X q) ≠ []) → OK m n many R C0 (its m n many X p)
  | 0, _ => H
  | p + 1, h => by
    obtain ⟨_, _, _, _, _, _, _, x, _⟩ := nxt_ok hm (its_ok hm H p fun q hq => h q (by omega)) (h p (by omega))
    exact x
theorem ends (hm : many ≤ n) {X : LT} (H : OK m n many R C0 X) : ∃ p, p < 2 ^ n ∧ neg many (its m n many X p) = [] ∧ ∀ q, q < p → neg many (its m n many X q) ≠ [] := by
  refine Classical.byContradiction fun no => ?_
  have all : ∀ p, p < 2 ^ n → neg many (its m n many X p) ≠ [] := fun p hp h => by
    obtain ⟨q, a, b, c⟩ := least (P := fun p => neg many (its m n many X p) = []) p h
    exact no ⟨q, by omega, b, c⟩
  have ok : ∀ p, p ≤ 2 ^ n → OK m n many R C0 (its m n many X p) := fun p hp => its_ok hm H p fun q hq => all q (by omega)
  have st : ∀ p, ∃ el : Nat × Nat, p < 2 ^ n → IStep m n many (its m n many X p).it (its m n many X (p + 1)).it el.1 el.2 := fun p => by
    by_cases hp : p < 2 ^ n
    · obtain ⟨e, l, _, _, _, _, _, _, x⟩ := nxt_ok hm (ok p (by omega)) (all p hp)
      exact ⟨(e, l), fun _ => x⟩
    · exact ⟨(0, 0), fun h => absurd h hp⟩
  obtain ⟨el, hel⟩ := Classical.axiomOfChoice st
  have R : Run m n many (fun p => (its m n many X p).it.tb n) (fun p => (el p).1) (fun p => (el p).2) (2 ^ n) :=
    ⟨H.inv.tb, fun p hp => (hel p hp).step (ok p (by omega)).inv⟩
  have := R.short
  omega
theorem end_none (H : OK m n many R C0 X) (c0 : ∀ j, j < many ∨ j = n + 1 → C0 j = - si m (fun h => R h j)) (hn : neg many X = []) (hl : at0 X.costs (n + 1) < 0) :
    (∀ j, j < many → si m (fun h => (at0 X.costs n - at0 X.costs (many + h)) * R h j) ≤ 0) ∧ 0 < si m (fun h => (at0 X.costs n - at0 X.costs (many + h)) * R h (n + 1)) := by
  have e : ∀ j, j < many ∨ j = n + 1 → si m (fun h => (at0 X.costs n - at0 X.costs (many + h)) * R h j) = - at0 X.costs j := fun j hj => by
    have a := H.lin.clin j
    have a : at0 X.costs j = at0 X.costs n * C0 j + si m (fun k => at0 X.costs (many + k) * R k j) := a
    rw [c0 j hj] at a
    rw [si_congr (g := fun h => at0 X.costs n * R h j + (-1) * (at0 X.costs (many + h) * R h j)) fun h _ => by grind, si_add, si_mul, si_mul, a]
    grind
  refine ⟨fun j hj => ?_, ?_⟩
  · rw [e j (.inl hj)]
    have := of_decide_eq_false (filter_none hn j hj)
    omega
  · rw [e _ (.inr rfl)]; omega
theorem end_some (H : OK m n many R C0 X) (hl : ¬ at0 X.costs (n + 1) < 0) :
    (∀ j, 0 ≤ bsol m (X.it.tb n) j) ∧ (∀ h, h < m → bsol m (X.it.tb n) (many + h) = 0) ∧ ∀ h, h < m → sm n (fun j => (R h j : Rat) * bsol m (X.it.tb n) j) = (R h (n + 1) : Rat) := by
  have I := H.inv.tb
  have s := bsol_sol I
  refine ⟨bsol_nonneg I, ?_, H.orig _ s⟩
  have a := H.idn _ s
  rw [bsol_c I] at a
  have z : 0 ≤ (X.it.tb n).z := div_pos' (cle (a := 0) (by show 0 ≤ at0 X.costs (n + 1); omega)) (cpos H.inv.sp)
  exact sm_eq0 (fun j _ => bsol_nonneg I _) (by rw [← a]; grind)
end Sx
end
section
set_option Elab.async false
set_option linter.all false
namespace Sx
structure Start (m n many : Nat) (X : LT) : Prop where
  m6 : m ≤ 6
  nm : n = many + m
  rl : X.rows.length = m
  rw : ∀ i, i < m → (X.row i).length = n + 2
  bl : X.basis.length = m
  bs : ∀ i, i < m → X.basis.getD i 0 = many + i
  cl : X.costs.length = n + 2
  unit : ∀ k h, k < m → h < m → at0 (X.row k) (many + h) = if h = k then 1 else 0
  small : ∀ k j, k < m → (at0 (X.row k) j).natAbs ≤ 1
  sc : ∀ k, k < m → at0 (X.row k) n = 0
  rp : ∀ k, k < m → 0 ≤ at0 (X.row k) (n + 1)
  cn : at0 X.costs n = 1
  ca : ∀ h, h < m → at0 X.costs (many + h) = 0
  cs : ∀ j, j < many ∨ j = n + 1 → at0 X.costs j = - si m (fun h => at0 (X.row h) j)
variable {m n many : Nat} {X : LT}
theorem sm_split (f : Nat → Rat) (a : Nat) : ∀ b, sm (a + b) f = sm a f + sm b (fun j => f (a + j))
  | 0 => by simp only [sm, Nat.add_zero]; grind
  | b + 1 => by
    show sm (a + b) f + f (a + b) = _
    rw [sm_split f a b, sm]; grind
theorem si_one {f : Nat → Int} {k : Nat} : ∀ {n : Nat}, k < n → (∀ j, j < n → j ≠ k → f j = 0) → si n f = f k
  | n + 1, hk, h => by
    rw [si]
    by_cases e : k = n
    · subst e
      rw [si_zero fun j hj => h j (by omega) (by omega)]; omega
    · rw [si_one (k := k) (by omega) fun j hj => h j (by omega), h n (by omega) (by omega)]; omega
theorem Start.orig (A : Start m n many X) : Orig m n many (fun k j => at0 (X.row k) j) (at0 X.costs) := by
  refine ⟨A.m6, A.nm, A.unit, A.small, fun j => ?_, A.ca⟩
  by_cases h1 : j < many ∨ j = n + 1
  · rw [A.cs j h1, Int.natAbs_neg]
    have := si_abs (f := fun h => at0 (X.row h) j) (K := 1) (n := m) fun h hh => A.small h j hh
    have := A.m6
    omega
  · by_cases h2 : j = n
    · rw [h2, A.cn]; decide
    · by_cases h3 : j < n
      · have e : j = many + (j - many) := by omega
        rw [e, A.ca _ (by have := A.nm; omega)]; decide
      · have : at0 X.costs j = 0 := by
          unfold at0
          rw [List.getD_eq_getElem?_getD, List.getElem?_eq_none (by rw [A.cl]; omega)]; rfl
        rw [this]; decide
theorem Start.ok (A : Start m n many X) : OK m n many (fun k j => at0 (X.row k) j) (at0 X.costs) X := by
  have nm := A.nm
  have B : ∀ i, i < m → X.it.B i = many + i := A.bs
  have T1 : ∀ i, i < m → X.it.T i (X.it.B i) = 1 := fun i hi => by
    rw [B i hi]
    show at0 (X.row i) (many + i) = 1
    rw [A.unit i i hi hi, if_pos rfl]
  have I : IInv m n X.it := by
    refine ⟨fun i hi => by rw [B i hi]; omega, fun i hi => by rw [T1 i hi]; decide, fun i h hi hh ne => ?_, fun i hi => ?_, A.rp, A.sc, ?_⟩
    · rw [B i hi]
      show at0 (X.row h) (many + i) = 0
      rw [A.unit h i hh hi, if_neg (Ne.symm ne)]
    · rw [B i hi]; exact A.ca i hi
    · show 0 < at0 X.costs n
      rw [A.cn]; decide
  have tt : ∀ i, i < m → ∀ j, (X.it.tb n).t i j = (at0 (X.row i) j : Rat) := fun i hi j => by
    show (X.it.T i j : Rat) / (X.it.T i (X.it.B i) : Rat) = _
    rw [T1 i hi]
    show (at0 (X.row i) j : Rat) / ((1 : Int) : Rat) = _
    rw [Rat.intCast_one]; grind
  have rr : ∀ i, i < m → (X.it.tb n).r i = (at0 (X.row i) (n + 1) : Rat) := fun i hi => by
    show (X.it.T i (n + 1) : Rat) / (X.it.T i (X.it.B i) : Rat) = _
    rw [T1 i hi]
    show (at0 (X.row i) (n + 1) : Rat) / ((1 : Int) : Rat) = _
    rw [Rat.intCast_one]; grind
  have cc : ∀ j, (X.it.tb n).c j = (at0 X.costs j : Rat) := fun j => by
    show (at0 X.costs j : Rat) / (at0 X.costs n : Rat) = _
    rw [A.cn, Rat.intCast_one]; grind
  have zz : (X.it.tb n).z = (at0 X.costs (n + 1) : Rat) := by
    show (at0 X.costs (n + 1) : Rat) / (at0 X.costs n : Rat) = _
    rw [A.cn, Rat.intCast_one]; grind
  have or_ : ∀ x, Sol m n (X.it.tb n) x → ∀ h, h < m → sm n (fun j => (at0 (X.row h) j : Rat) * x j) = (at0 (X.row h) (n + 1) : Rat) := fun x hx h hh => by
    have := hx h hh
    rw [rr h hh, sm_congr (g := fun j => (at0 (X.row h) j : Rat) * x j) fun j _ => by rw [tt h hh j]] at this
    exact this
  refine ⟨A.rl, A.rw, A.bl, A.cl, I, ⟨fun i hi j => ?_, fun j => ?_, fun k hk => ⟨fun h => if h = k then 1 else 0, fun j => ?_⟩⟩, fun i hi d hd => ?_, fun d hd => ?_, fun x hx => ?_, or_⟩
  · rw [si_one hi fun h hh ne => by
      show at0 (X.row i) (many + h) * at0 (X.row h) j = 0
      rw [A.unit i h hi hh, if_neg ne]; omega]
    show at0 (X.row i) j = at0 (X.row i) (many + i) * at0 (X.row i) j
    rw [A.unit i i hi hi, if_pos rfl]; omega
  · show at0 X.costs j = at0 X.costs n * at0 X.costs j + si m (fun k => at0 X.costs (many + k) * at0 (X.row k) j)
    rw [A.cn, si_zero fun h hh => by rw [A.ca h hh]; omega]; omega
  · rw [sm_one hk fun h hh ne => by
      show (if h = k then (1 : Rat) else 0) * (at0 (X.row h) j : Rat) = 0
      rw [if_neg ne]; grind]
    show (at0 (X.row k) j : Rat) = (if k = k then (1 : Rat) else 0) * (at0 (X.row k) j : Rat)
    rw [if_pos rfl]
    grind
  · have := hd (X.it.B i)
    rw [T1 i hi] at this
    exact Nat.dvd_one.mp this
  · have := hd n
    have e : X.it.C n = 1 := A.cn
    rw [e] at this
    exact Nat.dvd_one.mp this
  · have o := or_ x hx
    rw [zz, A.cs (n + 1) (.inr rfl), sm_congr (g := fun j => (at0 X.costs j : Rat) * x j) fun j _ => by rw [cc j]]
    subst nm
    rw [sm_split, sm_zero (f := fun j => (at0 X.costs (many + j) : Rat) * x (many + j)) fun h hh => by rw [A.ca h hh, Rat.intCast_zero]; grind]
    have o' : ∀ h, h < m → x (many + h) = (at0 (X.row h) (many + m + 1) : Rat) - sm many (fun j => (at0 (X.row h) j : Rat) * x j) := fun h hh => by
      have a := o h hh
      rw [sm_split, sm_one (f := fun j => (at0 (X.row h) (many + j) : Rat) * x (many + j)) hh fun j hj ne => by rw [A.unit h j hh hj, if_neg ne, Rat.intCast_zero]; grind, A.unit h h hh hh, if_pos rfl, Rat.intCast_one] at a
      grind
    rw [sm_congr (f := fun h => x (many + h)) o', sm_sub, sm_comm, Rat.intCast_neg, si_cast]
    rw [sm_congr (f := fun j => (at0 X.costs j : Rat) * x j) (g := fun j => (-1) * sm m (fun i => (at0 (X.row i) j : Rat) * x j)) fun j hj => by
      rw [A.cs j (.inl hj), Rat.intCast_neg, si_cast, sm_congr (f := fun i => (at0 (X.row i) j : Rat) * x j) (g := fun i => x j * (at0 (X.row i) j : Rat)) fun i _ => by grind, sm_mul]
      grind, sm_mul]
    grind
end Sx
end
section
set_option Elab.async false
set_option linter.all false
set_option maxRecDepth 10000
set_option exponentiation.threshold 20000
namespace Lq
open PySem PySem.Spec PyProof.Rows L2
theorem v0 {x : Option PV} {e : Ev} : (x :: e)[0]? = some x := rfl
theorem vS {x : Option PV} {e : Ev} {i : Nat} : (x :: e)[i + 1]? = e[i]? := rfl
theorem oNe_int (a b : Int) (st : Store) : oNe (.int a) (.int b) st = some (.bl (!(a == b))) := by simp [oNe, rsv, dChk, dOk, noScr, peq]
theorem oEq_int (a b : Int) (st : Store) : oEq (.int a) (.int b) st = some (.bl (a == b)) := by simp [oEq, rsv, dChk, dOk, noScr, peq]
theorem oMod_int {x y : Int} (st : Store) (h : 0 < y) : oMod (.int x) (.int y) st = some (.int (x % y)) := by simp [oMod, oI, h]
theorem oAdd_int (a b : Int) (s : Store) : oAdd (.int a) (.int b) s = some (.int (a + b)) := rfl
theorem oSub_int (a b : Int) (s : Store) : oSub (.int a) (.int b) s = some (.int (a - b)) := rfl
theorem oGt_int (a b : Int) (s : Store) : oGtI (.int a) (.int b) s = some (.bl (decide (b < a))) := rfl
theorem oGe_int (a b : Int) (s : Store) : oGeI (.int a) (.int b) s = some (.bl (decide (b ≤ a))) := rfl
theorem oAbs_int (a : Int) (s : Store) : oAbs [.int a] s = some (.int (a.natAbs : Int)) := by
  show some (PV.int (if a < 0 then -a else a)) = _
  congr 2
  split <;> omega
theorem log_lt {x : Int} {L : Nat} (h : x.natAbs < 2 ^ L) (h0 : 0 < L) : x.natAbs.log2 < L := by
  by_cases z : x.natAbs = 0
  · rw [z]; simpa using h0
  · exact (Nat.log2_lt z).mpr h
theorem oMul_int {a b : Int} (s : Store) (ha : a.natAbs < 2 ^ 8000) (hb : b.natAbs < 2 ^ 8000) : oMul (.int a) (.int b) s = some (.int (a * b)) := by
  have : mulOk a b = true := by
    unfold mulOk
    simp only [Bool.or_eq_true, Bool.and_eq_true, decide_eq_true_eq]
    have x := log_lt ha (by decide)
    have y := log_lt hb (by decide)
    exact .inr (.inr (by omega))
  simp [oMul, oOr, oMulI, oI, this]
theorem oDiv_int {a b : Int} (s : Store) (h : 0 < b) (hb : b.natAbs < 2 ^ 8000) : oDiv (.int a) (.int b) s = some (.int (a / b)) := by
  have y := log_lt hb (by decide)
  have : 0 < b ∧ b.natAbs.log2 < 9000 := ⟨h, by omega⟩
  simp [oDiv, oI, this]
theorem gcd_loop (st : Store) : ∀ (f x y : Nat), y < f → sWhile (tE (eBin oNe (eVar 1) (eC (.int 0)))) (sPar 0 1 (aCons (eVar 1) (aCons (eBin oMod (eVar 0) (eVar 1)) aNil))) f [some (.int (x : Int)), some (.int (y : Int))] st
    = .ok (.nx [some (.int ((Nat.gcd x y : Nat) : Int)), some (.int 0)]) st
  | f + 1, x, y, h => by
    have e1 : tE (eBin oNe (eVar 1) (eC (.int 0))) [some (.int (x : Int)), some (.int (y : Int))] st = .ok (!((y : Int) == 0)) st := by
      simp only [tE, toB, eBin, eVar, eC, b_ok, vS, v0, oNe_int]
    unfold sWhile
    simp only [e1, b_ok]
    by_cases z : y = 0
    · subst z
      simp
    · have : (!((y : Int) == 0)) = true := by simp; omega
      rw [this, if_pos rfl]
      have e2 : sPar 0 1 (aCons (eVar 1) (aCons (eBin oMod (eVar 0) (eVar 1)) aNil)) [some (.int (x : Int)), some (.int (y : Int))] st = .ok (.nx [some (.int (y : Int)), some (.int ((x % y : Nat) : Int))]) st := by
        simp only [sPar, aCons, aNil, eBin, eVar, b_ok, vS, v0, oMod_int (x := (x : Int)) (y := (y : Int)) st (by omega)]
        rfl
      rw [e2, b_ok]
      simp only
      rw [gcd_loop st f y (x % y) (by have := Nat.mod_lt x (show 0 < y by omega); omega)]
      rw [Nat.gcd_comm x y, Nat.gcd_rec y x, Nat.gcd_comm y]
theorem divisor_ok {a b : Int} (st : Store) (h : b.natAbs < 2 ^ 1000) : p_divisor_of [.int a, .int b] st = .ok (.int ((Nat.gcd a.natAbs b.natAbs : Nat) : Int)) st := by
  have e0 : (env0 2 [.int a, .int b] : Ev) = [some (.int a), some (.int b)] := rfl
  unfold p_divisor_of runF
  rw [e0]
  have e1 : sPar 0 1 (aCons (eCB oAbs (aCons (eVar 0) aNil)) (aCons (eCB oAbs (aCons (eVar 1) aNil)) aNil)) [some (.int a), some (.int b)] st = .ok (.nx [some (.int (a.natAbs : Int)), some (.int (b.natAbs : Int))]) st := by
    simp only [sPar, aCons, aNil, eCB, eVar, b_ok, vS, v0, oAbs_int]
    rfl
  rw [sSeq, e1, b_ok]
  simp only
  rw [sSeq, gcd_loop st _ a.natAbs b.natAbs]
  · rw [b_ok]; rfl
  · exact Nat.lt_of_lt_of_le h (by decide)
theorem comp_pure {ft : PV → Ev → Store → R Ev} {tt : Ev → Store → R Bool} {fe : XE} {env : Ev} {st : Store} {p : PV → Bool} {f : PV → PV} : ∀ {xs : List PV}, (∀ x, x ∈ xs → ∃ e, ft x env st = .ok e st ∧ tt e st = .ok (p x) st ∧ (p x = true → fe e st = .ok (f x) st)) →
    compV ft tt fe env xs st = .ok ((xs.filter p).map f) st
  | [], _ => rfl
  | x :: r, h => by
    obtain ⟨e, a, b, c⟩ := h x (by simp)
    have ih := comp_pure (xs := r) fun y hy => h y (by simp [hy])
    rw [compV, a, b_ok, b, b_ok]
    cases q : p x with
    | true => rw [if_pos rfl, c q, b_ok, ih, b_ok, List.filter_cons_of_pos q]; rfl
    | false => rw [if_neg (by decide), ih, List.filter_cons_of_neg (by simp [q])]
theorem fcomp_pure {g : XL} {ft : PV → Ev → Store → R Ev} {tt : Ev → Store → R Bool} {fe : XE} {vs : List Nat} {env : Ev} {st : Store} {xs : List PV} {p : PV → Bool} {f : PV → PV} (hg : g env st = .ok xs st)
    (h : ∀ x, x ∈ xs → ∃ e, ft x (wipeE env vs) st = .ok e st ∧ tt e st = .ok (p x) st ∧ (p x = true → fe e st = .ok (f x) st)) : fComp g ft tt fe vs env st = .ok ((xs.filter p).map f) st := by
  rw [fComp, hg, b_ok, comp_pure h]; rfl
theorem fcomp_map {g : XL} {ft : PV → Ev → Store → R Ev} {fe : XE} {vs : List Nat} {env : Ev} {st : Store} {xs : List PV} {f : PV → PV} (hg : g env st = .ok xs st)
    (h : ∀ x, x ∈ xs → ∃ e, ft x (wipeE env vs) st = .ok e st ∧ fe e st = .ok (f x) st) : fComp g ft (fun _ st => .ok true st) fe vs env st = .ok (xs.map f) st := by
  rw [fcomp_pure (p := fun _ => true) (f := f) hg fun x hx => by
    obtain ⟨e, a, b⟩ := h x hx
    exact ⟨e, a, rfl, fun _ => b⟩, List.filter_eq_self.mpr fun _ _ => rfl]
abbrev nI (ns : List Int) : List PV := ns.map PV.int
theorem short_loop (all : PV) (hall : ∀ e : Ev, ∀ st, asS st all = none ∨ True) (A : List PV) (st : Store) (hA : asS st all = some A) : ∀ (ns : List Int) (g : Nat) (y : Option PV), g ≠ 1 → (∀ x, x ∈ ns → x.natAbs < 2 ^ 1000) →
    (Nat.gcd g (Sx.gl ns) = 1 → loopV (gNm 2) (sSeq (sSet 1 (eCall 2 p_divisor_of (aCons (eVar 1) (aCons (eVar 2) aNil)))) (sIf (tE (eBin oEq (eVar 1) (eC (.int 1)))) (sRet (eFz (fList (eVar 0)))) sNil)) (nI ns) [some all, some (.int (g : Int)), y] st = .ok (.rt (.lst A)) st) ∧
    (Nat.gcd g (Sx.gl ns) ≠ 1 → ∃ y', loopV (gNm 2) (sSeq (sSet 1 (eCall 2 p_divisor_of (aCons (eVar 1) (aCons (eVar 2) aNil)))) (sIf (tE (eBin oEq (eVar 1) (eC (.int 1)))) (sRet (eFz (fList (eVar 0)))) sNil)) (nI ns) [some all, some (.int (g : Int)), y] st = .ok (.nx [some all, some (.int ((Nat.gcd g (Sx.gl ns) : Nat) : Int)), y']) st)
  | [], g, y, hg, _ => by
    have : Nat.gcd g (Sx.gl []) = g := Nat.gcd_zero_right g
    rw [this]
    exact ⟨fun h => absurd h hg, fun _ => ⟨y, rfl⟩⟩
  | n :: r, g, y, hg, hb => by
    have e1 : sSet 1 (eCall 2 p_divisor_of (aCons (eVar 1) (aCons (eVar 2) aNil))) [some all, some (.int (g : Int)), some (.int n)] st = .ok (.nx [some all, some (.int ((Nat.gcd g n.natAbs : Nat) : Int)), some (.int n)]) st := by
      have c : eCall 2 p_divisor_of (aCons (eVar 1) (aCons (eVar 2) aNil)) [some all, some (.int (g : Int)), some (.int n)] st = p_divisor_of [.int (g : Int), .int n] st := rfl
      rw [sSet, c, divisor_ok st (hb n (by simp))]
      rfl
    have e2 : tE (eBin oEq (eVar 1) (eC (.int 1))) [some all, some (.int ((Nat.gcd g n.natAbs : Nat) : Int)), some (.int n)] st = .ok (((Nat.gcd g n.natAbs : Nat) : Int) == 1) st := by
      simp only [tE, toB, eBin, eVar, eC, b_ok, vS, v0, oEq_int]
    have e3 : eFz (fList (eVar 0)) [some all, some (.int ((Nat.gcd g n.natAbs : Nat) : Int)), some (.int n)] st = .ok (.lst A) st := by
      simp only [eFz, fList, eVar, v0, b_ok, hA]
    have as : Nat.gcd g (Sx.gl (n :: r)) = Nat.gcd (Nat.gcd g n.natAbs) (Sx.gl r) := by rw [Sx.gl, Nat.gcd_assoc]
    rw [as]
    have step : ∀ k : R Fl, loopV (gNm 2) (sSeq (sSet 1 (eCall 2 p_divisor_of (aCons (eVar 1) (aCons (eVar 2) aNil)))) (sIf (tE (eBin oEq (eVar 1) (eC (.int 1)))) (sRet (eFz (fList (eVar 0)))) sNil)) (nI (n :: r)) [some all, some (.int (g : Int)), y] st
      = if Nat.gcd g n.natAbs = 1 then .ok (.rt (.lst A)) st else loopV (gNm 2) (sSeq (sSet 1 (eCall 2 p_divisor_of (aCons (eVar 1) (aCons (eVar 2) aNil)))) (sIf (tE (eBin oEq (eVar 1) (eC (.int 1)))) (sRet (eFz (fList (eVar 0)))) sNil)) (nI r) [some all, some (.int ((Nat.gcd g n.natAbs : Nat) : Int)), some (.int n)] st := fun k => by
      have g2 : gNm 2 (.int n) [some all, some (.int (g : Int)), y] st = .ok [some all, some (.int (g : Int)), some (.int n)] st := rfl
      rw [nI, List.map_cons, loopV, g2, b_ok, sSeq, e1, b_ok]
      simp only
      rw [sIf, e2, b_ok]
      by_cases z : Nat.gcd g n.natAbs = 1
      · rw [if_pos (show (((Nat.gcd g n.natAbs : Nat) : Int) == 1) = true by rw [z]; rfl), if_pos z, sRet, e3]
        rfl
      · rw [if_neg (by simp; omega), if_neg z, sNil, b_ok]
    rw [step .no]
    by_cases z : Nat.gcd g n.natAbs = 1
    · rw [if_pos z, z, Nat.gcd_one_left]
      exact ⟨fun _ => rfl, fun h => absurd rfl h⟩
    · rw [if_neg z]
      exact short_loop all hall A st hA r _ _ z fun x hx => hb x (by simp [hx])
theorem shortened_ok {ns : List Int} (st : Store) (hb : ∀ x, x ∈ ns → x.natAbs < 2 ^ 1000) : p_shortened [.lst (nI ns)] st = .ok (.lst (nI (Sx.short ns))) st := by
  have e0 : (env0 3 [.lst (nI ns)] : Ev) = [some (.lst (nI ns)), none, none] := rfl
  obtain ⟨l1, l2⟩ := short_loop (.lst (nI ns)) (fun _ _ => .inr trivial) (nI ns) st rfl ns 0 none (by decide) hb
  rw [Nat.gcd_zero_left] at l1 l2
  unfold p_shortened runF
  rw [e0]
  have e1 : ∀ rest : XS, sSeq (sSet 1 (eC (.int 0))) rest [some (.lst (nI ns)), none, none] st = rest [some (.lst (nI ns)), some (.int 0), none] st := fun _ => rfl
  have e2 : ∀ body : XS, sFor (iVal (eVar 0)) (gNm 2) body [some (.lst (nI ns)), some (.int 0), none] st = loopV (gNm 2) body (nI ns) [some (.lst (nI ns)), some (.int ((0 : Nat) : Int)), none] st := fun _ => rfl
  rw [e1, sSeq, e2]
  by_cases z : Sx.gl ns = 1
  · rw [l1 z, b_ok, Sx.short, if_neg (by omega)]
    rfl
  · obtain ⟨y', l⟩ := l2 z
    rw [l, b_ok]
    simp only
    have e3 : tE (eBin oGtI (eVar 1) (eC (.int 1))) [some (.lst (nI ns)), some (.int ((Sx.gl ns : Nat) : Int)), y'] st = .ok (decide ((1 : Int) < (Sx.gl ns : Int))) st := by
      simp only [tE, toB, eBin, eVar, eC, b_ok, vS, v0, oGt_int]
    rw [sRet, eIf, e3, b_ok]
    by_cases w : 1 < Sx.gl ns
    · rw [if_pos (by simp; omega)]
      have gb : ((Sx.gl ns : Nat) : Int).natAbs < 2 ^ 8000 := by
        rw [Int.natAbs_natCast]
        cases ns with
        | nil => simp [Sx.gl] at w
        | cons n r =>
          by_cases zz : ∃ x, x ∈ n :: r ∧ x ≠ 0
          · obtain ⟨x, hx, x0⟩ := zz
            have a := Nat.le_of_dvd (by omega) (Sx.gl_dvd hx)
            have b := hb x hx
            have c : (2 : Nat) ^ 1000 ≤ 2 ^ 8000 := Nat.pow_le_pow_right (by decide) (by decide)
            omega
          · have a0 : 0 ∣ Sx.gl (n :: r) := Sx.dvd_gl fun x hx => by
              have : x = 0 := Classical.byContradiction fun q => zz ⟨x, hx, q⟩
              rw [this]; exact Nat.dvd_refl 0
            have := Nat.eq_zero_of_zero_dvd a0
            omega
      rw [eFz, fcomp_map (xs := nI ns) (f := fun p => match p with | .int i => .int (i / (Sx.gl ns : Int)) | p => p) rfl fun x hx => by
        obtain ⟨i, hi, rfl⟩ := List.mem_map.mp hx
        refine ⟨[some (.lst (nI ns)), some (.int ((Sx.gl ns : Nat) : Int)), some (.int i)], rfl, ?_⟩
        simp only [eBin, eVar, b_ok, vS, v0, oDiv_int (a := i) (b := (Sx.gl ns : Int)) st (by omega) gb], b_ok, b_ok, Sx.short, if_pos w]
      simp only [ret, b_ok]
      congr 2
      simp [nI]
    · rw [if_neg (by simp; omega), Sx.short, if_neg w]
      rfl
end Lq
end
section
set_option Elab.async false
set_option linter.all false
set_option maxRecDepth 10000
set_option exponentiation.threshold 20000
namespace Lq
open PySem PySem.Spec PyProof.Rows L2
open Sx (at0 clr comb short)
theorem asVL_V {st : Store} {p : PV} {xs : List PV} (h : asVL st p = some xs) : asV st p = some xs := by
  cases p <;> first | exact h | (simp [asVL] at h)
theorem at_ints {xs : List Int} {j : Nat} (h : j < xs.length) : atI (nI xs) (j : Int) = some (.int (at0 xs j)) := by
  refine atI_nat ?_
  rw [List.getElem?_map, List.getElem?_eq_getElem h]
  simp [at0, h]
theorem ixL {xs : List Int} {j : Nat} (st : Store) (h : j < xs.length) : oIx (.lst (nI xs)) (.int (j : Int)) st = some (.int (at0 xs j)) := by
  simp only [oIx, asS, asL]; exact at_ints h
theorem pairs_ints : ∀ (xs ys : List Int), pairs (nI xs) (nI ys) = (xs.zip ys).map fun q => .tup [.int q.1, .int q.2]
  | [], _ => rfl
  | _ :: _, [] => rfl
  | x :: xs, y :: ys => by
    show PV.tup [.int x, .int y] :: pairs (nI xs) (nI ys) = _
    rw [pairs_ints xs ys]; rfl
theorem zipW (f : Int → Int → Int) : ∀ (xs ys : List Int), (xs.zip ys).map ((fun p : PV => match p with | .tup [.int a, .int b] => .int (f a b) | p => p) ∘ fun q => PV.tup [.int q.1, .int q.2]) = nI (List.zipWith f xs ys)
  | [], _ => rfl
  | _ :: _, [] => rfl
  | x :: xs, y :: ys => by
    rw [List.zip_cons_cons, List.map_cons, zipW f xs ys]; rfl
theorem fcomp_zip {fz : XL} {fe : XE} {i j : Nat} {env : Ev} {st : Store} {p q : PV} {xs ys : List Int} {f : Int → Int → Int} (hz : fz env st = .ok [p, q] st) (hp : asVL st p = some (nI xs)) (hq : asVL st q = some (nI ys))
    (h : ∀ a b, (a, b) ∈ xs.zip ys → fe (((wipeE env [i, j]).set i (some (.int a))).set j (some (.int b))) st = .ok (.int (f a b)) st) :
    fComp (iZipF fz) (gTp 2 (gsCons (gNm i) (gsCons (gNm j) gsNil))) (fun _ st => .ok true st) fe [i, j] env st = .ok (nI (List.zipWith f xs ys)) st := by
  have e : iZipF fz env st = .ok ((xs.zip ys).map fun q => .tup [.int q.1, .int q.2]) st := by
    rw [iZipF, hz, b_ok, ← pairs_ints]
    simp only [asVL_V hp, asVL_V hq]
  rw [fcomp_map (f := fun p => match p with | .tup [.int a, .int b] => .int (f a b) | p => p) e fun x hx => by
    obtain ⟨⟨a, b⟩, hab, rfl⟩ := List.mem_map.mp hx
    exact ⟨_, rfl, h a b hab⟩, List.map_map]
  congr 1
  exact zipW f xs ys
theorem cleared_ok {row other : List Int} {place : Nat} (st : Store) (hl : row.length = other.length) (hp : place < row.length) (hr : ∀ x, x ∈ row → x.natAbs < 2 ^ 400) (ho : ∀ x, x ∈ other → x.natAbs < 2 ^ 400) :
    p_cleared [.lst (nI row), .lst (nI other), .int (place : Int)] st = .ok (.lst (nI (clr row other place))) st := by
  have e0 : (env0 7 [.lst (nI row), .lst (nI other), .int (place : Int)] : Ev) = [some (.lst (nI row)), some (.lst (nI other)), some (.int (place : Int)), none, none, none, none] := rfl
  have b8 : (2 : Nat) ^ 400 ≤ 2 ^ 8000 := Nat.pow_le_pow_right (by decide) (by decide)
  have a1 : (at0 row place).natAbs < 2 ^ 400 := by
    by_cases z : at0 row place = 0
    · rw [z]; exact Nat.pow_pos (by decide)
    · exact hr _ (Sx.at0_mem z)
  have a2 : (at0 other place).natAbs < 2 ^ 400 := by
    by_cases z : at0 other place = 0
    · rw [z]; exact Nat.pow_pos (by decide)
    · exact ho _ (Sx.at0_mem z)
  unfold p_cleared runF
  rw [e0]
  have e1 : ∀ rest : XS, sSeq (sAsg (eTup (aCons (eBin oIx (eVar 0) (eVar 2)) (aCons (eBin oIx (eVar 1) (eVar 2)) aNil))) (gTp 2 (gsCons (gNm 3) (gsCons (gNm 4) gsNil)))) rest [some (.lst (nI row)), some (.lst (nI other)), some (.int (place : Int)), none, none, none, none] st
      = rest [some (.lst (nI row)), some (.lst (nI other)), some (.int (place : Int)), some (.int (at0 row place)), some (.int (at0 other place)), none, none] st := fun rest => by
    simp only [sSeq, sAsg, eTup, aCons, aNil, eBin, eVar, b_ok, vS, v0, ixL st hp, ixL st (hl ▸ hp)]
    rfl
  rw [e1]
  have e2 : tE (eBin oEq (eVar 3) (eC (.int 0))) [some (.lst (nI row)), some (.lst (nI other)), some (.int (place : Int)), some (.int (at0 row place)), some (.int (at0 other place)), none, none] st = .ok (at0 row place == 0) st := by
    simp only [tE, toB, eBin, eVar, eC, b_ok, vS, v0, oEq_int]
  rw [sSeq, sIf, e2, b_ok]
  by_cases z : at0 row place = 0
  · rw [if_pos (by simpa using z), clr, if_pos z]
    rfl
  · rw [if_neg (by simpa using z), sNil, b_ok, clr, if_neg z]
    simp only
    have e3 : eFz (fComp (iZipF (aCons (eVar 0) (aCons (eVar 1) aNil))) (gTp 2 (gsCons (gNm 5) (gsCons (gNm 6) gsNil))) (fun _ st => .ok true st) (eBin oSub (eBin oMul (eVar 5) (eVar 4)) (eBin oMul (eVar 3) (eVar 6))) [5, 6])
        [some (.lst (nI row)), some (.lst (nI other)), some (.int (place : Int)), some (.int (at0 row place)), some (.int (at0 other place)), none, none] st = .ok (.lst (nI (comb row other place))) st := by
      rw [eFz, fcomp_zip (xs := row) (ys := other) (f := fun a b => a * at0 other place - at0 row place * b) rfl rfl rfl fun a b hab => by
        have h1 := hr a (List.of_mem_zip hab).1
        have h2 := ho b (List.of_mem_zip hab).2
        show eBin oSub (eBin oMul (eVar 5) (eVar 4)) (eBin oMul (eVar 3) (eVar 6)) [some (.lst (nI row)), some (.lst (nI other)), some (.int (place : Int)), some (.int (at0 row place)), some (.int (at0 other place)), some (.int a), some (.int b)] st = _
        simp only [eBin, eVar, b_ok, vS, v0, oMul_int (a := a) (b := at0 other place) st (by omega) (by omega), oMul_int (a := at0 row place) (b := b) st (by omega) (by omega), oSub_int]]
      rfl
    have e4 : eCall 1 p_shortened (aCons (eFz (fComp (iZipF (aCons (eVar 0) (aCons (eVar 1) aNil))) (gTp 2 (gsCons (gNm 5) (gsCons (gNm 6) gsNil))) (fun _ st => .ok true st) (eBin oSub (eBin oMul (eVar 5) (eVar 4)) (eBin oMul (eVar 3) (eVar 6))) [5, 6])) aNil)
        [some (.lst (nI row)), some (.lst (nI other)), some (.int (place : Int)), some (.int (at0 row place)), some (.int (at0 other place)), none, none] st = .ok (.lst (nI (short (comb row other place)))) st := by
      rw [eCall, aCons, e3, b_ok, aNil, b_ok, b_ok]
      show (if ([PV.lst (nI (comb row other place))].length = 1) then _ else _) = _
      rw [if_pos (by rfl), shortened_ok st fun x hx => ?_]
      obtain ⟨a, b, hab, rfl⟩ : ∃ a b, (a, b) ∈ row.zip other ∧ x = a * at0 other place - at0 row place * b := by
        unfold comb at hx
        rw [← List.map_uncurry_zip_eq_zipWith] at hx
        obtain ⟨⟨a, b⟩, h1, h2⟩ := List.mem_map.mp hx
        exact ⟨a, b, h1, h2.symm⟩
      have h1 := hr a (List.of_mem_zip hab).1
      have h2 := ho b (List.of_mem_zip hab).2
      have m1 := Sx.mul_abs (Nat.le_of_lt h1) (Nat.le_of_lt a2)
      have m2 := Sx.mul_abs (Nat.le_of_lt a1) (Nat.le_of_lt h2)
      have : (2 : Nat) ^ 400 * 2 ^ 400 + 2 ^ 400 * 2 ^ 400 < 2 ^ 1000 := by decide
      omega
    rw [sRet, e4]
    rfl
end Lq
end
section
set_option Elab.async false
set_option linter.all false
set_option maxRecDepth 10000
set_option exponentiation.threshold 20000
namespace Lq
open PySem PySem.Spec PyProof.Rows L2
open Sx (at0 clr comb short LT)
theorem loop_inv {ft : PV → Ev → Store → R Ev} {body : XS} (P : Nat → Ev → Store → Prop) : ∀ (xs : List PV) (q : Nat) (env : Ev) (st : Store),
    (∀ i x, xs[i]? = some x → ∀ env st, P (q + i) env st → ∃ e s1 env' st', ft x env st = .ok e s1 ∧ body e s1 = .ok (.nx env') st' ∧ P (q + i + 1) env' st') →
    P q env st → ∃ env' st', loopV ft body xs env st = .ok (.nx env') st' ∧ P (q + xs.length) env' st'
  | [], q, env, st, _, h => ⟨env, st, rfl, h⟩
  | x :: r, q, env, st, H, h => by
    obtain ⟨e, s1, env1, st1, a, b, c⟩ := H 0 x rfl env st h
    obtain ⟨env', st', d, f⟩ := loop_inv P r (q + 1) env1 st1 (fun i y hy env st hp => by
      have := H (i + 1) y (by simpa using hy) env st (by rw [show q + (i + 1) = q + 1 + i by omega]; exact hp)
      rw [show q + (i + 1) + 1 = q + 1 + i + 1 by omega] at this
      exact this) c
    refine ⟨env', st', ?_, by rw [List.length_cons, show q + (r.length + 1) = q + 1 + r.length by omega]; exact f⟩
    rw [loopV, a, b_ok, b, b_ok]
    exact d
theorem rng_at {n i : Nat} {x : PV} (h : (rng 0 n)[i]? = some x) : i < n ∧ x = .int (i : Int) := by
  unfold rng at h
  rw [List.getElem?_map] at h
  by_cases w : i < n
  · rw [List.getElem?_range w] at h
    simp at h
    exact ⟨w, h.symm⟩
  · rw [List.getElem?_eq_none (by simpa using w)] at h
    simp at h
theorem rng_len (n : Nat) : (rng 0 n).length = n := by simp [rng]
theorem for_rng {v n : Nat} {body : XS} (P : Nat → Ev → Store → Prop) {env : Ev} {st : Store}
    (H : ∀ i, i < n → ∀ env st, P i env st → ∃ env' st', body (env.set v (some (.int (i : Int)))) st = .ok (.nx env') st' ∧ P (i + 1) env' st') (h : P 0 env st) :
    ∃ env' st', loopV (gNm v) body (rng 0 n) env st = .ok (.nx env') st' ∧ P n env' st' := by
  have := loop_inv (ft := gNm v) (body := body) P (rng 0 n) 0 env st (fun i x hx env st hp => by
    obtain ⟨hi, rfl⟩ := rng_at hx
    rw [Nat.zero_add] at hp ⊢
    obtain ⟨env', st', a, b⟩ := H i hi env st hp
    exact ⟨_, _, env', st', rfl, a, b⟩) h
  rw [rng_len, Nat.zero_add] at this
  exact this
abbrev rowsV (rs : List (List Int)) : List PV := rs.map fun r => .lst (nI r)
abbrev natsV (bs : List Nat) : List PV := bs.map fun (k : Nat) => PV.int (k : Int)
theorem rowsV_set (xs : List (List Int)) (i : Nat) (y : List Int) : (rowsV xs).set i (.lst (nI y)) = rowsV (xs.set i y) := by
  unfold rowsV; rw [List.map_set]
theorem natsV_set (xs : List Nat) (i : Nat) (y : Nat) : (natsV xs).set i (.int (y : Int)) = natsV (xs.set i y) := by
  unfold natsV; rw [List.map_set]
structure EqAt (st : Store) (o r b many : Nat) (sg : List PV) (X : LT) : Prop where
  ho : st[o]? = some (.ins "Equations" [("many", .int (many : Int)), ("signs", .lst sg), ("rows", .own r), ("basis", .own b)])
  hr : st[r]? = some (.lst (rowsV X.rows))
  hb : st[b]? = some (.lst (natsV X.basis))
theorem EqAt.ne {st o r b many sg X} (H : EqAt st o r b many sg X) : o ≠ r ∧ o ≠ b := by
  refine ⟨fun h => ?_, fun h => ?_⟩
  · have := H.ho; rw [h, H.hr] at this; simp at this
  · have := H.ho; rw [h, H.hb] at this; simp at this
theorem fld_many {st o r b many sg X} (H : EqAt st o r b many sg X) {env : Ev} {i : Nat} (h : env[i]? = some (some (.own o))) : eFld "Equations" "many" (eVar i) env st = .ok (.int (many : Int)) st := by
  simp only [eFld, eVar, h, b_ok, H.ho, if_true]; rfl
theorem fld_rows {st o r b many sg X} (H : EqAt st o r b many sg X) {env : Ev} {i : Nat} (h : env[i]? = some (some (.own o))) : eFld "Equations" "rows" (eVar i) env st = .ok (.own r) st := by
  simp only [eFld, eVar, h, b_ok, H.ho, if_true]; rfl
theorem fld_basis {st o r b many sg X} (H : EqAt st o r b many sg X) {env : Ev} {i : Nat} (h : env[i]? = some (some (.own o))) : eFld "Equations" "basis" (eVar i) env st = .ok (.own b) st := by
  simp only [eFld, eVar, h, b_ok, H.ho, if_true]; rfl
theorem ixOwn {st : Store} {r : Nat} {xs : List PV} {j : Nat} {x : PV} (h : st[r]? = some (.lst xs)) (hx : xs[j]? = some x) : oIx (.own r) (.int (j : Int)) st = some x := by
  simp only [oIx, asS, asL, h]; exact atI_nat hx
theorem row_get {X : LT} {i : Nat} (h : i < X.rows.length) : (rowsV X.rows)[i]? = some (.lst (nI (X.row i))) := by
  unfold rowsV LT.row
  rw [List.getElem?_map, List.getElem?_eq_getElem h]
  simp [h]
def mid (m : Nat) (X : LT) (l e q : Nat) : LT := { X with rows := (List.range m).map fun i => if i < q ∧ i ≠ l then clr (X.row i) (X.row l) e else X.row i }
theorem mid_row {m q : Nat} {X : LT} {l e i : Nat} (h : i < m) : (mid m X l e q).row i = if i < q ∧ i ≠ l then clr (X.row i) (X.row l) e else X.row i := by
  unfold LT.row mid
  rw [List.getD_eq_getElem?_getD, List.getElem?_map, List.getElem?_range h]
  rfl
theorem mid_len {m q : Nat} {X : LT} {l e : Nat} : (mid m X l e q).rows.length = m := by simp [mid]
theorem mid_0 {m : Nat} {X : LT} {l e : Nat} (h : X.rows.length = m) : (mid m X l e 0).rows = X.rows := by
  unfold mid
  apply List.ext_getElem (by simp [h])
  intro i h1 h2
  simp [LT.row, h2]
theorem mid_m {m : Nat} {X : LT} {l e : Nat} : (mid m X l e m).rows = (Sx.turn m X l e).rows := by
  unfold mid Sx.turn
  apply List.ext_getElem (by simp)
  intro i h1 h2
  simp at h1
  simp [h1]
  split <;> rename_i w
  · rw [w]
  · simp [w]
theorem mid_s {m q : Nat} {X : LT} {l e : Nat} (hq : q < m) (h : q ≠ l) : (mid m X l e q).rows.set q (clr (X.row q) (X.row l) e) = (mid m X l e (q + 1)).rows := by
  unfold mid
  apply List.ext_getElem (by simp)
  intro i h1 h2
  simp at h1 h2
  rw [List.getElem_set]
  by_cases x : q = i
  · subst x; simp [h]
  · simp [x]
    by_cases y : i < q
    · simp [y, show i < q + 1 by omega]
    · simp [y, show ¬ i < q + 1 by omega]
theorem mid_l {m : Nat} {X : LT} {l e : Nat} : (mid m X l e l).rows = (mid m X l e (l + 1)).rows := by
  unfold mid
  apply List.ext_getElem (by simp)
  intro i h1 h2
  simp at h1 h2
  simp
  by_cases x : i = l
  · simp [x]
  · have : i < l ↔ i < l + 1 := by omega
    simp [x, this]
theorem st_set {st : Store} {r k : Nat} {c d : Cell} (h : st[r]? = some c) : (st.set r d)[k]? = if k = r then some d else st[k]? := by
  have hr := (List.getElem?_eq_some_iff.mp h).1
  rw [List.getElem?_set]
  by_cases x : r = k
  · subst x; simp [hr]
  · simp [x, Ne.symm x]
theorem gSub_own {fo fi : XE} {p : PV} {env : Ev} {st : Store} {r j : Nat} {xs : List PV} (h1 : fo env st = .ok (.own r) st) (h2 : fi env st = .ok (.int (j : Int)) st) (h3 : st[r]? = some (.lst xs)) (h4 : j < xs.length) :
    gSubL fo fi p env st = .ok env (st.set r (.lst (xs.set j p))) := by
  have : ixN xs.length (j : Int) = some j := by
    unfold ixN
    rw [if_pos (by omega), if_pos (by omega)]
    simp
  simp only [gSubL, h1, h2, b_ok, h3, this]
def Small (X : LT) (m : Nat) (costs : List Int) : Prop := (∀ i, i < m → ∀ x, x ∈ X.row i → x.natAbs < 2 ^ 400) ∧ ∀ x, x ∈ costs → x.natAbs < 2 ^ 400
theorem turn_ok {st : Store} {o r b many m w : Nat} {sg : List PV} {X : LT} (H : EqAt st o r b many sg X) (rb : r ≠ b) {l e : Nat} {costs : List Int} (hm : X.rows.length = m) (hmb : X.basis.length = m) (m6 : m ≤ 6)
    (hw : ∀ i, i < m → (X.row i).length = w) (hc : costs.length = w) (hl : l < m) (he : e < w) (S : Small X m costs) :
    p_Equations_turn [.own o, .lst (nI costs), .int (l : Int), .int (e : Int)] st
      = .ok (.lst (nI (clr costs (X.row l) e))) ((st.set r (.lst (rowsV (Sx.turn m X l e).rows))).set b (.lst (natsV (X.basis.set l e)))) := by
  have e0 : (env0 6 [.own o, .lst (nI costs), .int (l : Int), .int (e : Int)] : Ev) = [some (.own o), some (.lst (nI costs)), some (.int (l : Int)), some (.int (e : Int)), none, none] := rfl
  unfold p_Equations_turn runF
  rw [e0]
  have e1 : ∀ rest : XS, sSeq (sSet 4 (eBin oIx (eFld "Equations" "rows" (eVar 0)) (eVar 2))) rest [some (.own o), some (.lst (nI costs)), some (.int (l : Int)), some (.int (e : Int)), none, none] st
      = rest [some (.own o), some (.lst (nI costs)), some (.int (l : Int)), some (.int (e : Int)), some (.lst (nI (X.row l))), none] st := fun rest => by
    rw [sSeq, sSet, eBin, fld_rows H rfl, b_ok]
    simp only [eVar, vS, v0, b_ok, ixOwn H.hr (row_get (i := l) (by omega))]
    rfl
  rw [e1]
  let E (y : Option PV) : Ev := [some (.own o), some (.lst (nI costs)), some (.int (l : Int)), some (.int (e : Int)), some (.lst (nI (X.row l))), y]
  let st_ (q : Nat) : Store := st.set r (.lst (rowsV (mid m X l e q).rows))
  have er : ∀ q, (st_ q)[r]? = some (.lst (rowsV (mid m X l e q).rows)) := fun q => by rw [st_set H.hr, if_pos rfl]
  have ea : ∀ q, EqAt (st_ q) o r b many sg (mid m X l e q) := fun q => by
    refine ⟨?_, er q, ?_⟩
    · rw [st_set H.hr, if_neg H.ne.1]; exact H.ho
    · rw [st_set H.hr, if_neg (Ne.symm rb)]; exact H.hb
  have loop := for_rng (v := 5) (n := m) (body := sIf (tE (eBin oNe (eVar 5) (eVar 2))) (sAsg (eCall 3 p_cleared (aCons (eBin oIx (eFld "Equations" "rows" (eVar 0)) (eVar 5)) (aCons (eVar 4) (aCons (eVar 3) aNil)))) (gSubL (eFld "Equations" "rows" (eVar 0)) (eVar 5))) sNil)
    (P := fun q env s => (∃ y, env = E y) ∧ s = st_ q) (env := E none) (st := st) (fun i hi env s hp => by
      obtain ⟨⟨y, rfl⟩, rfl⟩ := hp
      have c1 : tE (eBin oNe (eVar 5) (eVar 2)) (E (some (.int (i : Int)))) (st_ i) = .ok (!((i : Int) == (l : Int))) (st_ i) := by
        simp only [E, tE, toB, eBin, eVar, b_ok, vS, v0, oNe_int]
      by_cases x : i = l
      · refine ⟨E (some (.int (i : Int))), st_ i, ?_, ⟨_, rfl⟩, ?_⟩
        · show sIf _ _ _ (E (some (.int (i : Int)))) (st_ i) = _
          rw [sIf, c1, b_ok, if_neg (by simp [x])]; rfl
        · show st.set r (.lst (rowsV (mid m X l e i).rows)) = st.set r (.lst (rowsV (mid m X l e (i + 1)).rows))
          rw [x, mid_l]
      · refine ⟨E (some (.int (i : Int))), st_ (i + 1), ?_, ⟨_, rfl⟩, rfl⟩
        show sIf _ _ _ (E (some (.int (i : Int)))) (st_ i) = _
        rw [sIf, c1, b_ok, if_pos (by simp; omega), sAsg]
        have ri : (mid m X l e i).row i = X.row i := by rw [mid_row hi, if_neg (by omega)]
        have c2 : eBin oIx (eFld "Equations" "rows" (eVar 0)) (eVar 5) (E (some (.int (i : Int)))) (st_ i) = .ok (.lst (nI (X.row i))) (st_ i) := by
          rw [eBin, fld_rows (ea i) rfl, b_ok]
          have := row_get (X := mid m X l e i) (i := i) (by rw [mid_len]; exact hi)
          rw [ri] at this
          simp only [E, eVar, vS, v0, b_ok, ixOwn (er i) this]
        have c3 : eCall 3 p_cleared (aCons (eBin oIx (eFld "Equations" "rows" (eVar 0)) (eVar 5)) (aCons (eVar 4) (aCons (eVar 3) aNil))) (E (some (.int (i : Int)))) (st_ i) = .ok (.lst (nI (clr (X.row i) (X.row l) e))) (st_ i) := by
          rw [← cleared_ok (st_ i) (by rw [hw i hi, hw l hl]) (by rw [hw i hi]; exact he) (S.1 i hi) (S.1 l hl), eCall, aCons, c2, b_ok]
          rfl
        rw [c3, b_ok, gSub_own (fld_rows (ea i) rfl) rfl (er i) (by simp [mid_len]; exact hi), b_ok]
        show R.ok _ ((st.set r _).set r _) = _
        rw [List.set_set]
        show R.ok _ (st.set r (.lst ((rowsV (mid m X l e i).rows).set i _))) = R.ok _ (st.set r (.lst (rowsV (mid m X l e (i + 1)).rows)))
        rw [← mid_s hi x, rowsV_set])
    ⟨⟨none, rfl⟩, by
      show st = st.set r (.lst (rowsV (mid m X l e 0).rows))
      rw [mid_0 hm]
      apply List.ext_getElem? 
      intro k
      rw [st_set H.hr]
      split
      · rename_i h; rw [h, H.hr]
      · rfl⟩
  obtain ⟨env', st', lp, ⟨y, rfl⟩, rfl⟩ := loop
  have e2 : iRange1 (aCons (eCB oLen (aCons (eFld "Equations" "rows" (eVar 0)) aNil)) aNil) (E none) st = .ok (rng 0 m) st := by
    have : eCB oLen (aCons (eFld "Equations" "rows" (eVar 0)) aNil) (E none) st = .ok (.int (m : Int)) st := by
      rw [eCB, aCons, fld_rows H rfl, b_ok, aNil, b_ok, b_ok]
      simp [oLen, asS, asL, H.hr, hm]
    rw [iRange1, aCons, this, b_ok, aNil, b_ok, b_ok]
    have ok : okR (m : Int) = true ∧ (m : Int).toNat ≤ sizeLine := by
      have : sizeLine = 16777216 := by decide
      unfold okR
      simp
      omega
    simp only [if_pos ok]
    simp
  rw [sSeq, sFor]
  show ret (((iRange1 _ (E none) st).bind _).bind _) = _
  rw [e2, b_ok, lp, b_ok]
  simp only
  have e3 : ∀ rest : XS, sSeq (sAsg (eVar 3) (gSubL (eFld "Equations" "basis" (eVar 0)) (eVar 2))) rest (E y) (st_ m) = rest (E y) ((st_ m).set b (.lst (natsV (X.basis.set l e)))) := fun rest => by
    have g : gSubL (eFld "Equations" "basis" (eVar 0)) (eVar 2) (.int (e : Int)) (E y) (st_ m) = _ := gSub_own (fld_basis (ea m) rfl) (rfl : eVar 2 (E y) (st_ m) = .ok (.int (l : Int)) (st_ m)) (ea m).hb (by simp [mid, hmb]; exact hl)
    have v3 : eVar 3 (E y) (st_ m) = .ok (.int (e : Int)) (st_ m) := rfl
    rw [sSeq, sAsg, v3, b_ok, g, b_ok, b_ok]
    have : (natsV (mid m X l e m).basis).set l (.int (e : Int)) = natsV (X.basis.set l e) := by
      show (natsV X.basis).set l (.int (e : Int)) = _
      rw [natsV_set]
    simp only [this]
  rw [e3]
  have e4 : eCall 3 p_cleared (aCons (eVar 1) (aCons (eVar 4) (aCons (eVar 3) aNil))) (E y) ((st_ m).set b (.lst (natsV (X.basis.set l e)))) = .ok (.lst (nI (clr costs (X.row l) e))) ((st_ m).set b (.lst (natsV (X.basis.set l e)))) := by
    rw [← cleared_ok _ (by rw [hw l hl, hc]) (by rw [hc]; exact he) S.2 (S.1 l hl)]
    rfl
  rw [sRet, e4]
  show R.ok _ ((st.set r (.lst (rowsV (mid m X l e m).rows))).set b _) = _
  rw [mid_m]
end Lq
end
section
set_option Elab.async false
set_option linter.all false
set_option maxRecDepth 10000
set_option exponentiation.threshold 20000
namespace Lq
open PySem PySem.Spec PyProof.Rows L2
open Sx (at0 clr comb short LT)
theorem loopC_inv {en : Bool} {k : Nat} {ft : PV → Ev → Store → R Ev} {body : XS} {xs : List PV} (P : Nat → Ev → Store → Prop) (hP : ∀ i env st, P i env st → cellL st k = some xs)
    (H : ∀ i x, xs[i]? = some x → ∀ env st, P i env st → ∃ e s1 env' st', ft (if en = true then .tup [.int (i : Int), x] else x) env st = .ok e s1 ∧ body e s1 = .ok (.nx env') st' ∧ P (i + 1) env' st') :
    ∀ n i env st, i + n = xs.length + 1 → 0 < n → P i env st → ∃ env' st', loopC en k ft body n i env st = .ok (.nx env') st' ∧ P xs.length env' st'
  | n + 1, i, env, st, hn, _, h => by
    rw [loopC, hP i env st h]
    by_cases w : i < xs.length
    · obtain ⟨e, s1, env1, st1, a, b, c⟩ := H i xs[i] (List.getElem?_eq_getElem w) env st h
      obtain ⟨env', st', d, f⟩ := loopC_inv P hP H n (i + 1) env1 st1 (by omega) (by omega) c
      refine ⟨env', st', ?_, f⟩
      simp only [List.getElem?_eq_getElem w]
      rw [a, b_ok, b, b_ok]
      exact d
    · have : i = xs.length := by omega
      refine ⟨env, st, ?_, by rw [← this]; exact h⟩
      simp only [List.getElem?_eq_none (show xs.length ≤ i by omega)]
theorem forC_inv {en : Bool} {k : Nat} {f : XE} {ft : PV → Ev → Store → R Ev} {body : XS} {xs : List PV} {env : Ev} {st : Store} (P : Nat → Ev → Store → Prop) (hf : f env st = .ok (.own k) st) (hP : ∀ i env st, P i env st → cellL st k = some xs)
    (H : ∀ i x, xs[i]? = some x → ∀ env st, P i env st → ∃ e s1 env' st', ft (if en = true then .tup [.int (i : Int), x] else x) env st = .ok e s1 ∧ body e s1 = .ok (.nx env') st' ∧ P (i + 1) env' st') (h : P 0 env st) :
    ∃ env' st', sForC en f ft body env st = .ok (.nx env') st' ∧ P xs.length env' st' := by
  rw [sForC, hf, b_ok]
  simp only [hP 0 env st h]
  exact loopC_inv P hP H _ 0 env st (by omega) (by omega) h
theorem ixLast {xs : List Int} (st : Store) (h : 0 < xs.length) : oIx (.lst (nI xs)) (.int (-1)) st = some (.int (at0 xs (xs.length - 1))) := by
  simp only [oIx, asS, asL, atI]
  have : ixN (nI xs).length (-1) = some (xs.length - 1) := by
    unfold ixN
    simp
    omega
  rw [this]
  show (nI xs)[xs.length - 1]? = _
  rw [List.getElem?_map, List.getElem?_eq_getElem (by omega)]
  have : xs.length - 1 < xs.length := by omega
  simp [at0, this]
theorem at0_small {xs : List Int} {N : Nat} (h : ∀ x, x ∈ xs → x.natAbs < 2 ^ N) (j : Nat) : (at0 xs j).natAbs < 2 ^ N := by
  by_cases z : at0 xs j = 0
  · rw [z]; exact Nat.pow_pos (by decide)
  · exact h _ (Sx.at0_mem z)
def optV : Option Nat → PV
  | none => .non
  | some l => .int (l : Int)
theorem leave_lt (X : LT) (w e : Nat) : ∀ q l, Sx.leave X w e q = some l → l < q := fun q l h => by
  have := Sx.leave_spec X w e q
  rw [h] at this
  exact this.1
theorem oLt_int (a b : Int) (s : Store) : oLt (.int a) (.int b) s = some (.bl (decide (a < b))) := rfl
theorem leaving_ok {st : Store} {o r b many m w : Nat} {sg : List PV} {X : LT} (H : EqAt st o r b many sg X) {e : Nat} (hm : X.rows.length = m) (hmb : X.basis.length = m)
    (hw : ∀ i, i < m → (X.row i).length = w + 1) (he : e < w) (S : ∀ i, i < m → ∀ x, x ∈ X.row i → x.natAbs < 2 ^ 400) :
    p_Equations_leaving [.own o, .int (e : Int)] st = .ok (optV (Sx.leave X w e m)) st := by
  have b8 : (2 : Nat) ^ 400 ≤ 2 ^ 8000 := Nat.pow_le_pow_right (by decide) (by decide)
  have e0 : (env0 7 [.own o, .int (e : Int)] : Ev) = [some (.own o), some (.int (e : Int)), none, none, none, none, none] := rfl
  unfold p_Equations_leaving runF
  rw [e0]
  have e1 : ∀ rest : XS, sSeq (sSet 2 (eC .non)) rest [some (.own o), some (.int (e : Int)), none, none, none, none, none] st = rest [some (.own o), some (.int (e : Int)), some .non, none, none, none, none] st := fun _ => rfl
  rw [e1]
  let P : Nat → Ev → Store → Prop := fun q env s => s = st ∧ ∃ y3 y4 y5 y6, env = [some (.own o), some (.int (e : Int)), some (optV (Sx.leave X w e q)), y3, y4, y5, y6]
  have bas : ∀ i, i < m → (natsV X.basis)[i]? = some (.int ((X.basis.getD i 0 : Nat) : Int)) := fun i hi => by
    unfold natsV
    rw [List.getElem?_map, List.getElem?_eq_getElem (by omega)]
    simp [show i < X.basis.length by omega]
  obtain ⟨env', st', a, b⟩ := forC_inv (en := true) (k := r) (f := eFld "Equations" "rows" (eVar 0)) (ft := gTp 2 (gsCons (gNm 3) (gsCons (gNm 4) gsNil)))
    (body := sIf (tE (eBin oGtI (eBin oIx (eVar 4) (eVar 1)) (eC (.int 0)))) (sIf (tE (eBin oIsN (eVar 2) (eC .non))) (sSet 2 (eVar 3)) (sSeq (sPar 5 6 (aCons (eBin oMul (eBin oIx (eVar 4) (eUn oNeg (eC (.int 1)))) (eBin oIx (eBin oIx (eFld "Equations" "rows" (eVar 0)) (eVar 2)) (eVar 1))) (aCons (eBin oMul (eBin oIx (eBin oIx (eFld "Equations" "rows" (eVar 0)) (eVar 2)) (eUn oNeg (eC (.int 1)))) (eBin oIx (eVar 4) (eVar 1))) aNil)))
    (sIf (tOrF (tE (eBin oLt (eVar 5) (eVar 6))) (tAndF (tE (eBin oEq (eVar 5) (eVar 6))) (tE (eBin oLt (eBin oIx (eFld "Equations" "basis" (eVar 0)) (eVar 3)) (eBin oIx (eFld "Equations" "basis" (eVar 0)) (eVar 2)))))) (sSet 2 (eVar 3)) sNil))) sNil)
    (xs := rowsV X.rows) (env := [some (.own o), some (.int (e : Int)), some .non, none, none, none, none]) (st := st) P (fld_rows H rfl) (fun i env s hp => by rw [hp.1, cellL, H.hr]) (fun q x hx env s hp => by
      obtain ⟨rfl, y3, y4, y5, y6, rfl⟩ := hp
      have hq : q < m := by
        have := (List.getElem?_eq_some_iff.mp hx).1
        simp at this
        omega
      have : x = .lst (nI (X.row q)) := by
        rw [row_get (by omega)] at hx
        exact (Option.some.inj hx).symm
      subst this
      have lq := hw q hq
      have g1 : ∀ y5 y6 v, tE (eBin oGtI (eBin oIx (eVar 4) (eVar 1)) (eC (.int 0))) [some (.own o), some (.int (e : Int)), v, some (.int (q : Int)), some (.lst (nI (X.row q))), y5, y6] s = .ok (decide (0 < at0 (X.row q) e)) s := fun y5 y6 v => by
        simp only [tE, toB, eBin, eVar, eC, b_ok, vS, v0, ixL s (show e < (X.row q).length by omega), oGt_int]
      refine ⟨[some (.own o), some (.int (e : Int)), some (optV (Sx.leave X w e q)), some (.int (q : Int)), some (.lst (nI (X.row q))), y5, y6], s, ?_⟩
      by_cases p : 0 < at0 (X.row q) e
      · cases hb : Sx.leave X w e q with
        | none =>
          refine ⟨[some (.own o), some (.int (e : Int)), some (.int (q : Int)), some (.int (q : Int)), some (.lst (nI (X.row q))), y5, y6], s, rfl, ?_, rfl, some (.int (q : Int)), some (.lst (nI (X.row q))), y5, y6, ?_⟩
          · show sIf _ _ _ [some (.own o), some (.int (e : Int)), some .non, some (.int (q : Int)), some (.lst (nI (X.row q))), y5, y6] s = _
            rw [sIf, g1, b_ok, if_pos (by simpa using p)]
            rfl
          · rw [Sx.leave, hb]
            simp only [if_pos p]
            rfl
        | some l =>
          have hl : l < m := by have := leave_lt X w e q l hb; omega
          have ll := hw l hl
          have q1 := at0_small (S q hq) w
          have q2 := at0_small (S l hl) e
          have q3 := at0_small (S l hl) w
          have q4 := at0_small (S q hq) e
          let one := at0 (X.row q) w * at0 (X.row l) e
          let two := at0 (X.row l) w * at0 (X.row q) e
          have lastq : oIx (.lst (nI (X.row q))) (.int (-1)) s = some (.int (at0 (X.row q) w)) := by
            rw [ixLast s (by omega), lq]; rfl
          have lastl : oIx (.lst (nI (X.row l))) (.int (-1)) s = some (.int (at0 (X.row l) w)) := by
            rw [ixLast s (by omega), ll]; rfl
          let env1 : Ev := [some (.own o), some (.int (e : Int)), some (.int (l : Int)), some (.int (q : Int)), some (.lst (nI (X.row q))), y5, y6]
          let env2 : Ev := [some (.own o), some (.int (e : Int)), some (.int (l : Int)), some (.int (q : Int)), some (.lst (nI (X.row q))), some (.int one), some (.int two)]
          have rl : ∀ env : Ev, env[0]? = some (some (.own o)) → env[2]? = some (some (.int (l : Int))) → eBin oIx (eFld "Equations" "rows" (eVar 0)) (eVar 2) env s = .ok (.lst (nI (X.row l))) s := fun env h0 h2 => by
            rw [eBin, fld_rows H h0, b_ok]
            simp only [eVar, h2, b_ok, ixOwn H.hr (row_get (i := l) (by omega))]
          have g2 : sPar 5 6 (aCons (eBin oMul (eBin oIx (eVar 4) (eUn oNeg (eC (.int 1)))) (eBin oIx (eBin oIx (eFld "Equations" "rows" (eVar 0)) (eVar 2)) (eVar 1))) (aCons (eBin oMul (eBin oIx (eBin oIx (eFld "Equations" "rows" (eVar 0)) (eVar 2)) (eUn oNeg (eC (.int 1)))) (eBin oIx (eVar 4) (eVar 1))) aNil)) env1 s = .ok (.nx env2) s := by
            have a1 : eBin oIx (eVar 4) (eUn oNeg (eC (.int 1))) env1 s = .ok (.int (at0 (X.row q) w)) s := by
              have := lastq
              simp only [env1, eBin, eUn, eVar, eC, oNeg, b_ok, vS, v0]
              rw [this]
            have a2 : eBin oIx (eBin oIx (eFld "Equations" "rows" (eVar 0)) (eVar 2)) (eVar 1) env1 s = .ok (.int (at0 (X.row l) e)) s := by
              rw [eBin, rl env1 rfl rfl, b_ok]
              simp only [env1, eVar, b_ok, vS, v0, ixL s (show e < (X.row l).length by omega)]
            have a3 : eBin oIx (eBin oIx (eFld "Equations" "rows" (eVar 0)) (eVar 2)) (eUn oNeg (eC (.int 1))) env1 s = .ok (.int (at0 (X.row l) w)) s := by
              rw [eBin, rl env1 rfl rfl, b_ok]
              simp only [eUn, eC, oNeg, b_ok]
              rw [lastl]
            have a4 : eBin oIx (eVar 4) (eVar 1) env1 s = .ok (.int (at0 (X.row q) e)) s := by
              simp only [env1, eBin, eVar, b_ok, vS, v0, ixL s (show e < (X.row q).length by omega)]
            have m1 : eBin oMul (eBin oIx (eVar 4) (eUn oNeg (eC (.int 1)))) (eBin oIx (eBin oIx (eFld "Equations" "rows" (eVar 0)) (eVar 2)) (eVar 1)) env1 s = .ok (.int one) s := by
              rw [eBin, a1, b_ok, a2, b_ok, oMul_int s (by omega) (by omega)]
            have m2 : eBin oMul (eBin oIx (eBin oIx (eFld "Equations" "rows" (eVar 0)) (eVar 2)) (eUn oNeg (eC (.int 1)))) (eBin oIx (eVar 4) (eVar 1)) env1 s = .ok (.int two) s := by
              rw [eBin, a3, b_ok, a4, b_ok, oMul_int s (by omega) (by omega)]
            rw [sPar, aCons, m1, b_ok, aCons, m2, b_ok, aNil, b_ok, b_ok, b_ok]
            rfl
          have isN : tE (eBin oIsN (eVar 2) (eC .non)) env1 s = .ok false s := rfl
          have bq : eBin oIx (eFld "Equations" "basis" (eVar 0)) (eVar 3) env2 s = .ok (.int ((X.basis.getD q 0 : Nat) : Int)) s := by
            rw [eBin, fld_basis H rfl, b_ok]
            simp only [env2, eVar, b_ok, vS, v0, ixOwn H.hb (bas q hq)]
          have bl : eBin oIx (eFld "Equations" "basis" (eVar 0)) (eVar 2) env2 s = .ok (.int ((X.basis.getD l 0 : Nat) : Int)) s := by
            rw [eBin, fld_basis H rfl, b_ok]
            simp only [env2, eVar, b_ok, vS, v0, ixOwn H.hb (bas l hl)]
          have g3 : tOrF (tE (eBin oLt (eVar 5) (eVar 6))) (tAndF (tE (eBin oEq (eVar 5) (eVar 6))) (tE (eBin oLt (eBin oIx (eFld "Equations" "basis" (eVar 0)) (eVar 3)) (eBin oIx (eFld "Equations" "basis" (eVar 0)) (eVar 2))))) env2 s
              = .ok (decide (one < two ∨ one = two ∧ X.basis.getD q 0 < X.basis.getD l 0)) s := by
            have h1 : tE (eBin oLt (eVar 5) (eVar 6)) env2 s = .ok (decide (one < two)) s := by
              simp only [env2, tE, toB, eBin, eVar, b_ok, vS, v0, oLt_int]
            have h2 : tE (eBin oEq (eVar 5) (eVar 6)) env2 s = .ok (one == two) s := by
              simp only [env2, tE, toB, eBin, eVar, b_ok, vS, v0, oEq_int]
            have h3 : tE (eBin oLt (eBin oIx (eFld "Equations" "basis" (eVar 0)) (eVar 3)) (eBin oIx (eFld "Equations" "basis" (eVar 0)) (eVar 2))) env2 s = .ok (decide (((X.basis.getD q 0 : Nat) : Int) < ((X.basis.getD l 0 : Nat) : Int))) s := by
              rw [tE, toB, eBin, bq, b_ok, bl, b_ok, oLt_int]
              rfl
            rw [tOrF, h1, b_ok]
            by_cases c1 : one < two
            · rw [if_pos (by simpa using c1), decide_eq_true (.inl c1)]
            · rw [if_neg (by simpa using c1), tAndF, h2, b_ok]
              by_cases c2 : one = two
              · rw [if_pos (by simpa using c2), h3]
                congr 1
                simp only [decide_eq_decide]
                omega
              · rw [if_neg (by simpa using c2)]
                congr 1
                symm
                apply decide_eq_false
                omega
          by_cases c : one < two ∨ one = two ∧ X.basis.getD q 0 < X.basis.getD l 0
          · refine ⟨[some (.own o), some (.int (e : Int)), some (.int (q : Int)), some (.int (q : Int)), some (.lst (nI (X.row q))), some (.int one), some (.int two)], s, rfl, ?_, rfl, some (.int (q : Int)), some (.lst (nI (X.row q))), some (.int one), some (.int two), ?_⟩
            · show sIf _ _ _ env1 s = _
              rw [sIf, g1, b_ok, if_pos (by simpa using p), sIf, isN, b_ok, if_neg (by decide), sSeq, g2, b_ok]
              simp only
              rw [sIf, g3, b_ok, if_pos (by simpa using c)]
              rfl
            · rw [Sx.leave, hb]
              simp only
              rw [if_pos ⟨p, c⟩]
              rfl
          · refine ⟨env2, s, rfl, ?_, rfl, some (.int (q : Int)), some (.lst (nI (X.row q))), some (.int one), some (.int two), ?_⟩
            · show sIf _ _ _ env1 s = _
              rw [sIf, g1, b_ok, if_pos (by simpa using p), sIf, isN, b_ok, if_neg (by decide), sSeq, g2, b_ok]
              simp only
              rw [sIf, g3, b_ok, if_neg (by simpa using c)]
              rfl
            · rw [Sx.leave, hb]
              simp only
              rw [if_neg fun z => c z.2]
              rfl
      · refine ⟨[some (.own o), some (.int (e : Int)), some (optV (Sx.leave X w e q)), some (.int (q : Int)), some (.lst (nI (X.row q))), y5, y6], s, rfl, ?_, rfl, some (.int (q : Int)), some (.lst (nI (X.row q))), y5, y6, ?_⟩
        · show sIf _ _ _ [some (.own o), some (.int (e : Int)), some (optV (Sx.leave X w e q)), some (.int (q : Int)), some (.lst (nI (X.row q))), y5, y6] s = _
          rw [sIf, g1, b_ok, if_neg (by simpa using p)]
          rfl
        · rw [Sx.leave]
          cases hb : Sx.leave X w e q with
          | none => simp only [if_neg p]
          | some l => simp only [if_neg fun z : _ ∧ _ => p z.1]) ⟨rfl, none, none, none, none, rfl⟩
  obtain ⟨rfl, y3, y4, y5, y6, rfl⟩ := b
  rw [sSeq, a, b_ok]
  simp only [List.length_map, hm]
  rfl
end Lq
end
section
set_option Elab.async false
set_option linter.all false
set_option maxRecDepth 10000
set_option exponentiation.threshold 20000
namespace Lq
open PySem PySem.Spec PyProof.Rows L2
open Sx (at0 clr comb short LT)
theorem fcomp_map' {g : XL} {ft : PV → Ev → Store → R Ev} {fe : XE} {vs : List Nat} {env : Ev} {st s1 : Store} {xs : List PV} {f : PV → PV} (hg : g env st = .ok xs s1)
    (h : ∀ x, x ∈ xs → ∃ e, ft x (wipeE env vs) s1 = .ok e s1 ∧ fe e s1 = .ok (f x) s1) : fComp g ft (fun _ st => .ok true st) fe vs env st = .ok (xs.map f) s1 := by
  rw [fComp, hg, b_ok, comp_pure (p := fun _ => true) (f := f) fun x hx => by
    obtain ⟨e, a, b⟩ := h x hx
    exact ⟨e, a, rfl, fun _ => b⟩, List.filter_eq_self.mpr fun _ _ => rfl]
  rfl
theorem fcomp_zip' {fz : XL} {fe : XE} {i j : Nat} {env : Ev} {st s1 : Store} {p q : PV} {xs ys : List Int} {f : Int → Int → Int} (hz : fz env st = .ok [p, q] s1) (hp : asVL s1 p = some (nI xs)) (hq : asVL s1 q = some (nI ys))
    (h : ∀ a b, (a, b) ∈ xs.zip ys → fe (((wipeE env [i, j]).set i (some (.int a))).set j (some (.int b))) s1 = .ok (.int (f a b)) s1) :
    fComp (iZipF fz) (gTp 2 (gsCons (gNm i) (gsCons (gNm j) gsNil))) (fun _ st => .ok true st) fe [i, j] env st = .ok (nI (List.zipWith f xs ys)) s1 := by
  have e : iZipF fz env st = .ok ((xs.zip ys).map fun q => .tup [.int q.1, .int q.2]) s1 := by
    rw [iZipF, hz, b_ok, ← pairs_ints]
    simp only [asVL_V hp, asVL_V hq]
  rw [fcomp_map' (f := fun p => match p with | .tup [.int a, .int b] => .int (f a b) | p => p) e fun x hx => by
    obtain ⟨⟨a, b⟩, hab, rfl⟩ := List.mem_map.mp hx
    exact ⟨_, rfl, h a b hab⟩, List.map_map]
  congr 1
  exact zipW f xs ys
def Keeps (ex : List Nat) (st s : Store) : Prop := st.length ≤ s.length ∧ ∀ i, i < st.length → i ∉ ex → s[i]? = st[i]?
theorem Keeps.refl (ex : List Nat) (st : Store) : Keeps ex st st := ⟨Nat.le_refl _, fun _ _ _ => rfl⟩
theorem Keeps.trans {ex : List Nat} {a b c : Store} (h : Keeps ex a b) (g : Keeps ex b c) : Keeps ex a c :=
  ⟨Nat.le_trans h.1 g.1, fun i hi hn => (g.2 i (Nat.lt_of_lt_of_le hi h.1) hn).trans (h.2 i hi hn)⟩
theorem Keeps.app (ex : List Nat) (st : Store) (cs : List Cell) : Keeps ex st (st ++ cs) := ⟨by simp, fun i hi _ => List.getElem?_append_left hi⟩
theorem Keeps.set {ex : List Nat} {st s : Store} (h : Keeps ex st s) {k : Nat} (hk : st.length ≤ k ∨ k ∈ ex) (c : Cell) : Keeps ex st (s.set k c) := by
  refine ⟨by rw [List.length_set]; exact h.1, fun i hi hn => ?_⟩
  rw [List.getElem?_set_ne (by
    intro e
    subst e
    rcases hk with a | a
    · omega
    · exact hn a), h.2 i hi hn]
theorem Keeps.eq {ex : List Nat} {st s : Store} {o r b many : Nat} {sg : List PV} {X : LT} (h : Keeps ex st s) (H : EqAt st o r b many sg X) (ho : o ∉ ex) (hr : r ∉ ex) (hb : b ∉ ex) : EqAt s o r b many sg X :=
  ⟨(h.2 o (List.getElem?_eq_some_iff.mp H.ho).1 ho).trans H.ho, (h.2 r (List.getElem?_eq_some_iff.mp H.hr).1 hr).trans H.hr, (h.2 b (List.getElem?_eq_some_iff.mp H.hb).1 hb).trans H.hb⟩
def cst (X : LT) (w : Nat) : Nat → List Int
  | 0 => List.replicate w 0
  | q + 1 => List.zipWith (fun a b => a - b) (cst X w q) (X.row q)
theorem cst_len {X : LT} {w m : Nat} (h : ∀ i, i < m → (X.row i).length = w) : ∀ q, q ≤ m → (cst X w q).length = w
  | 0, _ => by simp [cst]
  | q + 1, hq => by simp [cst, cst_len h q (by omega), h q (by omega)]
theorem cst_at {X : LT} {w m : Nat} (h : ∀ i, i < m → (X.row i).length = w) (j : Nat) : ∀ q, q ≤ m → at0 (cst X w q) j = - Sx.si q (fun i => at0 (X.row i) j)
  | 0, _ => by
    simp only [cst, Sx.si, at0]
    rw [List.getD_eq_getElem?_getD, List.getElem?_replicate]
    split <;> rfl
  | q + 1, hq => by
    have ih := cst_at h j q (by omega)
    have l1 := cst_len h q (by omega)
    have l2 := h q (by omega)
    rw [Sx.si, Int.neg_add, ← ih]
    simp only [cst, at0]
    simp only [List.getD_eq_getElem?_getD, List.getElem?_zipWith]
    by_cases w : j < (X.row q).length
    · rw [List.getElem?_eq_getElem w, List.getElem?_eq_getElem (by omega)]; simp; omega
    · rw [List.getElem?_eq_none (by omega), List.getElem?_eq_none (by omega)]; simp
def zer (c : List Int) (many : Nat) : Nat → List Int
  | 0 => c
  | q + 1 => (zer c many q).set (many + q) 0
theorem zer_len (c : List Int) (many : Nat) : ∀ q, (zer c many q).length = c.length
  | 0 => rfl
  | q + 1 => by simp [zer, zer_len c many q]
theorem at0_set (xs : List Int) (k j : Nat) (v : Int) : at0 (xs.set k v) j = if j = k ∧ k < xs.length then v else at0 xs j := by
  unfold at0
  simp only [List.getD_eq_getElem?_getD, List.getElem?_set]
  by_cases x : k = j
  · subst x
    by_cases y : k < xs.length
    · simp [y]
    · simp [y]
  · simp [x, Ne.symm x]
theorem zer_at (c : List Int) (many j : Nat) : ∀ q, many + q ≤ c.length → at0 (zer c many q) j = if many ≤ j ∧ j < many + q then 0 else at0 c j
  | 0, _ => by rw [zer, if_neg (by omega)]
  | q + 1, h => by
    rw [zer, at0_set, zer_len, zer_at c many j q (by omega)]
    by_cases x : j = many + q
    · rw [if_pos ⟨x, by omega⟩, if_pos (by omega)]
    · rw [if_neg (by omega)]
      by_cases y : many ≤ j ∧ j < many + q
      · rw [if_pos y, if_pos (by omega)]
      · rw [if_neg y, if_neg (by omega)]
def cost0 (X : LT) (many m : Nat) : List Int := (zer (cst X (many + m + 2) m) many m).set (many + m) 1
end Lq
end
section
set_option Elab.async false
set_option linter.all false
set_option maxRecDepth 10000
set_option exponentiation.threshold 20000
namespace Lq
open PySem PySem.Spec PyProof.Rows L2
open Sx (at0 clr comb short LT)
theorem set_same {st : Store} {k : Nat} {c d : Cell} (h : st[k]? = some c) : (st.set k d)[k]? = some d := by rw [st_set h, if_pos rfl]
theorem costs_ok {st : Store} {o r b many m : Nat} {sg : List PV} {X : LT} (H : EqAt st o r b many sg X) (hm : X.rows.length = m) (m6 : m ≤ 6) (hmany : many ≤ 100) (hw : ∀ i, i < m → (X.row i).length = many + m + 2) :
    ∃ k y2 y3 s, (∀ rest : XS, sSeq (sSet 1 (eOw (fMul (eFz (fDisp (aCons (eC (.int 0)) aNil))) (eBin oAdd (eBin oAdd (eFld "Equations" "many" (eVar 0)) (eCB oLen (aCons (eFld "Equations" "rows" (eVar 0)) aNil))) (eC (.int 2))))))
    (sSeq (sForC false (eFld "Equations" "rows" (eVar 0)) (gNm 2) (sSet 1 (eOw (fComp (iZipF (aCons (eFrz (eVar 1)) (aCons (eVar 2) aNil))) (gTp 2 (gsCons (gNm 8) (gsCons (gNm 9) gsNil))) (fun _ st => .ok true st) (eBin oSub (eVar 8) (eVar 9)) [8, 9]))))
    (sSeq (sFor (iRange1 (aCons (eCB oLen (aCons (eFld "Equations" "rows" (eVar 0)) aNil)) aNil)) (gNm 3) (sAsg (eC (.int 0)) (gSubL (eVar 1) (eBin oAdd (eFld "Equations" "many" (eVar 0)) (eVar 3)))))
    (sSeq (sAsg (eC (.int 1)) (gSubL (eVar 1) (eUn oNeg (eC (.int 2))))) rest))) [some (.own o), none, none, none, none, none, none, none, none, none] st
      = rest [some (.own o), some (.own k), y2, y3, none, none, none, none, none, none] s) ∧ Keeps [] st s ∧ st.length ≤ k ∧ s[k]? = some (.lst (nI (cost0 X many m))) := by
  have szl : sizeLine = 16777216 := by decide
  let w := many + m + 2
  have lenR : ∀ (s : Store) (env : Ev), EqAt s o r b many sg X → env[0]? = some (some (.own o)) → eCB oLen (aCons (eFld "Equations" "rows" (eVar 0)) aNil) env s = .ok (.int (m : Int)) s := fun s env E h => by
    rw [eCB, aCons, fld_rows E h, b_ok, aNil, b_ok, b_ok]
    simp [oLen, asS, asL, E.hr, hm]
  -- the zeros
  have z1 : sSet 1 (eOw (fMul (eFz (fDisp (aCons (eC (.int 0)) aNil))) (eBin oAdd (eBin oAdd (eFld "Equations" "many" (eVar 0)) (eCB oLen (aCons (eFld "Equations" "rows" (eVar 0)) aNil))) (eC (.int 2))))) [some (.own o), none, none, none, none, none, none, none, none, none] st
      = .ok (.nx [some (.own o), some (.own st.length), none, none, none, none, none, none, none, none]) (st ++ [.lst (nI (cst X w 0))]) := by
    have a : eFz (fDisp (aCons (eC (.int 0)) aNil)) [some (.own o), none, none, none, none, none, none, none, none, none] st = .ok (.lst [.int 0]) st := rfl
    have c : eBin oAdd (eBin oAdd (eFld "Equations" "many" (eVar 0)) (eCB oLen (aCons (eFld "Equations" "rows" (eVar 0)) aNil))) (eC (.int 2)) [some (.own o), none, none, none, none, none, none, none, none, none] st = .ok (.int ((w : Nat) : Int)) st := by
      rw [eBin, eBin, fld_many H rfl, b_ok, lenR st _ H rfl, b_ok]
      simp only [oAdd_int, b_ok, eC]
      rfl
    have d : fMul (eFz (fDisp (aCons (eC (.int 0)) aNil))) (eBin oAdd (eBin oAdd (eFld "Equations" "many" (eVar 0)) (eCB oLen (aCons (eFld "Equations" "rows" (eVar 0)) aNil))) (eC (.int 2))) [some (.own o), none, none, none, none, none, none, none, none, none] st = .ok (nI (cst X w 0)) st := by
      rw [fMul, a, b_ok, c, b_ok]
      simp only [asM]
      have : -(2 ^ 63) ≤ ((w : Nat) : Int) ∧ ((w : Nat) : Int) < 2 ^ 63 ∧ [PV.int 0].length * ((w : Nat) : Int).toNat ≤ sizeLine := by
        show -(2 ^ 63) ≤ ((many + m + 2 : Nat) : Int) ∧ ((many + m + 2 : Nat) : Int) < 2 ^ 63 ∧ 1 * ((many + m + 2 : Nat) : Int).toNat ≤ sizeLine
        omega
      rw [if_pos this]
      congr 1
      simp [cst, nI]
    rw [sSet, eOw, d]
    rfl
  -- less the rows
  let P1 : Nat → Ev → Store → Prop := fun q env s => Keeps [] st s ∧ ∃ k y2, env = [some (.own o), some (.own k), y2, none, none, none, none, none, none, none] ∧ st.length ≤ k ∧ s[k]? = some (.lst (nI (cst X w q)))
  have eqk : ∀ s, Keeps [] st s → EqAt s o r b many sg X := fun s h => h.eq H (by simp) (by simp) (by simp)
  obtain ⟨env2, s2, l2, K2, k2, y2, rfl, kk2, ck2⟩ := forC_inv (en := false) (k := r) (f := eFld "Equations" "rows" (eVar 0)) (ft := gNm 2)
    (body := sSet 1 (eOw (fComp (iZipF (aCons (eFrz (eVar 1)) (aCons (eVar 2) aNil))) (gTp 2 (gsCons (gNm 8) (gsCons (gNm 9) gsNil))) (fun _ st => .ok true st) (eBin oSub (eVar 8) (eVar 9)) [8, 9])))
    (xs := rowsV X.rows) (env := [some (.own o), some (.own st.length), none, none, none, none, none, none, none, none]) (st := st ++ [.lst (nI (cst X w 0))]) P1
    (fld_rows (eqk _ (Keeps.app [] st _)) rfl) (fun i env s hp => by rw [cellL, (eqk s hp.1).hr])
    (fun q x hx env s hp => by
      obtain ⟨K, k, y, rfl, kk, ck⟩ := hp
      have hq : q < m := by
        have := (List.getElem?_eq_some_iff.mp hx).1
        simp at this
        omega
      have : x = .lst (nI (X.row q)) := by
        rw [row_get (by omega)] at hx
        exact (Option.some.inj hx).symm
      subst this
      let env1 : Ev := [some (.own o), some (.own k), some (.lst (nI (X.row q))), none, none, none, none, none, none, none]
      let s1 := s.set k (.frz (nI (cst X w q)))
      have fr : aCons (eFrz (eVar 1)) (aCons (eVar 2) aNil) env1 s = .ok [.lst (nI (cst X w q)), .lst (nI (X.row q))] s1 := by
        have : eFrz (eVar 1) env1 s = .ok (.lst (nI (cst X w q))) s1 := by
          simp only [eFrz, env1, eVar, vS, v0, b_ok, ck]
          rfl
        rw [aCons, this]
        rfl
      refine ⟨env1, s, [some (.own o), some (.own s1.length), some (.lst (nI (X.row q))), none, none, none, none, none, none, none], s1 ++ [.lst (nI (cst X w (q + 1)))], rfl, ?_, ?_, s1.length, _, rfl, ?_, ?_⟩
      · rw [sSet, eOw, fcomp_zip' (f := fun a b => a - b) (xs := cst X w q) (ys := X.row q) fr rfl rfl fun a b _ => rfl]
        rfl
      · exact (K.set (.inl kk) _).trans (Keeps.app [] _ _)
      · show st.length ≤ (s.set k _).length
        rw [List.length_set]; exact K.1
      · rw [List.getElem?_append_right (Nat.le_refl _), Nat.sub_self]; rfl)
    ⟨Keeps.app [] st _, st.length, none, rfl, Nat.le_refl _, by rw [List.getElem?_append_right (Nat.le_refl _), Nat.sub_self]; rfl⟩
  rw [List.length_map, hm] at ck2
  -- no costs for the own unknowns
  let P2 : Nat → Ev → Store → Prop := fun q env s => Keeps [] st s ∧ ∃ y3, env = [some (.own o), some (.own k2), y2, y3, none, none, none, none, none, none] ∧ s[k2]? = some (.lst (nI (zer (cst X w m) many q)))
  have lc : (cst X w m).length = w := cst_len hw m (Nat.le_refl _)
  obtain ⟨env3, s3, l3, K3, y3, rfl, ck3⟩ := for_rng (v := 3) (n := m) (body := sAsg (eC (.int 0)) (gSubL (eVar 1) (eBin oAdd (eFld "Equations" "many" (eVar 0)) (eVar 3)))) P2 (env := [some (.own o), some (.own k2), y2, none, none, none, none, none, none, none]) (st := s2)
    (fun q hq env s hp => by
      obtain ⟨K, y, rfl, ck⟩ := hp
      let env1 : Ev := [some (.own o), some (.own k2), y2, some (.int (q : Int)), none, none, none, none, none, none]
      have i1 : eBin oAdd (eFld "Equations" "many" (eVar 0)) (eVar 3) env1 s = .ok (.int ((many + q : Nat) : Int)) s := by
        rw [eBin, fld_many (eqk s K) rfl, b_ok]
        simp only [env1, eVar, vS, v0, b_ok, oAdd_int]
        rfl
      have g := gSub_own (p := .int 0) (fo := eVar 1) (rfl : eVar 1 env1 s = .ok (.own k2) s) i1 ck (by simp [zer_len, lc]; omega)
      refine ⟨env1, _, ?_, K.set (.inl kk2) _, _, rfl, set_same ck⟩
      · show sAsg _ _ env1 s = _
        rw [sAsg, eC, b_ok, g, b_ok]
        have : (nI (zer (cst X w m) many q)).set (many + q) (.int 0) = nI (zer (cst X w m) many (q + 1)) := by
          rw [zer, nI, nI, List.map_set]
        rw [this])
    ⟨K2, none, rfl, ck2⟩
  have i2 : eUn oNeg (eC (.int 2)) [some (.own o), some (.own k2), y2, y3, none, none, none, none, none, none] s3 = .ok (.int (-2)) s3 := rfl
  have ix2 : ixN (nI (zer (cst X w m) many m)).length (-2) = some (many + m) := by
    unfold ixN
    simp [zer_len, lc]
    show _ ∧ _
    have : w = many + m + 2 := rfl
    omega
  have l4 : sAsg (eC (.int 1)) (gSubL (eVar 1) (eUn oNeg (eC (.int 2)))) [some (.own o), some (.own k2), y2, y3, none, none, none, none, none, none] s3 = .ok (.nx [some (.own o), some (.own k2), y2, y3, none, none, none, none, none, none]) (s3.set k2 (.lst (nI (cost0 X many m)))) := by
    rw [sAsg, eC, b_ok, gSubL]
    simp only [eVar, vS, v0, b_ok, i2, ck3, ix2]
    have : (nI (zer (cst X w m) many m)).set (many + m) (.int 1) = nI (cost0 X many m) := by
      rw [cost0, nI, nI, List.map_set]
    rw [this]
  have rg : iRange1 (aCons (eCB oLen (aCons (eFld "Equations" "rows" (eVar 0)) aNil)) aNil) [some (.own o), some (.own k2), y2, none, none, none, none, none, none, none] s2 = .ok (rng 0 m) s2 := by
    rw [iRange1, aCons, lenR s2 _ (eqk s2 K2) rfl, b_ok, aNil, b_ok, b_ok]
    have ok : okR (m : Int) = true ∧ (m : Int).toNat ≤ sizeLine := by
      unfold okR
      simp
      omega
    simp only [if_pos ok]
    simp
  refine ⟨k2, y2, y3, s3.set k2 (.lst (nI (cost0 X many m))), fun rest => ?_, K3.set (.inl kk2) _, kk2, set_same ck3⟩
  rw [sSeq, z1, b_ok]
  simp only
  rw [sSeq, l2, b_ok]
  simp only
  rw [sSeq, sFor, rg, b_ok, l3, b_ok]
  simp only
  rw [sSeq, l4, b_ok]
end Lq
end
section
set_option Elab.async false
set_option linter.all false
set_option maxRecDepth 10000
set_option exponentiation.threshold 20000
namespace Lq
open PySem PySem.Spec PyProof.Rows L2
open Sx (at0 clr comb short LT)
def CostV (lo : Nat) (s : Store) (cv : PV) (cs : List Int) : Prop := (∃ k, cv = .own k ∧ lo ≤ k ∧ s[k]? = some (.lst (nI cs))) ∨ cv = .lst (nI cs)
theorem CostV.ix {lo : Nat} {s : Store} {cv : PV} {cs : List Int} (h : CostV lo s cv cs) {j : Nat} (hj : j < cs.length) : oIx cv (.int (j : Int)) s = some (.int (at0 cs j)) := by
  rcases h with ⟨k, rfl, _, hk⟩ | rfl
  · refine ixOwn hk ?_
    rw [List.getElem?_map, List.getElem?_eq_getElem hj]
    simp [at0, hj]
  · exact ixL s hj
theorem neg_ok {lo : Nat} {s : Store} {o r b many : Nat} {sg : List PV} {X Y : LT} (H : EqAt s o r b many sg X) {env : Ev} {cv : PV} (h0 : env[0]? = some (some (.own o))) (h1 : env[1]? = some (some cv)) (h7 : 7 < env.length)
    (hc : CostV lo s cv Y.costs) (hl : many ≤ Y.costs.length) (hm : many ≤ 100) :
    eFz (fComp (iRange1 (aCons (eFld "Equations" "many" (eVar 0)) aNil)) (gNm 7) (tE (eBin oLt (eBin oIx (eVar 1) (eVar 7)) (eC (.int 0)))) (eVar 7) [7]) env s = .ok (.lst (natsV (Sx.neg many Y))) s := by
  have rg : iRange1 (aCons (eFld "Equations" "many" (eVar 0)) aNil) env s = .ok (rng 0 many) s := by
    rw [iRange1, aCons, fld_many H h0, b_ok, aNil, b_ok, b_ok]
    have szl : sizeLine = 16777216 := by decide
    have ok : okR (many : Int) = true ∧ (many : Int).toNat ≤ sizeLine := by
      unfold okR
      simp
      omega
    simp only [if_pos ok]
    simp
  rw [eFz, fcomp_pure (p := fun x => match x with | .int j => decide (at0 Y.costs j.toNat < 0) | _ => false) (f := fun x => x) rg fun x hx => by
    obtain ⟨i, hi⟩ := List.mem_iff_getElem?.mp hx
    obtain ⟨hi, rfl⟩ := rng_at hi
    refine ⟨(wipeE env [7]).set 7 (some (.int (i : Int))), rfl, ?_, fun _ => ?_⟩
    · have e1 : ((wipeE env [7]).set 7 (some (.int (i : Int))))[1]? = some (some cv) := by simp [wipeE, h1]
      have e7 : ((wipeE env [7]).set 7 (some (.int (i : Int))))[7]? = some (some (.int (i : Int))) := by simp [wipeE, h7]
      simp only [tE, toB, eBin, eVar, eC, e1, e7, b_ok, hc.ix (show i < Y.costs.length by omega), oLt_int]
      simp
    · have e7 : ((wipeE env [7]).set 7 (some (.int (i : Int))))[7]? = some (some (.int (i : Int))) := by simp [wipeE, h7]
      simp only [eVar, e7], b_ok]
  congr 2
  rw [List.map_id', rng, List.filter_map]
  unfold natsV Sx.neg
  have : ((fun x : PV => match x with | .int j => decide (at0 Y.costs j.toNat < 0) | _ => false) ∘ fun (k : Nat) => PV.int (0 + (k : Int))) = fun j : Nat => decide (at0 Y.costs j < 0) := by
    funext k
    simp
  rw [this]
  simp
end Lq
end
section
set_option Elab.async false
set_option linter.all false
set_option maxRecDepth 10000
set_option exponentiation.threshold 20000
namespace Lq
open PySem PySem.Spec PyProof.Rows L2
open Sx (at0 clr comb short LT)
def wBody : XS := sSeq (sSet 1 (eMeth "Equations" "turn" 4 p_Equations_turn (eVar 0) (aCons (eFrz (eVar 1)) (aCons (eMeth "Equations" "leaving" 2 p_Equations_leaving (eVar 0) (aCons (eBin oIx (eVar 4) (eC (.int 0))) aNil)) (aCons (eBin oIx (eVar 4) (eC (.int 0))) aNil)))))
    (sSet 4 (eFz (fComp (iRange1 (aCons (eFld "Equations" "many" (eVar 0)) aNil)) (gNm 7) (tE (eBin oLt (eBin oIx (eVar 1) (eVar 7)) (eC (.int 0)))) (eVar 7) [7])))
def wEnv (o : Nat) (cv : PV) (y2 y3 : Option PV) (ng : List Nat) : Ev := [some (.own o), some cv, y2, y3, some (.lst (natsV ng)), none, none, none, none, none]
structure WSt (st : Store) (o r b many m n : Nat) (sg : List PV) (R : Nat → Nat → Int) (C0 : Nat → Int) (Y : LT) (cv : PV) (s : Store) : Prop where
  ok : Sx.OK m n many R C0 Y
  eq : EqAt s o r b many sg Y
  keeps : Keeps [r, b] st s
  cost : CostV st.length s cv Y.costs
theorem wstep {st : Store} {o r b many m n : Nat} {sg : List PV} {R : Nat → Nat → Int} {C0 : Nat → Int} {Y : LT} {cv : PV} {s : Store} {y2 y3 : Option PV} (O : Sx.Orig m n many R C0) (W : WSt st o r b many m n sg R C0 Y cv s) (rb : r ≠ b)
    (oL : o < st.length) (rL : r < st.length) (bL : b < st.length) (hmany : many ≤ 100) (hn : Sx.neg many Y ≠ []) :
    ∃ cv' s', wBody (wEnv o cv y2 y3 (Sx.neg many Y)) s = .ok (.nx (wEnv o cv' y2 y3 (Sx.neg many (Sx.nxt m n many Y)))) s' ∧ WSt st o r b many m n sg R C0 (Sx.nxt m n many Y) cv' s' := by
  have nm := O.nm
  have m6 := O.m6
  obtain ⟨e, l, rest, h1, h2, h3, h4, h5, h6⟩ := Sx.nxt_ok (show many ≤ n by omega) W.ok hn
  have he : e < many := (Sx.filter_head h1).1
  have ob := W.eq.ne
  have wid : ∀ i, i < m → (Y.row i).length = n + 2 := W.ok.rw
  have big : (42 * 2 ^ 240 : Nat) < 2 ^ 400 := by decide
  have mem : ∀ {xs : List Int} {x : Int}, x ∈ xs → ∃ j, at0 xs j = x := fun {xs x} hx => by
    obtain ⟨j, hj, rfl⟩ := List.mem_iff_getElem.mp hx
    exact ⟨j, by simp [at0, hj]⟩
  have S1 : ∀ i, i < m → ∀ x, x ∈ Y.row i → x.natAbs < 2 ^ 400 := fun i hi x hx => by
    obtain ⟨j, rfl⟩ := mem hx
    have := Sx.row_small O W.ok.inv W.ok.lin hi (W.ok.pr i hi) j
    have : (at0 (Y.row i) j).natAbs ≤ 6 * 2 ^ 240 := this
    omega
  have S2 : ∀ x, x ∈ Y.costs → x.natAbs < 2 ^ 400 := fun x hx => by
    obtain ⟨j, rfl⟩ := mem hx
    have := Sx.cost_small O W.ok.inv W.ok.lin W.ok.pc j
    have : (at0 Y.costs j).natAbs ≤ 42 * 2 ^ 240 := this
    omega
  -- the costs are handed over
  obtain ⟨s1, fr, K1, eq1⟩ : ∃ s1, eFrz (eVar 1) (wEnv o cv y2 y3 (Sx.neg many Y)) s = .ok (.lst (nI Y.costs)) s1 ∧ Keeps [r, b] st s1 ∧ EqAt s1 o r b many sg Y := by
    rcases W.cost with ⟨k, rfl, hk, ck⟩ | rfl
    · refine ⟨s.set k (.frz (nI Y.costs)), ?_, W.keeps.set (.inl hk) _, ?_⟩
      · simp only [eFrz, wEnv, eVar, vS, v0, b_ok, ck]
      · refine ⟨?_, ?_, ?_⟩
        · rw [st_set ck, if_neg (by omega)]; exact W.eq.ho
        · rw [st_set ck, if_neg (by omega)]; exact W.eq.hr
        · rw [st_set ck, if_neg (by omega)]; exact W.eq.hb
    · exact ⟨s, rfl, W.keeps, W.eq⟩
  have ix0 : ∀ s, eBin oIx (eVar 4) (eC (.int 0)) (wEnv o cv y2 y3 (Sx.neg many Y)) s = .ok (.int (e : Int)) s := fun s => by
    have : oIx (.lst (natsV (e :: rest))) (.int 0) s = some (.int (e : Int)) := by
      simp only [oIx, asS, asL]
      exact atI_nat (i := 0) rfl
    rw [h1]
    simp only [eBin, eVar, eC, wEnv, vS, v0, b_ok, this]
  have lv : eMeth "Equations" "leaving" 2 p_Equations_leaving (eVar 0) (aCons (eBin oIx (eVar 4) (eC (.int 0))) aNil) (wEnv o cv y2 y3 (Sx.neg many Y)) s1 = .ok (.int (l : Int)) s1 := by
    have v : eVar 0 (wEnv o cv y2 y3 (Sx.neg many Y)) s1 = .ok (.own o) s1 := rfl
    rw [eMeth, v, b_ok]
    simp only [eq1.ho]
    rw [if_pos ⟨trivial, by rfl⟩, aCons, ix0, b_ok, aNil, b_ok, b_ok]
    show (if [PV.int (e : Int)].length + 1 = 2 then p_Equations_leaving [.own o, .int (e : Int)] s1 else .no) = _
    rw [if_pos (by rfl), leaving_ok (w := n + 1) eq1 W.ok.rl W.ok.bl wid (by omega) S1, h2]
    rfl
  have tn : eMeth "Equations" "turn" 4 p_Equations_turn (eVar 0) (aCons (eFrz (eVar 1)) (aCons (eMeth "Equations" "leaving" 2 p_Equations_leaving (eVar 0) (aCons (eBin oIx (eVar 4) (eC (.int 0))) aNil)) (aCons (eBin oIx (eVar 4) (eC (.int 0))) aNil))) (wEnv o cv y2 y3 (Sx.neg many Y)) s
      = .ok (.lst (nI (clr Y.costs (Y.row l) e))) ((s1.set r (.lst (rowsV (Sx.turn m Y l e).rows))).set b (.lst (natsV (Y.basis.set l e)))) := by
    have v : eVar 0 (wEnv o cv y2 y3 (Sx.neg many Y)) s = .ok (.own o) s := rfl
    rw [eMeth, v, b_ok]
    simp only [W.eq.ho]
    rw [if_pos ⟨trivial, by rfl⟩, aCons, fr, b_ok, aCons, lv, b_ok, aCons, ix0, b_ok, aNil, b_ok, b_ok, b_ok, b_ok]
    show (if [PV.lst (nI Y.costs), PV.int (l : Int), PV.int (e : Int)].length + 1 = 4 then p_Equations_turn [.own o, .lst (nI Y.costs), .int (l : Int), .int (e : Int)] s1 else .no) = _
    rw [if_pos (by rfl), turn_ok eq1 rb W.ok.rl W.ok.bl m6 wid W.ok.cl h3 (by omega) ⟨S1, S2⟩]
  let s2 := (s1.set r (.lst (rowsV (Sx.turn m Y l e).rows))).set b (.lst (natsV (Y.basis.set l e)))
  have cr : (s1.set r (.lst (rowsV (Sx.turn m Y l e).rows)))[b]? = some (.lst (natsV Y.basis)) := by
    rw [st_set eq1.hr, if_neg (Ne.symm rb)]; exact eq1.hb
  have eq2 : EqAt s2 o r b many sg (Sx.nxt m n many Y) := by
    rw [h4]
    refine ⟨?_, ?_, ?_⟩
    · rw [st_set cr, if_neg ob.2, st_set eq1.hr, if_neg ob.1]; exact eq1.ho
    · rw [st_set cr, if_neg rb, st_set eq1.hr, if_pos rfl]
    · rw [st_set cr, if_pos rfl]; rfl
  refine ⟨.lst (nI (clr Y.costs (Y.row l) e)), s2, ?_, h5, eq2, (K1.set (.inr (by simp)) _).set (.inr (by simp)) _, .inr (by rw [h4]; rfl)⟩
  rw [wBody, sSeq, sSet, tn, b_ok, b_ok]
  simp only
  rw [sSet, neg_ok (lo := 0) (Y := Sx.nxt m n many Y) (cv := .lst (nI (clr Y.costs (Y.row l) e))) eq2 rfl rfl (by simp [wEnv]) (.inr (by rw [h4]; rfl)) (by rw [h5.cl]; omega) hmany]
  rfl
theorem its_shift (m n many : Nat) (Y : LT) : ∀ p, Sx.its m n many Y (p + 1) = Sx.its m n many (Sx.nxt m n many Y) p
  | 0 => rfl
  | p + 1 => by
    show Sx.nxt m n many (Sx.its m n many Y (p + 1)) = Sx.nxt m n many (Sx.its m n many (Sx.nxt m n many Y) p)
    rw [its_shift m n many Y p]
theorem oNe_nil (ng : List Nat) (s : Store) : oNe (.lst (natsV ng)) (.lst []) s = some (.bl (!ng.isEmpty)) := by
  have a : natsV ng = (ng.map fun k : Nat => (k : Int)).map PV.int := by simp [natsV]
  have a1 : dChk (.lst (natsV ng)) = true := by
    rw [a]; unfold dChk; rw [dOk, noScr, dOks_ints, noScrs_ints]; rfl
  unfold oNe
  simp only [rsv, a1, show dChk (.lst []) = true from rfl, Bool.and_self, if_true]
  cases ng <;> simp [peq, peqs, natsV]
theorem wloop {st : Store} {o r b many m n : Nat} {sg : List PV} {R : Nat → Nat → Int} {C0 : Nat → Int} {y2 y3 : Option PV} (O : Sx.Orig m n many R C0) (rb : r ≠ b) (oL : o < st.length) (rL : r < st.length) (bL : b < st.length) (hmany : many ≤ 100) :
    ∀ (p f : Nat) (Y : LT) (cv : PV) (s : Store), p < f → WSt st o r b many m n sg R C0 Y cv s → Sx.neg many (Sx.its m n many Y p) = [] → (∀ q, q < p → Sx.neg many (Sx.its m n many Y q) ≠ []) →
    ∃ cv' s', sWhile (tE (eBin oNe (eVar 4) (eFz (fDisp aNil)))) wBody f (wEnv o cv y2 y3 (Sx.neg many Y)) s = .ok (.nx (wEnv o cv' y2 y3 [])) s' ∧ WSt st o r b many m n sg R C0 (Sx.its m n many Y p) cv' s'
  | p, f + 1, Y, cv, s, hf, W, h0, hq => by
    have c : tE (eBin oNe (eVar 4) (eFz (fDisp aNil))) (wEnv o cv y2 y3 (Sx.neg many Y)) s = .ok (!(Sx.neg many Y).isEmpty) s := by
      have v : eVar 4 (wEnv o cv y2 y3 (Sx.neg many Y)) s = .ok (.lst (natsV (Sx.neg many Y))) s := rfl
      have v2 : eFz (fDisp aNil) (wEnv o cv y2 y3 (Sx.neg many Y)) s = .ok (.lst []) s := rfl
      rw [tE, toB, eBin, v, b_ok, v2, b_ok, oNe_nil]
      rfl
    rw [sWhile]
    simp only [c, b_ok]
    cases p with
    | zero =>
      have h0 : Sx.neg many Y = [] := h0
      rw [h0]
      exact ⟨cv, s, rfl, W⟩
    | succ p =>
      have hn : Sx.neg many Y ≠ [] := hq 0 (by omega)
      rw [if_pos (by cases h : Sx.neg many Y with
        | nil => exact absurd h hn
        | cons _ _ => rfl)]
      obtain ⟨cv1, s1, a, W1⟩ := wstep (y2 := y2) (y3 := y3) O W rb oL rL bL hmany hn
      rw [a, b_ok]
      simp only
      rw [its_shift] at h0 ⊢
      exact wloop O rb oL rL bL hmany p f _ cv1 s1 (by omega) W1 h0 fun q hh => by
        rw [← its_shift]; exact hq (q + 1) (by omega)
end Lq
end
section
set_option Elab.async false
set_option linter.all false
set_option maxRecDepth 10000
namespace Lq
open PySem PySem.Spec PyProof.Rows L2
def Ok {α : Type} (r : R α) (P : α → Store → Prop) : Prop := ∃ a s, r = .ok a s ∧ P a s
section
variable {α β : Type} {r : R α} {k : α → Store → R β} {P Q : α → Store → Prop} {T : β → Store → Prop} {a : α} {s : Store}
theorem ok_ok : Ok (R.ok a s) P ↔ P a s := ⟨fun ⟨_, _, e, h⟩ => (by cases e; exact h), fun h => ⟨a, s, rfl, h⟩⟩
theorem ok_no : Ok (R.no : R α) P ↔ False := ⟨fun ⟨_, _, e, _⟩ => (by cases e), False.elim⟩
theorem ok_bind : Ok (r.bind k) T ↔ Ok r (fun a s => Ok (k a s) T) := by
  cases r with
  | ok a s => rw [b_ok, ok_ok]
  | ex c s => exact ⟨fun ⟨_, _, e, _⟩ => (by cases e), fun ⟨_, _, e, _⟩ => (by cases e)⟩
  | no => exact ⟨fun ⟨_, _, e, _⟩ => (by cases e), fun ⟨_, _, e, _⟩ => (by cases e)⟩
theorem Ok.mono (h : Ok r P) (f : ∀ a s, P a s → Q a s) : Ok r Q := let ⟨a, s, e, p⟩ := h; ⟨a, s, e, f a s p⟩
theorem Ok.of (e : r = .ok a s) (h : P a s) : Ok r P := ⟨a, s, e, h⟩
theorem Ok.eq (e : r = .ok a s) : Ok r P ↔ P a s := by rw [e]; exact ok_ok
theorem ok_noX : Ok (noX r) P ↔ Ok r P := by
  cases r with
  | ok a s => exact Iff.rfl
  | ex c s => exact ⟨fun ⟨_, _, e, _⟩ => (by cases e), fun ⟨_, _, e, _⟩ => (by cases e)⟩
  | no => exact Iff.rfl
theorem ok_ite {c : Prop} [Decidable c] {r' : R α} : Ok (if c then r else r') P ↔ (if c then Ok r P else Ok r' P) := by split <;> exact Iff.rfl
end
def Op (o : Option PV) (P : PV → Prop) : Prop := ∃ z, o = some z ∧ P z
theorem op_some {z : PV} {P : PV → Prop} : Op (some z) P ↔ P z := ⟨fun ⟨_, e, h⟩ => (by cases e; exact h), fun h => ⟨z, rfl, h⟩⟩
theorem op_none {P : PV → Prop} : Op none P ↔ False := ⟨fun ⟨_, e, _⟩ => (by cases e), False.elim⟩
theorem Op.of {o : Option PV} {z : PV} {P : PV → Prop} (e : o = some z) (h : P z) : Op o P := ⟨z, e, h⟩
def frzK (T : PV → Store → Prop) : PV → Store → Prop
  | .own k, s => (match s[k]? with
    | some (.lst xs) => T (.lst xs) (s.set k (.frz xs))
    | some (.frz xs) => T (.lst xs) s
    | _ => False)
  | .lst xs, s => T (.lst xs) s
  | .tup xs, s => T (.tup xs) s
  | _, _ => False
theorem frzK_own {T : PV → Store → Prop} {k : Nat} {s : Store} : frzK T (.own k) s ↔ (match s[k]? with
    | some (.lst xs) => T (.lst xs) (s.set k (.frz xs))
    | some (.frz xs) => T (.lst xs) s
    | _ => False) := Iff.rfl
theorem frzK_lst {T : PV → Store → Prop} {xs : List PV} {s : Store} : frzK T (.lst xs) s ↔ T (.lst xs) s := Iff.rfl
theorem frzK_tup {T : PV → Store → Prop} {xs : List PV} {s : Store} : frzK T (.tup xs) s ↔ T (.tup xs) s := Iff.rfl
def nxK (b : XS) (P : Fl → Store → Prop) : Fl → Store → Prop
  | .nx e, s => Ok (b e s) P
  | fl, s => P fl s
section
variable {env : Ev} {st s : Store} {P : Fl → Store → Prop} {T : PV → Store → Prop} {B : Bool → Store → Prop} {L : List PV → Store → Prop} {a b : XS} {f g h : XE} {c d : Ev → Store → R Bool} {al : XL}
theorem nxK_nx {e : Ev} : nxK b P (.nx e) s ↔ Ok (b e s) P := Iff.rfl
theorem nxK_rt {v : PV} : nxK b P (.rt v) s ↔ P (.rt v) s := Iff.rfl
theorem ok_seq : Ok (sSeq a b env st) P ↔ Ok (a env st) (nxK b P) := by
  rw [sSeq, ok_bind]
  constructor
  · exact fun h => h.mono fun fl s h => by cases fl <;> first | exact h | exact (ok_ok (P := P)).mp h
  · exact fun h => h.mono fun fl s h => by cases fl <;> first | exact h | exact (ok_ok (P := P)).mpr h
theorem ok_nil : Ok (sNil env st) P ↔ P (.nx env) st := ok_ok
theorem ok_set {i : Nat} : Ok (sSet i f env st) P ↔ Ok (f env st) fun v s => P (.nx (env.set i (some v))) s := by
  rw [sSet, ok_bind]; simp only [ok_ok]
theorem ok_asg {t : PV → Ev → Store → R Ev} : Ok (sAsg f t env st) P ↔ Ok (f env st) fun v s => Ok (t v env s) fun e s2 => P (.nx e) s2 := by
  rw [sAsg, ok_bind]; simp only [ok_bind, ok_ok]
theorem ok_drop : Ok (sDrop f env st) P ↔ Ok (f env st) fun _ s => P (.nx env) s := by rw [sDrop, ok_bind]; simp only [ok_ok]
theorem ok_ret : Ok (sRet f env st) P ↔ Ok (f env st) fun v s => P (.rt v) s := by rw [sRet, ok_bind]; simp only [ok_ok]
theorem ok_if : Ok (sIf c a b env st) P ↔ Ok (c env st) fun k s => if k = true then Ok (a env s) P else Ok (b env s) P := by
  rw [sIf, ok_bind]; simp only [ok_ite]
theorem ok_par {i j : Nat} : Ok (sPar i j al env st) P ↔ Ok (al env st) fun vs s => match vs with | [v, w] => P (.nx ((env.set i (some v)).set j (some w))) s | _ => False := by
  rw [sPar, ok_bind]
  constructor <;> exact fun h => h.mono fun vs s h => by
    match vs, h with
    | [v, w], h => first | exact ok_ok.mp h | exact ok_ok.mpr h
theorem ok_par3 {i j l : Nat} : Ok (sPar3 i j l al env st) P ↔ Ok (al env st) fun vs s => match vs with | [v, w, u] => P (.nx (((env.set i (some v)).set j (some w)).set l (some u))) s | _ => False := by
  rw [sPar3, ok_bind]
  constructor <;> exact fun h => h.mono fun vs s h => by
    match vs, h with
    | [v, w, u], h => first | exact ok_ok.mp h | exact ok_ok.mpr h
theorem ok_retF : Ok (Lq.ret r) T ↔ Ok r fun fl s => match fl with | .rt v => T v s | .nx _ => T .non s | _ => False := by
  rw [Lq.ret, ok_bind]
  constructor <;> exact fun h => h.mono fun fl s h => by
    cases fl <;> first | exact ok_ok.mp h | exact ok_ok.mpr h | exact (ok_no.mp h) | exact h.elim
theorem ok_var {i : Nat} : Ok (eVar i env st) T ↔ ∃ v, env[i]? = some (some v) ∧ T v st := by
  unfold eVar
  constructor
  · intro h
    split at h
    · rename_i v e; exact ⟨v, e, ok_ok.mp h⟩
    · exact (ok_no.mp h).elim
  · rintro ⟨v, e, h⟩
    rw [e]; exact ok_ok.mpr h
theorem ok_C {v : PV} : Ok (eC v env st) T ↔ T v st := ok_ok
theorem ok_bin {o : PV → PV → Store → Option PV} : Ok (eBin o f g env st) T ↔ Ok (f env st) fun x s1 => Ok (g env s1) fun y s2 => Op (o x y s2) fun z => T z s2 := by
  rw [eBin, ok_bind]
  constructor <;> exact fun h => h.mono fun x s1 h => by
    rw [ok_bind] at *
    exact h.mono fun y s2 h => by cases e : o x y s2 <;> simp only [e, op_some, op_none, ok_ok, ok_no] at h ⊢ <;> exact h
theorem ok_un {o : PV → Option PV} : Ok (eUn o f env st) T ↔ Ok (f env st) fun x s1 => Op (o x) fun z => T z s1 := by
  rw [eUn, ok_bind]
  constructor <;> exact fun h => h.mono fun x s1 h => by cases e : o x <;> simp only [e, op_some, op_none, ok_ok, ok_no] at h ⊢ <;> exact h
theorem ok_aNil : Ok (aNil env st) L ↔ L [] st := ok_ok
theorem ok_aCons : Ok (aCons f al env st) L ↔ Ok (f env st) fun x s1 => Ok (al env s1) fun xs s2 => L (x :: xs) s2 := by
  rw [aCons, ok_bind]; simp only [ok_bind, ok_ok]
theorem ok_tup : Ok (eTup al env st) T ↔ Ok (al env st) fun xs s => xs.length ≤ sizeLine ∧ T (.tup xs) s := by
  rw [eTup, ok_bind]
  constructor <;> exact fun h => h.mono fun xs s h => by
    first
      | (split at h
         · exact ⟨by assumption, ok_ok.mp h⟩
         · exact (ok_no.mp h).elim)
      | (rw [if_pos h.1]; exact ok_ok.mpr h.2)
theorem ok_disp : Ok (fDisp al env st) L ↔ Ok (al env st) fun xs s => xs.length ≤ sizeLine ∧ L xs s := by
  rw [fDisp, ok_bind]
  constructor <;> exact fun h => h.mono fun xs s h => by
    first
      | (split at h
         · exact ⟨by assumption, ok_ok.mp h⟩
         · exact (ok_no.mp h).elim)
      | (rw [if_pos h.1]; exact ok_ok.mpr h.2)
theorem ok_fz : Ok (eFz al env st) T ↔ Ok (al env st) fun xs s => T (.lst xs) s := by rw [eFz, ok_bind]; simp only [ok_ok]
theorem ok_ow : Ok (eOw al env st) T ↔ Ok (al env st) fun xs s => T (.own s.length) (s ++ [.lst xs]) := by rw [eOw, ok_bind]; simp only [ok_ok]
theorem ok_call {n : Nat} {fn : Fn} : Ok (eCall n fn al env st) T ↔ Ok (al env st) fun xs s => xs.length = n ∧ Ok (fn xs s) T := by
  rw [eCall, ok_bind]
  constructor <;> exact fun h => h.mono fun xs s h => by
    first
      | (split at h
         · exact ⟨by assumption, h⟩
         · exact (ok_no.mp h).elim)
      | (rw [if_pos h.1]; exact h.2)
theorem ok_cb {o : List PV → Store → Option PV} : Ok (eCB o al env st) T ↔ Ok (al env st) fun xs s => Op (o xs s) fun z => T z s := by
  rw [eCB, ok_bind]
  constructor <;> exact fun h => h.mono fun xs s1 h => by cases e : o xs s1 <;> simp only [e, op_some, op_none, ok_ok, ok_no] at h ⊢ <;> exact h
theorem ok_toB {r : R PV} : Ok (toB r) B ↔ Ok r fun v s => match v with | .bl b => B b s | _ => False := by
  rw [toB, ok_bind]
  constructor <;> exact fun h => h.mono fun v s h => by
    cases v <;> first | exact ok_ok.mp h | exact ok_ok.mpr h | exact (ok_no.mp h) | exact h.elim
theorem ok_tE : Ok (tE f env st) B ↔ Ok (f env st) fun v s => match v with | .bl b => B b s | _ => False := ok_toB
theorem ok_tAnd : Ok (tAndF c d env st) B ↔ Ok (c env st) fun k s => if k = true then Ok (d env s) B else B false s := by
  rw [tAndF, ok_bind]; simp only [ok_ite, ok_ok]
theorem ok_tOr : Ok (tOrF c d env st) B ↔ Ok (c env st) fun k s => if k = true then B true s else Ok (d env s) B := by
  rw [tOrF, ok_bind]; simp only [ok_ite, ok_ok]
theorem ok_tNot : Ok (tNotF c env st) B ↔ Ok (c env st) fun k s => B (!k) s := by rw [tNotF, ok_bind]; simp only [ok_ok]
theorem ok_eIf : Ok (eIf c f g env st) T ↔ Ok (c env st) fun k s => if k = true then Ok (f env s) T else Ok (g env s) T := by
  rw [eIf, ok_bind]; simp only [ok_ite]
theorem ok_eAnd : Ok (eAnd f g env st) T ↔ Ok (f env st) fun v s => match v with | .bl b => if b = true then Ok (g env s) T else T (.bl false) s | _ => False := by
  rw [eAnd, ok_bind]
  constructor <;> exact fun h => h.mono fun v s h => by
    cases v with
    | bl b => cases b <;> first | exact h | exact ok_ok.mp h | exact ok_ok.mpr h
    | _ => first | exact ok_no.mp h | exact h.elim
theorem ok_eOr : Ok (eOr f g env st) T ↔ Ok (f env st) fun v s => match v with | .bl b => if b = true then T (.bl true) s else Ok (g env s) T | _ => False := by
  rw [eOr, ok_bind]
  constructor <;> exact fun h => h.mono fun v s h => by
    cases v with
    | bl b => cases b <;> first | exact h | exact ok_ok.mp h | exact ok_ok.mpr h
    | _ => first | exact ok_no.mp h | exact h.elim
theorem ok_eNot : Ok (eNot f env st) T ↔ Ok (f env st) fun v s => match v with | .bl b => T (.bl (!b)) s | _ => False := by
  rw [eNot, ok_bind]
  constructor <;> exact fun h => h.mono fun v s h => by
    cases v <;> first | exact ok_ok.mp h | exact ok_ok.mpr h | exact (ok_no.mp h) | exact h.elim
theorem ok_chain {o o' : PV → PV → Store → Option PV} : Ok (eChain o o' f g h env st) T ↔ Ok (f env st) fun x s1 => Ok (g env s1) fun y s2 => Op (o x y s2) fun z => match z with
    | .bl b => if b = true then Ok (h env s2) fun w s3 => Op (o' y w s3) fun u => T u s3 else T (.bl false) s2
    | _ => False := by
  rw [eChain, ok_bind]
  constructor <;> exact fun q => q.mono fun x s1 q => by
    rw [ok_bind] at *
    exact q.mono fun y s2 q => by
      cases e : o x y s2 with
      | none => simp only [e] at q; first | exact (ok_no.mp q).elim | exact (by obtain ⟨_, e, _⟩ := q; cases e)
      | some z =>
        simp only [e, op_some] at q ⊢
        cases z with
        | bl b =>
          cases b
          · first | exact ok_ok.mp q | exact ok_ok.mpr q
          · simp only [if_true, ok_bind] at q ⊢
            exact q.mono fun w s3 q => by cases e2 : o' y w s3 <;> simp only [e2, op_some, op_none, ok_ok, ok_no] at q ⊢ <;> exact q
        | _ => first | exact (ok_no.mp q).elim | exact q.elim
theorem ok_iVal : Ok (iVal f env st) L ↔ Ok (f env st) fun p s => ∃ xs, asV s p = some xs ∧ L xs s := by
  rw [iVal, ok_bind]
  constructor <;> exact fun h => h.mono fun p s h => by
    first
      | (split at h
         · rename_i xs e; exact ⟨xs, e, ok_ok.mp h⟩
         · exact (ok_no.mp h).elim)
      | (obtain ⟨xs, e, h⟩ := h; rw [e]; exact ok_ok.mpr h)
theorem ok_range1 : Ok (iRange1 al env st) L ↔ Ok (al env st) fun vs s => match vs with | [.int j] => (okR j = true ∧ j.toNat ≤ sizeLine) ∧ L (rng 0 j.toNat) s | _ => False := by
  rw [iRange1, ok_bind]
  constructor <;> exact fun h => h.mono fun vs s h => by
    split at h
    · first
      | (split at h
         · exact ⟨by assumption, ok_ok.mp h⟩
         · exact (ok_no.mp h).elim)
      | (simp only [if_pos h.1]; exact ok_ok.mpr h.2)
    · first | exact (ok_no.mp h).elim | exact h.elim
theorem ok_range2 : Ok (iRange2 al env st) L ↔ Ok (al env st) fun vs s => match vs with | [.int i, .int j] => (okR i = true ∧ okR j = true ∧ (j - i).toNat ≤ sizeLine) ∧ L (rng i (j - i).toNat) s | _ => False := by
  rw [iRange2, ok_bind]
  constructor <;> exact fun h => h.mono fun vs s h => by
    split at h
    · first
      | (split at h
         · exact ⟨by assumption, ok_ok.mp h⟩
         · exact (ok_no.mp h).elim)
      | (simp only [if_pos h.1]; exact ok_ok.mpr h.2)
    · first | exact (ok_no.mp h).elim | exact h.elim
theorem ok_for {ft : PV → Ev → Store → R Ev} {gl : XL} : Ok (sFor gl ft a env st) P ↔ Ok (gl env st) fun xs s => Ok (loopV ft a xs env s) P := by rw [sFor, ok_bind]
theorem ok_gNm {i : Nat} {p : PV} {E : Ev → Store → Prop} : Ok (gNm i p env st) E ↔ E (env.set i (some p)) st := ok_ok
theorem ok_gTp {n : Nat} {gs : List PV → Ev → Store → R Ev} {xs : List PV} {E : Ev → Store → Prop} : Ok (gTp n gs (.tup xs) env st) E ↔ xs.length = n ∧ Ok (gs xs env st) E := by
  simp only [gTp]
  by_cases w : xs.length = n
  · rw [if_pos w]; exact ⟨fun h => ⟨w, h⟩, fun h => h.2⟩
  · rw [if_neg w]; exact ⟨fun h => (ok_no.mp h).elim, fun h => absurd h.1 w⟩
theorem ok_gsNil {E : Ev → Store → Prop} : Ok (gsNil [] env st) E ↔ E env st := ok_ok
theorem ok_gsCons {g : PV → Ev → Store → R Ev} {gs : List PV → Ev → Store → R Ev} {x : PV} {xs : List PV} {E : Ev → Store → Prop} : Ok (gsCons g gs (x :: xs) env st) E ↔ Ok (g x env st) fun e s => Ok (gs xs e s) E := by
  simp only [gsCons, ok_bind]
theorem ok_frz : Ok (eFrz f env st) T ↔ Ok (f env st) (frzK T) := by
  rw [eFrz, ok_bind]
  constructor <;> exact fun h => h.mono fun v s h => by
    cases v with
    | own k =>
      simp only [frzK] at h ⊢
      cases e : s[k]? with
      | none => simp only [e, ok_no] at h
      | some c => cases c <;> simp only [e, ok_ok, ok_no] at h ⊢ <;> exact h
    | lst xs => simp only [frzK, ok_ok] at h ⊢; exact h
    | tup xs => simp only [frzK, ok_ok] at h ⊢; exact h
    | _ => simp only [frzK, ok_no] at h
theorem ok_isi {b : Kd} : Ok (eIsi b f env st) T ↔ Ok (f env st) fun p s => ∃ k, kdOf s p = some k ∧ T (.bl (k.isa b)) s := by
  rw [eIsi, ok_bind]
  constructor <;> exact fun h => h.mono fun p s h => by
    first
      | (split at h
         · rename_i xs e; exact ⟨xs, e, ok_ok.mp h⟩
         · exact (ok_no.mp h).elim)
      | (obtain ⟨xs, e, h⟩ := h; rw [e]; exact ok_ok.mpr h)
theorem ok_pNone {O : Option Int → Store → Prop} : Ok (pNone env st) O ↔ O none st := ok_ok
theorem ok_pSome {O : Option Int → Store → Prop} : Ok (pSome f env st) O ↔ Ok (f env st) fun v s => match v with | .int i => O (some i) s | _ => False := by
  rw [pSome, ok_bind]
  constructor <;> exact fun h => h.mono fun v s h => by
    cases v <;> first | exact ok_ok.mp h | exact ok_ok.mpr h | exact (ok_no.mp h) | exact h.elim
theorem ok_cut {lo hi : XO} : Ok (eCut f lo hi env st) T ↔ Ok (f env st) fun x s1 => Ok (lo env s1) fun l s2 => Ok (hi env s2) fun u s3 => Op (oCut x l u s3) fun z => T z s3 := by
  rw [eCut, ok_bind]
  constructor <;> exact fun h => h.mono fun x s1 h => by
    rw [ok_bind] at *
    exact h.mono fun l s2 h => by
      rw [ok_bind] at *
      exact h.mono fun u s3 h => by cases e : oCut x l u s3 <;> simp only [e, op_some, op_none, ok_ok, ok_no] at h ⊢ <;> exact h
theorem ok_sm {go : Str → PV → Store → Option PV} : Ok (eSm go f g env st) T ↔ Ok (f env st) fun v s => match v with | .str z => Ok (g env s) fun y s2 => Op (go z y s2) fun w => T w s2 | _ => False := by
  rw [eSm, ok_bind]
  constructor <;> exact fun h => h.mono fun v s h => by
    cases v with
    | str z =>
      simp only [ok_bind] at h ⊢
      exact h.mono fun y s2 h => by cases e : go z y s2 <;> simp only [e, op_some, op_none, ok_ok, ok_no] at h ⊢ <;> exact h
    | _ => first | exact ok_no.mp h | exact h.elim
theorem ok_sorted : Ok (fSorted f env st) L ↔ Ok (f env st) fun p s => ∃ xs, asL s p = some xs ∧ srtOk xs = true ∧ L (psort xs) s := by
  rw [fSorted, ok_bind]
  constructor <;> exact fun h => h.mono fun p s h => by
    first
      | (split at h
         · rename_i xs e
           split at h
           · exact ⟨xs, e, by assumption, ok_ok.mp h⟩
           · exact (ok_no.mp h).elim
         · exact (ok_no.mp h).elim)
      | (obtain ⟨xs, e, q, h⟩ := h; simp only [e, if_pos q]; exact ok_ok.mpr h)
theorem ok_fList : Ok (fList f env st) L ↔ Ok (f env st) fun p s => ∃ xs, asS s p = some xs ∧ L xs s := by
  rw [fList, ok_bind]
  constructor <;> exact fun h => h.mono fun p s h => by
    first
      | (split at h
         · rename_i xs e; exact ⟨xs, e, ok_ok.mp h⟩
         · exact (ok_no.mp h).elim)
      | (obtain ⟨xs, e, h⟩ := h; rw [e]; exact ok_ok.mpr h)
theorem ok_fAdd : Ok (fAdd f g env st) L ↔ Ok (f env st) fun x s1 => Ok (g env s1) fun y s2 => ∃ xs ys, asM s2 x = some xs ∧ asM s2 y = some ys ∧ xs.length + ys.length ≤ sizeLine ∧ L (xs ++ ys) s2 := by
  rw [fAdd, ok_bind]
  constructor <;> exact fun h => h.mono fun x s1 h => by
    rw [ok_bind] at *
    exact h.mono fun y s2 h => by
      first
        | (split at h
           · rename_i xs ys e1 e2
             split at h
             · exact ⟨xs, ys, e1, e2, by assumption, ok_ok.mp h⟩
             · exact (ok_no.mp h).elim
           · exact (ok_no.mp h).elim)
        | (obtain ⟨xs, ys, e1, e2, q, h⟩ := h; simp only [e1, e2, if_pos q]; exact ok_ok.mpr h)
end
end Lq
end
section
set_option Elab.async false
set_option linter.all false
set_option maxRecDepth 10000
namespace Lq
open PySem PySem.Spec PyProof.Rows L2
section
variable {env : Ev} {st s : Store} {P : Fl → Store → Prop} {T : PV → Store → Prop} {B : Bool → Store → Prop} {L : List PV → Store → Prop} {a b : XS} {f g h : XE} {c d : Ev → Store → R Bool} {al : XL}
theorem ok_fMul : Ok (fMul f g env st) L ↔ Ok (f env st) fun x s1 => Ok (g env s1) fun y s2 => ∃ xs k, asM s2 x = some xs ∧ y = .int k ∧ (-(2 ^ 63) ≤ k ∧ k < 2 ^ 63 ∧ xs.length * k.toNat ≤ sizeLine) ∧ L (List.replicate k.toNat xs).flatten s2 := by
  rw [fMul, ok_bind]
  constructor <;> exact fun h => h.mono fun x s1 h => by
    rw [ok_bind] at *
    exact h.mono fun y s2 h => by
      first
        | (split at h
           · rename_i xs k e1
             split at h
             · exact ⟨xs, k, e1, rfl, by assumption, ok_ok.mp h⟩
             · exact (ok_no.mp h).elim
           · exact (ok_no.mp h).elim)
        | (obtain ⟨xs, k, e1, rfl, q, h⟩ := h; simp only [e1, if_pos q]; exact ok_ok.mpr h)
theorem ok_fld {x m : Str} : Ok (eFld x m f env st) T ↔ Ok (f env st) fun v s => ∃ k fs p, v = .own k ∧ s[k]? = some (.ins x fs) ∧ fs.lookup m = some p ∧ T p s := by
  rw [eFld, ok_bind]
  refine ⟨fun h => h.mono fun v s h => ?_, fun h => h.mono fun v s h => ?_⟩
  · cases v with
    | own k =>
      simp only at h
      cases e1 : s[k]? with
      | none => simp only [e1, ok_no] at h
      | some c =>
        cases c with
        | ins y fs =>
          simp only [e1] at h
          by_cases q : y = x
          · subst q
            simp only [if_true] at h
            cases e3 : fs.lookup m with
            | none => simp only [e3, ok_no] at h
            | some p => simp only [e3, ok_ok] at h; exact ⟨k, fs, p, rfl, e1, e3, h⟩
          · simp only [if_neg q, ok_no] at h
        | _ => simp only [e1, ok_no] at h
    | _ => exact (ok_no.mp h).elim
  · obtain ⟨k, fs, p, rfl, e1, e2, h⟩ := h
    simp only [e1, e2, if_true]
    exact ok_ok.mpr h
theorem ok_fldS {x m : Str} : Ok (sFldS x m f g env st) P ↔ Ok (g env st) fun p s1 => Ok (f env s1) fun v s => ∃ k fs, v = .own k ∧ s[k]? = some (.ins x fs) ∧ fs.length < 900 ∧ P (.nx env) (s.set k (.ins x (putP m p fs))) := by
  rw [sFldS, ok_bind]
  refine ⟨fun h0 => h0.mono fun p s1 h1 => ?_, fun h0 => h0.mono fun p s1 h1 => ?_⟩
  · rw [ok_bind] at h1
    refine h1.mono fun v s h => ?_
    clear h1 h0
    cases v with
    | own k =>
      simp only at h
      cases e1 : s[k]? with
      | none => simp only [e1, ok_no] at h
      | some c =>
        cases c with
        | ins y fs =>
          simp only [e1] at h
          by_cases q : y = x ∧ fs.length < 900
          · simp only [if_pos q, ok_ok] at h
            obtain ⟨rfl, q⟩ := q
            exact ⟨k, fs, rfl, e1, q, h⟩
          · simp only [if_neg q, ok_no] at h
        | _ => simp only [e1, ok_no] at h
    | _ => exact (ok_no.mp h).elim
  · rw [ok_bind]
    refine h1.mono fun v s h => ?_
    obtain ⟨k, fs, rfl, e1, e2, h⟩ := h
    simp only [e1, e2, true_and, if_true]
    exact ok_ok.mpr h
theorem ok_meth {x m : Str} {n : Nat} {fn : Fn} : Ok (eMeth x m n fn f al env st) T ↔ Ok (f env st) fun v s => ∃ k fs, v = .own k ∧ s[k]? = some (.ins x fs) ∧ fs.lookup m = none ∧ Ok (al env s) fun vs s2 => vs.length + 1 = n ∧ Ok (fn (.own k :: vs) s2) T := by
  rw [eMeth, ok_bind]
  refine ⟨fun h0 => h0.mono fun v s h => ?_, fun h0 => h0.mono fun v s h => ?_⟩
  · clear h0
    cases v with
    | own k =>
      simp only at h
      cases e1 : s[k]? with
      | none => simp only [e1, ok_no] at h
      | some c =>
        cases c with
        | ins y fs =>
          simp only [e1] at h
          by_cases q : y = x ∧ fs.lookup m = none
          · simp only [if_pos q, ok_bind] at h
            obtain ⟨rfl, q⟩ := q
            refine ⟨k, fs, rfl, e1, q, h.mono fun vs s2 h => ?_⟩
            split at h
            · exact ⟨by assumption, h⟩
            · exact (ok_no.mp h).elim
          · simp only [if_neg q, ok_no] at h
        | _ => simp only [e1, ok_no] at h
    | _ => exact (ok_no.mp h).elim
  · obtain ⟨k, fs, rfl, e1, e2, h⟩ := h
    simp only [e1, e2, true_and, if_true]
    rw [ok_bind]
    exact h.mono fun vs s2 h => by rw [if_pos h.1]; exact h.2
theorem ok_make {x : Str} {n : Nat} {fn : Fn} : Ok (eMake x n fn al env st) T ↔ Ok (al env st) fun vs s => vs.length + 1 = n ∧ Ok (fn (.own s.length :: vs) (s ++ [.ins x []])) fun v s2 => v = .non ∧ T (.own s.length) s2 := by
  rw [eMake, ok_bind]
  constructor <;> exact fun h => h.mono fun vs s h => by
    first
      | (split at h
         · refine ⟨by assumption, ?_⟩
           rw [ok_bind] at h
           exact h.mono fun v s2 h => by
             split at h
             · exact ⟨rfl, ok_ok.mp h⟩
             · exact (ok_no.mp h).elim
         · exact (ok_no.mp h).elim)
      | (rw [if_pos h.1, ok_bind]
         exact h.2.mono fun v s2 h => by obtain ⟨rfl, h⟩ := h; exact ok_ok.mpr h)
theorem ok_lm {go : List PV → List PV → Store → Option (PV × List PV)} : Ok (eLm go f al env st) T ↔ Ok (f env st) fun v s => ∃ k zs, v = .own k ∧ s[k]? = some (.lst zs) ∧ Ok (al env s) fun ys s2 => ∃ xs w xs', s2[k]? = some (.lst xs) ∧ go xs ys s2 = some (w, xs') ∧ T w (s2.set k (.lst xs')) := by
  rw [eLm, ok_bind]
  constructor <;> exact fun h => h.mono fun v s h => by
    first
      | (split at h
         · split at h
           · rename_i k _ zs e1
             refine ⟨k, zs, rfl, e1, ?_⟩
             rw [ok_bind] at h
             exact h.mono fun ys s2 h => by
               split at h
               · split at h
                 · rename_i xs e2 _ w xs' e3
                   exact ⟨xs, w, xs', e2, e3, ok_ok.mp h⟩
                 · exact (ok_no.mp h).elim
               · exact (ok_no.mp h).elim
           · exact (ok_no.mp h).elim
         · exact (ok_no.mp h).elim)
      | (obtain ⟨k, zs, rfl, e1, h⟩ := h
         simp only [e1]
         rw [ok_bind]
         exact h.mono fun ys s2 h => by
           obtain ⟨xs, w, xs', e2, e3, h⟩ := h
           simp only [e2, e3]
           exact ok_ok.mpr h)
theorem ok_pop : Ok (ePop f env st) T ↔ Ok (f env st) fun v s => ∃ k xs y, v = .own k ∧ s[k]? = some (.lst xs) ∧ xs[xs.length - 1]? = some y ∧ T y (s.set k (.lst xs.dropLast)) := by
  rw [ePop, ok_bind]
  constructor <;> exact fun h => h.mono fun v s h => by
    first
      | (split at h
         · split at h
           · split at h
             · rename_i k _ xs e1 _ y e2
               exact ⟨k, xs, y, rfl, e1, e2, ok_ok.mp h⟩
             · exact (ok_no.mp h).elim
           · exact (ok_no.mp h).elim
         · exact (ok_no.mp h).elim)
      | (obtain ⟨k, xs, y, rfl, e1, e2, h⟩ := h
         simp only [e1, e2]
         exact ok_ok.mpr h)
theorem ok_lenO {x : Str} {fn : Fn} : Ok (eLenO x fn f env st) T ↔ Ok (f env st) fun v s => ∃ k fs, v = .own k ∧ s[k]? = some (.ins x fs) ∧ Ok (fn [.own k] s) fun r s2 => ∃ m, r = .int m ∧ (0 ≤ m ∧ m < 2 ^ 63) ∧ T (.int m) s2 := by
  rw [eLenO, ok_bind]
  refine ⟨fun h => h.mono fun v s h => ?_, fun h => h.mono fun v s h => ?_⟩
  · skip
    cases v with
    | own k =>
      simp only at h
      cases e1 : s[k]? with
      | none => simp only [e1, ok_no] at h
      | some c =>
        cases c with
        | ins y fs =>
          simp only [e1] at h
          by_cases q : y = x
          · subst q
            simp only [if_true, ok_bind] at h
            refine ⟨k, fs, rfl, e1, h.mono fun r s2 h => ?_⟩
            cases r with
            | int m =>
              simp only at h
              split at h
              · exact ⟨_, rfl, by assumption, ok_ok.mp h⟩
              · exact (ok_no.mp h).elim
            | _ => exact (ok_no.mp h).elim
          · simp only [if_neg q, ok_no] at h
        | _ => simp only [e1, ok_no] at h
    | _ => exact (ok_no.mp h).elim
  · obtain ⟨k, fs, rfl, e1, h⟩ := h
    simp only [e1, if_true]
    rw [ok_bind]
    exact h.mono fun r s2 h => by
      obtain ⟨m, rfl, e2, h⟩ := h
      simp only [if_pos e2]
      exact ok_ok.mpr h
theorem ok_enumT : Ok (iEnumT al env st) L ↔ Ok (al env st) fun vs s => ∃ p, vs = [p] ∧ ∃ xs, asV s p = some xs ∧ L (nums xs) s := by
  rw [iEnumT, ok_bind]
  constructor <;> exact fun h => h.mono fun vs s h => by
    first
      | (split at h
         · exact ⟨_, rfl, _, rfl, ok_ok.mp h⟩
         · split at h
           · rename_i p hp _ xs e
             refine ⟨_, rfl, xs, ?_, ok_ok.mp h⟩
             cases p <;> first | exact e | (simp [asVL] at e)
           · exact (ok_no.mp h).elim
         · exact (ok_no.mp h).elim)
      | (obtain ⟨p, rfl, xs, e, h⟩ := h
         cases p <;> first
           | (cases e; exact ok_ok.mpr h)
           | (simp only [asV] at e; cases e; exact ok_ok.mpr h)
           | (simp only [asVL, e]; exact ok_ok.mpr h))
theorem ok_zip : Ok (iZipF al env st) L ↔ Ok (al env st) fun vs s => ∃ p q xs ys, vs = [p, q] ∧ asV s p = some xs ∧ asV s q = some ys ∧ L (pairs xs ys) s := by
  rw [iZipF, ok_bind]
  constructor <;> exact fun h => h.mono fun vs s h => by
    first
      | (split at h
         · split at h
           · rename_i e1 e2
             exact ⟨_, _, _, _, rfl, e1, e2, ok_ok.mp h⟩
           · exact (ok_no.mp h).elim
         · exact (ok_no.mp h).elim)
      | (obtain ⟨p, q, xs, ys, rfl, e1, e2, h⟩ := h
         simp only [e1, e2]; exact ok_ok.mpr h)
theorem ok_loop {ft : PV → Ev → Store → R Ev} (I : Nat → Ev → Store → Prop) : ∀ (xs : List PV) (q : Nat) (env : Ev) (st : Store),
    (∀ i x, xs[i]? = some x → ∀ env st, I (q + i) env st → Ok (ft x env st) fun e s => Ok (a e s) fun fl s' => match fl with | .nx e2 => I (q + i + 1) e2 s' | .ct e2 => I (q + i + 1) e2 s' | .rt v => P (.rt v) s' | .bk e2 => P (.nx e2) s') →
    I q env st → (∀ env st, I (q + xs.length) env st → P (.nx env) st) → Ok (loopV ft a xs env st) P
  | [], q, env, st, _, h, k => ok_ok.mpr (k env st h)
  | x :: r, q, env, st, H, h, k => by
    rw [loopV, ok_bind]
    refine (H 0 x rfl env st h).mono fun e s1 hh => ?_
    rw [ok_bind]
    refine hh.mono fun fl s2 hh => ?_
    have goOn : ∀ e2, I (q + 1) e2 s2 → Ok (loopV ft a r e2 s2) P := fun e2 h2 => ok_loop I r (q + 1) e2 s2 (fun i y hy env st hp => by
      have := H (i + 1) y (by simpa using hy) env st (by rw [show q + (i + 1) = q + 1 + i by omega]; exact hp)
      rw [show q + (i + 1) + 1 = q + 1 + i + 1 by omega] at this
      exact this) h2 fun env st h3 => k env st (by rw [List.length_cons, show q + (r.length + 1) = q + 1 + r.length by omega]; exact h3)
    cases fl with
    | nx e2 => exact goOn e2 hh
    | ct e2 => exact goOn e2 hh
    | rt v => exact ok_ok.mpr hh
    | bk e2 => exact ok_ok.mpr hh
theorem ok_compV {env : Ev} {ft : PV → Ev → Store → R Ev} {tt : Ev → Store → R Bool} {fe : XE} (J : Nat → List PV → Store → Prop) : ∀ (xs : List PV) (q : Nat) (pre : List PV) (st : Store) {L : List PV → Store → Prop},
    (∀ i x, xs[i]? = some x → ∀ pre st, J (q + i) pre st → Ok (ft x env st) fun e s => Ok (tt e s) fun k s' => if k = true then Ok (fe e s') fun v s2 => J (q + i + 1) (pre ++ [v]) s2 else J (q + i + 1) pre s') →
    J q pre st → (∀ all st, J (q + xs.length) (pre ++ all) st → L all st) → Ok (compV ft tt fe env xs st) L
  | [], q, pre, st, L, _, h, k => by rw [compV]; exact ok_ok.mpr (k [] st (by rw [List.append_nil]; exact h))
  | x :: r, q, pre, st, L, H, h, k => by
    rw [compV, ok_bind]
    refine (H 0 x rfl pre st h).mono fun e s1 hh => ?_
    rw [ok_bind]
    refine hh.mono fun b s2 hh => ?_
    have H' : ∀ i y, r[i]? = some y → ∀ pre st, J (q + 1 + i) pre st → Ok (ft y env st) fun e s => Ok (tt e s) fun k s' => if k = true then Ok (fe e s') fun v s2 => J (q + 1 + i + 1) (pre ++ [v]) s2 else J (q + 1 + i + 1) pre s' := fun i y hy pre st hp => by
      have := H (i + 1) y (by simpa using hy) pre st (by rw [show q + (i + 1) = q + 1 + i by omega]; exact hp)
      rw [show q + (i + 1) + 1 = q + 1 + i + 1 by omega] at this
      exact this
    have len : q + (x :: r).length = q + 1 + r.length := by rw [List.length_cons]; omega
    cases b with
    | true =>
      rw [if_pos rfl] at hh ⊢
      rw [ok_bind]
      refine hh.mono fun v s3 hh => ?_
      rw [ok_bind]
      exact ok_compV J r (q + 1) (pre ++ [v]) s3 H' hh fun all st h3 => ok_ok.mpr (k (v :: all) st (by rw [len]; simpa using h3))
    | false =>
      rw [if_neg (by decide)] at hh ⊢
      exact ok_compV J r (q + 1) pre s2 H' hh fun all st h3 => k all st (by rw [len]; exact h3)
theorem ok_comp {gl : XL} {ft : PV → Ev → Store → R Ev} {tt : Ev → Store → R Bool} {fe : XE} {vs : List Nat} : Ok (fComp gl ft tt fe vs env st) L ↔ Ok (gl env st) fun xs s => Ok (compV ft tt fe (wipeE env vs) xs s) L := by
  rw [fComp, ok_bind]; simp only [ok_noX]
theorem ok_map {ft : PV → Ev → Store → R Ev} {fe : XE} (F : PV → PV) {xs : List PV} {st : Store} (h : ∀ x, x ∈ xs → Ok (ft x env st) fun e s => Ok (fe e s) fun v s2 => v = F x ∧ s2 = st) (k : L (xs.map F) st) : Ok (compV ft (fun _ st => .ok true st) fe env xs st) L := by
  refine ok_compV (fun i pre s => pre = (xs.take i).map F ∧ s = st) xs 0 [] st (fun i x hx pre s hp => ?_) ⟨rfl, rfl⟩ fun all s hp => ?_
  · obtain ⟨rfl, rfl⟩ := hp
    refine (h x (List.mem_of_getElem? hx)).mono fun e s1 h1 => ok_ok.mpr ?_
    rw [if_pos rfl]
    refine h1.mono fun v s2 h2 => ?_
    obtain ⟨rfl, rfl⟩ := h2
    rw [Nat.zero_add, List.take_add_one, hx, List.map_append]
    exact ⟨rfl, rfl⟩
  · obtain ⟨e, rfl⟩ := hp
    rw [Nat.zero_add, List.take_length, List.nil_append] at e
    rw [e]; exact k
theorem ok_mapE {α : Type} {env : Ev} {L : List PV → Store → Prop} {ft : PV → Ev → Store → R Ev} {fe : XE} (emb : α → PV) (F : α → PV) {zs : List α} {st : Store} (h : ∀ z, z ∈ zs → Ok (ft (emb z) env st) fun e s => Ok (fe e s) fun v s2 => v = F z ∧ s2 = st) (k : L (zs.map F) st) : Ok (compV ft (fun _ st => .ok true st) fe env (zs.map emb) st) L := by
  refine ok_compV (fun i pre s => pre = (zs.take i).map F ∧ s = st) (zs.map emb) 0 [] st (fun i x hx pre s hp => ?_) ⟨rfl, rfl⟩ fun all s hp => ?_
  · obtain ⟨rfl, rfl⟩ := hp
    rw [List.getElem?_map] at hx
    cases e : zs[i]? with
    | none => rw [e] at hx; cases hx
    | some z =>
      rw [e] at hx
      cases hx
      refine (h z (List.mem_of_getElem? e)).mono fun e1 s1 h1 => ok_ok.mpr ?_
      rw [if_pos rfl]
      refine h1.mono fun v s2 h2 => ?_
      obtain ⟨rfl, rfl⟩ := h2
      rw [Nat.zero_add, List.take_add_one, e, List.map_append]
      exact ⟨rfl, rfl⟩
  · obtain ⟨e, rfl⟩ := hp
    rw [Nat.zero_add, List.length_map, List.take_length, List.nil_append] at e
    rw [e]; exact k
theorem ok_fmapE {α : Type} {env : Ev} {L : List PV → Store → Prop} {ft : PV → Ev → Store → R Ev} {tt : Ev → Store → R Bool} {fe : XE} (emb : α → PV) (p : α → Bool) (F : α → PV) {zs : List α} {st : Store} (h : ∀ z, z ∈ zs → Ok (ft (emb z) env st) fun e s => Ok (tt e s) fun k s' => k = p z ∧ s' = st ∧ (p z = true → Ok (fe e st) fun v s2 => v = F z ∧ s2 = st)) (k : L ((zs.filter p).map F) st) : Ok (compV ft tt fe env (zs.map emb) st) L := by
  refine ok_compV (fun i pre s => pre = ((zs.take i).filter p).map F ∧ s = st) (zs.map emb) 0 [] st (fun i x hx pre s hp => ?_) ⟨rfl, rfl⟩ fun all s hp => ?_
  · obtain ⟨rfl, rfl⟩ := hp
    rw [List.getElem?_map] at hx
    cases e : zs[i]? with
    | none => rw [e] at hx; cases hx
    | some z =>
      rw [e] at hx
      cases hx
      refine (h z (List.mem_of_getElem? e)).mono fun e1 s1 h1 => h1.mono fun b s2 h2 => ?_
      obtain ⟨rfl, rfl, h3⟩ := h2
      rw [Nat.zero_add, List.take_add_one, e, List.filter_append, List.map_append]
      split
      · rename_i q
        refine (h3 q).mono fun v s2 h2 => ?_
        obtain ⟨rfl, rfl⟩ := h2
        simp [q]
      · rename_i q
        simp [q]
  · obtain ⟨e, rfl⟩ := hp
    rw [Nat.zero_add, List.length_map, List.take_length, List.nil_append] at e
    rw [e]; exact k
end
theorem ok_loopC {P : Fl → Store → Prop} {a : XS} {en : Bool} {k : Nat} {ft : PV → Ev → Store → R Ev} {xs : List PV} (I : Nat → Ev → Store → Prop) (hP : ∀ i env st, I i env st → cellL st k = some xs)
    (H : ∀ i x, xs[i]? = some x → ∀ env st, I i env st → Ok (ft (if en = true then .tup [.int (i : Int), x] else x) env st) fun e s => Ok (a e s) fun fl s' => match fl with | .nx e2 => I (i + 1) e2 s' | .ct e2 => I (i + 1) e2 s' | .rt v => P (.rt v) s' | .bk e2 => P (.nx e2) s')
    (fin : ∀ env st, I xs.length env st → P (.nx env) st) : ∀ n i env st, i + n = xs.length + 1 → 0 < n → I i env st → Ok (loopC en k ft a n i env st) P
  | n + 1, i, env, st, hn, _, h => by
    rw [loopC, hP i env st h]
    by_cases w : i < xs.length
    · simp only [List.getElem?_eq_getElem w]
      rw [ok_bind]
      refine (H i xs[i] (List.getElem?_eq_getElem w) env st h).mono fun e s1 hh => ?_
      rw [ok_bind]
      refine hh.mono fun fl s2 hh => ?_
      cases fl with
      | nx e2 => exact ok_loopC I hP H fin n (i + 1) e2 s2 (by omega) (by omega) hh
      | ct e2 => exact ok_loopC I hP H fin n (i + 1) e2 s2 (by omega) (by omega) hh
      | rt v => exact ok_ok.mpr hh
      | bk e2 => exact ok_ok.mpr hh
    · have : i = xs.length := by omega
      simp only [List.getElem?_eq_none (show xs.length ≤ i by omega)]
      exact ok_ok.mpr (fin env st (by rw [← this]; exact h))
theorem ok_forC {P : Fl → Store → Prop} {a : XS} {en : Bool} {k : Nat} {f : XE} {ft : PV → Ev → Store → R Ev} {xs : List PV} {env : Ev} {st : Store} (I : Nat → Ev → Store → Prop) (hf : f env st = .ok (.own k) st) (hP : ∀ i env st, I i env st → cellL st k = some xs)
    (H : ∀ i x, xs[i]? = some x → ∀ env st, I i env st → Ok (ft (if en = true then .tup [.int (i : Int), x] else x) env st) fun e s => Ok (a e s) fun fl s' => match fl with | .nx e2 => I (i + 1) e2 s' | .ct e2 => I (i + 1) e2 s' | .rt v => P (.rt v) s' | .bk e2 => P (.nx e2) s')
    (h : I 0 env st) (fin : ∀ env st, I xs.length env st → P (.nx env) st) : Ok (sForC en f ft a env st) P := by
  rw [sForC, hf, b_ok]
  simp only [hP 0 env st h]
  exact ok_loopC I hP H fin _ 0 env st (by omega) (by omega) h
theorem ok_gSub {fo fi : XE} {p : PV} {env : Ev} {st : Store} {E : Ev → Store → Prop} (h : Ok (fo env st) fun o s1 => Ok (fi env s1) fun i s2 => ∃ k j xs, o = .own k ∧ i = .int (j : Nat) ∧ s2[k]? = some (.lst xs) ∧ j < xs.length ∧ E env (s2.set k (.lst (xs.set j p)))) : Ok (gSubL fo fi p env st) E := by
  rw [gSubL, ok_bind]
  refine h.mono fun o s1 h => ?_
  rw [ok_bind]
  refine h.mono fun i s2 h => ?_
  obtain ⟨k, j, xs, rfl, rfl, e, hj, h⟩ := h
  have : ixN xs.length (j : Int) = some j := by
    unfold ixN
    rw [if_pos (by omega), if_pos (by omega)]
    simp
  simp only [e, this]
  exact ok_ok.mpr h
theorem szl : sizeLine = 16777216 := by decide
def wkA := And.intro @ok_seq (And.intro @ok_nil (And.intro @ok_set (And.intro @ok_asg (And.intro @ok_drop (And.intro @ok_ret (And.intro @ok_if (And.intro @ok_par (And.intro @ok_par3 (And.intro @ok_var (And.intro @ok_C (And.intro @ok_bin (And.intro @ok_un (And.intro @ok_aNil (And.intro @ok_aCons (And.intro @ok_tup (And.intro @ok_disp (And.intro @ok_fz (And.intro @ok_ow (And.intro @ok_call (And.intro @ok_cb (And.intro @ok_tE (And.intro @ok_tAnd (And.intro @ok_tOr (And.intro @ok_tNot (And.intro @ok_eIf (And.intro @ok_eAnd (And.intro @ok_eOr (And.intro @ok_eNot (And.intro @ok_chain (And.intro @ok_iVal (And.intro @ok_range1 (And.intro @ok_range2 (And.intro @ok_for (And.intro @ok_gNm (And.intro @ok_gTp (And.intro @ok_gsNil (And.intro @ok_gsCons (And.intro @ok_isi (And.intro @ok_frz (And.intro @frzK_own (And.intro @frzK_lst (And.intro @frzK_tup (And.intro @ok_pNone (And.intro @ok_pSome (And.intro @ok_cut (And.intro @ok_sm (And.intro @ok_sorted (And.intro @ok_fList (And.intro @ok_fAdd (And.intro @ok_fMul (And.intro @ok_fld (And.intro @ok_fldS (And.intro @ok_meth (And.intro @ok_make (And.intro @ok_lm (And.intro @ok_pop (And.intro @ok_lenO (And.intro @ok_enumT (And.intro @ok_comp (And.intro @ok_bind (And.intro @ok_ok (And.intro @ok_no (And.intro @op_some (And.intro @nxK_rt (And.intro @v0 (And.intro @vS (And.intro szl (And.intro @oNe_int (And.intro @oEq_int (And.intro @oAdd_int (And.intro @oSub_int (And.intro @oGt_int (And.intro @oGe_int (And.intro @oLt_int (And.intro @PV.own.injEq (@PV.int.injEq))))))))))))))))))))))))))))))))))))))))))))))))))))))))))))))))))))))))))))
end Lq
end
section
set_option Elab.async false
set_option linter.all false
set_option maxRecDepth 10000
set_option exponentiation.threshold 20000
namespace Lq
open PySem PySem.Spec PyProof.Rows L2
open Sx (at0 clr comb short LT)
theorem fraction_ok {a b : Int} (st : Store) (h0 : 0 < b) (h : b.natAbs < 2 ^ 1000) : p_fraction [.int a, .int b] st = .ok (.tup [.int (a / ((Nat.gcd a.natAbs b.natAbs : Nat) : Int)), .int (b / ((Nat.gcd a.natAbs b.natAbs : Nat) : Int))]) st := by
  have g0 : 0 < Nat.gcd a.natAbs b.natAbs := Nat.gcd_pos_of_pos_right _ (by omega)
  have gb : Nat.gcd a.natAbs b.natAbs ≤ b.natAbs := Nat.gcd_le_right _ (by omega)
  have big : (2 : Nat) ^ 1000 ≤ 2 ^ 8000 := Nat.pow_le_pow_right (by decide) (by decide)
  have : Ok (p_fraction [.int a, .int b] st) fun v s => v = .tup [.int (a / ((Nat.gcd a.natAbs b.natAbs : Nat) : Int)), .int (b / ((Nat.gcd a.natAbs b.natAbs : Nat) : Int))] ∧ s = st := by
    (unfold p_fraction runF; rw [ok_retF]; simp only [env0, List.map_cons, List.map_nil, List.length_cons, List.length_nil, Nat.reduceAdd, Nat.reduceSub, List.reduceReplicate, List.cons_append, List.nil_append])
    simp only [wkA, List.set_cons_zero, List.set_cons_succ, Option.some.injEq, exists_eq_left', exists_eq_left, List.length_cons, List.length_nil, Nat.reduceAdd, Nat.reduceLeDiff, true_and, and_true, if_true, Bool.not_true, Bool.not_false, Bool.false_eq_true, if_false, decide_eq_true_eq, List.cons.injEq, ↓reduceIte]
    rw [divisor_ok st h, ok_ok]; rw [nxK_nx]
    simp only [wkA, List.set_cons_zero, List.set_cons_succ, Option.some.injEq, exists_eq_left', exists_eq_left, List.length_cons, List.length_nil, Nat.reduceAdd, Nat.reduceLeDiff, true_and, and_true, if_true, Bool.not_true, Bool.not_false, Bool.false_eq_true, if_false, decide_eq_true_eq, List.cons.injEq, ↓reduceIte]
    rw [if_pos h0]
    rw [nxK_nx]
    simp only [wkA, List.set_cons_zero, List.set_cons_succ, Option.some.injEq, exists_eq_left', exists_eq_left, List.length_cons, List.length_nil, Nat.reduceAdd, Nat.reduceLeDiff, true_and, and_true, if_true, Bool.not_true, Bool.not_false, Bool.false_eq_true, if_false, decide_eq_true_eq, List.cons.injEq, ↓reduceIte]
    refine Op.of (oDiv_int st (by omega) (by omega)) (Op.of (oDiv_int st (by omega) (by omega)) (by simp))
  obtain ⟨v, s, e, rfl, rfl⟩ := this
  exact e
theorem oIx_nat {xs : List PV} {j : Nat} {x : PV} (st : Store) (h : xs[j]? = some x) : oIx (.lst xs) (.int (j : Int)) st = some x := by
  simp only [oIx, asS, asL]; exact atI_nat h
theorem oIxT_nat {xs : List PV} {j : Nat} {x : PV} (st : Store) (h : xs[j]? = some x) : oIx (.tup xs) (.int (j : Int)) st = some x := by
  simp only [oIx, asS]; exact atI_nat h
theorem atI_neg {α : Type} {xs : List α} {k : Nat} {x : α} (h : xs[xs.length - k]? = some x) (hk : 0 < k) (hl : k ≤ xs.length) : atI xs (-(k : Int)) = some x := by
  unfold atI
  have : ixN xs.length (-(k : Int)) = some (xs.length - k) := by
    unfold ixN
    rw [if_neg (by omega), if_pos (by omega)]
    congr 1
    omega
  rw [this]; exact h
theorem CostV.ixNeg {lo : Nat} {s : Store} {cv : PV} {cs : List Int} (h : CostV lo s cv cs) {k : Nat} (hk : 0 < k) (hl : k ≤ cs.length) : oIx cv (.int (-(k : Int))) s = some (.int (at0 cs (cs.length - k))) := by
  have e : (nI cs)[(nI cs).length - k]? = some (.int (at0 cs (cs.length - k))) := by
    rw [List.length_map, List.getElem?_map, List.getElem?_eq_getElem (by omega)]
    have : cs.length - k < cs.length := by omega
    simp [at0, this]
  have a := atI_neg e hk (by simpa using hl)
  rcases h with ⟨j, rfl, _, hj⟩ | rfl
  · simp only [oIx, asS, asL, hj]; exact a
  · simp only [oIx, asS, asL]; exact a
def tailS : XS := (sSeq (sIf (tE (eBin oLt (eBin oIx (eVar 1) (eUn oNeg (eC (.int 1)))) (eC (.int 0)))) (sSeq (sSet 5 (eFz (fComp (iRange1 (aCons (eCB oLen (aCons (eFld "Equations" "rows" (eVar 0)) aNil)) aNil)) (gNm 3) (fun _ st => .ok true st) (eBin oSub (eBin oIx (eVar 1) (eUn oNeg (eC (.int 2)))) (eBin oIx (eVar 1) (eBin oAdd (eFld "Equations" "many" (eVar 0)) (eVar 3)))) [3])))
    (sRet (eTup (aCons (eC .non) (aCons (eFz (fComp (iZipF (aCons (eFld "Equations" "signs" (eVar 0)) (aCons (eVar 5) aNil))) (gTp 2 (gsCons (gNm 8) (gsCons (gNm 9) gsNil))) (fun _ st => .ok true st) (eBin oMul (eVar 8) (eVar 9)) [8, 9])) aNil))))) sNil)
    (sSeq (sSet 6 (eOw (fMul (eFz (fDisp (aCons (eTup (aCons (eC (.int 0)) (aCons (eC (.int 1)) aNil))) aNil))) (eFld "Equations" "many" (eVar 0)))))
    (sSeq (sForC true (eFld "Equations" "basis" (eVar 0)) (gTp 2 (gsCons (gNm 3) (gsCons (gNm 7) gsNil))) (sIf (tE (eBin oLt (eVar 7) (eFld "Equations" "many" (eVar 0)))) (sAsg (eCall 2 p_fraction (aCons (eBin oIx (eBin oIx (eFld "Equations" "rows" (eVar 0)) (eVar 3)) (eUn oNeg (eC (.int 1)))) (aCons (eBin oIx (eBin oIx (eFld "Equations" "rows" (eVar 0)) (eVar 3)) (eVar 7)) aNil))) (gSubL (eVar 6) (eVar 7))) sNil))
    (sRet (eTup (aCons (eFrz (eVar 6)) (aCons (eC .non) aNil)))))))
def numsOf (Y : LT) (many m : Nat) : List Int := (List.range m).map fun h => at0 Y.costs (many + m) - at0 Y.costs (many + h)
def frV (p : Int × Int) : PV := .tup [.int p.1, .int p.2]
def low (a b : Int) : Int × Int := (a / ((Nat.gcd a.natAbs b.natAbs : Nat) : Int), b / ((Nat.gcd a.natAbs b.natAbs : Nat) : Int))
def unk (Y : LT) (many w : Nat) : Nat → List (Int × Int)
  | 0 => List.replicate many (0, 1)
  | q + 1 => if Y.basis.getD q 0 < many then (unk Y many w q).set (Y.basis.getD q 0) (low (at0 (Y.row q) w) (at0 (Y.row q) (Y.basis.getD q 0))) else unk Y many w q
theorem unk_len (Y : LT) (many w : Nat) : ∀ q, (unk Y many w q).length = many
  | 0 => by simp [unk]
  | q + 1 => by
    rw [unk]
    split
    · rw [List.length_set, unk_len Y many w q]
    · exact unk_len Y many w q
theorem tail_none {st : Store} {o r b many m n : Nat} {R : Nat → Nat → Int} {C0 : Nat → Int} {Y : LT} {cv : PV} {s : Store} {y2 y3 : Option PV} (O : Sx.Orig m n many R C0) (W : WSt st o r b many m n (List.replicate m (.int 1)) R C0 Y cv s) (hmany : many ≤ 100)
    (hl : at0 Y.costs (n + 1) < 0) :
    tailS (wEnv o cv y2 y3 []) s = .ok (.rt (.tup [.non, .lst (nI (numsOf Y many m))])) s := by
  have nm := O.nm
  have m6 := O.m6
  have cl := W.ok.cl
  have sz := szl
  have big : (42 * 2 ^ 240 : Nat) + 42 * 2 ^ 240 < 2 ^ 8000 := by decide
  have sm : ∀ j, (at0 Y.costs j).natAbs ≤ 42 * 2 ^ 240 := fun j => Sx.cost_small O W.ok.inv W.ok.lin W.ok.pc j
  have : Ok (tailS (wEnv o cv y2 y3 []) s) fun fl s' => fl = .rt (.tup [.non, .lst (nI (numsOf Y many m))]) ∧ s' = s := by
    have i1 := W.cost.ixNeg (k := 1) (by omega) (by omega)
    have i2 := W.cost.ixNeg (k := 2) (by omega) (by omega)
    rw [cl, show n + 2 - 1 = n + 1 by omega] at i1
    rw [cl, show n + 2 - 2 = many + m by omega] at i2
    have hq : numsOf Y many m = (List.range m).map fun h => at0 Y.costs (many + m) - at0 Y.costs (many + h) := rfl
    unfold tailS wEnv
    simp only [wkA, List.set_cons_zero, List.set_cons_succ, Option.some.injEq, exists_eq_left', exists_eq_left, List.length_cons, List.length_nil, Nat.reduceAdd, Nat.reduceLeDiff, true_and, and_true, if_true, Bool.not_true, Bool.not_false, Bool.false_eq_true, if_false, decide_eq_true_eq, List.cons.injEq, ↓reduceIte]
    refine Op.of rfl (Op.of i1 ?_)
    simp only [oLt_int, op_some]
    rw [if_pos (by simpa using hl)]
    refine ⟨_, _, _, rfl, W.eq.ho, rfl, ?_⟩
    refine Op.of (z := .int (m : Int)) (by simp [oLen, asS, asL, W.eq.hr, W.ok.rl]) ?_
    refine ⟨⟨by unfold okR; simp; omega, by simp; omega⟩, ?_⟩
    have rn : (m : Int).toNat = m := by simp
    rw [rn]
    refine ok_map (fun x => match x with | .int i => .int (at0 Y.costs (many + m) - at0 Y.costs (many + i.toNat)) | x => x) (fun x hx => ?_) ?_
    · obtain ⟨i, hi⟩ := List.mem_iff_getElem?.mp hx
      obtain ⟨hi, rfl⟩ := rng_at hi
      simp only [wipeE]
      simp only [wkA, List.set_cons_zero, List.set_cons_succ, Option.some.injEq, exists_eq_left', exists_eq_left, List.length_cons, List.length_nil, Nat.reduceAdd, Nat.reduceLeDiff, true_and, and_true, if_true, Bool.not_true, Bool.not_false, Bool.false_eq_true, if_false, decide_eq_true_eq, List.cons.injEq, ↓reduceIte]
      refine Op.of rfl (Op.of i2 ?_)
      refine ⟨_, _, _, rfl, W.eq.ho, rfl, ?_⟩
      simp only [oAdd_int, op_some]
      have i3 := W.cost.ix (j := many + i) (by omega)
      refine Op.of (by rw [← i3]; congr 2) ?_
      simp only [oSub_int, op_some]
      simp
    · rw [nxK_nx]
      simp only [wkA, List.set_cons_zero, List.set_cons_succ, Option.some.injEq, exists_eq_left', exists_eq_left, List.length_cons, List.length_nil, Nat.reduceAdd, Nat.reduceLeDiff, true_and, and_true, if_true, Bool.not_true, Bool.not_false, Bool.false_eq_true, if_false, decide_eq_true_eq, List.cons.injEq, ↓reduceIte]
      rw [ok_zip]
      simp only [wkA, List.set_cons_zero, List.set_cons_succ, Option.some.injEq, exists_eq_left', exists_eq_left, List.length_cons, List.length_nil, Nat.reduceAdd, Nat.reduceLeDiff, true_and, and_true, if_true, Bool.not_true, Bool.not_false, Bool.false_eq_true, if_false, decide_eq_true_eq, List.cons.injEq, ↓reduceIte]
      refine ⟨_, _, _, rfl, W.eq.ho, rfl, ⟨_, _, List.replicate m (.int 1), nI (numsOf Y many m), ⟨rfl, rfl⟩, rfl, ?_, ?_⟩⟩
      · simp only [asV, rng, List.map_map]
        congr 1
        simp [numsOf]
      · have pr : pairs (List.replicate m (.int 1)) (nI (numsOf Y many m)) = ((List.replicate m (1 : Int)).zip (numsOf Y many m)).map fun q => .tup [.int q.1, .int q.2] := by
          rw [← pairs_ints]; simp
        rw [pr]
        refine ok_map (fun p => match p with | .tup [.int a, .int b] => .int (a * b) | p => p) (fun x hx => ?_) ?_
        · obtain ⟨⟨a, b⟩, hab, rfl⟩ := List.mem_map.mp hx
          simp only [wipeE]
          simp only [wkA, List.set_cons_zero, List.set_cons_succ, Option.some.injEq, exists_eq_left', exists_eq_left, List.length_cons, List.length_nil, Nat.reduceAdd, Nat.reduceLeDiff, true_and, and_true, if_true, Bool.not_true, Bool.not_false, Bool.false_eq_true, if_false, decide_eq_true_eq, List.cons.injEq, ↓reduceIte]
          have ha : a = 1 := List.eq_of_mem_replicate (List.of_mem_zip hab).1
          have hb := (List.of_mem_zip hab).2
          rw [hq] at hb
          obtain ⟨h, hh, rfl⟩ := List.mem_map.mp hb
          have s1 := sm (many + m)
          have s2 := sm (many + h)
          subst ha
          exact Op.of (oMul_int s (by decide) (by omega)) (by simp)
        · refine ⟨?_, rfl⟩
          rw [List.map_map]
          have key : ∀ (k : Nat) (l : List Int), l.length = k → ((List.replicate k (1 : Int)).zip l).map ((fun p : PV => match p with | .tup [.int a, .int b] => .int (a * b) | p => p) ∘ fun q => PV.tup [.int q.1, .int q.2]) = nI l := by
            intro k
            induction k with
            | zero => intro l hl; cases l <;> simp_all
            | succ k ih =>
              intro l hl
              cases l with
              | nil => simp at hl
              | cons x l => rw [List.replicate_succ, List.zip_cons_cons, List.map_cons, ih l (by simpa using hl)]; simp
          rw [key m _ (by simp [numsOf])]
  obtain ⟨v, s', e, rfl, rfl⟩ := this
  exact e
theorem tail_some {st : Store} {o r b many m n : Nat} {sg : List PV} {R : Nat → Nat → Int} {C0 : Nat → Int} {Y : LT} {cv : PV} {s : Store} {y2 y3 : Option PV} (O : Sx.Orig m n many R C0) (W : WSt st o r b many m n sg R C0 Y cv s) (hmany : many ≤ 100)
    (oL : o < st.length) (rL : r < st.length) (bL : b < st.length) (hl : ¬ at0 Y.costs (n + 1) < 0) :
    Ok (tailS (wEnv o cv y2 y3 []) s) fun fl s' => fl = .rt (.tup [.lst ((unk Y many (n + 1) m).map frV), .non]) ∧ Keeps [r, b] st s' := by
  have nm := O.nm
  have m6 := O.m6
  have cl := W.ok.cl
  have sz := szl
  have sl : st.length ≤ s.length := W.keeps.1
  have small : ∀ i, i < m → ∀ j, (at0 (Y.row i) j).natAbs ≤ 6 * 2 ^ 240 := fun i hi j => Sx.row_small O W.ok.inv W.ok.lin hi (W.ok.pr i hi) j
  have big : (6 * 2 ^ 240 : Nat) < 2 ^ 1000 := by decide
  have i1 := W.cost.ixNeg (k := 1) (by omega) (by omega)
  rw [cl, show n + 2 - 1 = n + 1 by omega] at i1
  unfold tailS wEnv
  simp only [wkA, List.set_cons_zero, List.set_cons_succ, Option.some.injEq, exists_eq_left', exists_eq_left, List.length_cons, List.length_nil, Nat.reduceAdd, Nat.reduceLeDiff, true_and, and_true, if_true, Bool.not_true, Bool.not_false, Bool.false_eq_true, if_false, decide_eq_true_eq, List.cons.injEq, ↓reduceIte]
  refine Op.of rfl (Op.of i1 ?_)
  simp only [oLt_int, op_some]
  rw [if_neg (by simpa using hl)]
  rw [nxK_nx]
  simp only [wkA, List.set_cons_zero, List.set_cons_succ, Option.some.injEq, exists_eq_left', exists_eq_left, List.length_cons, List.length_nil, Nat.reduceAdd, Nat.reduceLeDiff, true_and, and_true, if_true, Bool.not_true, Bool.not_false, Bool.false_eq_true, if_false, decide_eq_true_eq, List.cons.injEq, ↓reduceIte]
  refine ⟨_, _, _, rfl, W.eq.ho, rfl, [.tup [.int 0, .int 1]], (many : Int), rfl, rfl, ⟨by omega, by omega, by simp; omega⟩, ?_⟩
  have rn : (many : Int).toNat = many := by simp
  rw [rn]
  have fl : ∀ k : Nat, (List.replicate k [PV.tup [.int 0, .int 1]]).flatten = (List.replicate k ((0 : Int), (1 : Int))).map frV := by
    intro k
    induction k with
    | zero => rfl
    | succ k ih => rw [List.replicate_succ, List.flatten_cons, ih]; rfl
  rw [fl]
  rw [nxK_nx]
  rw [ok_seq]
  refine ok_forC (k := b) (xs := natsV Y.basis) (fun i e s' => ∃ y3 y7, e = [some (.own o), some cv, y2, y3, some (.lst (natsV [])), none, some (.own s.length), y7, none, none] ∧ EqAt s' o r b many sg Y ∧ Keeps [r, b] st s' ∧ s'[s.length]? = some (.lst ((unk Y many (n + 1) i).map frV))) ?_ ?_ ?_ ?_ ?_
  · exact fld_basis (i := 0) ((Keeps.app [] s _).eq W.eq (by simp) (by simp) (by simp)) rfl
  · rintro i e s' ⟨y3, y7, rfl, E, _, _⟩
    simp only [cellL, E.hb]
  · rintro i x hx e s' ⟨y3, y7, rfl, E, K, U⟩
    have hi : i < Y.basis.length := by simpa using (List.getElem?_eq_some_iff.mp hx).1
    have hx' : x = .int ((Y.basis.getD i 0 : Nat) : Int) := by
      rw [List.getElem?_map, List.getElem?_eq_getElem hi] at hx
      have : Y.basis.getD i 0 = Y.basis[i] := by simp [hi]
      rw [this]
      simpa using hx.symm
    have im : i < m := by rw [← W.ok.bl]; exact hi
    subst hx'
    rw [if_pos rfl]
    simp only [wkA, List.set_cons_zero, List.set_cons_succ, Option.some.injEq, exists_eq_left', exists_eq_left, List.length_cons, List.length_nil, Nat.reduceAdd, Nat.reduceLeDiff, true_and, and_true, if_true, Bool.not_true, Bool.not_false, Bool.false_eq_true, if_false, decide_eq_true_eq, List.cons.injEq, ↓reduceIte]
    refine ⟨_, _, _, rfl, E.ho, rfl, ?_⟩
    simp only [oLt_int, op_some]
    by_cases q : ((Y.basis.getD i 0 : Nat) : Int) < (many : Int)
    · rw [if_pos (by simpa using q)]
      have qn : Y.basis.getD i 0 < many := by omega
      refine ⟨_, _, _, rfl, E.ho, rfl, ?_⟩
      have rg : oIx (.own r) (.int (i : Int)) s' = some (.lst (nI (Y.row i))) := ixOwn E.hr (row_get (by rw [W.ok.rl]; exact im))
      have wd : (Y.row i).length = n + 2 := W.ok.rw i im
      refine Op.of rg (Op.of rfl (Op.of (z := .int (at0 (Y.row i) (n + 1))) (by have := ixLast (xs := Y.row i) s' (by omega); rw [wd] at this; exact this) ?_))
      refine ⟨_, _, _, rfl, E.ho, rfl, ?_⟩
      refine Op.of rg (Op.of (ixL s' (by omega)) ?_)
      have pos : 0 < at0 (Y.row i) (Y.basis.getD i 0) := W.ok.inv.pos i im
      have := small i im (Y.basis.getD i 0)
      rw [Ok.eq (fraction_ok s' pos (by omega))]
      refine ok_gSub ?_
      simp only [wkA, List.set_cons_zero, List.set_cons_succ, Option.some.injEq, exists_eq_left', exists_eq_left, List.length_cons, List.length_nil, Nat.reduceAdd, Nat.reduceLeDiff, true_and, and_true, if_true, Bool.not_true, Bool.not_false, Bool.false_eq_true, if_false, decide_eq_true_eq, List.cons.injEq, ↓reduceIte]
      have hU : (unk Y many (n + 1) i).length = many := unk_len _ _ _ _
      refine ⟨_, _, _, rfl, rfl, U, by simpa [hU] using qn, ?_⟩
      refine ⟨_, _, ⟨rfl, rfl⟩, ⟨?_, ?_, ?_⟩, K.set (.inl sl) _, ?_⟩
      · rw [st_set U, if_neg (by omega)]; exact E.ho
      · rw [st_set U, if_neg (by omega)]; exact E.hr
      · rw [st_set U, if_neg (by omega)]; exact E.hb
      · rw [st_set U, if_pos rfl, unk, if_pos qn, List.map_set]; rfl
    · rw [if_neg (by simpa using q)]
      refine ⟨_, _, ⟨rfl, rfl⟩, E, K, ?_⟩
      rw [U, unk, if_neg (by omega)]
  · refine ⟨y3, none, rfl, (Keeps.app [] s _).eq W.eq (by simp) (by simp) (by simp), W.keeps.trans (Keeps.app _ _ _), ?_⟩
    simp [unk]
  · rintro e s' ⟨y3, y7, rfl, E, K, U⟩
    rw [nxK_nx]
    rw [ok_ret, ok_tup, ok_aCons, ok_frz]
    simp only [wkA, List.set_cons_zero, List.set_cons_succ, Option.some.injEq, exists_eq_left', exists_eq_left, List.length_cons, List.length_nil, Nat.reduceAdd, Nat.reduceLeDiff, true_and, and_true, if_true, Bool.not_true, Bool.not_false, Bool.false_eq_true, if_false, decide_eq_true_eq, List.cons.injEq, ↓reduceIte]
    simp only [U]
    refine ⟨?_, K.set (.inl sl) _⟩
    rw [List.length_map, W.ok.bl]
end Lq
end
section
set_option Elab.async false
set_option linter.all false
set_option maxRecDepth 10000
set_option exponentiation.threshold 20000
namespace Lq
open PySem PySem.Spec PyProof.Rows L2
open Sx (at0 clr comb short LT sm si)
def rt (p : Int × Int) : Rat := (p.1 : Rat) / (p.2 : Rat)
theorem low_rt {a b : Int} (hb : 0 < b) : rt (low a b) = (a : Rat) / (b : Rat) ∧ 0 < (low a b).2 ∧ (0 ≤ a → 0 ≤ (low a b).1) ∧ (low a b).1.natAbs ≤ a.natAbs ∧ (low a b).2.natAbs ≤ b.natAbs := by
  have g0 : 0 < Nat.gcd a.natAbs b.natAbs := Nat.gcd_pos_of_pos_right _ (by omega)
  have da : ((Nat.gcd a.natAbs b.natAbs : Nat) : Int) ∣ a := Int.ofNat_dvd_left.mpr (Nat.gcd_dvd_left _ _)
  have db : ((Nat.gcd a.natAbs b.natAbs : Nat) : Int) ∣ b := Int.ofNat_dvd_left.mpr (Nat.gcd_dvd_right _ _)
  unfold low
  generalize Nat.gcd a.natAbs b.natAbs = g at *
  obtain ⟨x, rfl⟩ := da
  obtain ⟨y, rfl⟩ := db
  have gp : (0 : Int) < (g : Int) := by omega
  have e1 : (g : Int) * x / (g : Int) = x := Int.mul_ediv_cancel_left _ (by omega)
  have e2 : (g : Int) * y / (g : Int) = y := Int.mul_ediv_cancel_left _ (by omega)
  have yp : 0 < y := by
    refine Classical.byContradiction fun n => ?_
    have := Int.mul_nonneg (a := (g : Int)) (b := -y) (by omega) (by omega)
    have e : (g : Int) * -y = - ((g : Int) * y) := by grind
    omega
  refine ⟨?_, by rw [e2]; exact yp, fun h => ?_, ?_, ?_⟩
  · simp only [rt, e1, e2, Rat.intCast_mul]
    have := Sx.cpos gp
    have := Sx.cpos yp
    grind
  · simp only [e1]
    refine Classical.byContradiction fun n => ?_
    have := Int.mul_pos (a := (g : Int)) (b := -x) gp (by omega)
    have e : (g : Int) * -x = - ((g : Int) * x) := by grind
    omega
  · simp only [e1, Int.natAbs_mul, Int.natAbs_natCast]
    exact Nat.le_mul_of_pos_left _ g0
  · simp only [e2, Int.natAbs_mul, Int.natAbs_natCast]
    exact Nat.le_mul_of_pos_left _ g0
def atF (fs : List (Int × Int)) (j : Nat) : Int × Int := fs.getD j (0, 1)
theorem atF_set (fs : List (Int × Int)) (k j : Nat) (v : Int × Int) : atF (fs.set k v) j = if j = k ∧ k < fs.length then v else atF fs j := by
  unfold atF
  rw [List.getD_eq_getElem?_getD, List.getD_eq_getElem?_getD, List.getElem?_set]
  by_cases e : k = j
  · subst e
    by_cases w : k < fs.length
    · simp [w]
    · simp [w]
  · simp [e, Ne.symm e]
theorem unk_spec {m n many : Nat} {R : Nat → Nat → Int} {C0 : Nat → Int} {Y : LT} (O : Sx.Orig m n many R C0) (H : Sx.OK m n many R C0 Y) : ∀ q, q ≤ m → ∀ j, j < many →
    rt (atF (unk Y many (n + 1) q) j) = sm q (fun i => if (Y.it.tb n).b i = j then (Y.it.tb n).r i else 0) ∧ 0 < (atF (unk Y many (n + 1) q) j).2 ∧ 0 ≤ (atF (unk Y many (n + 1) q) j).1 ∧ (atF (unk Y many (n + 1) q) j).1.natAbs ≤ 6 * 2 ^ 240 ∧ (atF (unk Y many (n + 1) q) j).2.natAbs ≤ 6 * 2 ^ 240
  | 0, _, j, hj => by
    have e : atF (unk Y many (n + 1) 0) j = (0, 1) := by
      unfold unk atF
      rw [List.getD_eq_getElem?_getD, List.getElem?_replicate]
      simp [hj]
    rw [e]
    refine ⟨?_, by decide, by decide, by decide, by decide⟩
    simp [rt, sm]
    grind
  | q + 1, hq, j, hj => by
    obtain ⟨i1, i2, i3, i4, i5⟩ := unk_spec O H q (by omega) j hj
    have bq : (Y.it.tb n).b q = Y.basis.getD q 0 := rfl
    have rq : (Y.it.tb n).r q = (at0 (Y.row q) (n + 1) : Rat) / (at0 (Y.row q) (Y.basis.getD q 0) : Rat) := rfl
    rw [unk, sm]
    by_cases w : Y.basis.getD q 0 < many
    · rw [if_pos w, atF_set, unk_len]
      by_cases e : j = Y.basis.getD q 0
      · rw [if_pos ⟨e, w⟩, bq, if_pos e.symm, rq]
        have z : sm q (fun i => if (Y.it.tb n).b i = j then (Y.it.tb n).r i else 0) = 0 := Sx.sm_zero fun i hi => by
          rw [if_neg]
          intro z
          have := H.inv.tb.inj (i := i) (h := q) (by omega) (by omega) (by rw [z, e, bq])
          omega
        have pos : 0 < at0 (Y.row q) (Y.basis.getD q 0) := H.inv.pos q (by omega)
        obtain ⟨l1, l2, l3, l4, l5⟩ := low_rt (a := at0 (Y.row q) (n + 1)) pos
        have s1 : (at0 (Y.row q) (n + 1)).natAbs ≤ 6 * 2 ^ 240 := Sx.row_small O H.inv H.lin (by omega) (H.pr q (by omega)) (n + 1)
        have s2 : (at0 (Y.row q) (Y.basis.getD q 0)).natAbs ≤ 6 * 2 ^ 240 := Sx.row_small O H.inv H.lin (by omega) (H.pr q (by omega)) _
        refine ⟨?_, l2, l3 (H.inv.rp q (by omega)), by omega, by omega⟩
        rw [z, l1]; grind
      · rw [if_neg (fun z => e z.1), bq, if_neg (fun z => e z.symm)]
        refine ⟨?_, i2, i3, i4, i5⟩
        rw [i1]; grind
    · rw [if_neg w, bq, if_neg (fun z => w (by rw [z]; exact hj))]
      refine ⟨?_, i2, i3, i4, i5⟩
      rw [i1]; grind
def startT (X : LT) (many m : Nat) : LT := { X with costs := cost0 X many m }
theorem eqs_ok {many m n : Nat} {X : LT} (S : Sx.Start m n many (startT X many m)) (hmany : many ≤ 100) :
    ∃ v : PV, ((∃ ys : List Int, ys.length = m ∧ v = .tup [.non, .lst (nI ys)] ∧ (∀ y, y ∈ ys → y.natAbs < 2 ^ 400) ∧ (∀ j, j < many → si m (fun h => at0 ys h * at0 (X.row h) j) ≤ 0) ∧ 0 < si m (fun h => at0 ys h * at0 (X.row h) (n + 1))) ∨
       (∃ fs : List (Int × Int), fs.length = many ∧ v = .tup [.lst (fs.map frV), .non] ∧ (∀ j, j < many → 0 < (atF fs j).2 ∧ 0 ≤ (atF fs j).1 ∧ (atF fs j).1.natAbs < 2 ^ 243 ∧ (atF fs j).2.natAbs < 2 ^ 243) ∧ ∀ h, h < m → sm many (fun j => (at0 (X.row h) j : Rat) * rt (atF fs j)) = (at0 (X.row h) (n + 1) : Rat))) ∧
      ∀ (st : Store) (o r b : Nat), EqAt st o r b many (List.replicate m (.int 1)) X → r ≠ b → Ok (p_Equations_solved [.own o] st) fun v' s => v' = v ∧ Keeps [r, b] st s := by
  have O := S.orig
  have nm := S.nm
  have m6 := S.m6
  obtain ⟨p, hp, p0, pq⟩ := Sx.ends (show many ≤ n by omega) S.ok
  have fuel : p < 2 ^ 300 := Nat.lt_trans hp (Nat.pow_lt_pow_right (by decide) (by omega))
  have V : Sx.OK m n many (fun k j => at0 ((startT X many m).row k) j) (at0 (startT X many m).costs) (Sx.its m n many (startT X many m) p) := Sx.its_ok (show many ≤ n by omega) S.ok p pq
  have walk : ∀ (st : Store) (o r b : Nat), EqAt st o r b many (List.replicate m (.int 1)) X → r ≠ b → ∃ cv y2 y3 s2, p_Equations_solved [.own o] st = ret (tailS (wEnv o cv y2 y3 []) s2) ∧ o < st.length ∧ r < st.length ∧ b < st.length ∧
      WSt st o r b many m n (List.replicate m (.int 1)) (fun k j => at0 ((startT X many m).row k) j) (at0 (startT X many m).costs) (Sx.its m n many (startT X many m) p) cv s2 := fun st o r b H rb => by
    have oL := (List.getElem?_eq_some_iff.mp H.ho).1
    have rL := (List.getElem?_eq_some_iff.mp H.hr).1
    have bL := (List.getElem?_eq_some_iff.mp H.hb).1
    have ob := H.ne
    obtain ⟨k, y2, y3, s, run, K, kl, ck⟩ := costs_ok H (show X.rows.length = m from S.rl) m6 hmany (fun i hi => by have := S.rw i hi; rw [nm] at this; exact this)
    have E1 : EqAt s o r b many (List.replicate m (.int 1)) X := K.eq H (by simp) (by simp) (by simp)
    have E2 : EqAt s o r b many (List.replicate m (.int 1)) (startT X many m) := ⟨E1.ho, E1.hr, E1.hb⟩
    have C : CostV st.length s (.own k) (startT X many m).costs := .inl ⟨k, rfl, kl, ck⟩
    have W0 : WSt st o r b many m n (List.replicate m (.int 1)) (fun k j => at0 ((startT X many m).row k) j) (at0 (startT X many m).costs) (startT X many m) (.own k) s :=
      ⟨S.ok, E2, ⟨K.1, fun i hi hn => K.2 i hi (by simp)⟩, C⟩
    obtain ⟨cv, s2, wl, W⟩ := wloop (y2 := y2) (y3 := y3) O rb oL rL bL hmany p (2 ^ 300) (startT X many m) (.own k) s fuel W0 p0 pq
    have ng := neg_ok (lo := st.length) (Y := startT X many m) (env := [some (.own o), some (.own k), y2, y3, none, none, none, none, none, none]) E2 rfl rfl (by simp) C (by rw [S.cl]; omega) hmany
    refine ⟨cv, y2, y3, s2, ?_, oL, rL, bL, W⟩
    unfold p_Equations_solved runF
    congr 1
    refine (run _).trans ?_
    rw [sSeq, sSet, ng, b_ok, b_ok]
    simp only [List.set_cons_succ, List.set_cons_zero]
    have wl' : sWhile (tE (eBin oNe (eVar 4) (eFz (fDisp aNil)))) wBody (2 ^ 300) [some (.own o), some (.own k), y2, y3, some (.lst (natsV (Sx.neg many (startT X many m)))), none, none, none, none, none] s = .ok (.nx (wEnv o cv y2 y3 [])) s2 := wl
    have e300 : (2037035976334486086268445688409378161051468393665936250636140449354381299763336706183397376 : Nat) = 2 ^ 300 := by decide
    rw [sSeq, e300]
    unfold wBody at wl'
    rw [wl', b_ok]
    rfl
  by_cases hl : at0 (Sx.its m n many (startT X many m) p).costs (n + 1) < 0
  · refine ⟨.tup [.non, .lst (nI (numsOf (Sx.its m n many (startT X many m) p) many m))], .inl ⟨numsOf _ many m, by simp [numsOf], rfl, fun y hy => ?_, ?_⟩, fun st o r b H rb => ?_⟩
    · unfold numsOf at hy
      obtain ⟨h, hh, rfl⟩ := List.mem_map.mp hy
      have s1 : (at0 (Sx.its m n many (startT X many m) p).costs (many + m)).natAbs ≤ 42 * 2 ^ 240 := Sx.cost_small O V.inv V.lin V.pc _
      have s2 : (at0 (Sx.its m n many (startT X many m) p).costs (many + h)).natAbs ≤ 42 * 2 ^ 240 := Sx.cost_small O V.inv V.lin V.pc _
      have big : (42 * 2 ^ 240 : Nat) + 42 * 2 ^ 240 < 2 ^ 400 := by decide
      omega
    · have E := Sx.end_none V (fun j hj => S.cs j hj) p0 hl
      have e : ∀ h, h < m → at0 (numsOf (Sx.its m n many (startT X many m) p) many m) h = at0 (Sx.its m n many (startT X many m) p).costs n - at0 (Sx.its m n many (startT X many m) p).costs (many + h) := fun h hh => by
        unfold numsOf at0
        rw [List.getD_eq_getElem?_getD, List.getElem?_map, List.getElem?_range hh, nm]
        rfl
      refine ⟨fun j hj => ?_, ?_⟩
      · rw [Sx.si_congr (g := fun h => (at0 (Sx.its m n many (startT X many m) p).costs n - at0 (Sx.its m n many (startT X many m) p).costs (many + h)) * at0 ((startT X many m).row h) j) fun h hh => by rw [e h hh]; rfl]
        exact E.1 j hj
      · rw [Sx.si_congr (g := fun h => (at0 (Sx.its m n many (startT X many m) p).costs n - at0 (Sx.its m n many (startT X many m) p).costs (many + h)) * at0 ((startT X many m).row h) (n + 1)) fun h hh => by rw [e h hh]; rfl]
        exact E.2
    · obtain ⟨cv, y2, y3, s2, body, oL, rL, bL, W⟩ := walk st o r b H rb
      rw [body, ok_retF, tail_none O W hmany hl, ok_ok]
      exact ⟨rfl, W.keeps⟩
  · have U := unk_spec O V m (Nat.le_refl m)
    have big : (6 * 2 ^ 240 : Nat) < 2 ^ 243 := by decide
    refine ⟨.tup [.lst ((unk (Sx.its m n many (startT X many m) p) many (n + 1) m).map frV), .non], .inr ⟨unk _ many (n + 1) m, unk_len _ _ _ _, rfl, fun j hj => ?_, fun h hh => ?_⟩, fun st o r b H rb => ?_⟩
    · obtain ⟨_, u2, u3, u4, u5⟩ := U j hj
      exact ⟨u2, u3, by omega, by omega⟩
    · obtain ⟨_, e2, e3⟩ := Sx.end_some V hl
      have e3 := e3 h hh
      subst nm
      rw [Sx.sm_split, Sx.sm_zero (f := fun j => (at0 ((startT X many m).row h) (many + j) : Rat) * Sx.bsol m ((Sx.its m (many + m) many (startT X many m) p).it.tb (many + m)) (many + j)) fun j hj => by rw [e2 j hj]; grind] at e3
      rw [Sx.sm_congr (g := fun j => (at0 ((startT X many m).row h) j : Rat) * Sx.bsol m ((Sx.its m (many + m) many (startT X many m) p).it.tb (many + m)) j) fun j hj => by
        rw [(U j hj).1]
        rfl]
      have : (at0 ((startT X many m).row h) (many + m + 1) : Rat) = (at0 (X.row h) (many + m + 1) : Rat) := rfl
      rw [← this, ← e3]
      grind
    · obtain ⟨cv, y2, y3, s2, body, oL, rL, bL, W⟩ := walk st o r b H rb
      rw [body, ok_retF]
      refine (tail_some O W hmany oL rL bL hl).mono fun fl s' h => ?_
      obtain ⟨rfl, K'⟩ := h
      exact ⟨rfl, K'⟩
end Lq
end
section
set_option Elab.async false
set_option linter.all false
set_option maxRecDepth 10000
set_option exponentiation.threshold 20000
namespace Lq
open PySem PySem.Spec PyProof.Rows L2
open Sx (at0 clr comb short LT sm si)
theorem goApp_ok {xs : List PV} (y : PV) (s : Store) (h : xs.length < sizeLine) : goApp xs [y] s = some (.non, xs ++ [y]) := by simp only [goApp, if_pos h]
def fRow (row : List Int) (m h : Nat) (goal : Int) : List Int := row ++ ((List.range m).map fun o => if o = h then 1 else 0) ++ [0, goal]
def fTab (rs : List (List Int)) (goals : List Int) (many m : Nat) : LT := ⟨(List.range m).map fun h => fRow (rs.getD h []) m h (at0 goals h), (List.range m).map fun h => many + h, []⟩
theorem at0_append (xs ys : List Int) (j : Nat) : at0 (xs ++ ys) j = if j < xs.length then at0 xs j else at0 ys (j - xs.length) := by
  unfold at0
  simp only [List.getD_eq_getElem?_getD]
  split
  · rename_i h; rw [List.getElem?_append_left h]
  · rename_i h; rw [List.getElem?_append_right (by omega)]
theorem at0_range (f : Nat → Int) (n j : Nat) : at0 ((List.range n).map f) j = if j < n then f j else 0 := by
  unfold at0
  rw [List.getD_eq_getElem?_getD, List.getElem?_map]
  by_cases h : j < n
  · rw [List.getElem?_range h, if_pos h]; rfl
  · rw [List.getElem?_eq_none (by simpa using h), if_neg h]; rfl
theorem fTab_row {rs : List (List Int)} {goals : List Int} {many m h : Nat} (hh : h < m) : (fTab rs goals many m).row h = fRow (rs.getD h []) m h (at0 goals h) := by
  unfold LT.row fTab
  rw [List.getD_eq_getElem?_getD, List.getElem?_map, List.getElem?_range hh]; rfl
theorem fRow_at {row : List Int} {m h many : Nat} {goal : Int} (hr : row.length = many) (j : Nat) :
    at0 (fRow row m h goal) j = if j < many then at0 row j else if j < many + m then (if j - many = h then 1 else 0) else if j = many + m + 1 then goal else 0 := by
  unfold fRow
  rw [at0_append, at0_append, at0_range, List.length_append, List.length_map, List.length_range, hr]
  by_cases c1 : j < many
  · have c2 : j < many + m := by omega
    simp only [c1, c2, if_true]
  · by_cases c2 : j < many + m
    · have c3 : j - many < m := by omega
      simp only [c1, c2, c3, if_true, if_false]
    · simp only [c1, c2, if_false]
      by_cases c3 : j = many + m + 1
      · simp only [c3, if_true]
        rw [show many + m + 1 - (many + m) = 1 by omega]; rfl
      · simp only [c3, if_false]
        by_cases c4 : j = many + m
        · rw [c4, show many + m - (many + m) = 0 by omega]; rfl
        · obtain ⟨k, hk⟩ : ∃ k, j - (many + m) = k + 2 := ⟨j - (many + m) - 2, by omega⟩
          rw [hk]; simp [at0]
theorem fRow_len {row : List Int} {m h many : Nat} {goal : Int} (hr : row.length = many) : (fRow row m h goal).length = many + m + 2 := by
  simp [fRow, hr]; omega
theorem start_ok {rs : List (List Int)} {goals : List Int} {many m : Nat} (m6 : m ≤ 6) (hr : ∀ h, h < m → (rs.getD h []).length = many) (small : ∀ h j, h < m → (at0 (rs.getD h []) j).natAbs ≤ 1) (g : ∀ h, h < m → 0 ≤ at0 goals h ∧ at0 goals h ≤ 1) :
    Sx.Start m (many + m) many (startT (fTab rs goals many m) many m) := by
  have row : ∀ h, h < m → (startT (fTab rs goals many m) many m).row h = fRow (rs.getD h []) m h (at0 goals h) := fun h hh => fTab_row (many := many) hh
  have len : ∀ h, h < m → ((fTab rs goals many m).row h).length = many + m + 2 := fun h hh => by rw [fTab_row hh, fRow_len (hr h hh)]
  have cl := cst_len len m (Nat.le_refl _)
  have zl : (zer (cst (fTab rs goals many m) (many + m + 2) m) many m).length = many + m + 2 := by rw [zer_len, cl]
  have cat : ∀ j, at0 (startT (fTab rs goals many m) many m).costs j = if j = many + m then 1 else if many ≤ j ∧ j < many + m then 0 else - si m (fun h => at0 ((fTab rs goals many m).row h) j) := fun j => by
    show at0 (cost0 _ many m) j = _
    unfold cost0
    rw [at0_set, zl]
    by_cases c : j = many + m
    · rw [if_pos ⟨c, by omega⟩, if_pos c]
    · rw [if_neg (fun z => c z.1), if_neg c, zer_at _ _ _ _ (by rw [cl]; omega), cst_at len j m (Nat.le_refl _)]
  refine ⟨m6, rfl, by simp [startT, fTab], fun i hi => by rw [row i hi, fRow_len (hr i hi)], by simp [startT, fTab], fun i hi => ?_, ?_, fun k h hk hh => ?_, fun k j hk => ?_, fun k hk => ?_, fun k hk => ?_, ?_, fun h hh => ?_, fun j hj => ?_⟩
  · simp [startT, fTab, List.getD_eq_getElem?_getD, hi]
  · show (cost0 _ many m).length = _
    unfold cost0
    rw [List.length_set, zl]
  · rw [row k hk, fRow_at (hr k hk), if_neg (by omega), if_pos (by omega), show many + h - many = h by omega]
  · rw [row k hk, fRow_at (hr k hk)]
    split
    · exact small k j hk
    · split
      · split <;> decide
      · split
        · have := g k hk; omega
        · decide
  · rw [row k hk, fRow_at (hr k hk), if_neg (by omega), if_neg (by omega), if_neg (by omega)]
  · rw [row k hk, fRow_at (hr k hk), if_neg (by omega), if_neg (by omega), if_pos rfl]
    exact (g k hk).1
  · rw [cat, if_pos rfl]
  · rw [cat, if_neg (by omega), if_pos (by omega)]
  · rw [cat, if_neg (by omega), if_neg (by omega)]
    rfl
theorem init_ok {st : Store} {o many m : Nat} {rs : List (List Int)} {goals : List Int} (ho : st[o]? = some (.ins "Equations" [])) (m0 : 0 < m) (m6 : m ≤ 6) (hl : rs.length = m) (gl : goals.length = m) (hmany : many ≤ 100) (hr : ∀ h, h < m → (rs.getD h []).length = many) (g : ∀ h, h < m → 0 ≤ at0 goals h)
    (small : ∀ r, r ∈ rs → ∀ x, x ∈ r → x.natAbs ≤ 1) :
    Ok (p_Equations___init__ [.own o, .lst (rowsV rs), .lst (nI goals)] st) fun v s => v = .non ∧ Keeps [o] st s ∧ ∃ r b, r ≠ b ∧ st.length ≤ r ∧ st.length ≤ b ∧ EqAt s o r b many (List.replicate m (.int 1)) (fTab rs goals many m) := by
  have sz := szl
  have oL := (List.getElem?_eq_some_iff.mp ho).1
  have row0 : (rowsV rs)[0]? = some (.lst (nI (rs.getD 0 []))) := by
    rw [List.getElem?_map, List.getElem?_eq_getElem (by omega)]
    simp [List.getD_eq_getElem?_getD, show 0 < rs.length by omega]
  have gpos : ∀ x, x ∈ goals → 0 ≤ x := fun x hx => by
    obtain ⟨i, hi, rfl⟩ := List.mem_iff_getElem.mp hx
    have := g i (by omega)
    simpa [at0, hi] using this
  (unfold p_Equations___init__ runF; rw [ok_retF]; simp only [env0, List.map_cons, List.map_nil, List.length_cons, List.length_nil, Nat.reduceAdd, Nat.reduceSub, List.reduceReplicate, List.cons_append, List.nil_append])
  simp only [wkA, List.set_cons_zero, List.set_cons_succ, Option.some.injEq, exists_eq_left', exists_eq_left, List.length_cons, List.length_nil, Nat.reduceAdd, Nat.reduceLeDiff, true_and, and_true, if_true, Bool.not_true, Bool.not_false, Bool.false_eq_true, if_false, decide_eq_true_eq, List.cons.injEq, ↓reduceIte]
  refine Op.of (oIx_nat (j := 0) st row0) ?_
  refine Op.of (z := .int (many : Int)) (by simp [oLen, asS, asL]; exact_mod_cast congrArg (fun n : Nat => (n : Int)) (by simpa [List.getD_eq_getElem?_getD] using hr 0 m0)) ?_
  refine ⟨_, _, rfl, ho, by decide, ?_⟩
  rw [nxK_nx]
  simp only [wkA, List.set_cons_zero, List.set_cons_succ, Option.some.injEq, exists_eq_left', exists_eq_left, List.length_cons, List.length_nil, Nat.reduceAdd, Nat.reduceLeDiff, true_and, and_true, if_true, Bool.not_true, Bool.not_false, Bool.false_eq_true, if_false, decide_eq_true_eq, List.cons.injEq, ↓reduceIte]
  refine ⟨_, rfl, ?_⟩
  refine ok_map (fun _ => .int 1) (fun x hx => ?_) ?_
  · obtain ⟨a, ha, rfl⟩ := List.mem_map.mp hx
    simp only [wipeE]
    simp only [wkA, List.set_cons_zero, List.set_cons_succ, Option.some.injEq, exists_eq_left', exists_eq_left, List.length_cons, List.length_nil, Nat.reduceAdd, Nat.reduceLeDiff, true_and, and_true, if_true, Bool.not_true, Bool.not_false, Bool.false_eq_true, if_false, decide_eq_true_eq, List.cons.injEq, ↓reduceIte]
    rw [if_pos (gpos a ha)]
    simp
  · have sg : (nI goals).map (fun _ => PV.int 1) = List.replicate m (.int 1) := by rw [List.map_const', List.length_map, gl]
    rw [sg]
    have ho1 : (st.set o (Cell.ins "Equations" (putP "many" (.int (many : Int)) [])))[o]? = some (.ins "Equations" [("many", .int (many : Int))]) := by rw [st_set ho, if_pos rfl]; rfl
    refine ⟨_, _, rfl, ho1, by simp, ?_⟩
    rw [nxK_nx]
    simp only [wkA, List.set_cons_zero, List.set_cons_succ, Option.some.injEq, exists_eq_left', exists_eq_left, List.length_cons, List.length_nil, Nat.reduceAdd, Nat.reduceLeDiff, true_and, and_true, if_true, Bool.not_true, Bool.not_false, Bool.false_eq_true, if_false, decide_eq_true_eq, List.cons.injEq, ↓reduceIte]
    generalize hs1 : (st.set o (Cell.ins "Equations" (putP "many" (.int (many : Int)) []))).set o (Cell.ins "Equations" (putP "signs" (.lst (List.replicate m (.int 1))) [("many", .int (many : Int))])) = s1
    have l1 : s1.length = st.length := by rw [← hs1]; simp
    have K1 : Keeps [o] st s1 := by rw [← hs1]; exact ((Keeps.refl _ _).set (.inr (by simp)) _).set (.inr (by simp)) _
    have ho2 : s1[o]? = some (.ins "Equations" [("many", .int (many : Int)), ("signs", .lst (List.replicate m (.int 1)))]) := by
      rw [← hs1, st_set ho1, if_pos rfl]
      rfl
    refine ⟨_, _, rfl, by rw [List.getElem?_append_left (by omega)]; exact ho2, by simp, ?_⟩
    rw [nxK_nx]
    simp only [wkA, List.set_cons_zero, List.set_cons_succ, Option.some.injEq, exists_eq_left', exists_eq_left, List.length_cons, List.length_nil, Nat.reduceAdd, Nat.reduceLeDiff, true_and, and_true, if_true, Bool.not_true, Bool.not_false, Bool.false_eq_true, if_false, decide_eq_true_eq, List.cons.injEq, ↓reduceIte]
    have ho3 : ((s1 ++ [Cell.lst []]).set o (Cell.ins "Equations" (putP "rows" (.own s1.length) [("many", .int (many : Int)), ("signs", .lst (List.replicate m (.int 1)))])))[o]? = some (.ins "Equations" [("many", .int (many : Int)), ("signs", .lst (List.replicate m (.int 1))), ("rows", .own s1.length)]) := by
      rw [List.getElem?_set, if_pos rfl, if_pos (by simp; omega)]
      rfl
    generalize hs2 : ((s1 ++ [Cell.lst []]).set o (Cell.ins "Equations" (putP "rows" (.own s1.length) [("many", .int (many : Int)), ("signs", .lst (List.replicate m (.int 1)))]))) = s2
    rw [hs2] at ho3
    have l2 : s2.length = s1.length + 1 := by rw [← hs2]; simp
    have K2 : Keeps [o] st s2 := by rw [← hs2]; exact (K1.trans (Keeps.app _ _ _)).set (.inr (by simp)) _
    have hr2 : s2[s1.length]? = some (.lst []) := by
      rw [← hs2, List.getElem?_set_ne (by omega)]; simp
    refine ⟨_, rfl, ?_⟩
    have nl : (nums (rowsV rs)).length = m := by simp [nums, pairs_len, rng, hl]
    have na : ∀ (i : Nat) (x : PV), (nums (rowsV rs))[i]? = some x → i < m ∧ x = .tup [.int (i : Int), .lst (nI (rs.getD i []))] := fun i x hx => by
      have hi : i < m := by rw [← nl]; exact (List.getElem?_eq_some_iff.mp hx).1
      refine ⟨hi, ?_⟩
      unfold nums at hx
      obtain ⟨a, b, h1, h2, rfl⟩ := pairs_get _ _ _ _ hx
      rw [rng_get (by simpa [hl] using hi)] at h1
      rw [List.getElem?_map, List.getElem?_eq_getElem (by omega)] at h2
      simp at h1 h2
      rw [← h1, ← h2]
      simp [List.getD_eq_getElem?_getD, show i < rs.length by omega]
    refine ok_loop (fun i e s' => ∃ y3 y4 y5, e = [some (.own o), some (.lst (rowsV rs)), some (.lst (nI goals)), y3, y4, y5, none, none, none] ∧ Keeps [o] st s' ∧ s'.length = s2.length ∧ s'[o]? = some (.ins "Equations" [("many", .int (many : Int)), ("signs", .lst (List.replicate m (.int 1))), ("rows", .own s1.length)]) ∧ s'[s1.length]? = some (.lst (rowsV ((List.range i).map fun h => fRow (rs.getD h []) m h (at0 goals h))))) _ 0 _ _ ?_ ⟨none, none, none, rfl, K2, rfl, ho3, hr2⟩ ?_
    · rintro i x hx e s' ⟨y3, y4, y5, rfl, K, ll, hO, hR⟩
      obtain ⟨hi, rfl⟩ := na i x hx
      rw [Nat.zero_add] at hR ⊢
      simp only [wkA, List.set_cons_zero, List.set_cons_succ, Option.some.injEq, exists_eq_left', exists_eq_left, List.length_cons, List.length_nil, Nat.reduceAdd, Nat.reduceLeDiff, true_and, and_true, if_true, Bool.not_true, Bool.not_false, Bool.false_eq_true, if_false, decide_eq_true_eq, List.cons.injEq, ↓reduceIte]
      refine Op.of (z := .int (m : Int)) (by simp [oLen, asS, asL, hl]) ?_
      refine ⟨⟨by unfold okR; simp; omega, by simp; omega⟩, ?_⟩
      have rn : (m : Int).toNat = m := by simp
      rw [rn]
      refine ok_map (fun x => match x with | .int j => .int (if j.toNat = i then 1 else 0) | x => x) (fun x hx => ?_) ?_
      · obtain ⟨j, hj⟩ := List.mem_iff_getElem?.mp hx
        obtain ⟨hj, rfl⟩ := rng_at hj
        simp only [wipeE]
        simp only [wkA, List.set_cons_zero, List.set_cons_succ, Option.some.injEq, exists_eq_left', exists_eq_left, List.length_cons, List.length_nil, Nat.reduceAdd, Nat.reduceLeDiff, true_and, and_true, if_true, Bool.not_true, Bool.not_false, Bool.false_eq_true, if_false, decide_eq_true_eq, List.cons.injEq, ↓reduceIte]
        refine Op.of (z := .int (if j = i then 1 else 0)) ?_ ?_
        · by_cases q : j = i
          · subst q; simp [oInt]
          · have : ¬ ((j : Int) = (i : Int)) := by omega
            simp [oInt, q, this]
        · simp
      · rw [nxK_nx]
        simp only [wkA, List.set_cons_zero, List.set_cons_succ, Option.some.injEq, exists_eq_left', exists_eq_left, List.length_cons, List.length_nil, Nat.reduceAdd, Nat.reduceLeDiff, true_and, and_true, if_true, Bool.not_true, Bool.not_false, Bool.false_eq_true, if_false, decide_eq_true_eq, List.cons.injEq, ↓reduceIte]
        refine ⟨_, _, _, rfl, hO, rfl, _, _, rfl, hR, ?_⟩
        refine ⟨_, rfl, ?_⟩
        refine ok_map (fun x => x) (fun x hx => ?_) ?_
        · obtain ⟨a, ha, rfl⟩ := List.mem_map.mp hx
          simp only [wipeE]
          simp only [wkA, List.set_cons_zero, List.set_cons_succ, Option.some.injEq, exists_eq_left', exists_eq_left, List.length_cons, List.length_nil, Nat.reduceAdd, Nat.reduceLeDiff, true_and, and_true, if_true, Bool.not_true, Bool.not_false, Bool.false_eq_true, if_false, decide_eq_true_eq, List.cons.injEq, ↓reduceIte]
          refine ⟨_, _, _, rfl, hO, rfl, ?_⟩
          refine Op.of (oIx_nat s' (x := .int 1) (by rw [List.getElem?_replicate, if_pos hi])) ?_
          refine Op.of (oMul_int s' (by decide) ?_) (by simp)
          have : a.natAbs ≤ 1 := small _ (by
            rw [List.getD_eq_getElem?_getD, List.getElem?_eq_getElem (show i < rs.length by omega)]
            exact List.getElem_mem _) a ha
          have : (1 : Nat) < 2 ^ 8000 := by decide
          omega
        · rw [List.map_id']
          have ow : (rng 0 m).map (fun x => match x with | .int j => .int (if j.toNat = i then 1 else 0) | x => x) = nI ((List.range m).map fun o => if o = i then 1 else 0) := by
            simp [rng]
          rw [ow]
          refine Op.of (z := .lst (nI (rs.getD i []) ++ nI ((List.range m).map fun o => if o = i then 1 else 0))) ?_ ?_
          · simp only [oAdd, oOr, oAddI, oI, oAddT, oAddS, oAddL, asM]
            rw [if_pos]
            simp
            have := hr i hi
            simp [List.getD_eq_getElem?_getD] at this
            omega
          · refine Op.of (oIx_nat s' (x := .int (at0 goals i)) (by rw [List.getElem?_map, List.getElem?_eq_getElem (by omega)]; simp [at0, show i < goals.length by omega])) ?_
            refine Op.of (oAbs_int _ _) ?_
            refine Op.of (z := .lst (nI (fRow (rs.getD i []) m i (at0 goals i)))) ?_ ?_
            · have ab : ((at0 goals i).natAbs : Int) = at0 goals i := by have := g i hi; omega
              rw [ab]
              simp only [oAdd, oOr, oAddI, oI, oAddT, oAddS, oAddL, asM]
              rw [if_pos]
              · simp [fRow]
              · simp
                have := hr i hi
                simp [List.getD_eq_getElem?_getD] at this
                omega
            · refine ⟨_, .non, _, hR, goApp_ok _ _ (by simp; omega), ?_⟩
              · refine ⟨_, _, _, ⟨rfl, rfl, rfl⟩, K.set (.inl (by omega)) _, by simp [ll], ?_, ?_⟩
                · rw [st_set hR, if_neg (by omega)]; exact hO
                · rw [st_set hR, if_pos rfl, List.range_succ]
                  simp [rowsV]
    · rintro e s' ⟨y3, y4, y5, rfl, K, ll, hO, hR⟩
      rw [Nat.zero_add, nl] at hR
      rw [nxK_nx]
      simp only [wkA, List.set_cons_zero, List.set_cons_succ, Option.some.injEq, exists_eq_left', exists_eq_left, List.length_cons, List.length_nil, Nat.reduceAdd, Nat.reduceLeDiff, true_and, and_true, if_true, Bool.not_true, Bool.not_false, Bool.false_eq_true, if_false, decide_eq_true_eq, List.cons.injEq, ↓reduceIte]
      refine Op.of (z := .int (m : Int)) (by simp [oLen, asS, asL, hl]) ?_
      refine ⟨⟨by unfold okR; simp; omega, by simp; omega⟩, ?_⟩
      have rn : (m : Int).toNat = m := by simp
      rw [rn]
      refine ok_map (fun x => match x with | .int j => .int ((many : Int) + j) | x => x) (fun x hx => ?_) ?_
      · obtain ⟨j, hj⟩ := List.mem_iff_getElem?.mp hx
        obtain ⟨hj, rfl⟩ := rng_at hj
        simp only [wipeE]
        simp only [wkA, List.set_cons_zero, List.set_cons_succ, Option.some.injEq, exists_eq_left', exists_eq_left, List.length_cons, List.length_nil, Nat.reduceAdd, Nat.reduceLeDiff, true_and, and_true, if_true, Bool.not_true, Bool.not_false, Bool.false_eq_true, if_false, decide_eq_true_eq, List.cons.injEq, ↓reduceIte]
        refine ⟨_, _, _, rfl, hO, rfl, ?_⟩
        exact Op.of (oAdd_int _ _ _) rfl
      · have bs : (rng 0 m).map (fun x => match x with | .int j => .int ((many : Int) + j) | x => x) = natsV ((List.range m).map fun h => many + h) := by
          simp [rng]
        rw [bs]
        have oL' : o < s'.length := (List.getElem?_eq_some_iff.mp hO).1
        refine ⟨_, _, rfl, by rw [List.getElem?_append_left oL']; exact hO, by simp, ?_⟩
        have hO' : (s' ++ [Cell.lst (natsV ((List.range m).map fun h => many + h))])[o]? = some (.ins "Equations" [("many", .int (many : Int)), ("signs", .lst (List.replicate m (.int 1))), ("rows", .own s1.length)]) := by rw [List.getElem?_append_left oL']; exact hO
        refine ⟨(K.trans (Keeps.app _ _ _)).set (.inr (by simp)) _, s1.length, s'.length, by omega, by omega, by omega, ⟨?_, ?_, ?_⟩⟩
        · rw [st_set hO', if_pos rfl]; rfl
        · rw [st_set hO', if_neg (by omega), List.getElem?_append_left (by omega)]; exact hR
        · rw [st_set hO', if_neg (by omega)]; simp [fTab]
end Lq
end
section
set_option Elab.async false
set_option linter.all false
namespace Sx
theorem si_split (f : Nat → Int) (a : Nat) : ∀ b, si (a + b) f = si a f + si b (fun j => f (a + j))
  | 0 => by simp only [si, Nat.add_zero]; omega
  | b + 1 => by
    show si (a + b) f + f (a + b) = _
    rw [si_split f a b, si]; omega
theorem si_comm (f : Nat → Nat → Int) (n : Nat) : ∀ m : Nat, si m (fun i => si n (f i)) = si n (fun j => si m (fun i => f i j))
  | 0 => by simp only [si]; rw [si_zero (f := fun _ => 0) fun _ _ => rfl]
  | m + 1 => by
    simp only [si]
    rw [si_comm f n m, ← si_add]
theorem si_nonneg {f : Nat → Int} : ∀ {n : Nat}, (∀ j, j < n → 0 ≤ f j) → 0 ≤ si n f
  | 0, _ => Int.le_refl _
  | n + 1, h => by
    have a := si_nonneg (n := n) fun j hj => h j (by omega)
    have b := h n (by omega)
    rw [si]; omega
theorem si_pos {f : Nat → Int} : ∀ {n : Nat}, (∀ j, j < n → 0 ≤ f j) → ∀ k, k < n → 0 < f k → 0 < si n f
  | n + 1, h, k, hk, p => by
    rw [si]
    by_cases e : k = n
    · subst e
      have a := si_nonneg (n := k) fun j hj => h j (by omega)
      omega
    · have a := si_pos (n := n) (fun j hj => h j (by omega)) k (by omega) p
      have b := h n (by omega)
      omega
theorem si_neg (f : Nat → Int) (n : Nat) : si n (fun j => - f j) = - si n f := by
  have := si_mul (-1) f n
  rw [si_congr (g := fun j => -1 * f j) fun j _ => by omega, this]; omega
end Sx
namespace Lq
open Sx (si si_congr si_zero si_add si_mul si_comm si_nonneg si_pos si_neg)
inductive Sg where
  | gt | ge | eq
  deriving DecidableEq
structure Cp where
  one : List Nat
  sg : Sg
  other : List Nat
  deriving DecidableEq
instance : Inhabited Cp := ⟨⟨[], .eq, []⟩⟩
def inc (l : List Nat) (t : Nat) : Int := if t ∈ l then 1 else 0
def Cp.c (c : Cp) (t : Nat) : Int := inc c.one t - inc c.other t
theorem inc_01 (l : List Nat) (t : Nat) : inc l t = 0 ∨ inc l t = 1 := by unfold inc; split <;> simp
theorem Cp.c_small (c : Cp) (t : Nat) : (c.c t).natAbs ≤ 1 := by
  unfold Cp.c
  rcases inc_01 c.one t with a | a <;> rcases inc_01 c.other t with b | b <;> rw [a, b] <;> decide
def dif (k : Nat) (w : Nat → Int) (c : Cp) : Int := si k (fun t => c.c t * w t)
def Hold (k : Nat) (w : Nat → Int) (c : Cp) : Prop := match c.sg with
  | .gt => 0 < dif k w c
  | .ge => 0 ≤ dif k w c
  | .eq => dif k w c = 0
def Agree (k : Nat) (told : List Cp) (w : Nat → Int) : Prop := ∀ c, c ∈ told → Hold k w c
def exc (told : List Cp) (v : Nat → Int) (t : Nat) : Int := si told.length (fun i => v i * (told.getD i default).c t)
structure Bal (k : Nat) (told : List Cp) (v : Nat → Int) : Prop where
  nn : ∀ i, i < told.length → (told.getD i default).sg ≠ .eq → 0 ≤ v i
  le : ∀ t, t < k → exc told v t ≤ 0
  st : (∃ i, i < told.length ∧ (told.getD i default).sg = .gt ∧ 0 < v i) ∨ ∃ t, t < k ∧ exc told v t < 0
theorem getD_mem {told : List Cp} {i : Nat} (h : i < told.length) : told.getD i default ∈ told := by
  rw [List.getD_eq_getElem?_getD, List.getElem?_eq_getElem h]; exact List.getElem_mem h
theorem bars {k : Nat} {told : List Cp} {w v : Nat → Int} (A : Agree k told w) (W : ∀ t, t < k → 0 < w t) (B : Bal k told v) : False := by
  have e : si told.length (fun i => v i * dif k w (told.getD i default)) = si k (fun t => exc told v t * w t) := by
    rw [si_congr (g := fun i => si k (fun t => v i * ((told.getD i default).c t * w t))) fun i _ => by unfold dif; rw [si_mul], si_comm]
    refine si_congr fun t _ => ?_
    unfold exc
    rw [si_congr (g := fun i => w t * (v i * (told.getD i default).c t)) fun i _ => by grind, si_mul]
    grind
  have l : ∀ i, i < told.length → 0 ≤ v i * dif k w (told.getD i default) := fun i hi => by
    have a := A _ (getD_mem hi)
    have b := B.nn i hi
    unfold Hold at a
    cases q : (told.getD i default).sg with
    | gt => rw [q] at a b; exact Int.mul_nonneg (b (by simp)) (Int.le_of_lt a)
    | ge => rw [q] at a b; exact Int.mul_nonneg (b (by simp)) a
    | eq => rw [q] at a; simp only at a; rw [a]; simp
  have r : ∀ t, t < k → 0 ≤ - (exc told v t * w t) := fun t ht => by
    have a := B.le t ht
    have b := W t ht
    have := Int.mul_nonneg (a := - exc told v t) (b := w t) (by omega) (by omega)
    have : (- exc told v t) * w t = - (exc told v t * w t) := by grind
    omega
  have r0 := si_nonneg r
  rw [si_neg] at r0
  have l0 := si_nonneg l
  rcases B.st with ⟨i, hi, g, p⟩ | ⟨t, ht, p⟩
  · have a := A _ (getD_mem hi)
    unfold Hold at a
    rw [g] at a
    have := si_pos l i hi (Int.mul_pos p a)
    omega
  · have b := W t ht
    have := Int.mul_pos (a := - exc told v t) (b := w t) (by omega) b
    have := si_pos r t ht (by have : (- exc told v t) * w t = - (exc told v t * w t) := by grind
                              omega)
    rw [si_neg] at this
    omega
end Lq
end
section
set_option Elab.async false
set_option linter.all false
namespace Lq
open Sx (si si_congr si_zero si_add si_mul si_comm si_nonneg si_pos si_neg at0 sm)
def rowI (k : Nat) (c : Cp) : List Int := (List.range k).map c.c
def gtI (c : Cp) : Int := if c.sg = .gt then 1 else 0
def colC (k : Nat) (c : Cp) : List (List Int) := (rowI k c ++ [gtI c]) :: (if c.sg = .eq then [(rowI k c).map (fun x => -x) ++ [0]] else [])
def colsC (k : Nat) : List Cp → List (List Int)
  | [] => []
  | c :: r => colC k c ++ colsC k r
def thC (k t : Nat) : List Int := (List.range k).map (fun o => if o = t then (1 : Int) else 0) ++ [1]
def colT (k : Nat) : List (List Int) := (List.range k).map (thC k)
def cols (k : Nat) (told : List Cp) : List (List Int) := colsC k told ++ colT k
def nmC (i : Nat) (c : Cp) : List (Option Nat × Int) := (some i, 1) :: (if c.sg = .eq then [(some i, -1)] else [])
def nms : Nat → List Cp → List (Option Nat × Int)
  | _, [] => []
  | i, c :: r => nmC i c ++ nms (i + 1) r
theorem colsC_snoc (k : Nat) (c : Cp) : ∀ t, colsC k (t ++ [c]) = colsC k t ++ colC k c
  | [] => by simp [colsC]
  | a :: t => by simp [colsC, colsC_snoc k c t]
theorem nms_snoc (c : Cp) : ∀ t i, nms i (t ++ [c]) = nms i t ++ nmC (i + t.length) c
  | [], i => by simp [nms]
  | a :: t, i => by
    simp [nms, nms_snoc c t (i + 1)]
    congr 1
    omega
theorem nms_len (k : Nat) : ∀ t i, (nms i t).length = (colsC k t).length
  | [], _ => rfl
  | c :: t, i => by
    rw [nms, colsC, List.length_append, List.length_append, nms_len k t]
    unfold nmC colC
    split <;> rfl
theorem colsC_len (k : Nat) : ∀ t, (colsC k t).length ≤ 2 * t.length
  | [] => by simp [colsC]
  | c :: t => by
    have := colsC_len k t
    rw [colsC, List.length_append]
    unfold colC
    split <;> simp <;> omega
theorem at0_app (xs ys : List Int) (j : Nat) : at0 (xs ++ ys) j = if j < xs.length then at0 xs j else at0 ys (j - xs.length) := by
  unfold at0
  simp only [List.getD_eq_getElem?_getD]
  split
  · rename_i h; rw [List.getElem?_append_left h]
  · rename_i h; rw [List.getElem?_append_right (by omega)]
theorem at0_rng (f : Nat → Int) (n j : Nat) : at0 ((List.range n).map f) j = if j < n then f j else 0 := by
  unfold at0
  rw [List.getD_eq_getElem?_getD, List.getElem?_map]
  by_cases h : j < n
  · rw [List.getElem?_range h, if_pos h]; rfl
  · rw [List.getElem?_eq_none (by simpa using h), if_neg h]; rfl
def cf (k : Nat) (c : Cp) (h : Nat) : Int := if h < k then c.c h else if h = k then gtI c else 0
theorem at0_big {xs : List Int} {j : Nat} (h : xs.length ≤ j) : at0 xs j = 0 := by
  unfold at0; rw [List.getD_eq_getElem?_getD, List.getElem?_eq_none h]; rfl
theorem col_at (k : Nat) (c : Cp) (h : Nat) : at0 (rowI k c ++ [gtI c]) h = cf k c h := by
  unfold cf rowI
  rw [at0_app, at0_rng, List.length_map, List.length_range]
  by_cases a : h < k
  · simp only [a, if_true]
  · simp only [a, if_false]
    by_cases b : h = k
    · simp [b, at0]
    · rw [if_neg b, at0_big (by simp; omega)]
theorem colN_at (k : Nat) (c : Cp) (e : c.sg = .eq) (h : Nat) : at0 ((rowI k c).map (fun x => -x) ++ [0]) h = - cf k c h := by
  unfold cf rowI
  rw [at0_app, List.map_map, at0_rng, List.length_map, List.length_range]
  by_cases a : h < k
  · simp only [a, if_true, Function.comp]
  · simp only [a, if_false]
    by_cases b : h = k
    · simp [b, at0, gtI, e]
    · rw [if_neg b, at0_big (by simp; omega)]; rfl
theorem th_at (k t h : Nat) (ht : t < k) : at0 (thC k t) h = if h < k then (if h = t then 1 else 0) else if h = k then 1 else 0 := by
  unfold thC
  rw [at0_app, at0_rng, List.length_map, List.length_range]
  by_cases a : h < k
  · simp only [a, if_true]
  · simp only [a, if_false]
    by_cases b : h = k
    · simp [b, at0]
    · rw [if_neg b, at0_big (by simp; omega)]
theorem cf_small (k : Nat) (c : Cp) (h : Nat) : (cf k c h).natAbs ≤ 1 := by
  unfold cf
  split
  · exact c.c_small h
  · split
    · unfold gtI; split <;> decide
    · decide
theorem col_len (k : Nat) (told : List Cp) : ∀ col, col ∈ cols k told → col.length = k + 1 ∧ ∀ h, (at0 col h).natAbs ≤ 1 := by
  have key : ∀ t : List Cp, ∀ col, col ∈ colsC k t → col.length = k + 1 ∧ ∀ h, (at0 col h).natAbs ≤ 1 := by
    intro t
    induction t with
    | nil => intro col h; simp [colsC] at h
    | cons c t ih =>
      intro col h
      rw [colsC, List.mem_append] at h
      rcases h with h | h
      · unfold colC at h
        rcases List.mem_cons.mp h with rfl | h
        · exact ⟨by simp [rowI], fun h => by rw [col_at]; exact cf_small k c h⟩
        · split at h
          · rename_i e
            rcases List.mem_cons.mp h with rfl | h
            · exact ⟨by simp [rowI], fun h => by rw [colN_at k c e, Int.natAbs_neg]; exact cf_small k c h⟩
            · simp at h
          · simp at h
      · exact ih col h
  intro col h
  unfold cols at h
  rcases List.mem_append.mp h with h | h
  · exact key told col h
  · unfold colT at h
    obtain ⟨t, ht, rfl⟩ := List.mem_map.mp h
    have ht := List.mem_range.mp ht
    refine ⟨by simp [thC], fun h => ?_⟩
    rw [th_at k t h ht]
    split
    · split <;> decide
    · split <;> decide
def dotc : List (List Int) → List Int → Nat → Int
  | c :: cs, w :: ws, h => at0 c h * w + dotc cs ws h
  | _, _, _ => 0
theorem si_one_add (f : Nat → Int) (n : Nat) : si (n + 1) f = f 0 + si n (fun j => f (j + 1)) := by
  have := Sx.si_split f 1 n
  rw [Nat.add_comm 1 n] at this
  rw [this]
  simp only [si]
  rw [si_congr (f := fun j => f (1 + j)) (g := fun j => f (j + 1)) fun j _ => by rw [Nat.add_comm]]
  omega
theorem dotc_si : ∀ (cs : List (List Int)) (ws : List Int) (h : Nat), cs.length = ws.length → si cs.length (fun j => at0 (cs.getD j []) h * at0 ws j) = dotc cs ws h
  | [], [], _, _ => rfl
  | c :: cs, w :: ws, h, e => by
    rw [List.length_cons, si_one_add, dotc, ← dotc_si cs ws h (by simpa using e)]
    rfl
def lexc : List Cp → List Int → (Cp → Int) → Int
  | c :: r, v :: vs, f => v * f c + lexc r vs f
  | _, _, _ => 0
theorem lexc_si (f : Cp → Int) : ∀ (told : List Cp) (vs : List Int), told.length = vs.length → si told.length (fun i => at0 vs i * f (told.getD i default)) = lexc told vs f
  | [], [], _ => rfl
  | c :: r, v :: vs, e => by
    rw [List.length_cons, si_one_add, lexc, ← lexc_si f r vs (by simpa using e)]
    rfl
def val : List Cp → List Int → List Int × List Int
  | [], ws => ([], ws)
  | c :: r, ws => if c.sg = .eq then ((at0 ws 0 - at0 ws 1) :: (val r (ws.drop 2)).1, (val r (ws.drop 2)).2) else (at0 ws 0 :: (val r (ws.drop 1)).1, (val r (ws.drop 1)).2)
theorem val_eq {c : Cp} (e : c.sg = .eq) (r : List Cp) (x y : Int) (ws : List Int) : val (c :: r) (x :: y :: ws) = ((x - y) :: (val r ws).1, (val r ws).2) := by
  rw [val, if_pos e]; rfl
theorem val_ne {c : Cp} (e : c.sg ≠ .eq) (r : List Cp) (x : Int) (ws : List Int) : val (c :: r) (x :: ws) = (x :: (val r ws).1, (val r ws).2) := by
  rw [val, if_neg e]; rfl
theorem val_spec (k : Nat) (B : List (List Int)) (h : Nat) : ∀ (r : List Cp) (ws : List Int), (colsC k r).length ≤ ws.length →
    dotc (colsC k r ++ B) ws h = lexc r (val r ws).1 (fun c => cf k c h) + dotc B (val r ws).2 h ∧ (val r ws).1.length = r.length ∧ (val r ws).2.length + (colsC k r).length = ws.length ∧ ((∀ w, w ∈ ws → 0 ≤ w) → (∀ w, w ∈ (val r ws).2 → 0 ≤ w) ∧ ∀ i, i < r.length → (r.getD i default).sg ≠ .eq → 0 ≤ at0 (val r ws).1 i)
  | [], ws, _ => by simp [colsC, val, lexc]
  | c :: r, ws, hl => by
    rw [colsC] at hl
    unfold colC at hl
    by_cases e : c.sg = .eq
    · rw [if_pos e] at hl
      match ws, hl with
      | x :: y :: ws, hl =>
        obtain ⟨a, b, d, f⟩ := val_spec k B h r ws (by simp at hl; omega)
        rw [val_eq e]
        refine ⟨?_, by simp [b], ?_, fun nn => ?_⟩
        · rw [colsC, colC, if_pos e]
          simp only [List.cons_append, List.nil_append, dotc, lexc]
          rw [a, col_at, colN_at k c e]
          grind
        · rw [colsC, colC, if_pos e]; simp; omega
        · obtain ⟨f1, f2⟩ := f fun w hw => nn w (by simp [hw])
          refine ⟨f1, fun i hi ne => ?_⟩
          cases i with
          | zero => exact absurd e ne
          | succ i => exact f2 i (by simpa using hi) ne
      | [x], hl => simp at hl
      | [], hl => simp at hl
    · rw [if_neg e] at hl
      match ws, hl with
      | x :: ws, hl =>
        obtain ⟨a, b, d, f⟩ := val_spec k B h r ws (by simp at hl; omega)
        rw [val_ne e]
        refine ⟨?_, by simp [b], ?_, fun nn => ?_⟩
        · rw [colsC, colC, if_neg e]
          simp only [List.cons_append, List.nil_append, dotc, lexc]
          rw [a, col_at]
          grind
        · rw [colsC, colC, if_neg e]; simp; omega
        · obtain ⟨f1, f2⟩ := f fun w hw => nn w (by simp [hw])
          refine ⟨f1, fun i hi ne => ?_⟩
          cases i with
          | zero => exact nn x (by simp)
          | succ i => exact f2 i (by simpa using hi) ne
      | [], hl => simp at hl
theorem dotc_th (k h : Nat) : ∀ (ws : List Int), ws.length = k → dotc (colT k) ws h = if h < k then at0 ws h else if h = k then si k (at0 ws) else 0 := by
  intro ws e
  have a := dotc_si (colT k) ws h (by simp [colT, e])
  rw [← a]
  have l : (colT k).length = k := by simp [colT]
  rw [l, si_congr (g := fun j => (if h < k then (if h = j then 1 else 0) else if h = k then 1 else 0) * at0 ws j) fun j hj => by
    have : (colT k).getD j [] = thC k j := by simp [colT, List.getD_eq_getElem?_getD, hj]
    rw [this, th_at k j h hj]]
  by_cases c : h < k
  · simp only [c, if_true]
    rw [Sx.si_one c fun j _ ne => by rw [if_neg (Ne.symm ne)]; omega]
    simp
  · simp only [c, if_false]
    by_cases d : h = k
    · simp only [d, if_true]
      exact si_congr fun j _ => by omega
    · simp only [d, if_false]
      exact si_zero fun j _ => by omega
theorem lexc_exc (k t : Nat) (ht : t < k) {told : List Cp} {vs : List Int} (e : told.length = vs.length) : lexc told vs (fun c => cf k c t) = exc told (at0 vs) t := by
  rw [← lexc_si _ told vs e]
  unfold exc
  exact si_congr fun i _ => by simp [cf, ht]
theorem si_none {f : Nat → Int} {n : Nat} (h : ∀ j, j < n → f j ≤ 0) : si n f ≤ 0 := by
  have := si_nonneg (f := fun j => - f j) (n := n) fun j hj => by have := h j hj; omega
  rw [si_neg] at this; omega
theorem val_bal {k : Nat} {told : List Cp} {ws : List Int} {L : Int} (hl : ws.length = (cols k told).length) (nn : ∀ w, w ∈ ws → 0 ≤ w) (L0 : 0 < L)
    (rows : ∀ h, h ≤ k → dotc (cols k told) ws h = if h = k then L else 0) : (val told ws).1.length = told.length ∧ Bal k told (at0 (val told ws).1) := by
  have lt : (colT k).length = k := by simp [colT]
  have le : (colsC k told).length ≤ ws.length := by rw [hl]; simp [cols]
  have sp := fun h => val_spec k (colT k) h told ws le
  obtain ⟨_, b, d, f⟩ := sp 0
  obtain ⟨f1, f2⟩ := f nn
  have l2 : (val told ws).2.length = k := by
    have : ws.length = (colsC k told).length + k := by rw [hl]; simp [cols, lt]
    omega
  have nn2 : ∀ t, 0 ≤ at0 (val told ws).2 t := fun t => by
    by_cases z : at0 (val told ws).2 t = 0
    · omega
    · exact f1 _ (Sx.at0_mem z)
  have ex : ∀ t, t < k → exc told (at0 (val told ws).1) t = - at0 (val told ws).2 t := fun t ht => by
    have a := (sp t).1
    have r := rows t (by omega)
    rw [if_neg (by omega)] at r
    unfold cols at r
    rw [r, dotc_th k t _ l2, if_pos ht, lexc_exc k t ht b.symm] at a
    omega
  refine ⟨b, f2, fun t ht => ?_, ?_⟩
  · rw [ex t ht]; have := nn2 t; omega
  · have a := (sp k).1
    have r := rows k (Nat.le_refl k)
    rw [if_pos rfl] at r
    unfold cols at r
    rw [r, dotc_th k k _ l2, if_neg (by omega), if_pos rfl, ← lexc_si _ told _ b.symm] at a
    refine Classical.byContradiction fun no => ?_
    have z1 : si told.length (fun i => at0 (val told ws).1 i * cf k (told.getD i default) k) ≤ 0 := si_none fun i hi => by
      unfold cf
      rw [if_neg (by omega), if_pos rfl]
      unfold gtI
      split
      · rename_i g
        refine Classical.byContradiction fun p => no (.inl ⟨i, hi, g, by omega⟩)
      · omega
    have z2 : si k (at0 (val told ws).2) ≤ 0 := si_none fun t ht => by
      refine Classical.byContradiction fun p => no (.inr ⟨t, ht, by rw [ex t ht]; omega⟩)
    omega
theorem nums_agree {k : Nat} {told : List Cp} {ys : List Int} (hl : ys.length = k + 1) (hc : ∀ col, col ∈ cols k told → si (k + 1) (fun h => at0 ys h * at0 col h) ≤ 0) (hp : 0 < at0 ys k) :
    (∀ t, t < k → 0 < - at0 ys t) ∧ Agree k told (fun t => - at0 ys t) := by
  have memT : ∀ t, t < k → thC k t ∈ cols k told := fun t ht => by
    unfold cols colT
    exact List.mem_append_right _ (List.mem_map.mpr ⟨t, List.mem_range.mpr ht, rfl⟩)
  have memC : ∀ r : List Cp, ∀ c, c ∈ r → ∀ col, col ∈ colC k c → col ∈ colsC k r := by
    intro r
    induction r with
    | nil => intro c h; simp at h
    | cons a r ih =>
      intro c h col hcol
      rw [colsC]
      rcases List.mem_cons.mp h with rfl | h
      · exact List.mem_append_left _ hcol
      · exact List.mem_append_right _ (ih c h col hcol)
  refine ⟨fun t ht => ?_, fun c hcm => ?_⟩
  · have a := hc _ (memT t ht)
    rw [si, si_congr (g := fun h => at0 ys h * (if h = t then 1 else 0)) fun h hh => by rw [th_at k t h ht, if_pos hh], Sx.si_one ht fun j _ ne => by rw [if_neg ne]; omega, if_pos rfl, th_at k t k ht, if_neg (by omega), if_pos rfl] at a
    omega
  · have key : ∀ col, col ∈ colC k c → si (k + 1) (fun h => at0 ys h * at0 col h) ≤ 0 := fun col h => hc col (List.mem_append_left _ (memC told c hcm col h))
    have a := key (rowI k c ++ [gtI c]) (by simp [colC])
    have d : dif k (fun t => - at0 ys t) c = - si k (fun h => at0 ys h * c.c h) := by
      unfold dif
      rw [← si_neg]
      exact si_congr fun h _ => by grind
    rw [si, si_congr (g := fun h => at0 ys h * c.c h) fun h hh => by rw [col_at]; simp [cf, hh], col_at] at a
    have gk : cf k c k = gtI c := by simp [cf]
    rw [gk] at a
    unfold Hold
    rw [d]
    cases q : c.sg with
    | gt =>
      have g : gtI c = 1 := by simp [gtI, q]
      rw [g] at a
      simp only; omega
    | ge =>
      have g : gtI c = 0 := by simp [gtI, q]
      rw [g] at a
      simp only; omega
    | eq =>
      simp only
      have g : gtI c = 0 := by simp [gtI, q]
      rw [g] at a
      have b := key ((rowI k c).map (fun x => -x) ++ [0]) (by simp [colC, q])
      rw [si, si_congr (g := fun h => - (at0 ys h * c.c h)) fun h hh => by rw [colN_at k c q]; simp only [cf, hh, if_true]; grind, colN_at k c q, gk, si_neg, g] at b
      omega
end Lq
end
section
set_option Elab.async false
set_option linter.all false
set_option maxRecDepth 10000
set_option exponentiation.threshold 20000
namespace Lq
open PySem PySem.Spec PyProof.Rows L2
open Sx (at0 clr comb short LT sm si)
def Sg.s : Sg → Str
  | .gt => ">"
  | .ge => ">="
  | .eq => "="
def lotV (l : List Nat) : PV := .tup (natsV l)
def cpV (c : Cp) : PV := .tup [lotV c.one, .str c.sg.s, lotV c.other]
def toldV (t : List Cp) : PV := .tup (t.map cpV)
theorem any_nats (t : Nat) : ∀ l : List Nat, (natsV l).any (fun z => peq z (.int (t : Int))) = decide (t ∈ l)
  | [] => by simp
  | a :: l => by
    show (PV.int (a : Int) :: natsV l).any _ = _
    rw [List.any_cons, any_nats t l]
    have : peq (.int (a : Int)) (.int (t : Int)) = decide (t = a) := by
      rw [peq]
      by_cases h : t = a
      · simp [h]
      · have : ¬ ((a : Int) = (t : Int)) := by omega
        simp [h, this]
    rw [this]
    by_cases h : t = a
    · simp [h]
    · simp [h]
theorem all_flat : ∀ l : List Nat, (natsV l).all flatP = true
  | [] => rfl
  | a :: l => by
    show (PV.int (a : Int) :: natsV l).all flatP = true
    rw [List.all_cons, all_flat l]; rfl
theorem oIn_lot (t : Nat) (l : List Nat) (s : Store) : oIn (.int (t : Int)) (lotV l) s = some (.bl (decide (t ∈ l))) := by
  have e : oInF (.int (t : Int)) (lotV l) s = some (.bl (decide (t ∈ l))) := by
    simp only [oInF, lotV, asS]
    rw [all_flat, if_pos (by rfl), any_nats]
  simp only [oIn, oOr, e]
theorem row_of_ok {k : Nat} (hk : k ≤ 100) (c : Cp) (st : Store) : p_row_of [.int (k : Int), cpV c] st = .ok (.lst (nI (rowI k c))) st := by
  have : Ok (p_row_of [.int (k : Int), cpV c] st) fun v s => v = .lst (nI (rowI k c)) ∧ s = st := by
    have sz := szl
    (unfold p_row_of runF; rw [ok_retF]; simp only [env0, List.map_cons, List.map_nil, List.length_cons, List.length_nil, Nat.reduceAdd, Nat.reduceSub, List.reduceReplicate, List.cons_append, List.nil_append])
    unfold cpV
    simp only [wkA, List.set_cons_zero, List.set_cons_succ, Option.some.injEq, exists_eq_left', exists_eq_left, List.length_cons, List.length_nil, Nat.reduceAdd, Nat.reduceLeDiff, true_and, and_true, if_true, Bool.not_true, Bool.not_false, Bool.false_eq_true, if_false, decide_eq_true_eq, List.cons.injEq, ↓reduceIte]
    rw [nxK_nx]
    simp only [wkA, List.set_cons_zero, List.set_cons_succ, Option.some.injEq, exists_eq_left', exists_eq_left, List.length_cons, List.length_nil, Nat.reduceAdd, Nat.reduceLeDiff, true_and, and_true, if_true, Bool.not_true, Bool.not_false, Bool.false_eq_true, if_false, decide_eq_true_eq, List.cons.injEq, ↓reduceIte]
    refine ⟨⟨by unfold okR; simp; omega, by simp; omega⟩, ?_⟩
    have rn : (k : Int).toNat = k := by simp
    rw [rn]
    refine ok_map (fun x => match x with | .int j => .int (c.c j.toNat) | x => x) (fun x hx => ?_) ?_
    · obtain ⟨j, hj⟩ := List.mem_iff_getElem?.mp hx
      obtain ⟨hj, rfl⟩ := rng_at hj
      simp only [wipeE]
      simp only [wkA, List.set_cons_zero, List.set_cons_succ, Option.some.injEq, exists_eq_left', exists_eq_left, List.length_cons, List.length_nil, Nat.reduceAdd, Nat.reduceLeDiff, true_and, and_true, if_true, Bool.not_true, Bool.not_false, Bool.false_eq_true, if_false, decide_eq_true_eq, List.cons.injEq, ↓reduceIte]
      refine Op.of (oIn_lot _ _ _) (Op.of (z := .int (inc c.one j)) (by simp [oInt, inc]) (Op.of (oIn_lot _ _ _) (Op.of (z := .int (inc c.other j)) (by simp [oInt, inc]) ?_)))
      simp [oSub_int, op_some, Cp.c]
    · refine ⟨?_, rfl⟩
      simp [rng, rowI]
  obtain ⟨v, s, e, rfl, rfl⟩ := this
  exact e
def lcs : List (Int × Int) → Nat → Nat
  | [], L => L
  | p :: r, L => lcs r (Nat.lcm L p.2.natAbs)
theorem lcs_dvd : ∀ (fs : List (Int × Int)) (L : Nat), L ∣ lcs fs L ∧ ∀ p, p ∈ fs → p.2.natAbs ∣ lcs fs L
  | [], L => ⟨Nat.dvd_refl _, fun p h => by simp at h⟩
  | q :: r, L => by
    obtain ⟨a, b⟩ := lcs_dvd r (Nat.lcm L q.2.natAbs)
    refine ⟨Nat.dvd_trans (Nat.dvd_lcm_left _ _) a, fun p hp => ?_⟩
    rcases List.mem_cons.mp hp with rfl | hp
    · exact Nat.dvd_trans (Nat.dvd_lcm_right _ _) a
    · exact b p hp
theorem lcs_pos : ∀ (fs : List (Int × Int)) (L : Nat), 0 < L → (∀ p, p ∈ fs → 0 < p.2) → 0 < lcs fs L
  | [], L, h, _ => h
  | q :: r, L, h, f => lcs_pos r _ (Nat.lcm_pos h (by have := f q (by simp); omega)) fun p hp => f p (by simp [hp])
theorem lcs_small (N : Nat) : ∀ (fs : List (Int × Int)) (L e : Nat), L < 2 ^ e → (∀ p, p ∈ fs → p.2.natAbs < 2 ^ N) → lcs fs L < 2 ^ (e + N * fs.length)
  | [], L, e, h, _ => by simpa [lcs] using h
  | q :: r, L, e, h, f => by
    have a : Nat.lcm L q.2.natAbs < 2 ^ (e + N) := by
      have b : Nat.lcm L q.2.natAbs ≤ L * q.2.natAbs := Nat.div_le_self _ _
      have c := Nat.mul_lt_mul'' h (f q (by simp))
      rw [Nat.pow_add]; omega
    have := lcs_small N r _ (e + N) a fun p hp => f p (by simp [hp])
    rw [lcs, List.length_cons]
    rw [show e + N * (r.length + 1) = e + N + N * r.length by rw [Nat.mul_add]; omega]
    exact this
theorem common_loop (st : Store) : ∀ (fs : List (Int × Int)) (L e : Nat) (y0 y2 : Option PV), 0 < L → L < 2 ^ e → e + 243 * fs.length ≤ 7000 → (∀ p, p ∈ fs → 0 < p.2 ∧ p.2.natAbs < 2 ^ 243) →
    Ok (loopV (gNm 2) (sSet 1 (eBin oDiv (eBin oMul (eVar 1) (eBin oIx (eVar 2) (eC (.int 1)))) (eCall 2 p_divisor_of (aCons (eVar 1) (aCons (eBin oIx (eVar 2) (eC (.int 1))) aNil))))) (fs.map frV) [y0, some (.int (L : Int)), y2] st) fun fl s => s = st ∧ ∃ y2', fl = .nx [y0, some (.int (lcs fs L : Nat)), y2']
  | [], L, e, y0, y2, _, _, _, _ => by rw [List.map_nil, loopV, ok_ok]; exact ⟨rfl, y2, rfl⟩
  | q :: r, L, e, y0, y2, L0, Le, he, f => by
    obtain ⟨q0, q1⟩ := f q (by simp)
    have big : (2 : Nat) ^ 243 < 2 ^ 1000 := by decide
    have Lb : L < 2 ^ 8000 := Nat.lt_of_lt_of_le Le (Nat.pow_le_pow_right (by decide) (by omega))
    have qb : q.2.natAbs < 2 ^ 8000 := Nat.lt_trans q1 (by decide)
    have g0 : 0 < Nat.gcd L q.2.natAbs := Nat.gcd_pos_of_pos_left _ L0
    have gb : Nat.gcd L q.2.natAbs ≤ L := Nat.gcd_le_left _ L0
    rw [List.map_cons, loopV, ok_bind]
    unfold frV
    simp only [wkA, List.set_cons_zero, List.set_cons_succ, Option.some.injEq, exists_eq_left', exists_eq_left, List.length_cons, List.length_nil, Nat.reduceAdd, Nat.reduceLeDiff, true_and, and_true, if_true, Bool.not_true, Bool.not_false, Bool.false_eq_true, if_false, decide_eq_true_eq, List.cons.injEq, ↓reduceIte]
    have i1 : oIx (.tup [.int q.1, .int q.2]) (.int 1) st = some (.int q.2) := oIxT_nat st (j := 1) rfl
    refine Op.of i1 (Op.of (oMul_int (a := (L : Int)) st (by rw [Int.natAbs_natCast]; exact Lb) qb) (Op.of i1 ?_))
    rw [Ok.eq (divisor_ok st (Nat.lt_trans q1 big))]
    refine Op.of (oDiv_int st (by rw [Int.natAbs_natCast]; omega) (by rw [Int.natAbs_natCast, Int.natAbs_natCast]; omega)) ?_
    have ev : (L : Int) * q.2 / ((Nat.gcd (L : Int).natAbs q.2.natAbs : Nat) : Int) = ((Nat.lcm L q.2.natAbs : Nat) : Int) := by
      have : q.2 = (q.2.natAbs : Int) := by omega
      unfold Nat.lcm
      rw [Int.natAbs_natCast]
      conv => lhs; rw [this]
      rw [← Int.natCast_mul, ← Int.natCast_ediv]
      simp
    rw [ev]
    have a : Nat.lcm L q.2.natAbs < 2 ^ (e + 243) := by
      have b : Nat.lcm L q.2.natAbs ≤ L * q.2.natAbs := Nat.div_le_self _ _
      have c := Nat.mul_lt_mul'' Le q1
      rw [Nat.pow_add]; omega
    rw [lcs]
    exact common_loop st r _ (e + 243) y0 _ (Nat.lcm_pos L0 (by omega)) a (by rw [List.length_cons] at he; omega) fun p hp => f p (by simp [hp])
theorem common_ok {fs : List (Int × Int)} (st : Store) (hl : fs.length ≤ 28) (f : ∀ p, p ∈ fs → 0 < p.2 ∧ p.2.natAbs < 2 ^ 243) : p_common_bottom [.lst (fs.map frV)] st = .ok (.int (lcs fs 1 : Nat)) st := by
  have : Ok (p_common_bottom [.lst (fs.map frV)] st) fun v s => v = .int (lcs fs 1 : Nat) ∧ s = st := by
    (unfold p_common_bottom runF; rw [ok_retF]; simp only [env0, List.map_cons, List.map_nil, List.length_cons, List.length_nil, Nat.reduceAdd, Nat.reduceSub, List.reduceReplicate, List.cons_append, List.nil_append])
    simp only [wkA, List.set_cons_zero, List.set_cons_succ, Option.some.injEq, exists_eq_left', exists_eq_left, List.length_cons, List.length_nil, Nat.reduceAdd, Nat.reduceLeDiff, true_and, and_true, if_true, Bool.not_true, Bool.not_false, Bool.false_eq_true, if_false, decide_eq_true_eq, List.cons.injEq, ↓reduceIte]
    rw [nxK_nx]
    simp only [wkA, List.set_cons_zero, List.set_cons_succ, Option.some.injEq, exists_eq_left', exists_eq_left, List.length_cons, List.length_nil, Nat.reduceAdd, Nat.reduceLeDiff, true_and, and_true, if_true, Bool.not_true, Bool.not_false, Bool.false_eq_true, if_false, decide_eq_true_eq, List.cons.injEq, ↓reduceIte]
    refine ⟨_, rfl, ?_⟩
    refine (common_loop st fs 1 1 (some (.lst (fs.map frV))) none (by decide) (by decide) (by omega) f).mono fun fl s h => ?_
    obtain ⟨rfl, y2, rfl⟩ := h
    rw [nxK_nx]
    simp only [wkA, List.set_cons_zero, List.set_cons_succ, Option.some.injEq, exists_eq_left', exists_eq_left, List.length_cons, List.length_nil, Nat.reduceAdd, Nat.reduceLeDiff, true_and, and_true, if_true, Bool.not_true, Bool.not_false, Bool.false_eq_true, if_false, decide_eq_true_eq, List.cons.injEq, ↓reduceIte]
  obtain ⟨v, s, e, rfl, rfl⟩ := this
  exact e
def wh (L : Nat) (p : Int × Int) : Int := p.1 * ((L : Int) / p.2)
theorem whole_ok {p : Int × Int} {L : Nat} (st : Store) (h0 : 0 < p.2) (h1 : p.1.natAbs < 2 ^ 243) (h2 : p.2.natAbs < 2 ^ 243) (hL : L < 2 ^ 7000) : p_whole [frV p, .int (L : Int)] st = .ok (.int (wh L p)) st := by
  have : Ok (p_whole [frV p, .int (L : Int)] st) fun v s => v = .int (wh L p) ∧ s = st := by
    have b1 : (2 : Nat) ^ 243 < 2 ^ 8000 := by decide
    have b2 : (2 : Nat) ^ 7000 < 2 ^ 8000 := by decide
    (unfold p_whole runF; rw [ok_retF]; simp only [env0, List.map_cons, List.map_nil, List.length_cons, List.length_nil, Nat.reduceAdd, Nat.reduceSub, List.reduceReplicate, List.cons_append, List.nil_append])
    unfold frV
    simp only [wkA, List.set_cons_zero, List.set_cons_succ, Option.some.injEq, exists_eq_left', exists_eq_left, List.length_cons, List.length_nil, Nat.reduceAdd, Nat.reduceLeDiff, true_and, and_true, if_true, Bool.not_true, Bool.not_false, Bool.false_eq_true, if_false, decide_eq_true_eq, List.cons.injEq, ↓reduceIte]
    have i0 : oIx (.tup [.int p.1, .int p.2]) (.int 0) st = some (.int p.1) := oIxT_nat st (j := 0) rfl
    have i1 : oIx (.tup [.int p.1, .int p.2]) (.int 1) st = some (.int p.2) := oIxT_nat st (j := 1) rfl
    have q : ((L : Int) / p.2).natAbs ≤ L := by
      have e : p.2 = (p.2.natAbs : Int) := by omega
      rw [e, ← Int.natCast_ediv, Int.natAbs_natCast]
      exact Nat.div_le_self _ _
    refine Op.of i0 (Op.of i1 (Op.of (oDiv_int st h0 (by omega)) (Op.of (oMul_int st (by omega) (by omega)) ?_)))
    simp [wh]
  obtain ⟨v, s, e, rfl, rfl⟩ := this
  exact e
end Lq
end
section
set_option Elab.async false
set_option linter.all false
set_option maxRecDepth 10000
set_option exponentiation.threshold 20000
namespace Lq
open PySem PySem.Spec PyProof.Rows L2
open Sx (at0 clr comb short LT sm si)
def nmV (p : Option Nat × Int) : PV := .tup [match p.1 with | none => .non | some i => .int (i : Int), .int p.2]
def fBody : XS := sIf (tE (eBin oNotN (eVar 4) (eC .non))) (sAsg (eBin oAdd (eBin oIx (eVar 12) (eVar 4)) (eBin oMul (eVar 14) (eCall 2 p_whole (aCons (eVar 13) (aCons (eVar 11) aNil))))) (gSubL (eVar 12) (eVar 4))) sNil
def fTg : PV → Ev → Store → R Ev := gTp 2 (gsCons (gNm 13) (gsCons (gTp 2 (gsCons (gNm 4) (gsCons (gNm 14) gsNil))) gsNil))
theorem turn_some {a : List (Option PV)} {y4 y13 y14 : Option PV} {f : Nat} {L : Nat} {s : Store} {pre zs : List Int} {x sg : Int} {p : Int × Int} (k0 k1 k2 k3 k5 k6 k7 k8 k9 k10 k15 k16 k17 k18 : Option PV)
    (hf : s[f]? = some (.lst (nI (pre ++ x :: zs)))) (h0 : 0 < p.2) (h1 : p.1.natAbs < 2 ^ 243) (h2 : p.2.natAbs < 2 ^ 243) (hL : L < 2 ^ 7000) (hs : sg.natAbs ≤ 1) {Q : Fl → Store → Prop}
    (q : ∀ y13 y14, Q (.nx [k0, k1, k2, k3, some (.int (pre.length : Nat)), k5, k6, k7, k8, k9, k10, some (.int (L : Int)), some (.own f), y13, y14, k15, k16, k17, k18]) (s.set f (.lst (nI (pre ++ (x + sg * wh L p) :: zs))))) :
    Ok (fTg (.tup [frV p, nmV (some pre.length, sg)]) [k0, k1, k2, k3, y4, k5, k6, k7, k8, k9, k10, some (.int (L : Int)), some (.own f), y13, y14, k15, k16, k17, k18] s) fun e s1 => Ok (fBody e s1) Q := by
  unfold fTg fBody nmV
  simp only [wkA, List.set_cons_zero, List.set_cons_succ, Option.some.injEq, exists_eq_left', exists_eq_left, List.length_cons, List.length_nil, Nat.reduceAdd, Nat.reduceLeDiff, true_and, and_true, if_true, Bool.not_true, Bool.not_false, Bool.false_eq_true, if_false, decide_eq_true_eq, List.cons.injEq, ↓reduceIte]
  have whb : (wh L p).natAbs < 2 ^ 8000 := by
    unfold wh
    rw [Int.natAbs_mul]
    have q : ((L : Int) / p.2).natAbs ≤ L := by
      have e : p.2 = (p.2.natAbs : Int) := by omega
      rw [e, ← Int.natCast_ediv, Int.natAbs_natCast]
      exact Nat.div_le_self _ _
    have : p.1.natAbs * ((L : Int) / p.2).natAbs < 2 ^ 243 * 2 ^ 7000 := Nat.mul_lt_mul'' h1 (by omega)
    rw [← Nat.pow_add] at this
    exact Nat.lt_trans this (Nat.pow_lt_pow_right (by decide) (by decide))
  refine Op.of (z := .bl true) rfl ?_
  simp only [if_true]
  refine Op.of (ixOwn hf (x := .int x) (by rw [List.getElem?_map, List.getElem?_append_right (Nat.le_refl _)]; simp)) ?_
  rw [Ok.eq (whole_ok s h0 h1 h2 hL)]
  refine Op.of (oMul_int s (Nat.lt_of_le_of_lt hs (by decide)) whb) ?_
  simp only [oAdd_int, op_some]
  refine ok_gSub ?_
  simp only [wkA, List.set_cons_zero, List.set_cons_succ, Option.some.injEq, exists_eq_left', exists_eq_left, List.length_cons, List.length_nil, Nat.reduceAdd, Nat.reduceLeDiff, true_and, and_true, if_true, Bool.not_true, Bool.not_false, Bool.false_eq_true, if_false, decide_eq_true_eq, List.cons.injEq, ↓reduceIte]
  refine ⟨_, _, _, rfl, rfl, hf, by simp, ?_⟩
  have : (nI (pre ++ x :: zs)).set pre.length (.int (x + sg * wh L p)) = nI (pre ++ (x + sg * wh L p) :: zs) := by
    rw [← List.map_set]
    congr 1
    rw [List.set_append_right _ _ (Nat.le_refl _)]
    simp
  rw [this]
  exact q _ _
theorem things_loop {f : Nat} {L : Nat} (k0 k1 k2 k3 k5 k6 k7 k8 k9 k10 k15 k16 k17 k18 : Option PV) (s : Store) : ∀ (k : Nat) (ws : List (Int × Int)) (y4 y13 y14 : Option PV), ws.length = k →
    Ok (loopV fTg fBody (pairs (ws.map frV) ((List.replicate k ((none : Option Nat), (1 : Int))).map nmV)) [k0, k1, k2, k3, y4, k5, k6, k7, k8, k9, k10, some (.int (L : Int)), some (.own f), y13, y14, k15, k16, k17, k18] s)
      fun fl s' => s' = s ∧ ∃ y4 y13 y14, fl = .nx [k0, k1, k2, k3, y4, k5, k6, k7, k8, k9, k10, some (.int (L : Int)), some (.own f), y13, y14, k15, k16, k17, k18]
  | 0, ws, y4, y13, y14, h => by
    cases ws with
    | nil => exact ok_ok.mpr ⟨rfl, y4, y13, y14, rfl⟩
    | cons _ _ => simp at h
  | k + 1, ws, y4, y13, y14, h => by
    cases ws with
    | nil => simp at h
    | cons w ws =>
      rw [List.map_cons, List.replicate_succ, List.map_cons, pairs, loopV, ok_bind]
      have : Ok (fTg (.tup [frV w, nmV (none, 1)]) [k0, k1, k2, k3, y4, k5, k6, k7, k8, k9, k10, some (.int (L : Int)), some (.own f), y13, y14, k15, k16, k17, k18] s) fun e s1 => Ok (fBody e s1) fun fl s' => s' = s ∧ fl = .nx [k0, k1, k2, k3, some .non, k5, k6, k7, k8, k9, k10, some (.int (L : Int)), some (.own f), some (frV w), some (.int 1), k15, k16, k17, k18] := by
        unfold fTg fBody nmV
        simp only [wkA, List.set_cons_zero, List.set_cons_succ, Option.some.injEq, exists_eq_left', exists_eq_left, List.length_cons, List.length_nil, Nat.reduceAdd, Nat.reduceLeDiff, true_and, and_true, if_true, Bool.not_true, Bool.not_false, Bool.false_eq_true, if_false, decide_eq_true_eq, List.cons.injEq, ↓reduceIte]
        refine Op.of (z := .bl false) rfl ?_
        simp
      refine this.mono fun e s1 h1 => ?_
      rw [ok_bind]
      refine h1.mono fun fl s2 h2 => ?_
      obtain ⟨rfl, rfl⟩ := h2
      exact things_loop k0 k1 k2 k3 k5 k6 k7 k8 k9 k10 k15 k16 k17 k18 _ k ws _ _ _ (by simpa using h)
theorem found_loop {f : Nat} {L k : Nat} (hL : L < 2 ^ 7000) (k0 k1 k2 k3 k5 k6 k7 k8 k9 k10 k15 k16 k17 k18 : Option PV) : ∀ (r : List Cp) (pre : List Int) (ws : List (Int × Int)) (y4 y13 y14 : Option PV) (s : Store), ws.length = (colsC k r).length + k → (∀ p, p ∈ ws → 0 < p.2 ∧ p.1.natAbs < 2 ^ 243 ∧ p.2.natAbs < 2 ^ 243) →
    s[f]? = some (.lst (nI (pre ++ List.replicate r.length 0))) →
    Ok (loopV fTg fBody (pairs (ws.map frV) ((nms pre.length r ++ List.replicate k ((none : Option Nat), (1 : Int))).map nmV)) [k0, k1, k2, k3, y4, k5, k6, k7, k8, k9, k10, some (.int (L : Int)), some (.own f), y13, y14, k15, k16, k17, k18] s)
      fun fl s' => s'[f]? = some (.lst (nI (pre ++ (val r (ws.map (wh L))).1))) ∧ (∀ j, j ≠ f → s'[j]? = s[j]?) ∧ s'.length = s.length ∧ ∃ y4 y13 y14, fl = .nx [k0, k1, k2, k3, y4, k5, k6, k7, k8, k9, k10, some (.int (L : Int)), some (.own f), y13, y14, k15, k16, k17, k18]
  | [], pre, ws, y4, y13, y14, s, hw, hp, hf => by
    rw [nms, List.nil_append]
    refine (things_loop k0 k1 k2 k3 k5 k6 k7 k8 k9 k10 k15 k16 k17 k18 s k ws y4 y13 y14 (by simpa [colsC] using hw)).mono fun fl s' h => ?_
    obtain ⟨rfl, h⟩ := h
    refine ⟨by simpa [val] using hf, fun _ _ => rfl, rfl, h⟩
  | c :: r, pre, ws, y4, y13, y14, s, hw, hp, hf => by
    rw [List.length_cons, List.replicate_succ] at hf
    have fl_ := (List.getElem?_eq_some_iff.mp hf).1
    rw [colsC, List.length_append] at hw
    unfold colC at hw
    rw [nms, nmC]
    by_cases e : c.sg = .eq
    · rw [if_pos e] at hw ⊢
      match ws, hw with
      | [], hw => simp at hw; omega
      | [_], hw => simp at hw; omega
      | x :: y :: ws, hw =>
        obtain ⟨x0, x1, x2⟩ := hp x (by simp)
        obtain ⟨y0, y1, y2⟩ := hp y (by simp)
        simp only [List.map_cons, List.cons_append, List.nil_append, pairs, loopV]
        rw [ok_bind]
        refine (turn_some k0 k1 k2 k3 k5 k6 k7 k8 k9 k10 k15 k16 k17 k18 (Q := fun fl s2 => ∃ y13 y14, fl = .nx [k0, k1, k2, k3, some (.int (pre.length : Nat)), k5, k6, k7, k8, k9, k10, some (.int (L : Int)), some (.own f), y13, y14, k15, k16, k17, k18] ∧ s2 = s.set f (.lst (nI (pre ++ (0 + 1 * wh L x) :: List.replicate r.length 0)))) (a := []) hf x0 x1 x2 hL (by decide) fun y13 y14 => ⟨y13, y14, rfl, rfl⟩).mono fun ev s1 h1 => ?_
        rw [ok_bind]
        refine h1.mono fun fl s2 h2 => ?_
        obtain ⟨z13, z14, rfl, rfl⟩ := h2
        simp only
        rw [ok_bind]
        have hf1 : (s.set f (.lst (nI (pre ++ (0 + 1 * wh L x) :: List.replicate r.length 0))))[f]? = some (.lst (nI (pre ++ (0 + 1 * wh L x) :: List.replicate r.length 0))) := by rw [st_set hf, if_pos rfl]
        refine (turn_some k0 k1 k2 k3 k5 k6 k7 k8 k9 k10 k15 k16 k17 k18 (Q := fun fl s2 => ∃ y13 y14, fl = .nx [k0, k1, k2, k3, some (.int (pre.length : Nat)), k5, k6, k7, k8, k9, k10, some (.int (L : Int)), some (.own f), y13, y14, k15, k16, k17, k18] ∧ s2 = (s.set f (.lst (nI (pre ++ (0 + 1 * wh L x) :: List.replicate r.length 0)))).set f (.lst (nI (pre ++ (0 + 1 * wh L x + -1 * wh L y) :: List.replicate r.length 0)))) (a := []) hf1 y0 y1 y2 hL (by decide) fun y13 y14 => ⟨y13, y14, rfl, rfl⟩).mono fun ev s1 h1 => ?_
        rw [ok_bind]
        refine h1.mono fun fl s2 h2 => ?_
        obtain ⟨z13, z14, rfl, rfl⟩ := h2
        simp only
        have hf2 : ((s.set f (.lst (nI (pre ++ (0 + 1 * wh L x) :: List.replicate r.length 0)))).set f (.lst (nI (pre ++ (0 + 1 * wh L x + -1 * wh L y) :: List.replicate r.length 0))))[f]? = some (.lst (nI ((pre ++ [wh L x - wh L y]) ++ List.replicate r.length 0))) := by
          rw [st_set hf1, if_pos rfl]
          simp
          omega
        have ih := found_loop (k := k) hL k0 k1 k2 k3 k5 k6 k7 k8 k9 k10 k15 k16 k17 k18 r (pre ++ [wh L x - wh L y]) ws (some (.int (pre.length : Nat))) z13 z14 _ (by simp at hw; omega) (fun p hm => hp p (by simp [hm])) hf2
        have pl : (pre ++ [wh L x - wh L y]).length = pre.length + 1 := by simp
        rw [pl] at ih
        refine ih.mono fun fl s' h => ?_
        obtain ⟨h1, h2, h3, h4⟩ := h
        refine ⟨?_, fun j hj => ?_, ?_, h4⟩
        · rw [h1, val_eq e]; simp
        · rw [h2 j hj, st_set hf1, if_neg hj, st_set hf, if_neg hj]
        · rw [h3]; simp
    · rw [if_neg e] at hw ⊢
      match ws, hw with
      | [], hw => simp at hw; omega
      | x :: ws, hw =>
        obtain ⟨x0, x1, x2⟩ := hp x (by simp)
        simp only [List.map_cons, List.cons_append, List.nil_append, pairs, loopV]
        rw [ok_bind]
        refine (turn_some k0 k1 k2 k3 k5 k6 k7 k8 k9 k10 k15 k16 k17 k18 (Q := fun fl s2 => ∃ y13 y14, fl = .nx [k0, k1, k2, k3, some (.int (pre.length : Nat)), k5, k6, k7, k8, k9, k10, some (.int (L : Int)), some (.own f), y13, y14, k15, k16, k17, k18] ∧ s2 = s.set f (.lst (nI (pre ++ (0 + 1 * wh L x) :: List.replicate r.length 0)))) (a := []) hf x0 x1 x2 hL (by decide) fun y13 y14 => ⟨y13, y14, rfl, rfl⟩).mono fun ev s1 h1 => ?_
        rw [ok_bind]
        refine h1.mono fun fl s2 h2 => ?_
        obtain ⟨z13, z14, rfl, rfl⟩ := h2
        simp only
        have hf1 : (s.set f (.lst (nI (pre ++ (0 + 1 * wh L x) :: List.replicate r.length 0))))[f]? = some (.lst (nI ((pre ++ [wh L x]) ++ List.replicate r.length 0))) := by
          rw [st_set hf, if_pos rfl]
          simp
        have ih := found_loop (k := k) hL k0 k1 k2 k3 k5 k6 k7 k8 k9 k10 k15 k16 k17 k18 r (pre ++ [wh L x]) ws (some (.int (pre.length : Nat))) z13 z14 _ (by simp at hw; omega) (fun p hm => hp p (by simp [hm])) hf1
        have pl : (pre ++ [wh L x]).length = pre.length + 1 := by simp
        rw [pl] at ih
        refine ih.mono fun fl s' h => ?_
        obtain ⟨h1, h2, h3, h4⟩ := h
        refine ⟨?_, fun j hj => ?_, ?_, h4⟩
        · rw [h1, val_ne e]; simp
        · rw [h2 j hj, st_set hf, if_neg hj]
        · rw [h3]; simp
end Lq
end
section
set_option Elab.async false
set_option linter.all false
set_option maxRecDepth 10000
set_option exponentiation.threshold 20000
namespace Lq
open PySem PySem.Spec PyProof.Rows L2
open Sx (at0 clr comb short LT sm si)
theorem keeps_get {ex : List Nat} {st s : Store} (h : Keeps ex st s) {i : Nat} {c : Cell} (e : st[i]? = some c) (hn : i ∉ ex) : s[i]? = some c :=
  (h.2 i (List.getElem?_eq_some_iff.mp e).1 hn).trans e
theorem Keeps.sub {ex : List Nat} {st s0 s : Store} (h : Keeps ex s0 s) (h0 : Keeps [] st s0) (he : ∀ i, i ∈ ex → st.length ≤ i) : Keeps [] st s :=
  ⟨Nat.le_trans h0.1 h.1, fun i hi _ => (h.2 i (Nat.lt_of_lt_of_le hi h0.1) (fun m => by have := he i m; omega)).trans (h0.2 i hi (by simp))⟩
theorem sg_eq (g : Sg) (s : Store) : oEq (.str g.s) (.str "=") s = some (.bl (decide (g = .eq))) := by cases g <;> kernel_rfl
theorem sg_gt (g : Sg) (s : Store) : oEq (.str g.s) (.str ">") s = some (.bl (decide (g = .gt))) := by cases g <;> kernel_rfl
theorem ix1 (c : Cp) (s : Store) : oIx (cpV c) (.int 1) s = some (.str c.sg.s) := oIxT_nat s (j := 1) rfl
theorem add_lst (xs ys : List Int) (s : Store) (h : xs.length + ys.length ≤ 1000) : oAdd (.lst (nI xs)) (.lst (nI ys)) s = some (.lst (nI (xs ++ ys))) := by
  have sz := szl
  simp only [oAdd, oOr, oAddI, oI, oAddT, oAddS, oAddL, asM]
  rw [if_pos (by simp; omega)]
  simp
def namesV (ns : List (Option Nat × Int)) : List PV := ns.map nmV
theorem nums_told (told : List Cp) : (nums (told.map cpV)).length = told.length ∧ ∀ (i : Nat) (x : PV), (nums (told.map cpV))[i]? = some x → i < told.length ∧ x = .tup [.int (i : Int), cpV (told.getD i default)] := by
  have nl : (nums (told.map cpV)).length = told.length := by simp [nums, pairs_len, rng]
  refine ⟨nl, fun i x hx => ?_⟩
  have hi : i < told.length := by rw [← nl]; exact (List.getElem?_eq_some_iff.mp hx).1
  refine ⟨hi, ?_⟩
  unfold nums at hx
  obtain ⟨a, b, h1, h2, rfl⟩ := pairs_get _ _ _ _ hx
  rw [rng_get (by simpa using hi)] at h1
  rw [List.getElem?_map, List.getElem?_eq_getElem hi] at h2
  simp at h1 h2
  rw [← h1, ← h2]
  simp [List.getD_eq_getElem?_getD, hi]
theorem take_snoc {told : List Cp} {i : Nat} (h : i < told.length) : told.take (i + 1) = told.take i ++ [told.getD i default] := by
  rw [List.take_add_one, List.getElem?_eq_getElem h]
  simp [List.getD_eq_getElem?_getD, h]
def s1Body : XS := (sSeq (sSet 6 (eCall 2 p_row_of (aCons (eVar 0) (aCons (eVar 5) aNil))))
    (sSeq (sDrop (eLm goApp (eVar 2) (aCons (eBin oAdd (eVar 6) (eFz (fDisp (aCons (eCB oInt (aCons (eBin oEq (eBin oIx (eVar 5) (eC (.int 1))) (eC (.str ">"))) aNil)) aNil)))) aNil)))
    (sSeq (sDrop (eLm goApp (eVar 3) (aCons (eTup (aCons (eVar 4) (aCons (eC (.int 1)) aNil))) aNil)))
    (sIf (tE (eBin oEq (eBin oIx (eVar 5) (eC (.int 1))) (eC (.str "=")))) (sSeq (sDrop (eLm goApp (eVar 2) (aCons (eBin oAdd (eFz (fComp (iVal (eVar 6)) (gNm 15) (fun _ st => .ok true st) (eUn oNeg (eVar 15)) [15])) (eFz (fDisp (aCons (eC (.int 0)) aNil)))) aNil)))
    (sDrop (eLm goApp (eVar 3) (aCons (eTup (aCons (eVar 4) (aCons (eUn oNeg (eC (.int 1))) aNil))) aNil)))) sNil))))
theorem s1_turn {k n i : Nat} (hk : k ≤ 5) (c : Cp) (v1 : PV) (y6 : Option PV) {s : Store} {A : List (List Int)} {N : List (Option Nat × Int)} (hA : s[n]? = some (.lst (rowsV A))) (hN : s[n + 1]? = some (.lst (namesV N))) (lA : A.length ≤ 100) (lN : N.length ≤ 100) :
    Ok (s1Body [some (.int (k : Int)), some v1, some (.own n), some (.own (n + 1)), some (.int (i : Int)), some (cpV c), y6, none, none, none, none, none, none, none, none, none, none, none, none] s) fun fl s' =>
      (∃ y6, fl = .nx [some (.int (k : Int)), some v1, some (.own n), some (.own (n + 1)), some (.int (i : Int)), some (cpV c), y6, none, none, none, none, none, none, none, none, none, none, none, none]) ∧ s'.length = s.length ∧ (∀ j, j ≠ n → j ≠ n + 1 → s'[j]? = s[j]?) ∧
      s'[n]? = some (.lst (rowsV (A ++ colC k c))) ∧ s'[n + 1]? = some (.lst (namesV (N ++ nmC i c))) := by
  have sz := szl
  have rl : (rowI k c).length = k := by simp [rowI]
  have b1 : (rowsV A).length < sizeLine := by simp; omega
  have b2 : (namesV N).length < sizeLine := by simp [namesV]; omega
  unfold s1Body
  simp only [wkA, List.set_cons_zero, List.set_cons_succ, Option.some.injEq, exists_eq_left', exists_eq_left, List.length_cons, List.length_nil, Nat.reduceAdd, Nat.reduceLeDiff, true_and, and_true, if_true, Bool.not_true, Bool.not_false, Bool.false_eq_true, if_false, decide_eq_true_eq, List.cons.injEq, ↓reduceIte]
  rw [Ok.eq (row_of_ok (by omega) c s)]
  rw [nxK_nx]
  simp only [wkA, List.set_cons_zero, List.set_cons_succ, Option.some.injEq, exists_eq_left', exists_eq_left, List.length_cons, List.length_nil, Nat.reduceAdd, Nat.reduceLeDiff, true_and, and_true, if_true, Bool.not_true, Bool.not_false, Bool.false_eq_true, if_false, decide_eq_true_eq, List.cons.injEq, ↓reduceIte]
  refine ⟨_, _, rfl, hA, ?_⟩
  refine Op.of (ix1 c s) (Op.of (sg_gt c.sg s) (Op.of (z := .int (gtI c)) (by simp [oInt, gtI]) ?_))
  refine Op.of (add_lst (rowI k c) [gtI c] s (by simp [rl]; omega)) ?_
  refine ⟨_, _, _, hA, goApp_ok _ _ b1, ?_⟩
  rw [nxK_nx]
  simp only [wkA, List.set_cons_zero, List.set_cons_succ, Option.some.injEq, exists_eq_left', exists_eq_left, List.length_cons, List.length_nil, Nat.reduceAdd, Nat.reduceLeDiff, true_and, and_true, if_true, Bool.not_true, Bool.not_false, Bool.false_eq_true, if_false, decide_eq_true_eq, List.cons.injEq, ↓reduceIte]
  have hN1 : (s.set n (.lst (rowsV A ++ [.lst (nI (rowI k c ++ [gtI c]))])))[n + 1]? = some (.lst (namesV N)) := by rw [st_set hA, if_neg (by omega)]; exact hN
  have hA1 : (s.set n (.lst (rowsV A ++ [.lst (nI (rowI k c ++ [gtI c]))])))[n]? = some (.lst (rowsV A ++ [.lst (nI (rowI k c ++ [gtI c]))])) := by rw [st_set hA, if_pos rfl]
  generalize hs1 : s.set n (.lst (rowsV A ++ [.lst (nI (rowI k c ++ [gtI c]))])) = s1 at hN1 hA1 ⊢
  have o1 : ∀ j, j ≠ n → j ≠ n + 1 → s1[j]? = s[j]? := fun j h1 h2 => by rw [← hs1, st_set hA, if_neg h1]
  have l1 : s1.length = s.length := by rw [← hs1]; simp
  refine ⟨_, _, rfl, hN1, _, _, _, hN1, goApp_ok _ _ b2, ?_⟩
  rw [nxK_nx]
  simp only [wkA, List.set_cons_zero, List.set_cons_succ, Option.some.injEq, exists_eq_left', exists_eq_left, List.length_cons, List.length_nil, Nat.reduceAdd, Nat.reduceLeDiff, true_and, and_true, if_true, Bool.not_true, Bool.not_false, Bool.false_eq_true, if_false, decide_eq_true_eq, List.cons.injEq, ↓reduceIte]
  have hN2 : (s1.set (n + 1) (.lst (namesV N ++ [.tup [.int (i : Int), .int 1]])))[n + 1]? = some (.lst (namesV N ++ [.tup [.int (i : Int), .int 1]])) := by rw [st_set hN1, if_pos rfl]
  have hA2 : (s1.set (n + 1) (.lst (namesV N ++ [.tup [.int (i : Int), .int 1]])))[n]? = some (.lst (rowsV A ++ [.lst (nI (rowI k c ++ [gtI c]))])) := by rw [st_set hN1, if_neg (by omega)]; exact hA1
  generalize hs2 : s1.set (n + 1) (.lst (namesV N ++ [.tup [.int (i : Int), .int 1]])) = s2 at hN2 hA2 ⊢
  have o2 : ∀ j, j ≠ n → j ≠ n + 1 → s2[j]? = s[j]? := fun j h1 h2 => by rw [← hs2, st_set hN1, if_neg h2, o1 j h1 h2]
  have l2 : s2.length = s.length := by rw [← hs2]; simp [l1]
  refine Op.of (ix1 c s2) (Op.of (sg_eq c.sg s2) ?_)
  by_cases e : c.sg = .eq
  · simp only [e, decide_true, if_true]
    refine ⟨_, _, rfl, hA2, _, rfl, ?_⟩
    refine ok_map (fun x => match x with | .int j => .int (-j) | x => x) (fun x hx => ?_) ?_
    · obtain ⟨a, ha, rfl⟩ := List.mem_map.mp hx
      simp only [wipeE]
      simp only [wkA, List.set_cons_zero, List.set_cons_succ, Option.some.injEq, exists_eq_left', exists_eq_left, List.length_cons, List.length_nil, Nat.reduceAdd, Nat.reduceLeDiff, true_and, and_true, if_true, Bool.not_true, Bool.not_false, Bool.false_eq_true, if_false, decide_eq_true_eq, List.cons.injEq, ↓reduceIte]
      exact Op.of rfl rfl
    · have mp : (nI (rowI k c)).map (fun x => match x with | .int j => .int (-j) | x => x) = nI ((rowI k c).map fun x => -x) := by simp
      rw [mp]
      refine Op.of (add_lst _ [0] s2 (by simp [rl]; omega)) ?_
      refine ⟨_, _, _, hA2, goApp_ok _ _ (by simp; omega), ?_⟩
      rw [nxK_nx]
      simp only [wkA, List.set_cons_zero, List.set_cons_succ, Option.some.injEq, exists_eq_left', exists_eq_left, List.length_cons, List.length_nil, Nat.reduceAdd, Nat.reduceLeDiff, true_and, and_true, if_true, Bool.not_true, Bool.not_false, Bool.false_eq_true, if_false, decide_eq_true_eq, List.cons.injEq, ↓reduceIte]
      have hN3 : (s2.set n (.lst (rowsV A ++ [.lst (nI (rowI k c ++ [gtI c]))] ++ [.lst (nI (((rowI k c).map fun x => -x) ++ [0]))])))[n + 1]? = some (.lst (namesV N ++ [.tup [.int (i : Int), .int 1]])) := by rw [st_set hA2, if_neg (by omega)]; exact hN2
      refine ⟨_, _, rfl, hN3, Op.of rfl ?_⟩
      refine ⟨_, _, _, hN3, goApp_ok _ _ (by simp [namesV]; omega), ?_⟩
      refine ⟨⟨_, rfl⟩, by simp [l2], fun j h1 h2 => ?_, ?_, ?_⟩
      · rw [st_set hN3, if_neg h2, st_set hA2, if_neg h1, o2 j h1 h2]
      · rw [st_set hN3, if_neg (by omega), st_set hA2, if_pos rfl]
        simp [colC, e]
      · rw [st_set hN3, if_pos rfl]
        simp [nmC, e, namesV, nmV]
  · simp only [e, decide_false, Bool.false_eq_true, if_false]
    refine ⟨⟨_, rfl⟩, l2, o2, ?_, ?_⟩
    · rw [hA2]; simp [colC, e]
    · rw [hN2]; simp [nmC, e, namesV, nmV]
def s2Body : XS := (sSeq (sDrop (eLm goApp (eVar 2) (aCons (eBin oAdd (eFz (fComp (iRange1 (aCons (eVar 0) aNil)) (gNm 16) (fun _ st => .ok true st) (eCB oInt (aCons (eBin oEq (eVar 16) (eVar 7)) aNil)) [16])) (eFz (fDisp (aCons (eC (.int 1)) aNil)))) aNil)))
    (sDrop (eLm goApp (eVar 3) (aCons (eTup (aCons (eC .non) (aCons (eC (.int 1)) aNil))) aNil))))
theorem s2_turn {k n t : Nat} (hk : k ≤ 5) (v1 : PV) (y4 y5 y6 : Option PV) {s : Store} {A : List (List Int)} {N : List (Option Nat × Int)} (hA : s[n]? = some (.lst (rowsV A))) (hN : s[n + 1]? = some (.lst (namesV N))) (lA : A.length ≤ 100) (lN : N.length ≤ 100) :
    Ok (s2Body [some (.int (k : Int)), some v1, some (.own n), some (.own (n + 1)), y4, y5, y6, some (.int (t : Int)), none, none, none, none, none, none, none, none, none, none, none] s) fun fl s' =>
      fl = .nx [some (.int (k : Int)), some v1, some (.own n), some (.own (n + 1)), y4, y5, y6, some (.int (t : Int)), none, none, none, none, none, none, none, none, none, none, none] ∧ s'.length = s.length ∧ (∀ j, j ≠ n → j ≠ n + 1 → s'[j]? = s[j]?) ∧
      s'[n]? = some (.lst (rowsV (A ++ [thC k t]))) ∧ s'[n + 1]? = some (.lst (namesV (N ++ [(none, 1)]))) := by
  have sz := szl
  unfold s2Body
  simp only [wkA, List.set_cons_zero, List.set_cons_succ, Option.some.injEq, exists_eq_left', exists_eq_left, List.length_cons, List.length_nil, Nat.reduceAdd, Nat.reduceLeDiff, true_and, and_true, if_true, Bool.not_true, Bool.not_false, Bool.false_eq_true, if_false, decide_eq_true_eq, List.cons.injEq, ↓reduceIte]
  refine ⟨_, _, rfl, hA, ⟨by unfold okR; simp; omega, by simp; omega⟩, ?_⟩
  have rn : (k : Int).toNat = k := by simp
  rw [rn]
  refine ok_map (fun x => match x with | .int j => .int (if j.toNat = t then 1 else 0) | x => x) (fun x hx => ?_) ?_
  · obtain ⟨j, hj⟩ := List.mem_iff_getElem?.mp hx
    obtain ⟨hj, rfl⟩ := rng_at hj
    simp only [wipeE]
    simp only [wkA, List.set_cons_zero, List.set_cons_succ, Option.some.injEq, exists_eq_left', exists_eq_left, List.length_cons, List.length_nil, Nat.reduceAdd, Nat.reduceLeDiff, true_and, and_true, if_true, Bool.not_true, Bool.not_false, Bool.false_eq_true, if_false, decide_eq_true_eq, List.cons.injEq, ↓reduceIte]
    refine Op.of (z := .int (if j = t then 1 else 0)) ?_ (by simp)
    by_cases q : j = t
    · subst q; simp [oInt]
    · have : ¬ ((j : Int) = (t : Int)) := by omega
      simp [oInt, q, this]
  · have ow : (rng 0 k).map (fun x => match x with | .int j => .int (if j.toNat = t then 1 else 0) | x => x) = nI ((List.range k).map fun o => if o = t then 1 else 0) := by
      simp [rng]
    rw [ow]
    refine Op.of (add_lst _ [1] s (by simp; omega)) ?_
    refine ⟨_, _, _, hA, goApp_ok _ _ (by simp; omega), ?_⟩
    rw [nxK_nx]
    simp only [wkA, List.set_cons_zero, List.set_cons_succ, Option.some.injEq, exists_eq_left', exists_eq_left, List.length_cons, List.length_nil, Nat.reduceAdd, Nat.reduceLeDiff, true_and, and_true, if_true, Bool.not_true, Bool.not_false, Bool.false_eq_true, if_false, decide_eq_true_eq, List.cons.injEq, ↓reduceIte]
    have hN1 : (s.set n (.lst (rowsV A ++ [.lst (nI (((List.range k).map fun o => if o = t then 1 else 0) ++ [1]))])))[n + 1]? = some (.lst (namesV N)) := by rw [st_set hA, if_neg (by omega)]; exact hN
    refine ⟨_, _, rfl, hN1, _, _, _, hN1, goApp_ok _ _ (by simp [namesV]; omega), ?_⟩
    refine ⟨by simp, fun j h1 h2 => ?_, ?_, ?_⟩
    · rw [st_set hN1, if_neg h2, st_set hA, if_neg h1]
    · rw [st_set hN1, if_neg (by omega), st_set hA, if_pos rfl]
      simp [thC]
    · rw [st_set hN1, if_pos rfl]
      simp [namesV, nmV]
end Lq
end
section
set_option Elab.async false
set_option linter.all false
set_option maxRecDepth 10000
set_option exponentiation.threshold 20000
namespace Lq
open PySem PySem.Spec PyProof.Rows L2
open Sx (at0 clr comb short LT sm si)
def rsOf (k : Nat) (C : List (List Int)) : List (List Int) := (List.range (k + 1)).map fun h => C.map fun c => at0 c h
def goalsOf (k : Nat) : List Int := List.replicate k 0 ++ [1]
theorem goals_at (k h : Nat) (hh : h < k + 1) : at0 (goalsOf k) h = if h = k then 1 else 0 := by
  unfold goalsOf
  rw [at0_append, List.length_replicate]
  by_cases c : h < k
  · rw [if_pos c, if_neg (by omega)]
    unfold at0
    rw [List.getD_eq_getElem?_getD, List.getElem?_replicate, if_pos c]; rfl
  · have : h = k := by omega
    rw [if_neg c, if_pos this, this, Nat.sub_self]; rfl
theorem rs_at (k : Nat) (C : List (List Int)) {h : Nat} (hh : h < k + 1) : (rsOf k C).getD h [] = C.map fun c => at0 c h := by
  simp [rsOf, List.getD_eq_getElem?_getD, hh]
theorem rs_at0 (C : List (List Int)) (h j : Nat) : at0 (C.map fun c => at0 c h) j = at0 (C.getD j []) h := by
  by_cases c : j < C.length
  · unfold at0; simp [List.getD_eq_getElem?_getD, c]
  · unfold at0; simp [List.getD_eq_getElem?_getD, c]
def sRest (k : Nat) : XS := (sSeq (sIf (tE (eBin oIsN (eVar 9) (eC .non))) (sRet (eTup (aCons (eC .non) (aCons (eCB oTuple (aCons (eCall 1 p_shortened (aCons (eFz (fComp (iVal (eCut (eVar 10) pNone (pSome (eVar 0)))) (gNm 15) (fun _ st => .ok true st) (eUn oNeg (eVar 15)) [15])) aNil)) aNil)) aNil)))) sNil)
    (sSeq (sPar 11 12 (aCons (eCall 1 p_common_bottom (aCons (eVar 9) aNil)) (aCons (eOw (fMul (eFz (fDisp (aCons (eC (.int 0)) aNil))) (eCB oLen (aCons (eVar 1) aNil)))) aNil)))
    (sSeq (sFor (iZipF (aCons (eVar 9) (aCons (eFrz (eVar 3)) aNil))) fTg fBody)
    (sRet (eTup (aCons (eCB oTuple (aCons (eFrz (eVar 12)) aNil)) (aCons (eC .non) aNil)))))))
theorem solved_head {k : Nat} {told : List Cp} (h5 : k ≤ 5) (h9 : told.length ≤ 9) (st : Store) {Q : Fl → Store → Prop}
    (q : ∀ (n : Nat) (y4 y5 y6 y7 : Option PV) (y8 : PV) (s : Store), n = st.length → Keeps [] st s → st.length + 2 ≤ s.length → s[n + 1]? = some (.lst (namesV (nms 0 told ++ List.replicate k (none, 1)))) →
      Ok ((sSeq (sAsg (eMeth "Equations" "solved" 1 p_Equations_solved (eMake "Equations" 3 p_Equations___init__ (aCons (eVar 8) (aCons (eBin oAdd (eBin oMul (eFz (fDisp (aCons (eC (.int 0)) aNil))) (eVar 0)) (eFz (fDisp (aCons (eC (.int 1)) aNil)))) aNil))) aNil) (gTp 2 (gsCons (gNm 9) (gsCons (gNm 10) gsNil)))) (sRest k))
        [some (.int (k : Int)), some (toldV told), some (.own n), some (.own (n + 1)), y4, y5, y6, y7, some (.lst (rowsV (rsOf k (cols k told)))), none, none, none, none, none, none, none, none, none, none] s) Q) :
    Ok ((sSeq (sAsg (eTup (aCons (eOw (fDisp aNil)) (aCons (eOw (fDisp aNil)) aNil))) (gTp 2 (gsCons (gNm 2) (gsCons (gNm 3) gsNil))))
    (sSeq (sFor (iEnumT (aCons (eVar 1) aNil)) (gTp 2 (gsCons (gNm 4) (gsCons (gNm 5) gsNil))) s1Body)
    (sSeq (sFor (iRange1 (aCons (eVar 0) aNil)) (gNm 7) s2Body)
    (sSeq (sSet 8 (eFz (fComp (iRange1 (aCons (eBin oAdd (eVar 0) (eC (.int 1))) aNil)) (gNm 17) (fun _ st => .ok true st) (eFz (fComp (iVal (eFrz (eVar 2))) (gNm 18) (fun _ st => .ok true st) (eBin oIx (eVar 18) (eVar 17)) [18])) [17])))
    (sSeq (sAsg (eMeth "Equations" "solved" 1 p_Equations_solved (eMake "Equations" 3 p_Equations___init__ (aCons (eVar 8) (aCons (eBin oAdd (eBin oMul (eFz (fDisp (aCons (eC (.int 0)) aNil))) (eVar 0)) (eFz (fDisp (aCons (eC (.int 1)) aNil)))) aNil))) aNil) (gTp 2 (gsCons (gNm 9) (gsCons (gNm 10) gsNil))))
    (sRest k)))))) [some (.int (k : Int)), some (toldV told), none, none, none, none, none, none, none, none, none, none, none, none, none, none, none, none, none] st) Q := by
  have sz := szl
  have cl := colsC_len k told
  simp only [wkA, List.set_cons_zero, List.set_cons_succ, Option.some.injEq, exists_eq_left', exists_eq_left, List.length_cons, List.length_nil, Nat.reduceAdd, Nat.reduceLeDiff, true_and, and_true, if_true, Bool.not_true, Bool.not_false, Bool.false_eq_true, if_false, decide_eq_true_eq, List.cons.injEq, ↓reduceIte]
  rw [nxK_nx]
  rw [ok_seq, ok_for, ok_enumT]
  simp only [wkA, List.set_cons_zero, List.set_cons_succ, Option.some.injEq, exists_eq_left', exists_eq_left, List.length_cons, List.length_nil, Nat.reduceAdd, Nat.reduceLeDiff, true_and, and_true, if_true, Bool.not_true, Bool.not_false, Bool.false_eq_true, if_false, decide_eq_true_eq, List.cons.injEq, ↓reduceIte]
  unfold toldV
  refine ⟨_, rfl, ?_⟩
  obtain ⟨nl, na⟩ := nums_told told
  have l0 : (st ++ [Cell.lst []]).length = st.length + 1 := by simp
  rw [l0]
  refine ok_loop (fun i e s => ∃ y4 y5 y6, e = [some (.int (k : Int)), some (.tup (told.map cpV)), some (.own st.length), some (.own (st.length + 1)), y4, y5, y6, none, none, none, none, none, none, none, none, none, none, none, none] ∧ s.length = st.length + 2 ∧ Keeps [] st s ∧ s[st.length]? = some (.lst (rowsV (colsC k (told.take i)))) ∧ s[st.length + 1]? = some (.lst (namesV (nms 0 (told.take i))))) _ 0 _ _ ?_ ⟨none, none, none, rfl, by simp, by rw [List.append_assoc]; exact Keeps.app _ _ _, by simp [colsC], by simp [nms, namesV]⟩ ?_
  · rintro i x hx e s ⟨y4, y5, y6, rfl, ls, K, hA, hN⟩
    obtain ⟨hi, rfl⟩ := na i x hx
    rw [Nat.zero_add] at hA hN ⊢
    have c1 := colsC_len k (told.take i)
    have c2 : (told.take i).length = i := by rw [List.length_take]; omega
    have c3 := nms_len k (told.take i) 0
    simp only [wkA, List.set_cons_zero, List.set_cons_succ, Option.some.injEq, exists_eq_left', exists_eq_left, List.length_cons, List.length_nil, Nat.reduceAdd, Nat.reduceLeDiff, true_and, and_true, if_true, Bool.not_true, Bool.not_false, Bool.false_eq_true, if_false, decide_eq_true_eq, List.cons.injEq, ↓reduceIte]
    refine (s1_turn (i := i) h5 (told.getD i default) (.tup (told.map cpV)) y6 hA hN (by omega) (by omega)).mono fun fl s' h => ?_
    obtain ⟨⟨y6', rfl⟩, l, o, a, b⟩ := h
    refine ⟨_, _, _, rfl, by rw [l, ls], ⟨by omega, fun j hj _ => ?_⟩, ?_, ?_⟩
    · rw [o j (by omega) (by omega)]; exact K.2 j hj (by simp)
    · rw [a, take_snoc hi, colsC_snoc]
    · rw [b, take_snoc hi, nms_snoc, Nat.zero_add, c2]
  · rintro e s ⟨y4, y5, y6, rfl, ls, K, hA, hN⟩
    rw [Nat.zero_add, nl, List.take_length] at hA hN
    rw [nxK_nx]
    rw [ok_seq, ok_for]
    simp only [wkA, List.set_cons_zero, List.set_cons_succ, Option.some.injEq, exists_eq_left', exists_eq_left, List.length_cons, List.length_nil, Nat.reduceAdd, Nat.reduceLeDiff, true_and, and_true, if_true, Bool.not_true, Bool.not_false, Bool.false_eq_true, if_false, decide_eq_true_eq, List.cons.injEq, ↓reduceIte]
    refine ⟨⟨by unfold okR; simp; omega, by simp; omega⟩, ?_⟩
    have rn : (k : Int).toNat = k := by simp
    rw [rn]
    have nn := nms_len k told 0
    refine ok_loop (fun i e s => ∃ y7, e = [some (.int (k : Int)), some (.tup (told.map cpV)), some (.own st.length), some (.own (st.length + 1)), y4, y5, y6, y7, none, none, none, none, none, none, none, none, none, none, none] ∧ s.length = st.length + 2 ∧ Keeps [] st s ∧ s[st.length]? = some (.lst (rowsV (colsC k told ++ (List.range i).map (thC k)))) ∧ s[st.length + 1]? = some (.lst (namesV (nms 0 told ++ List.replicate i (none, 1))))) _ 0 _ _ ?_ ⟨none, rfl, ls, K, by simpa using hA, by simpa using hN⟩ ?_
    · rintro i x hx e s ⟨y7, rfl, ls, K, hA, hN⟩
      obtain ⟨hi, rfl⟩ := rng_at hx
      rw [Nat.zero_add] at hA hN ⊢
      simp only [wkA, List.set_cons_zero, List.set_cons_succ, Option.some.injEq, exists_eq_left', exists_eq_left, List.length_cons, List.length_nil, Nat.reduceAdd, Nat.reduceLeDiff, true_and, and_true, if_true, Bool.not_true, Bool.not_false, Bool.false_eq_true, if_false, decide_eq_true_eq, List.cons.injEq, ↓reduceIte]
      refine (s2_turn (t := i) h5 (.tup (told.map cpV)) y4 y5 y6 hA hN (by simp; omega) (by simp; omega)).mono fun fl s' h => ?_
      obtain ⟨rfl, l, o, a, b⟩ := h
      refine ⟨_, rfl, by rw [l, ls], ⟨by omega, fun j hj _ => ?_⟩, ?_, ?_⟩
      · rw [o j (by omega) (by omega)]; exact K.2 j hj (by simp)
      · rw [a, List.range_succ]; simp
      · rw [b, List.replicate_succ']; simp
    · rintro e s ⟨y7, rfl, ls, K, hA, hN⟩
      rw [Nat.zero_add, rng_len] at hA hN
      rw [nxK_nx]
      simp only [wkA, List.set_cons_zero, List.set_cons_succ, Option.some.injEq, exists_eq_left', exists_eq_left, List.length_cons, List.length_nil, Nat.reduceAdd, Nat.reduceLeDiff, true_and, and_true, if_true, Bool.not_true, Bool.not_false, Bool.false_eq_true, if_false, decide_eq_true_eq, List.cons.injEq, ↓reduceIte]
      refine ⟨⟨by unfold okR; simp; omega, by simp; omega⟩, ?_⟩
      have rn1 : ((k : Int) + 1).toNat = k + 1 := by omega
      rw [rn1]
      have hA : s[st.length]? = some (.lst (rowsV (cols k told))) := hA
      refine ok_compV (fun i pre s' => pre = rowsV ((List.range i).map fun h => (cols k told).map fun c => at0 c h) ∧ s'.length = s.length ∧ (∀ j, j ≠ st.length → s'[j]? = s[j]?) ∧ (s'[st.length]? = some (.lst (rowsV (cols k told))) ∨ s'[st.length]? = some (.frz (rowsV (cols k told))))) _ 0 [] _ ?_ ⟨rfl, rfl, fun _ _ => rfl, .inl hA⟩ ?_
      · rintro i x hx pre s' ⟨rfl, ls', o, c⟩
        obtain ⟨hi, rfl⟩ := rng_at hx
        rw [Nat.zero_add]
        simp only [wipeE]
        simp only [wkA, List.set_cons_zero, List.set_cons_succ, Option.some.injEq, exists_eq_left', exists_eq_left, List.length_cons, List.length_nil, Nat.reduceAdd, Nat.reduceLeDiff, true_and, and_true, if_true, Bool.not_true, Bool.not_false, Bool.false_eq_true, if_false, decide_eq_true_eq, List.cons.injEq, ↓reduceIte]
        have fin : ∀ s'' : Store, s''.length = s.length → (∀ j, j ≠ st.length → s''[j]? = s[j]?) → s''[st.length]? = some (.frz (rowsV (cols k told))) → ∃ xs, asV s'' (.lst (rowsV (cols k told))) = some xs ∧ Ok (compV (gNm 18) (fun _ st => .ok true st) (eBin oIx (eVar 18) (eVar 17)) (wipeE [some (.int (k : Int)), some (.tup (told.map cpV)), some (.own st.length), some (.own (st.length + 1)), y4, y5, y6, y7, none, none, none, none, none, none, none, none, none, some (.int (i : Int)), none] [18]) xs s'')
            fun xs s3 => rowsV ((List.range i).map fun h => (cols k told).map fun c => at0 c h) ++ [PV.lst xs] = rowsV ((List.range (i + 1)).map fun h => (cols k told).map fun c => at0 c h) ∧ s3.length = s.length ∧ (∀ j, j ≠ st.length → s3[j]? = s[j]?) ∧ (s3[st.length]? = some (.lst (rowsV (cols k told))) ∨ s3[st.length]? = some (.frz (rowsV (cols k told)))) := fun s'' l1 o1 c1 => by
          refine ⟨_, rfl, ?_⟩
          refine ok_map (fun x => match x with | .lst ys => (ys.getD i (.int 0)) | x => x) (fun x hx => ?_) ?_
          · obtain ⟨col, hc, rfl⟩ := List.mem_map.mp hx
            simp only [wipeE]
            simp only [wkA, List.set_cons_zero, List.set_cons_succ, Option.some.injEq, exists_eq_left', exists_eq_left, List.length_cons, List.length_nil, Nat.reduceAdd, Nat.reduceLeDiff, true_and, and_true, if_true, Bool.not_true, Bool.not_false, Bool.false_eq_true, if_false, decide_eq_true_eq, List.cons.injEq, ↓reduceIte]
            have := (col_len k told col hc).1
            refine Op.of (ixL s'' (xs := col) (j := i) (by omega)) ?_
            simp [at0, List.getD_eq_getElem?_getD, show i < col.length by omega]
          · refine ⟨?_, ?_⟩
            · rw [List.range_succ, List.map_append]
              show _ = List.map _ (_ ++ _)
              rw [List.map_append]
              congr 1
              simp only [List.map_cons, List.map_nil, List.map_map]
              congr 2
              refine List.map_congr_left fun col hc => ?_
              have := (col_len k told col hc).1
              simp [at0, List.getD_eq_getElem?_getD, show i < col.length by omega]
            · exact ⟨l1, o1, .inr c1⟩
        rcases c with c | c
        · simp only [c]
          exact fin _ (by simp [ls']) (fun j hj => by rw [st_set c, if_neg hj, o j hj]) (by rw [st_set c, if_pos rfl])
        · simp only [c]
          exact fin _ ls' o c
      · rintro all s' ⟨e, ls', o, c⟩
        rw [List.nil_append, Nat.zero_add, rng_len] at e
        subst e
        rw [nxK_nx]
        refine q st.length y4 y5 y6 y7 (.lst []) s' rfl ⟨by rw [ls', ls]; omega, fun j hj _ => ?_⟩ (by rw [ls', ls]; exact Nat.le_refl _) ?_
        · rw [o j (by omega)]; exact K.2 j hj (by simp)
        · rw [o _ (by omega)]; exact hN
end Lq
end
section
set_option Elab.async false
set_option linter.all false
set_option maxRecDepth 10000
set_option exponentiation.threshold 20000
namespace Lq
open PySem PySem.Spec PyProof.Rows L2
open Sx (at0 clr comb short LT sm si)
theorem wh_rt {L : Nat} {p : Int × Int} (h0 : 0 < p.2) (hd : p.2.natAbs ∣ L) : ((wh L p : Int) : Rat) = (L : Rat) * rt p := by
  have e : p.2 = (p.2.natAbs : Int) := by omega
  obtain ⟨q, rfl⟩ := hd
  have : ((p.2.natAbs * q : Nat) : Int) / p.2 = (q : Int) := by
    conv => lhs; arg 2; rw [e]
    rw [← Int.natCast_ediv, Nat.mul_div_cancel_left _ (by omega)]
  have c : ((p.2.natAbs * q : Nat) : Rat) = (p.2 : Rat) * ((q : Int) : Rat) := by
    have : ((p.2.natAbs * q : Nat) : Int) = p.2 * (q : Int) := by rw [Int.natCast_mul, ← e]
    have h : (((p.2.natAbs * q : Nat) : Int) : Rat) = ((p.2 * (q : Int) : Int) : Rat) := by rw [this]
    rw [Rat.intCast_mul] at h
    exact h
  unfold wh rt
  rw [this, Rat.intCast_mul, c]
  have := Sx.cpos h0
  grind
theorem atF_mem {fs : List (Int × Int)} {j : Nat} (h : j < fs.length) : atF fs j ∈ fs := by
  unfold atF; rw [List.getD_eq_getElem?_getD, List.getElem?_eq_getElem h]; exact List.getElem_mem h
theorem mem_atF {fs : List (Int × Int)} {p : Int × Int} (h : p ∈ fs) : ∃ j, j < fs.length ∧ atF fs j = p := by
  obtain ⟨j, hj, rfl⟩ := List.mem_iff_getElem.mp h
  exact ⟨j, hj, by simp [atF, List.getD_eq_getElem?_getD, hj]⟩
theorem at0_short {xs : List Int} (h : ∃ j, at0 xs j ≠ 0) : ∃ g : Int, 0 < g ∧ ∀ j, at0 (short xs) j * g = at0 xs j := by
  obtain ⟨g, a, b, _⟩ := Sx.short_spec h
  exact ⟨g, a, b⟩
theorem dif_scale (k : Nat) (w w' : Nat → Int) (g : Int) (h : ∀ t, w' t * g = w t) (c : Cp) : dif k w' c * g = dif k w c := by
  unfold dif
  rw [Int.mul_comm, ← Sx.si_mul]
  exact Sx.si_congr fun t _ => by rw [← h t]; grind
theorem pos_of {a g : Int} (g0 : 0 < g) (h : 0 < a * g) : 0 < a := by
  refine Classical.byContradiction fun n => ?_
  have := Int.mul_nonneg (a := -a) (b := g) (by omega) (by omega)
  have : (-a) * g = - (a * g) := by grind
  omega
theorem nn_of {a g : Int} (g0 : 0 < g) (h : 0 ≤ a * g) : 0 ≤ a := by
  refine Classical.byContradiction fun n => ?_
  have := Int.mul_pos (a := -a) (b := g) (by omega) g0
  have : (-a) * g = - (a * g) := by grind
  omega
theorem agree_scale {k : Nat} {told : List Cp} {w w' : Nat → Int} {g : Int} (g0 : 0 < g) (h : ∀ t, w' t * g = w t) (A : Agree k told w) : Agree k told w' := fun c hc => by
  have a := A c hc
  have e := dif_scale k w w' g h c
  unfold Hold at a ⊢
  cases q : c.sg with
  | gt => rw [q] at a; simp only at a ⊢; exact pos_of g0 (by rw [e]; exact a)
  | ge => rw [q] at a; simp only at a ⊢; exact nn_of g0 (by rw [e]; exact a)
  | eq =>
    rw [q] at a
    simp only at a ⊢
    rw [a] at e
    rcases Int.mul_eq_zero.mp e with z | z
    · exact z
    · omega
theorem cut_take (xs : List PV) (k : Nat) (h : k ≤ xs.length) : cutP xs none (some (k : Int)) = xs.take k := by
  unfold cutP
  have a : HT.sIx xs.length 0 none = 0 := rfl
  have b : HT.sIx xs.length xs.length (some (k : Int)) = k := by
    rw [HT.sIx_nat]; omega
  rw [a, b]; simp
theorem rep_flat : ∀ k : Nat, (List.replicate k [PV.int 0]).flatten = nI (List.replicate k 0)
  | 0 => rfl
  | k + 1 => by rw [List.replicate_succ, List.flatten_cons, rep_flat k, List.replicate_succ]; rfl
theorem mul_c (k : Nat) (s : Store) (h : k ≤ 1000) : -(2 ^ 63) ≤ (k:Int) ∧ (k:Int) < 2 ^ 63 ∧ [PV.int 0].length * (k : Int).toNat ≤ sizeLine := by
  have sz := szl
  refine ⟨by omega, by omega, ?_⟩
  rw [Int.toNat_natCast, List.length_cons, List.length_nil, sz]; omega
theorem mul_l (k : Nat) (s : Store) (h : k ≤ 1000) : oMulL (.lst [.int 0]) (.int (k : Int)) s = some (.lst (nI (List.replicate k 0))) := by
  have hc := mul_c k s h
  simp only [oMulL, asM]
  rw [if_pos hc, Int.toNat_natCast, rep_flat]
theorem mul_lst (k : Nat) (s : Store) (h : k ≤ 1000) : oMul (.lst [.int 0]) (.int (k : Int)) s = some (.lst (nI (List.replicate k 0))) := by
  have a : oMulI (.lst [.int 0]) (.int (k : Int)) s = none := rfl
  have b : oMulT (.lst [.int 0]) (.int (k : Int)) s = none := rfl
  unfold oMul
  rw [oOr, a]
  show oOr oMulT oMulL _ _ _ = _
  rw [oOr, b]
  exact mul_l k s h
def SolvedV (k : Nat) (told : List Cp) (v : PV) : Prop :=
  (∃ ws : List Int, v = .tup [.non, .tup (nI ws)] ∧ ws.length = k ∧ (∀ t, t < k → 0 < at0 ws t) ∧ Agree k told (at0 ws)) ∨
  (∃ vs : List Int, v = .tup [.tup (nI vs), .non] ∧ vs.length = told.length ∧ Bal k told (at0 vs))
theorem mk_step {k : Nat} {told : List Cp} (h1 : 1 ≤ k) (h5 : k ≤ 5) (h9 : told.length ≤ 9) {v0 : PV}
    (run : ∀ (st : Store) (o r b : Nat), EqAt st o r b (cols k told).length (List.replicate (k + 1) (.int 1)) (fTab (rsOf k (cols k told)) (goalsOf k) (cols k told).length (k + 1)) → r ≠ b → Ok (p_Equations_solved [.own o] st) fun v' s => v' = v0 ∧ Keeps [r, b] st s)
    {x9 x10 : PV} (hv : v0 = .tup [x9, x10]) {n : Nat} {st : Store} (y4 y5 y6 y7 : Option PV) (s : Store) (hn : n = st.length) (K : Keeps [] st s) (ls : st.length + 2 ≤ s.length) (hN : s[n + 1]? = some (.lst (namesV (nms 0 told ++ List.replicate k (none, 1))))) {Q : Fl → Store → Prop} {R : XS}
    (q : ∀ s', Keeps [] st s' → st.length + 2 ≤ s'.length → s'[n + 1]? = some (.lst (namesV (nms 0 told ++ List.replicate k (none, 1)))) → Ok (R [some (.int (k : Int)), some (toldV told), some (.own n), some (.own (n + 1)), y4, y5, y6, y7, some (.lst (rowsV (rsOf k (cols k told)))), some x9, some x10, none, none, none, none, none, none, none, none] s') Q) :
    Ok ((sSeq (sAsg (eMeth "Equations" "solved" 1 p_Equations_solved (eMake "Equations" 3 p_Equations___init__ (aCons (eVar 8) (aCons (eBin oAdd (eBin oMul (eFz (fDisp (aCons (eC (.int 0)) aNil))) (eVar 0)) (eFz (fDisp (aCons (eC (.int 1)) aNil)))) aNil))) aNil) (gTp 2 (gsCons (gNm 9) (gsCons (gNm 10) gsNil)))) R)
        [some (.int (k : Int)), some (toldV told), some (.own n), some (.own (n + 1)), y4, y5, y6, y7, some (.lst (rowsV (rsOf k (cols k told)))), none, none, none, none, none, none, none, none, none, none] s) Q := by
  have sz := szl
  have cl := colsC_len k told
  have ml : (cols k told).length ≤ 23 := by simp [cols, colT]; omega
  simp only [wkA, List.set_cons_zero, List.set_cons_succ, Option.some.injEq, exists_eq_left', exists_eq_left, List.length_cons, List.length_nil, Nat.reduceAdd, Nat.reduceLeDiff, true_and, and_true, if_true, Bool.not_true, Bool.not_false, Bool.false_eq_true, if_false, decide_eq_true_eq, List.cons.injEq, ↓reduceIte]
  refine Op.of (mul_lst k s (by omega)) ?_
  · refine Op.of (add_lst (List.replicate k 0) [1] s (by simp; omega)) ?_
    have ho : (s ++ [Cell.ins "Equations" []])[s.length]? = some (.ins "Equations" []) := by simp
    refine (init_ok (goals := goalsOf k) (many := (cols k told).length) (m := k + 1) ho (by omega) (by omega) (by simp [rsOf]) (by simp [goalsOf]) (by omega) (fun h hh => by rw [rs_at k _ hh]; simp) (fun h hh => by rw [goals_at k h hh]; split <;> decide) ?_).mono fun v s1 h1 => ?_
    · intro r hr x hx
      unfold rsOf at hr
      obtain ⟨h, hh, rfl⟩ := List.mem_map.mp hr
      obtain ⟨c, hc, rfl⟩ := List.mem_map.mp hx
      exact (col_len k told c hc).2 h
    · obtain ⟨rfl, K1, r, b, rb, rl, bl, E⟩ := h1
      refine ⟨rfl, _, _, rfl, E.ho, rfl, ?_⟩
      refine (run s1 s.length r b E rb).mono fun v' s2 h2 => ?_
      obtain ⟨rfl, K2⟩ := h2
      subst hv
      simp only [wkA, List.set_cons_zero, List.set_cons_succ, Option.some.injEq, exists_eq_left', exists_eq_left, List.length_cons, List.length_nil, Nat.reduceAdd, Nat.reduceLeDiff, true_and, and_true, if_true, Bool.not_true, Bool.not_false, Bool.false_eq_true, if_false, decide_eq_true_eq, List.cons.injEq, ↓reduceIte]
      rw [nxK_nx]
      have KK : Keeps [] s s2 := by
        have a : Keeps [s.length] s s1 := ⟨Nat.le_trans (by simp) K1.1, fun i hi hn' => by
          rw [K1.2 i (by simp; omega) hn', List.getElem?_append_left hi]⟩
        refine ⟨Nat.le_trans a.1 K2.1, fun i hi _ => ?_⟩
        have l1 : (s ++ [Cell.ins "Equations" []]).length = s.length + 1 := by simp
        rw [K2.2 i (Nat.lt_of_lt_of_le hi a.1) (by simp; omega), a.2 i hi (by simp; omega)]
      exact q s2 (K.trans KK) (Nat.le_trans ls KK.1) (keeps_get KK hN (by simp))
theorem solved_ok {k : Nat} {told : List Cp} (h1 : 1 ≤ k) (h5 : k ≤ 5) (h9 : told.length ≤ 9) :
    ∃ v : PV, SolvedV k told v ∧ ∀ st, Ok (p_solved [.int (k : Int), toldV told] st) fun v' s => v' = v ∧ Keeps [] st s := by
  have sz := szl
  have cl := colsC_len k told
  have ml : (cols k told).length ≤ 23 := by simp [cols, colT]; omega
  have S : Sx.Start (k + 1) ((cols k told).length + (k + 1)) (cols k told).length (startT (fTab (rsOf k (cols k told)) (goalsOf k) (cols k told).length (k + 1)) (cols k told).length (k + 1)) :=
    start_ok (by omega) (fun h hh => by rw [rs_at k _ hh]; simp) (fun h j hh => by
      rw [rs_at k _ hh, rs_at0]
      by_cases c : j < (cols k told).length
      · exact (col_len k told _ (by rw [List.getD_eq_getElem?_getD, List.getElem?_eq_getElem c]; exact List.getElem_mem c)).2 h
      · rw [List.getD_eq_getElem?_getD, List.getElem?_eq_none (by omega)]; simp [at0]) fun h hh => by rw [goals_at k h hh]; split <;> decide
  have rowA : ∀ h j, h < k + 1 → j < (cols k told).length → at0 ((fTab (rsOf k (cols k told)) (goalsOf k) (cols k told).length (k + 1)).row h) j = at0 ((cols k told).getD j []) h := fun h j hh hj => by
    rw [fTab_row hh, fRow_at (many := (cols k told).length) (by rw [rs_at k _ hh]; simp), if_pos hj, rs_at k _ hh, rs_at0]
  have rowG : ∀ h, h < k + 1 → at0 ((fTab (rsOf k (cols k told)) (goalsOf k) (cols k told).length (k + 1)).row h) ((cols k told).length + (k + 1) + 1) = if h = k then 1 else 0 := fun h hh => by
    rw [fTab_row hh, fRow_at (many := (cols k told).length) (by rw [rs_at k _ hh]; simp), if_neg (by omega), if_neg (by omega), if_pos rfl, goals_at k h hh]
  obtain ⟨v0, alt, run⟩ := eqs_ok S (by omega)
  have env : (env0 19 [PV.int (k : Int), toldV told] : Ev) = [some (.int (k : Int)), some (toldV told), none, none, none, none, none, none, none, none, none, none, none, none, none, none, none, none, none] := rfl
  rcases alt with ⟨ys, yl, rfl, ysm, yc, yg⟩ | ⟨fs, fl, rfl, fb, fe⟩
  · -- weights
    have yk : 0 < at0 ys k := by
      rw [Sx.si_congr (g := fun h => at0 ys h * (if h = k then 1 else 0)) fun h hh => by rw [rowG h hh], Sx.si_one (k := k) (by omega) fun j _ ne => by rw [if_neg ne]; omega, if_pos rfl] at yg
      omega
    obtain ⟨wp, wa⟩ := nums_agree (told := told) yl (fun col hc => by
      obtain ⟨j, hj, rfl⟩ := List.mem_iff_getElem.mp hc
      have a := yc j hj
      rw [Sx.si_congr (g := fun h => at0 ys h * at0 ((cols k told)[j]) h) fun h hh => by
        rw [rowA h j hh hj, List.getD_eq_getElem?_getD, List.getElem?_eq_getElem hj]; rfl] at a
      exact a) yk
    have nl : ((ys.take k).map fun x => -x).length = k := by simp; omega
    have na : ∀ t, t < k → at0 ((ys.take k).map fun x => -x) t = - at0 ys t := fun t ht => by
      unfold at0
      simp [List.getD_eq_getElem?_getD, List.getElem?_take, ht]
      cases ys[t]? <;> simp
    obtain ⟨g, g0, hg⟩ := at0_short (xs := (ys.take k).map fun x => -x) ⟨0, by rw [na 0 (by omega)]; have := wp 0 (by omega); omega⟩
    refine ⟨.tup [.non, .tup (nI (short ((ys.take k).map fun x => -x)))], .inl ⟨_, rfl, by rw [Sx.short_len, nl], fun t ht => ?_, fun c hc => ?_⟩, fun st => ?_⟩
    · have := wp t ht
      exact pos_of g0 (by rw [hg t, na t ht]; exact this)
    · have A : Agree k told (at0 ((ys.take k).map fun x => -x)) := fun c hc => by
        have a := wa c hc
        have e : dif k (at0 ((ys.take k).map fun x => -x)) c = dif k (fun t => - at0 ys t) c := Sx.si_congr fun t ht => by rw [na t ht]
        unfold Hold at a ⊢
        rw [e]; exact a
      exact agree_scale g0 hg A c hc
    · unfold p_solved runF
      rw [ok_retF, env]
      refine solved_head h5 h9 st fun n y4 y5 y6 y7 y8 s hn K ls hN => mk_step h1 h5 h9 run rfl y4 y5 y6 y7 s hn K ls hN fun s' K' ls' hN' => ?_
      unfold sRest
      simp only [wkA, List.set_cons_zero, List.set_cons_succ, Option.some.injEq, exists_eq_left', exists_eq_left, List.length_cons, List.length_nil, Nat.reduceAdd, Nat.reduceLeDiff, true_and, and_true, if_true, Bool.not_true, Bool.not_false, Bool.false_eq_true, if_false, decide_eq_true_eq, List.cons.injEq, ↓reduceIte]
      refine Op.of (z := .bl true) rfl ?_
      simp only [if_true]
      refine Op.of (z := .lst (nI (ys.take k))) ?_ ?_
      · simp only [oCut, asL]
        rw [cut_take _ _ (by simp [yl]), ← List.map_take]
      · refine ⟨_, rfl, ?_⟩
        refine ok_map (fun x => match x with | .int j => .int (-j) | x => x) (fun x hx => ?_) ?_
        · obtain ⟨a, ha, rfl⟩ := List.mem_map.mp hx
          simp only [wipeE]
          simp only [wkA, List.set_cons_zero, List.set_cons_succ, Option.some.injEq, exists_eq_left', exists_eq_left, List.length_cons, List.length_nil, Nat.reduceAdd, Nat.reduceLeDiff, true_and, and_true, if_true, Bool.not_true, Bool.not_false, Bool.false_eq_true, if_false, decide_eq_true_eq, List.cons.injEq, ↓reduceIte]
          exact Op.of rfl rfl
        · have mp : (nI (ys.take k)).map (fun x => match x with | .int j => .int (-j) | x => x) = nI ((ys.take k).map fun x => -x) := by
            show List.map _ (List.map _ _) = List.map _ (List.map _ _)
            rw [List.map_map, List.map_map]; rfl
          rw [mp, Ok.eq (shortened_ok s' fun x hx => ?_)]
          · refine Op.of (z := .tup (nI (short ((ys.take k).map fun x => -x)))) rfl ⟨rfl, K'⟩
          · obtain ⟨a, ha, rfl⟩ := List.mem_map.mp hx
            have := ysm a (List.mem_of_mem_take ha)
            rw [Int.natAbs_neg]
            exact Nat.lt_trans this (by decide)
  · -- a balance
    have fp : ∀ p, p ∈ fs → 0 < p.2 ∧ p.1.natAbs < 2 ^ 243 ∧ p.2.natAbs < 2 ^ 243 := fun p hp => by
      obtain ⟨j, hj, rfl⟩ := mem_atF hp
      obtain ⟨a, _, b, c⟩ := fb j (by omega)
      exact ⟨a, b, c⟩
    have L0 : 0 < lcs fs 1 := lcs_pos fs 1 (by decide) fun p hp => (fp p hp).1
    have Lb : lcs fs 1 < 2 ^ 7000 := Nat.lt_of_lt_of_le (lcs_small 243 fs 1 1 (by decide) fun p hp => (fp p hp).2.2) (Nat.pow_le_pow_right (by decide) (by rw [fl]; omega))
    have Ld := (lcs_dvd fs 1).2
    have wat : ∀ j, j < (cols k told).length → at0 (fs.map (wh (lcs fs 1))) j = wh (lcs fs 1) (atF fs j) := fun j hj => by
      unfold at0 atF
      simp [List.getD_eq_getElem?_getD, show j < fs.length by omega]
    obtain ⟨vl, vb⟩ := val_bal (k := k) (told := told) (ws := fs.map (wh (lcs fs 1))) (L := (lcs fs 1 : Nat)) (by simp [fl]) (fun w hw => by
        obtain ⟨p, hp, rfl⟩ := List.mem_map.mp hw
        obtain ⟨j, hj, rfl⟩ := mem_atF hp
        have b := (fb j (by omega)).2.1
        have c := (fb j (by omega)).1
        unfold wh
        exact Int.mul_nonneg b (Int.ediv_nonneg (by omega) (by omega))) (by omega) fun h hh => by
      rw [← dotc_si _ _ _ (by simp [fl])]
      have e := fe h (by omega)
      rw [rowG h (by omega), Sx.sm_congr (g := fun j => (at0 ((cols k told).getD j []) h : Rat) * rt (atF fs j)) fun j hj => by rw [rowA h j (by omega) hj]] at e
      apply Sx.ceq
      rw [Sx.si_cast, Sx.sm_congr (g := fun j => ((lcs fs 1 : Nat) : Rat) * ((at0 ((cols k told).getD j []) h : Rat) * rt (atF fs j))) fun j hj => by
        rw [Rat.intCast_mul, wat j hj, wh_rt (fb j hj).1 (Ld _ (atF_mem (by omega)))]
        grind, Sx.sm_mul, e]
      split
      · simp; rfl
      · simp
    refine ⟨.tup [.tup (nI (val told (fs.map (wh (lcs fs 1)))).1), .non], .inr ⟨_, rfl, vl, vb⟩, fun st => ?_⟩
    unfold p_solved runF
    rw [ok_retF, env]
    refine solved_head h5 h9 st fun n y4 y5 y6 y7 y8 s hn K ls hN => mk_step h1 h5 h9 run rfl y4 y5 y6 y7 s hn K ls hN fun s' K' ls' hN' => ?_
    unfold sRest
    simp only [wkA, List.set_cons_zero, List.set_cons_succ, Option.some.injEq, exists_eq_left', exists_eq_left, List.length_cons, List.length_nil, Nat.reduceAdd, Nat.reduceLeDiff, true_and, and_true, if_true, Bool.not_true, Bool.not_false, Bool.false_eq_true, if_false, decide_eq_true_eq, List.cons.injEq, ↓reduceIte]
    refine Op.of (z := .bl false) rfl ?_
    simp only [Bool.false_eq_true, if_false]
    rw [nxK_nx]
    simp only [wkA, List.set_cons_zero, List.set_cons_succ, Option.some.injEq, exists_eq_left', exists_eq_left, List.length_cons, List.length_nil, Nat.reduceAdd, Nat.reduceLeDiff, true_and, and_true, if_true, Bool.not_true, Bool.not_false, Bool.false_eq_true, if_false, decide_eq_true_eq, List.cons.injEq, ↓reduceIte]
    rw [Ok.eq (common_ok s' (by omega) fun p hp => ⟨(fp p hp).1, (fp p hp).2.2⟩)]
    refine Op.of (z := .int (told.length : Int)) (by simp [oLen, toldV, asS]) ?_
    refine ⟨[.int 0], (told.length : Int), rfl, rfl, ⟨by omega, by omega, by simp; omega⟩, ?_⟩
    have rep : (List.replicate (told.length : Int).toNat [PV.int 0]).flatten = nI ([] ++ List.replicate told.length 0) := by
      have : ∀ k : Nat, (List.replicate k [PV.int 0]).flatten = List.replicate k (.int 0) := by
        intro k
        induction k with
        | zero => rfl
        | succ k ih => rw [List.replicate_succ, List.flatten_cons, ih, List.replicate_succ]; rfl
      simp [this]
    rw [rep]
    rw [nxK_nx]
    rw [ok_seq, ok_for, ok_zip]
    simp only [wkA, List.set_cons_zero, List.set_cons_succ, Option.some.injEq, exists_eq_left', exists_eq_left, List.length_cons, List.length_nil, Nat.reduceAdd, Nat.reduceLeDiff, true_and, and_true, if_true, Bool.not_true, Bool.not_false, Bool.false_eq_true, if_false, decide_eq_true_eq, List.cons.injEq, ↓reduceIte]
    have hN2 : (s' ++ [Cell.lst (nI ([] ++ List.replicate told.length 0))])[n + 1]? = some (.lst (namesV (nms 0 told ++ List.replicate k (none, 1)))) := by
      rw [List.getElem?_append_left (by omega)]; exact hN'
    simp only [hN2]
    refine ⟨_, _, fs.map frV, namesV (nms 0 told ++ List.replicate k (none, 1)), ⟨rfl, rfl⟩, rfl, rfl, ?_⟩
    have hf : ((s' ++ [Cell.lst (nI ([] ++ List.replicate told.length 0))]).set (n + 1) (.frz (namesV (nms 0 told ++ List.replicate k (none, 1)))))[s'.length]? = some (.lst (nI ([] ++ List.replicate told.length 0))) := by
      rw [st_set hN2, if_neg (by omega)]; simp
    refine (found_loop (k := k) Lb _ _ _ _ _ _ _ _ _ _ _ _ _ _ told [] fs _ _ _ _ (by rw [fl]; simp [cols, colT]) fp hf).mono fun flw s2 h => ?_
    obtain ⟨e1, e2, e3, z4, z13, z14, rfl⟩ := h
    rw [nxK_nx]
    rw [ok_ret, ok_tup, ok_aCons, ok_cb, ok_aCons, ok_frz]
    simp only [wkA, List.set_cons_zero, List.set_cons_succ, Option.some.injEq, exists_eq_left', exists_eq_left, List.length_cons, List.length_nil, Nat.reduceAdd, Nat.reduceLeDiff, true_and, and_true, if_true, Bool.not_true, Bool.not_false, Bool.false_eq_true, if_false, decide_eq_true_eq, List.cons.injEq, ↓reduceIte]
    simp only [e1]
    refine Op.of (z := .tup (nI (val told (fs.map (wh (lcs fs 1)))).1)) (by simp [oTuple, asL]) ?_
    refine ⟨rfl, ?_⟩
    have K3 : Keeps [] st s2 := by
      refine ⟨by rw [e3]; simp; omega, fun i hi _ => ?_⟩
      rw [e2 i (by omega), st_set hN2, if_neg (by omega), List.getElem?_append_left (by omega)]
      exact K'.2 i hi (by simp)
    exact K3.set (.inl (by omega)) _
end Lq
end
section
set_option Elab.async false
set_option linter.all false
set_option maxRecDepth 10000
namespace Lq
open PySem PySem.Spec PyProof.Rows L2
open Sx (at0)
def Tn (ns : List Int) (n : Nat) (s : Store) : Prop := ∃ c, s[0]? = some (.lst c) ∧ Town ns n c
theorem Tn.mono {ns : List Int} {n m : Nat} {s : Store} (h : Tn ns n s) (l : n ≤ m) : Tn ns m s := by
  obtain ⟨c, a, x, ls, b, d, e, f⟩ := h
  exact ⟨c, a, x, ls, b, d, e, by omega⟩
theorem Tn.keeps {ns : List Int} {n : Nat} {s s' : Store} (h : Tn ns n s) (k : Keeps [] s s') : Tn ns n s' := by
  obtain ⟨c, a, t⟩ := h
  exact ⟨c, keeps_get k a (by simp), t⟩
theorem draw_sp {ns : List Int} {n : Nat} {s : Store} {lim : Int} (T : Tn ns n s) (hn : n < 900000) (hns : ns.length ≤ 63) (h0 : 0 < lim) (h1 : lim < 1000000) :
    Ok (drawF [.scr ns, .own 0, .int lim] s) fun v s' => ∃ d, v = .int d ∧ 0 ≤ d ∧ d < lim ∧ Tn ns (n + 1) s' ∧ Keeps [0] s s' := by
  obtain ⟨c, a, t⟩ := T
  obtain ⟨d, c', e, d0, d1, t'⟩ := draw_ok a t (by omega) hns h0 h1
  rw [e, ok_ok]
  exact ⟨d, rfl, d0, d1, ⟨c', by rw [st_set a, if_pos rfl], t'⟩, (Keeps.refl _ _).set (.inr (by simp)) _⟩
theorem atI_int {α : Type} {xs : List α} {d : Int} (h0 : 0 ≤ d) (h1 : d < xs.length) : ∃ x, x ∈ xs ∧ xs[d.toNat]? = some x ∧ atI xs d = some x := by
  obtain ⟨i, rfl⟩ : ∃ i : Nat, d = (i : Int) := ⟨d.toNat, by omega⟩
  have hi : i < xs.length := by omega
  exact ⟨xs[i], List.getElem_mem hi, by simp [hi], atI_nat (List.getElem?_eq_getElem hi)⟩
theorem pick_sp {ns : List Int} {n : Nat} {s : Store} {xs : List PV} (T : Tn ns n s) (hn : n < 900000) (hns : ns.length ≤ 63) (h0 : 0 < xs.length) (h1 : xs.length < 1000) :
    Ok (p__law_pick [.scr ns, .own 0, .lst xs] s) fun v s' => v ∈ xs ∧ Tn ns (n + 1) s' ∧ Keeps [0] s s' := by
  (unfold p__law_pick runF; rw [ok_retF]; simp only [env0, List.map_cons, List.map_nil, List.length_cons, List.length_nil, Nat.reduceAdd, Nat.reduceSub, List.reduceReplicate, List.cons_append, List.nil_append])
  simp only [wkA, List.set_cons_zero, List.set_cons_succ, Option.some.injEq, exists_eq_left', exists_eq_left, List.length_cons, List.length_nil, Nat.reduceAdd, Nat.reduceLeDiff, true_and, and_true, if_true, Bool.not_true, Bool.not_false, Bool.false_eq_true, if_false, decide_eq_true_eq, List.cons.injEq, ↓reduceIte]
  refine Op.of (z := .int (xs.length : Int)) (by simp [oLen, asS, asL]) ?_
  refine (draw_sp T hn hns (by omega) (by omega)).mono fun v s' h => ?_
  obtain ⟨d, rfl, d0, d1, T', K'⟩ := h
  obtain ⟨x, hx, _, e⟩ := atI_int d0 d1
  exact Op.of (z := x) (by simp only [oIx, asS, asL]; exact e) ⟨hx, T', K'⟩
theorem scale_sp {ns : List Int} {n k : Nat} {s : Store} (T : Tn ns n s) (hn : n < 800000) (hns : ns.length ≤ 63) (hk : k ≤ 10) :
    Ok (p__law_scale [.scr ns, .own 0, .int (k : Int)] s) fun v s' => ∃ ws : List Int, v = .tup (nI ws) ∧ ws.length = k ∧ (∀ w, w ∈ ws → 1 ≤ w ∧ w ≤ 9) ∧ Tn ns (n + 11) s' ∧ Keeps [0] s s' := by
  have sz := szl
  (unfold p__law_scale runF; rw [ok_retF]; simp only [env0, List.map_cons, List.map_nil, List.length_cons, List.length_nil, Nat.reduceAdd, Nat.reduceSub, List.reduceReplicate, List.cons_append, List.nil_append])
  simp only [wkA, List.set_cons_zero, List.set_cons_succ, Option.some.injEq, exists_eq_left', exists_eq_left, List.length_cons, List.length_nil, Nat.reduceAdd, Nat.reduceLeDiff, true_and, and_true, if_true, Bool.not_true, Bool.not_false, Bool.false_eq_true, if_false, decide_eq_true_eq, List.cons.injEq, ↓reduceIte]
  refine (pick_sp T (by omega) hns (by simp) (by simp)).mono fun v s1 h => ?_
  obtain ⟨hv, T1, K1⟩ := h
  obtain ⟨m, rfl, m0, m9⟩ : ∃ m : Int, v = .int m ∧ 2 ≤ m ∧ m ≤ 9 := by
    simp only [List.mem_cons, List.not_mem_nil, or_false] at hv
    rcases hv with rfl | rfl | rfl
    · exact ⟨2, rfl, by decide, by decide⟩
    · exact ⟨4, rfl, by decide, by decide⟩
    · exact ⟨9, rfl, by decide, by decide⟩
  rw [nxK_nx]
  simp only [wkA, List.set_cons_zero, List.set_cons_succ, Option.some.injEq, exists_eq_left', exists_eq_left, List.length_cons, List.length_nil, Nat.reduceAdd, Nat.reduceLeDiff, true_and, and_true, if_true, Bool.not_true, Bool.not_false, Bool.false_eq_true, if_false, decide_eq_true_eq, List.cons.injEq, ↓reduceIte]
  refine ⟨⟨by unfold okR; simp; omega, by simp; omega⟩, ?_⟩
  have rn : (k : Int).toNat = k := by simp
  rw [rn]
  refine ok_compV (fun i pre s' => ∃ ws : List Int, pre = nI ws ∧ ws.length = i ∧ (∀ w, w ∈ ws → 1 ≤ w ∧ w ≤ 9) ∧ Tn ns (n + 1 + i) s' ∧ Keeps [0] s s') _ 0 [] _ ?_ ⟨[], rfl, rfl, by simp, T1, K1⟩ ?_
  · rintro i x hx pre s' ⟨ws, rfl, wl, wb, T', K'⟩
    obtain ⟨hi, rfl⟩ := rng_at hx
    simp only [wipeE]
    simp only [wkA, List.set_cons_zero, List.set_cons_succ, Option.some.injEq, exists_eq_left', exists_eq_left, List.length_cons, List.length_nil, Nat.reduceAdd, Nat.reduceLeDiff, true_and, and_true, if_true, Bool.not_true, Bool.not_false, Bool.false_eq_true, if_false, decide_eq_true_eq, List.cons.injEq, ↓reduceIte]
    rw [Nat.zero_add] at wl T' ⊢
    refine (draw_sp T' (by omega) hns (by omega) (by omega)).mono fun v s2 h => ?_
    obtain ⟨d, rfl, d0, d1, T2, K2⟩ := h
    simp only [wkA, List.set_cons_zero, List.set_cons_succ, Option.some.injEq, exists_eq_left', exists_eq_left, List.length_cons, List.length_nil, Nat.reduceAdd, Nat.reduceLeDiff, true_and, and_true, if_true, Bool.not_true, Bool.not_false, Bool.false_eq_true, if_false, decide_eq_true_eq, List.cons.injEq, ↓reduceIte]
    refine ⟨ws ++ [1 + d], by simp, by simp [wl], fun w hw => ?_, T2.mono (by omega), K'.trans K2⟩
    rcases List.mem_append.mp hw with hw | hw
    · exact wb w hw
    · simp at hw; omega
  · rintro all s' ⟨ws, e, wl, wb, T', K'⟩
    rw [List.nil_append] at e
    subst e
    rw [Nat.zero_add, rng_len] at wl T'
    exact Op.of (z := .tup (nI ws)) rfl ⟨ws, rfl, wl, wb, T'.mono (by omega), K'⟩
def Lot (k : Nat) (l : List Nat) : Prop := l.Pairwise (· < ·) ∧ ∀ x, x ∈ l → x < k
instance (k : Nat) (l : List Nat) : Decidable (Lot k l) := by unfold Lot; exact inferInstance
structure ValidC (k : Nat) (c : Cp) : Prop where
  one : Lot k c.one
  other : Lot k c.other
def Valid (k : Nat) (told : List Cp) : Prop := ∀ c, c ∈ told → ValidC k c
def lotsL : Nat → List (List Nat)
  | 1 => [[], [0]]
  | 2 => [[], [0], [0, 1], [1]]
  | 3 => [[], [0], [0, 1], [0, 1, 2], [0, 2], [1], [1, 2], [2]]
  | 4 => [[], [0], [0, 1], [0, 1, 2], [0, 1, 2, 3], [0, 1, 3], [0, 2], [0, 2, 3], [0, 3], [1], [1, 2], [1, 2, 3], [1, 3], [2], [2, 3], [3]]
  | 5 => [[], [0], [0, 1], [0, 1, 2], [0, 1, 2, 3], [0, 1, 2, 3, 4], [0, 1, 2, 4], [0, 1, 3], [0, 1, 3, 4], [0, 1, 4], [0, 2], [0, 2, 3], [0, 2, 3, 4], [0, 2, 4], [0, 3], [0, 3, 4], [0, 4], [1], [1, 2], [1, 2, 3], [1, 2, 3, 4], [1, 2, 4], [1, 3], [1, 3, 4], [1, 4], [2], [2, 3], [2, 3, 4], [2, 4], [3], [3, 4], [4]]
  | _ => []
theorem five {k : Nat} (h1 : 1 ≤ k) (h5 : k ≤ 5) : k = 1 ∨ k = 2 ∨ k = 3 ∨ k = 4 ∨ k = 5 := by omega
theorem lots_sp {k : Nat} (h1 : 1 ≤ k) (h5 : k ≤ 5) (st : Store) : p__law_lots [.int (k : Int)] st = .ok (.lst ((lotsL k).map lotV)) st := by
  rcases five h1 h5 with rfl | rfl | rfl | rfl | rfl <;> kernel_rfl
theorem lots_lot {k : Nat} (h1 : 1 ≤ k) (h5 : k ≤ 5) : ∀ l, l ∈ lotsL k → Lot k l := by
  rcases five h1 h5 with rfl | rfl | rfl | rfl | rfl <;> decide
theorem lots_len {k : Nat} (h1 : 1 ≤ k) (h5 : k ≤ 5) : 0 < (lotsL k).length ∧ (lotsL k).length ≤ 32 := by
  rcases five h1 h5 with rfl | rfl | rfl | rfl | rfl <;> decide
def lw (ws : List Int) (l : List Nat) : Int := (l.map (at0 ws)).sum
theorem asInts_nI : ∀ ns : List Int, asInts (nI ns) = some ns
  | [] => rfl
  | n :: ns => by
    show asInts (PV.int n :: nI ns) = _
    simp only [asInts, asInts_nI ns]; rfl
theorem weight_sp {ws : List Int} {l : List Nat} (h : ∀ x, x ∈ l → x < ws.length) (st : Store) : p__law_weight [.tup (nI ws), lotV l] st = .ok (.int (lw ws l)) st := by
  have : Ok (p__law_weight [.tup (nI ws), lotV l] st) fun v s => v = .int (lw ws l) ∧ s = st := by
    (unfold p__law_weight runF; rw [ok_retF]; simp only [env0, List.map_cons, List.map_nil, List.length_cons, List.length_nil, Nat.reduceAdd, Nat.reduceSub, List.reduceReplicate, List.cons_append, List.nil_append])
    simp only [wkA, List.set_cons_zero, List.set_cons_succ, Option.some.injEq, exists_eq_left', exists_eq_left, List.length_cons, List.length_nil, Nat.reduceAdd, Nat.reduceLeDiff, true_and, and_true, if_true, Bool.not_true, Bool.not_false, Bool.false_eq_true, if_false, decide_eq_true_eq, List.cons.injEq, ↓reduceIte]
    refine ⟨natsV l, rfl, ?_⟩
    refine ok_map (fun x => match x with | .int j => .int (at0 ws j.toNat) | x => x) (fun x hx => ?_) ?_
    · obtain ⟨t, ht, rfl⟩ := List.mem_map.mp hx
      simp only [wipeE]
      simp only [wkA, List.set_cons_zero, List.set_cons_succ, Option.some.injEq, exists_eq_left', exists_eq_left, List.length_cons, List.length_nil, Nat.reduceAdd, Nat.reduceLeDiff, true_and, and_true, if_true, Bool.not_true, Bool.not_false, Bool.false_eq_true, if_false, decide_eq_true_eq, List.cons.injEq, ↓reduceIte]
      refine Op.of (z := .int (at0 ws t)) ?_ (by simp)
      have := h t ht
      exact oIxT_nat st (by rw [List.getElem?_map, List.getElem?_eq_getElem this]; simp [at0, this])
    · have e : (natsV l).map (fun x => match x with | .int j => .int (at0 ws j.toNat) | x => x) = nI (l.map (at0 ws)) := by
        show List.map _ (List.map _ _) = List.map _ (List.map _ _)
        rw [List.map_map, List.map_map]; rfl
      rw [e]
      refine Op.of (z := .int (lw ws l)) (by simp only [oSum, asL]; rw [asInts_nI]; rfl) ⟨rfl, rfl⟩
  obtain ⟨v, s, e, rfl, rfl⟩ := this
  exact e
theorem sg_ne_gt (g : Sg) (s : Store) : oNe (.str g.s) (.str ">") s = some (.bl (!decide (g = .gt))) := by cases g <;> kernel_rfl
theorem sg_ne_eq (g : Sg) (s : Store) : oNe (.str g.s) (.str "=") s = some (.bl (!decide (g = .eq))) := by cases g <;> kernel_rfl
theorem comparison_sp {ns : List Int} {n k : Nat} {s : Store} {ws : List Int} (T : Tn ns n s) (hn : n < 800000) (hns : ns.length ≤ 63) (h1 : 1 ≤ k) (h5 : k ≤ 5) (wl : ws.length = k) :
    Ok (p__law_comparison [.scr ns, .own 0, .int (k : Int), .tup (nI ws)] s) fun v s' => ∃ c, v = cpV c ∧ ValidC k c ∧ Tn ns (n + 4) s' ∧ Keeps [0] s s' := by
  have ll := lots_len h1 h5
  (unfold p__law_comparison runF; rw [ok_retF]; simp only [env0, List.map_cons, List.map_nil, List.length_cons, List.length_nil, Nat.reduceAdd, Nat.reduceSub, List.reduceReplicate, List.cons_append, List.nil_append])
  simp only [wkA, List.set_cons_zero, List.set_cons_succ, Option.some.injEq, exists_eq_left', exists_eq_left, List.length_cons, List.length_nil, Nat.reduceAdd, Nat.reduceLeDiff, true_and, and_true, if_true, Bool.not_true, Bool.not_false, Bool.false_eq_true, if_false, decide_eq_true_eq, List.cons.injEq, ↓reduceIte]
  rw [Ok.eq (lots_sp h1 h5 s)]
  rw [nxK_nx]
  simp only [wkA, List.set_cons_zero, List.set_cons_succ, Option.some.injEq, exists_eq_left', exists_eq_left, List.length_cons, List.length_nil, Nat.reduceAdd, Nat.reduceLeDiff, true_and, and_true, if_true, Bool.not_true, Bool.not_false, Bool.false_eq_true, if_false, decide_eq_true_eq, List.cons.injEq, ↓reduceIte]
  refine (pick_sp T (by omega) hns (by simp; omega) (by simp; omega)).mono fun v1 s1 h => ?_
  obtain ⟨hv1, T1, K1⟩ := h
  refine (pick_sp T1 (by omega) hns (by simp; omega) (by simp; omega)).mono fun v2 s2 h => ?_
  obtain ⟨hv2, T2, K2⟩ := h
  obtain ⟨a, ha, rfl⟩ := List.mem_map.mp hv1
  obtain ⟨b, hb, rfl⟩ := List.mem_map.mp hv2
  have la := lots_lot h1 h5 a ha
  have lb := lots_lot h1 h5 b hb
  rw [nxK_nx]
  simp only [wkA, List.set_cons_zero, List.set_cons_succ, Option.some.injEq, exists_eq_left', exists_eq_left, List.length_cons, List.length_nil, Nat.reduceAdd, Nat.reduceLeDiff, true_and, and_true, if_true, Bool.not_true, Bool.not_false, Bool.false_eq_true, if_false, decide_eq_true_eq, List.cons.injEq, ↓reduceIte]
  refine (pick_sp T2 (by omega) hns (by simp) (by simp)).mono fun v3 s3 h => ?_
  obtain ⟨hv3, T3, K3⟩ := h
  obtain ⟨g, rfl⟩ : ∃ g : Sg, v3 = .str g.s := by
    simp only [List.mem_cons, List.not_mem_nil, or_false] at hv3
    rcases hv3 with rfl | rfl | rfl | rfl
    · exact ⟨.gt, rfl⟩
    · exact ⟨.gt, rfl⟩
    · exact ⟨.ge, rfl⟩
    · exact ⟨.eq, rfl⟩
  rw [nxK_nx]
  simp only [wkA, List.set_cons_zero, List.set_cons_succ, Option.some.injEq, exists_eq_left', exists_eq_left, List.length_cons, List.length_nil, Nat.reduceAdd, Nat.reduceLeDiff, true_and, and_true, if_true, Bool.not_true, Bool.not_false, Bool.false_eq_true, if_false, decide_eq_true_eq, List.cons.injEq, ↓reduceIte]
  refine (draw_sp T3 (by omega) hns (by omega) (by omega)).mono fun v4 s4 h => ?_
  obtain ⟨d, rfl, d0, d1, T4, K4⟩ := h
  have KK := ((K1.trans K2).trans K3).trans K4
  simp only [wkA, List.set_cons_zero, List.set_cons_succ, Option.some.injEq, exists_eq_left', exists_eq_left, List.length_cons, List.length_nil, Nat.reduceAdd, Nat.reduceLeDiff, true_and, and_true, if_true, Bool.not_true, Bool.not_false, Bool.false_eq_true, if_false, decide_eq_true_eq, List.cons.injEq, ↓reduceIte]
  split
  · rw [Ok.eq (weight_sp (fun x hx => by rw [wl]; exact la.2 x hx) s4), Ok.eq (weight_sp (fun x hx => by rw [wl]; exact lb.2 x hx) s4)]
    simp only [wkA, List.set_cons_zero, List.set_cons_succ, Option.some.injEq, exists_eq_left', exists_eq_left, List.length_cons, List.length_nil, Nat.reduceAdd, Nat.reduceLeDiff, true_and, and_true, if_true, Bool.not_true, Bool.not_false, Bool.false_eq_true, if_false, decide_eq_true_eq, List.cons.injEq, ↓reduceIte]
    rw [nxK_nx]
    simp only [wkA, List.set_cons_zero, List.set_cons_succ, Option.some.injEq, exists_eq_left', exists_eq_left, List.length_cons, List.length_nil, Nat.reduceAdd, Nat.reduceLeDiff, true_and, and_true, if_true, Bool.not_true, Bool.not_false, Bool.false_eq_true, if_false, decide_eq_true_eq, List.cons.injEq, ↓reduceIte]
    have fin : ∀ (x y : List Nat), Lot k x → Lot k y → Ok ((eIf (tOrF (tAndF (tE (eBin oEq (eVar 8) (eC (PV.int 0)))) (tE (eBin oNe (eVar 7) (eC (PV.str ">"))))) (tAndF (tE (eBin oNe (eVar 8) (eC (PV.int 0)))) (tE (eBin oNe (eVar 7) (eC (PV.str "=")))))) (eVar 7) (eC (PV.str ">="))) [some (.scr ns), some (.own 0), some (.int (k : Int)), some (.tup (nI ws)), some (.lst ((lotsL k).map lotV)), some (lotV x), some (lotV y), some (.str g.s), some (.int (lw ws a - lw ws b))] s4) fun v s => (∃ g' : Sg, v = .str g'.s) ∧ s = s4 := fun x y lx ly => by
      simp only [wkA, List.set_cons_zero, List.set_cons_succ, Option.some.injEq, exists_eq_left', exists_eq_left, List.length_cons, List.length_nil, Nat.reduceAdd, Nat.reduceLeDiff, true_and, and_true, if_true, Bool.not_true, Bool.not_false, Bool.false_eq_true, if_false, decide_eq_true_eq, List.cons.injEq, ↓reduceIte]
      by_cases z : lw ws a - lw ws b = 0
      · simp only [z, BEq.rfl, if_true]
        refine Op.of (sg_ne_gt g s4) ?_
        cases g <;> simp <;> first | exact ⟨.gt, rfl⟩ | exact ⟨.ge, rfl⟩ | exact ⟨.eq, rfl⟩
      · have z' : (lw ws a - lw ws b == 0) = false := by simpa using z
        simp only [z', Bool.not_false, if_true, Bool.false_eq_true, if_false]
        refine Op.of (sg_ne_eq g s4) ?_
        cases g <;> simp <;> first | exact ⟨.gt, rfl⟩ | exact ⟨.ge, rfl⟩ | exact ⟨.eq, rfl⟩
    split
    · rw [nxK_nx]
      rw [ok_set]
      refine (fin a b la lb).mono fun v s5 h => ?_
      obtain ⟨⟨g', rfl⟩, rfl⟩ := h
      rw [nxK_nx]
      simp only [wkA, List.set_cons_zero, List.set_cons_succ, Option.some.injEq, exists_eq_left', exists_eq_left, List.length_cons, List.length_nil, Nat.reduceAdd, Nat.reduceLeDiff, true_and, and_true, if_true, Bool.not_true, Bool.not_false, Bool.false_eq_true, if_false, decide_eq_true_eq, List.cons.injEq, ↓reduceIte]
      exact ⟨⟨a, g', b⟩, rfl, ⟨la, lb⟩, T4, KK⟩
    · rw [nxK_nx]
      rw [ok_set]
      refine (fin b a lb la).mono fun v s5 h => ?_
      obtain ⟨⟨g', rfl⟩, rfl⟩ := h
      rw [nxK_nx]
      simp only [wkA, List.set_cons_zero, List.set_cons_succ, Option.some.injEq, exists_eq_left', exists_eq_left, List.length_cons, List.length_nil, Nat.reduceAdd, Nat.reduceLeDiff, true_and, and_true, if_true, Bool.not_true, Bool.not_false, Bool.false_eq_true, if_false, decide_eq_true_eq, List.cons.injEq, ↓reduceIte]
      exact ⟨⟨b, g', a⟩, rfl, ⟨lb, la⟩, T4, KK⟩
  · rw [nxK_nx]
    simp only [wkA, List.set_cons_zero, List.set_cons_succ, Option.some.injEq, exists_eq_left', exists_eq_left, List.length_cons, List.length_nil, Nat.reduceAdd, Nat.reduceLeDiff, true_and, and_true, if_true, Bool.not_true, Bool.not_false, Bool.false_eq_true, if_false, decide_eq_true_eq, List.cons.injEq, ↓reduceIte]
    exact ⟨⟨a, g, b⟩, rfl, ⟨la, lb⟩, T4, KK⟩
theorem told_sp {ns : List Int} {n k : Nat} {s : Store} {most : Nat} (T : Tn ns n s) (hn : n < 700000) (hns : ns.length ≤ 63) (h1 : 1 ≤ k) (h5 : k ≤ 5) (hm : most ≤ 8) :
    Ok (p__law_told [.scr ns, .own 0, .int (k : Int), .int (most : Int)] s) fun v s' => ∃ told, v = toldV told ∧ told.length ≤ most ∧ Valid k told ∧ Tn ns (n + 60) s' ∧ Keeps [0] s s' := by
  have sz := szl
  (unfold p__law_told runF; rw [ok_retF]; simp only [env0, List.map_cons, List.map_nil, List.length_cons, List.length_nil, Nat.reduceAdd, Nat.reduceSub, List.reduceReplicate, List.cons_append, List.nil_append])
  simp only [wkA, List.set_cons_zero, List.set_cons_succ, Option.some.injEq, exists_eq_left', exists_eq_left, List.length_cons, List.length_nil, Nat.reduceAdd, Nat.reduceLeDiff, true_and, and_true, if_true, Bool.not_true, Bool.not_false, Bool.false_eq_true, if_false, decide_eq_true_eq, List.cons.injEq, ↓reduceIte]
  refine (scale_sp T (by omega) hns (by omega)).mono fun v s1 h => ?_
  obtain ⟨ws, rfl, wl, wb, T1, K1⟩ := h
  rw [nxK_nx]
  simp only [wkA, List.set_cons_zero, List.set_cons_succ, Option.some.injEq, exists_eq_left', exists_eq_left, List.length_cons, List.length_nil, Nat.reduceAdd, Nat.reduceLeDiff, true_and, and_true, if_true, Bool.not_true, Bool.not_false, Bool.false_eq_true, if_false, decide_eq_true_eq, List.cons.injEq, ↓reduceIte]
  refine (draw_sp T1 (by omega) hns (by omega) (by omega)).mono fun v s2 h => ?_
  obtain ⟨d, rfl, d0, d1, T2, K2⟩ := h
  simp only [wkA, List.set_cons_zero, List.set_cons_succ, Option.some.injEq, exists_eq_left', exists_eq_left, List.length_cons, List.length_nil, Nat.reduceAdd, Nat.reduceLeDiff, true_and, and_true, if_true, Bool.not_true, Bool.not_false, Bool.false_eq_true, if_false, decide_eq_true_eq, List.cons.injEq, ↓reduceIte]
  refine ⟨⟨by unfold okR; simp; omega, by omega⟩, ?_⟩
  refine ok_compV (fun i pre s' => ∃ told, pre = told.map cpV ∧ told.length = i ∧ Valid k told ∧ Tn ns (n + 12 + 4 * i) s' ∧ Keeps [0] s s') _ 0 [] _ ?_ ⟨[], rfl, rfl, fun c h => by simp at h, T2.mono (by omega), K1.trans K2⟩ ?_
  · rintro i x hx pre s' ⟨told, rfl, tl, tv, T', K'⟩
    obtain ⟨hi, rfl⟩ := rng_at hx
    simp only [wipeE]
    simp only [wkA, List.set_cons_zero, List.set_cons_succ, Option.some.injEq, exists_eq_left', exists_eq_left, List.length_cons, List.length_nil, Nat.reduceAdd, Nat.reduceLeDiff, true_and, and_true, if_true, Bool.not_true, Bool.not_false, Bool.false_eq_true, if_false, decide_eq_true_eq, List.cons.injEq, ↓reduceIte]
    rw [Nat.zero_add] at tl T' ⊢
    refine (comparison_sp T' (by omega) hns h1 h5 wl).mono fun v s3 h => ?_
    obtain ⟨c, rfl, vc, T3, K3⟩ := h
    refine ⟨told ++ [c], by simp, by simp [tl], fun c' h' => ?_, T3.mono (by omega), K'.trans K3⟩
    rcases List.mem_append.mp h' with h' | h'
    · exact tv c' h'
    · simp at h'; rw [h']; exact vc
  · rintro all s' ⟨told, e, tl, tv, T', K'⟩
    rw [List.nil_append] at e
    subst e
    rw [Nat.zero_add, rng_len] at tl T'
    exact Op.of (z := toldV told) rfl ⟨told, rfl, by omega, tv, T'.mono (by omega), K'⟩
end Lq
end
section
set_option Elab.async false
set_option linter.all false
set_option maxRecDepth 10000
namespace Lq
open PySem PySem.Spec PyProof.Rows L2
open Sx (at0 si)
theorem eqOk {r : R PV} {x : PV} {st : Store} (h : Ok r fun v s => v = x ∧ s = st) : r = .ok x st := by
  obtain ⟨v, s, e, rfl, rfl⟩ := h
  exact e
theorem between_sp (v lo hi : Int) (st : Store) : p_is_between [.int v, .int lo, .int hi] st = .ok (.bl (decide (lo ≤ v) && decide (v ≤ hi))) st := by
  apply eqOk
  (unfold p_is_between runF; rw [ok_retF]; simp only [env0, List.map_cons, List.map_nil, List.length_cons, List.length_nil, Nat.reduceAdd, Nat.reduceSub, List.reduceReplicate, List.cons_append, List.nil_append])
  simp only [wkA, List.set_cons_zero, List.set_cons_succ, Option.some.injEq, exists_eq_left', exists_eq_left, List.length_cons, List.length_nil, Nat.reduceAdd, Nat.reduceLeDiff, true_and, and_true, if_true, Bool.not_true, Bool.not_false, Bool.false_eq_true, if_false, decide_eq_true_eq, List.cons.injEq, ↓reduceIte]
  refine ⟨.int, rfl, ?_⟩
  have e1 : Kd.isa .int .int = true := rfl
  have e2 : Kd.isa .int .bl = false := rfl
  simp only [e1, if_true]
  refine ⟨.int, rfl, ?_⟩
  simp only [e2, Bool.not_false, if_true]
  refine Op.of (z := .bl (decide (lo ≤ v))) rfl ?_
  by_cases c : lo ≤ v
  · simp only [c, decide_true, if_true]
    exact Op.of (z := .bl (decide (v ≤ hi))) rfl (by simp)
  · simp [c]
theorem bools_all : ∀ bs : List Bool, asBools (bs.map PV.bl) = some bs
  | [] => rfl
  | b :: bs => by
    show asBools (PV.bl b :: bs.map PV.bl) = _
    simp only [asBools, bools_all bs]; rfl
theorem oAll_true {xs : List PV} (st : Store) (h : ∀ x, x ∈ xs → x = .bl true) : oAll [.lst xs] st = some (.bl true) := by
  have : xs = (List.replicate xs.length true).map PV.bl := by
    rw [List.map_replicate]
    exact List.eq_replicate_iff.mpr ⟨rfl, h⟩
  rw [this]
  simp only [oAll, asL, bools_all]
  simp
theorem things_sp {k : Nat} (h1 : 1 ≤ k) (h5 : k ≤ 5) (st : Store) : p_check_things [.int (k : Int)] st = .ok .non st := by
  apply eqOk
  (unfold p_check_things runF; rw [ok_retF]; simp only [env0, List.map_cons, List.map_nil, List.length_cons, List.length_nil, Nat.reduceAdd, Nat.reduceSub, List.reduceReplicate, List.cons_append, List.nil_append])
  simp only [wkA, List.set_cons_zero, List.set_cons_succ, Option.some.injEq, exists_eq_left', exists_eq_left, List.length_cons, List.length_nil, Nat.reduceAdd, Nat.reduceLeDiff, true_and, and_true, if_true, Bool.not_true, Bool.not_false, Bool.false_eq_true, if_false, decide_eq_true_eq, List.cons.injEq, ↓reduceIte]
  rw [Ok.eq (between_sp _ _ _ st)]
  have : (decide ((1 : Int) ≤ (k : Int)) && decide ((k : Int) ≤ 5)) = true := by simp; omega
  simp [this]
theorem found_lot_sp {k : Nat} {l : List Nat} (h : Lot k l) (hl : l.length ≤ 1000) (st : Store) : p_is_found_lot [.int (k : Int), lotV l] st = .ok (.bl true) st := by
  have sz := szl
  apply eqOk
  (unfold p_is_found_lot runF; rw [ok_retF]; simp only [env0, List.map_cons, List.map_nil, List.length_cons, List.length_nil, Nat.reduceAdd, Nat.reduceSub, List.reduceReplicate, List.cons_append, List.nil_append])
  unfold lotV
  simp only [wkA, List.set_cons_zero, List.set_cons_succ, Option.some.injEq, exists_eq_left', exists_eq_left, List.length_cons, List.length_nil, Nat.reduceAdd, Nat.reduceLeDiff, true_and, and_true, if_true, Bool.not_true, Bool.not_false, Bool.false_eq_true, if_false, decide_eq_true_eq, List.cons.injEq, ↓reduceIte]
  refine ⟨.tup, rfl, ?_⟩
  have e1 : Kd.isa .tup .tup = true := rfl
  simp only [e1, Bool.not_true, Bool.false_eq_true, if_false]
  refine ⟨_, rfl, ?_⟩
  refine ok_map (fun _ => .bl true) (fun x hx => ?_) ?_
  · obtain ⟨t, ht, rfl⟩ := List.mem_map.mp hx
    simp only [wipeE]
    simp only [wkA, List.set_cons_zero, List.set_cons_succ, Option.some.injEq, exists_eq_left', exists_eq_left, List.length_cons, List.length_nil, Nat.reduceAdd, Nat.reduceLeDiff, true_and, and_true, if_true, Bool.not_true, Bool.not_false, Bool.false_eq_true, if_false, decide_eq_true_eq, List.cons.injEq, ↓reduceIte]
    rw [Ok.eq (between_sp _ _ _ st)]
    have := h.2 t ht
    simp
    omega
  · refine Op.of (oAll_true st fun x hx => ?_) ?_
    · obtain ⟨y, _, rfl⟩ := List.mem_map.mp hx; rfl
    · simp only [Bool.not_true, Bool.false_eq_true, if_false]
      rw [nxK_nx]
      simp only [wkA, List.set_cons_zero, List.set_cons_succ, Option.some.injEq, exists_eq_left', exists_eq_left, List.length_cons, List.length_nil, Nat.reduceAdd, Nat.reduceLeDiff, true_and, and_true, if_true, Bool.not_true, Bool.not_false, Bool.false_eq_true, if_false, decide_eq_true_eq, List.cons.injEq, ↓reduceIte]
      refine Op.of (z := .int (l.length : Int)) (by simp [oLen, asS]) ?_
      simp only [oSub_int, op_some]
      refine ⟨⟨by unfold okR; simp; omega, by omega⟩, ?_⟩
      refine ok_map (fun _ => .bl true) (fun x hx => ?_) ?_
      · obtain ⟨i, hi⟩ := List.mem_iff_getElem?.mp hx
        obtain ⟨hi, rfl⟩ := rng_at hi
        simp only [wipeE]
        simp only [wkA, List.set_cons_zero, List.set_cons_succ, Option.some.injEq, exists_eq_left', exists_eq_left, List.length_cons, List.length_nil, Nat.reduceAdd, Nat.reduceLeDiff, true_and, and_true, if_true, Bool.not_true, Bool.not_false, Bool.false_eq_true, if_false, decide_eq_true_eq, List.cons.injEq, ↓reduceIte]
        have i1 : i < l.length := by omega
        have i2 : i + 1 < l.length := by omega
        refine Op.of (oIxT_nat st (x := .int (l[i] : Int)) (by simp [i1])) ?_
        have e : (i : Int) + 1 = ((i + 1 : Nat) : Int) := by omega
        rw [e]
        refine Op.of (oIxT_nat st (x := .int (l[i + 1] : Int)) (by simp [i2])) ?_
        have := List.pairwise_iff_getElem.mp h.1 i (i + 1) i1 i2 (by omega)
        simp only [oLt_int, op_some, and_true]
        simp
        omega
      · refine Op.of (oAll_true st fun x hx => ?_) (by simp)
        obtain ⟨y, _, rfl⟩ := List.mem_map.mp hx; rfl
theorem lot_len {k : Nat} {l : List Nat} (h : Lot k l) : l.length ≤ k := by
  have key : ∀ (l : List Nat) (k : Nat), l.Pairwise (· < ·) → (∀ x, x ∈ l → x < k) → ∀ b, (∀ x, x ∈ l → b ≤ x) → b + l.length ≤ k ∨ l = [] := by
    intro l
    induction l with
    | nil => intro k _ _ b _; right; rfl
    | cons a r ih =>
      intro k p lt b hb
      left
      obtain ⟨p1, p2⟩ := List.pairwise_cons.mp p
      have ha := lt a (by simp)
      have hba := hb a (by simp)
      rcases ih k p2 (fun x hx => lt x (by simp [hx])) (a + 1) (fun x hx => p1 x hx) with h | h
      · simp; omega
      · rw [h]; simp; omega
  rcases key l k h.1 h.2 0 (fun _ _ => Nat.zero_le _) with h | h
  · omega
  · rw [h]; simp
theorem signs_in (g : Sg) (st : Store) : oNin (.str g.s) (.tup [.str ">", .str ">=", .str "="]) st = some (.bl false) := by cases g <;> kernel_rfl
theorem is_comp_sp {k : Nat} {c : Cp} (h5 : k ≤ 5) (h : ValidC k c) (st : Store) : p_is_comparison [.int (k : Int), cpV c] st = .ok (.bl true) st := by
  have l1 := lot_len h.one
  have l2 := lot_len h.other
  apply eqOk
  (unfold p_is_comparison runF; rw [ok_retF]; simp only [env0, List.map_cons, List.map_nil, List.length_cons, List.length_nil, Nat.reduceAdd, Nat.reduceSub, List.reduceReplicate, List.cons_append, List.nil_append])
  unfold cpV
  simp only [wkA, List.set_cons_zero, List.set_cons_succ, Option.some.injEq, exists_eq_left', exists_eq_left, List.length_cons, List.length_nil, Nat.reduceAdd, Nat.reduceLeDiff, true_and, and_true, if_true, Bool.not_true, Bool.not_false, Bool.false_eq_true, if_false, decide_eq_true_eq, List.cons.injEq, ↓reduceIte]
  refine ⟨.tup, rfl, ?_⟩
  have e1 : Kd.isa .tup .tup = true := rfl
  simp only [e1, Bool.not_true, Bool.false_eq_true, if_false]
  refine Op.of (z := .int 3) (by simp [oLen, asS]) ?_
  simp only [oNe_int, op_some]
  simp only [BEq.rfl, Bool.not_true, Bool.false_eq_true, if_false]
  have i1 : oIx (.tup [lotV c.one, .str c.sg.s, lotV c.other]) (.int 1) st = some (.str c.sg.s) := oIxT_nat st (j := 1) rfl
  have i0 : oIx (.tup [lotV c.one, .str c.sg.s, lotV c.other]) (.int 0) st = some (lotV c.one) := oIxT_nat st (j := 0) rfl
  have i2 : oIx (.tup [lotV c.one, .str c.sg.s, lotV c.other]) (.int 2) st = some (lotV c.other) := oIxT_nat st (j := 2) rfl
  refine Op.of i1 ⟨.str, rfl, ?_⟩
  have e2 : Kd.isa .str .str = true := rfl
  simp only [e2, Bool.not_true, Bool.false_eq_true, if_false]
  refine Op.of i1 (Op.of (signs_in _ _) ?_)
  simp only [Bool.false_eq_true, if_false]
  rw [nxK_nx]
  simp only [wkA, List.set_cons_zero, List.set_cons_succ, Option.some.injEq, exists_eq_left', exists_eq_left, List.length_cons, List.length_nil, Nat.reduceAdd, Nat.reduceLeDiff, true_and, and_true, if_true, Bool.not_true, Bool.not_false, Bool.false_eq_true, if_false, decide_eq_true_eq, List.cons.injEq, ↓reduceIte]
  refine Op.of i0 ?_
  rw [Ok.eq (found_lot_sp h.one (by omega) st)]
  simp only [if_true]
  refine Op.of i2 ?_
  rw [Ok.eq (found_lot_sp h.other (by omega) st)]
  simp
theorem are_told_sp {k : Nat} {told : List Cp} (h5 : k ≤ 5) (h : Valid k told) (hl : told.length ≤ 8) (st : Store) : p_are_told [.int (k : Int), toldV told] st = .ok (.bl true) st := by
  apply eqOk
  (unfold p_are_told runF; rw [ok_retF]; simp only [env0, List.map_cons, List.map_nil, List.length_cons, List.length_nil, Nat.reduceAdd, Nat.reduceSub, List.reduceReplicate, List.cons_append, List.nil_append])
  unfold toldV
  simp only [wkA, List.set_cons_zero, List.set_cons_succ, Option.some.injEq, exists_eq_left', exists_eq_left, List.length_cons, List.length_nil, Nat.reduceAdd, Nat.reduceLeDiff, true_and, and_true, if_true, Bool.not_true, Bool.not_false, Bool.false_eq_true, if_false, decide_eq_true_eq, List.cons.injEq, ↓reduceIte]
  refine ⟨.tup, rfl, ?_⟩
  have e1 : Kd.isa .tup .tup = true := rfl
  simp only [e1, if_true]
  refine Op.of (z := .int (told.length : Int)) (by simp [oLen, asS]) ?_
  refine Op.of (z := .bl true) (by simp [oLeI, oI]; omega) ?_
  simp only [if_true]
  refine ⟨_, rfl, ?_⟩
  refine ok_map (fun _ => .bl true) (fun x hx => ?_) ?_
  · obtain ⟨c, hc, rfl⟩ := List.mem_map.mp hx
    simp only [wipeE]
    simp only [wkA, List.set_cons_zero, List.set_cons_succ, Option.some.injEq, exists_eq_left', exists_eq_left, List.length_cons, List.length_nil, Nat.reduceAdd, Nat.reduceLeDiff, true_and, and_true, if_true, Bool.not_true, Bool.not_false, Bool.false_eq_true, if_false, decide_eq_true_eq, List.cons.injEq, ↓reduceIte]
    rw [Ok.eq (is_comp_sp h5 (h c hc) st)]
    simp
  · refine Op.of (oAll_true st fun x hx => ?_) (by simp)
    obtain ⟨y, _, rfl⟩ := List.mem_map.mp hx; rfl
theorem check_told_sp {k : Nat} {told : List Cp} (h1 : 1 ≤ k) (h5 : k ≤ 5) (h : Valid k told) (hl : told.length ≤ 8) (st : Store) : p_check_told [.int (k : Int), toldV told] st = .ok .non st := by
  apply eqOk
  (unfold p_check_told runF; rw [ok_retF]; simp only [env0, List.map_cons, List.map_nil, List.length_cons, List.length_nil, Nat.reduceAdd, Nat.reduceSub, List.reduceReplicate, List.cons_append, List.nil_append])
  simp only [wkA, List.set_cons_zero, List.set_cons_succ, Option.some.injEq, exists_eq_left', exists_eq_left, List.length_cons, List.length_nil, Nat.reduceAdd, Nat.reduceLeDiff, true_and, and_true, if_true, Bool.not_true, Bool.not_false, Bool.false_eq_true, if_false, decide_eq_true_eq, List.cons.injEq, ↓reduceIte]
  rw [Ok.eq (things_sp h1 h5 st)]
  rw [nxK_nx]
  simp only [wkA, List.set_cons_zero, List.set_cons_succ, Option.some.injEq, exists_eq_left', exists_eq_left, List.length_cons, List.length_nil, Nat.reduceAdd, Nat.reduceLeDiff, true_and, and_true, if_true, Bool.not_true, Bool.not_false, Bool.false_eq_true, if_false, decide_eq_true_eq, List.cons.injEq, ↓reduceIte]
  rw [Ok.eq (are_told_sp h5 h hl st)]
  simp
def Fe (k : Nat) (told : List Cp) : Prop := ∃ w : Nat → Int, (∀ t, t < k → 0 < w t) ∧ Agree k told w
noncomputable def solV (k : Nat) (told : List Cp) : PV := open Classical in if h : 1 ≤ k ∧ k ≤ 5 ∧ told.length ≤ 9 then (solved_ok h.1 h.2.1 h.2.2).choose else .non
theorem sol_spec {k : Nat} {told : List Cp} (h1 : 1 ≤ k) (h5 : k ≤ 5) (h9 : told.length ≤ 9) : SolvedV k told (solV k told) ∧ ∀ st, Ok (p_solved [.int (k : Int), toldV told] st) fun v s => v = solV k told ∧ Keeps [] st s := by
  have h : 1 ≤ k ∧ k ≤ 5 ∧ told.length ≤ 9 := ⟨h1, h5, h9⟩
  have e : solV k told = (solved_ok h.1 h.2.1 h.2.2).choose := by unfold solV; rw [dif_pos h]
  rw [e]
  exact (solved_ok h.1 h.2.1 h.2.2).choose_spec
theorem sol_yes {k : Nat} {told : List Cp} (h1 : 1 ≤ k) (h5 : k ≤ 5) (h9 : told.length ≤ 9) (f : Fe k told) : ∃ ws : List Int, solV k told = .tup [.non, .tup (nI ws)] ∧ ws.length = k ∧ (∀ t, t < k → 0 < at0 ws t) ∧ Agree k told (at0 ws) := by
  rcases (sol_spec h1 h5 h9).1 with h | ⟨vs, _, _, b⟩
  · exact h
  · obtain ⟨w, wp, wa⟩ := f
    exact (bars wa wp b).elim
theorem sol_no {k : Nat} {told : List Cp} (h1 : 1 ≤ k) (h5 : k ≤ 5) (h9 : told.length ≤ 9) (f : ¬ Fe k told) : ∃ vs : List Int, solV k told = .tup [.tup (nI vs), .non] ∧ vs.length = told.length ∧ Bal k told (at0 vs) := by
  rcases (sol_spec h1 h5 h9).1 with ⟨ws, _, _, p, a⟩ | h
  · exact (f ⟨_, p, a⟩).elim
  · exact h
def part (i : Nat) : PV → PV
  | .tup xs => xs.getD i .non
  | _ => .non
theorem sol_ix {k : Nat} {told : List Cp} (h1 : 1 ≤ k) (h5 : k ≤ 5) (h9 : told.length ≤ 9) (st : Store) : oIx (solV k told) (.int 0) st = some (part 0 (solV k told)) ∧ oIx (solV k told) (.int 1) st = some (part 1 (solV k told)) := by
  rcases (sol_spec h1 h5 h9).1 with ⟨ws, e, _⟩ | ⟨vs, e, _⟩ <;> rw [e]
  · exact ⟨oIxT_nat st (j := 0) rfl, oIxT_nat st (j := 1) rfl⟩
  · exact ⟨oIxT_nat st (j := 0) rfl, oIxT_nat st (j := 1) rfl⟩
theorem part_non {k : Nat} {told : List Cp} (h1 : 1 ≤ k) (h5 : k ≤ 5) (h9 : told.length ≤ 9) : (part 1 (solV k told) = .non ↔ ¬ Fe k told) ∧ (part 0 (solV k told) = .non ↔ Fe k told) := by
  open Classical in
  by_cases f : Fe k told
  · obtain ⟨ws, e, _⟩ := sol_yes h1 h5 h9 f
    rw [e]; simp [part, f]
  · obtain ⟨ws, e, _⟩ := sol_no h1 h5 h9 f
    rw [e]; simp [part, f]
theorem isN_iff (p : PV) (st : Store) : oIsN p .non st = some (.bl (open Classical in decide (p = .non))) := by
  open Classical in
  cases p <;> simp [oIsN]
theorem notN_iff (p : PV) (st : Store) : oNotN p .non st = some (.bl (open Classical in !decide (p = .non))) := by
  open Classical in
  cases p <;> simp [oNotN]
theorem some_weights_sp {k : Nat} {told : List Cp} (h1 : 1 ≤ k) (h5 : k ≤ 5) (h : Valid k told) (hl : told.length ≤ 8) (st : Store) : Ok (p_some_weights [.int (k : Int), toldV told] st) fun v s => v = part 1 (solV k told) ∧ Keeps [] st s := by
  (unfold p_some_weights runF; rw [ok_retF]; simp only [env0, List.map_cons, List.map_nil, List.length_cons, List.length_nil, Nat.reduceAdd, Nat.reduceSub, List.reduceReplicate, List.cons_append, List.nil_append])
  simp only [wkA, List.set_cons_zero, List.set_cons_succ, Option.some.injEq, exists_eq_left', exists_eq_left, List.length_cons, List.length_nil, Nat.reduceAdd, Nat.reduceLeDiff, true_and, and_true, if_true, Bool.not_true, Bool.not_false, Bool.false_eq_true, if_false, decide_eq_true_eq, List.cons.injEq, ↓reduceIte]
  rw [Ok.eq (check_told_sp h1 h5 h hl st)]
  rw [nxK_nx]
  simp only [wkA, List.set_cons_zero, List.set_cons_succ, Option.some.injEq, exists_eq_left', exists_eq_left, List.length_cons, List.length_nil, Nat.reduceAdd, Nat.reduceLeDiff, true_and, and_true, if_true, Bool.not_true, Bool.not_false, Bool.false_eq_true, if_false, decide_eq_true_eq, List.cons.injEq, ↓reduceIte]
  refine ((sol_spec h1 h5 (by omega)).2 st).mono fun v s h => ?_
  obtain ⟨rfl, K⟩ := h
  exact Op.of (sol_ix h1 h5 (by omega) s).2 ⟨rfl, K⟩
theorem balance_sp {k : Nat} {told : List Cp} (h1 : 1 ≤ k) (h5 : k ≤ 5) (h : Valid k told) (hl : told.length ≤ 8) (st : Store) : Ok (p_balance [.int (k : Int), toldV told] st) fun v s => v = part 0 (solV k told) ∧ Keeps [] st s := by
  (unfold p_balance runF; rw [ok_retF]; simp only [env0, List.map_cons, List.map_nil, List.length_cons, List.length_nil, Nat.reduceAdd, Nat.reduceSub, List.reduceReplicate, List.cons_append, List.nil_append])
  simp only [wkA, List.set_cons_zero, List.set_cons_succ, Option.some.injEq, exists_eq_left', exists_eq_left, List.length_cons, List.length_nil, Nat.reduceAdd, Nat.reduceLeDiff, true_and, and_true, if_true, Bool.not_true, Bool.not_false, Bool.false_eq_true, if_false, decide_eq_true_eq, List.cons.injEq, ↓reduceIte]
  rw [Ok.eq (check_told_sp h1 h5 h hl st)]
  rw [nxK_nx]
  simp only [wkA, List.set_cons_zero, List.set_cons_succ, Option.some.injEq, exists_eq_left', exists_eq_left, List.length_cons, List.length_nil, Nat.reduceAdd, Nat.reduceLeDiff, true_and, and_true, if_true, Bool.not_true, Bool.not_false, Bool.false_eq_true, if_false, decide_eq_true_eq, List.cons.injEq, ↓reduceIte]
  refine ((sol_spec h1 h5 (by omega)).2 st).mono fun v s h => ?_
  obtain ⟨rfl, K⟩ := h
  exact Op.of (sol_ix h1 h5 (by omega) s).1 ⟨rfl, K⟩
end Lq
end
section
set_option Elab.async false
set_option linter.all false
set_option maxRecDepth 10000
namespace Lq
open PySem PySem.Spec PyProof.Rows L2
open Sx (at0 si)
theorem oAll_map {α : Type} (f : α → Bool) (xs : List α) (st : Store) : oAll [.lst (xs.map fun x => PV.bl (f x))] st = some (.bl (xs.all f)) := by
  have e : (xs.map fun x => PV.bl (f x)) = (xs.map f).map PV.bl := by rw [List.map_map]; rfl
  rw [e]
  simp only [oAll, asL, bools_all]
  simp [List.all_map]
theorem oAny_map {α : Type} (f : α → Bool) (xs : List α) (st : Store) : oAny [.lst (xs.map fun x => PV.bl (f x))] st = some (.bl (xs.any f)) := by
  have e : (xs.map fun x => PV.bl (f x)) = (xs.map f).map PV.bl := by rw [List.map_map]; rfl
  rw [e]
  simp only [oAny, asL, bools_all]
  simp [List.any_map]
theorem pairs_zip {α β : Type} (f : α → PV) (g : β → PV) : ∀ (xs : List α) (ys : List β), pairs (xs.map f) (ys.map g) = (xs.zip ys).map fun p => .tup [f p.1, g p.2]
  | [], _ => by simp [pairs]
  | _ :: _, [] => by simp [pairs]
  | x :: xs, y :: ys => by simp [pairs, pairs_zip f g xs ys]
theorem oMul_one {a b : Int} (s : Store) (hb : b.natAbs ≤ 1) : oMul (.int a) (.int b) s = some (.int (a * b)) := by
  have m : mulOk a b = true := by
    have h : -(2 ^ 64) < b ∧ b < 2 ^ 64 := by omega
    unfold mulOk
    rw [show decide (-(2 ^ 64) < b) = true from decide_eq_true h.1, show decide (b < 2 ^ 64) = true from decide_eq_true h.2]
    simp
  have : oMulI (.int a) (.int b) s = some (.int (a * b)) := by simp only [oMulI, oI, if_pos m]
  simp only [oMul, oOr, this]
theorem mem_zip_ix {vs : List Int} {told : List Cp} (e : vs.length = told.length) {p : Int × Cp} (h : p ∈ vs.zip told) : ∃ i, i < told.length ∧ p = (at0 vs i, told.getD i default) := by
  obtain ⟨i, hi, rfl⟩ := List.mem_iff_getElem.mp h
  have h1 : i < vs.length ∧ i < told.length := by simp at hi; omega
  refine ⟨i, h1.2, ?_⟩
  simp [at0, List.getD_eq_getElem?_getD, h1.1, h1.2]
theorem zip_ix_mem {vs : List Int} {told : List Cp} (e : vs.length = told.length) {i : Nat} (h : i < told.length) : (at0 vs i, told.getD i default) ∈ vs.zip told := by
  rw [List.mem_iff_getElem]
  refine ⟨i, by simp; omega, ?_⟩
  simp [at0, List.getD_eq_getElem?_getD, h, show i < vs.length by omega]
theorem sum_zip (t : Nat) : ∀ (vs : List Int) (told : List Cp), vs.length = told.length → ((vs.zip told).map fun p => p.1 * p.2.c t).sum = exc told (at0 vs) t := by
  intro vs told e
  unfold exc
  rw [lexc_si (fun c => c.c t) told vs e.symm]
  have : ∀ (vs : List Int) (told : List Cp), vs.length = told.length → ((vs.zip told).map fun p => p.1 * p.2.c t).sum = lexc told vs (fun c => c.c t) := by
    intro vs
    induction vs with
    | nil => intro told h; cases told <;> simp_all [lexc]
    | cons v vs ih =>
      intro told h
      cases told with
      | nil => simp at h
      | cons c told => simp [lexc, ih told (by simpa using h)]
  exact this vs told e
theorem max_pos (n : Int) (ns : List Int) : 0 < maxI n ns ↔ ∃ y, y ∈ n :: ns ∧ 0 < y := by
  obtain ⟨a, b⟩ := maxI_spec n ns
  constructor
  · exact fun h => ⟨_, a, h⟩
  · rintro ⟨y, hy, p⟩
    have := b y hy
    omega
theorem min_neg (n : Int) (ns : List Int) : minI n ns < 0 ↔ ∃ y, y ∈ n :: ns ∧ y < 0 := by
  obtain ⟨a, b⟩ := minI_spec n ns
  constructor
  · exact fun h => ⟨_, a, h⟩
  · rintro ⟨y, hy, p⟩
    have := b y hy
    omega
noncomputable def balB (k : Nat) (told : List Cp) (vs : List Int) : Bool := open Classical in decide (Bal k told (at0 vs))
theorem does_balance_sp {k : Nat} {told : List Cp} {vs : List Int} (h1 : 1 ≤ k) (h5 : k ≤ 5) (hv : vs.length = told.length) (st : Store) :
    p_does_balance [.int (k : Int), toldV told, .tup (nI vs)] st = .ok (.bl (balB k told vs)) st := by
  open Classical in
  have sz := szl
  apply eqOk
  (unfold p_does_balance runF; rw [ok_retF]; simp only [env0, List.map_cons, List.map_nil, List.length_cons, List.length_nil, Nat.reduceAdd, Nat.reduceSub, List.reduceReplicate, List.cons_append, List.nil_append])
  unfold toldV
  simp only [wkA, List.set_cons_zero, List.set_cons_succ, Option.some.injEq, exists_eq_left', exists_eq_left, List.length_cons, List.length_nil, Nat.reduceAdd, Nat.reduceLeDiff, true_and, and_true, if_true, Bool.not_true, Bool.not_false, Bool.false_eq_true, if_false, decide_eq_true_eq, List.cons.injEq, ↓reduceIte]
  refine ⟨.tup, rfl, ?_⟩
  have e1 : Kd.isa .tup .tup = true := rfl
  simp only [e1, Bool.not_true, Bool.false_eq_true, if_false]
  refine Op.of (z := .int (told.length : Int)) (by simp [oLen, asS, hv]) (Op.of (z := .int (told.length : Int)) (by simp [oLen, asS]) ?_)
  simp only [oNe_int, op_some, BEq.rfl, Bool.not_true, Bool.false_eq_true, if_false]
  rw [nxK_nx]
  simp only [wkA, List.set_cons_zero, List.set_cons_succ, Option.some.injEq, exists_eq_left', exists_eq_left, List.length_cons, List.length_nil, Nat.reduceAdd, Nat.reduceLeDiff, true_and, and_true, if_true, Bool.not_true, Bool.not_false, Bool.false_eq_true, if_false, decide_eq_true_eq, List.cons.injEq, ↓reduceIte]
  refine ⟨nI vs, rfl, ?_⟩
  refine ok_mapE PV.int (fun _ => .bl true) (fun v hv => ?_) ?_
  · simp only [wipeE]
    simp only [wkA, List.set_cons_zero, List.set_cons_succ, Option.some.injEq, exists_eq_left', exists_eq_left, List.length_cons, List.length_nil, Nat.reduceAdd, Nat.reduceLeDiff, true_and, and_true, if_true, Bool.not_true, Bool.not_false, Bool.false_eq_true, if_false, decide_eq_true_eq, List.cons.injEq, ↓reduceIte]
    refine ⟨.int, rfl, ?_⟩
    have e2 : Kd.isa .int .int = true := rfl
    have e3 : Kd.isa .int .bl = false := rfl
    simp only [e2, if_true]
    refine ⟨.int, rfl, ?_⟩
    simp [e3]
  · refine Op.of (oAll_true st fun x hx => ?_) ?_
    · obtain ⟨y, _, rfl⟩ := List.mem_map.mp hx; rfl
    · simp only [Bool.not_true, Bool.false_eq_true, if_false]
      rw [nxK_nx]
      rw [ok_seq, ok_if, ok_tNot, ok_tE, ok_cb, ok_aCons, ok_fz, ok_comp, ok_zip]
      simp only [wkA, List.set_cons_zero, List.set_cons_succ, Option.some.injEq, exists_eq_left', exists_eq_left, List.length_cons, List.length_nil, Nat.reduceAdd, Nat.reduceLeDiff, true_and, and_true, if_true, Bool.not_true, Bool.not_false, Bool.false_eq_true, if_false, decide_eq_true_eq, List.cons.injEq, ↓reduceIte]
      refine ⟨_, _, nI vs, told.map cpV, ⟨rfl, rfl⟩, rfl, rfl, ?_⟩
      rw [pairs_zip]
      refine ok_mapE (fun p : Int × Cp => .tup [.int p.1, cpV p.2]) (fun p => .bl (decide (0 ≤ p.1) || decide (p.2.sg = .eq))) (fun p hp => ?_) ?_
      · simp only [wipeE]
        simp only [wkA, List.set_cons_zero, List.set_cons_succ, Option.some.injEq, exists_eq_left', exists_eq_left, List.length_cons, List.length_nil, Nat.reduceAdd, Nat.reduceLeDiff, true_and, and_true, if_true, Bool.not_true, Bool.not_false, Bool.false_eq_true, if_false, decide_eq_true_eq, List.cons.injEq, ↓reduceIte]
        by_cases c : 0 ≤ p.1
        · simp [c]
        · simp only [c, decide_false, Bool.false_eq_true, if_false]
          exact Op.of (ix1 _ _) (Op.of (sg_eq _ _) (by simp))
      · refine Op.of (oAll_map _ _ _) ?_
        by_cases nn : (vs.zip told).all (fun p => decide (0 ≤ p.1) || decide (p.2.sg = .eq)) = true
        · rw [nn]
          simp only [Bool.not_true, Bool.false_eq_true, if_false]
          have nn' : ∀ i, i < told.length → (told.getD i default).sg ≠ .eq → 0 ≤ at0 vs i := fun i hi ne => by
            have := List.all_eq_true.mp nn _ (zip_ix_mem hv hi)
            rw [Bool.or_eq_true, decide_eq_true_eq, decide_eq_true_eq] at this
            exact this.resolve_right ne
          rw [nxK_nx]
          simp only [wkA, List.set_cons_zero, List.set_cons_succ, Option.some.injEq, exists_eq_left', exists_eq_left, List.length_cons, List.length_nil, Nat.reduceAdd, Nat.reduceLeDiff, true_and, and_true, if_true, Bool.not_true, Bool.not_false, Bool.false_eq_true, if_false, decide_eq_true_eq, List.cons.injEq, ↓reduceIte]
          refine ⟨told.map cpV, rfl, ?_⟩
          refine ok_mapE cpV (fun c => .lst (nI (rowI k c))) (fun c hc => ?_) ?_
          · simp only [wipeE]
            simp only [wkA, List.set_cons_zero, List.set_cons_succ, Option.some.injEq, exists_eq_left', exists_eq_left, List.length_cons, List.length_nil, Nat.reduceAdd, Nat.reduceLeDiff, true_and, and_true, if_true, Bool.not_true, Bool.not_false, Bool.false_eq_true, if_false, decide_eq_true_eq, List.cons.injEq, ↓reduceIte]
            rw [Ok.eq (row_of_ok (by omega) c st)]
            exact ⟨rfl, rfl⟩
          · rw [nxK_nx]
            simp only [wkA, List.set_cons_zero, List.set_cons_succ, Option.some.injEq, exists_eq_left', exists_eq_left, List.length_cons, List.length_nil, Nat.reduceAdd, Nat.reduceLeDiff, true_and, and_true, if_true, Bool.not_true, Bool.not_false, Bool.false_eq_true, if_false, decide_eq_true_eq, List.cons.injEq, ↓reduceIte]
            refine ⟨⟨by unfold okR; simp; omega, by simp; omega⟩, ?_⟩
            have rn : (k : Int).toNat = k := by simp
            rw [rn]
            have rg : rng 0 k = (List.range k).map fun t : Nat => PV.int (t : Int) := by simp [rng]
            rw [rg]
            refine ok_mapE (fun t : Nat => PV.int (t : Int)) (fun t => .int (exc told (at0 vs) t)) (fun t ht => ?_) ?_
            · have ht := List.mem_range.mp ht
              simp only [wipeE]
              rw [ok_gNm, ok_cb, ok_aCons, ok_fz, ok_comp, ok_zip]
              simp only [wkA, List.set_cons_zero, List.set_cons_succ, Option.some.injEq, exists_eq_left', exists_eq_left, List.length_cons, List.length_nil, Nat.reduceAdd, Nat.reduceLeDiff, true_and, and_true, if_true, Bool.not_true, Bool.not_false, Bool.false_eq_true, if_false, decide_eq_true_eq, List.cons.injEq, ↓reduceIte]
              refine ⟨_, _, nI vs, told.map (fun c => .lst (nI (rowI k c))), ⟨rfl, rfl⟩, rfl, rfl, ?_⟩
              rw [pairs_zip]
              refine ok_mapE (fun p : Int × Cp => .tup [.int p.1, .lst (nI (rowI k p.2))]) (fun p => .int (p.1 * p.2.c t)) (fun p hp => ?_) ?_
              · simp only [wipeE]
                simp only [wkA, List.set_cons_zero, List.set_cons_succ, Option.some.injEq, exists_eq_left', exists_eq_left, List.length_cons, List.length_nil, Nat.reduceAdd, Nat.reduceLeDiff, true_and, and_true, if_true, Bool.not_true, Bool.not_false, Bool.false_eq_true, if_false, decide_eq_true_eq, List.cons.injEq, ↓reduceIte]
                have rt : at0 (rowI k p.2) t = p.2.c t := by unfold rowI; rw [at0_rng, if_pos ht]
                refine Op.of (z := .int (p.2.c t)) (by have := ixL st (xs := rowI k p.2) (j := t) (by simpa [rowI] using ht); rw [rt] at this; exact this) ?_
                exact Op.of (oMul_one st (p.2.c_small t)) (by simp)
              · refine Op.of (z := .int (exc told (at0 vs) t)) ?_ ⟨rfl, rfl⟩
                have e : ((vs.zip told).map fun p => PV.int (p.1 * p.2.c t)) = nI ((vs.zip told).map fun p => p.1 * p.2.c t) := by
                  show _ = List.map _ (List.map _ _)
                  rw [List.map_map]; rfl
                rw [e]
                simp only [oSum, asL]
                rw [asInts_nI]
                show some (PV.int _) = _
                rw [sum_zip t vs told hv]
            · have ex : ((List.range k).map fun t => PV.int (exc told (at0 vs) t)) = nI ((List.range k).map (exc told (at0 vs))) := by
                show _ = List.map _ (List.map _ _)
                rw [List.map_map]; rfl
              rw [ex]
              obtain ⟨n, ns, en⟩ : ∃ n ns, (List.range k).map (exc told (at0 vs)) = n :: ns := by
                cases q : (List.range k).map (exc told (at0 vs)) with
                | nil =>
                  have := congrArg List.length q
                  simp at this
                  omega
                | cons n ns => exact ⟨n, ns, rfl⟩
              have mem : ∀ y, y ∈ n :: ns ↔ ∃ t, t < k ∧ exc told (at0 vs) t = y := fun y => by
                rw [← en]; simp [List.mem_map]
              rw [en]
              rw [nxK_nx]
              simp only [wkA, List.set_cons_zero, List.set_cons_succ, Option.some.injEq, exists_eq_left', exists_eq_left, List.length_cons, List.length_nil, Nat.reduceAdd, Nat.reduceLeDiff, true_and, and_true, if_true, Bool.not_true, Bool.not_false, Bool.false_eq_true, if_false, decide_eq_true_eq, List.cons.injEq, ↓reduceIte]
              refine Op.of (z := .int (maxI n ns)) (by simp only [oMax, asL]; rw [asInts_nI]) ?_
              simp only [oGt_int, op_some]
              by_cases mp : 0 < maxI n ns
              · rw [if_pos (by simpa using mp)]
                have : balB k told vs = false := by
                  unfold balB
                  refine decide_eq_false fun b => ?_
                  obtain ⟨y, hy, py⟩ := (max_pos n ns).mp mp
                  obtain ⟨t, ht, rfl⟩ := (mem y).mp hy
                  have := b.le t ht
                  omega
                rw [this]
              · rw [if_neg (by simpa using mp)]
                have le : ∀ t, t < k → exc told (at0 vs) t ≤ 0 := fun t ht => by
                  refine Classical.byContradiction fun q => mp ((max_pos n ns).mpr ⟨_, (mem _).mpr ⟨t, ht, rfl⟩, by omega⟩)
                rw [nxK_nx]
                simp only [wkA, List.set_cons_zero, List.set_cons_succ, Option.some.injEq, exists_eq_left', exists_eq_left, List.length_cons, List.length_nil, Nat.reduceAdd, Nat.reduceLeDiff, true_and, and_true, if_true, Bool.not_true, Bool.not_false, Bool.false_eq_true, if_false, decide_eq_true_eq, List.cons.injEq, ↓reduceIte]
                refine Op.of (z := .int (minI n ns)) (by simp only [oMin, asL]; rw [asInts_nI]) ?_
                simp only [oLt_int, op_some]
                by_cases mn : minI n ns < 0
                · rw [if_pos (by simpa using mn)]
                  have : balB k told vs = true := by
                    unfold balB
                    refine decide_eq_true ⟨nn', le, .inr ?_⟩
                    obtain ⟨y, hy, py⟩ := (min_neg n ns).mp mn
                    obtain ⟨t, ht, rfl⟩ := (mem y).mp hy
                    exact ⟨t, ht, py⟩
                  rw [this]
                · rw [if_neg (by simpa using mn)]
                  rw [ok_zip]
                  simp only [wkA, List.set_cons_zero, List.set_cons_succ, Option.some.injEq, exists_eq_left', exists_eq_left, List.length_cons, List.length_nil, Nat.reduceAdd, Nat.reduceLeDiff, true_and, and_true, if_true, Bool.not_true, Bool.not_false, Bool.false_eq_true, if_false, decide_eq_true_eq, List.cons.injEq, ↓reduceIte]
                  refine ⟨_, _, nI vs, told.map cpV, ⟨rfl, rfl⟩, rfl, rfl, ?_⟩
                  rw [pairs_zip]
                  refine ok_mapE (fun p : Int × Cp => .tup [.int p.1, cpV p.2]) (fun p => .bl (decide (0 < p.1) && decide (p.2.sg = .gt))) (fun p hp => ?_) ?_
                  · simp only [wipeE]
                    simp only [wkA, List.set_cons_zero, List.set_cons_succ, Option.some.injEq, exists_eq_left', exists_eq_left, List.length_cons, List.length_nil, Nat.reduceAdd, Nat.reduceLeDiff, true_and, and_true, if_true, Bool.not_true, Bool.not_false, Bool.false_eq_true, if_false, decide_eq_true_eq, List.cons.injEq, ↓reduceIte]
                    by_cases c : 0 < p.1
                    · simp only [c, decide_true, if_true]
                      exact Op.of (ix1 _ _) (Op.of (sg_gt _ _) (by simp))
                    · simp [c]
                  · refine Op.of (oAny_map _ _ _) ⟨?_, rfl⟩
                    congr 1
                    unfold balB
                    by_cases an : (vs.zip told).any (fun p => decide (0 < p.1) && decide (p.2.sg = .gt)) = true
                    · rw [an]
                      refine (decide_eq_true ⟨nn', le, .inl ?_⟩).symm
                      obtain ⟨p, hp, pp⟩ := List.any_eq_true.mp an
                      obtain ⟨i, hi, rfl⟩ := mem_zip_ix hv hp
                      rw [Bool.and_eq_true, decide_eq_true_eq, decide_eq_true_eq] at pp
                      exact ⟨i, hi, pp.2, pp.1⟩
                    · rw [eq_false_of_ne_true an]
                      refine (decide_eq_false fun b => an ?_).symm
                      rcases b.st with ⟨i, hi, g, p⟩ | ⟨t, ht, p⟩
                      · exact List.any_eq_true.mpr ⟨_, zip_ix_mem hv hi, by rw [Bool.and_eq_true, decide_eq_true_eq, decide_eq_true_eq]; exact ⟨p, g⟩⟩
                      · exact (mn ((min_neg n ns).mpr ⟨_, (mem _).mpr ⟨t, ht, rfl⟩, p⟩)).elim
        · rw [eq_false_of_ne_true nn]
          simp only [Bool.not_false, if_true]
          have : balB k told vs = false := by
            unfold balB
            refine decide_eq_false fun b => nn ?_
            refine List.all_eq_true.mpr fun p hp => ?_
            obtain ⟨i, hi, rfl⟩ := mem_zip_ix hv hp
            have := b.nn i hi
            rw [Bool.or_eq_true, decide_eq_true_eq, decide_eq_true_eq]
            by_cases z : (told.getD i default).sg = .eq
            · exact .inr z
            · exact .inl (this z)
          rw [this]
          simp
end Lq
end
section
set_option Elab.async false
set_option linter.all false
set_option maxRecDepth 10000
namespace Lq
open PySem PySem.Spec PyProof.Rows L2
open Sx (at0 si)
theorem is_balance_sp {k : Nat} {told : List Cp} {vs : List Int} (h1 : 1 ≤ k) (h5 : k ≤ 5) (h : Valid k told) (hl : told.length ≤ 8) (hv : vs.length = told.length) (st : Store) :
    p_is_balance [.int (k : Int), toldV told, .tup (nI vs)] st = .ok (.bl (balB k told vs)) st := by
  apply eqOk
  (unfold p_is_balance runF; rw [ok_retF]; simp only [env0, List.map_cons, List.map_nil, List.length_cons, List.length_nil, Nat.reduceAdd, Nat.reduceSub, List.reduceReplicate, List.cons_append, List.nil_append])
  simp only [wkA, List.set_cons_zero, List.set_cons_succ, Option.some.injEq, exists_eq_left', exists_eq_left, List.length_cons, List.length_nil, Nat.reduceAdd, Nat.reduceLeDiff, true_and, and_true, if_true, Bool.not_true, Bool.not_false, Bool.false_eq_true, if_false, decide_eq_true_eq, List.cons.injEq, ↓reduceIte]
  rw [Ok.eq (check_told_sp h1 h5 h hl st)]
  rw [nxK_nx]
  simp only [wkA, List.set_cons_zero, List.set_cons_succ, Option.some.injEq, exists_eq_left', exists_eq_left, List.length_cons, List.length_nil, Nat.reduceAdd, Nat.reduceLeDiff, true_and, and_true, if_true, Bool.not_true, Bool.not_false, Bool.false_eq_true, if_false, decide_eq_true_eq, List.cons.injEq, ↓reduceIte]
  rw [Ok.eq (does_balance_sp h1 h5 hv st)]
  exact ⟨rfl, rfl⟩
def setsL (n : Nat) : Nat → List (List Nat)
  | 0 => [[]]
  | s + 1 => (setsL n s).flatMap fun row => ((List.range n).filter fun k => decide (row = []) || decide (row.getLastD 0 < k)).map fun k => row ++ [k]
theorem nine {n : Nat} (h : n ≤ 8) : n = 0 ∨ n = 1 ∨ n = 2 ∨ n = 3 ∨ n = 4 ∨ n = 5 ∨ n = 6 ∨ n = 7 ∨ n = 8 := by omega
theorem some_numbers_sp {n z : Nat} (hn : n ≤ 8) (hz : z ≤ 8) (st : Store) : p_some_numbers [.int (n : Int), .int (z : Int)] st = .ok (.lst ((setsL n z).map lotV)) st := by
  rcases nine hn with rfl | rfl | rfl | rfl | rfl | rfl | rfl | rfl | rfl <;> rcases nine hz with rfl | rfl | rfl | rfl | rfl | rfl | rfl | rfl | rfl <;> kernel_rfl
theorem sets_ok {n z : Nat} (hn : n ≤ 8) (hz : z ≤ 8) : ∀ l, l ∈ setsL n z → l.length = z ∧ Lot n l ∧ ∀ i, i < z → l.eraseIdx i ∈ setsL n (z - 1) := by
  rcases nine hn with rfl | rfl | rfl | rfl | rfl | rfl | rfl | rfl | rfl <;> rcases nine hz with rfl | rfl | rfl | rfl | rfl | rfl | rfl | rfl | rfl <;> decide +kernel
def sub (told : List Cp) (l : List Nat) : List Cp := l.map fun i => told.getD i default
def allS (n m : Nat) : List (List Nat) := (List.range m).flatMap fun i => setsL n (i + 1)
theorem allS_succ (n m : Nat) : allS n (m + 1) = allS n m ++ setsL n (m + 1) := by simp [allS, List.range_succ]
noncomputable def clashL (k : Nat) (told : List Cp) : Option (List Nat) := open Classical in if Fe k told then none else (allS told.length told.length).find? fun l => decide (¬ Fe k (sub told l))
def optL : Option (List Nat) → PV
  | none => .non
  | some l => lotV l
theorem find_first {α : Type} {p : α → Bool} {A B : List α} {x : α} (hA : ∀ a, a ∈ A → p a = false) (hx : p x = true) : (A ++ x :: B).find? p = some x := by
  induction A with
  | nil => simp [hx]
  | cons a A ih =>
    rw [List.cons_append, List.find?_cons, hA a (by simp)]
    exact ih fun b hb => hA b (by simp [hb])
theorem sub_vals {told : List Cp} {l : List Nat} (hl : ∀ i, i ∈ l → i < told.length) (e : Ev) (i4 : Nat) (st : Store) {L : List PV → Store → Prop} {tv : Nat} (h4 : i4 < e.length) (hne : tv ≠ i4) (ht : e[tv]? = some (some (toldV told))) (k : L ((sub told l).map cpV) st) :
    Ok (compV (gNm i4) (fun _ st => .ok true st) (eBin oIx (eVar tv) (eVar i4)) (wipeE e [i4]) (natsV l) st) L := by
  have e2 : ((sub told l).map cpV) = l.map fun i => cpV (told.getD i default) := by simp [sub, List.map_map, Function.comp]
  rw [e2] at k
  refine ok_mapE (fun i : Nat => PV.int (i : Int)) (fun i => cpV (told.getD i default)) (fun i hi => ?_) k
  rw [ok_gNm, ok_bin, ok_var]
  refine ⟨toldV told, by simp [wipeE, List.getElem?_set, hne.symm, ht], ?_⟩
  rw [ok_var]
  refine ⟨.int (i : Int), by simp [wipeE, List.getElem?_set, h4], ?_⟩
  have := hl i hi
  exact Op.of (oIxT_nat st (by rw [List.getElem?_map, List.getElem?_eq_getElem this]; simp [List.getD_eq_getElem?_getD, this])) ⟨rfl, rfl⟩
theorem clash_sp {k : Nat} {told : List Cp} (h1 : 1 ≤ k) (h5 : k ≤ 5) (h : Valid k told) (hl : told.length ≤ 8) (st : Store) : Ok (p_clash [.int (k : Int), toldV told] st) fun v s => v = optL (clashL k told) ∧ Keeps [] st s := by
  open Classical in
  have sz := szl
  (unfold p_clash runF; rw [ok_retF]; simp only [env0, List.map_cons, List.map_nil, List.length_cons, List.length_nil, Nat.reduceAdd, Nat.reduceSub, List.reduceReplicate, List.cons_append, List.nil_append])
  simp only [wkA, List.set_cons_zero, List.set_cons_succ, Option.some.injEq, exists_eq_left', exists_eq_left, List.length_cons, List.length_nil, Nat.reduceAdd, Nat.reduceLeDiff, true_and, and_true, if_true, Bool.not_true, Bool.not_false, Bool.false_eq_true, if_false, decide_eq_true_eq, List.cons.injEq, ↓reduceIte]
  rw [Ok.eq (check_told_sp h1 h5 h hl st)]
  rw [nxK_nx]
  simp only [wkA, List.set_cons_zero, List.set_cons_succ, Option.some.injEq, exists_eq_left', exists_eq_left, List.length_cons, List.length_nil, Nat.reduceAdd, Nat.reduceLeDiff, true_and, and_true, if_true, Bool.not_true, Bool.not_false, Bool.false_eq_true, if_false, decide_eq_true_eq, List.cons.injEq, ↓reduceIte]
  refine ((sol_spec h1 h5 (by omega)).2 st).mono fun v s h => ?_
  obtain ⟨rfl, K⟩ := h
  refine Op.of (sol_ix h1 h5 (by omega) s).2 (Op.of (notN_iff _ _) ?_)
  by_cases f : Fe k told
  · have e : ¬ part 1 (solV k told) = .non := fun z => (part_non h1 h5 (by omega)).1.mp z f
    simp only [e, decide_false, Bool.not_false, if_true]
    exact ⟨by simp [clashL, f, optL], K⟩
  · have e : part 1 (solV k told) = .non := (part_non h1 h5 (by omega)).1.mpr f
    simp only [e, decide_true, Bool.not_true, Bool.false_eq_true, if_false]
    rw [nxK_nx]
    rw [ok_seq, ok_for]
    simp only [wkA, List.set_cons_zero, List.set_cons_succ, Option.some.injEq, exists_eq_left', exists_eq_left, List.length_cons, List.length_nil, Nat.reduceAdd, Nat.reduceLeDiff, true_and, and_true, if_true, Bool.not_true, Bool.not_false, Bool.false_eq_true, if_false, decide_eq_true_eq, List.cons.injEq, ↓reduceIte]
    unfold toldV
    refine Op.of (z := .int (told.length : Int)) (by simp [oLen, asS]) ?_
    simp only [oAdd_int, op_some]
    refine ⟨⟨by decide, by unfold okR; simp; omega, by omega⟩, ?_⟩
    have rn : ((told.length : Int) + 1 - 1).toNat = told.length := by omega
    rw [rn]
    have rat : ∀ (i : Nat) (x : PV), (rng 1 told.length)[i]? = some x → i < told.length ∧ x = .int ((i + 1 : Nat) : Int) := fun i x hx => by
      have hi : i < told.length := by
        have := (List.getElem?_eq_some_iff.mp hx).1
        simpa [rng] using this
      rw [rng_get hi] at hx
      refine ⟨hi, ?_⟩
      simp at hx
      rw [← hx]
      congr 1
      omega
    refine ok_loop (fun i e s' => (∃ y2 y3, e = [some (.int (k : Int)), some (.tup (told.map cpV)), y2, y3, none]) ∧ Keeps [] st s' ∧ ∀ l, l ∈ allS told.length i → Fe k (sub told l)) _ 0 _ _ ?_ ⟨⟨_, _, rfl⟩, K, by simp [allS]⟩ ?_
    · rintro i x hx e s1 ⟨⟨y2, y3, rfl⟩, K1, A1⟩
      obtain ⟨hi, rfl⟩ := rat i x hx
      rw [Nat.zero_add] at A1 ⊢
      rw [ok_gNm, ok_for]
      simp only [wkA, List.set_cons_zero, List.set_cons_succ, Option.some.injEq, exists_eq_left', exists_eq_left, List.length_cons, List.length_nil, Nat.reduceAdd, Nat.reduceLeDiff, true_and, and_true, if_true, Bool.not_true, Bool.not_false, Bool.false_eq_true, if_false, decide_eq_true_eq, List.cons.injEq, ↓reduceIte]
      refine Op.of (z := .int (told.length : Int)) (by simp [oLen, asS]) ?_
      rw [Ok.eq (some_numbers_sp (n := told.length) (z := i + 1) hl (by omega) s1)]
      refine ⟨_, rfl, ?_⟩
      refine ok_loop (fun j e s' => (∃ y3, e = [some (.int (k : Int)), some (.tup (told.map cpV)), some (.int ((i + 1 : Nat) : Int)), y3, none]) ∧ Keeps [] st s' ∧ ∀ l, l ∈ (setsL told.length (i + 1)).take j → Fe k (sub told l)) _ 0 _ _ ?_ ⟨⟨_, rfl⟩, K1, by simp⟩ ?_
      · rintro j x hx e s2 ⟨⟨y3, rfl⟩, K2, A2⟩
        rw [List.getElem?_map] at hx
        cases ej : (setsL told.length (i + 1))[j]? with
        | none => rw [ej] at hx; cases hx
        | some l =>
          rw [ej] at hx
          cases hx
          rw [Nat.zero_add] at A2 ⊢
          have hm : l ∈ setsL told.length (i + 1) := List.mem_of_getElem? ej
          obtain ⟨ll, lot, _⟩ := sets_ok hl (by omega) l hm
          simp only [wkA, List.set_cons_zero, List.set_cons_succ, Option.some.injEq, exists_eq_left', exists_eq_left, List.length_cons, List.length_nil, Nat.reduceAdd, Nat.reduceLeDiff, true_and, and_true, if_true, Bool.not_true, Bool.not_false, Bool.false_eq_true, if_false, decide_eq_true_eq, List.cons.injEq, ↓reduceIte]
          refine ⟨_, rfl, ?_⟩
          refine sub_vals (told := told) (fun i hi => lot.2 i hi) _ 4 s2 (tv := 1) (by simp) (by decide) rfl ?_
          refine Op.of (z := toldV (sub told l)) rfl ?_
          have sl : (sub told l).length ≤ 9 := by simp [sub, ll]; omega
          refine ((sol_spec h1 h5 sl).2 s2).mono fun v s3 h => ?_
          obtain ⟨rfl, K3⟩ := h
          refine Op.of (sol_ix h1 h5 sl s3).2 (Op.of (isN_iff _ _) ?_)
          by_cases fs : Fe k (sub told l)
          · have e : ¬ part 1 (solV k (sub told l)) = .non := fun z => (part_non h1 h5 sl).1.mp z fs
            simp only [e, decide_false, Bool.false_eq_true, if_false]
            refine ⟨⟨_, rfl⟩, K2.trans K3, fun l' hl' => ?_⟩
            rw [List.take_add_one, ej] at hl'
            rcases List.mem_append.mp hl' with q | q
            · exact A2 l' q
            · simp at q; rw [q]; exact fs
          · have e : part 1 (solV k (sub told l)) = .non := (part_non h1 h5 sl).1.mpr fs
            simp only [e, decide_true, if_true]
            refine ⟨?_, K2.trans K3⟩
            have hj : j < (setsL told.length (i + 1)).length := (List.getElem?_eq_some_iff.mp ej).1
            have : clashL k told = some l := by
              unfold clashL
              rw [if_neg f]
              have sp : allS told.length told.length = (allS told.length i ++ (setsL told.length (i + 1)).take j) ++ l :: ((setsL told.length (i + 1)).drop (j + 1) ++ ((List.range (told.length - (i + 1))).flatMap fun q => setsL told.length (i + 1 + q + 1))) := by
                have a : allS told.length told.length = allS told.length (i + 1) ++ ((List.range (told.length - (i + 1))).flatMap fun q => setsL told.length (i + 1 + q + 1)) := by
                  conv => lhs; unfold allS; rw [show told.length = (i + 1) + (told.length - (i + 1)) by omega]
                  rw [List.range_add, List.flatMap_append, List.flatMap_map]
                  have lenEq : i + 1 + (told.length - (i + 1)) = told.length := by omega
                  simp only [lenEq]
                  rfl
                rw [a, allS_succ]
                have b : setsL told.length (i + 1) = (setsL told.length (i + 1)).take j ++ l :: (setsL told.length (i + 1)).drop (j + 1) := by
                  conv => lhs; rw [← List.take_append_drop j (setsL told.length (i + 1))]
                  rw [List.drop_eq_getElem_cons hj]
                  have : (setsL told.length (i + 1))[j] = l := by
                    rw [List.getElem?_eq_getElem hj] at ej; exact Option.some.inj ej
                  rw [this]
                conv => lhs; rw [b]
                simp
              rw [sp]
              refine find_first (fun q hq => ?_) (by simpa using fs)
              rcases List.mem_append.mp hq with q1 | q1
              · simpa using A1 _ q1
              · simpa using A2 _ q1
            rw [this]; rfl
      · rintro e s2 ⟨⟨y3, rfl⟩, K2, A2⟩
        rw [Nat.zero_add, List.length_map, List.take_length] at A2
        refine ⟨⟨_, _, rfl⟩, K2, fun l hl' => ?_⟩
        rw [allS_succ] at hl'
        rcases List.mem_append.mp hl' with q | q
        · exact A1 l q
        · exact A2 l q
    · rintro e s1 ⟨⟨y2, y3, rfl⟩, K1, A1⟩
      have ln : (rng 1 told.length).length = told.length := by simp [rng]
      rw [Nat.zero_add, ln] at A1
      rw [nxK_nx]
      simp only [wkA, List.set_cons_zero, List.set_cons_succ, Option.some.injEq, exists_eq_left', exists_eq_left, List.length_cons, List.length_nil, Nat.reduceAdd, Nat.reduceLeDiff, true_and, and_true, if_true, Bool.not_true, Bool.not_false, Bool.false_eq_true, if_false, decide_eq_true_eq, List.cons.injEq, ↓reduceIte]
      refine ⟨?_, K1⟩
      have : clashL k told = none := by
        unfold clashL
        rw [if_neg f]
        refine List.find?_eq_none.mpr fun l hl' => ?_
        simpa using A1 l hl'
      rw [this]; rfl
end Lq
end
section
set_option Elab.async false
set_option linter.all false
set_option maxRecDepth 10000
namespace Lq
open PySem PySem.Spec PyProof.Rows L2
open Sx (at0 si)
end Lq
end
section
set_option Elab.async false
set_option linter.all false
set_option maxRecDepth 10000
namespace Lq
open PySem PySem.Spec PyProof.Rows L2
open Sx (at0 si)
mutual
theorem peq_refl : ∀ p : PV, noScr p = true → peq p p = true
  | .non, _ => by simp [peq]
  | .bl _, _ => by simp [peq]
  | .int _, _ => by simp [peq]
  | .str _, _ => by simp [peq]
  | .tup xs, h => by rw [noScr] at h; rw [peq]; exact peqs_refl xs h
  | .lst xs, h => by rw [noScr] at h; rw [peq]; exact peqs_refl xs h
  | .scr _, h => by simp [noScr] at h
  | .own _, h => by simp [noScr] at h
  | .glo _, h => by simp [noScr] at h
theorem peqs_refl : ∀ ps : List PV, noScrs ps = true → peqs ps ps = true
  | [], _ => by simp [peqs]
  | x :: xs, h => by
    rw [noScrs, Bool.and_eq_true] at h
    rw [peqs, peq_refl x h.1, peqs_refl xs h.2]; rfl
end
structure Pl (p : PV) : Prop where
  ok : dChk p = true
  rs : ∀ s, rsv s p = p
theorem oNe_pl {x y : PV} (hx : Pl x) (hy : Pl y) (s : Store) : oNe x y s = some (.bl (!peq x y)) := by
  unfold oNe
  simp only [hx.rs, hy.rs, hx.ok, hy.ok, Bool.and_self, if_true]
theorem oEq_pl {x y : PV} (hx : Pl x) (hy : Pl y) (s : Store) : oEq x y s = some (.bl (peq x y)) := by
  unfold oEq
  simp only [hx.rs, hy.rs, hx.ok, hy.ok, Bool.and_self, if_true]
theorem Pl.scr {p : PV} (h : Pl p) : noScr p = true := by
  have := h.ok
  unfold dChk at this
  rw [Bool.and_eq_true] at this
  exact this.2
theorem oNe_self {x : PV} (hx : Pl x) (s : Store) : oNe x x s = some (.bl false) := by rw [oNe_pl hx hx, peq_refl x hx.scr]; rfl
theorem oEq_self {x : PV} (hx : Pl x) (s : Store) : oEq x x s = some (.bl true) := by rw [oEq_pl hx hx, peq_refl x hx.scr]
theorem pl_non : Pl .non := ⟨rfl, fun _ => rfl⟩
theorem pl_bl (b : Bool) : Pl (.bl b) := ⟨rfl, fun _ => rfl⟩
theorem pl_int (i : Int) : Pl (.int i) := ⟨by simp [dChk, dOk, noScr], fun _ => rfl⟩
theorem dOks_nats (m : Nat) : ∀ l : List Nat, dOks m (natsV l) = true
  | [] => by simp [dOks]
  | a :: l => by
    show dOks m (PV.int (a : Int) :: natsV l) = true
    rw [dOks, dOks_nats m l]; simp [dOk]
theorem noScrs_nats : ∀ l : List Nat, noScrs (natsV l) = true
  | [] => by simp [noScrs]
  | a :: l => by
    show noScrs (PV.int (a : Int) :: natsV l) = true
    rw [noScrs, noScrs_nats l]; rfl
theorem pl_lot (l : List Nat) : Pl (lotV l) := ⟨by unfold dChk lotV; rw [dOk, noScr, dOks_nats, noScrs_nats]; rfl, fun _ => rfl⟩
theorem pl_ints (ns : List Int) : Pl (.tup (nI ns)) := ⟨by unfold dChk; rw [dOk, noScr, dOks_ints, noScrs_ints]; rfl, fun _ => rfl⟩
theorem pl_opt (o : Option (List Nat)) : Pl (optL o) := by
  cases o with
  | none => exact pl_non
  | some l => exact pl_lot l
theorem add_tup (xs ys : List PV) (s : Store) (h : xs.length + ys.length ≤ 10000) : oAdd (.tup xs) (.tup ys) s = some (.tup (xs ++ ys)) := by
  have sz := szl
  have a : oAddI (.tup xs) (.tup ys) s = none := rfl
  have b : oAddT (.tup xs) (.tup ys) s = some (.tup (xs ++ ys)) := by simp only [oAddT]; rw [if_pos (by omega)]
  simp only [oAdd, oOr, a, b]
theorem add_told (a b : List Cp) (s : Store) (h : a.length + b.length ≤ 100) : oAdd (toldV a) (toldV b) s = some (toldV (a ++ b)) := by
  unfold toldV
  rw [add_tup _ _ _ (by simp; omega), List.map_append]
end Lq
end
section
set_option Elab.async false
set_option linter.all false
set_option maxRecDepth 10000
namespace Lq
open PySem PySem.Spec PyProof.Rows L2
open Sx (at0 si)
theorem ix0 (c : Cp) (s : Store) : oIx (cpV c) (.int 0) s = some (lotV c.one) := oIxT_nat s (j := 0) rfl
theorem ix2 (c : Cp) (s : Store) : oIx (cpV c) (.int 2) s = some (lotV c.other) := oIxT_nat s (j := 2) rfl
end Lq
end
section
set_option Elab.async false
set_option linter.all false
set_option maxRecDepth 10000
namespace Lq
open PySem PySem.Spec PyProof.Rows L2
open Sx (at0 si si_congr si_zero si_add si_mul)
theorem si_one (f : Nat → Int) (x : Nat) : ∀ k, x < k → si k (fun t => if t = x then f t else 0) = f x
  | k + 1, h => by
    rw [si]
    by_cases e : x = k
    · subst e
      rw [si_zero (fun t ht => by rw [if_neg (by omega)]), if_pos rfl]; omega
    · rw [si_one f x k (by omega), if_neg (by omega)]; omega
theorem sum_si (f : Nat → Int) (k : Nat) : ∀ l : List Nat, l.Pairwise (· < ·) → (∀ x, x ∈ l → x < k) → (l.map f).sum = si k (fun t => inc l t * f t)
  | [], _, _ => by rw [si_zero (fun t ht => by simp [inc])]; rfl
  | x :: r, p, h => by
    obtain ⟨p1, p2⟩ := List.pairwise_cons.mp p
    rw [List.map_cons, List.sum_cons, sum_si f k r p2 (fun y hy => h y (by simp [hy])), ← si_one f x k (h x (by simp)), ← si_add]
    refine si_congr fun t ht => ?_
    unfold inc
    by_cases e : t = x
    · subst e
      have : t ∉ r := fun m => by have := p1 t m; omega
      simp [this]
    · simp [e]
theorem lw_si {k : Nat} {l : List Nat} (ws : List Int) (h : Lot k l) : lw ws l = si k (fun t => inc l t * at0 ws t) := sum_si _ k l h.1 h.2
theorem dif_lw {k : Nat} {c : Cp} (ws : List Int) (h : ValidC k c) : dif k (at0 ws) c = lw ws c.one - lw ws c.other := by
  rw [lw_si ws h.one, lw_si ws h.other]
  unfold dif
  have := Sx.si_neg (fun t => inc c.other t * at0 ws t) k
  rw [Int.sub_eq_add_neg, ← this, ← si_add]
  refine si_congr fun t _ => ?_
  unfold Cp.c
  grind
def holdB (ws : List Int) (c : Cp) : Bool := match c.sg with
  | .gt => decide (0 < lw ws c.one - lw ws c.other)
  | .ge => decide (0 ≤ lw ws c.one - lw ws c.other)
  | .eq => decide (lw ws c.one - lw ws c.other = 0)
theorem hold_iff {k : Nat} {c : Cp} (ws : List Int) (h : ValidC k c) : holdB ws c = true ↔ Hold k (at0 ws) c := by
  unfold holdB Hold
  rw [dif_lw ws h]
  cases c.sg <;> simp
def agB (ws : List Int) (told : List Cp) : Bool := told.all (holdB ws)
theorem ag_iff {k : Nat} {told : List Cp} (ws : List Int) (h : Valid k told) : agB ws told = true ↔ Agree k told (at0 ws) := by
  unfold agB Agree
  rw [List.all_eq_true]
  exact ⟨fun a c hc => (hold_iff ws (h c hc)).mp (a c hc), fun a c hc => (hold_iff ws (h c hc)).mpr (a c hc)⟩
theorem fw_sp {ws : List Int} {l : List Nat} (h : ∀ x, x ∈ l → x < ws.length) (st : Store) : p_found_weight [.tup (nI ws), lotV l] st = .ok (.int (lw ws l)) st := weight_sp h st
theorem does_hold_sp {ws : List Int} {c : Cp} (h : ValidC ws.length c) (st : Store) : p_does_hold [.tup (nI ws), cpV c] st = .ok (.bl (holdB ws c)) st := by
  apply eqOk
  (unfold p_does_hold runF; rw [ok_retF]; simp only [env0, List.map_cons, List.map_nil, List.length_cons, List.length_nil, Nat.reduceAdd, Nat.reduceSub, List.reduceReplicate, List.cons_append, List.nil_append])
  unfold cpV
  simp only [wkA, List.set_cons_zero, List.set_cons_succ, Option.some.injEq, exists_eq_left', exists_eq_left, List.length_cons, List.length_nil, Nat.reduceAdd, Nat.reduceLeDiff, true_and, and_true, if_true, Bool.not_true, Bool.not_false, Bool.false_eq_true, if_false, decide_eq_true_eq, List.cons.injEq, ↓reduceIte]
  rw [nxK_nx]
  simp only [wkA, List.set_cons_zero, List.set_cons_succ, Option.some.injEq, exists_eq_left', exists_eq_left, List.length_cons, List.length_nil, Nat.reduceAdd, Nat.reduceLeDiff, true_and, and_true, if_true, Bool.not_true, Bool.not_false, Bool.false_eq_true, if_false, decide_eq_true_eq, List.cons.injEq, ↓reduceIte]
  rw [Ok.eq (fw_sp h.one.2 st), Ok.eq (fw_sp h.other.2 st)]
  simp only [oSub_int, op_some]
  rw [nxK_nx]
  simp only [wkA, List.set_cons_zero, List.set_cons_succ, Option.some.injEq, exists_eq_left', exists_eq_left, List.length_cons, List.length_nil, Nat.reduceAdd, Nat.reduceLeDiff, true_and, and_true, if_true, Bool.not_true, Bool.not_false, Bool.false_eq_true, if_false, decide_eq_true_eq, List.cons.injEq, ↓reduceIte]
  refine Op.of (sg_ne_eq c.sg st) ?_
  unfold holdB
  generalize lw ws c.one - lw ws c.other = d
  cases c.sg with
  | eq =>
    have : (d == 0) = decide (d = 0) := rfl
    simp [this]
  | gt =>
    simp
    by_cases q : 0 < d
    · simp [q]; omega
    · simp [q]
      by_cases z : d = 0
      · simp [z]
        exact Op.of (z := .bl false) (by kernel_rfl) rfl
      · simp [z]
  | ge =>
    simp
    by_cases q : 0 < d
    · simp [q]; omega
    · simp [q]
      by_cases z : d = 0
      · simp [z]
        exact Op.of (z := .bl true) (by kernel_rfl) rfl
      · simp [z]; omega
theorem do_agree_sp {ws : List Int} {told : List Cp} (h : Valid ws.length told) (st : Store) : p_do_agree [toldV told, .tup (nI ws)] st = .ok (.bl (agB ws told)) st := by
  apply eqOk
  (unfold p_do_agree runF; rw [ok_retF]; simp only [env0, List.map_cons, List.map_nil, List.length_cons, List.length_nil, Nat.reduceAdd, Nat.reduceSub, List.reduceReplicate, List.cons_append, List.nil_append])
  simp only [wkA, List.set_cons_zero, List.set_cons_succ, Option.some.injEq, exists_eq_left', exists_eq_left, List.length_cons, List.length_nil, Nat.reduceAdd, Nat.reduceLeDiff, true_and, and_true, if_true, Bool.not_true, Bool.not_false, Bool.false_eq_true, if_false, decide_eq_true_eq, List.cons.injEq, ↓reduceIte]
  refine ⟨told.map cpV, rfl, ?_⟩
  refine ok_mapE cpV (fun c => .bl (holdB ws c)) (zs := told) (fun c hc => ?_) ?_
  · simp only [wipeE]
    simp only [wkA, List.set_cons_zero, List.set_cons_succ, Option.some.injEq, exists_eq_left', exists_eq_left, List.length_cons, List.length_nil, Nat.reduceAdd, Nat.reduceLeDiff, true_and, and_true, if_true, Bool.not_true, Bool.not_false, Bool.false_eq_true, if_false, decide_eq_true_eq, List.cons.injEq, ↓reduceIte]
    rw [Ok.eq (does_hold_sp (h c hc) st)]
    exact ⟨rfl, rfl⟩
  · exact Op.of (oAll_map _ _ _) ⟨rfl, rfl⟩
noncomputable def feB (k : Nat) (told : List Cp) : Bool := open Classical in decide (Fe k told)
theorem feB_iff {k : Nat} {told : List Cp} : feB k told = true ↔ Fe k told := by unfold feB; simp
end Lq
end
section
set_option Elab.async false
set_option linter.all false
set_option maxRecDepth 100000
namespace Lq
open PySem PySem.Spec PyProof.Rows L2
open Sx (at0 si)
def ltR : List Int → List Int → Bool
  | [], [] => false
  | [], _ :: _ => true
  | _ :: _, [] => false
  | x :: xs, y :: ys => if x = y then ltR xs ys else decide (x < y)
def tI (w : List Int) : PV := .tup (nI w)
theorem ltR_self : ∀ a : List Int, ltR a a = false
  | [] => rfl
  | x :: a => by rw [ltR, if_pos rfl, ltR_self a]
end Lq
end
section
set_option Elab.async false
set_option linter.all false
set_option maxRecDepth 100000
namespace Lq
open PySem PySem.Spec PyProof.Rows L2
open Sx (at0 si)
end Lq
end
section
set_option Elab.async false
set_option linter.all false
set_option maxRecDepth 100000
namespace Lq
open PySem PySem.Spec PyProof.Rows L2
end Lq
end
section
set_option Elab.async false
set_option linter.all false
set_option maxRecDepth 100000
namespace Lq
open PySem PySem.Spec PyProof.Rows L2
section
variable {c : Str} {P : Store → Prop} {env : Ev} {st : Store}
end
end Lq
end
section
set_option Elab.async false
set_option linter.all false
set_option maxRecDepth 100000
namespace Lq
open PySem PySem.Spec PyProof.Rows L2
open Sx (at0 si)
theorem sg_eq_gt (g : Sg) (s : Store) : oEq (.str g.s) (.str ">") s = some (.bl (decide (g = .gt))) := by cases g <;> kernel_rfl
theorem told_ix (told : List Cp) {i : Nat} (h : i < told.length) (s : Store) : oIx (toldV told) (.int (i : Int)) s = some (cpV (told.getD i default)) :=
  oIxT_nat s (by rw [List.getElem?_map, List.getElem?_eq_getElem h, List.getD_eq_getElem?_getD, List.getElem?_eq_getElem h]; rfl)
theorem rng0 (n : Nat) : rng 0 n = (List.range n).map fun t : Nat => PV.int (t : Int) := by simp [rng]
theorem cp_ix1 (c : Cp) (s : Store) : oIx (cpV c) (.int 1) s = some (.str c.sg.s) := oIxT_nat s (j := 1) rfl
end Lq
end
section
set_option Elab.async false
set_option linter.all false
set_option maxRecDepth 10000
namespace Lq
def Same3 (x y z p q r : Int) : Prop := ∀ a b c : Int, (a = -1 ∨ a = 0 ∨ a = 1) → (b = -1 ∨ b = 0 ∨ b = 1) → (c = -1 ∨ c = 0 ∨ c = 1) → (0 < a * x + b * y + c * z → 0 < a * p + b * q + c * r) ∧ (a * x + b * y + c * z = 0 → a * p + b * q + c * r = 0)
theorem same3_0 {x y z : Int} (hx : 0 < x) (hy : 0 < y) (hz : 0 < z) (h0 : x < y) (h1 : x < z) (h2 : y < z) (h3 : x + y < z) (h4 : x + z > y) (h5 : y + z > x) : Same3 x y z 1 2 4 := by
  rintro a b c (rfl | rfl | rfl) (rfl | rfl | rfl) (rfl | rfl | rfl) <;> constructor <;> intro h <;> omega
theorem same3_1 {x y z : Int} (hx : 0 < x) (hy : 0 < y) (hz : 0 < z) (h0 : x < y) (h1 : x < z) (h2 : y < z) (h3 : x + y = z) (h4 : x + z > y) (h5 : y + z > x) : Same3 x y z 1 2 3 := by
  rintro a b c (rfl | rfl | rfl) (rfl | rfl | rfl) (rfl | rfl | rfl) <;> constructor <;> intro h <;> omega
theorem same3_2 {x y z : Int} (hx : 0 < x) (hy : 0 < y) (hz : 0 < z) (h0 : x < y) (h1 : x < z) (h2 : y < z) (h3 : x + y > z) (h4 : x + z > y) (h5 : y + z > x) : Same3 x y z 2 3 4 := by
  rintro a b c (rfl | rfl | rfl) (rfl | rfl | rfl) (rfl | rfl | rfl) <;> constructor <;> intro h <;> omega
theorem same3_3 {x y z : Int} (hx : 0 < x) (hy : 0 < y) (hz : 0 < z) (h0 : x < y) (h1 : x < z) (h2 : y = z) (h3 : x + y > z) (h4 : x + z > y) (h5 : y + z > x) : Same3 x y z 1 2 2 := by
  rintro a b c (rfl | rfl | rfl) (rfl | rfl | rfl) (rfl | rfl | rfl) <;> constructor <;> intro h <;> omega
theorem same3_4 {x y z : Int} (hx : 0 < x) (hy : 0 < y) (hz : 0 < z) (h0 : x < y) (h1 : x < z) (h2 : y > z) (h3 : x + y > z) (h4 : x + z < y) (h5 : y + z > x) : Same3 x y z 1 4 2 := by
  rintro a b c (rfl | rfl | rfl) (rfl | rfl | rfl) (rfl | rfl | rfl) <;> constructor <;> intro h <;> omega
theorem same3_5 {x y z : Int} (hx : 0 < x) (hy : 0 < y) (hz : 0 < z) (h0 : x < y) (h1 : x < z) (h2 : y > z) (h3 : x + y > z) (h4 : x + z = y) (h5 : y + z > x) : Same3 x y z 1 3 2 := by
  rintro a b c (rfl | rfl | rfl) (rfl | rfl | rfl) (rfl | rfl | rfl) <;> constructor <;> intro h <;> omega
theorem same3_6 {x y z : Int} (hx : 0 < x) (hy : 0 < y) (hz : 0 < z) (h0 : x < y) (h1 : x < z) (h2 : y > z) (h3 : x + y > z) (h4 : x + z > y) (h5 : y + z > x) : Same3 x y z 2 4 3 := by
  rintro a b c (rfl | rfl | rfl) (rfl | rfl | rfl) (rfl | rfl | rfl) <;> constructor <;> intro h <;> omega
theorem same3_7 {x y z : Int} (hx : 0 < x) (hy : 0 < y) (hz : 0 < z) (h0 : x < y) (h1 : x = z) (h2 : y > z) (h3 : x + y > z) (h4 : x + z < y) (h5 : y + z > x) : Same3 x y z 1 3 1 := by
  rintro a b c (rfl | rfl | rfl) (rfl | rfl | rfl) (rfl | rfl | rfl) <;> constructor <;> intro h <;> omega
theorem same3_8 {x y z : Int} (hx : 0 < x) (hy : 0 < y) (hz : 0 < z) (h0 : x < y) (h1 : x = z) (h2 : y > z) (h3 : x + y > z) (h4 : x + z = y) (h5 : y + z > x) : Same3 x y z 1 2 1 := by
  rintro a b c (rfl | rfl | rfl) (rfl | rfl | rfl) (rfl | rfl | rfl) <;> constructor <;> intro h <;> omega
theorem same3_9 {x y z : Int} (hx : 0 < x) (hy : 0 < y) (hz : 0 < z) (h0 : x < y) (h1 : x = z) (h2 : y > z) (h3 : x + y > z) (h4 : x + z > y) (h5 : y + z > x) : Same3 x y z 2 3 2 := by
  rintro a b c (rfl | rfl | rfl) (rfl | rfl | rfl) (rfl | rfl | rfl) <;> constructor <;> intro h <;> omega
theorem same3_10 {x y z : Int} (hx : 0 < x) (hy : 0 < y) (hz : 0 < z) (h0 : x < y) (h1 : x > z) (h2 : y > z) (h3 : x + y > z) (h4 : x + z < y) (h5 : y + z > x) : Same3 x y z 2 4 1 := by
  rintro a b c (rfl | rfl | rfl) (rfl | rfl | rfl) (rfl | rfl | rfl) <;> constructor <;> intro h <;> omega
theorem same3_11 {x y z : Int} (hx : 0 < x) (hy : 0 < y) (hz : 0 < z) (h0 : x < y) (h1 : x > z) (h2 : y > z) (h3 : x + y > z) (h4 : x + z = y) (h5 : y + z > x) : Same3 x y z 2 3 1 := by
  rintro a b c (rfl | rfl | rfl) (rfl | rfl | rfl) (rfl | rfl | rfl) <;> constructor <;> intro h <;> omega
theorem same3_12 {x y z : Int} (hx : 0 < x) (hy : 0 < y) (hz : 0 < z) (h0 : x < y) (h1 : x > z) (h2 : y > z) (h3 : x + y > z) (h4 : x + z > y) (h5 : y + z > x) : Same3 x y z 3 4 2 := by
  rintro a b c (rfl | rfl | rfl) (rfl | rfl | rfl) (rfl | rfl | rfl) <;> constructor <;> intro h <;> omega
theorem same3_13 {x y z : Int} (hx : 0 < x) (hy : 0 < y) (hz : 0 < z) (h0 : x = y) (h1 : x < z) (h2 : y < z) (h3 : x + y < z) (h4 : x + z > y) (h5 : y + z > x) : Same3 x y z 1 1 3 := by
  rintro a b c (rfl | rfl | rfl) (rfl | rfl | rfl) (rfl | rfl | rfl) <;> constructor <;> intro h <;> omega
theorem same3_14 {x y z : Int} (hx : 0 < x) (hy : 0 < y) (hz : 0 < z) (h0 : x = y) (h1 : x < z) (h2 : y < z) (h3 : x + y = z) (h4 : x + z > y) (h5 : y + z > x) : Same3 x y z 1 1 2 := by
  rintro a b c (rfl | rfl | rfl) (rfl | rfl | rfl) (rfl | rfl | rfl) <;> constructor <;> intro h <;> omega
theorem same3_15 {x y z : Int} (hx : 0 < x) (hy : 0 < y) (hz : 0 < z) (h0 : x = y) (h1 : x < z) (h2 : y < z) (h3 : x + y > z) (h4 : x + z > y) (h5 : y + z > x) : Same3 x y z 2 2 3 := by
  rintro a b c (rfl | rfl | rfl) (rfl | rfl | rfl) (rfl | rfl | rfl) <;> constructor <;> intro h <;> omega
theorem same3_16 {x y z : Int} (hx : 0 < x) (hy : 0 < y) (hz : 0 < z) (h0 : x = y) (h1 : x = z) (h2 : y = z) (h3 : x + y > z) (h4 : x + z > y) (h5 : y + z > x) : Same3 x y z 1 1 1 := by
  rintro a b c (rfl | rfl | rfl) (rfl | rfl | rfl) (rfl | rfl | rfl) <;> constructor <;> intro h <;> omega
theorem same3_17 {x y z : Int} (hx : 0 < x) (hy : 0 < y) (hz : 0 < z) (h0 : x = y) (h1 : x > z) (h2 : y > z) (h3 : x + y > z) (h4 : x + z > y) (h5 : y + z > x) : Same3 x y z 2 2 1 := by
  rintro a b c (rfl | rfl | rfl) (rfl | rfl | rfl) (rfl | rfl | rfl) <;> constructor <;> intro h <;> omega
theorem same3_18 {x y z : Int} (hx : 0 < x) (hy : 0 < y) (hz : 0 < z) (h0 : x > y) (h1 : x < z) (h2 : y < z) (h3 : x + y < z) (h4 : x + z > y) (h5 : y + z > x) : Same3 x y z 2 1 4 := by
  rintro a b c (rfl | rfl | rfl) (rfl | rfl | rfl) (rfl | rfl | rfl) <;> constructor <;> intro h <;> omega
theorem same3_19 {x y z : Int} (hx : 0 < x) (hy : 0 < y) (hz : 0 < z) (h0 : x > y) (h1 : x < z) (h2 : y < z) (h3 : x + y = z) (h4 : x + z > y) (h5 : y + z > x) : Same3 x y z 2 1 3 := by
  rintro a b c (rfl | rfl | rfl) (rfl | rfl | rfl) (rfl | rfl | rfl) <;> constructor <;> intro h <;> omega
theorem same3_20 {x y z : Int} (hx : 0 < x) (hy : 0 < y) (hz : 0 < z) (h0 : x > y) (h1 : x < z) (h2 : y < z) (h3 : x + y > z) (h4 : x + z > y) (h5 : y + z > x) : Same3 x y z 3 2 4 := by
  rintro a b c (rfl | rfl | rfl) (rfl | rfl | rfl) (rfl | rfl | rfl) <;> constructor <;> intro h <;> omega
theorem same3_21 {x y z : Int} (hx : 0 < x) (hy : 0 < y) (hz : 0 < z) (h0 : x > y) (h1 : x = z) (h2 : y < z) (h3 : x + y > z) (h4 : x + z > y) (h5 : y + z > x) : Same3 x y z 2 1 2 := by
  rintro a b c (rfl | rfl | rfl) (rfl | rfl | rfl) (rfl | rfl | rfl) <;> constructor <;> intro h <;> omega
theorem same3_22 {x y z : Int} (hx : 0 < x) (hy : 0 < y) (hz : 0 < z) (h0 : x > y) (h1 : x > z) (h2 : y < z) (h3 : x + y > z) (h4 : x + z > y) (h5 : y + z < x) : Same3 x y z 4 1 2 := by
  rintro a b c (rfl | rfl | rfl) (rfl | rfl | rfl) (rfl | rfl | rfl) <;> constructor <;> intro h <;> omega
theorem same3_23 {x y z : Int} (hx : 0 < x) (hy : 0 < y) (hz : 0 < z) (h0 : x > y) (h1 : x > z) (h2 : y < z) (h3 : x + y > z) (h4 : x + z > y) (h5 : y + z = x) : Same3 x y z 3 1 2 := by
  rintro a b c (rfl | rfl | rfl) (rfl | rfl | rfl) (rfl | rfl | rfl) <;> constructor <;> intro h <;> omega
theorem same3_24 {x y z : Int} (hx : 0 < x) (hy : 0 < y) (hz : 0 < z) (h0 : x > y) (h1 : x > z) (h2 : y < z) (h3 : x + y > z) (h4 : x + z > y) (h5 : y + z > x) : Same3 x y z 4 2 3 := by
  rintro a b c (rfl | rfl | rfl) (rfl | rfl | rfl) (rfl | rfl | rfl) <;> constructor <;> intro h <;> omega
theorem same3_25 {x y z : Int} (hx : 0 < x) (hy : 0 < y) (hz : 0 < z) (h0 : x > y) (h1 : x > z) (h2 : y = z) (h3 : x + y > z) (h4 : x + z > y) (h5 : y + z < x) : Same3 x y z 3 1 1 := by
  rintro a b c (rfl | rfl | rfl) (rfl | rfl | rfl) (rfl | rfl | rfl) <;> constructor <;> intro h <;> omega
theorem same3_26 {x y z : Int} (hx : 0 < x) (hy : 0 < y) (hz : 0 < z) (h0 : x > y) (h1 : x > z) (h2 : y = z) (h3 : x + y > z) (h4 : x + z > y) (h5 : y + z = x) : Same3 x y z 2 1 1 := by
  rintro a b c (rfl | rfl | rfl) (rfl | rfl | rfl) (rfl | rfl | rfl) <;> constructor <;> intro h <;> omega
theorem same3_27 {x y z : Int} (hx : 0 < x) (hy : 0 < y) (hz : 0 < z) (h0 : x > y) (h1 : x > z) (h2 : y = z) (h3 : x + y > z) (h4 : x + z > y) (h5 : y + z > x) : Same3 x y z 3 2 2 := by
  rintro a b c (rfl | rfl | rfl) (rfl | rfl | rfl) (rfl | rfl | rfl) <;> constructor <;> intro h <;> omega
theorem same3_28 {x y z : Int} (hx : 0 < x) (hy : 0 < y) (hz : 0 < z) (h0 : x > y) (h1 : x > z) (h2 : y > z) (h3 : x + y > z) (h4 : x + z > y) (h5 : y + z < x) : Same3 x y z 4 2 1 := by
  rintro a b c (rfl | rfl | rfl) (rfl | rfl | rfl) (rfl | rfl | rfl) <;> constructor <;> intro h <;> omega
theorem same3_29 {x y z : Int} (hx : 0 < x) (hy : 0 < y) (hz : 0 < z) (h0 : x > y) (h1 : x > z) (h2 : y > z) (h3 : x + y > z) (h4 : x + z > y) (h5 : y + z = x) : Same3 x y z 3 2 1 := by
  rintro a b c (rfl | rfl | rfl) (rfl | rfl | rfl) (rfl | rfl | rfl) <;> constructor <;> intro h <;> omega
theorem same3_30 {x y z : Int} (hx : 0 < x) (hy : 0 < y) (hz : 0 < z) (h0 : x > y) (h1 : x > z) (h2 : y > z) (h3 : x + y > z) (h4 : x + z > y) (h5 : y + z > x) : Same3 x y z 4 3 2 := by
  rintro a b c (rfl | rfl | rfl) (rfl | rfl | rfl) (rfl | rfl | rfl) <;> constructor <;> intro h <;> omega
theorem tri (a b : Int) : a < b ∨ a = b ∨ a > b := by omega
theorem small3 {x y z : Int} (hx : 0 < x) (hy : 0 < y) (hz : 0 < z) : ∃ p q r : Int, 0 < p ∧ 0 < q ∧ 0 < r ∧ p + q + r ≤ 9 ∧ Same3 x y z p q r := by
  rcases tri (x) (y) with h0 | h0 | h0
  · rcases tri (x) (z) with h1 | h1 | h1
    · rcases tri (y) (z) with h2 | h2 | h2
      · rcases tri (x + y) (z) with h3 | h3 | h3
        · rcases tri (x + z) (y) with h4 | h4 | h4
          · exfalso; omega
          · exfalso; omega
          · rcases tri (y + z) (x) with h5 | h5 | h5
            · exfalso; omega
            · exfalso; omega
            · exact ⟨1, 2, 4, by decide, by decide, by decide, by decide, same3_0 hx hy hz h0 h1 h2 h3 h4 h5⟩
        · rcases tri (x + z) (y) with h4 | h4 | h4
          · exfalso; omega
          · exfalso; omega
          · rcases tri (y + z) (x) with h5 | h5 | h5
            · exfalso; omega
            · exfalso; omega
            · exact ⟨1, 2, 3, by decide, by decide, by decide, by decide, same3_1 hx hy hz h0 h1 h2 h3 h4 h5⟩
        · rcases tri (x + z) (y) with h4 | h4 | h4
          · exfalso; omega
          · exfalso; omega
          · rcases tri (y + z) (x) with h5 | h5 | h5
            · exfalso; omega
            · exfalso; omega
            · exact ⟨2, 3, 4, by decide, by decide, by decide, by decide, same3_2 hx hy hz h0 h1 h2 h3 h4 h5⟩
      · rcases tri (x + y) (z) with h3 | h3 | h3
        · exfalso; omega
        · exfalso; omega
        · rcases tri (x + z) (y) with h4 | h4 | h4
          · exfalso; omega
          · exfalso; omega
          · rcases tri (y + z) (x) with h5 | h5 | h5
            · exfalso; omega
            · exfalso; omega
            · exact ⟨1, 2, 2, by decide, by decide, by decide, by decide, same3_3 hx hy hz h0 h1 h2 h3 h4 h5⟩
      · rcases tri (x + y) (z) with h3 | h3 | h3
        · exfalso; omega
        · exfalso; omega
        · rcases tri (x + z) (y) with h4 | h4 | h4
          · rcases tri (y + z) (x) with h5 | h5 | h5
            · exfalso; omega
            · exfalso; omega
            · exact ⟨1, 4, 2, by decide, by decide, by decide, by decide, same3_4 hx hy hz h0 h1 h2 h3 h4 h5⟩
          · rcases tri (y + z) (x) with h5 | h5 | h5
            · exfalso; omega
            · exfalso; omega
            · exact ⟨1, 3, 2, by decide, by decide, by decide, by decide, same3_5 hx hy hz h0 h1 h2 h3 h4 h5⟩
          · rcases tri (y + z) (x) with h5 | h5 | h5
            · exfalso; omega
            · exfalso; omega
            · exact ⟨2, 4, 3, by decide, by decide, by decide, by decide, same3_6 hx hy hz h0 h1 h2 h3 h4 h5⟩
    · rcases tri (y) (z) with h2 | h2 | h2
      · exfalso; omega
      · exfalso; omega
      · rcases tri (x + y) (z) with h3 | h3 | h3
        · exfalso; omega
        · exfalso; omega
        · rcases tri (x + z) (y) with h4 | h4 | h4
          · rcases tri (y + z) (x) with h5 | h5 | h5
            · exfalso; omega
            · exfalso; omega
            · exact ⟨1, 3, 1, by decide, by decide, by decide, by decide, same3_7 hx hy hz h0 h1 h2 h3 h4 h5⟩
          · rcases tri (y + z) (x) with h5 | h5 | h5
            · exfalso; omega
            · exfalso; omega
            · exact ⟨1, 2, 1, by decide, by decide, by decide, by decide, same3_8 hx hy hz h0 h1 h2 h3 h4 h5⟩
          · rcases tri (y + z) (x) with h5 | h5 | h5
            · exfalso; omega
            · exfalso; omega
            · exact ⟨2, 3, 2, by decide, by decide, by decide, by decide, same3_9 hx hy hz h0 h1 h2 h3 h4 h5⟩
    · rcases tri (y) (z) with h2 | h2 | h2
      · exfalso; omega
      · exfalso; omega
      · rcases tri (x + y) (z) with h3 | h3 | h3
        · exfalso; omega
        · exfalso; omega
        · rcases tri (x + z) (y) with h4 | h4 | h4
          · rcases tri (y + z) (x) with h5 | h5 | h5
            · exfalso; omega
            · exfalso; omega
            · exact ⟨2, 4, 1, by decide, by decide, by decide, by decide, same3_10 hx hy hz h0 h1 h2 h3 h4 h5⟩
          · rcases tri (y + z) (x) with h5 | h5 | h5
            · exfalso; omega
            · exfalso; omega
            · exact ⟨2, 3, 1, by decide, by decide, by decide, by decide, same3_11 hx hy hz h0 h1 h2 h3 h4 h5⟩
          · rcases tri (y + z) (x) with h5 | h5 | h5
            · exfalso; omega
            · exfalso; omega
            · exact ⟨3, 4, 2, by decide, by decide, by decide, by decide, same3_12 hx hy hz h0 h1 h2 h3 h4 h5⟩
  · rcases tri (x) (z) with h1 | h1 | h1
    · rcases tri (y) (z) with h2 | h2 | h2
      · rcases tri (x + y) (z) with h3 | h3 | h3
        · rcases tri (x + z) (y) with h4 | h4 | h4
          · exfalso; omega
          · exfalso; omega
          · rcases tri (y + z) (x) with h5 | h5 | h5
            · exfalso; omega
            · exfalso; omega
            · exact ⟨1, 1, 3, by decide, by decide, by decide, by decide, same3_13 hx hy hz h0 h1 h2 h3 h4 h5⟩
        · rcases tri (x + z) (y) with h4 | h4 | h4
          · exfalso; omega
          · exfalso; omega
          · rcases tri (y + z) (x) with h5 | h5 | h5
            · exfalso; omega
            · exfalso; omega
            · exact ⟨1, 1, 2, by decide, by decide, by decide, by decide, same3_14 hx hy hz h0 h1 h2 h3 h4 h5⟩
        · rcases tri (x + z) (y) with h4 | h4 | h4
          · exfalso; omega
          · exfalso; omega
          · rcases tri (y + z) (x) with h5 | h5 | h5
            · exfalso; omega
            · exfalso; omega
            · exact ⟨2, 2, 3, by decide, by decide, by decide, by decide, same3_15 hx hy hz h0 h1 h2 h3 h4 h5⟩
      · exfalso; omega
      · exfalso; omega
    · rcases tri (y) (z) with h2 | h2 | h2
      · exfalso; omega
      · rcases tri (x + y) (z) with h3 | h3 | h3
        · exfalso; omega
        · exfalso; omega
        · rcases tri (x + z) (y) with h4 | h4 | h4
          · exfalso; omega
          · exfalso; omega
          · rcases tri (y + z) (x) with h5 | h5 | h5
            · exfalso; omega
            · exfalso; omega
            · exact ⟨1, 1, 1, by decide, by decide, by decide, by decide, same3_16 hx hy hz h0 h1 h2 h3 h4 h5⟩
      · exfalso; omega
    · rcases tri (y) (z) with h2 | h2 | h2
      · exfalso; omega
      · exfalso; omega
      · rcases tri (x + y) (z) with h3 | h3 | h3
        · exfalso; omega
        · exfalso; omega
        · rcases tri (x + z) (y) with h4 | h4 | h4
          · exfalso; omega
          · exfalso; omega
          · rcases tri (y + z) (x) with h5 | h5 | h5
            · exfalso; omega
            · exfalso; omega
            · exact ⟨2, 2, 1, by decide, by decide, by decide, by decide, same3_17 hx hy hz h0 h1 h2 h3 h4 h5⟩
  · rcases tri (x) (z) with h1 | h1 | h1
    · rcases tri (y) (z) with h2 | h2 | h2
      · rcases tri (x + y) (z) with h3 | h3 | h3
        · rcases tri (x + z) (y) with h4 | h4 | h4
          · exfalso; omega
          · exfalso; omega
          · rcases tri (y + z) (x) with h5 | h5 | h5
            · exfalso; omega
            · exfalso; omega
            · exact ⟨2, 1, 4, by decide, by decide, by decide, by decide, same3_18 hx hy hz h0 h1 h2 h3 h4 h5⟩
        · rcases tri (x + z) (y) with h4 | h4 | h4
          · exfalso; omega
          · exfalso; omega
          · rcases tri (y + z) (x) with h5 | h5 | h5
            · exfalso; omega
            · exfalso; omega
            · exact ⟨2, 1, 3, by decide, by decide, by decide, by decide, same3_19 hx hy hz h0 h1 h2 h3 h4 h5⟩
        · rcases tri (x + z) (y) with h4 | h4 | h4
          · exfalso; omega
          · exfalso; omega
          · rcases tri (y + z) (x) with h5 | h5 | h5
            · exfalso; omega
            · exfalso; omega
            · exact ⟨3, 2, 4, by decide, by decide, by decide, by decide, same3_20 hx hy hz h0 h1 h2 h3 h4 h5⟩
      · exfalso; omega
      · exfalso; omega
    · rcases tri (y) (z) with h2 | h2 | h2
      · rcases tri (x + y) (z) with h3 | h3 | h3
        · exfalso; omega
        · exfalso; omega
        · rcases tri (x + z) (y) with h4 | h4 | h4
          · exfalso; omega
          · exfalso; omega
          · rcases tri (y + z) (x) with h5 | h5 | h5
            · exfalso; omega
            · exfalso; omega
            · exact ⟨2, 1, 2, by decide, by decide, by decide, by decide, same3_21 hx hy hz h0 h1 h2 h3 h4 h5⟩
      · exfalso; omega
      · exfalso; omega
    · rcases tri (y) (z) with h2 | h2 | h2
      · rcases tri (x + y) (z) with h3 | h3 | h3
        · exfalso; omega
        · exfalso; omega
        · rcases tri (x + z) (y) with h4 | h4 | h4
          · exfalso; omega
          · exfalso; omega
          · rcases tri (y + z) (x) with h5 | h5 | h5
            · exact ⟨4, 1, 2, by decide, by decide, by decide, by decide, same3_22 hx hy hz h0 h1 h2 h3 h4 h5⟩
            · exact ⟨3, 1, 2, by decide, by decide, by decide, by decide, same3_23 hx hy hz h0 h1 h2 h3 h4 h5⟩
            · exact ⟨4, 2, 3, by decide, by decide, by decide, by decide, same3_24 hx hy hz h0 h1 h2 h3 h4 h5⟩
      · rcases tri (x + y) (z) with h3 | h3 | h3
        · exfalso; omega
        · exfalso; omega
        · rcases tri (x + z) (y) with h4 | h4 | h4
          · exfalso; omega
          · exfalso; omega
          · rcases tri (y + z) (x) with h5 | h5 | h5
            · exact ⟨3, 1, 1, by decide, by decide, by decide, by decide, same3_25 hx hy hz h0 h1 h2 h3 h4 h5⟩
            · exact ⟨2, 1, 1, by decide, by decide, by decide, by decide, same3_26 hx hy hz h0 h1 h2 h3 h4 h5⟩
            · exact ⟨3, 2, 2, by decide, by decide, by decide, by decide, same3_27 hx hy hz h0 h1 h2 h3 h4 h5⟩
      · rcases tri (x + y) (z) with h3 | h3 | h3
        · exfalso; omega
        · exfalso; omega
        · rcases tri (x + z) (y) with h4 | h4 | h4
          · exfalso; omega
          · exfalso; omega
          · rcases tri (y + z) (x) with h5 | h5 | h5
            · exact ⟨4, 2, 1, by decide, by decide, by decide, by decide, same3_28 hx hy hz h0 h1 h2 h3 h4 h5⟩
            · exact ⟨3, 2, 1, by decide, by decide, by decide, by decide, same3_29 hx hy hz h0 h1 h2 h3 h4 h5⟩
            · exact ⟨4, 3, 2, by decide, by decide, by decide, by decide, same3_30 hx hy hz h0 h1 h2 h3 h4 h5⟩
end Lq
end
section
set_option Elab.async false
set_option linter.all false
set_option maxRecDepth 100000
namespace Lq
open PySem PySem.Spec PyProof.Rows L2
open Sx (at0 si)
def awB (callee : Fn) : XS :=
    (sSeq (sIf (tE (eBin oEq (eVar 0) (eC (.int 1)))) (sRet (eFz (fDisp (aCons (eTup (aCons (eVar 1) aNil)) aNil)))) sNil)
    (sSeq (sSet 2 (eOw (fDisp aNil)))
    (sSeq (sFor (iRange2 (aCons (eC (.int 1)) (aCons (eBin oAdd (eBin oSub (eVar 1) (eVar 0)) (eC (.int 2))) aNil))) (gNm 3) (sDrop (eLm goExt (eVar 2) (aCons (eFz (fComp (iVal (eCall 2 callee (aCons (eBin oSub (eVar 0) (eC (.int 1))) (aCons (eBin oSub (eVar 1) (eVar 3)) aNil)))) (gNm 4) (fun _ st => .ok true st) (eBin oAdd (eTup (aCons (eVar 3) aNil)) (eVar 4)) [4])) aNil))))
    (sRet (eFrz (eVar 2))))))
def allL : Nat → Nat → List (List Int)
  | 0, _ => []
  | 1, t => [[(t : Int)]]
  | k + 2, t => (List.range (t - (k + 1))).flatMap fun (i : Nat) => (allL (k + 1) (t - (i + 1))).map fun r => ((i : Int) + 1) :: r
theorem all_ok : ∀ {k t : Nat} {w : List Int}, 1 ≤ k → k ≤ t → w ∈ allL k t → w.length = k ∧ (∀ x, x ∈ w → 1 ≤ x) ∧ w.sum = (t : Int)
  | 1, t, w, _, h, hw => by
    rw [allL, List.mem_singleton] at hw
    subst hw
    exact ⟨rfl, fun x hx => by simp at hx; omega, by simp⟩
  | k + 2, t, w, _, h, hw => by
    rw [allL, List.mem_flatMap] at hw
    obtain ⟨i, hi, hw⟩ := hw
    obtain ⟨r, hr, rfl⟩ := List.mem_map.mp hw
    rw [List.mem_range] at hi
    obtain ⟨a, b, c⟩ := all_ok (by omega) (by omega) hr
    refine ⟨by simp [a], fun x hx => ?_, ?_⟩
    · rcases List.mem_cons.mp hx with rfl | hx
      · omega
      · exact b x hx
    · rw [List.sum_cons, c]; omega
theorem sum_ge : ∀ {w : List Int}, (∀ x, x ∈ w → 1 ≤ x) → (w.length : Int) ≤ w.sum
  | [], _ => by simp
  | x :: r, h => by
    have := sum_ge (w := r) fun y hy => h y (List.mem_cons_of_mem _ hy)
    have := h x (List.mem_cons_self ..)
    rw [List.sum_cons, List.length_cons]; omega
theorem all_mem : ∀ {k t : Nat} {w : List Int}, 1 ≤ k → w.length = k → (∀ x, x ∈ w → 1 ≤ x) → w.sum = (t : Int) → w ∈ allL k t
  | 1, t, w, _, hl, hx, hs => by
    match w, hl with
    | [x], _ =>
      rw [allL, List.mem_singleton]
      simp at hs
      rw [hs]
  | k + 2, t, w, _, hl, hx, hs => by
    match w, hl with
    | x :: r, hl =>
      have hx0 := hx x (List.mem_cons_self ..)
      have hr : r.length = k + 1 := by simpa using hl
      have hxr : ∀ y, y ∈ r → 1 ≤ y := fun y hy => hx y (List.mem_cons_of_mem _ hy)
      have hg := sum_ge hxr
      rw [List.sum_cons] at hs
      rw [allL, List.mem_flatMap]
      refine ⟨(x - 1).toNat, by rw [List.mem_range]; omega, List.mem_map.mpr ⟨r, all_mem (by omega) hr hxr (by omega), ?_⟩⟩
      congr 1
      omega
theorem goExt_ok {xs ys : List PV} (s : Store) (h : xs.length + ys.length ≤ sizeLine) : goExt xs [.lst ys] s = some (.non, xs ++ ys) := by simp only [goExt, asM, if_pos h]
theorem cc_tri (c : Cp) (t : Nat) : c.c t = -1 ∨ c.c t = 0 ∨ c.c t = 1 := by
  have := c.c_small t
  omega
theorem hold_same {k : Nat} {w w' : Nat → Int} {c : Cp} (h : (0 < dif k w c → 0 < dif k w' c) ∧ (dif k w c = 0 → dif k w' c = 0)) (hw : Hold k w c) : Hold k w' c := by
  unfold Hold at hw ⊢
  cases e : c.sg <;> rw [e] at hw <;> simp only at hw ⊢
  · exact h.1 hw
  · by_cases z : dif k w c = 0
    · rw [h.2 z]; decide
    · have := h.1 (by omega); omega
  · exact h.2 hw
theorem small_fe {k : Nat} {told : List Cp} (h1 : 1 ≤ k) (h3 : k ≤ 3) (h : Valid k told) (f : Fe k told) : ∃ x : List Int, x.length = k ∧ (∀ v, v ∈ x → 1 ≤ v) ∧ x.sum ≤ 9 ∧ agB x told = true := by
  obtain ⟨w, wp, wa⟩ := f
  have : k = 1 ∨ k = 2 ∨ k = 3 := by omega
  rcases this with rfl | rfl | rfl
  · obtain ⟨p, q, r, hp, hq, hr, hs, sm⟩ := small3 (wp 0 (by omega)) (show (0 : Int) < 1 by decide) (show (0 : Int) < 1 by decide)
    refine ⟨[p], rfl, fun v hv => by simp at hv; omega, by simp; omega, (ag_iff [p] h).mpr fun c hc => ?_⟩
    refine hold_same ?_ (wa c hc)
    have := sm (c.c 0) 0 0 (cc_tri c 0) (by omega) (by omega)
    unfold dif
    simp only [si, at0, List.getD_cons_zero]
    simpa using this
  · obtain ⟨p, q, r, hp, hq, hr, hs, sm⟩ := small3 (wp 0 (by omega)) (wp 1 (by omega)) (show (0 : Int) < 1 by decide)
    refine ⟨[p, q], rfl, fun v hv => by simp at hv; omega, by simp; omega, (ag_iff [p, q] h).mpr fun c hc => ?_⟩
    refine hold_same ?_ (wa c hc)
    have := sm (c.c 0) (c.c 1) 0 (cc_tri c 0) (cc_tri c 1) (by omega)
    unfold dif
    simp only [si, at0, List.getD_cons_zero, List.getD_cons_succ]
    simpa using this
  · obtain ⟨p, q, r, hp, hq, hr, hs, sm⟩ := small3 (wp 0 (by omega)) (wp 1 (by omega)) (wp 2 (by omega))
    refine ⟨[p, q, r], rfl, fun v hv => by simp at hv; omega, by simp; omega, (ag_iff [p, q, r] h).mpr fun c hc => ?_⟩
    refine hold_same ?_ (wa c hc)
    have := sm (c.c 0) (c.c 1) (c.c 2) (cc_tri c 0) (cc_tri c 1) (cc_tri c 2)
    unfold dif
    simp only [si, at0, List.getD_cons_zero, List.getD_cons_succ]
    simpa using this
theorem ok_while {c : Ev → Store → R Bool} {b : XS} {n : Nat} {env : Ev} {st : Store} {P : Fl → Store → Prop} (h : Ok (c env st) fun k s => if k = true then Ok (b env s) fun fl s2 => match fl with | .nx e => Ok (sWhile c b n e s2) P | .ct e => Ok (sWhile c b n e s2) P | .bk e => P (.nx e) s2 | .rt v => P (.rt v) s2 else P (.nx env) s) : Ok (sWhile c b (n + 1) env st) P := by
  rw [sWhile, ok_bind]
  refine h.mono fun k s h => ?_
  split at h
  · rename_i q
    rw [if_pos q, ok_bind]
    refine h.mono fun fl s2 h => ?_
    cases fl <;> first | exact h | exact ok_ok.mpr h
  · rename_i q
    rw [if_neg q]
    exact ok_ok.mpr h
theorem are_weights_sp {ws : List Int} (h1 : 1 ≤ ws.length) (h5 : ws.length ≤ 5) (hp : ∀ x, x ∈ ws → 0 < x) (st : Store) : p_are_weights [.tup (nI ws)] st = .ok (.bl true) st := by
  apply eqOk
  (unfold p_are_weights runF; rw [ok_retF]; simp only [env0, List.map_cons, List.map_nil, List.length_cons, List.length_nil, Nat.reduceAdd, Nat.reduceSub, List.reduceReplicate, List.cons_append, List.nil_append])
  simp only [wkA, List.set_cons_zero, List.set_cons_succ, Option.some.injEq, exists_eq_left', exists_eq_left, List.length_cons, List.length_nil, Nat.reduceAdd, Nat.reduceLeDiff, true_and, and_true, if_true, Bool.not_true, Bool.not_false, Bool.false_eq_true, if_false, decide_eq_true_eq, List.cons.injEq, ↓reduceIte]
  refine ⟨.tup, rfl, ?_⟩
  have e1 : Kd.isa .tup .tup = true := rfl
  simp only [e1, Bool.not_true, Bool.false_eq_true, if_false]
  refine Op.of (z := .int (ws.length : Int)) (by simp [oLen, asS]) ?_
  refine Op.of (z := .bl true) (by show some (PV.bl (decide ((1 : Int) ≤ (ws.length : Int)))) = _; rw [decide_eq_true (by omega)]) ?_
  simp only [if_true]
  refine Op.of (z := .bl true) (by show some (PV.bl (decide ((ws.length : Int) ≤ 5))) = _; rw [decide_eq_true (by omega)]) ?_
  simp only [Bool.not_true, Bool.false_eq_true, if_false]
  rw [nxK_nx]
  simp only [wkA, List.set_cons_zero, List.set_cons_succ, Option.some.injEq, exists_eq_left', exists_eq_left, List.length_cons, List.length_nil, Nat.reduceAdd, Nat.reduceLeDiff, true_and, and_true, if_true, Bool.not_true, Bool.not_false, Bool.false_eq_true, if_false, decide_eq_true_eq, List.cons.injEq, ↓reduceIte]
  refine ⟨_, rfl, ?_⟩
  refine ok_mapE PV.int (fun _ => .bl true) (fun x hx => ?_) ?_
  · simp only [wipeE]
    simp only [wkA, List.set_cons_zero, List.set_cons_succ, Option.some.injEq, exists_eq_left', exists_eq_left, List.length_cons, List.length_nil, Nat.reduceAdd, Nat.reduceLeDiff, true_and, and_true, if_true, Bool.not_true, Bool.not_false, Bool.false_eq_true, if_false, decide_eq_true_eq, List.cons.injEq, ↓reduceIte]
    have := hp x hx
    have e2 : Kd.isa .int .int = true := rfl
    have e3 : Kd.isa .int .bl = false := rfl
    refine ⟨.int, rfl, ?_⟩
    simp only [e2, if_true]
    refine ⟨.int, rfl, ?_⟩
    simp only [e3, Bool.not_false, if_true]
    simp [this]
  · exact Op.of (oAll_true st fun x hx => by obtain ⟨y, _, rfl⟩ := List.mem_map.mp hx; rfl) ⟨rfl, rfl⟩
theorem len_tup (ws : List Int) (st : Store) : oLen [.tup (nI ws)] st = some (.int (ws.length : Int)) := by simp [oLen, asS]
theorem agrees_sp {ws : List Int} {told : List Cp} (h1 : 1 ≤ ws.length) (h5 : ws.length ≤ 5) (hp : ∀ x, x ∈ ws → 0 < x) (h : Valid ws.length told) (hl : told.length ≤ 8) (st : Store) : p_agrees [.int (ws.length : Int), toldV told, .tup (nI ws)] st = .ok (.bl (agB ws told)) st := by
  apply eqOk
  (unfold p_agrees runF; rw [ok_retF]; simp only [env0, List.map_cons, List.map_nil, List.length_cons, List.length_nil, Nat.reduceAdd, Nat.reduceSub, List.reduceReplicate, List.cons_append, List.nil_append])
  simp only [wkA, List.set_cons_zero, List.set_cons_succ, Option.some.injEq, exists_eq_left', exists_eq_left, List.length_cons, List.length_nil, Nat.reduceAdd, Nat.reduceLeDiff, true_and, and_true, if_true, Bool.not_true, Bool.not_false, Bool.false_eq_true, if_false, decide_eq_true_eq, List.cons.injEq, ↓reduceIte]
  rw [Ok.eq (check_told_sp h1 h5 h hl st)]
  rw [nxK_nx]
  simp only [wkA, List.set_cons_zero, List.set_cons_succ, Option.some.injEq, exists_eq_left', exists_eq_left, List.length_cons, List.length_nil, Nat.reduceAdd, Nat.reduceLeDiff, true_and, and_true, if_true, Bool.not_true, Bool.not_false, Bool.false_eq_true, if_false, decide_eq_true_eq, List.cons.injEq, ↓reduceIte]
  rw [Ok.eq (are_weights_sp h1 h5 hp st)]
  simp only [Bool.not_true, Bool.false_eq_true, if_false]
  refine Op.of (len_tup _ _) ?_
  simp only [oNe_int, op_some, BEq.rfl, Bool.not_true, Bool.false_eq_true, if_false]
  rw [nxK_nx]
  simp only [wkA, List.set_cons_zero, List.set_cons_succ, Option.some.injEq, exists_eq_left', exists_eq_left, List.length_cons, List.length_nil, Nat.reduceAdd, Nat.reduceLeDiff, true_and, and_true, if_true, Bool.not_true, Bool.not_false, Bool.false_eq_true, if_false, decide_eq_true_eq, List.cons.injEq, ↓reduceIte]
  rw [Ok.eq (do_agree_sp h st)]
  exact ⟨rfl, rfl⟩
end Lq
end
section
set_option Elab.async false
set_option linter.all false
set_option maxRecDepth 10000
namespace Lq
def Same4 (w x y z p q r s : Int) : Prop := ∀ a b c d : Int, (a = -1 ∨ a = 0 ∨ a = 1) → (b = -1 ∨ b = 0 ∨ b = 1) → (c = -1 ∨ c = 0 ∨ c = 1) → (d = -1 ∨ d = 0 ∨ d = 1) → (0 < a * w + b * x + c * y + d * z → 0 < a * p + b * q + c * r + d * s) ∧ (a * w + b * x + c * y + d * z = 0 → a * p + b * q + c * r + d * s = 0)
theorem bas4 {w x y z p q r s : Int} (w0 : 0 < w) (p0 : 0 < p) (s0 : w ≤ x) (s1 : x ≤ y) (s2 : y ≤ z) (t0 : p ≤ q) (t1 : q ≤ r) (t2 : r ≤ s) (h0 : w < x ↔ p < q) (h1 : x < y ↔ q < r) (h2 : y < z ↔ r < s) (h3 : (w + x < y ↔ p + q < r) ∧ (w + x = y ↔ p + q = r)) (h4 : (w + x < z ↔ p + q < s) ∧ (w + x = z ↔ p + q = s)) (h5 : (w + y < z ↔ p + r < s) ∧ (w + y = z ↔ p + r = s)) (h6 : (x + y < z ↔ q + r < s) ∧ (x + y = z ↔ q + r = s)) (h7 : (w + z < x + y ↔ p + s < q + r) ∧ (w + z = x + y ↔ p + s = q + r)) (h8 : (w + x + y < z ↔ p + q + r < s) ∧ (w + x + y = z ↔ p + q + r = s)) : Same4 w x y z p q r s := by
  rintro a b c d (rfl | rfl | rfl) (rfl | rfl | rfl) (rfl | rfl | rfl) (rfl | rfl | rfl) <;> constructor <;> intro h <;> first | (clear h3 h4 h5 h6 h7 h8; omega) | (clear h4 h5 h6 h7 h8; omega) | (clear h3 h5 h6 h7 h8; omega) | (clear h3 h4 h6 h7 h8; omega) | (clear h3 h4 h5 h7 h8; omega) | (clear h3 h4 h5 h6 h8; omega) | (clear h3 h4 h5 h6 h7; omega)
theorem small4s {w x y z : Int} (w0 : 0 < w) (s0 : w ≤ x) (s1 : x ≤ y) (s2 : y ≤ z) : ∃ p q r s : Int, 0 < p ∧ 0 < q ∧ 0 < r ∧ 0 < s ∧ p + q + r + s ≤ 27 ∧ Same4 w x y z p q r s := by
  rcases (show w < x ∨ w = x by omega) with h0 | h0
  · rcases (show x < y ∨ x = y by omega) with h1 | h1
    · rcases (show y < z ∨ y = z by omega) with h2 | h2
      · rcases tri (w + x) (y) with h3 | h3 | h3
        · have h4 : w + x < z := by omega
          rcases tri (w + y) (z) with h5 | h5 | h5
          · rcases tri (x + y) (z) with h6 | h6 | h6
            · have h7 : w + z > x + y := by omega
              rcases tri (w + x + y) (z) with h8 | h8 | h8
              · exact ⟨1, 2, 4, 8, by decide, by decide, by decide, by decide, by decide, bas4 w0 (by decide) s0 s1 s2 (by decide) (by decide) (by decide) (by omega) (by omega) (by omega) (by omega) (by omega) (by omega) (by omega) (by omega) (by omega)⟩
              · exact ⟨1, 2, 4, 7, by decide, by decide, by decide, by decide, by decide, bas4 w0 (by decide) s0 s1 s2 (by decide) (by decide) (by decide) (by omega) (by omega) (by omega) (by omega) (by omega) (by omega) (by omega) (by omega) (by omega)⟩
              · exact ⟨2, 3, 6, 10, by decide, by decide, by decide, by decide, by decide, bas4 w0 (by decide) s0 s1 s2 (by decide) (by decide) (by decide) (by omega) (by omega) (by omega) (by omega) (by omega) (by omega) (by omega) (by omega) (by omega)⟩
            · have h7 : w + z > x + y := by omega
              have h8 : w + x + y > z := by omega
              exact ⟨1, 2, 4, 6, by decide, by decide, by decide, by decide, by decide, bas4 w0 (by decide) s0 s1 s2 (by decide) (by decide) (by decide) (by omega) (by omega) (by omega) (by omega) (by omega) (by omega) (by omega) (by omega) (by omega)⟩
            · rcases tri (w + z) (x + y) with h7 | h7 | h7
              · have h8 : w + x + y > z := by omega
                exact ⟨1, 4, 6, 8, by decide, by decide, by decide, by decide, by decide, bas4 w0 (by decide) s0 s1 s2 (by decide) (by decide) (by decide) (by omega) (by omega) (by omega) (by omega) (by omega) (by omega) (by omega) (by omega) (by omega)⟩
              · have h8 : w + x + y > z := by omega
                exact ⟨1, 3, 5, 7, by decide, by decide, by decide, by decide, by decide, bas4 w0 (by decide) s0 s1 s2 (by decide) (by decide) (by decide) (by omega) (by omega) (by omega) (by omega) (by omega) (by omega) (by omega) (by omega) (by omega)⟩
              · have h8 : w + x + y > z := by omega
                exact ⟨2, 4, 7, 10, by decide, by decide, by decide, by decide, by decide, bas4 w0 (by decide) s0 s1 s2 (by decide) (by decide) (by decide) (by omega) (by omega) (by omega) (by omega) (by omega) (by omega) (by omega) (by omega) (by omega)⟩
          · have h6 : x + y > z := by omega
            rcases tri (w + z) (x + y) with h7 | h7 | h7
            · have h8 : w + x + y > z := by omega
              exact ⟨1, 3, 5, 6, by decide, by decide, by decide, by decide, by decide, bas4 w0 (by decide) s0 s1 s2 (by decide) (by decide) (by decide) (by omega) (by omega) (by omega) (by omega) (by omega) (by omega) (by omega) (by omega) (by omega)⟩
            · have h8 : w + x + y > z := by omega
              exact ⟨1, 2, 4, 5, by decide, by decide, by decide, by decide, by decide, bas4 w0 (by decide) s0 s1 s2 (by decide) (by decide) (by decide) (by omega) (by omega) (by omega) (by omega) (by omega) (by omega) (by omega) (by omega) (by omega)⟩
            · have h8 : w + x + y > z := by omega
              exact ⟨2, 3, 6, 8, by decide, by decide, by decide, by decide, by decide, bas4 w0 (by decide) s0 s1 s2 (by decide) (by decide) (by decide) (by omega) (by omega) (by omega) (by omega) (by omega) (by omega) (by omega) (by omega) (by omega)⟩
          · have h6 : x + y > z := by omega
            rcases tri (w + z) (x + y) with h7 | h7 | h7
            · have h8 : w + x + y > z := by omega
              exact ⟨2, 4, 7, 8, by decide, by decide, by decide, by decide, by decide, bas4 w0 (by decide) s0 s1 s2 (by decide) (by decide) (by decide) (by omega) (by omega) (by omega) (by omega) (by omega) (by omega) (by omega) (by omega) (by omega)⟩
            · have h8 : w + x + y > z := by omega
              exact ⟨2, 3, 6, 7, by decide, by decide, by decide, by decide, by decide, bas4 w0 (by decide) s0 s1 s2 (by decide) (by decide) (by decide) (by omega) (by omega) (by omega) (by omega) (by omega) (by omega) (by omega) (by omega) (by omega)⟩
            · have h8 : w + x + y > z := by omega
              exact ⟨3, 4, 8, 10, by decide, by decide, by decide, by decide, by decide, bas4 w0 (by decide) s0 s1 s2 (by decide) (by decide) (by decide) (by omega) (by omega) (by omega) (by omega) (by omega) (by omega) (by omega) (by omega) (by omega)⟩
        · have h4 : w + x < z := by omega
          rcases tri (w + y) (z) with h5 | h5 | h5
          · rcases tri (x + y) (z) with h6 | h6 | h6
            · have h7 : w + z > x + y := by omega
              rcases tri (w + x + y) (z) with h8 | h8 | h8
              · exact ⟨1, 2, 3, 7, by decide, by decide, by decide, by decide, by decide, bas4 w0 (by decide) s0 s1 s2 (by decide) (by decide) (by decide) (by omega) (by omega) (by omega) (by omega) (by omega) (by omega) (by omega) (by omega) (by omega)⟩
              · exact ⟨1, 2, 3, 6, by decide, by decide, by decide, by decide, by decide, bas4 w0 (by decide) s0 s1 s2 (by decide) (by decide) (by decide) (by omega) (by omega) (by omega) (by omega) (by omega) (by omega) (by omega) (by omega) (by omega)⟩
              · exact ⟨2, 3, 5, 9, by decide, by decide, by decide, by decide, by decide, bas4 w0 (by decide) s0 s1 s2 (by decide) (by decide) (by decide) (by omega) (by omega) (by omega) (by omega) (by omega) (by omega) (by omega) (by omega) (by omega)⟩
            · have h7 : w + z > x + y := by omega
              have h8 : w + x + y > z := by omega
              exact ⟨1, 2, 3, 5, by decide, by decide, by decide, by decide, by decide, bas4 w0 (by decide) s0 s1 s2 (by decide) (by decide) (by decide) (by omega) (by omega) (by omega) (by omega) (by omega) (by omega) (by omega) (by omega) (by omega)⟩
            · rcases tri (w + z) (x + y) with h7 | h7 | h7
              · have h8 : w + x + y > z := by omega
                exact ⟨1, 4, 5, 7, by decide, by decide, by decide, by decide, by decide, bas4 w0 (by decide) s0 s1 s2 (by decide) (by decide) (by decide) (by omega) (by omega) (by omega) (by omega) (by omega) (by omega) (by omega) (by omega) (by omega)⟩
              · have h8 : w + x + y > z := by omega
                exact ⟨1, 3, 4, 6, by decide, by decide, by decide, by decide, by decide, bas4 w0 (by decide) s0 s1 s2 (by decide) (by decide) (by decide) (by omega) (by omega) (by omega) (by omega) (by omega) (by omega) (by omega) (by omega) (by omega)⟩
              · have h8 : w + x + y > z := by omega
                exact ⟨2, 4, 6, 9, by decide, by decide, by decide, by decide, by decide, bas4 w0 (by decide) s0 s1 s2 (by decide) (by decide) (by decide) (by omega) (by omega) (by omega) (by omega) (by omega) (by omega) (by omega) (by omega) (by omega)⟩
          · have h6 : x + y > z := by omega
            rcases tri (w + z) (x + y) with h7 | h7 | h7
            · have h8 : w + x + y > z := by omega
              exact ⟨1, 3, 4, 5, by decide, by decide, by decide, by decide, by decide, bas4 w0 (by decide) s0 s1 s2 (by decide) (by decide) (by decide) (by omega) (by omega) (by omega) (by omega) (by omega) (by omega) (by omega) (by omega) (by omega)⟩
            · have h8 : w + x + y > z := by omega
              exact ⟨1, 2, 3, 4, by decide, by decide, by decide, by decide, by decide, bas4 w0 (by decide) s0 s1 s2 (by decide) (by decide) (by decide) (by omega) (by omega) (by omega) (by omega) (by omega) (by omega) (by omega) (by omega) (by omega)⟩
            · have h8 : w + x + y > z := by omega
              exact ⟨2, 3, 5, 7, by decide, by decide, by decide, by decide, by decide, bas4 w0 (by decide) s0 s1 s2 (by decide) (by decide) (by decide) (by omega) (by omega) (by omega) (by omega) (by omega) (by omega) (by omega) (by omega) (by omega)⟩
          · have h6 : x + y > z := by omega
            rcases tri (w + z) (x + y) with h7 | h7 | h7
            · have h8 : w + x + y > z := by omega
              exact ⟨2, 4, 6, 7, by decide, by decide, by decide, by decide, by decide, bas4 w0 (by decide) s0 s1 s2 (by decide) (by decide) (by decide) (by omega) (by omega) (by omega) (by omega) (by omega) (by omega) (by omega) (by omega) (by omega)⟩
            · have h8 : w + x + y > z := by omega
              exact ⟨2, 3, 5, 6, by decide, by decide, by decide, by decide, by decide, bas4 w0 (by decide) s0 s1 s2 (by decide) (by decide) (by decide) (by omega) (by omega) (by omega) (by omega) (by omega) (by omega) (by omega) (by omega) (by omega)⟩
            · have h8 : w + x + y > z := by omega
              exact ⟨3, 4, 7, 9, by decide, by decide, by decide, by decide, by decide, bas4 w0 (by decide) s0 s1 s2 (by decide) (by decide) (by decide) (by omega) (by omega) (by omega) (by omega) (by omega) (by omega) (by omega) (by omega) (by omega)⟩
        · rcases tri (w + x) (z) with h4 | h4 | h4
          · rcases tri (w + y) (z) with h5 | h5 | h5
            · rcases tri (x + y) (z) with h6 | h6 | h6
              · have h7 : w + z > x + y := by omega
                rcases tri (w + x + y) (z) with h8 | h8 | h8
                · exact ⟨2, 3, 4, 10, by decide, by decide, by decide, by decide, by decide, bas4 w0 (by decide) s0 s1 s2 (by decide) (by decide) (by decide) (by omega) (by omega) (by omega) (by omega) (by omega) (by omega) (by omega) (by omega) (by omega)⟩
                · exact ⟨2, 3, 4, 9, by decide, by decide, by decide, by decide, by decide, bas4 w0 (by decide) s0 s1 s2 (by decide) (by decide) (by decide) (by omega) (by omega) (by omega) (by omega) (by omega) (by omega) (by omega) (by omega) (by omega)⟩
                · exact ⟨2, 3, 4, 8, by decide, by decide, by decide, by decide, by decide, bas4 w0 (by decide) s0 s1 s2 (by decide) (by decide) (by decide) (by omega) (by omega) (by omega) (by omega) (by omega) (by omega) (by omega) (by omega) (by omega)⟩
              · have h7 : w + z > x + y := by omega
                have h8 : w + x + y > z := by omega
                exact ⟨2, 3, 4, 7, by decide, by decide, by decide, by decide, by decide, bas4 w0 (by decide) s0 s1 s2 (by decide) (by decide) (by decide) (by omega) (by omega) (by omega) (by omega) (by omega) (by omega) (by omega) (by omega) (by omega)⟩
              · rcases tri (w + z) (x + y) with h7 | h7 | h7
                · have h8 : w + x + y > z := by omega
                  exact ⟨2, 6, 7, 10, by decide, by decide, by decide, by decide, by decide, bas4 w0 (by decide) s0 s1 s2 (by decide) (by decide) (by decide) (by omega) (by omega) (by omega) (by omega) (by omega) (by omega) (by omega) (by omega) (by omega)⟩
                · have h8 : w + x + y > z := by omega
                  exact ⟨2, 5, 6, 9, by decide, by decide, by decide, by decide, by decide, bas4 w0 (by decide) s0 s1 s2 (by decide) (by decide) (by decide) (by omega) (by omega) (by omega) (by omega) (by omega) (by omega) (by omega) (by omega) (by omega)⟩
                · have h8 : w + x + y > z := by omega
                  exact ⟨2, 4, 5, 8, by decide, by decide, by decide, by decide, by decide, bas4 w0 (by decide) s0 s1 s2 (by decide) (by decide) (by decide) (by omega) (by omega) (by omega) (by omega) (by omega) (by omega) (by omega) (by omega) (by omega)⟩
            · have h6 : x + y > z := by omega
              rcases tri (w + z) (x + y) with h7 | h7 | h7
              · have h8 : w + x + y > z := by omega
                exact ⟨2, 5, 6, 8, by decide, by decide, by decide, by decide, by decide, bas4 w0 (by decide) s0 s1 s2 (by decide) (by decide) (by decide) (by omega) (by omega) (by omega) (by omega) (by omega) (by omega) (by omega) (by omega) (by omega)⟩
              · have h8 : w + x + y > z := by omega
                exact ⟨2, 4, 5, 7, by decide, by decide, by decide, by decide, by decide, bas4 w0 (by decide) s0 s1 s2 (by decide) (by decide) (by decide) (by omega) (by omega) (by omega) (by omega) (by omega) (by omega) (by omega) (by omega) (by omega)⟩
              · have h8 : w + x + y > z := by omega
                exact ⟨2, 3, 4, 6, by decide, by decide, by decide, by decide, by decide, bas4 w0 (by decide) s0 s1 s2 (by decide) (by decide) (by decide) (by omega) (by omega) (by omega) (by omega) (by omega) (by omega) (by omega) (by omega) (by omega)⟩
            · have h6 : x + y > z := by omega
              rcases tri (w + z) (x + y) with h7 | h7 | h7
              · have h8 : w + x + y > z := by omega
                exact ⟨3, 6, 8, 10, by decide, by decide, by decide, by decide, by decide, bas4 w0 (by decide) s0 s1 s2 (by decide) (by decide) (by decide) (by omega) (by omega) (by omega) (by omega) (by omega) (by omega) (by omega) (by omega) (by omega)⟩
              · have h8 : w + x + y > z := by omega
                exact ⟨3, 5, 7, 9, by decide, by decide, by decide, by decide, by decide, bas4 w0 (by decide) s0 s1 s2 (by decide) (by decide) (by decide) (by omega) (by omega) (by omega) (by omega) (by omega) (by omega) (by omega) (by omega) (by omega)⟩
              · have h8 : w + x + y > z := by omega
                exact ⟨3, 4, 6, 8, by decide, by decide, by decide, by decide, by decide, bas4 w0 (by decide) s0 s1 s2 (by decide) (by decide) (by decide) (by omega) (by omega) (by omega) (by omega) (by omega) (by omega) (by omega) (by omega) (by omega)⟩
          · have h5 : w + y > z := by omega
            have h6 : x + y > z := by omega
            rcases tri (w + z) (x + y) with h7 | h7 | h7
            · have h8 : w + x + y > z := by omega
              exact ⟨2, 4, 5, 6, by decide, by decide, by decide, by decide, by decide, bas4 w0 (by decide) s0 s1 s2 (by decide) (by decide) (by decide) (by omega) (by omega) (by omega) (by omega) (by omega) (by omega) (by omega) (by omega) (by omega)⟩
            · have h8 : w + x + y > z := by omega
              exact ⟨2, 3, 4, 5, by decide, by decide, by decide, by decide, by decide, bas4 w0 (by decide) s0 s1 s2 (by decide) (by decide) (by decide) (by omega) (by omega) (by omega) (by omega) (by omega) (by omega) (by omega) (by omega) (by omega)⟩
            · have h8 : w + x + y > z := by omega
              exact ⟨3, 4, 5, 7, by decide, by decide, by decide, by decide, by decide, bas4 w0 (by decide) s0 s1 s2 (by decide) (by decide) (by decide) (by omega) (by omega) (by omega) (by omega) (by omega) (by omega) (by omega) (by omega) (by omega)⟩
          · have h5 : w + y > z := by omega
            have h6 : x + y > z := by omega
            rcases tri (w + z) (x + y) with h7 | h7 | h7
            · have h8 : w + x + y > z := by omega
              exact ⟨3, 5, 6, 7, by decide, by decide, by decide, by decide, by decide, bas4 w0 (by decide) s0 s1 s2 (by decide) (by decide) (by decide) (by omega) (by omega) (by omega) (by omega) (by omega) (by omega) (by omega) (by omega) (by omega)⟩
            · have h8 : w + x + y > z := by omega
              exact ⟨3, 4, 5, 6, by decide, by decide, by decide, by decide, by decide, bas4 w0 (by decide) s0 s1 s2 (by decide) (by decide) (by decide) (by omega) (by omega) (by omega) (by omega) (by omega) (by omega) (by omega) (by omega) (by omega)⟩
            · have h8 : w + x + y > z := by omega
              exact ⟨4, 5, 6, 8, by decide, by decide, by decide, by decide, by decide, bas4 w0 (by decide) s0 s1 s2 (by decide) (by decide) (by decide) (by omega) (by omega) (by omega) (by omega) (by omega) (by omega) (by omega) (by omega) (by omega)⟩
      · rcases tri (w + x) (y) with h3 | h3 | h3
        · have h4 : w + x < z := by omega
          have h5 : w + y > z := by omega
          have h6 : x + y > z := by omega
          have h7 : w + z < x + y := by omega
          have h8 : w + x + y > z := by omega
          exact ⟨1, 2, 4, 4, by decide, by decide, by decide, by decide, by decide, bas4 w0 (by decide) s0 s1 s2 (by decide) (by decide) (by decide) (by omega) (by omega) (by omega) (by omega) (by omega) (by omega) (by omega) (by omega) (by omega)⟩
        · have h4 : w + x = z := by omega
          have h5 : w + y > z := by omega
          have h6 : x + y > z := by omega
          have h7 : w + z < x + y := by omega
          have h8 : w + x + y > z := by omega
          exact ⟨1, 2, 3, 3, by decide, by decide, by decide, by decide, by decide, bas4 w0 (by decide) s0 s1 s2 (by decide) (by decide) (by decide) (by omega) (by omega) (by omega) (by omega) (by omega) (by omega) (by omega) (by omega) (by omega)⟩
        · have h4 : w + x > z := by omega
          have h5 : w + y > z := by omega
          have h6 : x + y > z := by omega
          have h7 : w + z < x + y := by omega
          have h8 : w + x + y > z := by omega
          exact ⟨2, 3, 4, 4, by decide, by decide, by decide, by decide, by decide, bas4 w0 (by decide) s0 s1 s2 (by decide) (by decide) (by decide) (by omega) (by omega) (by omega) (by omega) (by omega) (by omega) (by omega) (by omega) (by omega)⟩
    · rcases (show y < z ∨ y = z by omega) with h2 | h2
      · have h3 : w + x > y := by omega
        rcases tri (w + x) (z) with h4 | h4 | h4
        · have h5 : w + y < z := by omega
          rcases tri (x + y) (z) with h6 | h6 | h6
          · have h7 : w + z > x + y := by omega
            rcases tri (w + x + y) (z) with h8 | h8 | h8
            · exact ⟨1, 2, 2, 6, by decide, by decide, by decide, by decide, by decide, bas4 w0 (by decide) s0 s1 s2 (by decide) (by decide) (by decide) (by omega) (by omega) (by omega) (by omega) (by omega) (by omega) (by omega) (by omega) (by omega)⟩
            · exact ⟨1, 2, 2, 5, by decide, by decide, by decide, by decide, by decide, bas4 w0 (by decide) s0 s1 s2 (by decide) (by decide) (by decide) (by omega) (by omega) (by omega) (by omega) (by omega) (by omega) (by omega) (by omega) (by omega)⟩
            · exact ⟨2, 3, 3, 7, by decide, by decide, by decide, by decide, by decide, bas4 w0 (by decide) s0 s1 s2 (by decide) (by decide) (by decide) (by omega) (by omega) (by omega) (by omega) (by omega) (by omega) (by omega) (by omega) (by omega)⟩
          · have h7 : w + z > x + y := by omega
            have h8 : w + x + y > z := by omega
            exact ⟨1, 2, 2, 4, by decide, by decide, by decide, by decide, by decide, bas4 w0 (by decide) s0 s1 s2 (by decide) (by decide) (by decide) (by omega) (by omega) (by omega) (by omega) (by omega) (by omega) (by omega) (by omega) (by omega)⟩
          · rcases tri (w + z) (x + y) with h7 | h7 | h7
            · have h8 : w + x + y > z := by omega
              exact ⟨1, 4, 4, 6, by decide, by decide, by decide, by decide, by decide, bas4 w0 (by decide) s0 s1 s2 (by decide) (by decide) (by decide) (by omega) (by omega) (by omega) (by omega) (by omega) (by omega) (by omega) (by omega) (by omega)⟩
            · have h8 : w + x + y > z := by omega
              exact ⟨1, 3, 3, 5, by decide, by decide, by decide, by decide, by decide, bas4 w0 (by decide) s0 s1 s2 (by decide) (by decide) (by decide) (by omega) (by omega) (by omega) (by omega) (by omega) (by omega) (by omega) (by omega) (by omega)⟩
            · have h8 : w + x + y > z := by omega
              exact ⟨2, 4, 4, 7, by decide, by decide, by decide, by decide, by decide, bas4 w0 (by decide) s0 s1 s2 (by decide) (by decide) (by decide) (by omega) (by omega) (by omega) (by omega) (by omega) (by omega) (by omega) (by omega) (by omega)⟩
        · have h5 : w + y = z := by omega
          have h6 : x + y > z := by omega
          rcases tri (w + z) (x + y) with h7 | h7 | h7
          · have h8 : w + x + y > z := by omega
            exact ⟨1, 3, 3, 4, by decide, by decide, by decide, by decide, by decide, bas4 w0 (by decide) s0 s1 s2 (by decide) (by decide) (by decide) (by omega) (by omega) (by omega) (by omega) (by omega) (by omega) (by omega) (by omega) (by omega)⟩
          · have h8 : w + x + y > z := by omega
            exact ⟨1, 2, 2, 3, by decide, by decide, by decide, by decide, by decide, bas4 w0 (by decide) s0 s1 s2 (by decide) (by decide) (by decide) (by omega) (by omega) (by omega) (by omega) (by omega) (by omega) (by omega) (by omega) (by omega)⟩
          · have h8 : w + x + y > z := by omega
            exact ⟨2, 3, 3, 5, by decide, by decide, by decide, by decide, by decide, bas4 w0 (by decide) s0 s1 s2 (by decide) (by decide) (by decide) (by omega) (by omega) (by omega) (by omega) (by omega) (by omega) (by omega) (by omega) (by omega)⟩
        · have h5 : w + y > z := by omega
          have h6 : x + y > z := by omega
          rcases tri (w + z) (x + y) with h7 | h7 | h7
          · have h8 : w + x + y > z := by omega
            exact ⟨2, 4, 4, 5, by decide, by decide, by decide, by decide, by decide, bas4 w0 (by decide) s0 s1 s2 (by decide) (by decide) (by decide) (by omega) (by omega) (by omega) (by omega) (by omega) (by omega) (by omega) (by omega) (by omega)⟩
          · have h8 : w + x + y > z := by omega
            exact ⟨2, 3, 3, 4, by decide, by decide, by decide, by decide, by decide, bas4 w0 (by decide) s0 s1 s2 (by decide) (by decide) (by decide) (by omega) (by omega) (by omega) (by omega) (by omega) (by omega) (by omega) (by omega) (by omega)⟩
          · have h8 : w + x + y > z := by omega
            exact ⟨3, 4, 4, 6, by decide, by decide, by decide, by decide, by decide, bas4 w0 (by decide) s0 s1 s2 (by decide) (by decide) (by decide) (by omega) (by omega) (by omega) (by omega) (by omega) (by omega) (by omega) (by omega) (by omega)⟩
      · have h3 : w + x > y := by omega
        have h4 : w + x > z := by omega
        have h5 : w + y > z := by omega
        have h6 : x + y > z := by omega
        have h7 : w + z < x + y := by omega
        have h8 : w + x + y > z := by omega
        exact ⟨1, 2, 2, 2, by decide, by decide, by decide, by decide, by decide, bas4 w0 (by decide) s0 s1 s2 (by decide) (by decide) (by decide) (by omega) (by omega) (by omega) (by omega) (by omega) (by omega) (by omega) (by omega) (by omega)⟩
  · rcases (show x < y ∨ x = y by omega) with h1 | h1
    · rcases (show y < z ∨ y = z by omega) with h2 | h2
      · rcases tri (w + x) (y) with h3 | h3 | h3
        · have h4 : w + x < z := by omega
          rcases tri (w + y) (z) with h5 | h5 | h5
          · have h6 : x + y < z := by omega
            have h7 : w + z > x + y := by omega
            rcases tri (w + x + y) (z) with h8 | h8 | h8
            · exact ⟨1, 1, 3, 6, by decide, by decide, by decide, by decide, by decide, bas4 w0 (by decide) s0 s1 s2 (by decide) (by decide) (by decide) (by omega) (by omega) (by omega) (by omega) (by omega) (by omega) (by omega) (by omega) (by omega)⟩
            · exact ⟨1, 1, 3, 5, by decide, by decide, by decide, by decide, by decide, bas4 w0 (by decide) s0 s1 s2 (by decide) (by decide) (by decide) (by omega) (by omega) (by omega) (by omega) (by omega) (by omega) (by omega) (by omega) (by omega)⟩
            · exact ⟨2, 2, 5, 8, by decide, by decide, by decide, by decide, by decide, bas4 w0 (by decide) s0 s1 s2 (by decide) (by decide) (by decide) (by omega) (by omega) (by omega) (by omega) (by omega) (by omega) (by omega) (by omega) (by omega)⟩
          · have h6 : x + y = z := by omega
            have h7 : w + z > x + y := by omega
            have h8 : w + x + y > z := by omega
            exact ⟨1, 1, 3, 4, by decide, by decide, by decide, by decide, by decide, bas4 w0 (by decide) s0 s1 s2 (by decide) (by decide) (by decide) (by omega) (by omega) (by omega) (by omega) (by omega) (by omega) (by omega) (by omega) (by omega)⟩
          · have h6 : x + y > z := by omega
            have h7 : w + z > x + y := by omega
            have h8 : w + x + y > z := by omega
            exact ⟨2, 2, 5, 6, by decide, by decide, by decide, by decide, by decide, bas4 w0 (by decide) s0 s1 s2 (by decide) (by decide) (by decide) (by omega) (by omega) (by omega) (by omega) (by omega) (by omega) (by omega) (by omega) (by omega)⟩
        · have h4 : w + x < z := by omega
          rcases tri (w + y) (z) with h5 | h5 | h5
          · have h6 : x + y < z := by omega
            have h7 : w + z > x + y := by omega
            rcases tri (w + x + y) (z) with h8 | h8 | h8
            · exact ⟨1, 1, 2, 5, by decide, by decide, by decide, by decide, by decide, bas4 w0 (by decide) s0 s1 s2 (by decide) (by decide) (by decide) (by omega) (by omega) (by omega) (by omega) (by omega) (by omega) (by omega) (by omega) (by omega)⟩
            · exact ⟨1, 1, 2, 4, by decide, by decide, by decide, by decide, by decide, bas4 w0 (by decide) s0 s1 s2 (by decide) (by decide) (by decide) (by omega) (by omega) (by omega) (by omega) (by omega) (by omega) (by omega) (by omega) (by omega)⟩
            · exact ⟨2, 2, 4, 7, by decide, by decide, by decide, by decide, by decide, bas4 w0 (by decide) s0 s1 s2 (by decide) (by decide) (by decide) (by omega) (by omega) (by omega) (by omega) (by omega) (by omega) (by omega) (by omega) (by omega)⟩
          · have h6 : x + y = z := by omega
            have h7 : w + z > x + y := by omega
            have h8 : w + x + y > z := by omega
            exact ⟨1, 1, 2, 3, by decide, by decide, by decide, by decide, by decide, bas4 w0 (by decide) s0 s1 s2 (by decide) (by decide) (by decide) (by omega) (by omega) (by omega) (by omega) (by omega) (by omega) (by omega) (by omega) (by omega)⟩
          · have h6 : x + y > z := by omega
            have h7 : w + z > x + y := by omega
            have h8 : w + x + y > z := by omega
            exact ⟨2, 2, 4, 5, by decide, by decide, by decide, by decide, by decide, bas4 w0 (by decide) s0 s1 s2 (by decide) (by decide) (by decide) (by omega) (by omega) (by omega) (by omega) (by omega) (by omega) (by omega) (by omega) (by omega)⟩
        · rcases tri (w + x) (z) with h4 | h4 | h4
          · rcases tri (w + y) (z) with h5 | h5 | h5
            · have h6 : x + y < z := by omega
              have h7 : w + z > x + y := by omega
              rcases tri (w + x + y) (z) with h8 | h8 | h8
              · exact ⟨2, 2, 3, 8, by decide, by decide, by decide, by decide, by decide, bas4 w0 (by decide) s0 s1 s2 (by decide) (by decide) (by decide) (by omega) (by omega) (by omega) (by omega) (by omega) (by omega) (by omega) (by omega) (by omega)⟩
              · exact ⟨2, 2, 3, 7, by decide, by decide, by decide, by decide, by decide, bas4 w0 (by decide) s0 s1 s2 (by decide) (by decide) (by decide) (by omega) (by omega) (by omega) (by omega) (by omega) (by omega) (by omega) (by omega) (by omega)⟩
              · exact ⟨2, 2, 3, 6, by decide, by decide, by decide, by decide, by decide, bas4 w0 (by decide) s0 s1 s2 (by decide) (by decide) (by decide) (by omega) (by omega) (by omega) (by omega) (by omega) (by omega) (by omega) (by omega) (by omega)⟩
            · have h6 : x + y = z := by omega
              have h7 : w + z > x + y := by omega
              have h8 : w + x + y > z := by omega
              exact ⟨2, 2, 3, 5, by decide, by decide, by decide, by decide, by decide, bas4 w0 (by decide) s0 s1 s2 (by decide) (by decide) (by decide) (by omega) (by omega) (by omega) (by omega) (by omega) (by omega) (by omega) (by omega) (by omega)⟩
            · have h6 : x + y > z := by omega
              have h7 : w + z > x + y := by omega
              have h8 : w + x + y > z := by omega
              exact ⟨3, 3, 5, 7, by decide, by decide, by decide, by decide, by decide, bas4 w0 (by decide) s0 s1 s2 (by decide) (by decide) (by decide) (by omega) (by omega) (by omega) (by omega) (by omega) (by omega) (by omega) (by omega) (by omega)⟩
          · have h5 : w + y > z := by omega
            have h6 : x + y > z := by omega
            have h7 : w + z > x + y := by omega
            have h8 : w + x + y > z := by omega
            exact ⟨2, 2, 3, 4, by decide, by decide, by decide, by decide, by decide, bas4 w0 (by decide) s0 s1 s2 (by decide) (by decide) (by decide) (by omega) (by omega) (by omega) (by omega) (by omega) (by omega) (by omega) (by omega) (by omega)⟩
          · have h5 : w + y > z := by omega
            have h6 : x + y > z := by omega
            have h7 : w + z > x + y := by omega
            have h8 : w + x + y > z := by omega
            exact ⟨3, 3, 4, 5, by decide, by decide, by decide, by decide, by decide, bas4 w0 (by decide) s0 s1 s2 (by decide) (by decide) (by decide) (by omega) (by omega) (by omega) (by omega) (by omega) (by omega) (by omega) (by omega) (by omega)⟩
      · rcases tri (w + x) (y) with h3 | h3 | h3
        · have h4 : w + x < z := by omega
          have h5 : w + y > z := by omega
          have h6 : x + y > z := by omega
          have h7 : w + z = x + y := by omega
          have h8 : w + x + y > z := by omega
          exact ⟨1, 1, 3, 3, by decide, by decide, by decide, by decide, by decide, bas4 w0 (by decide) s0 s1 s2 (by decide) (by decide) (by decide) (by omega) (by omega) (by omega) (by omega) (by omega) (by omega) (by omega) (by omega) (by omega)⟩
        · have h4 : w + x = z := by omega
          have h5 : w + y > z := by omega
          have h6 : x + y > z := by omega
          have h7 : w + z = x + y := by omega
          have h8 : w + x + y > z := by omega
          exact ⟨1, 1, 2, 2, by decide, by decide, by decide, by decide, by decide, bas4 w0 (by decide) s0 s1 s2 (by decide) (by decide) (by decide) (by omega) (by omega) (by omega) (by omega) (by omega) (by omega) (by omega) (by omega) (by omega)⟩
        · have h4 : w + x > z := by omega
          have h5 : w + y > z := by omega
          have h6 : x + y > z := by omega
          have h7 : w + z = x + y := by omega
          have h8 : w + x + y > z := by omega
          exact ⟨2, 2, 3, 3, by decide, by decide, by decide, by decide, by decide, bas4 w0 (by decide) s0 s1 s2 (by decide) (by decide) (by decide) (by omega) (by omega) (by omega) (by omega) (by omega) (by omega) (by omega) (by omega) (by omega)⟩
    · rcases (show y < z ∨ y = z by omega) with h2 | h2
      · have h3 : w + x > y := by omega
        rcases tri (w + x) (z) with h4 | h4 | h4
        · have h5 : w + y < z := by omega
          have h6 : x + y < z := by omega
          have h7 : w + z > x + y := by omega
          rcases tri (w + x + y) (z) with h8 | h8 | h8
          · exact ⟨1, 1, 1, 4, by decide, by decide, by decide, by decide, by decide, bas4 w0 (by decide) s0 s1 s2 (by decide) (by decide) (by decide) (by omega) (by omega) (by omega) (by omega) (by omega) (by omega) (by omega) (by omega) (by omega)⟩
          · exact ⟨1, 1, 1, 3, by decide, by decide, by decide, by decide, by decide, bas4 w0 (by decide) s0 s1 s2 (by decide) (by decide) (by decide) (by omega) (by omega) (by omega) (by omega) (by omega) (by omega) (by omega) (by omega) (by omega)⟩
          · exact ⟨2, 2, 2, 5, by decide, by decide, by decide, by decide, by decide, bas4 w0 (by decide) s0 s1 s2 (by decide) (by decide) (by decide) (by omega) (by omega) (by omega) (by omega) (by omega) (by omega) (by omega) (by omega) (by omega)⟩
        · have h5 : w + y = z := by omega
          have h6 : x + y = z := by omega
          have h7 : w + z > x + y := by omega
          have h8 : w + x + y > z := by omega
          exact ⟨1, 1, 1, 2, by decide, by decide, by decide, by decide, by decide, bas4 w0 (by decide) s0 s1 s2 (by decide) (by decide) (by decide) (by omega) (by omega) (by omega) (by omega) (by omega) (by omega) (by omega) (by omega) (by omega)⟩
        · have h5 : w + y > z := by omega
          have h6 : x + y > z := by omega
          have h7 : w + z > x + y := by omega
          have h8 : w + x + y > z := by omega
          exact ⟨2, 2, 2, 3, by decide, by decide, by decide, by decide, by decide, bas4 w0 (by decide) s0 s1 s2 (by decide) (by decide) (by decide) (by omega) (by omega) (by omega) (by omega) (by omega) (by omega) (by omega) (by omega) (by omega)⟩
      · have h3 : w + x > y := by omega
        have h4 : w + x > z := by omega
        have h5 : w + y > z := by omega
        have h6 : x + y > z := by omega
        have h7 : w + z = x + y := by omega
        have h8 : w + x + y > z := by omega
        exact ⟨1, 1, 1, 1, by decide, by decide, by decide, by decide, by decide, bas4 w0 (by decide) s0 s1 s2 (by decide) (by decide) (by decide) (by omega) (by omega) (by omega) (by omega) (by omega) (by omega) (by omega) (by omega) (by omega)⟩
theorem Same4.sw0 {w x y z p q r s : Int} (h : Same4 x w y z q p r s) : Same4 w x y z p q r s := fun a b c d ha hb hc hd => by
  have := h b a c d hb ha hc hd
  rw [Int.add_comm (b * x) (a * w), Int.add_comm (b * q) (a * p)] at this
  exact this
theorem Same4.sw1 {w x y z p q r s : Int} (h : Same4 w y x z p r q s) : Same4 w x y z p q r s := fun a b c d ha hb hc hd => by
  have := h a c b d ha hc hb hd
  rw [Int.add_right_comm (a * w) (c * y) (b * x), Int.add_right_comm (a * p) (c * r) (b * q)] at this
  exact this
theorem Same4.sw2 {w x y z p q r s : Int} (h : Same4 w x z y p q s r) : Same4 w x y z p q r s := fun a b c d ha hb hc hd => by
  have := h a b d c ha hb hd hc
  rw [Int.add_right_comm (a * w + b * x) (d * z) (c * y), Int.add_right_comm (a * p + b * q) (d * s) (c * r)] at this
  exact this
def Sml4 (w x y z : Int) : Prop := ∃ p q r s : Int, 0 < p ∧ 0 < q ∧ 0 < r ∧ 0 < s ∧ p + q + r + s ≤ 27 ∧ Same4 w x y z p q r s
theorem Sml4.sw0 {w x y z : Int} (h : Sml4 x w y z) : Sml4 w x y z := let ⟨p, q, r, s, a, b, c, d, e, f⟩ := h; ⟨q, p, r, s, b, a, c, d, by omega, f.sw0⟩
theorem Sml4.sw1 {w x y z : Int} (h : Sml4 w y x z) : Sml4 w x y z := let ⟨p, q, r, s, a, b, c, d, e, f⟩ := h; ⟨p, r, q, s, a, c, b, d, by omega, f.sw1⟩
theorem Sml4.sw2 {w x y z : Int} (h : Sml4 w x z y) : Sml4 w x y z := let ⟨p, q, r, s, a, b, c, d, e, f⟩ := h; ⟨p, q, s, r, a, b, d, c, by omega, f.sw2⟩
theorem sml_in {w x y z : Int} (w0 : 0 < w) (x0 : 0 < x) (s1 : x ≤ y) (s2 : y ≤ z) : Sml4 w x y z := by
  by_cases h0 : w ≤ x
  · exact small4s w0 h0 s1 s2
  · refine Sml4.sw0 ?_
    by_cases h1 : w ≤ y
    · exact small4s x0 (by omega) h1 s2
    · refine Sml4.sw1 ?_
      by_cases h2 : w ≤ z
      · exact small4s x0 s1 (by omega) h2
      · exact Sml4.sw2 (small4s x0 s1 s2 (by omega))
theorem sml_in2 {w x y z : Int} (w0 : 0 < w) (x0 : 0 < x) (y0 : 0 < y) (s2 : y ≤ z) : Sml4 w x y z := by
  by_cases h1 : x ≤ y
  · exact sml_in w0 x0 h1 s2
  · refine Sml4.sw1 ?_
    by_cases h2 : x ≤ z
    · exact sml_in w0 y0 (by omega) h2
    · exact Sml4.sw2 (sml_in w0 y0 s2 (by omega))
theorem small4 {w x y z : Int} (w0 : 0 < w) (x0 : 0 < x) (y0 : 0 < y) (z0 : 0 < z) : Sml4 w x y z := by
  by_cases h : y ≤ z
  · exact sml_in2 w0 x0 y0 h
  · exact Sml4.sw2 (sml_in2 w0 x0 z0 (by omega))
end Lq
end
section
set_option Elab.async false
set_option linter.all false
set_option maxRecDepth 100000
namespace Lq
open PySem PySem.Spec PyProof.Rows L2
open Sx (at0 si)
def awF : Nat → Fn
  | 0 => runF 5 sBar
  | n + 1 => runF 5 (awB (awF n))
def lwBF (aw : Fn) : XS :=
    (sSeq (sFor (iVal (eCall 2 aw (aCons (eVar 0) (aCons (eVar 2) aNil)))) (gNm 3) (sIf (tE (eCall 2 p_do_agree (aCons (eVar 1) (aCons (eVar 3) aNil)))) (sRet (eVar 3)) sNil))
    (sSet 2 (eBin oAdd (eVar 2) (eC (.int 1)))))
def lwF (aw : Fn) : Fn := runF 4
    (sSeq (sDrop (eCall 2 p_check_told (aCons (eVar 0) (aCons (eVar 1) aNil))))
    (sSeq (sIf (tE (eBin oGtI (eVar 0) (eC (.int 4)))) (sRaise "TooMany") sNil)
    (sSeq (sIf (tE (eBin oIsN (eBin oIx (eCall 2 p_solved (aCons (eVar 0) (aCons (eVar 1) aNil))) (eC (.int 1))) (eC .non))) (sRet (eC .non)) sNil)
    (sSeq (sSet 2 (eVar 0))
    (sWhile (tE (eC (.bl true))) (lwBF aw) 1099511627776)))))
theorem all_len4 {k t : Nat} (h1 : 1 ≤ k) (h4 : k ≤ 4) (ht : t ≤ 27) : (allL k t).length ≤ 2600 := by
  have a : k = 1 ∨ k = 2 ∨ k = 3 ∨ k = 4 := by omega
  have key : ∀ k, k ∈ [1, 2, 3, 4] → ∀ t, t < 28 → (allL k t).length ≤ 2600 := by decide +kernel
  exact key k (by rcases a with rfl | rfl | rfl | rfl <;> decide) t (by omega)
def AwOk4 (f : Fn) (k : Nat) : Prop := ∀ (t : Nat) (st : Store), k ≤ t → t ≤ 27 → Ok (f [.int (k : Int), .int (t : Int)] st) fun v s => v = .lst ((allL k t).map tI) ∧ Keeps [] st s
theorem aw4_one (callee : Fn) : AwOk4 (runF 5 (awB callee)) 1 := by
  intro t st h1 h9
  unfold runF awB
  rw [ok_retF]
  simp only [env0, List.map_cons, List.map_nil, List.length_cons, List.length_nil, Nat.reduceAdd, Nat.reduceSub, List.reduceReplicate, List.cons_append, List.nil_append]
  simp only [wkA, List.set_cons_zero, List.set_cons_succ, Option.some.injEq, exists_eq_left', exists_eq_left, List.length_cons, List.length_nil, Nat.reduceAdd, Nat.reduceLeDiff, true_and, and_true, if_true, Bool.not_true, Bool.not_false, Bool.false_eq_true, if_false, decide_eq_true_eq, List.cons.injEq, ↓reduceIte]
  rw [if_pos (by decide)]
  exact ⟨rfl, Keeps.refl _ _⟩
theorem aw4_step (callee : Fn) {k : Nat} (h1 : 1 ≤ k) (h2 : k ≤ 3) (hc : AwOk4 callee k) : AwOk4 (runF 5 (awB callee)) (k + 1) := by
  intro t st hk h9
  have sz := szl
  unfold runF awB
  rw [ok_retF]
  simp only [env0, List.map_cons, List.map_nil, List.length_cons, List.length_nil, Nat.reduceAdd, Nat.reduceSub, List.reduceReplicate, List.cons_append, List.nil_append]
  simp only [wkA, List.set_cons_zero, List.set_cons_succ, Option.some.injEq, exists_eq_left', exists_eq_left, List.length_cons, List.length_nil, Nat.reduceAdd, Nat.reduceLeDiff, true_and, and_true, if_true, Bool.not_true, Bool.not_false, Bool.false_eq_true, if_false, decide_eq_true_eq, List.cons.injEq, ↓reduceIte]
  rw [if_neg (by simp; omega)]
  rw [nxK_nx]
  simp only [wkA, List.set_cons_zero, List.set_cons_succ, Option.some.injEq, exists_eq_left', exists_eq_left, List.length_cons, List.length_nil, Nat.reduceAdd, Nat.reduceLeDiff, true_and, and_true, if_true, Bool.not_true, Bool.not_false, Bool.false_eq_true, if_false, decide_eq_true_eq, List.cons.injEq, ↓reduceIte]
  rw [nxK_nx]
  rw [ok_seq, ok_for]
  simp only [wkA, List.set_cons_zero, List.set_cons_succ, Option.some.injEq, exists_eq_left', exists_eq_left, List.length_cons, List.length_nil, Nat.reduceAdd, Nat.reduceLeDiff, true_and, and_true, if_true, Bool.not_true, Bool.not_false, Bool.false_eq_true, if_false, decide_eq_true_eq, List.cons.injEq, ↓reduceIte]
  refine ⟨⟨by decide, by unfold okR; simp; omega, by omega⟩, ?_⟩
  have rn : ((t : Int) - ((k + 1 : Nat) : Int) + 2 - 1).toNat = t - k := by omega
  rw [rn]
  let part (i : Nat) : List (List Int) := (List.range i).flatMap fun (i : Nat) => (allL k (t - (i + 1))).map fun r => ((i : Int) + 1) :: r
  have pl : ∀ i, i ≤ 27 → (part i).length ≤ 100000 := fun i hi => by
    show (List.flatMap _ _).length ≤ 100000
    rw [List.length_flatMap]
    have : ∀ n, n ≤ 27 → ((List.range n).map fun (i : Nat) => ((allL k (t - (i + 1))).map fun r => ((i : Int) + 1) :: r).length).sum ≤ n * 2600 := fun n hn => by
      induction n with
      | zero => simp
      | succ n ih =>
        rw [List.range_succ, List.map_append, List.sum_append]
        have := ih (by omega)
        have := all_len4 (k := k) (t := t - (n + 1)) h1 (by omega) (by omega)
        simp
        simp at this ih
        omega
    have := this i hi
    omega
  refine ok_loop (fun i e s' => (∃ y3, e = [some (.int ((k + 1 : Nat) : Int)), some (.int (t : Int)), some (.own st.length), y3, none]) ∧ Keeps [] st s' ∧ s'[st.length]? = some (.lst ((part i).map tI))) _ 0 _ _ ?_ ⟨⟨_, rfl⟩, Keeps.app _ _ _, by simp [part]⟩ ?_
  · rintro i x hx e s1 ⟨⟨y3, rfl⟩, K1, C1⟩
    have hi : i < t - k := by
      have := (List.getElem?_eq_some_iff.mp hx).1
      simpa [rng] using this
    rw [rng_get hi] at hx
    cases hx
    rw [Nat.zero_add] at C1 ⊢
    rw [ok_gNm, ok_drop, ok_lm]
    simp only [wkA, List.set_cons_zero, List.set_cons_succ, Option.some.injEq, exists_eq_left', exists_eq_left, List.length_cons, List.length_nil, Nat.reduceAdd, Nat.reduceLeDiff, true_and, and_true, if_true, Bool.not_true, Bool.not_false, Bool.false_eq_true, if_false, decide_eq_true_eq, List.cons.injEq, ↓reduceIte]
    refine ⟨st.length, _, rfl, C1, ?_⟩
    have e1 : ((k + 1 : Nat) : Int) - 1 = (k : Int) := by omega
    have e2 : (t : Int) - (1 + (i : Int)) = ((t - (i + 1) : Nat) : Int) := by omega
    rw [e1, e2]
    refine (hc (t - (i + 1)) s1 (by omega) (by omega)).mono fun v s2 hh => ?_
    obtain ⟨rfl, K2⟩ := hh
    refine ⟨_, rfl, ?_⟩
    refine ok_mapE tI (fun r => tI (((i : Int) + 1) :: r)) (fun r hr => ?_) ?_
    · simp only [wipeE]
      simp only [wkA, List.set_cons_zero, List.set_cons_succ, Option.some.injEq, exists_eq_left', exists_eq_left, List.length_cons, List.length_nil, Nat.reduceAdd, Nat.reduceLeDiff, true_and, and_true, if_true, Bool.not_true, Bool.not_false, Bool.false_eq_true, if_false, decide_eq_true_eq, List.cons.injEq, ↓reduceIte]
      have rl := (all_ok h1 (by omega) hr).1
      have e3 : oAdd (.tup [.int (1 + (i : Int))]) (tI r) s2 = some (tI (((i : Int) + 1) :: r)) := by
        unfold tI
        rw [add_tup _ _ _ (by simp; omega), Int.add_comm 1 (i : Int)]
        rfl
      exact Op.of e3 rfl
    · have C2 : s2[st.length]? = some (.lst ((part i).map tI)) := by
        rw [K2.2 _ (List.getElem?_eq_some_iff.mp C1).1 (by simp)]; exact C1
      have h100 := all_len4 (k := k) (t := t - (i + 1)) h1 (by omega) (by omega)
      have hp := pl i (by omega)
      have g := goExt_ok (xs := (part i).map tI) (ys := (allL k (t - (i + 1))).map fun r => tI (((i : Int) + 1) :: r)) s2 (by simp; omega)
      refine ⟨_, _, _, C2, g, ⟨_, rfl⟩, (K1.trans K2).set (.inl (Nat.le_refl _)) _, ?_⟩
      rw [st_set C2, if_pos rfl]
      have : part (i + 1) = part i ++ (allL k (t - (i + 1))).map fun r => ((i : Int) + 1) :: r := by
        show List.flatMap _ _ = _
        rw [List.range_succ, List.flatMap_append]
        simp [part]
      rw [this, List.map_append, List.map_map]
      rfl
  · rintro e s1 ⟨⟨y3, rfl⟩, K1, C1⟩
    have ll : 0 + (rng 1 (t - k)).length = t - k := by simp [rng]
    rw [ll] at C1
    rw [nxK_nx]
    simp only [wkA, List.set_cons_zero, List.set_cons_succ, Option.some.injEq, exists_eq_left', exists_eq_left, List.length_cons, List.length_nil, Nat.reduceAdd, Nat.reduceLeDiff, true_and, and_true, if_true, Bool.not_true, Bool.not_false, Bool.false_eq_true, if_false, decide_eq_true_eq, List.cons.injEq, ↓reduceIte]
    simp only [C1]
    refine ⟨?_, K1.set (.inl (Nat.le_refl _)) _⟩
    have e : allL (k + 1) t = part (t - k) := by
      obtain ⟨k', rfl⟩ : ∃ k', k = k' + 1 := ⟨k - 1, by omega⟩
      rfl
    rw [e]
theorem aw4_sp : ∀ {k n : Nat}, 1 ≤ k → k ≤ 4 → k ≤ n → AwOk4 (awF n) k
  | 0, _, h, _, _ => absurd h (by omega)
  | k + 1, 0, _, _, h => absurd h (by omega)
  | 1, n + 1, _, _, _ => aw4_one _
  | k + 2, n + 1, _, h4, hn => aw4_step _ (by omega) (by omega) (aw4_sp (k := k + 1) (n := n) (by omega) (by omega) (by omega))
theorem small_fe4 {k : Nat} {told : List Cp} (h1 : 1 ≤ k) (h4 : k ≤ 4) (h : Valid k told) (f : Fe k told) : ∃ x : List Int, x.length = k ∧ (∀ v, v ∈ x → 1 ≤ v) ∧ x.sum ≤ 27 ∧ agB x told = true := by
  by_cases h3 : k ≤ 3
  · obtain ⟨x, a, b, c, d⟩ := small_fe h1 h3 h f
    exact ⟨x, a, b, by omega, d⟩
  · have : k = 4 := by omega
    subst this
    obtain ⟨w, wp, wa⟩ := f
    obtain ⟨p, q, r, s, hp, hq, hr, hs, hz, sm⟩ := small4 (wp 0 (by omega)) (wp 1 (by omega)) (wp 2 (by omega)) (wp 3 (by omega))
    refine ⟨[p, q, r, s], rfl, fun v hv => by simp at hv; omega, by simp; omega, (ag_iff [p, q, r, s] h).mpr fun c hc => ?_⟩
    refine hold_same ?_ (wa c hc)
    have := sm (c.c 0) (c.c 1) (c.c 2) (c.c 3) (cc_tri c 0) (cc_tri c 1) (cc_tri c 2) (cc_tri c 3)
    unfold dif
    simp only [si, at0, List.getD_cons_zero, List.getD_cons_succ]
    simpa using this
structure Lst (k : Nat) (told : List Cp) (t i : Nat) (w : List Int) : Prop where
  ht : k ≤ t
  at_ : (allL k t)[i]? = some w
  ag : agB w told = true
  low : ∀ t', k ≤ t' → t' < t → ∀ x, x ∈ allL k t' → agB x told = false
  first : ∀ j x, j < i → (allL k t)[j]? = some x → agB x told = false
theorem Lst.same {k : Nat} {told : List Cp} {t i t' i' : Nat} {w w' : List Int} (L : Lst k told t i w) (L' : Lst k told t' i' w') : t = t' ∧ i = i' ∧ w = w' := by
  have no : ∀ {x : List Int}, agB x told = true → agB x told = false → False := fun a b => by rw [a] at b; cases b
  rcases Nat.lt_trichotomy t t' with z | z | z
  · exact (no L.ag (L'.low t L.ht z w (List.mem_of_getElem? L.at_))).elim
  · subst z
    rcases Nat.lt_trichotomy i i' with y | y | y
    · exact (no L.ag (L'.first i w y L.at_)).elim
    · subst y
      have e := L.at_
      rw [L'.at_] at e
      exact ⟨rfl, rfl, (Option.some.inj e).symm⟩
    · exact (no L'.ag (L.first i' w' y L'.at_)).elim
  · exact (no L'.ag (L.low t' L'.ht z w' (List.mem_of_getElem? L'.at_))).elim
theorem Lst.len {k : Nat} {told : List Cp} {t i : Nat} {w : List Int} (h1 : 1 ≤ k) (L : Lst k told t i w) : w.length = k ∧ (∀ x, x ∈ w → 1 ≤ x) ∧ w.sum = (t : Int) := all_ok h1 L.ht (List.mem_of_getElem? L.at_)
theorem Lst.min {k : Nat} {told : List Cp} {t i : Nat} {w : List Int} (h1 : 1 ≤ k) (L : Lst k told t i w) {x : List Int} (xl : x.length = k) (xp : ∀ v, v ∈ x → 1 ≤ v) (xa : agB x told = true) : w.sum ≤ x.sum := by
  have g := sum_ge xp
  have e := (L.len h1).2.2
  by_cases z : w.sum ≤ x.sum
  · exact z
  · have := L.low x.sum.toNat (by omega) (by omega) x (all_mem h1 xl xp (by omega))
    rw [this] at xa
    cases xa
theorem lw4_turn {k n : Nat} {told : List Cp} {t : Nat} {s : Store} {y : Option PV} (h1 : 1 ≤ k) (h4 : k ≤ 4) (hn : k ≤ n) (h : Valid k told) (hk : k ≤ t) (h9 : t ≤ 27) (low : ∀ t', k ≤ t' → t' < t → ∀ x, x ∈ allL k t' → agB x told = false) :
    Ok (lwBF (awF n) [some (.int (k : Int)), some (toldV told), some (.int (t : Int)), y] s) fun fl s' => ((∃ i w, fl = .rt (tI w) ∧ Lst k told t i w) ∨ (∃ y', fl = .nx [some (.int (k : Int)), some (toldV told), some (.int ((t + 1 : Nat) : Int)), y']) ∧ ∀ x, x ∈ allL k t → agB x told = false) ∧ Keeps [] s s' := by
  unfold lwBF
  rw [ok_seq, ok_for]
  simp only [wkA, List.set_cons_zero, List.set_cons_succ, Option.some.injEq, exists_eq_left', exists_eq_left, List.length_cons, List.length_nil, Nat.reduceAdd, Nat.reduceLeDiff, true_and, and_true, if_true, Bool.not_true, Bool.not_false, Bool.false_eq_true, if_false, decide_eq_true_eq, List.cons.injEq, ↓reduceIte]
  refine (aw4_sp h1 h4 hn t s hk h9).mono fun v s1 hh => ?_
  obtain ⟨rfl, K1⟩ := hh
  refine ⟨_, rfl, ?_⟩
  refine ok_loop (fun i e s' => (∃ y3, e = [some (.int (k : Int)), some (toldV told), some (.int (t : Int)), y3]) ∧ Keeps [] s s' ∧ ∀ j x, j < i → (allL k t)[j]? = some x → agB x told = false) _ 0 _ _ ?_ ⟨⟨_, rfl⟩, K1, fun j x hj => by omega⟩ ?_
  · rintro i x hx e s2 ⟨⟨y3, rfl⟩, K2, A⟩
    rw [Nat.zero_add] at A ⊢
    rw [List.getElem?_map] at hx
    obtain ⟨w, hw, rfl⟩ := Option.map_eq_some_iff.mp hx
    have wl := (all_ok h1 hk (List.mem_of_getElem? hw)).1
    simp only [wkA, List.set_cons_zero, List.set_cons_succ, Option.some.injEq, exists_eq_left', exists_eq_left, List.length_cons, List.length_nil, Nat.reduceAdd, Nat.reduceLeDiff, true_and, and_true, if_true, Bool.not_true, Bool.not_false, Bool.false_eq_true, if_false, decide_eq_true_eq, List.cons.injEq, ↓reduceIte]
    have da := do_agree_sp (ws := w) (told := told) (by rw [wl]; exact h) s2
    have da' : p_do_agree [toldV told, tI w] s2 = .ok (.bl (agB w told)) s2 := da
    rw [Ok.eq da']
    cases q : agB w told with
    | true =>
      simp only [if_true]
      exact ⟨.inl ⟨i, w, rfl, hk, hw, q, low, A⟩, K2⟩
    | false =>
      simp only [Bool.false_eq_true, if_false]
      refine ⟨⟨_, rfl⟩, K2, fun j x hj hx => ?_⟩
      by_cases z : j = i
      · rw [z, hw] at hx; cases hx; exact q
      · exact A j x (by omega) hx
  · rintro e s2 ⟨⟨y3, rfl⟩, K2, A⟩
    rw [nxK_nx]
    simp only [wkA, List.set_cons_zero, List.set_cons_succ, Option.some.injEq, exists_eq_left', exists_eq_left, List.length_cons, List.length_nil, Nat.reduceAdd, Nat.reduceLeDiff, true_and, and_true, if_true, Bool.not_true, Bool.not_false, Bool.false_eq_true, if_false, decide_eq_true_eq, List.cons.injEq, ↓reduceIte]
    refine ⟨.inr ⟨⟨_, rfl⟩, fun x hx => ?_⟩, K2⟩
    obtain ⟨j, hj⟩ := List.mem_iff_getElem?.mp hx
    exact A j x (by have := (List.getElem?_eq_some_iff.mp hj).1; simpa using this) hj
theorem lw4_loop {k q : Nat} {told : List Cp} (h1 : 1 ≤ k) (h4 : k ≤ 4) (hq : k ≤ q) (h : Valid k told) (f : Fe k told) : ∀ (n : Nat) (t : Nat) (s : Store) (y : Option PV), t + n = 28 → k ≤ t → (∀ t', k ≤ t' → t' < t → ∀ x, x ∈ allL k t' → agB x told = false) → ∀ m, n ≤ m →
    Ok (sWhile (tE (eC (.bl true))) (lwBF (awF q)) m [some (.int (k : Int)), some (toldV told), some (.int (t : Int)), y] s) fun fl s' => (∃ t' i w, fl = .rt (tI w) ∧ Lst k told t' i w) ∧ Keeps [] s s'
  | 0, t, s, y, hn, hk, low, m, hm => by
    exfalso
    obtain ⟨x, xl, xp, xs, xa⟩ := small_fe4 h1 h4 h f
    have := sum_ge xp
    have := low x.sum.toNat (by omega) (by omega) x (all_mem h1 xl xp (by omega))
    rw [this] at xa
    cases xa
  | n + 1, t, s, y, hn, hk, low, m, hm => by
    obtain ⟨m', rfl⟩ : ∃ m', m = m' + 1 := ⟨m - 1, by omega⟩
    refine ok_while ?_
    rw [ok_tE, ok_C]
    refine Ok.mono (r := _) (lw4_turn h1 h4 hq h hk (by omega) low) fun fl s2 hh => ?_
    obtain ⟨hh, K⟩ := hh
    rcases hh with ⟨i, w, rfl, L⟩ | ⟨⟨y', rfl⟩, no⟩
    · exact ⟨⟨t, i, w, rfl, L⟩, K⟩
    · refine (lw4_loop h1 h4 hq h f n (t + 1) s2 y' (by omega) (by omega) (fun t' a b x hx => ?_) m' (by omega)).mono fun fl s3 hh => ⟨hh.1, K.trans hh.2⟩
      by_cases z : t' = t
      · subst z; exact no x hx
      · exact low t' a (by omega) x hx
def LeastV (k : Nat) (told : List Cp) (v : PV) : Prop := (¬ Fe k told ∧ v = .non) ∨ (Fe k told ∧ ∃ t i w, v = tI w ∧ Lst k told t i w)
theorem LeastV.same {k : Nat} {told : List Cp} {v v' : PV} (h : LeastV k told v) (h' : LeastV k told v') : v = v' := by
  rcases h with ⟨a, b⟩ | ⟨a, t, i, w, b, L⟩ <;> rcases h' with ⟨a', b'⟩ | ⟨a', t', i', w', b', L'⟩
  · rw [b, b']
  · exact absurd a' a
  · exact absurd a a'
  · rw [b, b', (L.same L').2.2]
theorem least_sp {k q : Nat} {told : List Cp} (h1 : 1 ≤ k) (h4 : k ≤ 4) (hq : k ≤ q) (h : Valid k told) (hl : told.length ≤ 8) (st : Store) : Ok (lwF (awF q) [.int (k : Int), toldV told] st) fun v s => LeastV k told v ∧ Keeps [] st s := by
  (unfold lwF runF; rw [ok_retF]; simp only [env0, List.map_cons, List.map_nil, List.length_cons, List.length_nil, Nat.reduceAdd, Nat.reduceSub, List.reduceReplicate, List.cons_append, List.nil_append])
  simp only [wkA, List.set_cons_zero, List.set_cons_succ, Option.some.injEq, exists_eq_left', exists_eq_left, List.length_cons, List.length_nil, Nat.reduceAdd, Nat.reduceLeDiff, true_and, and_true, if_true, Bool.not_true, Bool.not_false, Bool.false_eq_true, if_false, decide_eq_true_eq, List.cons.injEq, ↓reduceIte]
  rw [Ok.eq (check_told_sp h1 (by omega) h hl st)]
  rw [nxK_nx]
  simp only [wkA, List.set_cons_zero, List.set_cons_succ, Option.some.injEq, exists_eq_left', exists_eq_left, List.length_cons, List.length_nil, Nat.reduceAdd, Nat.reduceLeDiff, true_and, and_true, if_true, Bool.not_true, Bool.not_false, Bool.false_eq_true, if_false, decide_eq_true_eq, List.cons.injEq, ↓reduceIte]
  rw [if_neg (by omega)]
  rw [nxK_nx]
  simp only [wkA, List.set_cons_zero, List.set_cons_succ, Option.some.injEq, exists_eq_left', exists_eq_left, List.length_cons, List.length_nil, Nat.reduceAdd, Nat.reduceLeDiff, true_and, and_true, if_true, Bool.not_true, Bool.not_false, Bool.false_eq_true, if_false, decide_eq_true_eq, List.cons.injEq, ↓reduceIte]
  refine ((sol_spec h1 (by omega) (by omega)).2 st).mono fun v s hh => ?_
  obtain ⟨rfl, K⟩ := hh
  refine Op.of (sol_ix h1 (by omega) (by omega) s).2 (Op.of (isN_iff _ _) ?_)
  have pn := (part_non h1 (show k ≤ 5 by omega) (show told.length ≤ 9 by omega)).1
  by_cases f : Fe k told
  · simp only [pn, f, not_true, decide_false, Bool.false_eq_true, if_false]
    rw [nxK_nx]
    simp only [wkA, List.set_cons_zero, List.set_cons_succ, Option.some.injEq, exists_eq_left', exists_eq_left, List.length_cons, List.length_nil, Nat.reduceAdd, Nat.reduceLeDiff, true_and, and_true, if_true, Bool.not_true, Bool.not_false, Bool.false_eq_true, if_false, decide_eq_true_eq, List.cons.injEq, ↓reduceIte]
    rw [nxK_nx]
    refine (lw4_loop h1 h4 hq h f (28 - k) k s none (by omega) (Nat.le_refl _) (fun t' a b => by omega) 1099511627776 (by omega)).mono fun fl s2 hh => ?_
    obtain ⟨⟨t', i, w, rfl, L⟩, K2⟩ := hh
    exact ⟨.inr ⟨f, t', i, w, rfl, L⟩, K.trans K2⟩
  · simp only [pn, f, not_false_eq_true, decide_true, if_true]
    exact ⟨.inl ⟨f, rfl⟩, K⟩
end Lq
end
section
set_option Elab.async false
set_option linter.all false
set_option maxRecDepth 100000
namespace Lq
open PySem PySem.Spec PyProof.Rows L2
open Sx (at0 si)
theorem at0_in {w : List Int} {t : Nat} (h : t < w.length) : at0 w t ∈ w := by
  have e : at0 w t = w[t] := by simp [at0, List.getD_eq_getElem?_getD, h]
  rw [e]
  exact List.getElem_mem h
inductive Crt where
  | y (w : List Int) | n (v : List Int)
def Crt.b : Crt → Bool
  | .y _ => true
  | .n _ => false
end Lq
end
section
set_option Elab.async false
set_option linter.all false
set_option maxRecDepth 100000
namespace Lq
open PySem PySem.Spec PyProof.Rows L2
open Sx (at0 si)
def insN (x : Nat) : List Nat → List Nat
  | [] => [x]
  | y :: r => if y < x then y :: insN x r else x :: y :: r
def srtN : List Nat → List Nat
  | [] => []
  | x :: xs => insN x (srtN xs)
theorem insN_perm (x : Nat) : ∀ l, (insN x l).Perm (x :: l)
  | [] => List.Perm.refl _
  | y :: r => by
    rw [insN]
    split
    · exact ((insN_perm x r).cons y).trans (List.Perm.swap x y r)
    · exact List.Perm.refl _
theorem srtN_perm : ∀ l, (srtN l).Perm l
  | [] => List.Perm.refl _
  | x :: xs => (insN_perm x _).trans ((srtN_perm xs).cons x)
theorem insN_lt {x : Nat} : ∀ {l : List Nat}, l.Pairwise (· < ·) → x ∉ l → (insN x l).Pairwise (· < ·)
  | [], _, _ => List.pairwise_singleton _ _
  | y :: r, h, hx => by
    obtain ⟨h1, h2⟩ := List.pairwise_cons.mp h
    rw [insN]
    split
    · rename_i c
      refine List.pairwise_cons.mpr ⟨fun z hz => ?_, insN_lt h2 fun m => hx (by simp [m])⟩
      rcases List.mem_cons.mp ((insN_perm x r).mem_iff.mp hz) with e | e
      · omega
      · exact h1 z e
    · rename_i c
      have ne : x ≠ y := fun e => hx (by simp [e])
      refine List.pairwise_cons.mpr ⟨fun z hz => ?_, h⟩
      rcases List.mem_cons.mp hz with e | e
      · omega
      · have := h1 z e; omega
theorem srtN_lt : ∀ {l : List Nat}, l.Nodup → (srtN l).Pairwise (· < ·)
  | [], _ => List.Pairwise.nil
  | x :: xs, h => by
    obtain ⟨h1, h2⟩ := List.nodup_cons.mp h
    exact insN_lt (srtN_lt h2) fun m => h1 ((srtN_perm xs).mem_iff.mp m)
theorem pins_nat (x : Nat) : ∀ l : List Nat, pins (.int (x : Int)) (natsV l) = natsV (insN x l)
  | [] => rfl
  | y :: r => by
    show pins (.int (x : Int)) (.int (y : Int) :: natsV r) = _
    rw [pins, insN]
    have e : plt (.int (y : Int)) (.int (x : Int)) = decide (y < x) := by
      rw [plt]
      exact decide_eq_decide.mpr (by omega)
    rw [e]
    by_cases c : y < x
    · rw [if_pos c, if_pos (by simpa using c), pins_nat x r]; rfl
    · rw [if_neg c, if_neg (by simpa using c)]; rfl
theorem psort_nat : ∀ l : List Nat, psort (natsV l) = natsV (srtN l)
  | [] => rfl
  | x :: xs => by
    show psort (.int (x : Int) :: natsV xs) = _
    rw [psort, psort_nat xs, pins_nat]; rfl
theorem srtOk_nat (l : List Nat) : srtOk (natsV l) = true := by
  unfold srtOk
  rw [Bool.and_eq_true]
  constructor
  · unfold palkA
    rw [List.all_eq_true]
    intro x hx
    obtain ⟨a, _, rfl⟩ := List.mem_map.mp hx
    have : (natsV l).all (fun y => palk (.int (a : Int)) y) = true := by
      rw [List.all_eq_true]
      intro y hy
      obtain ⟨b, _, rfl⟩ := List.mem_map.mp hy
      rfl
    rw [this]; rfl
  · unfold srtK
    have : ((natsV l).all fun x => !isTup x) = true := by
      rw [List.all_eq_true]
      intro y hy
      obtain ⟨b, _, rfl⟩ := List.mem_map.mp hy
      rfl
    rw [this]
    simp
theorem all_eq {α : Type} {p q : α → Bool} : ∀ {l : List α}, (∀ x, x ∈ l → p x = q x) → l.all p = l.all q
  | [], _ => rfl
  | a :: l, h => by rw [List.all_cons, List.all_cons, h a (by simp), all_eq fun x hx => h x (by simp [hx])]
def Pm (k : Nat) (σ : List Nat) : Prop := σ.Perm (List.range k)
section
variable {k : Nat} {σ : List Nat}
theorem Pm.len (h : Pm k σ) : σ.length = k := by have := h.length_eq; simpa using this
theorem Pm.nd (h : Pm k σ) : σ.Nodup := h.nodup_iff.mpr List.nodup_range
theorem Pm.lt (h : Pm k σ) {t : Nat} (ht : t < k) : σ.getD t 0 < k := by
  have e : σ.getD t 0 ∈ σ := by
    have hl : t < σ.length := by rw [h.len]; exact ht
    rw [List.getD_eq_getElem?_getD, List.getElem?_eq_getElem hl]
    exact List.getElem_mem hl
  exact List.mem_range.mp (h.mem_iff.mp e)
theorem Pm.inj (h : Pm k σ) {s t : Nat} (hs : s < k) (ht : t < k) (e : σ.getD s 0 = σ.getD t 0) : s = t := by
  have l1 : s < σ.length := by rw [h.len]; exact hs
  have l2 : t < σ.length := by rw [h.len]; exact ht
  rw [List.getD_eq_getElem?_getD, List.getD_eq_getElem?_getD, List.getElem?_eq_getElem l1, List.getElem?_eq_getElem l2] at e
  have e' : σ[s] = σ[t] := e
  have P := List.pairwise_iff_getElem.mp h.nd
  rcases Nat.lt_trichotomy s t with z | z | z
  · exact absurd e' (P s t l1 l2 z)
  · exact z
  · exact absurd e'.symm (P t s l2 l1 z)
theorem Pm.at (h : Pm k σ) {j : Nat} (hj : j < k) : ∃ t, t < k ∧ σ.getD t 0 = j := by
  have m : j ∈ σ := h.mem_iff.mpr (List.mem_range.mpr hj)
  obtain ⟨t, ht, e⟩ := List.getElem_of_mem m
  exact ⟨t, by rw [← h.len]; exact ht, by rw [List.getD_eq_getElem?_getD, List.getElem?_eq_getElem ht, e]; rfl⟩
def mvl (σ : List Nat) (l : List Nat) : List Nat := srtN (l.map fun t => σ.getD t 0)
theorem mvl_mem {l : List Nat} {j : Nat} : j ∈ mvl σ l ↔ ∃ t, t ∈ l ∧ σ.getD t 0 = j := by
  unfold mvl
  rw [(srtN_perm _).mem_iff, List.mem_map]
theorem mvl_lot (h : Pm k σ) {l : List Nat} (v : Lot k l) : Lot k (mvl σ l) := by
  refine ⟨srtN_lt ?_, fun x hx => ?_⟩
  · have : (l.map fun t => σ.getD t 0).Pairwise (· ≠ ·) := by
      rw [List.pairwise_map]
      refine List.Pairwise.imp_of_mem (fun {a b} ha hb c e => ?_) v.1
      have := h.inj (v.2 a ha) (v.2 b hb) e
      omega
    exact this
  · obtain ⟨t, ht, rfl⟩ := mvl_mem.mp hx
    exact h.lt (v.2 t ht)
theorem mvl_inc (h : Pm k σ) {l : List Nat} (v : Lot k l) {t : Nat} (ht : t < k) : inc (mvl σ l) (σ.getD t 0) = inc l t := by
  unfold inc
  have : σ.getD t 0 ∈ mvl σ l ↔ t ∈ l := by
    rw [mvl_mem]
    constructor
    · rintro ⟨s, hs, e⟩
      rw [← h.inj (v.2 s hs) ht e]; exact hs
    · exact fun m => ⟨t, m, rfl⟩
  simp only [this]
def mvC (σ : List Nat) (c : Cp) : Cp := ⟨mvl σ c.one, c.sg, mvl σ c.other⟩
theorem mvC_v (h : Pm k σ) {c : Cp} (v : ValidC k c) : ValidC k (mvC σ c) := ⟨mvl_lot h v.1, mvl_lot h v.2⟩
def mvT (σ : List Nat) (told : List Cp) : List Cp := told.map (mvC σ)
theorem mvT_v (h : Pm k σ) {told : List Cp} (v : Valid k told) : Valid k (mvT σ told) := fun c hc => by
  obtain ⟨d, hd, rfl⟩ := List.mem_map.mp hc
  exact mvC_v h (v d hd)
theorem perm_sum : ∀ {l l' : List Int}, l.Perm l' → l.sum = l'.sum := by
  intro l l' h
  induction h with
  | nil => rfl
  | cons x _ ih => rw [List.sum_cons, List.sum_cons, ih]
  | swap x y l => rw [List.sum_cons, List.sum_cons, List.sum_cons, List.sum_cons]; omega
  | trans _ _ a b => rw [a, b]
def Goes (k : Nat) (σ : List Nat) (ws ws' : List Int) : Prop := ∀ t, t < k → at0 ws' (σ.getD t 0) = at0 ws t
theorem lw_mv {ws ws' : List Int} (g : Goes k σ ws ws') {l : List Nat} (v : Lot k l) : lw ws' (mvl σ l) = lw ws l := by
  unfold lw mvl
  rw [perm_sum ((srtN_perm _).map _), List.map_map]
  congr 1
  refine List.map_congr_left fun t ht => ?_
  exact g t (v.2 t ht)
theorem hold_mv {ws ws' : List Int} (g : Goes k σ ws ws') {c : Cp} (v : ValidC k c) : holdB ws' (mvC σ c) = holdB ws c := by
  unfold holdB mvC
  simp only [lw_mv g v.1, lw_mv g v.2]
theorem ag_mv {ws ws' : List Int} (g : Goes k σ ws ws') {told : List Cp} (v : Valid k told) : agB ws' (mvT σ told) = agB ws told := by
  unfold agB mvT
  rw [List.all_map]
  refine all_eq fun c hc => ?_
  exact hold_mv g (v c hc)
def bk (k : Nat) (σ : List Nat) (ws' : List Int) : List Int := (List.range k).map fun t => at0 ws' (σ.getD t 0)
def fw (k : Nat) (σ : List Nat) (ws : List Int) : List Int := (List.range k).map fun j => at0 ws (σ.idxOf j)
theorem at0_map (f : Nat → Int) {k t : Nat} (h : t < k) : at0 ((List.range k).map f) t = f t := by
  simp [at0, List.getD_eq_getElem?_getD, h]
theorem bk_goes {ws' : List Int} : Goes k σ (bk k σ ws') ws' := fun t ht => by unfold bk; rw [at0_map _ ht]
theorem fw_goes (h : Pm k σ) {ws : List Int} : Goes k σ ws (fw k σ ws) := fun t ht => by
  unfold fw
  rw [at0_map _ (h.lt ht)]
  congr 1
  have hl : t < σ.length := by rw [h.len]; exact ht
  rw [List.getD_eq_getElem?_getD, List.getElem?_eq_getElem hl]
  exact List.Nodup.idxOf_getElem h.nd t hl
theorem list_at {ws : List Int} (hl : ws.length = k) : (List.range k).map (at0 ws) = ws := by
  apply List.ext_getElem
  · simp [hl]
  · intro i h1 h2
    simp [at0, List.getD_eq_getElem?_getD, h2]
theorem goes_sum (h : Pm k σ) {ws ws' : List Int} (l1 : ws.length = k) (l2 : ws'.length = k) (g : Goes k σ ws ws') : ws.sum = ws'.sum := by
  rw [← list_at l1, ← list_at l2]
  have e : (List.range k).map (at0 ws) = σ.map (at0 ws') := by
    have e1 : (List.range k).map (at0 ws) = (List.range k).map fun t => at0 ws' (σ.getD t 0) := List.map_congr_left fun t ht => (g t (List.mem_range.mp ht)).symm
    rw [e1]
    apply List.ext_getElem
    · simp [h.len]
    · intro i h1 h2
      have hi : i < σ.length := by simpa using h2
      simp [List.getD_eq_getElem?_getD, hi]
  rw [e]
  exact perm_sum (h.map _)
theorem goes_pos (h : Pm k σ) {ws ws' : List Int} (l1 : ws.length = k) (l2 : ws'.length = k) (g : Goes k σ ws ws') : (∀ x, x ∈ ws → 1 ≤ x) ↔ ∀ x, x ∈ ws' → 1 ≤ x := by
  constructor
  · intro p x hx
    obtain ⟨j, hj, e⟩ := List.getElem_of_mem hx
    obtain ⟨t, ht, et⟩ := h.at (j := j) (by omega)
    have := g t ht
    rw [et, show at0 ws' j = x by simp [at0, List.getD_eq_getElem?_getD, hj, e]] at this
    rw [this]
    exact p _ (at0_in (by omega))
  · intro p x hx
    obtain ⟨j, hj, e⟩ := List.getElem_of_mem hx
    have hk : j < k := by omega
    have := g j hk
    rw [show at0 ws j = x by simp [at0, List.getD_eq_getElem?_getD, hj, e]] at this
    rw [← this]
    exact p _ (at0_in (by rw [l2]; exact h.lt hk))
theorem fe_list {told : List Cp} (h1 : 1 ≤ k) (h4 : k ≤ 4) (v : Valid k told) : Fe k told ↔ ∃ ws : List Int, ws.length = k ∧ (∀ x, x ∈ ws → 1 ≤ x) ∧ agB ws told = true := by
  constructor
  · intro f
    obtain ⟨x, a, b, _, d⟩ := small_fe4 h1 h4 v f
    exact ⟨x, a, b, d⟩
  · rintro ⟨ws, a, b, d⟩
    refine ⟨at0 ws, fun t ht => ?_, (ag_iff ws v).mp d⟩
    have := b _ (at0_in (w := ws) (t := t) (by omega))
    omega
theorem fe_mv (h : Pm k σ) {told : List Cp} (h1 : 1 ≤ k) (h4 : k ≤ 4) (v : Valid k told) : Fe k (mvT σ told) ↔ Fe k told := by
  rw [fe_list h1 h4 v, fe_list h1 h4 (mvT_v h v)]
  constructor
  · rintro ⟨ws, a, b, d⟩
    have l : (bk k σ ws).length = k := by simp [bk]
    exact ⟨bk k σ ws, l, (goes_pos h l a bk_goes).mpr b, by rw [← ag_mv bk_goes v]; exact d⟩
  · rintro ⟨ws, a, b, d⟩
    have l : (fw k σ ws).length = k := by simp [fw]
    exact ⟨fw k σ ws, l, (goes_pos h a l (fw_goes h)).mp b, by rw [ag_mv (fw_goes h) v]; exact d⟩
theorem least_mv (h : Pm k σ) {told : List Cp} (h1 : 1 ≤ k) (v : Valid k told) {t i t' i' : Nat} {w w' : List Int} (L : Lst k told t i w) (L' : Lst k (mvT σ told) t' i' w') : w.sum = w'.sum := by
  obtain ⟨a1, a2, a3⟩ := L.len h1
  obtain ⟨b1, b2, b3⟩ := L'.len h1
  have l1 : (bk k σ w').length = k := by simp [bk]
  have l2 : (fw k σ w).length = k := by simp [fw]
  have x := L.min h1 l1 ((goes_pos h l1 b1 bk_goes).mpr b2) (by rw [← ag_mv bk_goes v]; exact L'.ag)
  have y := L'.min h1 l2 ((goes_pos h a1 l2 (fw_goes h)).mp a2) (by rw [ag_mv (fw_goes h) v]; exact L.ag)
  rw [goes_sum h l1 b1 bk_goes] at x
  rw [← goes_sum h a1 l2 (fw_goes h)] at y
  omega
theorem mvC_c (h : Pm k σ) {c : Cp} (v : ValidC k c) {t : Nat} (ht : t < k) : (mvC σ c).c (σ.getD t 0) = c.c t := by
  unfold Cp.c mvC
  simp only [mvl_inc h v.1 ht, mvl_inc h v.2 ht]
theorem mvT_at {told : List Cp} {i : Nat} (hi : i < told.length) : (mvT σ told).getD i default = mvC σ (told.getD i default) := by
  simp [mvT, List.getD_eq_getElem?_getD, hi]
theorem exc_mv (h : Pm k σ) {told : List Cp} (v : Valid k told) (f : Nat → Int) {t : Nat} (ht : t < k) : exc (mvT σ told) f (σ.getD t 0) = exc told f t := by
  unfold exc
  rw [show (mvT σ told).length = told.length by simp [mvT]]
  refine Sx.si_congr fun i hi => ?_
  rw [mvT_at hi, mvC_c h (v _ (getD_mem hi)) ht]
theorem bal_mv (h : Pm k σ) {told : List Cp} (v : Valid k told) {f : Nat → Int} (b : Bal k told f) : Bal k (mvT σ told) f := by
  have len : (mvT σ told).length = told.length := by simp [mvT]
  refine ⟨fun i hi ne => ?_, fun j hj => ?_, ?_⟩
  · rw [len] at hi
    rw [mvT_at hi] at ne
    exact b.nn i hi ne
  · obtain ⟨t, ht, rfl⟩ := h.at hj
    rw [exc_mv h v f ht]
    exact b.le t ht
  · rcases b.st with ⟨i, hi, a, c⟩ | ⟨t, ht, c⟩
    · exact .inl ⟨i, by rw [len]; exact hi, by rw [mvT_at hi]; exact a, c⟩
    · exact .inr ⟨σ.getD t 0, h.lt ht, by rw [exc_mv h v f ht]; exact c⟩
end
theorem getD_rev (told : List Cp) {i : Nat} (hi : i < told.length) : told.reverse.getD i default = told.getD (told.length - 1 - i) default := by
  have h2 : told.length - 1 - i < told.length := by omega
  rw [List.getD_eq_getElem?_getD, List.getElem?_reverse hi, List.getD_eq_getElem?_getD]
theorem at0_rev (vs : List Int) {i : Nat} (hi : i < vs.length) : at0 vs.reverse i = at0 vs (vs.length - 1 - i) := by
  unfold at0
  rw [List.getD_eq_getElem?_getD, List.getElem?_reverse hi, List.getD_eq_getElem?_getD]
theorem exc_rev {told : List Cp} {vs : List Int} (e : vs.length = told.length) (t : Nat) : exc told.reverse (at0 vs.reverse) t = exc told (at0 vs) t := by
  rw [← sum_zip t vs told e, ← sum_zip t vs.reverse told.reverse (by simp [e])]
  have z : vs.reverse.zip told.reverse = (vs.zip told).reverse := by
    have := List.reverse_zipWith (f := Prod.mk) e
    exact this.symm
  rw [z, List.map_reverse]
  exact perm_sum (List.reverse_perm _)
theorem bal_rev {k : Nat} {told : List Cp} {vs : List Int} (e : vs.length = told.length) (b : Bal k told (at0 vs)) : Bal k told.reverse (at0 vs.reverse) := by
  refine ⟨fun i hi ne => ?_, fun t ht => by rw [exc_rev e]; exact b.le t ht, ?_⟩
  · rw [List.length_reverse] at hi
    rw [getD_rev told hi] at ne
    rw [at0_rev vs (by omega), e]
    exact b.nn _ (by omega) ne
  · rcases b.st with ⟨i, hi, a, c⟩ | ⟨t, ht, c⟩
    · refine .inl ⟨told.length - 1 - i, by rw [List.length_reverse]; omega, ?_, ?_⟩
      · rw [getD_rev told (by omega), show told.length - 1 - (told.length - 1 - i) = i by omega]; exact a
      · rw [at0_rev vs (by omega), e, show told.length - 1 - (told.length - 1 - i) = i by omega]; exact c
    · exact .inr ⟨t, ht, by rw [exc_rev e]; exact c⟩
theorem ag_rev (ws : List Int) (told : List Cp) : agB ws told.reverse = agB ws told := by unfold agB; rw [List.all_reverse]
theorem ag_app (ws : List Int) (a b : List Cp) : agB ws (a ++ b) = (agB ws a && agB ws b) := by unfold agB; rw [List.all_append]
theorem valid_app {k : Nat} {a b : List Cp} (h : Valid k a) (g : Valid k b) : Valid k (a ++ b) := fun c hc => (List.mem_append.mp hc).elim (h c) (g c)
theorem fe_set {k : Nat} {a b : List Cp} (h : ∀ c, c ∈ a ↔ c ∈ b) : Fe k a ↔ Fe k b :=
  ⟨fun ⟨w, p, q⟩ => ⟨w, p, fun c hc => q c ((h c).mpr hc)⟩, fun ⟨w, p, q⟩ => ⟨w, p, fun c hc => q c ((h c).mp hc)⟩⟩
theorem fe_two {k : Nat} {told : List Cp} : Fe k (told ++ told) ↔ Fe k told := fe_set fun c => by simp
theorem lst_two {k : Nat} {told : List Cp} {t i : Nat} {w : List Int} (L : Lst k told t i w) : Lst k (told ++ told) t i w := by
  have e : ∀ x, agB x (told ++ told) = agB x told := fun x => by rw [ag_app, Bool.and_self]
  exact ⟨L.ht, L.at_, by rw [e]; exact L.ag, fun t' a b x hx => by rw [e]; exact L.low t' a b x hx, fun j x hj hx => by rw [e]; exact L.first j x hj hx⟩
def redN (n : Nat) (l : List Nat) : List Nat := (List.range n).filter fun i => decide (i ∈ l) || decide (i + n ∈ l)
theorem find_red {α : Type} [DecidableEq α] {p : α → Bool} {red : α → α} {A : List α} (h : ∀ (i : Nat) x, A[i]? = some x → red x ∈ A.take (i + 1)) (hp : ∀ x, x ∈ A → p (red x) = p x) : A.find? p = (A.filter fun x => decide (red x = x)).find? p := by
  rw [List.find?_filter]
  cases e : A.find? p with
  | none =>
    symm
    rw [List.find?_eq_none] at e ⊢
    intro x hx
    have := e x hx
    simp [this]
  | some x =>
    symm
    rw [List.find?_eq_some_iff_append] at e ⊢
    obtain ⟨px, as, bs, rfl, no⟩ := e
    have at_ : (as ++ x :: bs)[as.length]? = some x := by simp
    have m := h as.length x at_
    rw [show (as ++ x :: bs).take (as.length + 1) = as ++ [x] by rw [List.take_append, List.take_of_length_le (by omega), show as.length + 1 - as.length = 1 by omega]; rfl] at m
    have pr := hp x (by simp)
    rw [px] at pr
    have rx : red x = x := by
      rcases List.mem_append.mp m with m | m
      · have := no _ m
        rw [pr] at this
        simp at this
      · simpa using m
    refine ⟨by simp [rx, px], as, bs, rfl, fun a ha => ?_⟩
    have := no a ha
    simp only [Bool.not_eq_eq_eq_not, Bool.not_true] at this ⊢
    simp [this]
theorem red_ix : ∀ n, n < 5 → ((List.range (allS (n + n) (n + n)).length).all fun i => decide (redN n ((allS (n + n) (n + n)).getD i []) ∈ (allS (n + n) (n + n)).take (i + 1))) = true := by decide +kernel
theorem red_all : ∀ n, n < 5 → ((allS (n + n) (n + n)).filter fun l => decide (redN n l = l)) = allS n n := by decide +kernel
theorem mem_lot {n : Nat} : ∀ m, n ≤ 8 → m ≤ 8 → ∀ l, l ∈ allS n m → ∀ i, i ∈ l → i < n
  | m, hn, hm, l, hl, i, hi => by
    obtain ⟨z, hz, hl⟩ := List.mem_flatMap.mp hl
    have := List.mem_range.mp hz
    obtain ⟨_, b, _⟩ := sets_ok hn (by omega) l hl
    exact b.2 i hi
theorem sub_red {told : List Cp} {l : List Nat} (h : ∀ i, i ∈ l → i < told.length + told.length) (c : Cp) : c ∈ sub told (redN told.length l) ↔ c ∈ sub (told ++ told) l := by
  have lo : ∀ i, i < told.length → (told ++ told).getD i default = told.getD i default := fun i hi => by simp [List.getD_eq_getElem?_getD, List.getElem?_append_left hi]
  have hi' : ∀ i, (told ++ told).getD (i + told.length) default = told.getD i default := fun i => by
    rw [List.getD_eq_getElem?_getD, List.getElem?_append_right (by omega), List.getD_eq_getElem?_getD]
    congr 2
    omega
  unfold sub redN
  rw [List.mem_map, List.mem_map]
  constructor
  · rintro ⟨i, hi, rfl⟩
    obtain ⟨a, b⟩ := List.mem_filter.mp hi
    rw [Bool.or_eq_true, decide_eq_true_eq, decide_eq_true_eq] at b
    have il := List.mem_range.mp a
    rcases b with b | b
    · exact ⟨i, b, lo i il⟩
    · exact ⟨_, b, hi' i⟩
  · rintro ⟨i, hi, rfl⟩
    have il := h i hi
    by_cases c : i < told.length
    · exact ⟨i, List.mem_filter.mpr ⟨List.mem_range.mpr c, by simp [hi]⟩, (lo i c).symm⟩
    · refine ⟨i - told.length, List.mem_filter.mpr ⟨List.mem_range.mpr (by omega), ?_⟩, ?_⟩
      · rw [show i - told.length + told.length = i by omega]; simp [hi]
      · have := hi' (i - told.length)
        rw [show i - told.length + told.length = i by omega] at this
        exact this.symm
theorem clash_two {k : Nat} {told : List Cp} (hl : told.length ≤ 4) : clashL k (told ++ told) = clashL k told := by
  open Classical in
  unfold clashL
  by_cases f : Fe k told
  · rw [if_pos f, if_pos (fe_two.mpr f)]
  · rw [if_neg f, if_neg (fun z => f (fe_two.mp z)), List.length_append]
    rw [find_red (red := redN told.length), red_all _ (by omega)]
    · refine find_congr fun l hl' => ?_
      have ml := mem_lot told.length (by omega) (by omega) l hl'
      refine decide_eq_decide.mpr (not_congr (fe_set fun c => ?_))
      have lo : ∀ i, i < told.length → (told ++ told).getD i default = told.getD i default := fun i hi => by simp [List.getD_eq_getElem?_getD, List.getElem?_append_left hi]
      unfold sub
      rw [List.map_congr_left fun i hi => lo i (ml i hi)]
    · intro i x hx
      have hi := (List.getElem?_eq_some_iff.mp hx).1
      have := List.all_eq_true.mp (red_ix told.length (by omega)) i (List.mem_range.mpr hi)
      rw [List.getD_eq_getElem?_getD, hx] at this
      simpa using this
    · intro l hl'
      have ml := mem_lot (told.length + told.length) (by omega) (by omega) l hl'
      have a : Fe k (sub (told ++ told) l) ↔ Fe k (sub told (redN told.length l)) := fe_set fun c => (sub_red ml c).symm
      have b : Fe k (sub (told ++ told) (redN told.length l)) ↔ Fe k (sub told (redN told.length l)) := fe_set fun c => by
        have lo : ∀ i, i < told.length → (told ++ told).getD i default = told.getD i default := fun i hi => by simp [List.getD_eq_getElem?_getD, List.getElem?_append_left hi]
        have : ∀ i, i ∈ redN told.length l → i < told.length := fun i hi => List.mem_range.mp (List.mem_filter.mp hi).1
        unfold sub
        rw [List.map_congr_left fun i hi => lo i (this i hi)]
      exact decide_eq_decide.mpr (not_congr (b.trans a.symm))
where
  find_congr {α : Type} {p q : α → Bool} : ∀ {L : List α}, (∀ x, x ∈ L → p x = q x) → L.find? p = L.find? q
    | [], _ => rfl
    | a :: L, h => by
      rw [List.find?_cons, List.find?_cons, h a (by simp), find_congr fun x hx => h x (by simp [hx])]
theorem ltR_irr : ∀ a : List Int, ltR a a = false := ltR_self
theorem ltR_asym : ∀ a b : List Int, ltR a b = true → ltR b a = false
  | [], [], h => by cases h
  | [], _ :: _, _ => rfl
  | _ :: _, [], h => by cases h
  | x :: xs, y :: ys, h => by
    unfold ltR at h ⊢
    by_cases e : x = y
    · subst e
      rw [if_pos rfl] at h ⊢
      exact ltR_asym xs ys h
    · rw [if_neg e] at h
      rw [if_neg (fun z => e z.symm)]
      have := of_decide_eq_true h
      exact decide_eq_false (by omega)
theorem ltR_snoc : ∀ a b : List Int, a.length = b.length → ltR (a ++ [1]) (b ++ [1]) = ltR a b
  | [], [], _ => by simp [ltR]
  | x :: xs, y :: ys, h => by
    show ltR (x :: (xs ++ [1])) (y :: (ys ++ [1])) = _
    unfold ltR
    rw [ltR_snoc xs ys (by simpa using h)]
theorem all_sorted : ∀ k t, (allL k t).Pairwise fun a b => ltR a b = true
  | 0, _ => List.Pairwise.nil
  | 1, _ => List.pairwise_singleton _ _
  | k + 2, t => by
    rw [allL, List.pairwise_flatMap]
    refine ⟨fun i _ => ?_, ?_⟩
    · rw [List.pairwise_map]
      refine (all_sorted (k + 1) _).imp fun {a b} h => ?_
      unfold ltR
      rw [if_pos rfl]
      exact h
    · refine List.pairwise_lt_range.imp fun {i j} hij x hx y hy => ?_
      obtain ⟨a, _, rfl⟩ := List.mem_map.mp hx
      obtain ⟨b, _, rfl⟩ := List.mem_map.mp hy
      unfold ltR
      rw [if_neg (by omega)]
      exact decide_eq_true (by omega)
theorem lw_snoc {k : Nat} {w : List Int} (hl : w.length = k) (z : Int) {l : List Nat} (v : Lot k l) : lw (w ++ [z]) l = lw w l := by
  unfold lw
  congr 1
  refine List.map_congr_left fun t ht => ?_
  have := v.2 t ht
  simp [at0, List.getD_eq_getElem?_getD, List.getElem?_append_left (show t < w.length by omega)]
theorem ag_more {k : Nat} {w : List Int} (hl : w.length = k) (z : Int) {told : List Cp} (v : Valid k told) : agB (w ++ [z]) told = agB w told := by
  unfold agB
  refine all_eq fun c hc => ?_
  unfold holdB
  rw [lw_snoc hl z (v c hc).1, lw_snoc hl z (v c hc).2]
theorem valid_more {k : Nat} {told : List Cp} (v : Valid k told) : Valid (k + 1) told := fun c hc => ⟨⟨(v c hc).1.1, fun x hx => Nat.lt_succ_of_lt ((v c hc).1.2 x hx)⟩, ⟨(v c hc).2.1, fun x hx => Nat.lt_succ_of_lt ((v c hc).2.2 x hx)⟩⟩
theorem snoc_of {x : List Int} {k : Nat} (h : x.length = k + 1) : ∃ y z, x = y ++ [z] ∧ y.length = k := by
  have ne : x ≠ [] := by intro e; rw [e] at h; cases h
  exact ⟨x.dropLast, x.getLast ne, (List.dropLast_concat_getLast ne).symm, by simp [h]⟩
theorem lst_more {k : Nat} {told : List Cp} {t i : Nat} {w : List Int} (h1 : 1 ≤ k) (v : Valid k told) (L : Lst k told t i w) : ∃ i', Lst (k + 1) told (t + 1) i' (w ++ [1]) := by
  obtain ⟨wl, wp, wsum⟩ := L.len h1
  have lw1 : (w ++ [1]).length = k + 1 := by simp [wl]
  have lp1 : ∀ x, x ∈ w ++ [1] → 1 ≤ x := fun x hx => by
    rcases List.mem_append.mp hx with z | z
    · exact wp x z
    · simp at z; omega
  have sm1 : (w ++ [1]).sum = ((t + 1 : Nat) : Int) := by rw [List.sum_append, wsum]; simp
  have m := all_mem (k := k + 1) (t := t + 1) (by omega) lw1 lp1 sm1
  obtain ⟨i', hi', ei'⟩ := List.getElem_of_mem m
  have lowS : ∀ y : List Int, y.length = k → (∀ x, x ∈ y → 1 ≤ x) → y.sum < (t : Int) → agB y told = false := fun y yl yp ys => by
    have g := sum_ge yp
    exact L.low y.sum.toNat (by omega) (by omega) y (all_mem h1 yl yp (by omega))
  have cut : ∀ (t' : Nat) (x : List Int), k + 1 ≤ t' → x ∈ allL (k + 1) t' → ∃ y z, x = y ++ [z] ∧ y.length = k ∧ (∀ u, u ∈ y → 1 ≤ u) ∧ 1 ≤ z ∧ y.sum = (t' : Int) - z := fun t' x ht hx => by
    obtain ⟨a, b, c⟩ := all_ok (by omega) ht hx
    obtain ⟨y, z, rfl, yl⟩ := snoc_of a
    rw [List.sum_append] at c
    refine ⟨y, z, rfl, yl, fun u hu => b u (by simp [hu]), b z (by simp), ?_⟩
    simp at c
    omega
  refine ⟨i', by have := L.ht; omega, by rw [List.getElem?_eq_getElem hi', ei'], by rw [ag_more wl 1 v]; exact L.ag, fun t' a b x hx => ?_, fun j x hj hx => ?_⟩
  · obtain ⟨y, z, rfl, yl, yp, zp, ys⟩ := cut t' x a hx
    rw [ag_more yl z v]
    exact lowS y yl yp (by omega)
  · obtain ⟨y, z, rfl, yl, yp, zp, ys⟩ := cut (t + 1) x (by have := L.ht; omega) (List.mem_of_getElem? hx)
    rw [ag_more yl z v]
    by_cases z1 : z = 1
    · subst z1
      have hjl := (List.getElem?_eq_some_iff.mp hx).1
      have lt := (List.pairwise_iff_getElem.mp (all_sorted (k + 1) (t + 1))) j i' hjl hi' hj
      rw [ei', show (allL (k + 1) (t + 1))[j] = y ++ [1] by rw [List.getElem?_eq_getElem hjl] at hx; exact Option.some.inj hx, ltR_snoc y w (by omega)] at lt
      have ym := all_mem (t := t) h1 yl yp (by push_cast at ys; omega)
      obtain ⟨q, hq, eq⟩ := List.getElem_of_mem ym
      have hi := (List.getElem?_eq_some_iff.mp L.at_).1
      have ew : (allL k t)[i] = w := by have := L.at_; rw [List.getElem?_eq_getElem hi] at this; exact Option.some.inj this
      refine L.first q y ?_ (by rw [List.getElem?_eq_getElem hq, eq])
      rcases Nat.lt_trichotomy q i with c | c | c
      · exact c
      · subst c
        rw [← eq, ew, ltR_irr] at lt
        cases lt
      · have := (List.pairwise_iff_getElem.mp (all_sorted k t)) i q hi hq c
        rw [ew, eq] at this
        rw [ltR_asym _ _ this] at lt
        cases lt
    · exact lowS y yl yp (by push_cast at ys; omega)
def flp (c : Cp) : Cp := ⟨c.other, c.sg, c.one⟩
theorem flp_v {k : Nat} {told : List Cp} (v : Valid k told) : Valid k (told.map flp) := fun c hc => by
  obtain ⟨d, hd, rfl⟩ := List.mem_map.mp hc
  exact ⟨(v d hd).2, (v d hd).1⟩
theorem turned {k : Nat} {told : List Cp} {ws : List Int} (v : Valid k told) (a : agB ws (told ++ told.map flp) = true) : ∀ c, c ∈ told → c.sg ≠ .gt ∧ lw ws c.one = lw ws c.other := by
  intro c hc
  have h1 := List.all_eq_true.mp a c (by simp [hc])
  have h2 := List.all_eq_true.mp a (flp c) (by simp; exact .inr ⟨c, hc, rfl⟩)
  unfold holdB flp at *
  cases e : c.sg <;> simp only [e, decide_eq_true_eq] at h1 h2 ⊢
  · omega
  · exact ⟨by simp, by omega⟩
  · exact ⟨by simp, by omega⟩
end Lq
end
section
set_option Elab.async false
set_option linter.all false
set_option maxRecDepth 100000
namespace Gk13
open PySem PySem.Spec PyProof.Rows L2 Lq
open Sx (at0 si)
theorem e_lw : f_least_weights = lwF (awF 4) := rfl
section
variable {env : Ev} {st : Store} {T : PV → Store → Prop} {L : List PV → Store → Prop}
theorem ok_listRg {f : XE} (h : Ok (f env st) fun p s => ∃ n : Int, p = .int n ∧ 0 ≤ n ∧ n ≤ 1000 ∧ L (rng 0 n.toNat) s) : Ok (fListRg f env st) L := by
  rw [fListRg, ok_bind]
  refine h.mono fun p s h => ?_
  obtain ⟨n, rfl, a, b, t⟩ := h
  simp only [if_pos (And.intro a b)]
  exact ok_ok.mpr t
theorem ok_tpl {f : XL} (h : Ok (f env st) fun vs s => ∃ p xs, vs = [p] ∧ asL s p = some xs ∧ T (.own s.length) (s ++ [.tpl xs])) : Ok (eTpl f env st) T := by
  rw [eTpl, ok_bind]
  refine h.mono fun vs s h => ?_
  obtain ⟨p, xs, rfl, e, t⟩ := h
  simp only [e]
  exact ok_ok.mpr t
theorem ok_back {f : XE} (h : Ok (f env st) fun p s => ∃ xs, p = .tup xs ∧ T (.tup xs.reverse) s) : Ok (eBack f env st) T := by
  rw [eBack, ok_bind]
  refine h.mono fun p s h => ?_
  obtain ⟨xs, rfl, t⟩ := h
  exact ok_ok.mpr t
theorem ok_idxT {f g : XE} (h : Ok (f env st) fun d s1 => ∃ xs ns, tplOf s1 d = some xs ∧ asInts xs = some ns ∧ Ok (g env s1) fun k s2 => ∃ i ys, k = .int i ∧ tplOf s2 d = some ys ∧ asInts ys = some ns ∧ i ∈ ns ∧ T (.int (ns.idxOf i : Nat)) s2) : Ok (eIdxT f g env st) T := by
  rw [eIdxT, ok_bind]
  refine h.mono fun d s1 h => ?_
  obtain ⟨xs, ns, e1, e2, h⟩ := h
  simp only [e1, e2]
  rw [ok_bind]
  refine h.mono fun k s2 h => ?_
  obtain ⟨i, ys, rfl, e3, e4, m, t⟩ := h
  simp only [e3, if_pos (And.intro e4 m)]
  exact ok_ok.mpr t
end
theorem ne_nilN {D : Nat} {s : Store} {xs : List Nat} (h : s[D]? = some (.lst (natsV xs))) : oNe (.own D) (.lst []) s = some (.bl (!xs.isEmpty)) := by
  have r : rsv s (.own D) = .lst (natsV xs) := by simp [rsv, h]
  have c : dChk (.lst (natsV xs)) = true := by
    unfold dChk
    rw [dOk, noScr, dOks_nats, noScrs_nats]; rfl
  unfold oNe
  rw [r]
  have r2 : rsv s (.lst []) = .lst [] := rfl
  rw [r2, c]
  have c2 : dChk (.lst []) = true := rfl
  rw [c2]
  cases xs <;> rfl
theorem er_nat : ∀ (l : List Nat) (i : Nat), natsV (l.eraseIdx i) = (natsV l).eraseIdx i
  | [], _ => rfl
  | _ :: _, 0 => rfl
  | a :: l, i + 1 => by
    show PV.int (a : Int) :: natsV (l.eraseIdx i) = PV.int (a : Int) :: (natsV l).eraseIdx i
    rw [er_nat l i]
theorem erase_perm : ∀ (l : List Nat) (i : Nat) (h : i < l.length), (l[i] :: l.eraseIdx i).Perm l
  | _ :: _, 0, _ => List.Perm.refl _
  | a :: l, i + 1, h => by
    have hi : i < l.length := by simpa using h
    show (l[i] :: a :: l.eraseIdx i).Perm (a :: l)
    exact (List.Perm.swap a (l[i]) (l.eraseIdx i)).trans ((erase_perm l i hi).cons a)
theorem app_ok {xs : List PV} {y : PV} (s : Store) (h : xs.length < 10000) : goApp xs [y] s = some (.non, xs ++ [y]) := by
  have sz := szl
  unfold goApp
  simp only
  rw [if_pos (by omega)]
def ordB : XS := (sDrop (eLm goApp (eVar 4) (aCons (eLm goPopAt (eVar 3) (aCons (eCall 3 drawF (aCons (eVar 0) (aCons (eVar 1) (aCons (eCB oLen (aCons (eVar 3) aNil)) aNil)))) aNil)) aNil)))
theorem natsV_len (l : List Nat) : (natsV l).length = l.length := by simp [natsV]
theorem order_loop {ns : List Int} (hns : ns.length ≤ 63) {a2 : Option PV} {A B : Nat} (hA : A ≠ 0) (hB : B ≠ 0) (hAB : A ≠ B) : ∀ (left found : List Nat) (m n : Nat) (s : Store), Tn ns n s → n + left.length < 800000 → s[A]? = some (.lst (natsV left)) → s[B]? = some (.lst (natsV found)) → left.length + found.length ≤ 1000 → left.length < m →
    Ok (sWhile (tE (eBin oNe (eVar 3) (eFz (fDisp aNil)))) ordB m [some (.scr ns), some (.own 0), a2, some (.own A), some (.own B)] s) fun fl s' => fl = .nx [some (.scr ns), some (.own 0), a2, some (.own A), some (.own B)] ∧ ∃ σ, s'[B]? = some (.lst (natsV σ)) ∧ σ.Perm (found ++ left) ∧ Tn ns (n + left.length) s' ∧ Keeps [0, A, B] s s'
  | left, found, 0, n, s, _, _, _, _, _, hm => absurd hm (by omega)
  | left, found, m + 1, n, s, T, hn, eA, eB, h1000, hm => by
    have sz := szl
    refine ok_while ?_
    simp only [wkA, List.set_cons_zero, List.set_cons_succ, Option.some.injEq, exists_eq_left', exists_eq_left, List.length_cons, List.length_nil, Nat.reduceAdd, Nat.reduceLeDiff, true_and, and_true, if_true, Bool.not_true, Bool.not_false, Bool.false_eq_true, if_false, decide_eq_true_eq, List.cons.injEq, ↓reduceIte]
    refine Op.of (ne_nilN eA) ?_
    cases left with
    | nil =>
      simp only [List.isEmpty_nil, Bool.not_true, Bool.false_eq_true, if_false]
      exact ⟨found, eB, by rw [List.append_nil], by simpa using T, Keeps.refl _ _⟩
    | cons x r =>
      simp only [List.isEmpty_cons, Bool.not_false, if_true]
      unfold ordB
      simp only [wkA, List.set_cons_zero, List.set_cons_succ, Option.some.injEq, exists_eq_left', exists_eq_left, List.length_cons, List.length_nil, Nat.reduceAdd, Nat.reduceLeDiff, true_and, and_true, if_true, Bool.not_true, Bool.not_false, Bool.false_eq_true, if_false, decide_eq_true_eq, List.cons.injEq, ↓reduceIte]
      refine ⟨B, _, rfl, eB, A, _, rfl, eA, ?_⟩
      refine Op.of (z := .int ((x :: r).length : Int)) (by simp [oLen, asS, asL, eA, natsV]) ?_
      have hl : (x :: r).length = r.length + 1 := rfl
      refine (draw_sp T (by omega) hns (by rw [hl]; omega) (by rw [hl]; omega)).mono fun v s1 hv => ?_
      obtain ⟨d, rfl, d0, d1, T1, K1⟩ := hv
      obtain ⟨i, rfl⟩ : ∃ i : Nat, d = (i : Int) := ⟨d.toNat, by omega⟩
      have hi : i < (x :: r).length := by omega
      have eA1 := keeps_get K1 eA (by simpa using hA)
      have eB1 := keeps_get K1 eB (by simpa using hB)
      have pop : goPopAt (natsV (x :: r)) [.int (i : Int)] s1 = some (.int (((x :: r)[i] : Nat) : Int), natsV ((x :: r).eraseIdx i)) := by
        unfold goPopAt
        simp only
        rw [if_pos (by omega)]
        have : (natsV (x :: r))[(i : Int).toNat]? = some (.int (((x :: r)[i] : Nat) : Int)) := by
          rw [Int.toNat_natCast, natsV, List.getElem?_map, List.getElem?_eq_getElem hi]; rfl
        rw [this]
        simp only [Int.toNat_natCast]
        congr 2
        exact (er_nat (x :: r) i).symm
      refine ⟨_, _, _, eA1, pop, ?_⟩
      have lA : A < s1.length := (List.getElem?_eq_some_iff.mp eA1).1
      have eB2 : (s1.set A (.lst (natsV ((x :: r).eraseIdx i))))[B]? = some (.lst (natsV found)) := by
        rw [List.getElem?_set_ne hAB]; exact eB1
      refine ⟨_, _, _, eB2, app_ok _ (by rw [natsV_len]; omega), ?_⟩
      generalize hs3 : (s1.set A (.lst (natsV ((x :: r).eraseIdx i)))).set B (.lst (natsV found ++ [.int (((x :: r)[i] : Nat) : Int)])) = s3
      have lB : B < (s1.set A (.lst (natsV ((x :: r).eraseIdx i)))).length := (List.getElem?_eq_some_iff.mp eB2).1
      have A3 : s3[A]? = some (.lst (natsV ((x :: r).eraseIdx i))) := by
        rw [← hs3, List.getElem?_set_ne (Ne.symm hAB), List.getElem?_set_self lA]
      have B3 : s3[B]? = some (.lst (natsV (found ++ [(x :: r)[i]]))) := by
        rw [← hs3, List.getElem?_set_self lB]
        simp [natsV]
      have K3 : Keeps [0, A, B] s s3 := by
        rw [← hs3]
        have K1' : Keeps [0, A, B] s s1 := ⟨K1.1, fun j hj hn => K1.2 j hj (by simp at hn ⊢; exact hn.1)⟩
        exact (K1'.set (.inr (by simp)) _).set (.inr (by simp)) _
      have T3 : Tn ns (n + 1) s3 := by
        obtain ⟨c, a, t⟩ := T1
        refine ⟨c, ?_, t⟩
        rw [← hs3, List.getElem?_set_ne hB, List.getElem?_set_ne hA]
        exact a
      have el : ((x :: r).eraseIdx i).length = r.length := by rw [List.length_eraseIdx, if_pos hi]; rfl
      refine (order_loop hns hA hB hAB ((x :: r).eraseIdx i) (found ++ [(x :: r)[i]]) m (n + 1) s3 T3 (by omega) A3 B3 (by rw [el]; simp; omega) (by omega)).mono fun fl s' hh => ?_
      obtain ⟨rfl, σ, e1, e2, e3, e4⟩ := hh
      refine ⟨rfl, σ, e1, e2.trans ?_, ?_, K3.trans e4⟩
      · rw [List.append_assoc]
        refine List.Perm.append_left _ ?_
        exact erase_perm (x :: r) i hi
      · rw [el] at e3
        rw [show n + (r.length + 1) = n + 1 + r.length by omega]
        exact e3
theorem order_sp {ns : List Int} {n k : Nat} {s : Store} (T : Tn ns n s) (hn : n < 700000) (hns : ns.length ≤ 63) (h4 : k ≤ 4) :
    Ok (f__law_order [.scr ns, .own 0, .int (k : Int)] s) fun v s' => ∃ σ N, v = .own N ∧ s'[N]? = some (.tpl (natsV σ)) ∧ Pm k σ ∧ Tn ns (n + 4) s' ∧ Keeps [0] s s' := by
  have sz := szl
  have s0 : 0 < s.length := by obtain ⟨c, a, _⟩ := T; exact (List.getElem?_eq_some_iff.mp a).1
  (unfold f__law_order runF; rw [ok_retF]; simp only [env0, List.map_cons, List.map_nil, List.length_cons, List.length_nil, Nat.reduceAdd, Nat.reduceSub, List.reduceReplicate, List.cons_append, List.nil_append])
  rw [show f__law_draw = drawF from rfl]
  simp only [wkA, List.set_cons_zero, List.set_cons_succ, Option.some.injEq, exists_eq_left', exists_eq_left, List.length_cons, List.length_nil, Nat.reduceAdd, Nat.reduceLeDiff, true_and, and_true, if_true, Bool.not_true, Bool.not_false, Bool.false_eq_true, if_false, decide_eq_true_eq, List.cons.injEq, ↓reduceIte]
  refine ok_listRg ?_
  simp only [wkA, List.set_cons_zero, List.set_cons_succ, Option.some.injEq, exists_eq_left', exists_eq_left, List.length_cons, List.length_nil, Nat.reduceAdd, Nat.reduceLeDiff, true_and, and_true, if_true, Bool.not_true, Bool.not_false, Bool.false_eq_true, if_false, decide_eq_true_eq, List.cons.injEq, ↓reduceIte]
  refine ⟨by omega, by omega, ?_⟩
  rw [Int.toNat_natCast]
  have en : rng 0 k = natsV (List.range k) := by rw [rng0]
  rw [en]
  rw [nxK_nx]
  rw [ok_seq]
  have T1 : Tn ns n (s ++ [.lst (natsV (List.range k))] ++ [.lst []]) := (T.keeps (Keeps.app [] _ _)).keeps (Keeps.app [] _ _)
  have lr : (List.range k).length = k := List.length_range
  have len1 : (s ++ [Cell.lst (natsV (List.range k))]).length = s.length + 1 := by simp
  have go := order_loop hns (A := s.length) (B := s.length + 1) (a2 := some (.int (k : Int))) (by omega) (by omega) (by omega) (List.range k) [] 1099511627776 n (s ++ [.lst (natsV (List.range k))] ++ [.lst []]) T1 (by omega) (by simp) (by simp [natsV]) (by simp; omega) (by omega)
  rw [len1]
  refine go.mono fun fl s2 hh => ?_
  obtain ⟨rfl, σ, e1, e2, T2, K2⟩ := hh
  rw [nxK_nx]
  simp only [wkA, List.set_cons_zero, List.set_cons_succ, Option.some.injEq, exists_eq_left', exists_eq_left, List.length_cons, List.length_nil, Nat.reduceAdd, Nat.reduceLeDiff, true_and, and_true, if_true, Bool.not_true, Bool.not_false, Bool.false_eq_true, if_false, decide_eq_true_eq, List.cons.injEq, ↓reduceIte]
  refine ok_tpl ?_
  simp only [wkA, List.set_cons_zero, List.set_cons_succ, Option.some.injEq, exists_eq_left', exists_eq_left, List.length_cons, List.length_nil, Nat.reduceAdd, Nat.reduceLeDiff, true_and, and_true, if_true, Bool.not_true, Bool.not_false, Bool.false_eq_true, if_false, decide_eq_true_eq, List.cons.injEq, ↓reduceIte]
  simp only [e1]
  refine ⟨_, _, rfl, rfl, σ, by simp, by simpa [Pm] using e2, ?_, ?_⟩
  · rw [lr] at T2
    obtain ⟨c, a, t⟩ := T2
    have ln : s.length + 1 < s2.length := (List.getElem?_eq_some_iff.mp e1).1
    refine Tn.mono (n := n + k) ⟨c, ?_, t⟩ (by omega)
    rw [List.getElem?_append_left (by rw [List.length_set]; omega), List.getElem?_set_ne (by omega)]
    exact a
  · have ln : s.length + 1 < s2.length := (List.getElem?_eq_some_iff.mp e1).1
    refine ⟨by simp; omega, fun j hj hn => ?_⟩
    rw [List.getElem?_append_left (by rw [List.length_set]; omega), List.getElem?_set_ne (by omega)]
    rw [K2.2 j (by simp; omega) (by simp at hn ⊢; omega)]
    rw [List.getElem?_append_left (by simp; omega), List.getElem?_append_left hj]
section
variable {k N : Nat} {σ : List Nat}
theorem tpl_at {s : Store} (h : s[N]? = some (.tpl (natsV σ))) : tplOf s (.own N) = some (natsV σ) := by simp only [tplOf, h]
theorem ixT_at {s : Store} (h : s[N]? = some (.tpl (natsV σ))) {t : Nat} (ht : t < σ.length) : oIxT (.own N) (.int (t : Int)) s = some (.int ((σ.getD t 0 : Nat) : Int)) := by
  unfold oIxT
  simp only [tpl_at h]
  have e : (natsV σ)[t]? = some (.int ((σ.getD t 0 : Nat) : Int)) := by rw [natsV, List.getElem?_map, List.getD_eq_getElem?_getD, List.getElem?_eq_getElem ht]; rfl
  exact Lq.atI_nat e
theorem moved_sp {s : Store} (h : s[N]? = some (.tpl (natsV σ))) (P : Pm k σ) {l : List Nat} (v : Lot k l) : f__law_moved [.own N, lotV l] s = .ok (lotV (mvl σ l)) s := by
  have sz := szl
  apply eqOk
  (unfold f__law_moved runF; rw [ok_retF]; simp only [env0, List.map_cons, List.map_nil, List.length_cons, List.length_nil, Nat.reduceAdd, Nat.reduceSub, List.reduceReplicate, List.cons_append, List.nil_append])
  simp only [wkA, List.set_cons_zero, List.set_cons_succ, Option.some.injEq, exists_eq_left', exists_eq_left, List.length_cons, List.length_nil, Nat.reduceAdd, Nat.reduceLeDiff, true_and, and_true, if_true, Bool.not_true, Bool.not_false, Bool.false_eq_true, if_false, decide_eq_true_eq, List.cons.injEq, ↓reduceIte]
  refine ⟨_, rfl, ?_⟩
  simp only [wipeE, List.set_cons_succ, List.set_cons_zero]
  refine ok_mapE (fun i : Nat => PV.int (i : Int)) (fun i => PV.int ((σ.getD i 0 : Nat) : Int)) (fun i hi => ?_) ?_
  · simp only [wkA, List.set_cons_zero, List.set_cons_succ, Option.some.injEq, exists_eq_left', exists_eq_left, List.length_cons, List.length_nil, Nat.reduceAdd, Nat.reduceLeDiff, true_and, and_true, if_true, Bool.not_true, Bool.not_false, Bool.false_eq_true, if_false, decide_eq_true_eq, List.cons.injEq, ↓reduceIte]
    exact Op.of (ixT_at h (by rw [P.len]; exact v.2 i hi)) rfl
  · have e : (l.map fun i => PV.int ((σ.getD i 0 : Nat) : Int)) = natsV (l.map fun t => σ.getD t 0) := by simp [natsV, List.map_map, Function.comp]
    rw [e]
    refine ⟨_, rfl, srtOk_nat _, ?_⟩
    rw [psort_nat]
    exact Op.of rfl ⟨rfl, rfl⟩
end
end Gk13
end
section
set_option Elab.async false
set_option linter.all false
set_option maxRecDepth 100000
namespace Gk13
open PySem PySem.Spec PyProof.Rows L2 Lq
open Sx (at0 si)
def law7 : XS :=
    (sSeq (sSet 12 (eFz (fComp (iRange1 (aCons (eCB oLen (aCons (eVar 3) aNil)) aNil)) (gNm 18) (tE (eBin oEq (eBin oIx (eBin oIx (eVar 3) (eVar 18)) (eC (.int 1))) (eC (.str ">")))) (eVar 18) [18])))
    (sSeq (sSet 13 (eCall 2 p_some_weights (aCons (eVar 2) (aCons (eBin oAdd (eVar 3) (eVar 11)) aNil))))
    (sSeq (sIf (tE (eBin oIsN (eVar 13) (eC .non))) (sRet (eC (.bl true))) sNil)
    (sSeq (sSet 14 (eFz (fComp (iVal (eVar 3)) (gTp 3 (gsCons (gNm 15) (gsCons (gNm 16) (gsCons (gNm 17) gsNil)))) (fun _ st => .ok true st) (eBin oEq (eCall 2 p__law_weight (aCons (eVar 13) (aCons (eVar 15) aNil))) (eCall 2 p__law_weight (aCons (eVar 13) (aCons (eVar 17) aNil)))) [15, 16, 17])))
    (sRet (eAnd (eBin oEq (eVar 12) (eFz (fDisp aNil))) (eBin oNin (eC (.bl false)) (eVar 14))))))))
def law6 : XS :=
    (sSeq (sIf (tAndF (tE (eBin oLt (eVar 2) (eC (.int 4)))) (tE (eBin oNe (eCall 2 f_least_weights (aCons (eBin oAdd (eVar 2) (eC (.int 1))) (aCons (eVar 3) aNil))) (eBin oAdd (eVar 8) (eTup (aCons (eC (.int 1)) aNil)))))) (sRet (eC (.bl false))) sNil)
    (sSeq (sSet 11 (eCB oTuple (aCons (eFz (fComp (iVal (eVar 3)) (gTp 3 (gsCons (gNm 15) (gsCons (gNm 16) (gsCons (gNm 17) gsNil)))) (fun _ st => .ok true st) (eTup (aCons (eVar 17) (aCons (eVar 16) (aCons (eVar 15) aNil)))) [15, 16, 17])) aNil)))
    law7))
def law5 : XS :=
    (sSeq (sSet 10 (eCB oTuple (aCons (eFz (fComp (iRange1 (aCons (eVar 2) aNil)) (gNm 18) (fun _ st => .ok true st) (eBin oIx (eVar 6) (eIdxT (eVar 4) (eVar 18))) [18])) aNil)))
    (sSeq (sIf (tOrF (tE (eBin oNotN (eCall 3 p_agrees (aCons (eVar 2) (aCons (eVar 5) (aCons (eVar 10) aNil)))) (eC (.bl true)))) (tE (eBin oNe (eCall 2 f_least_weights (aCons (eVar 2) (aCons (eBin oAdd (eVar 3) (eVar 3)) aNil))) (eVar 8)))) (sRet (eC (.bl false))) sNil)
    law6))
def law4 : XS :=
    (sSeq (sIf (tE (eBin oNotN (eVar 7) (eC .non))) (sSeq (sIf (tOrF (tE (eBin oNotN (eCall 3 p_is_balance (aCons (eVar 2) (aCons (eVar 5) (aCons (eVar 7) aNil)))) (eC (.bl true)))) (tE (eBin oNotN (eCall 3 p_is_balance (aCons (eVar 2) (aCons (eBack (eVar 3)) (aCons (eBack (eVar 7)) aNil)))) (eC (.bl true))))) (sRet (eC (.bl false))) sNil)
    (sRet (eAnd (eBin oIsN (eCall 2 p_some_weights (aCons (eVar 2) (aCons (eBin oAdd (eVar 3) (eVar 3)) aNil))) (eC .non)) (eBin oEq (eCall 2 p_clash (aCons (eVar 2) (aCons (eBin oAdd (eVar 3) (eVar 3)) aNil))) (eCall 2 p_clash (aCons (eVar 2) (aCons (eVar 3) aNil))))))) sNil)
    (sSeq (sIf (tOrF (tE (eBin oNe (eCB oSumA (aCons (eVar 8) aNil)) (eCB oSumA (aCons (eVar 9) aNil)))) (tE (eBin oNotN (eCall 3 p_agrees (aCons (eVar 2) (aCons (eBack (eVar 3)) (aCons (eVar 8) aNil)))) (eC (.bl true))))) (sRet (eC (.bl false))) sNil)
    law5))
def law3 : XS :=
    (sSeq (sPar 8 9 (aCons (eCall 2 f_least_weights (aCons (eVar 2) (aCons (eVar 3) aNil))) (aCons (eCall 2 f_least_weights (aCons (eVar 2) (aCons (eVar 5) aNil))) aNil)))
    (sSeq (sIf (tOrF (tE (eBin oNe (eBin oIsN (eVar 8) (eC .non)) (eBin oIsN (eVar 9) (eC .non)))) (tE (eBin oNe (eBin oIsN (eCall 2 p_some_weights (aCons (eVar 2) (aCons (eVar 5) aNil))) (eC .non)) (eBin oIsN (eVar 6) (eC .non))))) (sRet (eC (.bl false))) sNil)
    law4))
def law2 : XS :=
    (sSeq (sSet 5 (eCB oTuple (aCons (eFz (fComp (iVal (eVar 3)) (gTp 3 (gsCons (gNm 15) (gsCons (gNm 16) (gsCons (gNm 17) gsNil)))) (fun _ st => .ok true st) (eTup (aCons (eCall 2 f__law_moved (aCons (eVar 4) (aCons (eVar 15) aNil))) (aCons (eVar 16) (aCons (eCall 2 f__law_moved (aCons (eVar 4) (aCons (eVar 17) aNil))) aNil)))) [15, 16, 17])) aNil)))
    (sSeq (sAsg (eTup (aCons (eCall 2 p_some_weights (aCons (eVar 2) (aCons (eVar 3) aNil))) (aCons (eCall 2 p_balance (aCons (eVar 2) (aCons (eVar 3) aNil))) aNil))) (gTp 2 (gsCons (gNm 6) (gsCons (gNm 7) gsNil))))
    law3))
def law1 : XS :=
    (sSeq (sSet 1 (eCall 1 townF (aCons (eVar 0) aNil)))
    (sSeq (sSet 2 (eBin oAdd (eC (.int 1)) (eCall 3 drawF (aCons (eVar 0) (aCons (eVar 1) (aCons (eC (.int 4)) aNil))))))
    (sSeq (sAsg (eTup (aCons (eCall 4 p__law_told (aCons (eVar 0) (aCons (eVar 1) (aCons (eVar 2) (aCons (eC (.int 4)) aNil))))) (aCons (eCall 3 f__law_order (aCons (eVar 0) (aCons (eVar 1) (aCons (eVar 2) aNil)))) aNil))) (gTp 2 (gsCons (gNm 3) (gsCons (gNm 4) gsNil))))
    law2)))
theorem law_eq : f_law = runF 19 law1 := rfl
theorem sumA_tup (ws : List Int) (st : Store) : oSumA [.tup (nI ws)] st = some (.int ws.sum) := by
  have a : oSum [.tup (nI ws)] st = none := rfl
  have b : oSumT [.tup (nI ws)] st = some (.int ws.sum) := by simp only [oSumT, asInts_nI]; rfl
  simp only [oSumA, cOr, a, b]
theorem toldV_len (t : List Cp) (s : Store) : oLen [toldV t] s = some (.int (t.length : Int)) := by simp [toldV, oLen, asS]
theorem not_fe {k : Nat} {told : List Cp} (f : ¬ Fe k told) : feB k told = false := by
  rw [← feB_iff] at f
  simpa using f
theorem law7_ok {k : Nat} {s : Store} {told : List Cp} {a0 a1 a4 a5 a6 a7 a8 a9 a10 : Option PV} (h1 : 1 ≤ k) (h4 : k ≤ 4) (v : Valid k told) (hl : told.length ≤ 4) :
    Ok (law7 [a0, a1, some (.int (k : Int)), some (toldV told), a4, a5, a6, a7, a8, a9, a10, some (toldV (told.map flp)), none, none, none, none, none, none, none] s) fun fl _ => fl = .rt (.bl true) := by
  have sz := szl
  have vf := flp_v v
  have va := valid_app v vf
  have la : (told ++ told.map flp).length ≤ 8 := by simp; omega
  unfold law7
  rw [ok_seq, ok_set]
  simp only [wkA, List.set_cons_zero, List.set_cons_succ, Option.some.injEq, exists_eq_left', exists_eq_left, List.length_cons, List.length_nil, Nat.reduceAdd, Nat.reduceLeDiff, true_and, and_true, if_true, Bool.not_true, Bool.not_false, Bool.false_eq_true, if_false, decide_eq_true_eq, List.cons.injEq, ↓reduceIte]
  refine Op.of (toldV_len told s) ?_
  refine ⟨⟨by unfold okR; simp; omega, by omega⟩, ?_⟩
  rw [Int.toNat_natCast, rng0]
  simp only [wipeE, List.set_cons_succ, List.set_cons_zero]
  refine ok_fmapE (fun i : Nat => PV.int (i : Int)) (fun i => decide ((told.getD i default).sg = .gt)) (fun i : Nat => PV.int (i : Int)) (fun i hi => ?_) ?_
  · have hi' := List.mem_range.mp hi
    simp only [wkA, List.set_cons_zero, List.set_cons_succ, Option.some.injEq, exists_eq_left', exists_eq_left, List.length_cons, List.length_nil, Nat.reduceAdd, Nat.reduceLeDiff, true_and, and_true, if_true, Bool.not_true, Bool.not_false, Bool.false_eq_true, if_false, decide_eq_true_eq, List.cons.injEq, ↓reduceIte]
    refine Op.of (told_ix told hi' s) (Op.of (cp_ix1 _ s) (Op.of (sg_eq_gt _ _) ?_))
    exact ⟨rfl, fun _ => trivial⟩
  · have en : (((List.range told.length).filter fun i => decide ((told.getD i default).sg = .gt)).map fun i : Nat => PV.int (i : Int)) = natsV ((List.range told.length).filter fun i => decide ((told.getD i default).sg = .gt)) := rfl
    rw [en]
    rw [nxK_nx]
    simp only [wkA, List.set_cons_zero, List.set_cons_succ, Option.some.injEq, exists_eq_left', exists_eq_left, List.length_cons, List.length_nil, Nat.reduceAdd, Nat.reduceLeDiff, true_and, and_true, if_true, Bool.not_true, Bool.not_false, Bool.false_eq_true, if_false, decide_eq_true_eq, List.cons.injEq, ↓reduceIte]
    refine Op.of (add_told told (told.map flp) s (by simp; omega)) ?_
    have pn := part_non (k := k) (told := told ++ told.map flp) h1 (by omega) (by omega)
    refine (some_weights_sp h1 (by omega) va la s).mono fun x s1 hv => ?_
    obtain ⟨rfl, K1⟩ := hv
    rw [nxK_nx]
    simp only [wkA, List.set_cons_zero, List.set_cons_succ, Option.some.injEq, exists_eq_left', exists_eq_left, List.length_cons, List.length_nil, Nat.reduceAdd, Nat.reduceLeDiff, true_and, and_true, if_true, Bool.not_true, Bool.not_false, Bool.false_eq_true, if_false, decide_eq_true_eq, List.cons.injEq, ↓reduceIte]
    refine Op.of (isN_iff _ _) ?_
    by_cases f : Fe k (told ++ told.map flp)
    · have nn : ¬ part 1 (solV k (told ++ told.map flp)) = .non := fun z => pn.1.mp z f
      simp only [nn, decide_false, Bool.false_eq_true, if_false]
      obtain ⟨ws, es, wl, wp, wa⟩ := sol_yes h1 (by omega) (by omega : (told ++ told.map flp).length ≤ 9) f
      have e1 : part 1 (solV k (told ++ told.map flp)) = tI ws := by rw [es]; rfl
      have tr := turned v ((ag_iff ws va).mpr wa)
      rw [e1]
      rw [nxK_nx]
      simp only [wkA, List.set_cons_zero, List.set_cons_succ, Option.some.injEq, exists_eq_left', exists_eq_left, List.length_cons, List.length_nil, Nat.reduceAdd, Nat.reduceLeDiff, true_and, and_true, if_true, Bool.not_true, Bool.not_false, Bool.false_eq_true, if_false, decide_eq_true_eq, List.cons.injEq, ↓reduceIte]
      refine ⟨_, rfl, ?_⟩
      simp only [wipeE, List.set_cons_succ, List.set_cons_zero]
      refine ok_mapE cpV (fun _ => PV.bl true) (fun c hc => ?_) ?_
      · unfold cpV
        simp only [wkA, List.set_cons_zero, List.set_cons_succ, Option.some.injEq, exists_eq_left', exists_eq_left, List.length_cons, List.length_nil, Nat.reduceAdd, Nat.reduceLeDiff, true_and, and_true, if_true, Bool.not_true, Bool.not_false, Bool.false_eq_true, if_false, decide_eq_true_eq, List.cons.injEq, ↓reduceIte]
        have q1 : p__law_weight [tI ws, lotV c.one] s1 = .ok (.int (lw ws c.one)) s1 := weight_sp (fun x hx => by rw [wl]; exact (v c hc).1.2 x hx) s1
        have q2 : p__law_weight [tI ws, lotV c.other] s1 = .ok (.int (lw ws c.other)) s1 := weight_sp (fun x hx => by rw [wl]; exact (v c hc).2.2 x hx) s1
        rw [Ok.eq q1, Ok.eq q2, (tr c hc).2]
        exact Op.of (oEq_self (pl_int _) _) ⟨rfl, rfl⟩
      · rw [nxK_nx]
        simp only [wkA, List.set_cons_zero, List.set_cons_succ, Option.some.injEq, exists_eq_left', exists_eq_left, List.length_cons, List.length_nil, Nat.reduceAdd, Nat.reduceLeDiff, true_and, and_true, if_true, Bool.not_true, Bool.not_false, Bool.false_eq_true, if_false, decide_eq_true_eq, List.cons.injEq, ↓reduceIte]
        have e0 : ((List.range told.length).filter fun i => decide ((told.getD i default).sg = .gt)) = [] := by
          rw [List.filter_eq_nil_iff]
          intro i hi
          have := (tr _ (getD_mem (List.mem_range.mp hi))).1
          simpa using this
        rw [e0]
        refine Op.of (z := .bl true) (by kernel_rfl) ?_
        simp only [if_true]
        refine Op.of (z := .bl true) ?_ rfl
        have all1 : ∀ l : List Cp, ((l.map fun _ => PV.bl true).any fun z => peq z (.bl false)) = false ∧ (l.map fun _ => PV.bl true).all flatP = true := fun l => by
          induction l with
          | nil => exact ⟨rfl, rfl⟩
          | cons a r ih => exact ⟨by rw [List.map_cons, List.any_cons, ih.1]; rfl, by rw [List.map_cons, List.all_cons, ih.2]; rfl⟩
        obtain ⟨x1, x2⟩ := all1 told
        unfold oNin oOr
        simp only [oNinF, asS, asL, x1, x2]
        rfl
    · have nn : part 1 (solV k (told ++ told.map flp)) = .non := pn.1.mpr f
      simp only [nn, decide_true, if_true]
theorem law6_ok {k : Nat} {s : Store} {told : List Cp} {t i : Nat} {w : List Int} {a0 a1 a4 a5 a6 a7 a9 a10 : Option PV} (h1 : 1 ≤ k) (h4 : k ≤ 4) (v : Valid k told) (hl : told.length ≤ 4) (L : Lst k told t i w) (f : Fe k told) :
    Ok (law6 [a0, a1, some (.int (k : Int)), some (toldV told), a4, a5, a6, a7, some (tI w), a9, a10, none, none, none, none, none, none, none, none] s) fun fl _ => fl = .rt (.bl true) := by
  have sz := szl
  have fin : ∀ s, Ok (sSeq (sSet 11 (eCB oTuple (aCons (eFz (fComp (iVal (eVar 3)) (gTp 3 (gsCons (gNm 15) (gsCons (gNm 16) (gsCons (gNm 17) gsNil)))) (fun _ st => .ok true st) (eTup (aCons (eVar 17) (aCons (eVar 16) (aCons (eVar 15) aNil)))) [15, 16, 17])) aNil))) law7 [a0, a1, some (.int (k : Int)), some (toldV told), a4, a5, a6, a7, some (tI w), a9, a10, none, none, none, none, none, none, none, none] s) fun fl _ => fl = .rt (.bl true) := fun s => by
    simp only [wkA, List.set_cons_zero, List.set_cons_succ, Option.some.injEq, exists_eq_left', exists_eq_left, List.length_cons, List.length_nil, Nat.reduceAdd, Nat.reduceLeDiff, true_and, and_true, if_true, Bool.not_true, Bool.not_false, Bool.false_eq_true, if_false, decide_eq_true_eq, List.cons.injEq, ↓reduceIte]
    refine ⟨_, rfl, ?_⟩
    simp only [wipeE, List.set_cons_succ, List.set_cons_zero]
    refine ok_mapE cpV (fun c => cpV (flp c)) (fun c hc => ?_) ?_
    · unfold cpV
      simp only [wkA, List.set_cons_zero, List.set_cons_succ, Option.some.injEq, exists_eq_left', exists_eq_left, List.length_cons, List.length_nil, Nat.reduceAdd, Nat.reduceLeDiff, true_and, and_true, if_true, Bool.not_true, Bool.not_false, Bool.false_eq_true, if_false, decide_eq_true_eq, List.cons.injEq, ↓reduceIte]
      rfl
    · refine Op.of (z := toldV (told.map flp)) (by unfold toldV; rw [List.map_map]; rfl) ?_
      rw [nxK_nx]
      exact law7_ok h1 h4 v hl
  unfold law6
  rw [ok_seq, ok_if]
  simp only [wkA, List.set_cons_zero, List.set_cons_succ, Option.some.injEq, exists_eq_left', exists_eq_left, List.length_cons, List.length_nil, Nat.reduceAdd, Nat.reduceLeDiff, true_and, and_true, if_true, Bool.not_true, Bool.not_false, Bool.false_eq_true, if_false, decide_eq_true_eq, List.cons.injEq, ↓reduceIte]
  by_cases c : k < 4
  · rw [if_pos (by omega)]
    have e1 : (k : Int) + 1 = ((k + 1 : Nat) : Int) := by omega
    rw [e1, e_lw]
    refine (least_sp (q := 4) (by omega) (by omega) (by omega) (valid_more v) (by omega) s).mono fun x s1 hv => ?_
    obtain ⟨L1, K1⟩ := hv
    obtain ⟨i', L2⟩ := lst_more h1 v L
    have f2 : Fe (k + 1) told := (fe_list (by omega) (by omega) (valid_more v)).mpr ⟨w ++ [1], by simp [(L.len h1).1], fun x hx => by
      rcases List.mem_append.mp hx with z | z
      · exact (L.len h1).2.1 x z
      · simp at z; omega, by rw [ag_more (L.len h1).1 1 v]; exact L.ag⟩
    rw [LeastV.same L1 (.inr ⟨f2, _, _, _, rfl, L2⟩)]
    have ad : oAdd (tI w) (.tup [.int 1]) s1 = some (tI (w ++ [1])) := by
      unfold tI
      rw [add_tup _ _ _ (by simp [(L.len h1).1]; omega)]
      congr 2
      simp
    refine Op.of ad (Op.of (oNe_self (pl_ints _) _) ?_)
    simp only [Bool.false_eq_true, if_false]
    rw [nxK_nx]
    exact fin s1
  · rw [if_neg (by omega)]
    rw [nxK_nx]
    exact fin s
theorem isN_b (p : PV) (b : Bool) (h : p = .non ↔ b = true) (s : Store) : oIsN p .non s = some (.bl b) := by
  rw [isN_iff]
  congr 2
  open Classical in
  cases b with
  | true => exact decide_eq_true (h.mpr rfl)
  | false => exact decide_eq_false fun z => by have := h.mp z; cases this
theorem ints_nat (σ : List Nat) : asInts (natsV σ) = some (σ.map fun n : Nat => (n : Int)) := by
  have := asInts_nI (σ.map fun n : Nat => (n : Int))
  unfold nI at this
  rw [List.map_map] at this
  exact this
theorem idx_nat (j : Nat) : ∀ σ : List Nat, (σ.map fun n : Nat => (n : Int)).idxOf (j : Int) = σ.idxOf j
  | [] => rfl
  | a :: r => by
    rw [List.map_cons, List.idxOf_cons, List.idxOf_cons, idx_nat j r]
    have : ((a : Int) == (j : Int)) = (a == j) := by
      by_cases e : a = j
      · subst e; simp
      · have : ¬ (a : Int) = (j : Int) := by omega
        rw [beq_eq_false_iff_ne.mpr e, beq_eq_false_iff_ne.mpr this]
    rw [this]
theorem law5_ok {k N : Nat} {σ : List Nat} {s : Store} {told : List Cp} {t i : Nat} {w ws : List Int} {a0 a1 a7 a9 : Option PV} (h1 : 1 ≤ k) (h4 : k ≤ 4) (v : Valid k told) (hl : told.length ≤ 4) (L : Lst k told t i w) (f : Fe k told) (P : Pm k σ) (hN : s[N]? = some (.tpl (natsV σ)))
    (wl : ws.length = k) (wp : ∀ x, x ∈ ws → 1 ≤ x) (wa : agB ws told = true) :
    Ok (law5 [a0, a1, some (.int (k : Int)), some (toldV told), some (.own N), some (toldV (mvT σ told)), some (tI ws), a7, some (tI w), a9, none, none, none, none, none, none, none, none, none] s) fun fl _ => fl = .rt (.bl true) := by
  have sz := szl
  have g := fw_goes P (ws := ws)
  have fl : (fw k σ ws).length = k := by simp [fw]
  have fp := (goes_pos P wl fl g).mp wp
  have ag' : agB (fw k σ ws) (mvT σ told) = true := by rw [ag_mv g v]; exact wa
  unfold law5
  rw [ok_seq, ok_set]
  simp only [wkA, List.set_cons_zero, List.set_cons_succ, Option.some.injEq, exists_eq_left', exists_eq_left, List.length_cons, List.length_nil, Nat.reduceAdd, Nat.reduceLeDiff, true_and, and_true, if_true, Bool.not_true, Bool.not_false, Bool.false_eq_true, if_false, decide_eq_true_eq, List.cons.injEq, ↓reduceIte]
  refine ⟨⟨by unfold okR; simp; omega, by omega⟩, ?_⟩
  rw [Int.toNat_natCast, rng0]
  simp only [wipeE, List.set_cons_succ, List.set_cons_zero]
  refine ok_mapE (fun i : Nat => PV.int (i : Int)) (fun j => PV.int (at0 ws (σ.idxOf j))) (fun j hj => ?_) ?_
  · have hj' := List.mem_range.mp hj
    simp only [wkA, List.set_cons_zero, List.set_cons_succ, Option.some.injEq, exists_eq_left', exists_eq_left, List.length_cons, List.length_nil, Nat.reduceAdd, Nat.reduceLeDiff, true_and, and_true, if_true, Bool.not_true, Bool.not_false, Bool.false_eq_true, if_false, decide_eq_true_eq, List.cons.injEq, ↓reduceIte]
    refine ok_idxT ?_
    simp only [wkA, List.set_cons_zero, List.set_cons_succ, Option.some.injEq, exists_eq_left', exists_eq_left, List.length_cons, List.length_nil, Nat.reduceAdd, Nat.reduceLeDiff, true_and, and_true, if_true, Bool.not_true, Bool.not_false, Bool.false_eq_true, if_false, decide_eq_true_eq, List.cons.injEq, ↓reduceIte]
    refine ⟨natsV σ, σ.map fun n : Nat => (n : Int), tpl_at hN, ?_, ?_⟩
    · exact ints_nat σ
    · refine ⟨_, _, rfl, tpl_at hN, ints_nat σ, List.mem_map.mpr ⟨j, P.mem_iff.mpr hj, rfl⟩, ?_⟩
      rw [idx_nat]
      have il : σ.idxOf j < ws.length := by
        rw [wl, ← P.len]
        exact List.idxOf_lt_length_of_mem (P.mem_iff.mpr hj)
      refine Op.of (z := .int (at0 ws (σ.idxOf j))) ?_ rfl
      exact oIxT_nat s (by rw [nI, List.getElem?_map, List.getElem?_eq_getElem il]; simp [at0, List.getD_eq_getElem?_getD, il])
  · have e10 : ((List.range k).map fun j => PV.int (at0 ws (σ.idxOf j))) = nI (fw k σ ws) := by simp [nI, fw, List.map_map, Function.comp]
    rw [e10]
    refine Op.of (z := tI (fw k σ ws)) rfl ?_
    rw [nxK_nx]
    simp only [wkA, List.set_cons_zero, List.set_cons_succ, Option.some.injEq, exists_eq_left', exists_eq_left, List.length_cons, List.length_nil, Nat.reduceAdd, Nat.reduceLeDiff, true_and, and_true, if_true, Bool.not_true, Bool.not_false, Bool.false_eq_true, if_false, decide_eq_true_eq, List.cons.injEq, ↓reduceIte]
    have c1 : p_agrees [.int (k : Int), toldV (mvT σ told), tI (fw k σ ws)] s = .ok (.bl (agB (fw k σ ws) (mvT σ told))) s := by
      have := agrees_sp (ws := fw k σ ws) (told := mvT σ told) (by omega) (by omega) (fun x hx => by have := fp x hx; omega) (by rw [fl]; exact mvT_v P v) (by simp [mvT]; omega) s
      rw [fl] at this
      exact this
    rw [Ok.eq c1, ag']
    refine Op.of (z := .bl false) (by kernel_rfl) ?_
    simp only [Bool.false_eq_true, if_false]
    refine Op.of (add_told told told s (by omega)) ?_
    rw [e_lw]
    refine (least_sp (q := 4) h1 h4 h4 (valid_app v v) (by simp; omega) s).mono fun x s1 hv => ?_
    obtain ⟨L1, K1⟩ := hv
    rw [LeastV.same L1 (.inr ⟨fe_two.mpr f, _, _, _, rfl, lst_two L⟩)]
    refine Op.of (oNe_self (pl_ints _) _) ?_
    simp only [Bool.false_eq_true, if_false]
    rw [nxK_nx]
    exact law6_ok h1 h4 v hl L f
theorem mvT_l (σ : List Nat) (told : List Cp) : (mvT σ told).length = told.length := by simp [mvT]
theorem toldV_rev (told : List Cp) : toldV told.reverse = .tup (told.map cpV).reverse := by unfold toldV; rw [List.map_reverse]
theorem tI_rev (vs : List Int) : tI vs.reverse = .tup (nI vs).reverse := by unfold tI nI; rw [List.map_reverse]
theorem balB_t {k : Nat} {told : List Cp} {vs : List Int} (b : Bal k told (at0 vs)) : balB k told vs = true := by
  unfold balB
  exact @decide_eq_true _ (Classical.propDecidable _) b
theorem rev_v {k : Nat} {told : List Cp} (v : Valid k told) : Valid k told.reverse := fun c hc => v c (List.mem_reverse.mp hc)
theorem law4_ok {k N : Nat} {σ : List Nat} {s : Store} {told : List Cp} {lv lv' : PV} {a0 a1 : Option PV} (h1 : 1 ≤ k) (h4 : k ≤ 4) (v : Valid k told) (hl : told.length ≤ 4) (L : LeastV k told lv) (L' : LeastV k (mvT σ told) lv') (P : Pm k σ) (hN : s[N]? = some (.tpl (natsV σ))) :
    Ok (law4 [a0, a1, some (.int (k : Int)), some (toldV told), some (.own N), some (toldV (mvT σ told)), some (part 1 (solV k told)), some (part 0 (solV k told)), some lv, some lv', none, none, none, none, none, none, none, none, none] s) fun fl _ => fl = .rt (.bl true) := by
  have sz := szl
  have pn := part_non (k := k) (told := told) h1 (by omega) (by omega)
  have mv := mvT_v P v
  have ml := mvT_l σ told
  unfold law4
  rw [ok_seq, ok_if]
  simp only [wkA, List.set_cons_zero, List.set_cons_succ, Option.some.injEq, exists_eq_left', exists_eq_left, List.length_cons, List.length_nil, Nat.reduceAdd, Nat.reduceLeDiff, true_and, and_true, if_true, Bool.not_true, Bool.not_false, Bool.false_eq_true, if_false, decide_eq_true_eq, List.cons.injEq, ↓reduceIte]
  refine Op.of (notN_iff _ _) ?_
  by_cases f : Fe k told
  · have e7 : part 0 (solV k told) = .non := pn.2.mpr f
    simp only [e7, decide_true, Bool.not_true, Bool.false_eq_true, if_false]
    obtain ⟨ws, es, wl, wp, wa⟩ := sol_yes h1 (by omega) (by omega : told.length ≤ 9) f
    have e1 : part 1 (solV k told) = tI ws := by rw [es]; rfl
    rcases L with ⟨n, _⟩ | ⟨_, t, i, w, rfl, L⟩
    · exact absurd f n
    rcases L' with ⟨n, _⟩ | ⟨_, t', i', w', rfl, L'⟩
    · exact absurd ((fe_mv P h1 h4 v).mpr f) n
    have sm := least_mv P h1 v L L'
    have wpos : ∀ x, x ∈ ws → 1 ≤ x := fun x hx => by
      obtain ⟨j, hj, e⟩ := List.getElem_of_mem hx
      have := wp j (by omega)
      rw [show at0 ws j = x by simp [at0, List.getD_eq_getElem?_getD, hj, e]] at this
      omega
    rw [nxK_nx]
    simp only [wkA, List.set_cons_zero, List.set_cons_succ, Option.some.injEq, exists_eq_left', exists_eq_left, List.length_cons, List.length_nil, Nat.reduceAdd, Nat.reduceLeDiff, true_and, and_true, if_true, Bool.not_true, Bool.not_false, Bool.false_eq_true, if_false, decide_eq_true_eq, List.cons.injEq, ↓reduceIte]
    refine Op.of (sumA_tup w s) (Op.of (sumA_tup w' s) ?_)
    rw [sm]
    refine Op.of (oNe_self (pl_int _) _) ?_
    simp only [Bool.false_eq_true, if_false]
    refine ok_back ?_
    simp only [wkA, List.set_cons_zero, List.set_cons_succ, Option.some.injEq, exists_eq_left', exists_eq_left, List.length_cons, List.length_nil, Nat.reduceAdd, Nat.reduceLeDiff, true_and, and_true, if_true, Bool.not_true, Bool.not_false, Bool.false_eq_true, if_false, decide_eq_true_eq, List.cons.injEq, ↓reduceIte]
    refine ⟨_, rfl, ?_⟩
    rw [← toldV_rev]
    have wlen := (L.len h1).1
    have c1 : p_agrees [.int (k : Int), toldV told.reverse, tI w] s = .ok (.bl (agB w told.reverse)) s := by
      have := agrees_sp (ws := w) (told := told.reverse) (by omega) (by omega) (fun x hx => by have := (L.len h1).2.1 x hx; omega) (by rw [wlen]; exact rev_v v) (by simp; omega) s
      rw [wlen] at this
      exact this
    rw [Ok.eq c1, ag_rev, L.ag]
    refine Op.of (z := .bl false) (by kernel_rfl) ?_
    simp only [Bool.false_eq_true, if_false]
    rw [nxK_nx]
    rw [e1]
    exact law5_ok h1 h4 v hl L f P hN wl wpos ((ag_iff ws v).mpr wa)
  · have e7 : ¬ part 0 (solV k told) = .non := fun z => f (pn.2.mp z)
    simp only [e7, decide_false, Bool.not_false, if_true]
    obtain ⟨vs, es, vl, vb⟩ := sol_no h1 (by omega) (by omega : told.length ≤ 9) f
    have e0 : part 0 (solV k told) = tI vs := by rw [es]; rfl
    rw [e0]
    have c1 : p_is_balance [.int (k : Int), toldV (mvT σ told), tI vs] s = .ok (.bl (balB k (mvT σ told) vs)) s := is_balance_sp (vs := vs) h1 (by omega) mv (by omega) (by omega) s
    rw [Ok.eq c1, balB_t (bal_mv P v vb)]
    refine Op.of (z := .bl false) (by kernel_rfl) ?_
    simp only [Bool.false_eq_true, if_false]
    refine ok_back ?_
    simp only [wkA, List.set_cons_zero, List.set_cons_succ, Option.some.injEq, exists_eq_left', exists_eq_left, List.length_cons, List.length_nil, Nat.reduceAdd, Nat.reduceLeDiff, true_and, and_true, if_true, Bool.not_true, Bool.not_false, Bool.false_eq_true, if_false, decide_eq_true_eq, List.cons.injEq, ↓reduceIte]
    refine ⟨_, rfl, ?_⟩
    refine ok_back ?_
    simp only [wkA, List.set_cons_zero, List.set_cons_succ, Option.some.injEq, exists_eq_left', exists_eq_left, List.length_cons, List.length_nil, Nat.reduceAdd, Nat.reduceLeDiff, true_and, and_true, if_true, Bool.not_true, Bool.not_false, Bool.false_eq_true, if_false, decide_eq_true_eq, List.cons.injEq, ↓reduceIte]
    refine ⟨_, rfl, ?_⟩
    rw [← toldV_rev, ← tI_rev]
    have c2 : p_is_balance [.int (k : Int), toldV told.reverse, tI vs.reverse] s = .ok (.bl (balB k told.reverse vs.reverse)) s := is_balance_sp (vs := vs.reverse) h1 (by omega) (rev_v v) (by simp; omega) (by simp [vl]) s
    rw [Ok.eq c2, balB_t (bal_rev vl vb)]
    refine Op.of (z := .bl false) (by kernel_rfl) ?_
    simp only [Bool.false_eq_true, if_false]
    rw [nxK_nx]
    simp only [wkA, List.set_cons_zero, List.set_cons_succ, Option.some.injEq, exists_eq_left', exists_eq_left, List.length_cons, List.length_nil, Nat.reduceAdd, Nat.reduceLeDiff, true_and, and_true, if_true, Bool.not_true, Bool.not_false, Bool.false_eq_true, if_false, decide_eq_true_eq, List.cons.injEq, ↓reduceIte]
    have vv := valid_app v v
    have ll : (told ++ told).length ≤ 8 := by simp; omega
    have pn2 := part_non (k := k) (told := told ++ told) h1 (by omega) (by omega)
    refine Op.of (add_told told told s (by omega)) ?_
    refine (some_weights_sp h1 (by omega) vv ll s).mono fun x s1 hv => ?_
    obtain ⟨rfl, K1⟩ := hv
    rw [pn2.1.mpr fun z => f (fe_two.mp z)]
    refine Op.of (z := .bl true) (by kernel_rfl) ?_
    simp only [if_true]
    refine Op.of (add_told told told s1 (by omega)) ?_
    refine (clash_sp h1 (by omega) vv ll s1).mono fun x s2 hv => ?_
    obtain ⟨rfl, K2⟩ := hv
    refine (clash_sp h1 (by omega) v (by omega) s2).mono fun x s3 hv => ?_
    obtain ⟨rfl, K3⟩ := hv
    rw [clash_two hl]
    exact Op.of (oEq_self (pl_opt _) _) rfl
theorem oNe_bb (b : Bool) (s : Store) : oNe (.bl b) (.bl b) s = some (.bl false) := oNe_self (pl_bl _) s
theorem law3_ok {k N : Nat} {σ : List Nat} {s : Store} {told : List Cp} {lv lv' : PV} {a0 a1 : Option PV} (h1 : 1 ≤ k) (h4 : k ≤ 4) (v : Valid k told) (hl : told.length ≤ 4) (P : Pm k σ) (hN : s[N]? = some (.tpl (natsV σ))) :
    Ok (law3 [a0, a1, some (.int (k : Int)), some (toldV told), some (.own N), some (toldV (mvT σ told)), some (part 1 (solV k told)), some (part 0 (solV k told)), none, none, none, none, none, none, none, none, none, none, none] s) fun fl _ => fl = .rt (.bl true) := by
  have sz := szl
  have mv := mvT_v P v
  have ml := mvT_l σ told
  have fm := fe_mv P h1 h4 v
  unfold law3
  rw [e_lw, ok_seq, ok_par]
  simp only [wkA, List.set_cons_zero, List.set_cons_succ, Option.some.injEq, exists_eq_left', exists_eq_left, List.length_cons, List.length_nil, Nat.reduceAdd, Nat.reduceLeDiff, true_and, and_true, if_true, Bool.not_true, Bool.not_false, Bool.false_eq_true, if_false, decide_eq_true_eq, List.cons.injEq, ↓reduceIte]
  refine (least_sp (q := 4) h1 h4 h4 v (by omega) s).mono fun x s1 hv => ?_
  obtain ⟨L, K1⟩ := hv
  refine (least_sp (q := 4) h1 h4 h4 mv (by omega) s1).mono fun y s2 hv => ?_
  obtain ⟨L', K2⟩ := hv
  rw [nxK_nx]
  simp only [wkA, List.set_cons_zero, List.set_cons_succ, Option.some.injEq, exists_eq_left', exists_eq_left, List.length_cons, List.length_nil, Nat.reduceAdd, Nat.reduceLeDiff, true_and, and_true, if_true, Bool.not_true, Bool.not_false, Bool.false_eq_true, if_false, decide_eq_true_eq, List.cons.injEq, ↓reduceIte]
  have b1 : x = .non ↔ (!feB k told) = true := by
    rcases L with ⟨n, rfl⟩ | ⟨f, t, i, w, rfl, _⟩
    · rw [not_fe n]; simp
    · rw [feB_iff.mpr f]; exact ⟨fun z => (by cases z), fun z => (by cases z)⟩
  have b2 : y = .non ↔ (!feB k told) = true := by
    rcases L' with ⟨n, rfl⟩ | ⟨f, t, i, w, rfl, _⟩
    · rw [not_fe fun z => n (fm.mpr z)]; simp
    · rw [feB_iff.mpr (fm.mp f)]; exact ⟨fun z => (by cases z), fun z => (by cases z)⟩
  refine Op.of (isN_b _ _ b1 s2) (Op.of (isN_b _ _ b2 s2) (Op.of (oNe_bb _ _) ?_))
  simp only [Bool.false_eq_true, if_false]
  refine (some_weights_sp h1 (by omega) mv (by omega) s2).mono fun z s3 hv => ?_
  obtain ⟨rfl, K3⟩ := hv
  have pn := part_non (k := k) (told := told) h1 (by omega) (by omega)
  have pm := part_non (k := k) (told := mvT σ told) h1 (by omega) (by omega)
  have b3 : part 1 (solV k (mvT σ told)) = .non ↔ (!feB k told) = true := by
    rw [pm.1, fm, ← feB_iff]; simp
  have b4 : part 1 (solV k told) = .non ↔ (!feB k told) = true := by
    rw [pn.1, ← feB_iff]; simp
  refine Op.of (isN_b _ _ b3 s3) (Op.of (isN_b _ _ b4 s3) (Op.of (oNe_bb _ _) ?_))
  simp only [Bool.false_eq_true, if_false]
  rw [nxK_nx]
  exact law4_ok h1 h4 v hl L L' P (keeps_get ((K1.trans K2).trans K3) hN (by simp))
theorem law2_ok {k N : Nat} {σ : List Nat} {s : Store} {told : List Cp} {a0 a1 : Option PV} (h1 : 1 ≤ k) (h4 : k ≤ 4) (v : Valid k told) (hl : told.length ≤ 4) (P : Pm k σ) (hN : s[N]? = some (.tpl (natsV σ))) :
    Ok (law2 [a0, a1, some (.int (k : Int)), some (toldV told), some (.own N), none, none, none, none, none, none, none, none, none, none, none, none, none, none] s) fun fl _ => fl = .rt (.bl true) := by
  have sz := szl
  unfold law2
  rw [ok_seq, ok_set]
  simp only [wkA, List.set_cons_zero, List.set_cons_succ, Option.some.injEq, exists_eq_left', exists_eq_left, List.length_cons, List.length_nil, Nat.reduceAdd, Nat.reduceLeDiff, true_and, and_true, if_true, Bool.not_true, Bool.not_false, Bool.false_eq_true, if_false, decide_eq_true_eq, List.cons.injEq, ↓reduceIte]
  refine ⟨_, rfl, ?_⟩
  simp only [wipeE, List.set_cons_succ, List.set_cons_zero]
  refine ok_mapE cpV (fun c => cpV (mvC σ c)) (fun c hc => ?_) ?_
  · unfold cpV
    simp only [wkA, List.set_cons_zero, List.set_cons_succ, Option.some.injEq, exists_eq_left', exists_eq_left, List.length_cons, List.length_nil, Nat.reduceAdd, Nat.reduceLeDiff, true_and, and_true, if_true, Bool.not_true, Bool.not_false, Bool.false_eq_true, if_false, decide_eq_true_eq, List.cons.injEq, ↓reduceIte]
    rw [Ok.eq (moved_sp hN P (v c hc).1), Ok.eq (moved_sp hN P (v c hc).2)]
    exact ⟨rfl, rfl⟩
  · refine Op.of (z := toldV (mvT σ told)) (by unfold toldV mvT; rw [List.map_map]; rfl) ?_
    rw [nxK_nx]
    simp only [wkA, List.set_cons_zero, List.set_cons_succ, Option.some.injEq, exists_eq_left', exists_eq_left, List.length_cons, List.length_nil, Nat.reduceAdd, Nat.reduceLeDiff, true_and, and_true, if_true, Bool.not_true, Bool.not_false, Bool.false_eq_true, if_false, decide_eq_true_eq, List.cons.injEq, ↓reduceIte]
    refine (some_weights_sp h1 (by omega) v (by omega) s).mono fun x s1 hv => ?_
    obtain ⟨rfl, K1⟩ := hv
    refine (balance_sp h1 (by omega) v (by omega) s1).mono fun x s2 hv => ?_
    obtain ⟨rfl, K2⟩ := hv
    rw [nxK_nx]
    exact law3_ok (lv := .non) (lv' := .non) h1 h4 v hl P (keeps_get (K1.trans K2) hN (by simp))
theorem pure_law (ns : List Int) (hns : ns.length ≤ 63) : ∃ st, f_law [.scr ns] [] = .ok (.bl true) st := by
  have sz := szl
  have main : Ok (f_law [.scr ns] []) fun v _ => v = .bl true := by
    rw [law_eq]
    unfold runF law1
    rw [ok_retF]
    simp only [env0, List.map_cons, List.map_nil, List.length_cons, List.length_nil, Nat.reduceAdd, Nat.reduceSub, List.reduceReplicate, List.cons_append, List.nil_append]
    try simp only [wkA, List.set_cons_zero, List.set_cons_succ, Option.some.injEq, exists_eq_left', exists_eq_left, List.length_cons, List.length_nil, Nat.reduceAdd, Nat.reduceLeDiff, true_and, and_true, if_true, Bool.not_true, Bool.not_false, Bool.false_eq_true, if_false, decide_eq_true_eq, List.cons.injEq, ↓reduceIte]
    rw [Ok.eq (town_ok ns hns)]
    rw [nxK_nx]
    have T0 : Tn ns 0 [.lst ((0 :: ns).map PV.int)] := ⟨_, rfl, 0, ns, rfl, rfl, by omega, by omega⟩
    simp only [wkA, List.set_cons_zero, List.set_cons_succ, Option.some.injEq, exists_eq_left', exists_eq_left, List.length_cons, List.length_nil, Nat.reduceAdd, Nat.reduceLeDiff, true_and, and_true, if_true, Bool.not_true, Bool.not_false, Bool.false_eq_true, if_false, decide_eq_true_eq, List.cons.injEq, ↓reduceIte]
    refine (draw_sp T0 (by omega) hns (by omega) (by omega)).mono fun v s1 hv => ?_
    obtain ⟨d, rfl, d0, d3, T1, K0⟩ := hv
    obtain ⟨k, hk⟩ : ∃ k : Nat, 1 + d = (k : Int) := ⟨(1 + d).toNat, by omega⟩
    have h1 : 1 ≤ k := by omega
    have h4 : k ≤ 4 := by omega
    simp only [oAdd_int, op_some]
    rw [hk]
    rw [nxK_nx]
    simp only [wkA, List.set_cons_zero, List.set_cons_succ, Option.some.injEq, exists_eq_left', exists_eq_left, List.length_cons, List.length_nil, Nat.reduceAdd, Nat.reduceLeDiff, true_and, and_true, if_true, Bool.not_true, Bool.not_false, Bool.false_eq_true, if_false, decide_eq_true_eq, List.cons.injEq, ↓reduceIte]
    have tl := told_sp (k := k) (most := 4) T1 (by omega) hns h1 (by omega) (by decide)
    refine tl.mono fun v s2 hv => ?_
    obtain ⟨told, rfl, hl, hv, T2, K2⟩ := hv
    refine (order_sp T2 (by omega) hns h4).mono fun v s3 h => ?_
    obtain ⟨σ, N, rfl, hN, P, T3, K3⟩ := h
    rw [nxK_nx]
    refine (law2_ok h1 h4 hv hl P hN).mono fun fl s h => ?_
    subst h
    rfl
  obtain ⟨v, s, e, rfl⟩ := main
  exact ⟨s, e⟩
end Gk13
end
section
set_option Elab.async false
set_option linter.all false
open PySem PySem.W PySem.Calls PyProof.Rows
set_option maxRecDepth 100000 in
set_option maxHeartbeats 0 in
theorem PySem.Challenge.cw_lotscales_k13_weights_renamed_holds : PySem.Challenge.rw_lotscales_k13_weights_renamed.Holds := by
  w_on; o_law
  refine HandSHeadRun.head_any (r := OpenLaw.row PySem.Challenge.rw_lotscales_k13_weights_renamed) (q := view (OpenLaw.row PySem.Challenge.rw_lotscales_k13_weights_renamed).prog [50]) (H := Gk13.hk) (ob := Gk13.ob) (M := 6000) (loose := Gk13.loose) (d := HandSHeadRun.topDef (OpenLaw.row PySem.Challenge.rw_lotscales_k13_weights_renamed).prog 50) (kwd := [])
    (fun s => Lq.obM_eq s) (by kernel_rfl) (fun s => by kernel_rfl) Gk13.run (by kernel_rfl) (by kernel_rfl) (by kernel_rfl) (by rfl) (by first | assumption | decide +kernel) (by decide +kernel) ⟨rfl, rfl, rfl, rfl, rfl, by decide +kernel⟩ ?hw ?hc
  case hw => w_witness2
  case hc =>
    refine L2.walk_ofE (l := PySem.Challenge.rw_lotscales_k13_weights_renamed) (n := 63) (k := 8) (x := "script") (CX := L2.CX0) rfl (by decide) (by kernel_rfl) ⟨rfl, by decide, by decide⟩ ?F (fun _ _ _ _ z => z)
    intro w mg fa h Y Gn hmg0
    obtain ⟨K, KX, c, e⟩ := Y
    have hmg : mg ("law" : PySem.Str) = some (.ref fa) := by
      have e : (HandSHeadRun.topDef (OpenLaw.row PySem.Challenge.rw_lotscales_k13_weights_renamed).prog 50).name = ("law" : PySem.Str) := by kernel_rfl
      rw [← e]
      exact hmg0
    have G := Lq.fx_of (q := Gk13.qs) KX Gn c e
    obtain ⟨fd, F⟩ := G.def_ 41 (d := Gk13.d41) rfl rfl rfl
    have b := L2.FunD.bindsA (ps := ["script"]) F fun _ _ _ _ _ _ us hl => match us, hl with | [_], _ => rfl
    have ef := hmg.symm.trans (G.glo 41 rfl)
    cases ef
    exact ⟨K, fd, fun vs H Q _ => Lq.spF K mg 1 Gk13.f_law vs H Q L2.E0, KX, fun s v => b s [v] rfl, fun H a ns hl _ hS => Lq.law_sp hS (Nat.le_trans hl (by decide)) (Gk13.pure_law ns hl), fun base _ _ => Lq.fn_calm (Gk13.law_fn G F)⟩
end
